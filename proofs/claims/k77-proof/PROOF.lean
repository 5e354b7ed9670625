import PyProof.Rows.All
import Wide.All
import OpenK.AllK
import Wide.FinOn
import HandS.ForMost
import HandS.ForExc
import HandS.CallSlots
import HandS.Wide
import HandS.Text
import HandS.Strs
import KE.DataEq
import KE.DataCmp
import KE.DataMinMax
import KE.DataFind
import KE.DataIsa
import KE.DataAny
import KE.SortData
import KE.DatumIndex
import HandS.WordsExc
import HandS.TryMany
import HandS.Defaults
import HandS.IsInst
import HandS.Style
import HandS.HeadHook2
import HandS.HeadHook1
import HandS.HeadEnd
import HandS.Head2
import HandS.More
import HandS.TupSets
import HandS.Dict
import HandS.DictTup
import HandS.Conv
import HandS.TupLen
import PySem.Challenge.RW_fieldshow_k77_whole_as_many_as_can_be
set_option Elab.async false
set_option linter.all false
set_option maxRecDepth 100000
set_option maxHeartbeats 0
namespace FS
open PySem PySem.Spec L2
abbrev PD := PyData
abbrev Ct := Addr → Nat
abbrev Zn := Addr → Prop
def one (a : Addr) : Ct := fun b => if b = a then 1 else 0
def zero : Ct := fun _ => 0
/-- what a local name holds: frozen data, a list of one's own, a dict of one's own -/
inductive L where
  | fz (d : PD)
  | lst (ls : List L)
  | dic (kvs : List (PD × PD))
/-- .. or an instance (own: it may be changed) of the class with a number -/
inductive M where
  | v (l : L)
  | o (own : Bool) (t : Nat) (fs : List (Str × L))
abbrev M.fz (d : PD) : M := .v (.fz d)
abbrev M.lst (ls : List L) : M := .v (.lst ls)
abbrev M.dic (kvs : List (PD × PD)) : M := .v (.dic kvs)
mutual
def L.pd : L → PD
  | .fz d => d
  | .lst ls => .list (L.pds ls)
  | .dic kvs => .dict kvs
def L.pds : List L → List PD
  | [] => []
  | l :: ls => l.pd :: L.pds ls
end
def L.frzF : List (Str × L) → List (Str × L)
  | [] => []
  | (f, l) :: r => (f, .fz l.pd) :: L.frzF r
def M.frz : M → M
  | .v l => .v (.fz l.pd)
  | .o _ t fs => .o false t (L.frzF fs)
abbrev Env' := List (Option M)
def frzE : Env' → Env'
  | [] => []
  | none :: r => none :: frzE r
  | some m :: r => some m.frz :: frzE r
mutual
def immut : PD → Bool
  | .none => true
  | .bool _ => true
  | .int _ => true
  | .str _ => true
  | .tuple ds => immutA ds
  | _ => false
def immutA : List PD → Bool
  | [] => true
  | d :: ds => immut d && immutA ds
end
/-! ### what stands for data in a heap -/
/-- a list, a tuple of the module -/
def KcL (K : PySem.W.Frag) (a : Addr) (xs : List V) : Prop :=
  ∃ (o : Obj) (its : Array Value) (n : Nat), K.lookup a = some o ∧ o.cls = .type "list" ∧ o.dict = none ∧ o.data = .seq its n ∧ its.size ≤ sizeLine ∧ Vals xs its.toList
def KcT (K : PySem.W.Frag) (a : Addr) (xs : List V) : Prop :=
  ∃ (o : Obj) (its : Array Value) (n : Nat), K.lookup a = some o ∧ o.cls = .type "tuple" ∧ o.data = .seq its n ∧ its.size ≤ sizeLine ∧ Vals xs its.toList
def keyD : PD → Option Key
  | .int i => some (.inl i)
  | .str s => some (.inr s)
  | _ => none
def keyDs : List PD → Option (List Key)
  | [] => some []
  | d :: ds => (keyD d).bind fun k => (keyDs ds).map fun ks => k :: ks
def keyT : PD → Option (List Key)
  | .tuple ds => keyDs ds
  | _ => none
mutual
inductive Fz (K : PySem.W.Frag) (H : Hp) (z : Zn) : PD → V → Prop
  | non : Fz K H z .none .non
  | bl (b : Bool) : Fz K H z (.bool b) (.bl b)
  | int (i : Int) : Fz K H z (.int i) (.int i)
  | str (s : Str) : Fz K H z (.str s) (.str s)
  | lst {a : Addr} {vs : List V} {ds : List PD} : (z a ∧ Rd H a (.lst vs)) ∨ KcL K a vs → FzA K H z ds vs → Fz K H z (.list ds) (.ref a)
  | tup {a : Addr} {vs : List V} {ds : List PD} : (z a ∧ H a = some (.tup vs)) → FzA K H z ds vs → Fz K H z (.tuple ds) (.ref a)
  | dik {a : Addr} {kvs : List (PD × PD)} {kw : List (Key × V)} : z a → Rd H a (.dK kw) → FzD K H z kvs kw → Fz K H z (.dict kvs) (.ref a)
  | dit {a : Addr} {kvs : List (PD × PD)} {kw : List (List Key × V)} : z a → Rd H a (.dT kw) → FzT K H z kvs kw → Fz K H z (.dict kvs) (.ref a)
inductive FzA (K : PySem.W.Frag) (H : Hp) (z : Zn) : List PD → List V → Prop
  | nil : FzA K H z [] []
  | cons {d : PD} {v : V} {ds : List PD} {vs : List V} : Fz K H z d v → FzA K H z ds vs → FzA K H z (d :: ds) (v :: vs)
inductive FzD (K : PySem.W.Frag) (H : Hp) (z : Zn) : List (PD × PD) → List (Key × V) → Prop
  | nil : FzD K H z [] []
  | cons {k d : PD} {k' : Key} {v : V} {r : List (PD × PD)} {r' : List (Key × V)} : keyD k = some k' → Fz K H z d v → FzD K H z r r' → FzD K H z ((k, d) :: r) ((k', v) :: r')
inductive FzT (K : PySem.W.Frag) (H : Hp) (z : Zn) : List (PD × PD) → List (List Key × V) → Prop
  | nil : FzT K H z [] []
  | cons {k d : PD} {k' : List Key} {v : V} {r : List (PD × PD)} {r' : List (List Key × V)} : keyT k = some k' → Fz K H z d v → FzT K H z r r' → FzT K H z ((k, d) :: r) ((k', v) :: r')
end
mutual
inductive RpL (K : PySem.W.Frag) (H : Hp) (z : Zn) : L → V → Ct → Prop
  | fz {d : PD} {v : V} {c : Ct} : Fz K H z d v → (∀ a, c a = 0) → RpL K H z (.fz d) v c
  | lst {a : Addr} {vs : List V} {ls : List L} {c c' : Ct} : H a = some (.lst vs) → RpA K H z ls vs c' → (∀ b, c b = one a b + c' b) → RpL K H z (.lst ls) (.ref a) c
  | dik {a : Addr} {kvs : List (PD × PD)} {kw : List (Key × V)} {c : Ct} : H a = some (.dK kw) → FzD K H z kvs kw → (∀ b, c b = one a b) → RpL K H z (.dic kvs) (.ref a) c
  | dit {a : Addr} {kvs : List (PD × PD)} {kw : List (List Key × V)} {c : Ct} : H a = some (.dT kw) → FzT K H z kvs kw → (∀ b, c b = one a b) → RpL K H z (.dic kvs) (.ref a) c
inductive RpA (K : PySem.W.Frag) (H : Hp) (z : Zn) : List L → List V → Ct → Prop
  | nil {c : Ct} : (∀ a, c a = 0) → RpA K H z [] [] c
  | cons {l : L} {v : V} {ls : List L} {vs : List V} {c c1 c2 : Ct} : RpL K H z l v c1 → RpA K H z ls vs c2 → (∀ a, c a = c1 a + c2 a) → RpA K H z (l :: ls) (v :: vs) c
end
inductive RpF (K : PySem.W.Frag) (H : Hp) (z : Zn) : List (Str × L) → List (Str × V) → Ct → Prop
  | nil {c : Ct} : (∀ a, c a = 0) → RpF K H z [] [] c
  | cons {f : Str} {l : L} {v : V} {r : List (Str × L)} {r' : List (Str × V)} {c c1 c2 : Ct} : RpL K H z l v c1 → RpF K H z r r' c2 → (∀ a, c a = c1 a + c2 a) → RpF K H z ((f, l) :: r) ((f, v) :: r') c
inductive Rp (K : PySem.W.Frag) (tb : Nat → Addr) (H : Hp) (z : Zn) : M → V → Ct → Prop
  | v {l : L} {x : V} {c : Ct} : RpL K H z l x c → Rp K tb H z (.v l) x c
  | ins {a dx : Addr} {t : Nat} {fs : List (Str × L)} {fv : List (Str × V)} {c c' : Ct} : H a = some (.ins (tb t) dx fv) → RpF K H z fs fv c' → (∀ b, c b = one a b + c' b) → Rp K tb H z (.o true t fs) (.ref a) c
  | fin {a dx : Addr} {t : Nat} {fs : List (Str × L)} {fv : List (Str × V)} {c c' : Ct} : z a → H a = some (.ins (tb t) dx fv) → RpF K H z fs fv c' → (∀ b, c' b = 0) → (∀ b, c b = 0) → Rp K tb H z (.o false t fs) (.ref a) c
/-- the slots -/
inductive RpE (K : PySem.W.Frag) (tb : Nat → Addr) (H : Hp) (z : Zn) : Env' → St → Ct → Prop
  | nil {c : Ct} : (∀ a, c a = 0) → RpE K tb H z [] [] c
  | no {δ : Env'} {σ : St} {x : Option V} {c : Ct} : RpE K tb H z δ σ c → RpE K tb H z (none :: δ) (x :: σ) c
  | yes {m : M} {x : V} {δ : Env'} {σ : St} {c c1 c2 : Ct} : Rp K tb H z m x c1 → RpE K tb H z δ σ c2 → (∀ a, c a = c1 a + c2 a) → RpE K tb H z (some m :: δ) (some x :: σ) c
/-! ### another heap -/
theorem Rd.eq {H H' : Hp} {a : Addr} {u : HO} (h : Rd H a u) (e : H' a = H a) : Rd H' a u := by
  unfold Rd at *
  rw [e]
  exact h
section
variable {K : PySem.W.Frag} {tb : Nat → Addr} {H H' : Hp} {z z' : Zn}
mutual
theorem Fz.mono (hz : ∀ a, z a → z' a) (hH : ∀ a, z a → H' a = H a) : ∀ {d : PD} {v : V}, Fz K H z d v → Fz K H' z' d v
  | _, _, .non => .non
  | _, _, .bl b => .bl b
  | _, _, .int i => .int i
  | _, _, .str s => .str s
  | _, _, .lst h r => .lst (h.imp (fun q => ⟨hz _ q.1, Rd.eq q.2 (hH _ q.1)⟩) id) (FzA.mono hz hH r)
  | _, _, .tup h r => .tup ⟨hz _ h.1, (hH _ h.1).trans h.2⟩ (FzA.mono hz hH r)
  | _, _, .dik q h r => .dik (hz _ q) (Rd.eq h (hH _ q)) (FzD.mono hz hH r)
  | _, _, .dit q h r => .dit (hz _ q) (Rd.eq h (hH _ q)) (FzT.mono hz hH r)
theorem FzA.mono (hz : ∀ a, z a → z' a) (hH : ∀ a, z a → H' a = H a) : ∀ {ds : List PD} {vs : List V}, FzA K H z ds vs → FzA K H' z' ds vs
  | _, _, .nil => .nil
  | _, _, .cons h r => .cons (Fz.mono hz hH h) (FzA.mono hz hH r)
theorem FzD.mono (hz : ∀ a, z a → z' a) (hH : ∀ a, z a → H' a = H a) : ∀ {ds : List (PD × PD)} {vs : List (Key × V)}, FzD K H z ds vs → FzD K H' z' ds vs
  | _, _, .nil => .nil
  | _, _, .cons e h r => .cons e (Fz.mono hz hH h) (FzD.mono hz hH r)
theorem FzT.mono (hz : ∀ a, z a → z' a) (hH : ∀ a, z a → H' a = H a) : ∀ {ds : List (PD × PD)} {vs : List (List Key × V)}, FzT K H z ds vs → FzT K H' z' ds vs
  | _, _, .nil => .nil
  | _, _, .cons e h r => .cons e (Fz.mono hz hH h) (FzT.mono hz hH r)
end
theorem one_self (a : Addr) : one a a = 1 := if_pos rfl
theorem one_ne {a b : Addr} (h : b ≠ a) : one a b = 0 := if_neg h
theorem one_pos {a b : Addr} (h : 0 < one a b) : b = a := by
  unfold one at h
  split at h
  · assumption
  · exact absurd h (Nat.lt_irrefl _)
mutual
theorem RpL.mono (hz : ∀ a, z a → z' a) (hH : ∀ a, z a → H' a = H a) : ∀ {l : L} {v : V} {c : Ct}, RpL K H z l v c → (∀ a, 0 < c a → H' a = H a) → RpL K H' z' l v c
  | _, _, _, .fz h e, _ => .fz (h.mono hz hH) e
  | _, _, _, .lst (a := a) h r e, hc => .lst ((hc a (by rw [e, one_self]; omega)).trans h) (RpA.mono hz hH r fun b hb => hc b (by rw [e]; omega)) e
  | _, _, _, .dik (a := a) h r e, hc => .dik ((hc a (by rw [e, one_self]; omega)).trans h) (r.mono hz hH) e
  | _, _, _, .dit (a := a) h r e, hc => .dit ((hc a (by rw [e, one_self]; omega)).trans h) (r.mono hz hH) e
theorem RpA.mono (hz : ∀ a, z a → z' a) (hH : ∀ a, z a → H' a = H a) : ∀ {l : List L} {v : List V} {c : Ct}, RpA K H z l v c → (∀ a, 0 < c a → H' a = H a) → RpA K H' z' l v c
  | _, _, _, .nil e, _ => .nil e
  | _, _, _, .cons h r e, hc => .cons (RpL.mono hz hH h fun a ha => hc a (by rw [e]; omega)) (RpA.mono hz hH r fun a ha => hc a (by rw [e]; omega)) e
end
theorem RpF.mono (hz : ∀ a, z a → z' a) (hH : ∀ a, z a → H' a = H a) : ∀ {l : List (Str × L)} {v : List (Str × V)} {c : Ct}, RpF K H z l v c → (∀ a, 0 < c a → H' a = H a) → RpF K H' z' l v c
  | _, _, _, .nil e, _ => .nil e
  | _, _, _, .cons h r e, hc => .cons (RpL.mono hz hH h fun a ha => hc a (by rw [e]; omega)) (RpF.mono hz hH r fun a ha => hc a (by rw [e]; omega)) e
theorem Rp.mono (hz : ∀ a, z a → z' a) (hH : ∀ a, z a → H' a = H a) {m : M} {v : V} {c : Ct} (h : Rp K tb H z m v c) (hc : ∀ a, 0 < c a → H' a = H a) : Rp K tb H' z' m v c := by
  cases h with
  | v h => exact .v (h.mono hz hH hc)
  | ins h r e =>
    rename_i a dx t fs fv c'
    exact .ins ((hc a (by rw [e, one_self]; omega)).trans h) (r.mono hz hH fun b hb => hc b (by rw [e]; omega)) e
  | fin q h r e e' =>
    exact .fin (hz _ q) ((hH _ q).trans h) (r.mono hz hH fun b hb => by rw [e] at hb; exact absurd hb (Nat.lt_irrefl _)) e e'
theorem RpE.mono (hz : ∀ a, z a → z' a) (hH : ∀ a, z a → H' a = H a) : ∀ {δ : Env'} {σ : St} {c : Ct}, RpE K tb H z δ σ c → (∀ a, 0 < c a → H' a = H a) → RpE K tb H' z' δ σ c
  | _, _, _, .nil e, _ => .nil e
  | _, _, _, .no h, hc => .no (RpE.mono hz hH h hc)
  | _, _, _, .yes h r e, hc => .yes (Rp.mono hz hH h fun a ha => hc a (by rw [e]; omega)) (RpE.mono hz hH r fun a ha => hc a (by rw [e]; omega)) e
/-! ### freezing -/
mutual
theorem RpL.freeze (hz : ∀ a, z a → z' a) : ∀ {l : L} {v : V} {c : Ct}, RpL K H z l v c → (∀ a, 0 < c a → z' a) → Fz K H z' l.pd v
  | _, _, _, .fz h e, _ => h.mono hz fun _ _ => rfl
  | _, _, _, .lst (a := a) h r e, hc => .lst (.inl ⟨hc a (by rw [e, one_self]; omega), .inl h⟩) (RpA.freeze hz r fun b hb => hc b (by rw [e]; omega))
  | _, _, _, .dik (a := a) h r e, hc => .dik (hc a (by rw [e, one_self]; omega)) (.inl h) (r.mono hz fun _ _ => rfl)
  | _, _, _, .dit (a := a) h r e, hc => .dit (hc a (by rw [e, one_self]; omega)) (.inl h) (r.mono hz fun _ _ => rfl)
theorem RpA.freeze (hz : ∀ a, z a → z' a) : ∀ {l : List L} {v : List V} {c : Ct}, RpA K H z l v c → (∀ a, 0 < c a → z' a) → FzA K H z' (L.pds l) v
  | _, _, _, .nil e, _ => .nil
  | _, _, _, .cons h r e, hc => .cons (RpL.freeze hz h fun a ha => hc a (by rw [e]; omega)) (RpA.freeze hz r fun a ha => hc a (by rw [e]; omega))
end
theorem RpF.freeze (hz : ∀ a, z a → z' a) : ∀ {l : List (Str × L)} {v : List (Str × V)} {c : Ct}, RpF K H z l v c → (∀ a, 0 < c a → z' a) → RpF K H z' (L.frzF l) v zero
  | _, _, _, .nil e, _ => .nil fun _ => rfl
  | _, _, _, .cons h r e, hc => .cons (c1 := zero) (c2 := zero) (.fz (h.freeze hz fun a ha => hc a (by rw [e]; omega)) fun _ => rfl) (RpF.freeze hz r fun a ha => hc a (by rw [e]; omega)) fun _ => rfl
theorem Rp.freeze (hz : ∀ a, z a → z' a) {m : M} {v : V} {c : Ct} (h : Rp K tb H z m v c) (hc : ∀ a, 0 < c a → z' a) : Rp K tb H z' m.frz v zero := by
  cases h with
  | v h => exact .v (.fz (h.freeze hz hc) fun _ => rfl)
  | ins h r e =>
    rename_i a dx t fs fv c'
    exact .fin (c' := zero) (hc a (by rw [e, one_self]; omega)) h (r.freeze hz fun b hb => hc b (by rw [e]; omega)) (fun _ => rfl) fun _ => rfl
  | fin q h r e e' => exact .fin (c' := zero) (hz _ q) h (r.freeze hz fun b hb => by rw [e] at hb; exact absurd hb (Nat.lt_irrefl _)) (fun _ => rfl) fun _ => rfl
theorem RpE.freeze (hz : ∀ a, z a → z' a) : ∀ {δ : Env'} {σ : St} {c : Ct}, RpE K tb H z δ σ c → (∀ a, 0 < c a → z' a) → RpE K tb H z' (frzE δ) σ zero
  | _, _, _, .nil e, _ => .nil fun _ => rfl
  | _, _, _, .no h, hc => .no (RpE.freeze hz h hc)
  | _, _, _, .yes h r e, hc => .yes (c1 := zero) (c2 := zero) (h.freeze hz fun a ha => hc a (by rw [e]; omega)) (RpE.freeze hz r fun a ha => hc a (by rw [e]; omega)) fun _ => rfl
/-! ### what can't be changed needs no mutable node -/
mutual
theorem Fz.immut (hz : ∀ a, z a → (∃ xs, Rd H a (.tup xs)) → z' a) : ∀ {d : PD} {v : V}, Fz K H z d v → immut d = true → Fz K H z' d v
  | _, _, .non, _ => .non
  | _, _, .bl b, _ => .bl b
  | _, _, .int i, _ => .int i
  | _, _, .str s, _ => .str s
  | _, _, .tup h r, e => .tup ⟨hz _ h.1 ⟨_, .inl h.2⟩, h.2⟩ (FzA.immut hz r e)
  | _, _, .lst _ _, e => absurd e Bool.false_ne_true
  | _, _, .dik _ _ _, e => absurd e Bool.false_ne_true
  | _, _, .dit _ _ _, e => absurd e Bool.false_ne_true
theorem FzA.immut (hz : ∀ a, z a → (∃ xs, Rd H a (.tup xs)) → z' a) : ∀ {d : List PD} {v : List V}, FzA K H z d v → immutA d = true → FzA K H z' d v
  | _, _, .nil, _ => .nil
  | _, _, .cons h r, e => by
    have e' := Bool.and_eq_true_iff.mp e
    exact .cons (Fz.immut hz h e'.1) (FzA.immut hz r e'.2)
end
/-! ### slots -/
theorem RpE.len : ∀ {δ : Env'} {σ : St} {c : Ct}, RpE K tb H z δ σ c → δ.length = σ.length
  | _, _, _, .nil _ => rfl
  | _, _, _, .no h => congrArg (· + 1) (RpE.len h)
  | _, _, _, .yes _ h _ => congrArg (· + 1) (RpE.len h)
theorem RpE.get : ∀ {δ : Env'} {σ : St} {c : Ct} {i : Nat} {m : M}, RpE K tb H z δ σ c → δ[i]? = some (some m) →
    ∃ v c1 c2, σ[i]? = some (some v) ∧ Rp K tb H z m v c1 ∧ (∀ a, c a = c1 a + c2 a) ∧ RpE K tb H z (δ.set i none) σ c2
  | _, _, _, 0, m, .yes (c1 := c1) (c2 := c2) h r e, q => by
    have q' : some _ = some _ := Option.some.inj q
    cases q'
    exact ⟨_, c1, c2, rfl, h, e, .no r⟩
  | _, _, _, i + 1, m, .no h, q => by
    obtain ⟨v, c1, c2, e1, e2, e3, e4⟩ := RpE.get (i := i) h (by simpa using q)
    exact ⟨v, c1, c2, by simpa using e1, e2, e3, .no e4⟩
  | _, _, _, i + 1, m, .yes (c1 := c0) h r e, q => by
    obtain ⟨v, c1, c2, e1, e2, e3, e4⟩ := RpE.get (i := i) r (by simpa using q)
    exact ⟨v, c1, fun a => c0 a + c2 a, by simpa using e1, e2, fun a => by show _ = c1 a + (c0 a + c2 a); rw [e, e3]; omega, .yes h e4 fun _ => rfl⟩
theorem RpE.drop : ∀ {δ : Env'} {σ : St} {c : Ct} (i : Nat), RpE K tb H z δ σ c → ∃ c2, (∀ a, c2 a ≤ c a) ∧ RpE K tb H z (δ.set i none) σ c2
  | _, _, c, _, .nil e => ⟨c, fun _ => Nat.le_refl _, .nil e⟩
  | _, _, c, 0, .no h => ⟨c, fun _ => Nat.le_refl _, .no h⟩
  | _, _, c, 0, .yes (c2 := c2) h r e => ⟨c2, fun a => by rw [e]; omega, .no r⟩
  | _, _, c, i + 1, .no h => by
    obtain ⟨c2, e1, e2⟩ := RpE.drop i h
    exact ⟨c2, e1, .no e2⟩
  | _, _, c, i + 1, .yes (c1 := c1) h r e => by
    obtain ⟨c2, e1, e2⟩ := RpE.drop i r
    exact ⟨fun a => c1 a + c2 a, fun a => by have := e1 a; show c1 a + c2 a ≤ _; rw [e]; omega, .yes h e2 fun _ => rfl⟩
/-- a slot without a value may hold anything -/
theorem RpE.any : ∀ {δ : Env'} {σ : St} {c : Ct} (i : Nat) (x : Option V), RpE K tb H z (δ.set i none) σ c → RpE K tb H z (δ.set i none) (σ.set i x) c
  | [], _, _, _, _, .nil e => .nil e
  | _ :: _, _, _, 0, _, .no h => .no h
  | none :: _, _, _, i + 1, x, .no h => .no (RpE.any i x h)
  | some _ :: _, _, _, i + 1, x, .yes h r e => .yes h (RpE.any i x r) e
/-- .. filled -/
theorem RpE.put : ∀ {δ : Env'} {σ : St} {c c1 : Ct} {i : Nat} {m : M} {v : V}, RpE K tb H z (δ.set i none) σ c → i < δ.length → σ[i]? = some (some v) → Rp K tb H z m v c1 →
    RpE K tb H z (δ.set i (some m)) σ fun a => c1 a + c a
  | [], _, _, _, _, _, _, _, h, _, _ => absurd h (Nat.not_lt_zero _)
  | _ :: _, x :: _, _, _, 0, _, v, .no h, _, q, r => by
    obtain rfl : x = some v := by simpa using q
    exact .yes r h fun _ => rfl
  | none :: _, _, _, _, i + 1, _, _, .no h, hl, q, r => .no (RpE.put h (Nat.lt_of_succ_lt_succ hl) (by simpa using q) r)
  | some _ :: _, _, _, c1, i + 1, _, _, .yes (c1 := d1) (c2 := d2) h t e, hl, q, r => .yes h (RpE.put t (Nat.lt_of_succ_lt_succ hl) (by simpa using q) r) fun a => by show _ = d1 a + (c1 a + d2 a); rw [e]; omega
theorem RpE.store {δ : Env'} {σ : St} {c c1 : Ct} {i : Nat} {m : M} {v : V} (h : RpE K tb H z (δ.set i none) σ c) (hl : i < δ.length) (r : Rp K tb H z m v c1) :
    RpE K tb H z (δ.set i (some m)) (σ.set i (some v)) fun a => c1 a + c a := by
  refine RpE.put (RpE.any i (some v) h) hl ?_ r
  have e := RpE.len h
  rw [List.length_set] at e
  exact List.getElem?_set_self (by omega)
end
end FS
namespace FS
open PySem PySem.Spec L2
inductive R (α : Type) where
  | ok (a : α) (δ : Env')
  | ex (n : Nat) (δ : Env')
  | bad
def R.bind {α β : Type} (r : R α) (f : α → Env' → R β) : R β :=
  match r with
  | .ok a δ => f a δ
  | .ex n δ => .ex n δ
  | .bad => .bad
abbrev EF := Env' → R M
/-- z: what is frozen; c: what is owned -/
structure Wf (H : Hp) (z : Zn) (c : Ct) : Prop where
  zt : ∀ a, z a → H a ≠ none
  zc : ∀ a, z a → c a = 0
  c1 : ∀ a, c a ≤ 1
  cm : ∀ a, 0 < c a → Mut (H a)
theorem mut_ne {H : Hp} {a : Addr} (h : Mut (H a)) : H a ≠ none := fun e => by rw [e] at h; exact h
structure Step (H : Hp) (z : Zn) (c : Ct) (H' : Hp) (z' : Zn) (c' : Ct) : Prop where
  keep : ∀ a, H a ≠ none → c a = 0 → H' a = H a
  zin : ∀ a, z a → z' a
  src : ∀ a, z' a ∨ 0 < c' a → z a ∨ 0 < c a ∨ H a = none
  dom : ∀ a, H a ≠ none → H' a ≠ none
theorem Wf.mono {H : Hp} {z : Zn} {c c' : Ct} (w : Wf H z c) (h : ∀ a, c' a ≤ c a) : Wf H z c' :=
  ⟨w.zt, fun a q => by have := w.zc a q; have := h a; omega, fun a => Nat.le_trans (h a) (w.c1 a), fun a q => w.cm a (Nat.lt_of_lt_of_le q (h a))⟩
theorem Step.refl (H : Hp) (z : Zn) (c : Ct) : Step H z c H z c := ⟨fun _ _ _ => rfl, fun _ h => h, fun _ h => h.imp id .inl, fun _ h => h⟩
theorem Step.mono {H H' : Hp} {z z' : Zn} {c c' c'' : Ct} (s : Step H z c H' z' c') (h : ∀ a, c'' a ≤ c' a) : Step H z c H' z' c'' :=
  ⟨s.keep, s.zin, fun a q => s.src a (q.imp id fun r => Nat.lt_of_lt_of_le r (h a)), s.dom⟩
theorem Step.trans {H H1 H2 : Hp} {z z1 z2 : Zn} {c c1 c2 : Ct} (a : Step H z c H1 z1 c1) (w1 : Wf H1 z1 c1) (b : Step H1 z1 c1 H2 z2 c2) : Step H z c H2 z2 c2 where
  keep := fun x hx hc => by
    have e1 := a.keep x hx hc
    have h1 : H1 x ≠ none := by rw [e1]; exact hx
    have c0 : c1 x = 0 := by
      rcases Nat.eq_zero_or_pos (c1 x) with h | h
      · exact h
      · rcases a.src x (.inr h) with q | q | q
        · exact w1.zc x (a.zin x q)
        · omega
        · exact absurd q hx
    exact (b.keep x h1 c0).trans e1
  zin := fun x h => b.zin x (a.zin x h)
  src := fun x h => by
    rcases b.src x h with q | q | q
    · exact a.src x (.inl q)
    · exact a.src x (.inr q)
    · refine .inr (.inr ?_)
      cases e : H x with
      | none => rfl
      | some o => exact absurd q (a.dom x (by rw [e]; exact fun z => nomatch z))
  dom := fun x h => b.dom x (a.dom x h)
section
variable {K : PySem.W.Frag} {tb : Nat → Addr} {H H' H1 : Hp} {z z' z1 : Zn} {c c' c1 : Ct} {σ : St} {δ δ' : Env'}
theorem Step.on (s : Step H z c H' z' c') (w : Wf H z c) : ∀ a, z a → H' a = H a := fun a q => s.keep a (w.zt a q) (w.zc a q)
theorem Step.fz (s : Step H z c H' z' c') (w : Wf H z c) {d : PD} {v : V} (h : Fz K H z d v) : Fz K H' z' d v := h.mono s.zin (s.on w)
theorem Step.fzA (s : Step H z c H' z' c') (w : Wf H z c) {d : List PD} {v : List V} (h : FzA K H z d v) : FzA K H' z' d v := h.mono s.zin (s.on w)
/-- behind an expression: the slots, the value -/
def AftE (K : PySem.W.Frag) (tb : Nat → Addr) (H : Hp) (z : Zn) (c : Ct) (δ' : Env') (σ : St) (m : M) (v : V) (H' : Hp) : Prop :=
  ∃ z' c' cm, RpE K tb H' z' δ' σ c' ∧ Rp K tb H' z' m v cm ∧ Wf H' z' (fun a => c' a + cm a) ∧ Step H z c H' z' fun a => c' a + cm a
def AftP (K : PySem.W.Frag) (tb : Nat → Addr) (H : Hp) (z : Zn) (c : Ct) (δ' : Env') (σ : St) (d : PD) (v : V) (H' : Hp) : Prop :=
  ∃ z' c', RpE K tb H' z' δ' σ c' ∧ Fz K H' z' d v ∧ Wf H' z' c' ∧ Step H z c H' z' c'
def Aft (K : PySem.W.Frag) (tb : Nat → Addr) (H : Hp) (z : Zn) (c : Ct) (δ' : Env') (σ : St) (H' : Hp) : Prop :=
  ∃ z' c', RpE K tb H' z' δ' σ c' ∧ Wf H' z' c' ∧ Step H z c H' z' c'
theorem AftE.toP {l : L} {v : V} (h : AftE K tb H z c δ' σ (.v l) v H') : AftP K tb H z c δ' σ l.pd v H' := by
  obtain ⟨z1, c1, cm, hE, hR, hw, hs⟩ := h
  cases hR with
  | v hR =>
    refine ⟨fun a => z1 a ∨ 0 < cm a, c1, hE.mono (fun _ => .inl) (fun _ _ => rfl) fun _ _ => rfl, hR.freeze (fun _ => .inl) fun _ => .inr, ⟨fun a q => ?_, fun a q => ?_, fun a => ?_, fun a q => ?_⟩, ⟨hs.keep, fun a q => .inl (hs.zin a q), fun a q => ?_, hs.dom⟩⟩
    · rcases q with q | q
      · exact hw.zt a q
      · exact mut_ne (hw.cm a (by show 0 < c1 a + cm a; omega))
    · rcases q with q | q
      · have q' : c1 a + cm a = 0 := hw.zc a q
        omega
      · have q' : c1 a + cm a ≤ 1 := hw.c1 a
        omega
    · have q' : c1 a + cm a ≤ 1 := hw.c1 a
      omega
    · exact hw.cm a (by show 0 < c1 a + cm a; omega)
    · refine hs.src a ?_
      show z1 a ∨ 0 < c1 a + cm a
      rcases q with (q | q) | q
      · exact .inl q
      · exact .inr (by omega)
      · exact .inr (by omega)
theorem AftP.toE {d : PD} {v : V} (h : AftP K tb H z c δ' σ d v H') : AftE K tb H z c δ' σ (.fz d) v H' := by
  obtain ⟨z1, c1, hE, hF, hw, hs⟩ := h
  exact ⟨z1, c1, zero, hE, .v (.fz hF fun _ => rfl), hw.mono fun a => Nat.le_refl _, hs.mono fun a => Nat.le_refl _⟩
theorem AftE.trans {m : M} {v : V} (s : Step H z c H1 z1 c1) (w : Wf H1 z1 c1) (h : AftE K tb H1 z1 c1 δ' σ m v H') : AftE K tb H z c δ' σ m v H' := by
  obtain ⟨z', c', cm, hE, hR, hw, hs⟩ := h
  exact ⟨z', c', cm, hE, hR, hw, s.trans w hs⟩
theorem Aft.trans (s : Step H z c H1 z1 c1) (w : Wf H1 z1 c1) (h : Aft K tb H1 z1 c1 δ' σ H') : Aft K tb H z c δ' σ H' := by
  obtain ⟨z', c', hE, hw, hs⟩ := h
  exact ⟨z', c', hE, hw, s.trans w hs⟩
/-- a builtin's answer: what was stands, the rest is new -/
def NewM (K : PySem.W.Frag) (tb : Nat → Addr) (H : Hp) (z : Zn) (m : M) (v : V) (H' : Hp) : Prop :=
  ∃ z' cm, (∀ a, H a ≠ none → H' a = H a) ∧ (∀ a, z a → z' a) ∧ (∀ a, z' a ∨ 0 < cm a → z a ∨ H a = none) ∧ Rp K tb H' z' m v cm ∧ Wf H' z' cm
theorem NewM.aft {m : M} {v : V} (hE : RpE K tb H z δ σ c) (w : Wf H z c) (h : NewM K tb H z m v H') : AftE K tb H z c δ σ m v H' := by
  obtain ⟨z', cm, k, zi, sr, hR, hw⟩ := h
  have cn : ∀ a, 0 < c a → H a ≠ none := fun a q => mut_ne (w.cm a q)
  have z0 : ∀ a, 0 < c a → ¬ z' a := fun a q hz => by
    rcases sr a (.inl hz) with r | r
    · have := w.zc a r; omega
    · exact cn a q r
  have m0 : ∀ a, 0 < c a → cm a = 0 := fun a q => by
    rcases Nat.eq_zero_or_pos (cm a) with r | r
    · exact r
    · rcases sr a (.inr r) with r | r
      · have := w.zc a r; omega
      · exact absurd r (cn a q)
  refine ⟨z', c, cm, hE.mono zi (fun a q => k a (w.zt a q)) fun a q => k a (cn a q), hR, ⟨hw.zt, fun a q => ?_, fun a => ?_, fun a q => ?_⟩, ⟨fun a h1 _ => k a h1, zi, fun a q => ?_, fun a h => by rw [k a h]; exact h⟩⟩
  · show c a + cm a = 0
    have h1 := hw.zc a q
    rcases Nat.eq_zero_or_pos (c a) with r | r
    · omega
    · exact absurd q (z0 a r)
  · show c a + cm a ≤ 1
    have h1 := hw.c1 a
    have h2 := w.c1 a
    rcases Nat.eq_zero_or_pos (c a) with r | r
    · omega
    · have := m0 a r; omega
  · have q : 0 < c a + cm a := q
    rcases Nat.eq_zero_or_pos (c a) with r | r
    · exact hw.cm a (by omega)
    · rw [k a (cn a r)]; exact w.cm a r
  · rcases q with q | q
    · rcases sr a (.inl q) with r | r
      · exact .inl r
      · exact .inr (.inr r)
    · have q : 0 < c a + cm a := q
      rcases Nat.eq_zero_or_pos (c a) with r | r
      · rcases sr a (.inr (by omega)) with r | r
        · exact .inl r
        · exact .inr (.inr r)
      · exact .inr (.inl r)
/-- nothing new -/
theorem NewM.at {d : PD} {v : V} (hz : ∀ a, z a → H a ≠ none) (h : Fz K H z d v) : NewM K tb H z (.fz d) v H :=
  ⟨z, zero, fun _ _ => rfl, fun _ h => h, fun a q => q.imp id fun r => absurd r (Nat.lt_irrefl _), .v (.fz h fun _ => rfl), hz, fun _ _ => rfl, fun _ => Nat.zero_le _, fun _ r => absurd r (Nat.lt_irrefl _)⟩
theorem FzA.rpA : ∀ {ds : List PD} {vs : List V}, FzA K H z ds vs → RpA K H z (ds.map .fz) vs zero
  | _, _, .nil => .nil fun _ => rfl
  | _, _, .cons h r => .cons (c1 := zero) (c2 := zero) (.fz h fun _ => rfl) (FzA.rpA r) fun _ => rfl
/-- a new list -/
theorem NewM.lst {ds : List PD} {vs : List V} {p : Addr} (hz : ∀ a, z a → H a ≠ none) (hp : H p = none) (h : FzA K H z ds vs) : NewM K tb H z (.lst (ds.map .fz)) (.ref p) (upd H p (.lst vs)) := by
  have np : ∀ a, H a ≠ none → a ≠ p := fun a h e => h (e ▸ hp)
  refine ⟨z, one p, fun a h => upd_ne (np a h), fun _ h => h, fun a q => q.imp id fun r => by rw [one_pos r]; exact hp, .v (.lst upd_same ((h.mono (fun _ q => q) fun a q => upd_ne (np a (hz a q))).rpA) fun _ => rfl), fun a q => by rw [upd_ne (np a (hz a q))]; exact hz a q, fun a q => one_ne (np a (hz a q)), fun a => ?_, fun a q => ?_⟩
  · unfold one; split <;> omega
  · rw [one_pos q, upd_same]; trivial
/-- a new tuple -/
theorem NewM.tup {ds : List PD} {vs : List V} {p : Addr} (hz : ∀ a, z a → H a ≠ none) (hp : H p = none) (h : FzA K H z ds vs) : NewM K tb H z (.fz (.tuple ds)) (.ref p) (upd H p (.tup vs)) := by
  have np : ∀ a, H a ≠ none → a ≠ p := fun a h e => h (e ▸ hp)
  refine ⟨fun a => z a ∨ a = p, zero, fun a h => upd_ne (np a h), fun _ h => .inl h, fun a q => ?_, .v (.fz (.tup ⟨.inr rfl, upd_same⟩ (h.mono (fun _ => .inl) fun a q => upd_ne (np a (hz a q)))) fun _ => rfl), fun a q => ?_, fun _ _ => rfl, fun _ => Nat.zero_le _, fun _ r => absurd r (Nat.lt_irrefl _)⟩
  · rcases q with (q | q) | q
    · exact .inl q
    · rw [q]; exact .inr hp
    · exact absurd q (Nat.lt_irrefl _)
  · rcases q with q | q
    · rw [upd_ne (np a (hz a q))]; exact hz a q
    · rw [q, upd_same]; exact fun z => nomatch z
end
/-! ### judgements -/
section
variable (K : PySem.W.Frag) (tb : Nat → Addr) (W : WX)
/-- what an expression's result asks of the rest -/
def Out (H : Hp) (z : Zn) (c : Ct) (σ : St) (r : R M) (Q : VK) : Prop :=
  match r with
  | .ok m δ' => ∀ v H', AftE K tb H z c δ' σ m v H' → Q v H'
  | .ex n δ' => ∀ H', Aft K tb H z c δ' σ H' → W (.ref (tb n)) none σ H'
  | .bad => False
def OutP (H : Hp) (z : Zn) (c : Ct) (σ : St) (r : R M) (Q : V → Hp → PD → Env' → Prop) : Prop :=
  match r with
  | .ok (.v l) δ' => ∀ v H', AftP K tb H z c δ' σ l.pd v H' → Q v H' l.pd δ'
  | .ok _ _ => False
  | .ex n δ' => ∀ H', Aft K tb H z c δ' σ H' → W (.ref (tb n)) none σ H'
  | .bad => False
def OutB (H : Hp) (z : Zn) (c : Ct) (σ : St) (r : R Bool) (Q : Bool → Hp → Prop) : Prop :=
  match r with
  | .ok b δ' => ∀ H', Aft K tb H z c δ' σ H' → Q b H'
  | .ex n δ' => ∀ H', Aft K tb H z c δ' σ H' → W (.ref (tb n)) none σ H'
  | .bad => False
def tD (F : EF) : TE := fun σ H Q => ∃ δ z c, RpE K tb H z δ σ c ∧ Wf H z c ∧ Out K tb W H z c σ (F δ) Q
def tT (F : Env' → R Bool) : TT := fun σ H Q => ∃ δ z c, RpE K tb H z δ σ c ∧ Wf H z c ∧ OutB K tb W H z c σ (F δ) Q
end
section
variable {K : PySem.W.Frag} {tb : Nat → Addr} {W : WX} {H H' H1 : Hp} {z z' z1 : Zn} {c c' c1 : Ct} {σ : St} {δ δ' : Env'} {X : Cx} {e : Expr} {t t' : TE}
theorem Out.step {r : R M} {Q : VK} (s : Step H z c H1 z1 c1) (w : Wf H1 z1 c1) (h : Out K tb W H z c σ r Q) : Out K tb W H1 z1 c1 σ r Q := by
  cases r with
  | ok m δ' => exact fun v H' a => h v H' (a.trans s w)
  | ex n δ' => exact fun H' a => h H' (a.trans s w)
  | bad => exact h
theorem OutB.step {r : R Bool} {Q : Bool → Hp → Prop} (s : Step H z c H1 z1 c1) (w : Wf H1 z1 c1) (h : OutB K tb W H z c σ r Q) : OutB K tb W H1 z1 c1 σ r Q := by
  cases r with
  | ok m δ' => exact fun H' a => h H' (a.trans s w)
  | ex n δ' => exact fun H' a => h H' (a.trans s w)
  | bad => exact h
theorem _root_.L2.PE.wk (h : PE X e t) (i : ∀ σ H Q, t' σ H Q → t σ H Q) : PE X e t' := ⟨fun pins s σ H Q I q => h.run pins s σ H Q I (i σ H Q q)⟩
theorem _root_.L2.PT.wk {t t' : TT} (h : PT X e t) (i : ∀ σ H Q, t' σ H Q → t σ H Q) : PT X e t' := ⟨fun pins s σ H Q I q => h.run pins s σ H Q I (i σ H Q q)⟩
theorem _root_.L2.PS.wk {st : Stmt} {t t' : TS} (h : PS X st t) (i : ∀ D σ H, t' D σ H → t D σ H) : PS X st t' := ⟨fun pins s σ H D I q => h.run pins s σ H D I (i D σ H q)⟩
abbrev DE (tb : Nat → Addr) (W : WX) (X : Cx) (e : Expr) (F : EF) : Prop := PE X e (tD X.K tb W F)
abbrev DT (tb : Nat → Addr) (W : WX) (X : Cx) (e : Expr) (F : Env' → R Bool) : Prop := PT X e (tT X.K tb W F)
/-- run an operand: what it asks of the rest, its value frozen -/
theorem run_P {F : EF} {α : Type} {f : PD → Env' → R α} {Q : VK} (hE : RpE K tb H z δ σ c) (w : Wf H z c)
    (hok : ∀ l δ1, F δ = .ok (.v l) δ1 → ∀ v H1 z1 c1, RpE K tb H1 z1 δ1 σ c1 → Fz K H1 z1 l.pd v → Wf H1 z1 c1 → Step H z c H1 z1 c1 → Q v H1)
    (hex : ∀ n δ1, F δ = .ex n δ1 → ∀ H', Aft K tb H z c δ1 σ H' → W (.ref (tb n)) none σ H') (hno : ∀ own t fs δ1, F δ ≠ .ok (.o own t fs) δ1) (hbad : F δ ≠ .bad) : tD K tb W F σ H Q := by
  refine ⟨δ, z, c, hE, w, ?_⟩
  cases e : F δ with
  | ok m δ1 =>
    cases m with
    | v l =>
      intro v H' a
      obtain ⟨z1, c1, h1, h2, h3, h4⟩ := AftE.toP a
      exact hok l δ1 e v H' z1 c1 h1 h2 h3 h4
    | o own t fs => exact absurd e (hno own t fs δ1)
  | ex n δ1 => exact hex n δ1 e
  | bad => exact absurd e hbad
end
/-- the operand's data -/
def R.p {α : Type} (r : R M) (f : PD → Env' → R α) : R α :=
  match r with
  | .ok (.v l) δ => f l.pd δ
  | .ok _ _ => .bad
  | .ex n δ => .ex n δ
  | .bad => .bad
section
variable {K : PySem.W.Frag} {tb : Nat → Addr} {W : WX} {H H' H1 : Hp} {z z' z1 : Zn} {c c' c1 : Ct} {σ : St} {δ δ' : Env'} {X : Cx} {e : Expr} {t t' : TE}
/-- an operand, then the rest -/
theorem go_P {F : EF} {f : PD → Env' → R M} {Q Q1 : VK} (hE : RpE K tb H z δ σ c) (w : Wf H z c) (h : Out K tb W H z c σ ((F δ).p f) Q)
    (k : ∀ d δ1 v H1 z1 c1, RpE K tb H1 z1 δ1 σ c1 → Fz K H1 z1 d v → Wf H1 z1 c1 → Step H z c H1 z1 c1 → Out K tb W H1 z1 c1 σ (f d δ1) Q → Q1 v H1) : tD K tb W F σ H Q1 := by
  refine ⟨δ, z, c, hE, w, ?_⟩
  cases e : F δ with
  | ok m δ1 =>
    rw [e] at h
    cases m with
    | v l =>
      intro v H' a
      obtain ⟨z1, c1, h1, h2, h3, h4⟩ := AftE.toP a
      exact k l.pd δ1 v H' z1 c1 h1 h2 h3 h4 (Out.step h4 h3 h)
    | o own t fs => exact h.elim
  | ex n δ1 => rw [e] at h; exact h
  | bad => rw [e] at h; exact h.elim
theorem go_PB {F : EF} {f : PD → Env' → R Bool} {Q : Bool → Hp → Prop} {Q1 : VK} (hE : RpE K tb H z δ σ c) (w : Wf H z c) (h : OutB K tb W H z c σ ((F δ).p f) Q)
    (k : ∀ d δ1 v H1 z1 c1, RpE K tb H1 z1 δ1 σ c1 → Fz K H1 z1 d v → Wf H1 z1 c1 → Step H z c H1 z1 c1 → OutB K tb W H1 z1 c1 σ (f d δ1) Q → Q1 v H1) : tD K tb W F σ H Q1 := by
  refine ⟨δ, z, c, hE, w, ?_⟩
  cases e : F δ with
  | ok m δ1 =>
    rw [e] at h
    cases m with
    | v l =>
      intro v H' a
      obtain ⟨z1, c1, h1, h2, h3, h4⟩ := AftE.toP a
      exact k l.pd δ1 v H' z1 c1 h1 h2 h3 h4 (OutB.step h4 h3 h)
    | o own t fs => exact h.elim
  | ex n δ1 => rw [e] at h; exact h
  | bad => rw [e] at h; exact h.elim
/-! ### names, constants -/
def eC (d : PD) : EF := fun δ => .ok (.fz d) δ
theorem Out.const {d : PD} {v : V} {Q : VK} (hE : RpE K tb H z δ σ c) (w : Wf H z c) (hd : Fz K H z d v) (h : Out K tb W H z c σ (.ok (.fz d) δ) Q) : Q v H :=
  h v H (NewM.aft hE w (NewM.at w.zt hd))
theorem de_const {d : PD} {v : V} (h : PE X e (tC v)) (hd : ∀ H z, Fz X.K H z d v) : DE tb W X e (eC d) := h.wk fun σ H Q ⟨δ, z, c, hE, w, h⟩ => Out.const hE w (hd H z) h
theorem de_int {i : Int} {j pos} : DE tb W X (.Constant (.int i) j pos) (eC (.int i)) := de_const pe_int fun _ _ => .int i
theorem de_bool {b : Bool} {j pos} : DE tb W X (.Constant (.bool b) j pos) (eC (.bool b)) := de_const pe_bl fun _ _ => .bl b
theorem de_none {j pos} : DE tb W X (.Constant .none j pos) (eC .none) := de_const pe_non fun _ _ => .non
theorem de_str {s : Str} {j pos} : DE tb W X (.Constant (.str s) j pos) (eC (.str s)) := de_const pe_str fun _ _ => .str s
/-- a name: what it holds is frozen -/
def eN (i : Nat) : EF := fun δ =>
  match δ[i]? with
  | some (some (.v (.fz d))) => .ok (.fz d) δ
  | some (some m) => .ok m.frz (δ.set i (some m.frz))
  | _ => .bad
theorem set_none_set (δ : Env') (i : Nat) (x y : Option M) : (δ.set i x).set i y = δ.set i y := by
  rw [List.set_set]
theorem lt_of_get {δ : Env'} {i : Nat} {x : Option M} (h : δ[i]? = some x) : i < δ.length := (List.getElem?_eq_some_iff.mp h).1
theorem aft_frz {i : Nat} {m : M} {v : V} (hE : RpE K tb H z δ σ c) (w : Wf H z c) (hi : δ[i]? = some (some m)) (hv : σ[i]? = some (some v)) : AftE K tb H z c (δ.set i (some m.frz)) σ m.frz v H := by
  obtain ⟨v', c1, c2, e1, e2, e3, e4⟩ := hE.get hi
  rw [hv] at e1
  cases e1
  have h1 : ∀ a, c1 a ≤ c a := fun a => by rw [e3]; omega
  have f := e2.freeze (z' := fun a => z a ∨ 0 < c1 a) (fun _ => .inl) fun _ => .inr
  refine ⟨fun a => z a ∨ 0 < c1 a, fun a => zero a + c2 a, zero, RpE.put (e4.mono (fun _ => .inl) (fun _ _ => rfl) fun _ _ => rfl) (lt_of_get hi) hv f, f, ⟨fun a q => ?_, fun a q => ?_, fun a => ?_, fun a q => ?_⟩, ⟨fun _ _ _ => rfl, fun _ => .inl, fun a q => ?_, fun _ h => h⟩⟩
  · rcases q with q | q
    · exact w.zt a q
    · exact mut_ne (w.cm a (by rw [e3]; omega))
  · show zero a + c2 a + zero a = 0
    have := e3 a
    rcases q with q | q
    · have := w.zc a q; unfold zero; omega
    · have := w.c1 a; unfold zero; omega
  · show zero a + c2 a + zero a ≤ 1
    have := e3 a
    have := w.c1 a
    unfold zero; omega
  · have q : 0 < zero a + c2 a + zero a := q
    unfold zero at q
    exact w.cm a (by rw [e3]; omega)
  · have := e3 a
    rcases q with (q | q) | q
    · exact .inl q
    · exact .inr (.inl (by omega))
    · have q : 0 < zero a + c2 a + zero a := q
      unfold zero at q
      exact .inr (.inl (by omega))
theorem de_name {i : Nat} (h : PE X e (tVar i)) : DE tb W X e (eN i) := h.wk fun σ H Q ⟨δ, z, c, hE, w, h⟩ => by
  unfold eN at h
  split at h
  · rename_i d q
    obtain ⟨v, c1, c2, e1, e2, e3, e4⟩ := hE.get q
    refine ⟨v, e1, Out.const hE w ?_ h⟩
    cases e2 with
    | v r => cases r with
      | fz r _ => exact r
  · rename_i m _ q
    obtain ⟨v, c1, c2, e1, e2, e3, e4⟩ := hE.get q
    exact ⟨v, e1, h v H (aft_frz hE w q e1)⟩
  · exact h.elim
/-- a name that is given away -/
def eMv (i : Nat) : EF := fun δ =>
  match δ[i]? with
  | some (some m) => .ok m (δ.set i none)
  | _ => .bad
theorem de_move {i : Nat} (h : PE X e (tVar i)) : DE tb W X e (eMv i) := h.wk fun σ H Q ⟨δ, z, c, hE, w, h⟩ => by
  unfold eMv at h
  split at h
  · rename_i m q
    obtain ⟨v, c1, c2, e1, e2, e3, e4⟩ := hE.get q
    refine ⟨v, e1, h v H ⟨z, c2, c1, e4, e2, w.mono fun a => by rw [e3]; omega, (Step.refl H z c).mono fun a => by rw [e3]; omega⟩⟩
  · exact h.elim
/-! ### a look: nothing is frozen by it -/
def ePk (F : EF) : EF := fun δ =>
  match F (frzE δ) with
  | .ok (.v (.fz d)) _ => if immut d then .ok (.fz d) δ else .bad
  | .ex n _ => .ex n δ
  | _ => .bad
theorem pk_wf (w : Wf H z c) : Wf H (fun a => z a ∨ 0 < c a) zero :=
  ⟨fun a q => by rcases q with q | q; exact w.zt a q; exact mut_ne (w.cm a q), fun _ _ => rfl, fun _ => Nat.zero_le _, fun _ q => absurd q (Nat.lt_irrefl _)⟩
theorem pk_back {δ1 : Env'} (hE : RpE K tb H z δ σ c) (w : Wf H z c) (h : Step H (fun a => z a ∨ 0 < c a) zero H' z' c') (w' : Wf H' z' c') :
    RpE K tb H' (fun a => z' a ∧ c a = 0) δ σ c ∧ Wf H' (fun a => z' a ∧ c a = 0) c ∧ Step H z c H' (fun a => z' a ∧ c a = 0) c := by
  have k : ∀ a, H a ≠ none → H' a = H a := fun a q => h.keep a q rfl
  refine ⟨hE.mono (fun a q => ⟨h.zin a (.inl q), w.zc a q⟩) (fun a q => k a (w.zt a q)) fun a q => k a (mut_ne (w.cm a q)), ⟨fun a q => w'.zt a q.1, fun a q => q.2, w.c1, fun a q => by rw [k a (mut_ne (w.cm a q))]; exact w.cm a q⟩,
    ⟨fun a q _ => k a q, fun a q => ⟨h.zin a (.inl q), w.zc a q⟩, fun a q => ?_, h.dom⟩⟩
  rcases q with ⟨q, q0⟩ | q
  · rcases h.src a (.inl q) with (r | r) | r | r
    · exact .inl r
    · omega
    · exact absurd r (Nat.lt_irrefl _)
    · exact .inr (.inr r)
  · exact .inr (.inl q)
theorem pk_imm {d : PD} {v : V} (w : Wf H z c) (h : Step H (fun a => z a ∨ 0 < c a) zero H' z' c') (hd : Fz K H' z' d v) (hi : immut d = true) : Fz K H' (fun a => z' a ∧ c a = 0) d v :=
  hd.immut (fun a q ⟨xs, r⟩ => ⟨q, by
    rcases Nat.eq_zero_or_pos (c a) with p | p
    · exact p
    · have m := w.cm a p
      rw [← h.keep a (mut_ne m) rfl] at m
      rcases r with r | ⟨o, r⟩ <;> (rw [r] at m; exact m.elim)⟩) hi
theorem de_peek {F : EF} (h : DE tb W X e F) : DE tb W X e (ePk F) := PE.wk h fun σ H Q ⟨δ, z, c, hE, w, h⟩ => by
  refine ⟨frzE δ, fun a => z a ∨ 0 < c a, zero, RpE.mono (fun _ q => q) (fun _ _ => rfl) (hE.freeze (fun _ => .inl) fun _ => .inr) (fun _ _ => rfl), pk_wf w, ?_⟩
  unfold ePk at h
  cases e : F (frzE δ) with
  | ok m δ1 =>
    rw [e] at h
    cases m with
    | v l =>
      cases l with
      | fz d =>
        intro v H' a
        obtain ⟨z1, c1, h1, h2, h3, h4⟩ := AftE.toP a
        dsimp only at h
        by_cases hi : immut d = true
        · rw [if_pos hi] at h
          obtain ⟨b1, b2, b3⟩ := pk_back (δ1 := δ1) hE w h4 h3
          exact h v H' (AftP.toE ⟨_, _, b1, pk_imm w h4 h2 hi, b2, b3⟩)
        · rw [if_neg hi] at h
          exact h.elim
      | lst _ => exact h.elim
      | dic _ => exact h.elim
    | o _ _ _ => exact h.elim
  | ex n δ1 =>
    rw [e] at h
    intro H' a
    obtain ⟨z1, c1, h1, h3, h4⟩ := a
    obtain ⟨b1, b2, b3⟩ := pk_back (δ1 := δ1) hE w h4 h3
    exact h H' ⟨_, _, b1, b2, b3⟩
  | bad => rw [e] at h; exact h.elim
def tPk (F : Env' → R Bool) : Env' → R Bool := fun δ =>
  match F (frzE δ) with
  | .ok b _ => .ok b δ
  | .ex n _ => .ex n δ
  | .bad => .bad
theorem dt_peek {F : Env' → R Bool} (h : DT tb W X e F) : DT tb W X e (tPk F) := PT.wk h fun σ H Q ⟨δ, z, c, hE, w, h⟩ => by
  refine ⟨frzE δ, fun a => z a ∨ 0 < c a, zero, hE.freeze (fun _ => .inl) fun _ => .inr, pk_wf w, ?_⟩
  unfold tPk at h
  cases e : F (frzE δ) with
  | ok b δ1 =>
    rw [e] at h
    intro H' ⟨z1, c1, h1, h3, h4⟩
    obtain ⟨b1, b2, b3⟩ := pk_back (δ1 := δ1) hE w h4 h3
    exact h H' ⟨_, _, b1, b2, b3⟩
  | ex n δ1 =>
    rw [e] at h
    intro H' ⟨z1, c1, h1, h3, h4⟩
    obtain ⟨b1, b2, b3⟩ := pk_back (δ1 := δ1) hE w h4 h3
    exact h H' ⟨_, _, b1, b2, b3⟩
  | bad => rw [e] at h; exact h.elim
end
end FS
namespace FS
open PySem PySem.Spec L2
/-! ### data that is plain and not too deep -/
mutual
def okN : Nat → PD → Bool
  | _, .none => true
  | _, .bool _ => true
  | _, .int _ => true
  | _, .str _ => true
  | 0, .list _ => false
  | n + 1, .list ds => okNs n ds
  | 0, .tuple _ => false
  | n + 1, .tuple ds => okNs n ds
  | _, .dict _ => false
def okNs : Nat → List PD → Bool
  | _, [] => true
  | n, d :: ds => okN n d && okNs n ds
end
mutual
theorem okN_plain : ∀ {n : Nat} {d : PD}, okN n d = true → d.plain = true ∧ d.depth ≤ n
  | n, .none, _ => ⟨rfl, by simp [PyData.depth]⟩
  | n, .bool _, _ => ⟨rfl, by simp [PyData.depth]⟩
  | n, .int _, _ => ⟨rfl, by simp [PyData.depth]⟩
  | n, .str _, _ => ⟨rfl, by simp [PyData.depth]⟩
  | 0, .list ds, h => by simp [okN] at h
  | n + 1, .list ds, h => by
    have q := okNs_plain (n := n) (d := ds) (by simpa [okN] using h)
    exact ⟨by simpa [PyData.plain] using q.1, by simp only [PyData.depth]; omega⟩
  | 0, .tuple ds, h => by simp [okN] at h
  | n + 1, .tuple ds, h => by
    have q := okNs_plain (n := n) (d := ds) (by simpa [okN] using h)
    exact ⟨by simpa [PyData.plain] using q.1, by simp only [PyData.depth]; omega⟩
  | n, .dict _, h => by cases n <;> simp [okN] at h
theorem okNs_plain : ∀ {n : Nat} {d : List PD}, okNs n d = true → PyData.plainAll d = true ∧ PyData.depthAll d ≤ n
  | n, [], _ => ⟨rfl, by simp [PyData.depthAll]⟩
  | n, d :: ds, h => by
    have h' := Bool.and_eq_true_iff.mp (show (okN n d && okNs n ds) = true by simpa [okNs] using h)
    have q := okN_plain (n := n) (d := d) h'.1
    have q2 := okNs_plain (n := n) (d := ds) h'.2
    exact ⟨by simp [PyData.plainAll, q.1, q2.1], by simp only [PyData.depthAll]; omega⟩
end
section
variable {K : PySem.W.Frag} {tb : Nat → Addr} {W : WX} {H H' : Hp} {z : Zn} {X : Cx} {pins : List (Addr × Obj)} {σ : St} {s : Shared}
/-! ### from frozen data to the library's readings -/
theorem KcL.sq {a : Addr} {vs : List V} (h : KcL K a vs) : SqL K H a vs := .inr h
theorem KcT.sq {a : Addr} {vs : List V} (h : KcT K a vs) : SqT K H a vs := .inr h
theorem sqL_of {a : Addr} {vs : List V} (h : (z a ∧ Rd H a (.lst vs)) ∨ KcL K a vs) : SqL K H a vs := h.elim (fun q => .inl q.2) KcL.sq
theorem sqT_of {a : Addr} {vs : List V} (h : (z a ∧ Rd H a (.tup vs)) ∨ KcT K a vs) : SqT K H a vs := h.elim (fun q => .inl q.2) .inr
mutual
theorem Fz.dp : ∀ {d : PD} {v : V}, Fz K H z d v → d.plain = true → Dp K H v d
  | _, _, .non, _ => .non
  | _, _, .bl b, _ => .bl b
  | _, _, .int i, _ => .int i
  | _, _, .str x, _ => .str x
  | _, _, .lst h r, e => .lst (sqL_of h) (FzA.dp r e)
  | _, _, .tup h r, e => .tup (.inl (.inl h.2)) (FzA.dp r e)
  | _, _, .dik _ _ _, e => absurd e Bool.false_ne_true
  | _, _, .dit _ _ _, e => absurd e Bool.false_ne_true
theorem FzA.dp : ∀ {d : List PD} {v : List V}, FzA K H z d v → PyData.plainAll d = true → DpAll K H v d
  | _, _, .nil, _ => .nil
  | _, _, .cons h r, e => by
    have e' := Bool.and_eq_true_iff.mp e
    exact .cons (Fz.dp h e'.1) (FzA.dp r e'.2)
end
theorem Fz.rd (I : Inv X pins σ H s) {d : PD} {v : V} {u : Value} (h : Fz X.K H z d v) (e : d.plain = true) (r : RelV v u) : ∃ as, Reads s.heap u d as := Dp.reads I d v u (h.dp e) r
theorem FzA.len : ∀ {d : List PD} {v : List V}, FzA K H z d v → d.length = v.length
  | _, _, .nil => rfl
  | _, _, .cons _ r => congrArg (· + 1) (FzA.len r)
theorem FzA.get : ∀ {d : List PD} {v : List V} {i : Nat} {x : PD}, FzA K H z d v → d[i]? = some x → ∃ y, v[i]? = some y ∧ Fz K H z x y
  | _, _, 0, _, .cons h _, e => by
    obtain rfl := Option.some.inj e
    exact ⟨_, rfl, h⟩
  | _, _, i + 1, _, .cons _ r, e => by
    obtain ⟨y, e1, q⟩ := FzA.get (i := i) r (by simpa using e)
    exact ⟨y, by simpa using e1, q⟩
theorem FzA.get' : ∀ {d : List PD} {v : List V} {i : Nat} {y : V}, FzA K H z d v → v[i]? = some y → ∃ x, d[i]? = some x ∧ Fz K H z x y
  | _, _, 0, _, .cons h _, e => by
    obtain rfl := Option.some.inj e
    exact ⟨_, rfl, h⟩
  | _, _, i + 1, _, .cons _ r, e => by
    obtain ⟨x, e1, q⟩ := FzA.get' (i := i) r (by simpa using e)
    exact ⟨x, by simpa using e1, q⟩
theorem FzA.app : ∀ {d d' : List PD} {v v' : List V}, FzA K H z d v → FzA K H z d' v' → FzA K H z (d ++ d') (v ++ v')
  | _, _, _, _, .nil, h => h
  | _, _, _, _, .cons h r, q => .cons h (FzA.app r q)
theorem FzA.take : ∀ {d : List PD} {v : List V} (n : Nat), FzA K H z d v → FzA K H z (d.take n) (v.take n)
  | _, _, 0, _ => .nil
  | _, _, _ + 1, .nil => .nil
  | _, _, n + 1, .cons h r => .cons h (FzA.take n r)
theorem FzA.drop : ∀ {d : List PD} {v : List V} (n : Nat), FzA K H z d v → FzA K H z (d.drop n) (v.drop n)
  | _, _, 0, h => h
  | _, _, _ + 1, .nil => .nil
  | _, _, n + 1, .cons _ r => FzA.drop n r
theorem FzA.rev {d : List PD} {v : List V} (h : FzA K H z d v) : FzA K H z d.reverse v.reverse := by
  have go : ∀ {d : List PD} {v : List V} {d' : List PD} {v' : List V}, FzA K H z d v → FzA K H z d' v' → FzA K H z (d.reverseAux d') (v.reverseAux v') := by
    intro d
    induction d with
    | nil =>
      intro v d' v' h q
      cases h
      exact q
    | cons x r ih =>
      intro v d' v' h q
      cases h with
      | cons h0 r0 => exact ih (v := _) (d' := x :: d') (v' := _ :: v') r0 (.cons h0 q)
  exact go h .nil
theorem FzA.rep {d : List PD} {v : List V} (h : FzA K H z d v) : ∀ k : Nat, FzA K H z (List.replicate k d).flatten (List.replicate k v).flatten
  | 0 => .nil
  | k + 1 => by
    rw [List.replicate_succ, List.replicate_succ, List.flatten_cons, List.flatten_cons]
    exact h.app (FzA.rep h k)
theorem Fz.list {ds : List PD} {v : V} (h : Fz K H z (.list ds) v) : ∃ a vs, v = .ref a ∧ ((z a ∧ Rd H a (.lst vs)) ∨ KcL K a vs) ∧ FzA K H z ds vs := by
  cases h with
  | lst h r => exact ⟨_, _, rfl, h, r⟩
theorem Fz.tuple {ds : List PD} {v : V} (h : Fz K H z (.tuple ds) v) : ∃ a vs, v = .ref a ∧ ((z a ∧ Rd H a (.tup vs)) ∨ KcT K a vs) ∧ FzA K H z ds vs := by
  cases h with
  | tup h r => exact ⟨_, _, rfl, .inl ⟨h.1, .inl h.2⟩, r⟩
theorem Fz.tupleP {ds : List PD} {v : V} (h : Fz K H z (.tuple ds) v) : ∃ a vs, v = .ref a ∧ z a ∧ H a = some (.tup vs) ∧ FzA K H z ds vs := by
  cases h with
  | tup h r => exact ⟨_, _, rfl, h.1, h.2, r⟩
theorem Fz.int_ {i : Int} {v : V} (h : Fz K H z (.int i) v) : v = .int i := by cases h; rfl
theorem Fz.str_ {i : Str} {v : V} (h : Fz K H z (.str i) v) : v = .str i := by cases h; rfl
theorem Fz.bool_ {i : Bool} {v : V} (h : Fz K H z (.bool i) v) : v = .bl i := by cases h; rfl
theorem Fz.ints : ∀ {ns : List Int} {vs : List V}, FzA K H z (ns.map .int) vs → vs = ns.map V.int
  | [], _, .nil => rfl
  | n :: ns, _, .cons h r => by rw [h.int_, Fz.ints (ns := ns) r]; rfl
theorem Fz.strs : ∀ {ns : List Str} {vs : List V}, FzA K H z (ns.map .str) vs → vs = ns.map V.str
  | [], _, .nil => rfl
  | n :: ns, _, .cons h r => by rw [h.str_, Fz.strs (ns := ns) r]; rfl
/-! ### the form of a rule over data -/
def rP (K : PySem.W.Frag) (tb : Nat → Addr) (g : PD → PD → Option M) : R2 := fun x y H Q =>
  ∃ z d1 d2 m, (∀ a, z a → H a ≠ none) ∧ Fz K H z d1 x ∧ Fz K H z d2 y ∧ g d1 d2 = some m ∧ ∀ v H', NewM K tb H z m v H' → Q v H'
def rU1 (K : PySem.W.Frag) (tb : Nat → Addr) (g : PD → Option M) : V → Hp → VK → Prop := fun x H Q =>
  ∃ z d m, (∀ a, z a → H a ≠ none) ∧ Fz K H z d x ∧ g d = some m ∧ ∀ v H', NewM K tb H z m v H' → Q v H'
def rC (K : PySem.W.Frag) (tb : Nat → Addr) (g : List PD → Option M) : List V → Hp → VK → Prop := fun xs H Q =>
  ∃ z ds m, (∀ a, z a → H a ≠ none) ∧ FzA K H z ds xs ∧ g ds = some m ∧ ∀ v H', NewM K tb H z m v H' → Q v H'
/-- a method of frozen data -/
def rM (K : PySem.W.Frag) (tb : Nat → Addr) (g : PD → List PD → Option M) : V → List V → Hp → VK → Prop := fun x xs H Q =>
  ∃ z d ds m, (∀ a, z a → H a ≠ none) ∧ Fz K H z d x ∧ FzA K H z ds xs ∧ g d ds = some m ∧ ∀ v H', NewM K tb H z m v H' → Q v H'
def eB2 (g : PD → PD → Option M) (F G : EF) : EF := fun δ => (F δ).p fun a δ1 => (G δ1).p fun b δ2 => match g a b with
  | some m => .ok m δ2
  | none => .bad
def eU1 (g : PD → Option M) (F : EF) : EF := fun δ => (F δ).p fun a δ1 => match g a with
  | some m => .ok m δ1
  | none => .bad
variable {a b e : Expr} {F G : EF} {pos : Pos}
theorem d2_of {g : PD → PD → Option M} {σ : St} {H : Hp} {Q : VK} (h : tD K tb W (eB2 g F G) σ H Q) : tOp (rP K tb g) (tD K tb W F) (tD K tb W G) σ H Q := by
  obtain ⟨δ, z, c, hE, w, h⟩ := h
  refine go_P hE w h fun d δ1 v H1 z1 c1 hE1 f1 w1 s1 h1 => ?_
  refine go_P hE1 w1 h1 fun d2 δ2 v2 H2 z2 c2 hE2 f2 w2 s2 h2 => ?_
  cases e : g d d2 with
  | none => rw [e] at h2; exact h2.elim
  | some m =>
    rw [e] at h2
    exact ⟨z2, d, d2, m, w2.zt, s2.fz w1 f1, f2, e, fun v H' q => h2 v H' (q.aft hE2 w2)⟩
theorem de_bin {op : Operator} {g : PD → PD → Option M} (ho : OpR X (binaryOp op) (rP X.K tb g)) (ha : DE tb W X a F) (hb : DE tb W X b G) : DE tb W X (.BinOp a op b pos) (eB2 g F G) :=
  (pe_op ho ha hb).wk fun _ _ _ => d2_of
theorem de_cmp {op : CmpOp} {g : PD → PD → Option M} (ho : OpR X (compareOp op) (rP X.K tb g)) (ha : DE tb W X a F) (hb : DE tb W X b G) (hm : behindInMarks op b = false) : DE tb W X (.Compare a [op] [b] pos) (eB2 g F G) :=
  (pe_cmpR ho ha hb hm).wk fun _ _ _ => d2_of
theorem de_un {op : UnaryOp} {g : PD → Option M} (ho : UnR X (unaryOp op) (rU1 X.K tb g)) (ha : DE tb W X a F) : DE tb W X (.UnaryOp op a pos) (eU1 g F) :=
  (pe_un ho ha).wk fun σ H Q ⟨δ, z, c, hE, w, h⟩ => go_P hE w h fun d δ1 v H1 z1 c1 hE1 f1 w1 s1 h1 => by
    cases e : g d with
    | none => rw [e] at h1; exact h1.elim
    | some m =>
      rw [e] at h1
      exact ⟨z1, d, m, w1.zt, f1, e, fun v H' q => h1 v H' (q.aft hE1 w1)⟩
theorem de_ix {g : PD → PD → Option M} (hr : IxR X (rP X.K tb g)) (ha : DE tb W X a F) (hb : DE tb W X b G) (hs : PlainIx b) : DE tb W X (.Subscript a b pos) (eB2 g F G) :=
  (pe_ix hr ha hb hs).wk fun _ _ _ => d2_of
/-! ### arithmetic -/
def big : Nat := 16777216
theorem big_eq : sizeLine = big := by rw [sizeLine_eq]; rfl
def mulOk (i j : Int) : Bool := decide (i.natAbs.log2 + j.natAbs.log2 < 1000000)
def divOk (j : Int) : Bool := decide (0 < j) && decide (j.natAbs.log2 < 9000)
def gAdd : PD → PD → Option M
  | .int i, .int j => some (.fz (.int (i + j)))
  | .str x, .str y => if x.length + y.length ≤ big then some (.fz (.str (x ++ y))) else none
  | .list xs, .list ys => if xs.length + ys.length ≤ big then some (.lst ((xs ++ ys).map .fz)) else none
  | .tuple xs, .tuple ys => if xs.length + ys.length ≤ big ∧ xs ≠ [] ∧ ys ≠ [] then some (.fz (.tuple (xs ++ ys))) else none
  | _, _ => none
def gSub : PD → PD → Option M
  | .int i, .int j => some (.fz (.int (i - j)))
  | _, _ => none
def gMul : PD → PD → Option M
  | .int i, .int j => if mulOk i j then some (.fz (.int (i * j))) else none
  | _, _ => none
def gDiv : PD → PD → Option M
  | .int i, .int j => if divOk j then some (.fz (.int (i / j))) else none
  | _, _ => none
def gMod : PD → PD → Option M
  | .int i, .int j => if 0 < j then some (.fz (.int (i % j))) else none
  | _, _ => none
def gPow : PD → PD → Option M
  | .int i, .int j => if 0 ≤ j ∧ j ≤ 1000000 ∧ i.natAbs < 2 ^ 64 then some (.fz (.int (i ^ j.toNat))) else none
  | _, _ => none
theorem new_int {i : Int} (hz : ∀ a, z a → H a ≠ none) : NewM K tb H z (.fz (.int i)) (.int i) H := NewM.at hz (.int i)
theorem new_bl {i : Bool} (hz : ∀ a, z a → H a ≠ none) : NewM K tb H z (.fz (.bool i)) (.bl i) H := NewM.at hz (.bl i)
theorem new_str {i : Str} (hz : ∀ a, z a → H a ≠ none) : NewM K tb H z (.fz (.str i)) (.str i) H := NewM.at hz (.str i)
theorem isL_of {h : Heap} {a : Addr} {its : Array Value} (p : PlainL h a its) : h.IsList a its := p.isList
theorem op_gSub : OpR X (binaryOp .Sub) (rP X.K tb gSub) := fun pins s σ H x y v u Q I rx ry ⟨z, d1, d2, m, hz, f1, f2, g, q⟩ => by
  unfold gSub at g
  split at g <;> cases g
  rw [f1.int_] at rx
  rw [f2.int_] at ry
  exact op_sub pins s σ H _ _ v u Q I rx ry ⟨_, _, rfl, rfl, q _ _ (new_int hz)⟩
theorem op_gDiv : OpR X (binaryOp .FloorDiv) (rP X.K tb gDiv) := fun pins s σ H x y v u Q I rx ry ⟨z, d1, d2, m, hz, f1, f2, g, q⟩ => by
  unfold gDiv at g
  split at g
  · split at g <;> cases g
    rename_i h
    have h' := Bool.and_eq_true_iff.mp h
    rw [f1.int_] at rx
    rw [f2.int_] at ry
    exact op_fdivW pins s σ H _ _ v u Q I rx ry ⟨_, _, rfl, rfl, ⟨of_decide_eq_true h'.1, of_decide_eq_true h'.2⟩, q _ _ (new_int hz)⟩
  · cases g
theorem op_gMod : OpR X (binaryOp .Mod) (rP X.K tb gMod) := fun pins s σ H x y v u Q I rx ry ⟨z, d1, d2, m, hz, f1, f2, g, q⟩ => by
  unfold gMod at g
  split at g
  · split at g <;> cases g
    rename_i h
    rw [f1.int_] at rx
    rw [f2.int_] at ry
    exact op_mod pins s σ H _ _ v u Q I rx ry ⟨_, _, rfl, rfl, h, q _ _ (new_int hz)⟩
  · cases g
theorem op_gPow : OpR X (binaryOp .Pow) (rP X.K tb gPow) := fun pins s σ H x y v u Q I rx ry ⟨z, d1, d2, m, hz, f1, f2, g, q⟩ => by
  unfold gPow at g
  split at g
  · split at g <;> cases g
    rename_i h
    rw [f1.int_] at rx
    rw [f2.int_] at ry
    exact op_pow pins s σ H _ _ v u Q I rx ry ⟨_, _, rfl, rfl, h, q _ _ (new_int hz)⟩
  · cases g
/-- a new list in the heap -/
theorem fin_lst (I : Inv X pins σ H s) {ds : List PD} {vs : List V} {its : List Value} {Q : VK} (hz : ∀ a, z a → H a ≠ none) (f : FzA X.K H z ds vs) (r : Vals vs its) (hl : vs.length ≤ sizeLine)
    (q : ∀ v H', NewM X.K tb H z (.lst (ds.map .fz)) v H' → Q v H') : EP X pins σ Q (.ref s.heap.objs.size) { s with heap := s.heap.push { cls := .type "list", data := .seq its.toArray } } :=
  ⟨.ref _, _, I.lnew (t' := s.toks) r hl, rfl, q _ _ (NewM.lst hz I.fresh f)⟩
theorem op_gAdd : OpR X (binaryOp .Add) (rP X.K tb gAdd) := fun pins s σ H x y v u Q I rx ry ⟨z, d1, d2, m, hz, f1, f2, g, q⟩ => by
  unfold gAdd at g
  split at g
  · cases g
    rw [f1.int_] at rx
    rw [f2.int_] at ry
    exact op_add pins s σ H _ _ v u Q I rx ry ⟨_, _, rfl, rfl, q _ _ (new_int hz)⟩
  · split at g <;> cases g
    rename_i h
    rw [f1.str_] at rx
    rw [f2.str_] at ry
    exact op_add_str pins s σ H _ _ v u Q I rx ry ⟨_, _, rfl, rfl, by rw [big_eq]; exact h, q _ _ (new_str hz)⟩
  · split at g <;> cases g
    rename_i h
    obtain ⟨l, xs, rfl, hH, f1⟩ := f1.list
    obtain ⟨b, zs, rfl, hB, f2⟩ := f2.list
    cases rx
    cases ry
    obtain ⟨its, r, pl, _⟩ := I.list (sqL_of hH)
    obtain ⟨its2, r2, pl2, _⟩ := I.list (sqL_of hB)
    obtain ⟨⟨c1, d1, t1, q1⟩, n, e, hc1, _, hd1⟩ := pl
    obtain ⟨⟨c2, d2, t2, q2⟩, n2, e2, hc2, _, hd2⟩ := pl2
    simp only at hc1 hd1 hc2 hd2
    subst hc1 hd1 hc2 hd2
    have l1 := f1.len
    have l2 := f2.len
    have l3 := r.length
    have l4 := r2.length
    refine PySem.concat_meets ⟨_, e, rfl⟩ ⟨_, e2, rfl⟩ noFill_list_add seq_list_add PySem.F.slot_list_add PySem.F.entry_list_add (PySem.F.args_list_add_2 _ _) (PyProof.Rows.list_addW l b its.toArray its2.toArray n n2 _ _ _ _ (by rw [List.size_toArray, List.size_toArray, big_eq]; omega)) ⟨e, e2, ?_⟩
    have ea : its.toArray ++ its2.toArray = (its ++ its2).toArray := by simp
    rw [ea]
    exact fin_lst I hz (f1.app f2) (r.append r2) (by rw [List.length_append, big_eq]; omega) q
  · split at g <;> cases g
    rename_i h
    obtain ⟨a, xs, rfl, hH, f1⟩ := f1.tuple
    obtain ⟨b, ys, rfl, hB, f2⟩ := f2.tuple
    have l1 := f1.len
    have l2 := f2.len
    have nx : xs ≠ [] := fun e => by rw [e] at f1; cases f1; exact h.2.1 rfl
    have ny : ys ≠ [] := fun e => by rw [e] at f2; cases f2; exact h.2.2 rfl
    exact op_catT pins s σ H _ _ v u Q I rx ry ⟨a, b, xs, ys, rfl, rfl, sqT_of hH, sqT_of hB, nx, by rw [big_eq]; omega, fun e => absurd e ny, fun _ p hp => q _ _ (NewM.tup hz hp (f1.app f2))⟩
  · cases g
theorem op_gMul : OpR X (binaryOp .Mult) (rP X.K tb gMul) := fun pins s σ H x y v u Q I rx ry ⟨z, d1, d2, m, hz, f1, f2, g, q⟩ => by
  unfold gMul at g
  split at g
  · split at g <;> cases g
    rename_i h
    rw [f1.int_] at rx
    rw [f2.int_] at ry
    exact op_mulW pins s σ H _ _ v u Q I rx ry ⟨_, _, rfl, rfl, (show _ < _ from of_decide_eq_true h), q _ _ (new_int hz)⟩
  · cases g
def gNeg : PD → Option M
  | .int i => some (.fz (.int (-i)))
  | _ => none
theorem un_gNeg : UnR X (unaryOp .USub) (rU1 X.K tb gNeg) := fun pins s σ H x v Q I rx ⟨z, d, m, hz, f, g, q⟩ => by
  unfold gNeg at g
  split at g <;> cases g
  rw [f.int_] at rx
  exact un_neg pins s σ H _ v Q I rx ⟨_, rfl, q _ _ (new_int hz)⟩
/-! ### comparisons -/
def gBool2 (ok : PD → PD → Bool) (f : PD → PD → Bool) : PD → PD → Option M := fun a b => if ok a b then some (.fz (.bool (f a b))) else none
def okEq (a b : PD) : Bool := okN 12 a && okN 12 b
def okLt (a b : PD) : Bool := PySem.W.alike a b && okN 12 a && okN 12 b && (match a with | .none => false | _ => true)
def gEq : PD → PD → Option M := gBool2 okEq PyData.eqv
def gNe : PD → PD → Option M := gBool2 okEq fun a b => !PyData.eqv a b
def gLt : PD → PD → Option M := gBool2 okLt PySem.W.dataLt
def gLe : PD → PD → Option M := gBool2 okLt fun a b => !PySem.W.dataLt b a
def gGt : PD → PD → Option M := gBool2 okLt fun a b => PySem.W.dataLt b a
def gGe : PD → PD → Option M := gBool2 okLt fun a b => !PySem.W.dataLt a b
theorem room12 {A : Around} {a b : Nat} (hu : A.units + 64 < cLine) (h : a ≤ 12) : A.units + 1 + min a b < cLine := by
  have := Nat.min_le_left a b
  omega
theorem op_bool2 {op : CmpOp} {ok f : PD → PD → Bool}
    (hr : ∀ (s : Shared) (Q : Value → Shared → Prop) (u v : Value) (a b : PD) (as bs : List Addr), ok a b = true → Reads s.heap u a as → Reads s.heap v b bs → Q (.bool (f a b)) s → wpAny (model X.prog X.w) X.A (compareOp op u v) Q X.xe s)
    (hp : ∀ a b, ok a b = true → a.plain = true ∧ b.plain = true) : OpR X (compareOp op) (rP X.K tb (gBool2 ok f)) := fun pins s σ H x y v u Q I rx ry ⟨z, d1, d2, m, hz, f1, f2, g, q⟩ => by
  unfold gBool2 at g
  split at g <;> cases g
  rename_i h
  obtain ⟨p1, p2⟩ := hp _ _ h
  obtain ⟨as, r1⟩ := f1.rd I p1 rx
  obtain ⟨bs, r2⟩ := f2.rd I p2 ry
  exact hr s _ v u d1 d2 as bs h r1 r2 ⟨.bl _, H, I, rfl, q _ _ (new_bl hz)⟩
theorem okEq_of {a b : PD} (h : okEq a b = true) : (a.plain = true ∧ a.depth ≤ 12) ∧ b.plain = true ∧ b.depth ≤ 12 := by
  have h' := Bool.and_eq_true_iff.mp h
  exact ⟨okN_plain h'.1, okN_plain h'.2⟩
theorem okLt_of {a b : PD} (h : okLt a b = true) : PySem.W.alike a b = true ∧ (a.plain = true ∧ a.depth ≤ 12) ∧ (b.plain = true ∧ b.depth ≤ 12) ∧ a ≠ .none := by
  unfold okLt at h
  simp only [Bool.and_eq_true] at h
  obtain ⟨⟨⟨h1, h2⟩, h3⟩, h4⟩ := h
  exact ⟨h1, okN_plain h2, okN_plain h3, fun e => by rw [e] at h4; exact absurd h4 Bool.false_ne_true⟩
theorem op_gEq (hu : X.A.units + 64 < cLine) : OpR X (compareOp .Eq) (rP X.K tb gEq) := op_bool2 (fun s Q u v a b as bs h r1 r2 q => by
  obtain ⟨⟨p1, e1⟩, p2, e2⟩ := okEq_of h
  exact SeqAt.eq_plain r1 r2 p1 p2 (by have := room12 (b := b.depth) hu e1; omega) q) fun a b h => ⟨(okEq_of h).1.1, (okEq_of h).2.1⟩
theorem op_gNe (hu : X.A.units + 64 < cLine) : OpR X (compareOp .NotEq) (rP X.K tb gNe) := op_bool2 (fun s Q u v a b as bs h r1 r2 q => by
  obtain ⟨⟨p1, e1⟩, p2, e2⟩ := okEq_of h
  exact SeqAt.ne_plain r1 r2 p1 p2 (by have := room12 (b := b.depth) hu e1; omega) q) fun a b h => ⟨(okEq_of h).1.1, (okEq_of h).2.1⟩
theorem op_gLt (hu : X.A.units + 64 < cLine) : OpR X (compareOp .Lt) (rP X.K tb gLt) := op_bool2 (fun s Q u v a b as bs h r1 r2 q => by
  obtain ⟨h1, ⟨p1, e1⟩, ⟨p2, e2⟩, hn⟩ := okLt_of h
  exact PySem.W.lt_data r1 r2 h1 hn (by have := room12 (b := b.depth) hu e1; omega) q) fun a b h => ⟨(okLt_of h).2.1.1, (okLt_of h).2.2.1.1⟩
theorem op_gLe (hu : X.A.units + 64 < cLine) : OpR X (compareOp .LtE) (rP X.K tb gLe) := op_bool2 (fun s Q u v a b as bs h r1 r2 q => by
  obtain ⟨h1, ⟨p1, e1⟩, ⟨p2, e2⟩, hn⟩ := okLt_of h
  exact PySem.W.le_data r1 r2 h1 hn (by have := room12 (b := b.depth) hu e1; omega) q) fun a b h => ⟨(okLt_of h).2.1.1, (okLt_of h).2.2.1.1⟩
theorem op_gGt (hu : X.A.units + 64 < cLine) : OpR X (compareOp .Gt) (rP X.K tb gGt) := op_bool2 (fun s Q u v a b as bs h r1 r2 q => by
  obtain ⟨h1, ⟨p1, e1⟩, ⟨p2, e2⟩, hn⟩ := okLt_of h
  exact PySem.W.gt_data r1 r2 h1 hn (by have := room12 (b := b.depth) hu e1; omega) q) fun a b h => ⟨(okLt_of h).2.1.1, (okLt_of h).2.2.1.1⟩
theorem op_gGe (hu : X.A.units + 64 < cLine) : OpR X (compareOp .GtE) (rP X.K tb gGe) := op_bool2 (fun s Q u v a b as bs h r1 r2 q => by
  obtain ⟨h1, ⟨p1, e1⟩, ⟨p2, e2⟩, hn⟩ := okLt_of h
  exact PySem.W.ge_data r1 r2 h1 hn (by have := room12 (b := b.depth) hu e1; omega) q) fun a b h => ⟨(okLt_of h).2.1.1, (okLt_of h).2.2.1.1⟩
/-- x is None -/
def isNone : PD → Bool
  | .none => true
  | _ => false
def gIs : PD → PD → Option M := gBool2 (fun _ b => isNone b) fun a _ => isNone a
def gIsNot : PD → PD → Option M := gBool2 (fun _ b => isNone b) fun a _ => !isNone a
theorem Fz.isNone {d : PD} {x : V} (h : Fz K H z d x) : decide (x = .non) = isNone d := by cases h <;> rfl
theorem op_gIs : OpR X (compareOp .Is) (rP X.K tb gIs) := fun pins s σ H x y v u Q I rx ry ⟨z, d1, d2, m, hz, f1, f2, g, q⟩ => by
  unfold gIs gBool2 at g
  split at g <;> cases g
  rename_i h
  have e : y = .non := of_decide_eq_true (f2.isNone.trans h)
  exact op_isN pins s σ H x y v u Q I rx ry ⟨e, by rw [f1.isNone]; exact q _ _ (new_bl hz)⟩
theorem op_gIsNot : OpR X (compareOp .IsNot) (rP X.K tb gIsNot) := fun pins s σ H x y v u Q I rx ry ⟨z, d1, d2, m, hz, f1, f2, g, q⟩ => by
  unfold gIsNot gBool2 at g
  split at g <;> cases g
  rename_i h
  have e : y = .non := of_decide_eq_true (f2.isNone.trans h)
  exact op_notN pins s σ H x y v u Q I rx ry ⟨e, by rw [f1.isNone]; exact q _ _ (new_bl hz)⟩
/-- x in xs: a list, a tuple; a sign in a text -/
def okIn (d c : PD) : Bool := match c with
  | .list ds => okN 12 d && okNs 12 ds
  | .tuple ds => okN 12 d && okNs 12 ds
  | _ => false
def isInD (d c : PD) : Bool := match c with
  | .list ds => ds.any fun y => PyData.eqv y d
  | .tuple ds => ds.any fun y => PyData.eqv y d
  | _ => false
def gInL : PD → PD → Option M := gBool2 okIn isInD
def gNinL : PD → PD → Option M := gBool2 okIn fun d c => !isInD d c
theorem okIn_plain (a b : PD) (h : okIn a b = true) : a.plain = true ∧ b.plain = true := by
  unfold okIn at h
  split at h
  · have h' := Bool.and_eq_true_iff.mp h
    exact ⟨(okN_plain h'.1).1, by simpa [PyData.plain] using (okNs_plain h'.2).1⟩
  · have h' := Bool.and_eq_true_iff.mp h
    exact ⟨(okN_plain h'.1).1, by simpa [PyData.plain] using (okNs_plain h'.2).1⟩
  · cases h
theorem op_gIn (hu : X.A.units + 64 < cLine) : OpR X (compareOp .In) (rP X.K tb gInL) := op_bool2 (fun s Q u v a b as bs h r1 r2 q => by
  unfold okIn at h
  split at h
  · have h' := Bool.and_eq_true_iff.mp h
    have h1 := okN_plain h'.1
    have h2 := okNs_plain h'.2
    exact SeqAt.in_list_data r2 r1 h2.1 h1.1 (room12 hu h2.2) q
  · have h' := Bool.and_eq_true_iff.mp h
    have h1 := okN_plain h'.1
    have h2 := okNs_plain h'.2
    exact SeqAt.in_tuple_data r2 r1 h2.1 h1.1 (room12 hu h2.2) q
  · cases h) okIn_plain
theorem op_gNin (hu : X.A.units + 64 < cLine) : OpR X (compareOp .NotIn) (rP X.K tb gNinL) := op_bool2 (fun s Q u v a b as bs h r1 r2 q => by
  unfold okIn at h
  split at h
  · have h' := Bool.and_eq_true_iff.mp h
    have h1 := okN_plain h'.1
    have h2 := okNs_plain h'.2
    exact SeqAt.notIn_list_data r2 r1 h2.1 h1.1 (room12 hu h2.2) q
  · have h' := Bool.and_eq_true_iff.mp h
    have h1 := okN_plain h'.1
    have h2 := okNs_plain h'.2
    exact SeqAt.notIn_tuple_data r2 r1 h2.1 h1.1 (room12 hu h2.2) q
  · cases h) okIn_plain
/-! ### an item -/
def gIx : PD → PD → Option M
  | .list ds, .int i => (atI ds i).map .fz
  | .tuple ds, .int i => (atI ds i).map .fz
  | .str x, .int i => if x.length ≤ big then (atI x.cps.toList i).map fun c => .fz (.str ⟨#[c]⟩) else none
  | _, _ => none
theorem atI_len {α β : Type} {xs : List α} {ys : List β} (h : xs.length = ys.length) {i : Int} {x : α} (e : atI xs i = some x) : ∃ j, ixN ys.length i = some j ∧ xs[j]? = some x := by
  unfold atI at e
  rw [h] at e
  cases q : ixN ys.length i with
  | none => rw [q] at e; cases e
  | some j => rw [q] at e; exact ⟨j, rfl, e⟩
theorem FzA.at {ds : List PD} {vs : List V} {i : Int} {d : PD} (f : FzA K H z ds vs) (e : atI ds i = some d) : ∃ v, atI vs i = some v ∧ Fz K H z d v := by
  obtain ⟨j, h1, h2⟩ := atI_len f.len e
  obtain ⟨v, h3, h4⟩ := f.get h2
  refine ⟨v, ?_, h4⟩
  unfold atI
  rw [h1]
  exact h3
theorem ix_gIx : IxR X (rP X.K tb gIx) := fun value slice pins s σ H x y v u Q I rx ry ⟨z, d1, d2, m, hz, f1, f2, g, q⟩ hs => by
  unfold gIx at g
  split at g
  · rename_i ds i
    cases e : atI ds i with
    | none => rw [e] at g; cases g
    | some d =>
      rw [e] at g
      cases g
      obtain ⟨a, vs, rfl, hH, f⟩ := f1.list
      obtain ⟨w, e2, f3⟩ := f.at e
      rw [f2.int_] at ry
      exact ix_list value slice pins s σ H _ _ v u Q I rx ry ⟨a, vs, i, w, rfl, rfl, sqL_of hH, e2, q _ _ (NewM.at hz f3)⟩ hs
  · rename_i ds i
    cases e : atI ds i with
    | none => rw [e] at g; cases g
    | some d =>
      rw [e] at g
      cases g
      obtain ⟨a, vs, rfl, hH, f⟩ := f1.tuple
      obtain ⟨w, e2, f3⟩ := f.at e
      rw [f2.int_] at ry
      exact ix_tup value slice pins s σ H _ _ v u Q I rx ry ⟨a, vs, i, w, rfl, rfl, sqT_of hH, e2, q _ _ (NewM.at hz f3)⟩ hs
  · rename_i z0 i
    split at g
    · rename_i hl
      cases e : atI z0.cps.toList i with
      | none => rw [e] at g; cases g
      | some d =>
        rw [e] at g
        cases g
        rw [f1.str_] at rx
        rw [f2.int_] at ry
        exact ix_str value slice pins s σ H _ _ v u Q I rx ry ⟨z0, i, d, rfl, rfl, by rw [big_eq]; exact hl, e, q _ _ (new_str hz)⟩ hs
    · cases g
  · cases g
end
end FS
namespace FS
open PySem PySem.Spec L2
section
variable {K : PySem.W.Frag} {tb : Nat → Addr} {W : WX} {H H' H1 : Hp} {z z' z1 : Zn} {c c' c1 : Ct} {σ : St} {δ δ' : Env'} {X : Cx} {pins : List (Addr × Obj)} {s : Shared}
variable {a b e : Expr} {F G : EF} {pos : Pos} {es : List Expr}
/-! ### tests -/
abbrev BF := Env' → R Bool
def tE (F : EF) : BF := fun δ => (F δ).p fun d δ1 => match d with
  | .bool b => .ok b δ1
  | _ => .bad
theorem test_of {Q : Bool → Hp → Prop} (h : tT K tb W (tE F) σ H Q) : tD K tb W F σ H fun x H' => ∃ k, x = .bl k ∧ Q k H' := by
  obtain ⟨δ, z, c, hE, w, h⟩ := h
  refine go_PB hE w h fun d δ1 v H1 z1 c1 hE1 f1 w1 s1 h1 => ?_
  cases d with
  | bool k => exact ⟨k, f1.bool_, h1 H1 ⟨z1, c1, hE1, w1, Step.refl _ _ _⟩⟩
  | _ => exact h1.elim
theorem dt_cmp {op : CmpOp} {g : PD → PD → Option M} (ho : OpR X (compareOp op) (rP X.K tb g)) (ha : DE tb W X a F) (hb : DE tb W X b G) (hm : behindInMarks op b = false) : DT tb W X (.Compare a [op] [b] pos) (tE (eB2 g F G)) :=
  (pt_cmpR ho ha hb hm).wk fun σ H Q h => d2_of (test_of h)
def truD : PD → Option Bool
  | .none => some false
  | .bool b => some b
  | .int i => some (i != 0)
  | .str x => if x.length ≤ big then some ((x.length : Int) != 0) else none
  | .list ds => some (!ds.isEmpty)
  | .tuple ds => some (!ds.isEmpty)
  | .dict _ => none
def tTru (F : EF) : BF := fun δ => (F δ).p fun d δ1 => match truD d with
  | some b => .ok b δ1
  | none => .bad
theorem FzA.emp {ds : List PD} {vs : List V} (f : FzA K H z ds vs) : ds.isEmpty = vs.isEmpty := by cases f <;> rfl
theorem Fz.tru {d : PD} {x : V} {k : Bool} (f : Fz K H z d x) (h : truD d = some k) : TruV K x H k := by
  unfold truD at h
  split at h
  · cases f; cases h; rfl
  · cases f; cases h; rfl
  · cases f; cases h; rfl
  · split at h
    · rename_i q
      cases h
      cases f
      exact ⟨by rw [big_eq]; exact q, rfl⟩
    · cases h
  · cases h
    cases f with
    | lst q r => exact .inl ⟨_, sqL_of q, by rw [r.emp]⟩
  · cases h
    cases f with
    | tup q r => exact .inr (.inl ⟨_, (Or.inl (Or.inl q.2)), by rw [r.emp]⟩)
  · cases h
theorem dt_tru (ha : DE tb W X a F) (he : ∀ whole, isTrue a X.env whole = (do let v ← whole; standAt a.pos; holding [v] (truthy v)) := by intro _; rfl) : DT tb W X a (tTru F) :=
  (pt_truth ha he).wk fun σ H Q ⟨δ, z, c, hE, w, h⟩ => go_PB hE w h fun d δ1 v H1 z1 c1 hE1 f1 w1 s1 h1 => by
    cases e : truD d with
    | none => rw [e] at h1; exact h1.elim
    | some k => rw [e] at h1; exact ⟨k, f1.tru e, h1 H1 ⟨z1, c1, hE1, w1, Step.refl _ _ _⟩⟩
theorem go_B {F : BF} {f : Bool → Env' → R Bool} {Q Q1 : Bool → Hp → Prop} (hE : RpE K tb H z δ σ c) (w : Wf H z c) (h : OutB K tb W H z c σ ((F δ).bind f) Q)
    (k : ∀ b δ1 H1 z1 c1, RpE K tb H1 z1 δ1 σ c1 → Wf H1 z1 c1 → Step H z c H1 z1 c1 → OutB K tb W H1 z1 c1 σ (f b δ1) Q → Q1 b H1) : tT K tb W F σ H Q1 := by
  refine ⟨δ, z, c, hE, w, ?_⟩
  cases e : F δ with
  | ok b δ1 =>
    rw [e] at h
    intro H' ⟨z1, c1, h1, h3, h4⟩
    exact k b δ1 H' z1 c1 h1 h3 h4 (OutB.step h4 h3 h)
  | ex n δ1 => rw [e] at h; exact h
  | bad => rw [e] at h; exact h.elim
theorem go_BE {F : BF} {f : Bool → Env' → R M} {Q : VK} {Q1 : Bool → Hp → Prop} (hE : RpE K tb H z δ σ c) (w : Wf H z c) (h : Out K tb W H z c σ ((F δ).bind f) Q)
    (k : ∀ b δ1 H1 z1 c1, RpE K tb H1 z1 δ1 σ c1 → Wf H1 z1 c1 → Step H z c H1 z1 c1 → Out K tb W H1 z1 c1 σ (f b δ1) Q → Q1 b H1) : tT K tb W F σ H Q1 := by
  refine ⟨δ, z, c, hE, w, ?_⟩
  cases e : F δ with
  | ok b δ1 =>
    rw [e] at h
    intro H' ⟨z1, c1, h1, h3, h4⟩
    exact k b δ1 H' z1 c1 h1 h3 h4 (Out.step h4 h3 h)
  | ex n δ1 => rw [e] at h; exact h
  | bad => rw [e] at h; exact h.elim
theorem outB_here {b : Bool} {Q : Bool → Hp → Prop} (hE : RpE K tb H z δ σ c) (w : Wf H z c) (h : OutB K tb W H z c σ (.ok b δ) Q) : Q b H := h H ⟨z, c, hE, w, Step.refl _ _ _⟩
def tNt (F : BF) : BF := fun δ => (F δ).bind fun b δ1 => .ok (!b) δ1
def tAn (F G : BF) : BF := fun δ => (F δ).bind fun b δ1 => if b then G δ1 else .ok false δ1
def tOr' (F G : BF) : BF := fun δ => (F δ).bind fun b δ1 => if b then .ok true δ1 else G δ1
variable {A B : BF} {rest : List Expr}
theorem dt_not (ha : DT tb W X a A) : DT tb W X (.UnaryOp .Not a pos) (tNt A) :=
  (pt_not ha).wk fun σ H Q ⟨δ, z, c, hE, w, h⟩ => go_B hE w h fun b δ1 H1 z1 c1 hE1 w1 s1 h1 => outB_here hE1 w1 h1
abbrev DW (tb : Nat → Addr) (W : WX) (X : Cx) (e : Expr) (F : BF) : Prop := PW X e (tT X.K tb W F)
theorem _root_.L2.PW.wk {t t' : TT} (h : PW X e t) (i : ∀ σ H Q, t' σ H Q → t σ H Q) : PW X e t' := ⟨fun wh pins s σ H Q I q => h.run wh pins s σ H Q I (i σ H Q q)⟩
theorem dw_and1 (ha : DT tb W X a A) : DW tb W X (.BoolOp .And [a] pos) A := pw_and1 ha
theorem dw_or1 (ha : DT tb W X a A) : DW tb W X (.BoolOp .Or [a] pos) A := pw_or1 ha
theorem dw_and (ha : DT tb W X a A) (hb : DW tb W X (.BoolOp .And (b :: rest) pos) B) : DW tb W X (.BoolOp .And (a :: b :: rest) pos) (tAn A B) :=
  (pw_and ha hb).wk fun σ H Q ⟨δ, z, c, hE, w, h⟩ => go_B hE w h fun b δ1 H1 z1 c1 hE1 w1 s1 h1 => by
    cases b with
    | true => rw [if_pos rfl]; exact ⟨δ1, z1, c1, hE1, w1, h1⟩
    | false => rw [if_neg Bool.false_ne_true]; exact outB_here hE1 w1 h1
theorem dw_or (ha : DT tb W X a A) (hb : DW tb W X (.BoolOp .Or (b :: rest) pos) B) : DW tb W X (.BoolOp .Or (a :: b :: rest) pos) (tOr' A B) :=
  (pw_or ha hb).wk fun σ H Q ⟨δ, z, c, hE, w, h⟩ => go_B hE w h fun b δ1 H1 z1 c1 hE1 w1 s1 h1 => by
    cases b with
    | true => rw [if_pos rfl]; exact outB_here hE1 w1 h1
    | false => rw [if_neg Bool.false_ne_true]; exact ⟨δ1, z1, c1, hE1, w1, h1⟩
theorem dw_t (h : DW tb W X e A) : DT tb W X e A := h.pt
/-- a test as a value -/
def eT (A : BF) : EF := fun δ => (A δ).bind fun b δ1 => .ok (.fz (.bool b)) δ1
def eIf (A : BF) (F G : EF) : EF := fun δ => (A δ).bind fun b δ1 => if b then F δ1 else G δ1
def eAn (F G : EF) : EF := fun δ => (F δ).p fun d δ1 => match d with
  | .bool true => G δ1
  | .bool false => .ok (.fz (.bool false)) δ1
  | _ => .bad
def eOr (F G : EF) : EF := fun δ => (F δ).p fun d δ1 => match d with
  | .bool true => .ok (.fz (.bool true)) δ1
  | .bool false => G δ1
  | _ => .bad
def eNt (F : EF) : EF := fun δ => (F δ).p fun d δ1 => match d with
  | .bool b => .ok (.fz (.bool (!b))) δ1
  | _ => .bad
variable {tc : Expr}
theorem de_if (hc : DT tb W X tc A) (ha : DE tb W X a F) (hb : DE tb W X b G) : DE tb W X (.IfExp tc a b pos) (eIf A F G) :=
  (pe_ifExp hc ha hb).wk fun σ H Q ⟨δ, z, c, hE, w, h⟩ => go_BE hE w h fun b δ1 H1 z1 c1 hE1 w1 s1 h1 => by
    cases b with
    | true => rw [if_pos rfl]; exact ⟨δ1, z1, c1, hE1, w1, h1⟩
    | false => rw [if_neg Bool.false_ne_true]; exact ⟨δ1, z1, c1, hE1, w1, h1⟩
theorem de_one {op} (ha : DE tb W X a F) : DE tb W X (.BoolOp op [a] pos) F := pe_one ha
theorem de_and (ha : DE tb W X a F) (hb : DE tb W X (.BoolOp .And (b :: rest) pos) G) : DE tb W X (.BoolOp .And (a :: b :: rest) pos) (eAn F G) :=
  (pe_and ha hb).wk fun σ H Q ⟨δ, z, c, hE, w, h⟩ => go_P hE w h fun d δ1 v H1 z1 c1 hE1 f1 w1 s1 h1 => by
    cases d with
    | bool k =>
      refine ⟨k, f1.bool_, ?_⟩
      cases k with
      | true => rw [if_pos rfl]; exact ⟨δ1, z1, c1, hE1, w1, h1⟩
      | false => rw [if_neg Bool.false_ne_true]; exact Out.const hE1 w1 (.bl false) h1
    | _ => exact h1.elim
theorem de_or (ha : DE tb W X a F) (hb : DE tb W X (.BoolOp .Or (b :: rest) pos) G) : DE tb W X (.BoolOp .Or (a :: b :: rest) pos) (eOr F G) :=
  (pe_or ha hb).wk fun σ H Q ⟨δ, z, c, hE, w, h⟩ => go_P hE w h fun d δ1 v H1 z1 c1 hE1 f1 w1 s1 h1 => by
    cases d with
    | bool k =>
      refine ⟨k, f1.bool_, ?_⟩
      cases k with
      | true => rw [if_pos rfl]; exact Out.const hE1 w1 (.bl true) h1
      | false => rw [if_neg Bool.false_ne_true]; exact ⟨δ1, z1, c1, hE1, w1, h1⟩
    | _ => exact h1.elim
theorem de_not (ha : DE tb W X a F) : DE tb W X (.UnaryOp .Not a pos) (eNt F) :=
  (pe_not ha).wk fun σ H Q ⟨δ, z, c, hE, w, h⟩ => go_P hE w h fun d δ1 v H1 z1 c1 hE1 f1 w1 s1 h1 => by
    cases d with
    | bool k => exact ⟨k, f1.bool_, Out.const hE1 w1 (.bl _) h1⟩
    | _ => exact h1.elim
/-- a < b < c -/
def eCh (g g' : PD → PD → Option M) (F G Hh : EF) : EF := fun δ => (F δ).p fun x δ1 => (G δ1).p fun y δ2 => match g x y with
  | some (.v (.fz (.bool true))) => (Hh δ2).p fun u δ3 => match g' y u with
    | some m => .ok m δ3
    | none => .bad
  | some (.v (.fz (.bool false))) => .ok (.fz (.bool false)) δ2
  | _ => .bad
variable {Hh : EF} {cc : Expr}
/-- a comparison's answer is a bool and makes nothing -/
def Cmp (g : PD → PD → Option M) : Prop := ∀ a b m, g a b = some m → ∃ k, m = .fz (.bool k)
theorem cmp_bool2 {ok f : PD → PD → Bool} : Cmp (gBool2 ok f) := fun a b m h => by
  unfold gBool2 at h
  split at h <;> cases h
  exact ⟨_, rfl⟩
theorem chain_of {g g' : PD → PD → Option M} (cg : Cmp g) {σ : St} {H : Hp} {Q : VK} (h : tD K tb W (eCh g g' F G Hh) σ H Q) :
    tChain (rP K tb g) (rP K tb g') (tD K tb W F) (tD K tb W G) (tD K tb W Hh) σ H Q := by
  obtain ⟨δ, z, c, hE, w, h⟩ := h
  refine go_P hE w h fun d δ1 v H1 z1 c1 hE1 f1 w1 s1 h1 => ?_
  refine go_P hE1 w1 h1 fun d2 δ2 v2 H2 z2 c2 hE2 f2 w2 s2 h2 => ?_
  cases e : g d d2 with
  | none => rw [e] at h2; exact h2.elim
  | some m =>
    rw [e] at h2
    obtain ⟨k, rfl⟩ := cg _ _ _ e
    refine ⟨z2, d, d2, _, w2.zt, s2.fz w1 f1, f2, e, fun x H3 nw => ?_⟩
    obtain ⟨z3, c3, cm, hE3, hR3, w3, s3⟩ := nw.aft hE2 w2
    have ex : x = .bl k := by
      cases hR3 with
      | v r => cases r with
        | fz r _ => exact r.bool_
    have s3' : Step H2 z2 c2 H3 z3 c3 := s3.mono fun a => Nat.le_add_right _ _
    have w3' : Wf H3 z3 c3 := w3.mono fun a => Nat.le_add_right _ _
    refine ⟨k, ex, ?_⟩
    cases k with
    | true =>
      rw [if_pos rfl]
      refine go_P hE3 w3' (Out.step s3' w3' h2) fun d4 δ4 v4 H4 z4 c4 hE4 f4 w4 s4 h4 => ?_
      cases e' : g' d2 d4 with
      | none => rw [e'] at h4; exact h4.elim
      | some m' =>
        rw [e'] at h4
        exact ⟨z4, d2, d4, m', w4.zt, s4.fz w3' (s3'.fz w2 f2), f4, e', fun v H' q => h4 v H' (q.aft hE4 w4)⟩
    | false =>
      rw [if_neg Bool.false_ne_true]
      rw [← ex]
      exact (Out.step s3' w3' h2) x H3 (NewM.aft hE3 w3' (NewM.at w3'.zt (ex ▸ .bl false)))
theorem de_chain {op op' : CmpOp} {g g' : PD → PD → Option M} (ho : OpR X (compareOp op) (rP X.K tb g)) (ho' : OpR X (compareOp op') (rP X.K tb g')) (cg : Cmp g) (ha : DE tb W X a F) (hb : DE tb W X b G) (hc : DE tb W X cc Hh)
    (hm : lastMarks [op, op'] [b, cc] = false := by with_unfolding_all rfl) : DE tb W X (.Compare a [op, op'] [b, cc] pos) (eCh g g' F G Hh) := (pe_chain ho ho' ha hb hc hm).wk fun _ _ _ => chain_of cg
theorem dt_chain {op op' : CmpOp} {g g' : PD → PD → Option M} (ho : OpR X (compareOp op) (rP X.K tb g)) (ho' : OpR X (compareOp op') (rP X.K tb g')) (cg : Cmp g) (ha : DE tb W X a F) (hb : DE tb W X b G) (hc : DE tb W X cc Hh)
    (hm : lastMarks [op, op'] [b, cc] = false := by with_unfolding_all rfl) : DT tb W X (.Compare a [op, op'] [b, cc] pos) (tE (eCh g g' F G Hh)) := (pt_chain ho ho' ha hb hc hm).wk fun _ _ _ h => chain_of cg (test_of h)
/-! ### arguments -/
/-- a value (frozen), or a name that is lent -/
inductive Arg where
  | val (m : M)
  | io (i : Nat)
inductive RpG (K : PySem.W.Frag) (tb : Nat → Addr) (H : Hp) (z : Zn) (σ : St) : List Arg → List V → Prop
  | nil : RpG K tb H z σ [] []
  | val {m : M} {v : V} {as : List Arg} {vs : List V} : Rp K tb H z m v zero → RpG K tb H z σ as vs → RpG K tb H z σ (.val m :: as) (v :: vs)
  | io {i : Nat} {v : V} {as : List Arg} {vs : List V} : σ[i]? = some (some v) → RpG K tb H z σ as vs → RpG K tb H z σ (.io i :: as) (v :: vs)
theorem RpG.mono (hz : ∀ a, z a → z' a) (hH : ∀ a, z a → H' a = H a) : ∀ {as : List Arg} {vs : List V}, RpG K tb H z σ as vs → RpG K tb H' z' σ as vs
  | _, _, .nil => .nil
  | _, _, .val h r => .val (h.mono hz hH fun _ q => absurd q (Nat.lt_irrefl _)) (RpG.mono hz hH r)
  | _, _, .io h r => .io h (RpG.mono hz hH r)
def pds : List Arg → Option (List PD)
  | [] => some []
  | .val (.v l) :: r => (pds r).map fun ds => l.pd :: ds
  | _ => none
theorem Rp.v0 {l : L} {v : V} (h : Rp K tb H z (.v l) v zero) : Fz K H z l.pd v := by
  cases h with
  | v r => exact r.freeze (fun _ q => q) fun _ q => absurd q (Nat.lt_irrefl _)
theorem RpG.pds : ∀ {as : List Arg} {vs : List V} {ds : List PD}, RpG K tb H z σ as vs → FS.pds as = some ds → FzA K H z ds vs
  | _, _, _, .nil, e => by cases e; exact .nil
  | _, _, _, .val (m := .v l) (as := as) h r, e => by
    cases q : FS.pds as with
    | none => simp [FS.pds, q] at e
    | some d2 =>
      simp only [FS.pds, q, Option.map_some, Option.some.injEq] at e
      subst e
      exact .cons h.v0 (RpG.pds r q)
  | _, _, _, .val (m := .o _ _ _) _ _, e => by cases e
  | _, _, _, .io _ _, e => by cases e
abbrev AF := Env' → R (List Arg)
def tA (K : PySem.W.Frag) (tb : Nat → Addr) (W : WX) (A : AF) : TA := fun σ H Q => ∃ δ z c, RpE K tb H z δ σ c ∧ Wf H z c ∧
  match A δ with
  | .ok as δ' => ∀ vs H' z' c', RpE K tb H' z' δ' σ c' → RpG K tb H' z' σ as vs → Wf H' z' c' → Step H z c H' z' c' → Q vs H'
  | .ex n δ' => ∀ H', Aft K tb H z c δ' σ H' → W (.ref (tb n)) none σ H'
  | .bad => False
abbrev DA (tb : Nat → Addr) (W : WX) (X : Cx) (es : List Expr) (A : AF) : Prop := PA X es (tA X.K tb W A)
theorem _root_.L2.PA.wk {t t' : TA} (h : PA X es t) (i : ∀ σ H Q, t' σ H Q → t σ H Q) : PA X es t' := ⟨fun p pins s σ H Q I q => h.run p pins s σ H Q I (i σ H Q q)⟩
def aN : AF := fun δ => .ok [] δ
def aV (F : EF) (A : AF) : AF := fun δ => (F δ).bind fun m δ1 => (A δ1).bind fun as δ2 => .ok (.val m.frz :: as) δ2
def aI (i : Nat) (A : AF) : AF := fun δ => (A δ).bind fun as δ2 => .ok (.io i :: as) δ2
theorem AftE.frzM {m : M} {v : V} (h : AftE K tb H z c δ' σ m v H') : ∃ z' c', RpE K tb H' z' δ' σ c' ∧ Rp K tb H' z' m.frz v zero ∧ Wf H' z' c' ∧ Step H z c H' z' c' := by
  obtain ⟨z1, c1, cm, hE, hR, hw, hs⟩ := h
  refine ⟨fun a => z1 a ∨ 0 < cm a, c1, hE.mono (fun _ => .inl) (fun _ _ => rfl) fun _ _ => rfl, hR.freeze (fun _ => .inl) fun _ => .inr, ⟨fun a q => ?_, fun a q => ?_, fun a => ?_, fun a q => ?_⟩, ⟨hs.keep, fun a q => .inl (hs.zin a q), fun a q => ?_, hs.dom⟩⟩
  · rcases q with q | q
    · exact hw.zt a q
    · exact mut_ne (hw.cm a (by show 0 < c1 a + cm a; omega))
  · rcases q with q | q
    · have q' : c1 a + cm a = 0 := hw.zc a q
      omega
    · have q' : c1 a + cm a ≤ 1 := hw.c1 a
      omega
  · have q' : c1 a + cm a ≤ 1 := hw.c1 a
    omega
  · exact hw.cm a (by show 0 < c1 a + cm a; omega)
  · refine hs.src a ?_
    show z1 a ∨ 0 < c1 a + cm a
    rcases q with (q | q) | q
    · exact .inl q
    · exact .inr (by omega)
    · exact .inr (by omega)
theorem da_nil : DA tb W X [] aN := pa_nil.wk fun σ H Q ⟨δ, z, c, hE, w, h⟩ => h [] H z c hE .nil w (Step.refl _ _ _)
theorem da_val {A : AF} (ha : DE tb W X e F) (hr : DA tb W X es A) (hs : starEach (e :: es) X.env = (false, eval e X.env) :: starEach es X.env := by rfl) : DA tb W X (e :: es) (aV F A) :=
  (pa_cons ha hr hs).wk fun σ H Q ⟨δ, z, c, hE, w, h⟩ => by
    refine ⟨δ, z, c, hE, w, ?_⟩
    cases e1 : F δ with
    | ok m δ1 =>
      intro v H1 af
      obtain ⟨z1, c1, hE1, f1, w1, s1⟩ := AftE.frzM af
      refine ⟨δ1, z1, c1, hE1, w1, ?_⟩
      cases e2 : A δ1 with
      | ok as δ2 =>
        intro vs H2 z2 c2 hE2 f2 w2 s2
        have h' : (aV F A) δ = .ok (.val m.frz :: as) δ2 := by unfold aV; rw [e1]; show (A δ1).bind _ = _; rw [e2]; rfl
        rw [h'] at h
        exact h (v :: vs) H2 z2 c2 hE2 (.val (f1.mono s2.zin (s2.on w1) fun _ q => absurd q (Nat.lt_irrefl _)) f2) w2 (s1.trans w1 s2)
      | ex n δ2 =>
        have h' : (aV F A) δ = .ex n δ2 := by unfold aV; rw [e1]; show (A δ1).bind _ = _; rw [e2]; rfl
        rw [h'] at h
        exact fun H' af' => h H' (af'.trans s1 w1)
      | bad =>
        have h' : (aV F A) δ = .bad := by unfold aV; rw [e1]; show (A δ1).bind _ = _; rw [e2]; rfl
        rw [h'] at h
        exact h
    | ex n δ1 =>
      have h' : (aV F A) δ = .ex n δ1 := by unfold aV; rw [e1]; rfl
      rw [h'] at h
      exact h
    | bad =>
      have h' : (aV F A) δ = .bad := by unfold aV; rw [e1]; rfl
      rw [h'] at h
      exact h
/-- a name that is lent: it must hold something -/
def aIo (i : Nat) (A : AF) : AF := fun δ => match δ[i]? with
  | some (some _) => (A δ).bind fun as δ2 => .ok (.io i :: as) δ2
  | _ => .bad
theorem da_io {A : AF} {i : Nat} (ha : PE X e (tVar i)) (hr : DA tb W X es A) (hs : starEach (e :: es) X.env = (false, eval e X.env) :: starEach es X.env := by rfl) : DA tb W X (e :: es) (aIo i A) :=
  (pa_cons ha hr hs).wk fun σ H Q ⟨δ, z, c, hE, w, h⟩ => by
    unfold aIo at h
    cases q : δ[i]? with
    | none => rw [q] at h; exact h.elim
    | some o =>
      rw [q] at h
      cases o with
      | none => exact h.elim
      | some m =>
        obtain ⟨v, c1, c2, e1, _⟩ := hE.get q
        refine ⟨v, e1, δ, z, c, hE, w, ?_⟩
        dsimp only at h
        cases e2 : A δ with
        | ok as δ2 =>
          rw [e2] at h
          exact fun vs H2 z2 c2 hE2 f2 w2 s2 => h (v :: vs) H2 z2 c2 hE2 (.io e1 f2) w2 s2
        | ex n δ2 => rw [e2] at h; exact h
        | bad => rw [e2] at h; exact h
/-! ### displays, calls of what is built in -/
def eDs (g : List PD → Option M) (A : AF) : EF := fun δ => (A δ).bind fun as δ1 => match pds as with
  | some ds => match g ds with
    | some m => .ok m δ1
    | none => .bad
  | none => .bad
theorem go_A {A : AF} {g : List PD → Option M} {Q : VK} {Q1 : List V → Hp → Prop} (hE : RpE K tb H z δ σ c) (w : Wf H z c) (h : Out K tb W H z c σ (eDs g A δ) Q)
    (k : ∀ ds m vs H1 z1, (∀ a, z1 a → H1 a ≠ none) → FzA K H1 z1 ds vs → g ds = some m → (∀ v H', NewM K tb H1 z1 m v H' → Q v H') → Q1 vs H1) : tA K tb W A σ H Q1 := by
  refine ⟨δ, z, c, hE, w, ?_⟩
  unfold eDs at h
  cases e : A δ with
  | ok as δ1 =>
    rw [e] at h
    intro vs H1 z1 c1 hE1 f1 w1 s1
    have h : Out K tb W H z c σ (match pds as with
      | some ds => match g ds with
        | some m => .ok m δ1
        | none => .bad
      | none => .bad) Q := h
    cases e2 : pds as with
    | none => rw [e2] at h; exact h.elim
    | some ds =>
      rw [e2] at h
      dsimp only at h
      cases e3 : g ds with
      | none => rw [e3] at h; exact h.elim
      | some m =>
        rw [e3] at h
        exact k ds m vs H1 z1 w1.zt (f1.pds e2) e3 fun v H' q => (Out.step s1 w1 h) v H' (q.aft hE1 w1)
  | ex n δ1 => rw [e] at h; exact h
  | bad => rw [e] at h; exact h
def gLst (ds : List PD) : Option M := if ds.length ≤ big then some (.lst (ds.map .fz)) else none
def gTup (ds : List PD) : Option M := if ds.length ≤ big then some (.fz (.tuple ds)) else none
theorem de_list {A : AF} (h : DA tb W X es A) : DE tb W X (.List es pos) (eDs gLst A) := (pe_lst h).wk fun σ H Q ⟨δ, z, c, hE, w, h⟩ => go_A hE w h fun ds m vs H1 z1 hz f g q => by
  unfold gLst at g
  split at g <;> cases g
  rename_i hl
  exact ⟨by rw [← f.len, big_eq]; exact hl, fun p hp => q _ _ (NewM.lst hz hp f)⟩
theorem de_tup {x1} {A : AF} (h : DA tb W X es A) : DE tb W X (.Tuple es x1 pos) (eDs gTup A) := (pe_tup h).wk fun σ H Q ⟨δ, z, c, hE, w, h⟩ => go_A hE w h fun ds m vs H1 z1 hz f g q => by
  unfold gTup at g
  split at g <;> cases g
  rename_i hl
  exact ⟨by rw [← f.len, big_eq]; exact hl, fun p hp => q _ _ (NewM.tup hz hp f)⟩
variable {x : Str} {p : Pos} {id T : String}
theorem de_callB {A : AF} {g : List PD → Option M} (hc : CallR X (.builtin id) (rC X.K tb g)) (hg : Gl X x) (hm : X.mg x = none) (hv : bootBuiltins x = some (.builtin id)) (ha : DA tb W X (e :: es) A) (hn : x ≠ "__name__" := by decide) (hdb : (x == ("__debug__" : Str)) = false := by decide)
    (he : starEach (e :: es) X.env = (false, eval e X.env) :: starEach es X.env := by rfl) (hpl : (backTo pos (starEach es X.env)).any (·.1) = false := by rfl) : DE tb W X (.Call (.Name x p) (e :: es) [] pos) (eDs g A) :=
  (pe_callB hc hg hm hv ha hn hdb he hpl).wk fun σ H Q ⟨δ, z, c, hE, w, h⟩ => go_A hE w h fun ds m vs H1 z1 hz f g q => ⟨z1, ds, m, hz, f, g, q⟩
theorem de_callTy {A : AF} {g : List PD → Option M} (hc : CallR X (.type T) (rC X.K tb g)) (hg : Gl X x) (hm : X.mg x = none) (hv : bootBuiltins x = some (.type T)) (ha : DA tb W X (e :: es) A) (hn : x ≠ "__name__" := by decide) (hdb : (x == ("__debug__" : Str)) = false := by decide)
    (he : starEach (e :: es) X.env = (false, eval e X.env) :: starEach es X.env := by rfl) (hpl : (backTo pos (starEach es X.env)).any (·.1) = false := by rfl) : DE tb W X (.Call (.Name x p) (e :: es) [] pos) (eDs g A) :=
  (pe_callTy hc hg hm hv ha hn hdb he hpl).wk fun σ H Q ⟨δ, z, c, hE, w, h⟩ => go_A hE w h fun ds m vs H1 z1 hz f g q => ⟨z1, ds, m, hz, f, g, q⟩
def gLen : List PD → Option M
  | [.list ds] => some (.fz (.int ds.length))
  | [.tuple ds] => some (.fz (.int ds.length))
  | [.str s] => if s.length ≤ big then some (.fz (.int s.length)) else none
  | _ => none
theorem FzA.one {d : PD} {vs : List V} (f : FzA K H z [d] vs) : ∃ v, vs = [v] ∧ Fz K H z d v := by
  cases f with
  | cons h r => cases r; exact ⟨_, rfl, h⟩
theorem FzA.two {d d2 : PD} {vs : List V} (f : FzA K H z [d, d2] vs) : ∃ v v2, vs = [v, v2] ∧ Fz K H z d v ∧ Fz K H z d2 v2 := by
  cases f with
  | cons h r =>
    obtain ⟨v2, rfl, h2⟩ := FzA.one r
    exact ⟨_, _, rfl, h, h2⟩
theorem cr_gLen : CallR X (.builtin "len") (rC X.K tb gLen) := fun pins s σ H xs us Q I r ⟨z, ds, m, hz, f, g, q⟩ => by
  unfold gLen at g
  split at g
  · cases g
    obtain ⟨v, rfl, f1⟩ := f.one
    obtain ⟨a, vs, rfl, hH, f2⟩ := f1.list
    exact call_len_seq pins s σ H _ us Q I r ⟨a, vs, rfl, .inl (sqL_of hH), by rw [← f2.len]; exact q _ _ (new_int hz)⟩
  · cases g
    obtain ⟨v, rfl, f1⟩ := f.one
    obtain ⟨a, vs, rfl, hH, f2⟩ := f1.tuple
    exact call_len_seq pins s σ H _ us Q I r ⟨a, vs, rfl, .inr (sqT_of hH), by rw [← f2.len]; exact q _ _ (new_int hz)⟩
  · split at g <;> cases g
    rename_i hl
    obtain ⟨v, rfl, f1⟩ := f.one
    rw [f1.str_] at r
    exact call_len_str pins s σ H _ us Q I r ⟨_, rfl, by rw [big_eq]; exact hl, q _ _ (new_int hz)⟩
  · cases g
end
end FS
namespace FS
open PySem PySem.Spec L2
inductive SR where
  | nx (δ : Env')
  | rt (m : M) (δ : Env')
  | bk (δ : Env')
  | ct (δ : Env')
  | ex (n : Nat) (δ : Env')
  | bad
abbrev SF := Env' → SR
def R.s {α : Type} (r : R α) (f : α → Env' → SR) : SR :=
  match r with
  | .ok a δ => f a δ
  | .ex n δ => .ex n δ
  | .bad => .bad
def pinOk (pin : List (Nat × V)) (σ : St) : Prop := ∀ p ∈ pin, σ[p.1]? = some (some p.2)
section
variable (K : PySem.W.Frag) (tb : Nat → Addr) (pin : List (Nat × V)) (W : WX)
def AftS (H : Hp) (z : Zn) (c : Ct) (δ' : Env') (σ' : St) (H' : Hp) : Prop := pinOk pin σ' ∧ Aft K tb H z c δ' σ' H'
def AftR (H : Hp) (z : Zn) (c : Ct) (δ' : Env') (m : M) (v : V) (σ' : St) (H' : Hp) : Prop := pinOk pin σ' ∧ AftE K tb H z c δ' σ' m v H'
def OutS (H : Hp) (z : Zn) (c : Ct) (r : SR) (D : Ends) : Prop :=
  match r with
  | .nx δ' => ∀ σ' H', AftS K tb pin H z c δ' σ' H' → D.nx σ' H'
  | .rt m δ' => ∀ v σ' H', AftR K tb pin H z c δ' m v σ' H' → D.rt v H'
  | .bk δ' => ∀ σ' H', AftS K tb pin H z c δ' σ' H' → D.bk σ' H'
  | .ct δ' => ∀ σ' H', AftS K tb pin H z c δ' σ' H' → D.ct σ' H'
  | .ex n δ' => ∀ σ' H', AftS K tb pin H z c δ' σ' H' → W (.ref (tb n)) none σ' H'
  | .bad => False
def tS (S : SF) : TS := fun D σ H => pinOk pin σ ∧ ∃ δ z c, RpE K tb H z δ σ c ∧ Wf H z c ∧ OutS K tb pin W H z c (S δ) D
end
section
variable {K : PySem.W.Frag} {tb : Nat → Addr} {pin : List (Nat × V)} {W : WX} {H H' H1 : Hp} {z z' z1 : Zn} {c c' c1 : Ct} {σ σ1 : St} {δ δ' : Env'} {X : Cx} {D : Ends}
variable {a b e : Expr} {F G : EF} {pos : Pos} {es : List Expr} {st : Stmt} {rest body : List Stmt} {S T U : SF} {A : BF}
abbrev DS (tb : Nat → Addr) (pin : List (Nat × V)) (W : WX) (X : Cx) (st : Stmt) (S : SF) : Prop := PS X st (tS X.K tb pin W S)
abbrev DB (tb : Nat → Addr) (pin : List (Nat × V)) (W : WX) (X : Cx) (st : List Stmt) (S : SF) : Prop := PSs X st (tS X.K tb pin W S)
theorem _root_.L2.PSs.wk {st : List Stmt} {t t' : TS} (h : PSs X st t) (i : ∀ D σ H, t' D σ H → t D σ H) : PSs X st t' := ⟨fun pins s σ H D I q => h.run pins s σ H D I (i D σ H q)⟩
theorem OutS.step {r : SR} (s : Step H z c H1 z1 c1) (w : Wf H1 z1 c1) (h : OutS K tb pin W H z c r D) : OutS K tb pin W H1 z1 c1 r D := by
  cases r with
  | nx δ' => exact fun σ' H' a => h σ' H' ⟨a.1, a.2.trans s w⟩
  | rt m δ' => exact fun v σ' H' a => h v σ' H' ⟨a.1, a.2.trans s w⟩
  | bk δ' => exact fun σ' H' a => h σ' H' ⟨a.1, a.2.trans s w⟩
  | ct δ' => exact fun σ' H' a => h σ' H' ⟨a.1, a.2.trans s w⟩
  | ex n δ' => exact fun σ' H' a => h σ' H' ⟨a.1, a.2.trans s w⟩
  | bad => exact h
/-- an expression in a statement -/
theorem go_S {f : M → Env' → SR} {Q1 : VK} (hp : pinOk pin σ) (hE : RpE K tb H z δ σ c) (w : Wf H z c) (h : OutS K tb pin W H z c ((F δ).s f) D)
    (k : ∀ m δ1 v H1 z1 c1 cm, RpE K tb H1 z1 δ1 σ c1 → Rp K tb H1 z1 m v cm → Wf H1 z1 (fun a => c1 a + cm a) → Step H z c H1 z1 (fun a => c1 a + cm a) → OutS K tb pin W H1 z1 (fun a => c1 a + cm a) (f m δ1) D → Q1 v H1) : tD K tb W F σ H Q1 := by
  refine ⟨δ, z, c, hE, w, ?_⟩
  cases e : F δ with
  | ok m δ1 =>
    rw [e] at h
    intro v H' ⟨z1, c1, cm, h1, h2, h3, h4⟩
    exact k m δ1 v H' z1 c1 cm h1 h2 h3 h4 (OutS.step h4 h3 h)
  | ex n δ1 => rw [e] at h; exact fun H' a => h σ H' ⟨hp, a⟩
  | bad => rw [e] at h; exact h.elim
theorem go_SB {f : Bool → Env' → SR} {Q1 : Bool → Hp → Prop} (hp : pinOk pin σ) (hE : RpE K tb H z δ σ c) (w : Wf H z c) (h : OutS K tb pin W H z c ((A δ).s f) D)
    (k : ∀ b δ1 H1 z1 c1, RpE K tb H1 z1 δ1 σ c1 → Wf H1 z1 c1 → Step H z c H1 z1 c1 → OutS K tb pin W H1 z1 c1 (f b δ1) D → Q1 b H1) : tT K tb W A σ H Q1 := by
  refine ⟨δ, z, c, hE, w, ?_⟩
  cases e : A δ with
  | ok b δ1 =>
    rw [e] at h
    intro H' ⟨z1, c1, h1, h3, h4⟩
    exact k b δ1 H' z1 c1 h1 h3 h4 (OutS.step h4 h3 h)
  | ex n δ1 => rw [e] at h; exact fun H' a => h σ H' ⟨hp, a⟩
  | bad => rw [e] at h; exact h.elim
/-! ### blocks -/
def sNl : SF := fun δ => .nx δ
def sSq (S T : SF) : SF := fun δ => match S δ with
  | .nx δ1 => T δ1
  | r => r
theorem seq_of (h : tS K tb pin W (sSq S T) D σ H) : tSeq (tS K tb pin W S) (tS K tb pin W T) D σ H := by
  obtain ⟨hp, δ, z, c, hE, w, h⟩ := h
  refine ⟨hp, δ, z, c, hE, w, ?_⟩
  unfold sSq at h
  cases e : S δ with
  | nx δ1 =>
    rw [e] at h
    intro σ' H' ⟨hp', z1, c1, hE1, w1, s1⟩
    exact ⟨hp', δ1, z1, c1, hE1, w1, OutS.step s1 w1 h⟩
  | rt m δ1 => rw [e] at h; exact h
  | bk δ1 => rw [e] at h; exact h
  | ct δ1 => rw [e] at h; exact h
  | ex n δ1 => rw [e] at h; exact h
  | bad => rw [e] at h; exact h
theorem db_nil : DB tb pin W X [] sNl := pss_nil.wk fun D σ H ⟨hp, δ, z, c, hE, w, h⟩ => h σ H ⟨hp, z, c, hE, w, Step.refl _ _ _⟩
theorem db_one (h : DS tb pin W X st S) : DB tb pin W X [st] S := pss_one h
theorem db_cons (h : DS tb pin W X st S) (r : DB tb pin W X rest T) : DB tb pin W X (st :: rest) (sSq S T) := (pss_cons h r).wk fun _ _ _ => seq_of
theorem ds_pass : DS tb pin W X (.Pass pos) sNl := ps_pass.wk fun D σ H ⟨hp, δ, z, c, hE, w, h⟩ => h σ H ⟨hp, z, c, hE, w, Step.refl _ _ _⟩
def sBk : SF := fun δ => .bk δ
def sCt : SF := fun δ => .ct δ
theorem ds_break : DS tb pin W X (.Break pos) sBk := ps_break.wk fun D σ H ⟨hp, δ, z, c, hE, w, h⟩ => h σ H ⟨hp, z, c, hE, w, Step.refl _ _ _⟩
theorem ds_cont : DS tb pin W X (.Continue pos) sCt := ps_continue.wk fun D σ H ⟨hp, δ, z, c, hE, w, h⟩ => h σ H ⟨hp, z, c, hE, w, Step.refl _ _ _⟩
def sEx (F : EF) : SF := fun δ => (F δ).s fun _ δ1 => .nx δ1
theorem ds_expr (he : DE tb W X e F) (hs : swapsWith e none pos.line X.env = pure false := by rfl) : DS tb pin W X (.Expr e pos) (sEx F) :=
  (ps_expr he hs).wk fun D σ H ⟨hp, δ, z, c, hE, w, h⟩ => go_S hp hE w h fun m δ1 v H1 z1 c1 cm hE1 r1 w1 s1 h1 => h1 σ H1 ⟨hp, z1, c1, hE1, w1.mono fun _ => Nat.le_add_right _ _, (Step.refl _ _ _).mono fun _ => Nat.le_add_right _ _⟩
def sRt (F : EF) : SF := fun δ => (F δ).s fun m δ1 => .rt m δ1
theorem ds_ret (he : DE tb W X e F) : DS tb pin W X (.Return (some e) pos) (sRt F) :=
  (ps_ret he).wk fun D σ H ⟨hp, δ, z, c, hE, w, h⟩ => go_S hp hE w h fun m δ1 v H1 z1 c1 cm hE1 r1 w1 s1 h1 => h1 v σ H1 ⟨hp, z1, c1, cm, hE1, r1, w1, Step.refl _ _ _⟩
def sRn : SF := fun δ => .rt (.fz .none) δ
theorem ds_retN : DS tb pin W X (.Return none pos) sRn := ps_retN.wk fun D σ H ⟨hp, δ, z, c, hE, w, h⟩ => h .non σ H ⟨hp, NewM.aft hE w (NewM.at w.zt .non)⟩
def sIf (A : BF) (S T : SF) : SF := fun δ => (A δ).s fun b δ1 => if b then S δ1 else T δ1
theorem ds_if {x y : List Stmt} (hc : DT tb W X e A) (ha : DB tb pin W X x S) (hb : DB tb pin W X y T) : DS tb pin W X (.If e x y pos) (sIf A S T) :=
  (ps_if hc ha hb).wk fun D σ H ⟨hp, δ, z, c, hE, w, h⟩ => go_SB hp hE w h fun b δ1 H1 z1 c1 hE1 w1 s1 h1 => by
    cases b with
    | true => rw [if_pos rfl]; exact ⟨hp, δ1, z1, c1, hE1, w1, h1⟩
    | false => rw [if_neg Bool.false_ne_true]; exact ⟨hp, δ1, z1, c1, hE1, w1, h1⟩
/-! ### names stored -/
theorem pin_set {i : Nat} {x : Option V} (h : pinOk pin σ) (hi : (pin.all fun p => decide (p.1 ≠ i)) = true) : pinOk pin (σ.set i x) := fun p hp => by
  have q := of_decide_eq_true (List.all_eq_true.mp hi p hp)
  rw [List.getElem?_set_ne (Ne.symm q)]
  exact h p hp
theorem aft_set {i : Nat} {m : M} {v : V} {cm : Ct} (hE : RpE K tb H z δ σ c) (hl : i < δ.length) (r : Rp K tb H z m v cm) : ∃ c', RpE K tb H z (δ.set i (some m)) (σ.set i (some v)) c' ∧ ∀ a, c' a ≤ c a + cm a := by
  obtain ⟨c2, h1, h2⟩ := hE.drop i
  exact ⟨_, RpE.store h2 hl r, fun a => by have := h1 a; show cm a + c2 a ≤ _; omega⟩
def sAs (i : Nat) (F : EF) : SF := fun δ => (F δ).s fun m δ1 => if i < δ1.length then .nx (δ1.set i (some m)) else .bad
theorem asg_of {i : Nat} (hi : (pin.all fun p => decide (p.1 ≠ i)) = true) (h : tS K tb pin W (sAs i F) D σ H) : tAsg (tD K tb W F) (gName i) D σ H := by
  obtain ⟨hp, δ, z, c, hE, w, h⟩ := h
  refine go_S hp hE w h fun m δ1 v H1 z1 c1 cm hE1 r1 w1 s1 h1 => ?_
  split at h1
  · rename_i hl
    obtain ⟨c', h2, h3⟩ := aft_set hE1 hl r1
    exact h1 _ H1 ⟨pin_set hp hi, z1, c', h2, w1.mono h3, (Step.refl _ _ _).mono h3⟩
  · exact h1.elim
theorem ds_set {i : Nat} {x : Str} {pos' : Pos} (hN : X.N.Nodup) (hi : X.N[i]? = some x) (hx : Loc X.env.scope x) (hpn : (pin.all fun p => decide (p.1 ≠ i)) = true) (he : DE tb W X e F) (hs : swapsWith e (some (.Name x pos')) pos.line X.env = pure false := by rfl) (hf : X.fn x = true ∨ X.env.scope.names.lookup x = some .local := by first | exact .inl rfl | exact .inr rfl | assumption) :
    DS tb pin W X (.Assign [.Name x pos'] e pos) (sAs i F) := (ps_set hN hi hx he hs hf).wk fun D σ H => asg_of hpn
/-- targets -/
def tGd (K : PySem.W.Frag) (tb : Nat → Addr) (pin : List (Nat × V)) (is : List Nat) (G : PD → Env' → Option Env') : TG := fun v σ H Q =>
  ∃ δ z c d δ', RpE K tb H z δ σ c ∧ Wf H z c ∧ Fz K H z d v ∧ G d δ = some δ' ∧ ∀ σ' c', RpE K tb H z δ' σ' c' → (∀ a, c' a ≤ c a) → (pinOk pin σ → pinOk pin σ') → (∀ vs, (∀ i ∈ is, i ∈ vs) → wipe σ' vs = wipe σ vs) → Q σ' H
abbrev DG (tb : Nat → Addr) (pin : List (Nat × V)) (X : Cx) (tg : Expr) (is : List Nat) (G : PD → Env' → Option Env') : Prop := PG X tg (tGd X.K tb pin is G)
theorem wipe_set {i : Nat} {x : Option V} : ∀ {vs : List Nat} {σ : St}, i ∈ vs → wipe (σ.set i x) vs = wipe σ vs
  | v :: vs, σ, h => by
    unfold wipe
    by_cases hv : i ∈ vs
    · rw [wipe_set hv]
    · have e : i = v := (List.mem_cons.mp h).resolve_right hv
      subst e
      have go : ∀ {vs : List Nat}, i ∉ vs → wipe (σ.set i x) vs = (wipe σ vs).set i x := by
        intro vs
        induction vs with
        | nil => intro _; rfl
        | cons w vs ih =>
          intro hn
          unfold wipe
          rw [ih fun q => hn (List.mem_cons_of_mem _ q), List.set_comm]
          rintro rfl
          exact hn List.mem_cons_self
      rw [go hv, List.set_set]
theorem _root_.L2.PG.wk {tg : Expr} {t t' : TG} (h : PG X tg t) (i : ∀ v σ H Q, t' v σ H Q → t v σ H Q) : PG X tg t' := ⟨fun pins s σ H v u Q I r q => h.run pins s σ H v u Q I r (i v σ H Q q)⟩
def gN (i : Nat) : PD → Env' → Option Env' := fun d δ => if i < δ.length then some (δ.set i (some (.fz d))) else none
theorem dg_name {i : Nat} {x : Str} (hN : X.N.Nodup) (hi : X.N[i]? = some x) (hx : Loc X.env.scope x) (hpn : (pin.all fun p => decide (p.1 ≠ i)) = true) (hf : X.fn x = true ∨ X.env.scope.names.lookup x = some .local := by first | exact .inl rfl | exact .inr rfl | assumption) : DG tb pin X (.Name x pos) [i] (gN i) :=
  (pg_name hN hi hx hf).wk fun v σ H Q ⟨δ, z, c, d, δ', hE, w, f, g, q⟩ => by
    unfold gN at g
    split at g <;> cases g
    rename_i hl
    obtain ⟨c', h2, h3⟩ := aft_set hE hl (.v (.fz f fun _ => rfl : RpL _ _ _ (.fz d) v zero) : Rp _ tb _ _ _ _ _)
    exact q _ c' h2 (fun a => by have := h3 a; exact this) (fun h => pin_set h hpn) fun vs hv => wipe_set (hv i List.mem_cons_self)
/-- several names -/
def setAll : List Nat → List PD → Env' → Option Env'
  | [], [], δ => some δ
  | i :: is, d :: ds, δ => if i < δ.length then setAll is ds (δ.set i (some (.fz d))) else none
  | _, _, _ => none
def gNs : List Nat → TGs
  | [] => gNil
  | i :: is => gCons (gName i) (gNs is)
def gUp (is : List Nat) : PD → Env' → Option Env' := fun d δ => match d with
  | .tuple ds => setAll is ds δ
  | .list ds => setAll is ds δ
  | _ => none
theorem setAll_len : ∀ {is : List Nat} {ds : List PD} {δ δ' : Env'}, setAll is ds δ = some δ' → ds.length = is.length
  | [], [], _, _, _ => rfl
  | i :: is, d :: ds, δ, δ', h => by
    unfold setAll at h
    split at h
    · simp [setAll_len h]
    · cases h
  | [], _ :: _, _, _, h => by cases h
  | _ :: _, [], _, _, h => by cases h
theorem setAll_of : ∀ {is : List Nat} {ds : List PD} {δ δ' : Env'} {σ : St} {c : Ct} {vs : List V} {Q : St → Hp → Prop}, setAll is ds δ = some δ' → FzA K H z ds vs → RpE K tb H z δ σ c → Wf H z c → (is.all fun i => pin.all fun p => decide (p.1 ≠ i)) = true →
    (∀ σ' c', RpE K tb H z δ' σ' c' → (∀ a, c' a ≤ c a) → (pinOk pin σ → pinOk pin σ') → (∀ vs, (∀ i ∈ is, i ∈ vs) → wipe σ' vs = wipe σ vs) → Q σ' H) → gNs is vs σ H Q
  | [], [], _, _, _, c, _, Q, h, f, hE, _, _, q => by
    cases h
    cases f
    exact ⟨rfl, q _ c hE (fun _ => Nat.le_refl _) id fun _ _ => rfl⟩
  | i :: is, d :: ds, δ, δ', σ, c, _, Q, h, f, hE, w, hp, q => by
    unfold setAll at h
    split at h
    · rename_i hl
      cases f with
      | cons f1 f2 =>
        have hp' := Bool.and_eq_true_iff.mp (show ((pin.all fun p => decide (p.1 ≠ i)) && is.all fun i => pin.all fun p => decide (p.1 ≠ i)) = true from hp)
        obtain ⟨c1, h2, h3⟩ := aft_set hE hl (.v (.fz f1 fun _ => rfl : RpL _ _ _ (.fz d) _ zero) : Rp _ tb _ _ _ _ _)
        have h3' : ∀ a, c1 a ≤ c a := fun a => h3 a
        exact ⟨_, _, rfl, setAll_of h f2 h2 (w.mono h3') hp'.2 fun σ' c' a1 a2 a3 a4 => q σ' c' a1 (fun a => Nat.le_trans (a2 a) (h3' a)) (fun hh => a3 (pin_set hh hp'.1)) fun vs hv => (a4 vs fun j hj => hv j (List.mem_cons_of_mem _ hj)).trans (wipe_set (hv i List.mem_cons_self))⟩
    · cases h
  | [], _ :: _, _, _, _, _, _, _, h, _, _, _, _, _ => by cases h
  | _ :: _, [], _, _, _, _, _, _, h, _, _, _, _, _ => by cases h
theorem dg_tup {is : List Nat} {k : Nat} {n : Nat} (hc : X.calm = true) (h : PGs X es (gNs is)) (hpn : (is.all fun i => pin.all fun p => decide (p.1 ≠ i)) = true)
    (hn : (assignEach es X.env).length = is.length := by rfl) (hst : (assignEach es X.env).findIdx? (·.1) = none := by rfl) : DG tb pin X (.Tuple es k pos) is (gUp is) := by
  refine ⟨fun pins s σ H v u Q I r ⟨δ, z, c, d, δ', hE, w, f, g, q⟩ => ?_⟩
  unfold gUp at g
  split at g
  · obtain ⟨a, vs, rfl, hH, f2⟩ := f.tuple
    exact (pg_tup hc h hn hst).run pins s σ H _ u Q I r ⟨a, vs, rfl, sqT_of hH, by rw [← f2.len]; exact setAll_len g, setAll_of g f2 hE w hpn q⟩
  · obtain ⟨a, vs, rfl, hH, f2⟩ := f.list
    exact (pg_lst hc h hn hst).run pins s σ H _ u Q I r ⟨a, vs, rfl, sqL_of hH, by rw [← f2.len]; exact setAll_len g, setAll_of g f2 hE w hpn q⟩
  · cases g
/-- target = e, by the target's rule (the value is frozen) -/
def sAg (G : PD → Env' → Option Env') (F : EF) : SF := fun δ => match F δ with
  | .ok (.v l) δ1 => (match G l.pd δ1 with
    | some δ2 => .nx δ2
    | none => .bad)
  | .ok _ _ => .bad
  | .ex n δ1 => .ex n δ1
  | .bad => .bad
theorem ds_asg {tg : Expr} {is : List Nat} {G : PD → Env' → Option Env'} (he : DE tb W X e F) (hg : DG tb pin X tg is G) (hs : swapsWithSole [tg] e pos.line X.env = pure false := by rfl) (hw : swappedStores [tg] e X.env = pure none := by rfl)
    (h1 : (assignEach [tg] X.env).map (·.2) = [assign tg X.env] := by rfl) : DS tb pin W X (.Assign [tg] e pos) (sAg G F) :=
  (ps_asg he hg hs hw h1).wk fun D σ H ⟨hp, δ, z, c, hE, w, h⟩ => by
    refine ⟨δ, z, c, hE, w, ?_⟩
    unfold sAg at h
    cases e1 : F δ with
    | ok m δ1 =>
      rw [e1] at h
      cases m with
      | v l =>
        intro v H1 a
        obtain ⟨z1, c1, hE1, f1, w1, s1⟩ := AftE.toP a
        dsimp only at h
        cases e2 : G l.pd δ1 with
        | none => rw [e2] at h; exact h.elim
        | some δ2 =>
          rw [e2] at h
          exact ⟨δ1, z1, c1, l.pd, δ2, hE1, w1, f1, e2, fun σ' c' h3 h4 h5 _ => h σ' H1 ⟨h5 hp, z1, c', h3, w1.mono h4, s1.mono h4⟩⟩
      | o _ _ _ => exact h.elim
    | ex n δ1 => rw [e1] at h; exact fun H' a => h σ H' ⟨hp, a⟩
    | bad => rw [e1] at h; exact h.elim
/-! ### what is walked -/
def ItS (K : PySem.W.Frag) (J : It) (H : Hp) (z : Zn) (ds : List PD) : Prop :=
  ∃ vs, FzA K H z ds vs ∧ ∀ H', (∀ a, z a → H' a = H a) → (∀ i v, vs[i]? = some v → J.go i H') ∧ (∀ i v x H'', vs[i]? = some v → J.yld i H' x H'' → H'' = H' ∧ x = v) ∧ ∀ i, vs.length ≤ i → J.stop i H'
abbrev IF := Env' → R (List PD)
def tI (K : PySem.W.Frag) (tb : Nat → Addr) (W : WX) (F : IF) : TI := fun σ H Rr => ∃ δ z c, RpE K tb H z δ σ c ∧ Wf H z c ∧
  match F δ with
  | .ok ds δ' => ∀ J H' z' c', RpE K tb H' z' δ' σ c' → Wf H' z' c' → Step H z c H' z' c' → ItS K J H' z' ds → Rr J H'
  | .ex n δ' => ∀ H', Aft K tb H z c δ' σ H' → W (.ref (tb n)) none σ H'
  | .bad => False
abbrev DI (tb : Nat → Addr) (W : WX) (X : Cx) (tg e : Expr) (F : IF) : Prop := PI X tg e (tI X.K tb W F)
theorem _root_.L2.PI.wk {tg : Expr} {t t' : TI} (h : PI X tg e t) (i : ∀ σ H Q, t' σ H Q → t σ H Q) : PI X tg e t' := ⟨fun pins s σ H Q I q => h.run pins s σ H Q I (i σ H Q q)⟩
theorem its_list {a : Addr} {vs : List V} {ds : List PD} (h : (z a ∧ Rd H a (.lst vs)) ∨ KcL K a vs) (f : FzA K H z ds vs) : ItS K (Itl K a) H z ds := by
  refine ⟨vs, f, fun H' hz => ?_⟩
  have hs : SqL K H' a vs := sqL_of (z := z) (h.imp (fun q => ⟨q.1, Rd.eq q.2 (hz _ q.1)⟩) id)
  exact ⟨fun i v e => ⟨vs, v, hs, e⟩, fun i v x H'' e ⟨y1, y2⟩ => ⟨y1, Option.some.inj ((y2 vs hs).symm.trans e)⟩, fun i hi => ⟨vs, hs, hi⟩⟩
theorem its_tup {a : Addr} {vs : List V} {ds : List PD} (h : (z a ∧ Rd H a (.tup vs)) ∨ KcT K a vs) (f : FzA K H z ds vs) : ItS K (Itt K a) H z ds := by
  refine ⟨vs, f, fun H' hz => ?_⟩
  have hs : SqT K H' a vs := sqT_of (z := z) (h.imp (fun q => ⟨q.1, Rd.eq q.2 (hz _ q.1)⟩) id)
  exact ⟨fun i v e => ⟨vs, v, hs, e⟩, fun i v x H'' e ⟨y1, y2⟩ => ⟨y1, Option.some.inj ((y2 vs hs).symm.trans e)⟩, fun i hi => ⟨vs, hs, hi⟩⟩
theorem FzA.intsV : ∀ ns : List Int, FzA K H z (ns.map .int) (ns.map V.int)
  | [] => .nil
  | n :: ns => .cons (.int n) (FzA.intsV ns)
theorem FzA.strsV : ∀ ns : List Str, FzA K H z (ns.map .str) (ns.map V.str)
  | [] => .nil
  | n :: ns => .cons (.str n) (FzA.strsV ns)
def rangeD (lo : Int) (n : Nat) : List PD := (List.range n).map fun i => .int (lo + (i : Nat))
theorem its_range {lo : Int} {n : Nat} : ItS K (Itr lo n) H z (rangeD lo n) := by
  refine ⟨(List.range n).map fun i => V.int (lo + (i : Nat)), ?_, fun H' hz => ⟨fun i v e => ?_, fun i v x H'' e ⟨y1, y2⟩ => ?_, fun i hi => by show n ≤ i; simpa using hi⟩⟩
  · have := FzA.intsV (K := K) (H := H) (z := z) ((List.range n).map fun i => lo + (i : Nat))
    simpa [rangeD, List.map_map, Function.comp_def] using this
  · have h := (List.getElem?_eq_some_iff.mp e).1
    show i < n
    simpa using h
  · refine ⟨y1, ?_⟩
    obtain ⟨h, e⟩ := List.getElem?_eq_some_iff.mp e
    rw [y2, ← e]
    simp
def signs (x : Str) : List Str := x.cps.toList.map fun c => ⟨#[c]⟩
theorem its_str {x : Str} : ItS K (Its x) H z ((signs x).map .str) := by
  refine ⟨(signs x).map V.str, FzA.strsV _, fun H' hz => ⟨fun i v e => ?_, fun i v y H'' e ⟨y1, k, y2, y3⟩ => ⟨y1, ?_⟩, fun i hi => by show x.cps.size ≤ i; simpa [signs] using hi⟩⟩
  · have h := (List.getElem?_eq_some_iff.mp e).1
    show i < x.cps.size
    simpa [signs] using h
  · obtain ⟨h, e⟩ := List.getElem?_eq_some_iff.mp e
    rw [y3, ← e]
    have h' : i < x.cps.size := by simpa [signs] using h
    rw [Array.getElem?_eq_getElem h'] at y2
    have y2 := Option.some.inj y2
    simp [signs, ← y2]
def seqD : PD → Option (List PD)
  | .list ds => some ds
  | .tuple ds => some ds
  | .str x => some ((signs x).map .str)
  | _ => none
def iE (F : EF) : IF := fun δ => (F δ).p fun d δ1 => match seqD d with
  | some ds => .ok ds δ1
  | none => .bad
theorem di_seq {tg : Expr} (ha : DE tb W X e F) : DI tb W X tg e (iE F) := by
  refine ⟨fun pins s σ H Rr I ⟨δ, z, c, hE, w, h⟩ => ?_⟩
  unfold iE at h
  cases e1 : F δ with
  | ok m δ1 =>
    rw [e1] at h
    cases m with
    | v l =>
      have h : match (match seqD l.pd with
        | some ds => R.ok ds δ1
        | none => R.bad : R (List PD)) with
        | .ok ds δ' => ∀ J H' z' c', RpE X.K tb H' z' δ' σ c' → Wf H' z' c' → Step H z c H' z' c' → ItS X.K J H' z' ds → Rr J H'
        | .ex n δ' => ∀ H', Aft X.K tb H z c δ' σ H' → W (.ref (tb n)) none σ H'
        | .bad => False := h
      cases q : l.pd with
      | list ds =>
        rw [q] at h
        refine (pi_list ha).run pins s σ H Rr I ⟨δ, z, c, hE, w, ?_⟩
        rw [e1]
        intro v H' a
        obtain ⟨z1, c1, h1, h2, h3, h4⟩ := AftE.toP a
        rw [q] at h2
        obtain ⟨p, vs, rfl, hH, f⟩ := h2.list
        exact ⟨p, rfl, ⟨vs, sqL_of hH⟩, h (Itl X.K p) H' z1 c1 h1 h3 h4 (its_list hH f)⟩
      | tuple ds =>
        rw [q] at h
        refine (pi_tup ha).run pins s σ H Rr I ⟨δ, z, c, hE, w, ?_⟩
        rw [e1]
        intro v H' a
        obtain ⟨z1, c1, h1, h2, h3, h4⟩ := AftE.toP a
        rw [q] at h2
        obtain ⟨p, vs, rfl, hH, f⟩ := h2.tuple
        exact ⟨p, rfl, ⟨vs, sqT_of hH⟩, h (Itt X.K p) H' z1 c1 h1 h3 h4 (its_tup hH f)⟩
      | str x =>
        rw [q] at h
        refine (pi_str ha).run pins s σ H Rr I ⟨δ, z, c, hE, w, ?_⟩
        rw [e1]
        intro v H' a
        obtain ⟨z1, c1, h1, h2, h3, h4⟩ := AftE.toP a
        rw [q] at h2
        exact ⟨x, h2.str_, h (Its x) H' z1 c1 h1 h3 h4 its_str⟩
      | none => rw [q] at h; exact h.elim
      | bool _ => rw [q] at h; exact h.elim
      | int _ => rw [q] at h; exact h.elim
      | dict _ => rw [q] at h; exact h.elim
    | o own t fs => exact h.elim
  | ex n δ1 =>
    rw [e1] at h
    refine (pi_list ha).run pins s σ H Rr I ⟨δ, z, c, hE, w, ?_⟩
    rw [e1]
    exact h
  | bad => rw [e1] at h; exact h.elim
/-- range(..) -/
def small62 (i : Int) : Bool := decide (-(2 ^ 62) ≤ i) && decide (i < 2 ^ 62)
def rng1 : List PD → Option (List PD)
  | [.int j] => if small62 j then some (rangeD 0 j.toNat) else none
  | _ => none
def rng2 : List PD → Option (List PD)
  | [.int i, .int j] => if small62 i && small62 j then some (rangeD i (j - i).toNat) else none
  | _ => none
def rangeDn (hi : Int) (n : Nat) : List PD := (List.range n).map fun i => .int (hi - (i : Nat))
/-- range(i, j, -1) -/
def rng3 : List PD → Option (List PD)
  | [.int i, .int j, .int k] => if small62 i && small62 j && decide (k = -1) then some (rangeDn i (i - j).toNat) else none
  | _ => none
def iR (rng : List PD → Option (List PD)) (A : AF) : IF := fun δ => (A δ).bind fun as δ1 => match pds as with
  | some ds => match rng ds with
    | some rs => .ok rs δ1
    | none => .bad
  | none => .bad
variable {Af : AF} {p : Pos} {tg : Expr}
theorem go_R {rng : List PD → Option (List PD)} {Rr : It → Hp → Prop} {Q1 : List V → Hp → Prop} (h : tI K tb W (iR rng Af) σ H Rr)
    (k : ∀ ds rs vs H1 z1, FzA K H1 z1 ds vs → rng ds = some rs → (∀ J, ItS K J H1 z1 rs → Rr J H1) → Q1 vs H1) : tA K tb W Af σ H Q1 := by
  obtain ⟨δ, z, c, hE, w, h⟩ := h
  refine ⟨δ, z, c, hE, w, ?_⟩
  unfold iR at h
  cases e : Af δ with
  | ok as δ1 =>
    rw [e] at h
    intro vs H1 z1 c1 hE1 f1 w1 s1
    cases e2 : pds as with
    | none => simp only [R.bind, e2] at h
    | some ds =>
      cases e3 : rng ds with
      | none => simp only [R.bind, e2, e3] at h
      | some rs =>
        simp only [R.bind, e2, e3] at h
        exact k ds rs vs H1 z1 (f1.pds e2) e3 fun J hJ => h J H1 z1 c1 hE1 w1 s1 hJ
  | ex n δ1 => rw [e] at h; exact h
  | bad => rw [e] at h; exact h.elim
theorem small62_of {i : Int} (h : small62 i = true) : -(2 ^ 62) ≤ i ∧ i < 2 ^ 62 := by
  have h' := Bool.and_eq_true_iff.mp h
  exact ⟨of_decide_eq_true h'.1, of_decide_eq_true h'.2⟩
theorem di_range1 (hg : Gl X "range") (hm : X.mg "range" = none) (ha : DA tb W X [a] Af) (hs : starEach [a] X.env = [(false, eval a X.env)] := by rfl) : DI tb W X tg (.Call (.Name "range" p) [a] [] pos) (iR rng1 Af) :=
  (pi_range1 hg hm ha hs).wk fun σ H Q h => go_R h fun ds rs vs H1 z1 f g q => by
    unfold rng1 at g
    split at g
    · split at g <;> cases g
      rename_i j hj
      obtain ⟨v, rfl, f1⟩ := f.one
      obtain ⟨h1, h2⟩ := small62_of hj
      exact ⟨_, by rw [f1.int_], h1, h2, q _ its_range⟩
    · cases g
theorem di_range2 (hg : Gl X "range") (hm : X.mg "range" = none) (ha : DA tb W X [a, b] Af) (hs : starEach [a, b] X.env = [(false, eval a X.env), (false, eval b X.env)] := by rfl) (hs2 : starEach [b] X.env = [(false, eval b X.env)] := by rfl) :
    DI tb W X tg (.Call (.Name "range" p) [a, b] [] pos) (iR rng2 Af) :=
  (pi_range2 hg hm ha hs hs2).wk fun σ H Q h => go_R h fun ds rs vs H1 z1 f g q => by
    unfold rng2 at g
    split at g
    · split at g <;> cases g
      rename_i i j hj
      obtain ⟨v, v2, rfl, f1, f2⟩ := f.two
      have hj' := Bool.and_eq_true_iff.mp hj
      obtain ⟨h1, h2⟩ := small62_of hj'.1
      obtain ⟨h3, h4⟩ := small62_of hj'.2
      exact ⟨_, _, by rw [f1.int_, f2.int_], ⟨h1, h2, h3, h4⟩, q _ its_range⟩
    · cases g
/-! ### for -/
def sLoop (G : PD → Env' → Option Env') (S : SF) : List PD → SF
  | [], δ => .nx δ
  | d :: ds, δ => match G d δ with
    | none => .bad
    | some δ1 => match S δ1 with
      | .nx δ2 => sLoop G S ds δ2
      | .ct δ2 => sLoop G S ds δ2
      | .bk δ2 => .nx δ2
      | r => r
def sFor (F : IF) (G : PD → Env' → Option Env') (S : SF) : SF := fun δ => (F δ).s fun ds δ1 => sLoop G S ds δ1
theorem ds_for {is : List Nat} {G : PD → Env' → Option Env'} {tg iter : Expr} {If : IF} (hp : PassesOwn (model X.prog X.w) X.A X.env X.xe) (hc : X.calm = true) (hi : DI tb W X tg iter If) (hg : DG tb pin X tg is G) (hb : DB tb pin W X body S)
    (hs : ∀ x, foldedSetIterable iter X.env x = pure x := by intro _; rfl) : DS tb pin W X (.For tg iter body [] pos) (sFor If G S) :=
  (ps_for hp hc hi hg hb hs).wk fun D σ H ⟨hpo, δ, z, c, hE, w, h⟩ => by
    refine ⟨δ, z, c, hE, w, ?_⟩
    unfold sFor at h
    cases e1 : If δ with
    | bad => rw [e1] at h; exact h.elim
    | ex n δ1 => rw [e1] at h; exact fun H' a => h σ H' ⟨hpo, a⟩
    | ok ds δ1 =>
      rw [e1] at h
      intro J H1 z1 c1 hE1 w1 s1 ⟨vs, fv, hJ⟩
      have h : OutS X.K tb pin W H z c (sLoop G S ds δ1) D := h
      have h := OutS.step s1 w1 h
      have hlen := fv.len
      refine ⟨fun i m σ2 H2 => m = vs.length - i ∧ i ≤ vs.length ∧ pinOk pin σ2 ∧ ∃ δ2 z2 c2, RpE X.K tb H2 z2 δ2 σ2 c2 ∧ Wf H2 z2 c2 ∧ Step H1 z1 c1 H2 z2 c2 ∧ OutS X.K tb pin W H2 z2 c2 (sLoop G S (ds.drop i) δ2) D,
        ⟨vs.length, by simp, Nat.zero_le _, hpo, δ1, z1, c1, hE1, w1, Step.refl _ _ _, by simpa using h⟩, ?_⟩
      rintro i m σ2 H2 ⟨rfl, hi, hp2, δ2, z2, c2, hE2, w2, s2, h2⟩
      obtain ⟨j1, j2, j3⟩ := hJ H2 (s2.on w1)
      by_cases hlt : i < vs.length
      · have hv : vs[i]? = some vs[i] := List.getElem?_eq_getElem hlt
        refine .inr ⟨j1 i _ hv, fun σ' H' => (pinOk pin σ' ∧ ∃ δ3 z3 c3, RpE X.K tb H' z3 δ3 σ' c3 ∧ Wf H' z3 c3 ∧ Step H1 z1 c1 H' z3 c3 ∧ OutS X.K tb pin W H' z3 c3 (sLoop G S (ds.drop (i + 1)) δ3) D),
          fun σ' H' q => ⟨vs.length - (i + 1), by omega, rfl, hlt, q⟩, fun x H' y => ?_⟩
        obtain ⟨hH, rfl⟩ := j2 i _ x H' hv y
        have hH := hH.symm
        subst hH
        obtain ⟨d, hd, fd⟩ := fv.get' hv
        have hds : ds.drop i = d :: ds.drop (i + 1) := by
          obtain ⟨hh, e⟩ := List.getElem?_eq_some_iff.mp hd
          rw [← e]
          exact List.drop_eq_getElem_cons hh
        rw [hds] at h2
        unfold sLoop at h2
        cases e2 : G d δ2 with
        | none => rw [e2] at h2; exact h2.elim
        | some δ3 =>
          rw [e2] at h2
          dsimp only at h2
          refine ⟨δ2, z2, c2, d, δ3, hE2, w2, fd.mono s2.zin (s2.on w1), e2, fun σ' c' a1 a2 a3 _ => ⟨a3 hp2, δ3, z2, c', a1, w2.mono a2, ?_⟩⟩
          have s3 : Step H2 z2 c2 H2 z2 c' := (Step.refl _ _ _).mono a2
          have w3 : Wf H2 z2 c' := w2.mono a2
          have h3 := OutS.step s3 w3 h2
          have sb := s2.trans w2 s3
          have again : ∀ {δ4 : Env'}, OutS X.K tb pin W H2 z2 c' (sLoop G S (ds.drop (i + 1)) δ4) D → ∀ σ4 H4, AftS X.K tb pin H2 z2 c' δ4 σ4 H4 →
              (pinOk pin σ4 ∧ ∃ δ3 z3 c3, RpE X.K tb H4 z3 δ3 σ4 c3 ∧ Wf H4 z3 c3 ∧ Step H1 z1 c1 H4 z3 c3 ∧ OutS X.K tb pin W H4 z3 c3 (sLoop G S (ds.drop (i + 1)) δ3) D) :=
            fun {δ4} h4 σ4 H4 ⟨p4, z4, c4, hE4, w4, s4⟩ => ⟨p4, δ4, z4, c4, hE4, w4, sb.trans w3 s4, OutS.step s4 w4 h4⟩
          cases e3 : S δ3 with
          | nx δ4 => rw [e3] at h3; exact again h3
          | ct δ4 => rw [e3] at h3; exact again h3
          | bk δ4 => rw [e3] at h3; exact h3
          | rt m δ4 => rw [e3] at h3; exact h3
          | ex n δ4 => rw [e3] at h3; exact h3
          | bad => rw [e3] at h3; exact h3
      · have e : i = vs.length := by omega
        rw [List.drop_of_length_le (by omega)] at h2
        exact .inl ⟨j3 i (by omega), h2 σ2 H2 ⟨hp2, z2, c2, hE2, w2, Step.refl _ _ _⟩⟩
/-! ### while -/
def whileN (A : BF) (S : SF) : Nat → Env' → Option SR
  | 0, _ => none
  | n + 1, δ => match A δ with
    | .ok true δ1 => (match S δ1 with
      | .nx δ2 => whileN A S n δ2
      | .ct δ2 => whileN A S n δ2
      | .bk δ2 => some (.nx δ2)
      | r => some r)
    | .ok false δ1 => some (.nx δ1)
    | .ex k δ1 => some (.ex k δ1)
    | .bad => some .bad
open Classical in
noncomputable def sWh (A : BF) (S : SF) : SF := fun δ => match whileN A S 1000000 δ with
  | some r => r
  | none => if h : ∃ r n, whileN A S n δ = some r then Classical.choose h else .bad
theorem whileN_mono {A : BF} {S : SF} : ∀ {n : Nat} {δ : Env'} {r : SR}, whileN A S n δ = some r → ∀ k, whileN A S (n + k) δ = some r
  | 0, _, _, h, _ => by cases h
  | n + 1, δ, r, h, k => by
    rw [Nat.add_right_comm]
    unfold whileN at h ⊢
    cases e : A δ with
    | ok b δ1 =>
      rw [e] at h
      cases b with
      | true =>
        dsimp only at h ⊢
        cases e2 : S δ1 with
        | nx δ2 => rw [e2] at h; exact whileN_mono (n := n) h k
        | ct δ2 => rw [e2] at h; exact whileN_mono (n := n) h k
        | bk δ2 => rw [e2] at h; exact h
        | rt m δ2 => rw [e2] at h; exact h
        | ex m δ2 => rw [e2] at h; exact h
        | bad => rw [e2] at h; exact h
      | false => exact h
    | ex _ _ => rw [e] at h; exact h
    | bad => rw [e] at h; exact h
theorem sWh_eq {A : BF} {S : SF} {n : Nat} {δ : Env'} {r : SR} (h : whileN A S n δ = some r) : sWh A S δ = r := by
  have key : ∀ {k : Nat} {r' : SR}, whileN A S k δ = some r' → r' = r := fun {k r'} hk => by
    have h1 := whileN_mono h k
    have h2 := whileN_mono hk n
    rw [Nat.add_comm] at h2
    exact Option.some.inj (h2.symm.trans h1)
  unfold sWh
  cases e : whileN A S 1000000 δ with
  | some r' => exact key e
  | none =>
    have ex : ∃ r n, whileN A S n δ = some r := ⟨r, n, h⟩
    dsimp only
    rw [dif_pos ex]
    obtain ⟨k, hk⟩ := Classical.choose_spec ex
    exact key hk
theorem ds_while (hp : PassesOwn (model X.prog X.w) X.A X.env X.xe) (hc : DT tb W X e A) (hb : DB tb pin W X body S) : DS tb pin W X (.While e body [] pos) (sWh A S) :=
  (ps_while hp hc hb).wk fun D σ H ⟨hpo, δ, z, c, hE, w, h⟩ => by
    have ex : ∃ r n, whileN A S n δ = some r := by
      by_cases ex : ∃ r n, whileN A S n δ = some r
      · exact ex
      · unfold sWh at h
        cases e : whileN A S 1000000 δ with
        | some r => exact absurd ⟨r, _, e⟩ ex
        | none =>
          rw [e] at h
          dsimp only at h
          rw [dif_neg ex] at h
          exact h.elim
    obtain ⟨r, n, hn⟩ := ex
    rw [sWh_eq hn] at h
    refine ⟨fun m σ2 H2 => pinOk pin σ2 ∧ ∃ δ2 z2 c2, RpE X.K tb H2 z2 δ2 σ2 c2 ∧ Wf H2 z2 c2 ∧ whileN A S m δ2 = some r ∧ OutS X.K tb pin W H2 z2 c2 r D, ⟨n, hpo, δ, z, c, hE, w, hn, h⟩, ?_⟩
    rintro m σ2 H2 ⟨hp2, δ2, z2, c2, hE2, w2, hm, h2⟩
    cases m with
    | zero => cases hm
    | succ m =>
      unfold whileN at hm
      refine ⟨δ2, z2, c2, hE2, w2, ?_⟩
      cases e1 : A δ2 with
      | ok b δ3 =>
        rw [e1] at hm
        intro H3 ⟨z3, c3, hE3, w3, s3⟩
        have h3 := OutS.step s3 w3 h2
        cases b with
        | true =>
          rw [if_pos rfl]
          dsimp only at hm
          refine ⟨fun σ' H' => (pinOk pin σ' ∧ ∃ δ2 z2 c2, RpE X.K tb H' z2 δ2 σ' c2 ∧ Wf H' z2 c2 ∧ whileN A S m δ2 = some r ∧ OutS X.K tb pin W H' z2 c2 r D), fun σ' H' q => ⟨m, Nat.lt_succ_self _, q⟩, hp2, δ3, z3, c3, hE3, w3, ?_⟩
          cases e2 : S δ3 with
          | nx δ4 => rw [e2] at hm; exact fun σ4 H4 ⟨p4, z4, c4, hE4, w4, s4⟩ => ⟨p4, δ4, z4, c4, hE4, w4, hm, OutS.step s4 w4 h3⟩
          | ct δ4 => rw [e2] at hm; exact fun σ4 H4 ⟨p4, z4, c4, hE4, w4, s4⟩ => ⟨p4, δ4, z4, c4, hE4, w4, hm, OutS.step s4 w4 h3⟩
          | bk δ4 => rw [e2] at hm; cases hm; exact h3
          | rt m δ4 => rw [e2] at hm; cases hm; exact h3
          | ex k δ4 => rw [e2] at hm; cases hm; exact h3
          | bad => rw [e2] at hm; cases hm; exact h3
        | false =>
          rw [if_neg Bool.false_ne_true]
          cases hm
          exact h3 σ2 H3 ⟨hp2, z3, c3, hE3, w3, Step.refl _ _ _⟩
      | ex k δ3 => rw [e1] at hm; cases hm; exact fun H' a => h2 σ2 H' ⟨hp2, a⟩
      | bad => rw [e1] at hm; cases hm; exact h2
end
end FS
namespace FS
open PySem PySem.Spec L2
section
variable {K : PySem.W.Frag} {tb : Nat → Addr} {pin : List (Nat × V)} {W : WX} {H H' H1 : Hp} {z z' z1 : Zn} {c c' c1 : Ct} {σ σ1 : St} {δ δ' : Env'} {X : Cx} {D : Ends}
variable {a b e : Expr} {F G : EF} {pos : Pos} {es : List Expr} {st : Stmt} {rest body : List Stmt} {S T U : SF} {A : BF}
/-- what is owned beside (f) stays -/
theorem Step.frame {f : Ct} (w : Wf H z (fun a => c a + f a)) (w' : Wf H' z' c') (s : Step H z c H' z' c') :
    (∀ a, 0 < f a → H' a = H a) ∧ Wf H' z' (fun a => c' a + f a) ∧ Step H z (fun a => c a + f a) H' z' (fun a => c' a + f a) := by
  have f0 : ∀ a, 0 < f a → c a = 0 ∧ H a ≠ none ∧ ¬ z a := fun a q => by
    have h1 : c a + f a ≤ 1 := w.c1 a
    exact ⟨by omega, mut_ne (w.cm a (by show 0 < c a + f a; omega)), fun hz => by have h2 : c a + f a = 0 := w.zc a hz; omega⟩
  have k : ∀ a, 0 < f a → H' a = H a := fun a q => s.keep a (f0 a q).2.1 (f0 a q).1
  have c0 : ∀ a, 0 < f a → c' a = 0 ∧ ¬ z' a := fun a q => by
    obtain ⟨h1, h2, h3⟩ := f0 a q
    have no : ∀ r, (z' a ∨ 0 < c' a) → r = True → False := fun r h _ => by
      rcases s.src a h with q' | q' | q'
      · exact h3 q'
      · omega
      · exact h2 q'
    refine ⟨?_, fun h => no True (.inl h) rfl⟩
    rcases Nat.eq_zero_or_pos (c' a) with h | h
    · exact h
    · exact (no True (.inr h) rfl).elim
  refine ⟨k, ⟨w'.zt, fun a q => ?_, fun a => ?_, fun a q => ?_⟩, ⟨fun a h1 h2 => s.keep a h1 (by have h2 : c a + f a = 0 := h2; omega), s.zin, fun a q => ?_, s.dom⟩⟩
  · show c' a + f a = 0
    have := w'.zc a q
    rcases Nat.eq_zero_or_pos (f a) with h | h
    · omega
    · exact absurd q (c0 a h).2
  · show c' a + f a ≤ 1
    have h1 : c a + f a ≤ 1 := w.c1 a
    have := w'.c1 a
    rcases Nat.eq_zero_or_pos (f a) with h | h
    · omega
    · have := (c0 a h).1; omega
  · have q : 0 < c' a + f a := q
    rcases Nat.eq_zero_or_pos (f a) with h | h
    · exact w'.cm a (by omega)
    · rw [k a h]; exact w.cm a (by show 0 < c a + f a; omega)
  · rcases Nat.eq_zero_or_pos (f a) with h | h
    · rcases s.src a (q.imp id fun r => by have r : 0 < c' a + f a := r; omega) with r | r | r
      · exact .inl r
      · exact .inr (.inl (by show 0 < c a + f a; omega))
      · exact .inr (.inr r)
    · exact .inr (.inl (by show 0 < c a + f a; omega))
theorem Wf.upd {p : Addr} {o : HO} (w : Wf H z c) (hp : 0 < c p) (mo : Mut (some o)) : Wf (L2.upd H p o) z c ∧ Step H z c (L2.upd H p o) z c := by
  have hd : ∀ a, H a ≠ none → (L2.upd H p o) a ≠ none := fun a q => by
    by_cases e : a = p
    · rw [e, upd_same]; exact fun z => nomatch z
    · rw [upd_ne e]; exact q
  refine ⟨⟨fun a q => hd a (w.zt a q), w.zc, w.c1, fun a q => ?_⟩, ⟨fun a _ h2 => upd_ne fun e => by rw [e] at h2; omega, fun _ h => h, fun a q => q.imp id .inl, hd⟩⟩
  by_cases e : a = p
  · rw [e, upd_same]; exact mo
  · rw [upd_ne e]; exact w.cm a q
theorem Wf.congr {c2 : Ct} (w : Wf H z c) (h : ∀ a, c a = c2 a) : Wf H z c2 := w.mono fun a => by rw [h]; exact Nat.le_refl _
theorem Step.congr {c2 c2' : Ct} (s : Step H z c H' z' c') (h : ∀ a, c a = c2 a) (h' : ∀ a, c' a = c2' a) : Step H z c2 H' z' c2' := by
  have e1 : c = c2 := funext h
  have e2 : c' = c2' := funext h'
  subst e1 e2
  exact s
/-- slots without a value are looked at by nobody -/
theorem RpE.congr : ∀ {δ : Env'} {σ σ1 : St} {c : Ct}, RpE K tb H z δ σ c → σ.length = σ1.length → (∀ (i : Nat) (m : M), δ[i]? = some (some m) → σ1[i]? = σ[i]?) → RpE K tb H z δ σ1 c
  | _, _, [], _, .nil e, _, _ => .nil e
  | _, _, _ :: _, _, .nil e, hl, _ => by cases hl
  | _, _, [], _, .no h, hl, _ => by cases hl
  | _, _, x :: σ1, _, .no h, hl, q => .no (RpE.congr h (Nat.succ.inj hl) fun i m e => by simpa using q (i + 1) m (by simpa using e))
  | _, _, [], _, .yes h r e, hl, _ => by cases hl
  | _, _, x :: σ1, _, .yes (m := m) (x := v) h r e, hl, q => by
    have e0 : x = some v := by simpa using q 0 m rfl
    subst e0
    exact .yes h (RpE.congr r (Nat.succ.inj hl) fun i m e => by simpa using q (i + 1) m (by simpa using e)) e
def wipeE (δ : Env') : List Nat → Env'
  | [] => δ
  | v :: vs => (wipeE δ vs).set v none
def backE (δ0 : Env') : List Nat → Env' → Env'
  | [], δ => δ
  | v :: vs, δ => (backE δ0 vs δ).set v (δ0.getD v none)
def keepOk (δ : Env') (vs : List Nat) : Bool := vs.all fun v => match δ[v]? with
  | some none => true
  | some (some (.v (.fz _))) => true
  | _ => false
theorem wipeE_of : ∀ {vs : List Nat} {δ : Env'} {σ : St} {c : Ct}, RpE K tb H z δ σ c → ∃ c', RpE K tb H z (wipeE δ vs) (wipe σ vs) c' ∧ ∀ a, c' a ≤ c a
  | [], _, _, c, h => ⟨c, h, fun _ => Nat.le_refl _⟩
  | v :: vs, _, _, c, h => by
    obtain ⟨c1, h1, h2⟩ := wipeE_of (vs := vs) h
    obtain ⟨c2, h3, h4⟩ := h1.drop v
    exact ⟨c2, RpE.any v none h4, fun a => Nat.le_trans (h3 a) (h2 a)⟩
theorem wipeE_len : ∀ {vs : List Nat} {δ : Env'}, (wipeE δ vs).length = δ.length
  | [], _ => rfl
  | v :: vs, _ => by unfold wipeE; rw [List.length_set, wipeE_len]
theorem wipeE_none : ∀ {vs : List Nat} {δ : Env'} {v : Nat} {m : M}, (wipeE δ vs)[v]? = some (some m) → v ∉ vs ∧ δ[v]? = some (some m)
  | [], _, _, _, h => ⟨by simp, h⟩
  | w :: vs, δ, v, m, h => by
    unfold wipeE at h
    by_cases e : w = v
    · subst e
      by_cases hl : w < (wipeE δ vs).length
      · rw [List.getElem?_set_self hl] at h; cases h
      · rw [List.getElem?_eq_none (by simpa using hl)] at h; cases h
    · rw [List.getElem?_set_ne e] at h
      obtain ⟨h1, h2⟩ := wipeE_none h
      exact ⟨by simp [h1, Ne.symm e], h2⟩
theorem backE_of {δ0 : Env'} : ∀ {vs : List Nat} {δ : Env'} {σ : St} {c : Ct}, RpE K tb H z δ σ c → δ0.length = δ.length →
    (∀ v ∈ vs, ∀ m, δ0[v]? = some (some m) → ∃ d x, m = .fz d ∧ σ[v]? = some (some x) ∧ Fz K H z d x) → ∃ c', RpE K tb H z (backE δ0 vs δ) σ c' ∧ (∀ a, c' a ≤ c a) ∧ (backE δ0 vs δ).length = δ.length
  | [], _, _, c, h, _, _ => ⟨c, h, fun _ => Nat.le_refl _, rfl⟩
  | v :: vs, δ, σ, c, h, hl, hk => by
    obtain ⟨c1, h1, h2, h5⟩ := backE_of (vs := vs) h hl fun w hw => hk w (List.mem_cons_of_mem _ hw)
    obtain ⟨c2, h3, h4⟩ := h1.drop v
    have hlen : ∀ x, ((backE δ0 vs δ).set v x).length = δ.length := fun x => by rw [List.length_set, h5]
    unfold backE
    cases q : δ0[v]? with
    | none =>
      have e : δ0.getD v none = none := by simp [List.getD, q]
      rw [e]
      exact ⟨c2, h4, fun a => Nat.le_trans (h3 a) (h2 a), hlen _⟩
    | some o =>
      have e : δ0.getD v none = o := by simp [List.getD, q]
      rw [e]
      cases o with
      | none => exact ⟨c2, h4, fun a => Nat.le_trans (h3 a) (h2 a), hlen _⟩
      | some m =>
        obtain ⟨d, x, rfl, e1, f⟩ := hk v List.mem_cons_self m q
        have hv : v < (backE δ0 vs δ).length := by rw [h5, ← hl]; exact (List.getElem?_eq_some_iff.mp q).1
        refine ⟨_, RpE.put h4 hv e1 (.v (.fz f fun _ => rfl : RpL _ _ _ _ _ zero)), fun a => ?_, hlen _⟩
        have := h3 a
        have := h2 a
        show 0 + c2 a ≤ c a
        omega
theorem RpA.app : ∀ {l l' : List L} {v v' : List V} {c c' : Ct}, RpA K H z l v c → RpA K H z l' v' c' → RpA K H z (l ++ l') (v ++ v') fun a => c a + c' a
  | _, _, _, _, c, c', .nil e, h => by
    have e2 : (fun a => c a + c' a) = c' := funext fun a => by rw [e]; omega
    rw [e2]; exact h
  | _, _, _, _, c, c', .cons (c1 := c1) (c2 := c2) h r e, q => .cons h (RpA.app r q) fun a => by show c a + c' a = c1 a + (c2 a + c' a); rw [e]; omega
theorem wipe_wipe {own : List Nat} : ∀ (vs : List Nat) (σ : St), (∀ v ∈ vs, v ∈ own) → wipe (wipe σ vs) own = wipe σ own
  | [], _, _ => rfl
  | v :: r, σ, h => by
    show wipe ((wipe σ r).set v none) own = wipe σ own
    rw [wipe_set (h v List.mem_cons_self)]
    exact wipe_wipe r σ fun u hu => h u (List.mem_cons_of_mem _ hu)
/-! ### list comprehensions -/
def cLoop (own : List Nat) (G : PD → Env' → Option Env') (T : BF) (E : EF) : List PD → Env' → Option (List L × Env')
  | [], δ => some ([], δ)
  | d :: ds, δ => match G d δ with
    | none => none
    | some δ1 => match T δ1 with
      | .ok true δ2 => (match E δ2 with
        | .ok (.v l) δ3 => (cLoop own G T E ds (wipeE δ3 own)).map fun r => (l :: r.1, r.2)
        | _ => none)
      | .ok false δ2 => cLoop own G T E ds (wipeE δ2 own)
      | _ => none
def eLc (own : List Nat) (F : IF) (G : PD → Env' → Option Env') (T : BF) (E : EF) : EF := fun δ => (F δ).bind fun ds δ1 =>
  if keepOk δ1 own = true ∧ ds.length ≤ big then match cLoop own G T E ds (wipeE δ1 own) with
    | some r => .ok (.lst r.1) (backE δ1 own (wipeE r.2 own))
    | none => .bad
  else .bad
def Wno : WX := fun _ _ _ _ => False
def tY : BF := fun δ => .ok true δ
theorem lc_of {own is : List Nat} {If : IF} {Gf : PD → Env' → Option Env'} {Tf : BF} {Ef : EF} {Q : VK} (hown : ∀ i ∈ is, i ∈ own) (h : tD K tb W (eLc own If Gf Tf Ef) σ H Q) :
    tLc (tI K tb W If) (tGd K tb [] is Gf) (tT K tb Wno Tf) (tD K tb Wno Ef) own σ H Q := by
  obtain ⟨δ, z, c, hE, w, h⟩ := h
  refine ⟨δ, z, c, hE, w, ?_⟩
  unfold eLc at h
  cases e1 : If δ with
  | bad => rw [e1] at h; exact h.elim
  | ex n δ1 => rw [e1] at h; exact h
  | ok ds δ1 =>
    rw [e1] at h
    intro J H1 z1 c1 hE1 w1 s1 ⟨vs, fv, hJ⟩ D hD
    have h : Out K tb W H z c σ (if keepOk δ1 own = true ∧ ds.length ≤ big then match cLoop own Gf Tf Ef ds (wipeE δ1 own) with
      | some r => .ok (.lst r.1) (backE δ1 own (wipeE r.2 own))
      | none => .bad
    else .bad) Q := h
    by_cases hk : keepOk δ1 own = true ∧ ds.length ≤ big
    case neg => rw [if_neg hk] at h; exact h.elim
    rw [if_pos hk] at h
    obtain ⟨hk, hbig⟩ := hk
    cases cl : cLoop own Gf Tf Ef ds (wipeE δ1 own) with
    | none => rw [cl] at h; exact h.elim
    | some r =>
      obtain ⟨ls, δe⟩ := r
      rw [cl] at h
      have hlen := fv.len
      have nD : ∀ a, H1 a ≠ none → a ≠ D := fun a q e => q (e ▸ hD)
      obtain ⟨cw, hEw, hcw⟩ := wipeE_of (vs := own) hE1
      refine ⟨fun i m H2 => m = vs.length - i ∧ i ≤ vs.length ∧ ∃ δ3 z3 c3 la va ca lr, RpE K tb H2 z3 δ3 (wipe σ own) c3 ∧ H2 D = some (.lst va) ∧ RpA K H2 z3 la va ca ∧ Wf H2 z3 (fun a => c3 a + (ca a + one D a)) ∧
        Step H1 z1 c1 H2 z3 (fun a => c3 a + (ca a + one D a)) ∧ cLoop own Gf Tf Ef (ds.drop i) δ3 = some (lr, δe) ∧ la ++ lr = ls ∧ la.length ≤ i ∧ δ3.length = δ1.length,
        ⟨vs.length, by simp, Nat.zero_le _, wipeE δ1 own, z1, cw, [], [], zero, ls, hEw.mono (fun _ q => q) (fun a q => upd_ne (nD a (w1.zt a q))) (fun a q => upd_ne (nD a (mut_ne (w1.cm a (Nat.lt_of_lt_of_le q (hcw a)))))), upd_same, .nil fun _ => rfl, ?_, ?_, by simpa using cl, rfl, Nat.le_refl _, wipeE_len⟩, ?_⟩
      · refine ⟨fun a q => by rw [upd_ne (nD a (w1.zt a q))]; exact w1.zt a q, fun a q => ?_, fun a => ?_, fun a q => ?_⟩
        · show cw a + (0 + one D a) = 0
          have := hcw a
          have := w1.zc a q
          rw [one_ne (nD a (w1.zt a q))]
          omega
        · show cw a + (0 + one D a) ≤ 1
          have := hcw a
          have := w1.c1 a
          by_cases e : a = D
          · subst e
            have : cw a = 0 := by
              rcases Nat.eq_zero_or_pos (cw a) with q | q
              · exact q
              · exact absurd hD (mut_ne (w1.cm a (by omega)))
            rw [one_self]; omega
          · rw [one_ne e]; omega
        · have q : 0 < cw a + (0 + one D a) := q
          by_cases e : a = D
          · subst e; rw [upd_same]; trivial
          · rw [upd_ne e]
            rw [one_ne e] at q
            exact w1.cm a (by have := hcw a; omega)
      · refine ⟨fun a q _ => upd_ne (nD a q), fun _ q => q, fun a q => ?_, fun a q => by rw [upd_ne (nD a q)]; exact q⟩
        rcases q with q | q
        · exact .inl q
        · have q : 0 < cw a + (0 + one D a) := q
          by_cases e : a = D
          · subst e; exact .inr (.inr hD)
          · rw [one_ne e] at q
            exact .inr (.inl (by have := hcw a; omega))
      · rintro i m H2 ⟨rfl, hi, δ3, z3, c3, la, va, ca, lr, hE3, hD3, hA3, w3, s3, cl3, ela, hla, hl3⟩
        have w3' : Wf H2 z3 c3 := w3.mono fun a => Nat.le_add_right _ _
        have zs : ∀ a, z1 a → H2 a = H1 a := s3.on w1
        obtain ⟨j1, j2, j3⟩ := hJ H2 zs
        have lva : la.length = va.length := by
          have go : ∀ {l : List L} {v : List V} {c : Ct}, RpA K H2 z3 l v c → l.length = v.length := by
            intro l
            induction l with
            | nil => intro v c h; cases h; rfl
            | cons x r ih => intro v c h; cases h with | cons _ h2 _ => simp [ih h2]
          exact go hA3
        by_cases hlt : i < vs.length
        · have hv : vs[i]? = some vs[i] := List.getElem?_eq_getElem hlt
          refine .inr ⟨j1 i _ hv, fun H' => ∃ δ4 z4 c4 la va ca lr, RpE K tb H' z4 δ4 (wipe σ own) c4 ∧ H' D = some (.lst va) ∧ RpA K H' z4 la va ca ∧ Wf H' z4 (fun a => c4 a + (ca a + one D a)) ∧
            Step H1 z1 c1 H' z4 (fun a => c4 a + (ca a + one D a)) ∧ cLoop own Gf Tf Ef (ds.drop (i + 1)) δ4 = some (lr, δe) ∧ la ++ lr = ls ∧ la.length ≤ i + 1 ∧ δ4.length = δ1.length,
            fun H' q => ⟨vs.length - (i + 1), by omega, rfl, hlt, q⟩, fun x H' y => ?_⟩
          obtain ⟨hH, rfl⟩ := j2 i _ x H' hv y
          have hH := hH.symm
          subst hH
          obtain ⟨d, hd, fd⟩ := fv.get' hv
          have hds : ds.drop i = d :: ds.drop (i + 1) := by
            obtain ⟨hh, e⟩ := List.getElem?_eq_some_iff.mp hd
            rw [← e]
            exact List.drop_eq_getElem_cons hh
          rw [hds] at cl3
          unfold cLoop at cl3
          cases e2 : Gf d δ3 with
          | none => rw [e2] at cl3; cases cl3
          | some δ4 =>
            rw [e2] at cl3
            dsimp only at cl3
            refine ⟨δ3, z3, c3, d, δ4, hE3, w3', fd.mono s3.zin zs, e2, fun σ' c' a1 a2 _ a4 => ?_⟩
            have hw : wipe σ' own = wipe σ own := (a4 own hown).trans (wipe_wipe own σ fun _ q => q)
            have hl4 : δ4.length = δ1.length := (a1.len.trans (by
              have e1 := hE3.len
              have : (wipe σ' own).length = (wipe σ own).length := by rw [hw]
              rw [wipe_length] at this
              rw [this, ← e1])).trans hl3
            refine ⟨hw, ?_⟩
            have w4 : Wf H2 z3 c' := w3'.mono a2
            have w4t : Wf H2 z3 (fun a => c' a + (ca a + one D a)) := w3.mono fun a => by have := a2 a; show c' a + (ca a + one D a) ≤ c3 a + (ca a + one D a); omega
            have s4t : Step H1 z1 c1 H2 z3 (fun a => c' a + (ca a + one D a)) := s3.mono fun a => by have := a2 a; show c' a + (ca a + one D a) ≤ c3 a + (ca a + one D a); omega
            refine ⟨δ4, z3, c', a1, w4, ?_⟩
            cases e3 : Tf δ4 with
            | bad => rw [e3] at cl3; cases cl3
            | ex n δ5 => rw [e3] at cl3; cases cl3
            | ok bb δ5 =>
              rw [e3] at cl3
              intro H5 ⟨z5, c5, hE5, w5, s5⟩
              obtain ⟨k5, w5t, s5t⟩ := Step.frame w4t w5 s5
              have hD5 : H5 D = some (.lst va) := (k5 D (by show 0 < ca D + one D D; rw [one_self]; omega)).trans hD3
              have hA5 : RpA K H5 z5 la va ca := hA3.mono s5.zin (s5.on w4) fun a q => k5 a (by show 0 < ca a + one D a; omega)
              have s5t' := s4t.trans w4t s5t
              cases bb with
              | false =>
                rw [if_neg Bool.false_ne_true]
                dsimp only at cl3
                obtain ⟨c6, hE6, h6⟩ := wipeE_of (vs := own) hE5
                rw [hw] at hE6
                have hle : ∀ a, c6 a + (ca a + one D a) ≤ c5 a + (ca a + one D a) := fun a => by have := h6 a; omega
                exact ⟨wipeE δ5 own, z5, c6, la, va, ca, lr, hE6, hD5, hA5, w5t.mono hle, s5t'.mono hle, cl3, ela, by omega, wipeE_len.trans (hE5.len.trans (a1.len.symm.trans hl4))⟩
              | true =>
                rw [if_pos rfl]
                dsimp only at cl3
                refine ⟨δ5, z5, c5, hE5, w5, ?_⟩
                cases e4 : Ef δ5 with
                | bad => rw [e4] at cl3; cases cl3
                | ex n δ6 => rw [e4] at cl3; cases cl3
                | ok mm δ6 =>
                  rw [e4] at cl3
                  cases mm with
                  | o _ _ _ => cases cl3
                  | v l =>
                    dsimp only at cl3
                    intro y H6 ⟨z6, c6, cm, hE6, hR6, w6, s6⟩
                    obtain ⟨k6, w6t, s6t⟩ := Step.frame w5t w6 s6
                    have hD6 : H6 D = some (.lst va) := (k6 D (by show 0 < ca D + one D D; rw [one_self]; omega)).trans hD5
                    have hA6 : RpA K H6 z6 la va ca := hA5.mono s6.zin (s6.on w5) fun a q => k6 a (by show 0 < ca a + one D a; omega)
                    have s6t' := s5t'.trans w5t s6t
                    cases e5 : cLoop own Gf Tf Ef (ds.drop (i + 1)) (wipeE δ6 own) with
                    | none => rw [e5] at cl3; cases cl3
                    | some rr =>
                      obtain ⟨lr2, δx⟩ := rr
                      rw [e5] at cl3
                      simp only [Option.map_some, Option.some.injEq, Prod.mk.injEq] at cl3
                      obtain ⟨rfl, rfl⟩ := cl3
                      refine ⟨va, hD6, by rw [← lva, big_eq]; have : i < ds.length := by omega
                                          omega, ?_⟩
                      have pD : 0 < c6 D + cm D + (ca D + one D D) := by rw [one_self]; omega
                      obtain ⟨w7, s7⟩ := Wf.upd (p := D) (o := .lst (va ++ [y])) w6t pD trivial
                      have oD : ∀ a, z6 a → a ≠ D := fun a q e => by
                        subst e
                        have q2 : c6 a + cm a + (ca a + one a a) = 0 := w6t.zc a q
                        rw [one_self] at q2; omega
                      have cD : c6 D + cm D + ca D = 0 := by
                        have q2 : c6 D + cm D + (ca D + one D D) ≤ 1 := w6t.c1 D
                        rw [one_self] at q2; omega
                      have nDc : ∀ (cc : Ct) a, cc D = 0 → 0 < cc a → a ≠ D := fun cc a h1 h2 e => by rw [e, h1] at h2; exact Nat.lt_irrefl _ h2
                      obtain ⟨c8, hE8, h8⟩ := wipeE_of (vs := own) (hE6.mono (fun _ q => q) (fun a q => upd_ne (oD a q)) fun a q => upd_ne (o := .lst (va ++ [y])) (nDc c6 a (by omega) q))
                      rw [hw] at hE8
                      have hR8 : RpL K (upd H6 D (.lst (va ++ [y]))) z6 l y cm := by
                        cases hR6 with
                        | v r => exact r.mono (fun _ q => q) (fun a q => upd_ne (oD a q)) fun a q => upd_ne (nDc cm a (by omega) q)
                      have hA8 := (hA6.mono (fun _ q => q) (fun a q => upd_ne (oD a q)) fun a q => upd_ne (o := .lst (va ++ [y])) (nDc ca a (by omega) q)).app
                        (.cons (c2 := zero) hR8 (.nil fun _ => rfl) fun a => by show cm a = cm a + 0; omega)
                      have hle : ∀ a, c8 a + ((ca a + cm a) + one D a) ≤ c6 a + cm a + (ca a + one D a) := fun a => by have := h8 a; omega
                      exact ⟨wipeE δ6 own, z6, c8, la ++ [l], va ++ [y], fun a => ca a + cm a, lr2, hE8, upd_same, hA8, w7.mono hle, (s6t'.trans w6t s7).mono hle, e5, by rw [← ela]; simp, by simp; omega,
                        wipeE_len.trans (hE6.len.trans (a1.len.symm.trans hl4))⟩
        · have e : i = vs.length := by omega
          rw [List.drop_of_length_le (by omega)] at cl3
          unfold cLoop at cl3
          simp only [Option.some.injEq, Prod.mk.injEq] at cl3
          obtain ⟨rfl, rfl⟩ := cl3
          rw [List.append_nil] at ela
          subst ela
          refine .inl ⟨j3 i (by omega), ?_⟩
          obtain ⟨c9, hE9, h9⟩ := wipeE_of (vs := own) hE3
          have hEc : RpE K tb H2 z3 (wipeE δ3 own) σ c9 := RpE.congr hE9 (by rw [wipe_length, wipe_length]) fun j m q => by
            obtain ⟨q1, _⟩ := wipeE_none q
            rw [wipe_out q1, wipe_out q1]
          obtain ⟨c10, hE10, h10, _⟩ := backE_of (δ0 := δ1) (vs := own) hEc (by rw [wipeE_len, hl3]) fun v hv m q => by
            have hq := List.all_eq_true.mp hk v hv
            rw [q] at hq
            obtain ⟨x, cc1, cc2, e1, r1, _⟩ := hE1.get q
            cases m with
            | o _ _ _ => cases hq
            | v l =>
              cases l with
              | fz d =>
                cases r1 with
                | v r => cases r with
                  | fz f _ => exact ⟨d, x, rfl, e1, f.mono s3.zin zs⟩
              | lst _ => cases hq
              | dic _ => cases hq
          have hle : ∀ a, c10 a + (one D a + ca a) ≤ c3 a + (ca a + one D a) := fun a => by have := h9 a; have := h10 a; omega
          exact h (.ref D) H2 ⟨z3, c10, fun a => one D a + ca a, hE10, .v (.lst hD3 hA3 fun _ => rfl), w3.mono hle, (s1.trans w1 s3).mono hle⟩
variable {tg iter elt : Expr} {ifs : List Expr} {scope : Scope} {own : List (Str × Nat)} {is : List Nat} {If : IF} {Gf : PD → Env' → Option Env'} {Tf : BF} {Ef : EF}
abbrev DTs (tb : Nat → Addr) (W : WX) (X : Cx) (ifs : List Expr) (F : BF) : Prop := PTs X ifs (tT X.K tb W F)
theorem dts_nil : DTs tb W X [] tY := ⟨fun pins s σ H Q I ⟨δ, z, c, hE, w, h⟩ => pts_nil.run pins s σ H Q I (outB_here hE w h)⟩
theorem dts_one {c : Expr} (h : DT tb W X c Tf) : DTs tb W X [c] Tf := pts_one h
theorem de_lc (hc : X.calm = true) (hN : X.N.Nodup) (hi : DI tb W X tg iter If) (ok : BlkOk X.N X.env.scope scope own)
    (hg : ∀ (s : Shared) (H : Hp) (C : Addr) (cl : List (Str × Addr)) (fp : List Addr), DG tb [] (X.blk s H scope (compEnvC scope cl C X.env) fp) tg is Gf) (ht : ∀ (s : Shared) (H : Hp) (C : Addr) (cl : List (Str × Addr)) (fp : List Addr), DTs tb Wno (X.blk s H scope (compEnvC scope cl C X.env) fp) ifs Tf)
    (he : ∀ (s : Shared) (H : Hp) (C : Addr) (cl : List (Str × Addr)) (fp : List Addr), DE tb Wno (X.blk s H scope (compEnvC scope cl C X.env) fp) elt Ef) (hown : ∀ i ∈ is, i ∈ own.map (·.2) := by decide) (hs : ∀ x, foldedSetIterable iter X.env x = pure x := by intro _; rfl) :
    DE tb W X (.ListComp elt [⟨tg, iter, ifs, 0⟩] scope pos) (eLc (own.map (·.2)) If Gf Tf Ef) := (pe_lc hc hN hi ok hg ht he hs).wk fun σ H Q h => lc_of hown h
/-- name = [..] on one line -/
theorem ds_setLc {i : Nat} {y : Str} {py : Pos} {spos : Pos} (hc : X.calm = true) (hN : X.N.Nodup) (hy : X.N[i]? = some y) (hyl : X.env.scope.names.lookup y = some .local) (hpn : (pin.all fun p => decide (p.1 ≠ i)) = true)
    (hsw : swapsWith (.ListComp elt [⟨tg, iter, ifs, 0⟩] scope pos) (some (.Name y py)) spos.line X.env = pure true) (hi : DI tb W X tg iter If) (ok : BlkOk X.N X.env.scope scope own)
    (hg : ∀ (s : Shared) (H : Hp) (C : Addr) (cl : List (Str × Addr)) (fp : List Addr), DG tb [] (X.blk s H scope (compEnvC scope cl C X.env) fp) tg is Gf) (ht : ∀ (s : Shared) (H : Hp) (C : Addr) (cl : List (Str × Addr)) (fp : List Addr), DTs tb Wno (X.blk s H scope (compEnvC scope cl C X.env) fp) ifs Tf)
    (he : ∀ (s : Shared) (H : Hp) (C : Addr) (cl : List (Str × Addr)) (fp : List Addr), DE tb Wno (X.blk s H scope (compEnvC scope cl C X.env) fp) elt Ef) (hown : ∀ i ∈ is, i ∈ own.map (·.2) := by decide) (hs : ∀ x, foldedSetIterable iter X.env x = pure x := by intro _; rfl) :
    DS tb pin W X (.Assign [.Name y py] (.ListComp elt [⟨tg, iter, ifs, 0⟩] scope pos) spos) (sAs i (eLc (own.map (·.2)) If Gf Tf Ef)) :=
  (ps_setLc hc hN hy hyl hsw hi ok hg ht he hs).wk fun D σ H ⟨hp, δ, z, c, hE, w, h⟩ => lc_of (W := W) (Q := fun x H1 => gName i x σ H1 D.nx) hown (by
    refine go_S hp hE w h fun m δ1 v H1 z1 c1 cm hE1 r1 w1 s1 h1 => ?_
    split at h1
    · rename_i hl
      obtain ⟨c', h2, h3⟩ := aft_set hE1 hl r1
      exact h1 _ H1 ⟨pin_set hp hpn, z1, c', h2, w1.mono h3, (Step.refl _ _ _).mono h3⟩
    · exact h1.elim)
end
end FS
namespace FS
open PySem PySem.Spec L2
/-! ### arguments as a callee has them -/
inductive FR where
  | ret (m : M) (ms : List M)
  | ex (n : Nat) (ms : List M)
  | bad
abbrev Sem := List M → FR
inductive RpM (K : PySem.W.Frag) (tb : Nat → Addr) (H : Hp) (z : Zn) : List M → List V → Ct → Prop
  | nil {c : Ct} : (∀ a, c a = 0) → RpM K tb H z [] [] c
  | cons {m : M} {v : V} {ms : List M} {vs : List V} {c c1 c2 : Ct} : Rp K tb H z m v c1 → RpM K tb H z ms vs c2 → (∀ a, c a = c1 a + c2 a) → RpM K tb H z (m :: ms) (v :: vs) c
def spD (K : PySem.W.Frag) (tb : Nat → Addr) (np : Nat) (sem : Sem) : Sp := fun vs H Q E => ∃ ms z c, RpM K tb H z ms vs c ∧ Wf H z c ∧ ms.length = np ∧
  match sem ms with
  | .ret m ms' => ∀ v H' z' c' cm, RpM K tb H' z' ms' vs c' → Rp K tb H' z' m v cm → Wf H' z' (fun a => c' a + cm a) → Step H z c H' z' (fun a => c' a + cm a) → Q v H'
  | .ex n ms' => ∀ H' z' c', RpM K tb H' z' ms' vs c' → Wf H' z' c' → Step H z c H' z' c' → E (.ref (tb n)) none H'
  | .bad => False
section
variable {K : PySem.W.Frag} {tb : Nat → Addr} {pin : List (Nat × V)} {W : WX} {H H' H1 : Hp} {z z' z1 : Zn} {c c' c1 : Ct} {σ σ1 : St} {δ δ' : Env'} {X : Cx} {D : Ends}
variable {a b e : Expr} {F G : EF} {pos : Pos} {es : List Expr} {st : Stmt} {rest body : List Stmt} {S T U : SF} {A : AF}
theorem RpM.len : ∀ {ms : List M} {vs : List V} {c : Ct}, RpM K tb H z ms vs c → ms.length = vs.length
  | _, _, _, .nil _ => rfl
  | _, _, _, .cons _ r _ => congrArg (· + 1) (RpM.len r)
def takeA : List Arg → Env' → Option (List M × Env')
  | [], δ => some ([], δ)
  | .val m :: r, δ => (takeA r δ).map fun q => (m :: q.1, q.2)
  | .io i :: r, δ => match δ[i]? with
    | some (some m) => (takeA r (δ.set i none)).map fun q => (m :: q.1, q.2)
    | _ => none
def putA : List Arg → List M → Env' → Env'
  | .val _ :: r, _ :: ms, δ => putA r ms δ
  | .io i :: r, m :: ms, δ => (putA r ms δ).set i (some m)
  | _, _, δ => δ
theorem takeA_of : ∀ {as : List Arg} {δ : Env'} {ms : List M} {δ2 : Env'} {vs : List V} {c : Ct}, RpG K tb H z σ as vs → RpE K tb H z δ σ c → takeA as δ = some (ms, δ2) →
    ∃ cm c2, RpM K tb H z ms vs cm ∧ RpE K tb H z δ2 σ c2 ∧ (∀ a, c a = cm a + c2 a) ∧ δ2.length = δ.length
  | _, _, _, _, _, c, .nil, hE, e => by
    cases e
    exact ⟨zero, c, .nil fun _ => rfl, hE, fun a => by show _ = 0 + _; omega, rfl⟩
  | _, δ, _, _, _, c, .val (as := as) h r, hE, e => by
    unfold takeA at e
    cases q : takeA as δ with
    | none => rw [q] at e; cases e
    | some p =>
      obtain ⟨ms, δ2⟩ := p
      rw [q] at e
      cases e
      obtain ⟨cm, c2, h1, h2, h3, h4⟩ := takeA_of r hE q
      exact ⟨cm, c2, .cons (c1 := zero) h h1 fun a => by show _ = 0 + _; omega, h2, h3, h4⟩
  | _, δ, _, _, _, c, .io (i := i) (as := as) h r, hE, e => by
    unfold takeA at e
    cases q0 : δ[i]? with
    | none => rw [q0] at e; cases e
    | some o =>
      rw [q0] at e
      cases o with
      | none => cases e
      | some m =>
        dsimp only at e
        obtain ⟨v, d1, d2, e1, e2, e3, e4⟩ := hE.get q0
        rw [h] at e1
        cases e1
        cases q : takeA as (δ.set i none) with
        | none => rw [q] at e; cases e
        | some p =>
          obtain ⟨ms, δ2⟩ := p
          rw [q] at e
          cases e
          obtain ⟨cm, c2, h1, h2, h3, h4⟩ := takeA_of r e4 q
          exact ⟨fun a => d1 a + cm a, c2, .cons e2 h1 fun _ => rfl, h2, fun a => by have := e3 a; have := h3 a; show c a = d1 a + cm a + c2 a; omega, by rw [h4, List.length_set]⟩
theorem putA_of : ∀ {as : List Arg} {δ : Env'} {ms : List M} {vs : List V} {cm c2 : Ct}, RpG K tb H1 z1 σ as vs → RpM K tb H z ms vs cm → RpE K tb H z δ σ c2 → (∀ i, .io i ∈ as → i < δ.length) →
    ∃ c', RpE K tb H z (putA as ms δ) σ c' ∧ (∀ a, c' a ≤ cm a + c2 a) ∧ (putA as ms δ).length = δ.length
  | _, _, _, _, cm, c2, .nil, hM, hE, hl => ⟨c2, by cases hM; exact hE, fun a => Nat.le_add_left _ _, by cases hM; rfl⟩
  | _, δ, _, _, cm, c2, .val h r, .cons (c1 := d1) (c2 := d2) _ hM e, hE, hl => by
    obtain ⟨c', h1, h2, h3⟩ := putA_of r hM hE fun i hi => hl i (List.mem_cons_of_mem _ hi)
    exact ⟨c', h1, fun a => by have := h2 a; have := e a; omega, h3⟩
  | _, δ, _, _, cm, c2, .io (i := i) h r, .cons (c1 := d1) (c2 := d2) hm hM e, hE, hl => by
    obtain ⟨c', h1, h2, h3⟩ := putA_of r hM hE fun i hi => hl i (List.mem_cons_of_mem _ hi)
    obtain ⟨c3, h4, h5⟩ := h1.drop i
    have hi := hl i List.mem_cons_self
    unfold putA
    exact ⟨fun a => d1 a + c3 a, RpE.put h5 (by rw [h3]; exact hi) h hm, fun a => by have := h2 a; have := e a; have := h4 a; show d1 a + c3 a ≤ _; omega, by rw [List.length_set, h3]⟩
def eCl (sem : Sem) (A : AF) : EF := fun δ => (A δ).bind fun as δ1 => match takeA as δ1 with
  | none => .bad
  | some p => match sem p.1 with
    | .ret m ms' => .ok m (putA as ms' p.2)
    | .ex n ms' => .ex n (putA as ms' p.2)
    | .bad => .bad
theorem takeA_io : ∀ {as : List Arg} {δ : Env'} {ms : List M} {δ2 : Env'}, takeA as δ = some (ms, δ2) → ∀ i, .io i ∈ as → i < δ.length
  | [], _, _, _, _, _, hi => by cases hi
  | .val m :: as, δ, _, _, e, i, hi => by
    unfold takeA at e
    cases q : takeA as δ with
    | none => rw [q] at e; cases e
    | some p => exact takeA_io (δ2 := p.2) (ms := p.1) q i (by cases hi with | tail _ h => exact h)
  | .io j :: as, δ, _, _, e, i, hi => by
    unfold takeA at e
    cases q0 : δ[j]? with
    | none => rw [q0] at e; cases e
    | some o =>
      rw [q0] at e
      cases o with
      | none => cases e
      | some m =>
        dsimp only at e
        cases hi with
        | head => exact lt_of_get q0
        | tail _ h =>
          cases q : takeA as (δ.set j none) with
          | none => rw [q] at e; cases e
          | some p =>
            have := takeA_io (δ2 := p.2) (ms := p.1) q i h
            rwa [List.length_set] at this
/-- a def that can be called -/
structure Cal (P : Program) (w : World) (K : PySem.W.Frag) (mg : Str → Option Value) (base : Heap) (tb : Nat → Addr) (k : Nat) (x : Str) (ps : List Str) (sem : Sem) : Prop where
  ex : ∃ f fd, FnOk P w K mg base (L2.CX P w) k f fd ps (spD K tb ps.length sem) ∧ mg x = some (.ref f) ∧ PySem.W.keepIn K (.ref f) = true ∧ Binds K fd ps []
theorem call_of {sem : Sem} {np : Nat} {Q : VK} (h : tD K tb W (eCl sem A) σ H Q) (hnp : ∀ as δ δ1 p, A δ = .ok as δ1 → takeA as δ1 = some p → p.1.length = np) : tCallSD (spD K tb np sem) [] (WE W) (tA K tb W A) σ H Q := by
  obtain ⟨δ, z, c, hE, w, h⟩ := h
  refine ⟨δ, z, c, hE, w, ?_⟩
  unfold eCl at h
  cases e1 : A δ with
  | bad => rw [e1] at h; exact h
  | ex n δ1 => rw [e1] at h; exact h
  | ok as δ1 =>
    rw [e1] at h
    intro vs H1 z1 c1 hE1 g1 w1 s1
    have h : Out K tb W H z c σ (match takeA as δ1 with
      | none => .bad
      | some p => match sem p.1 with
        | .ret m ms' => .ok m (putA as ms' p.2)
        | .ex n ms' => .ex n (putA as ms' p.2)
        | .bad => .bad) Q := h
    cases e2 : takeA as δ1 with
    | none => rw [e2] at h; exact h.elim
    | some p =>
      rw [e2] at h
      dsimp only at h
      obtain ⟨ms, δ2⟩ := p
      obtain ⟨cm, c2, hM, hE2, hc, hl⟩ := takeA_of g1 hE1 e2
      have hio : ∀ i, Arg.io i ∈ as → i < δ2.length := fun i hi => by rw [hl]; exact takeA_io e2 i hi
      have w2 : Wf H1 z1 (fun a => cm a + c2 a) := w1.congr hc
      have wm : Wf H1 z1 cm := w2.mono fun a => Nat.le_add_right _ _
      rw [List.append_nil]
      refine ⟨ms, z1, cm, hM, wm, hnp as δ δ1 _ e1 e2, ?_⟩
      have s1' : Step H z c H1 z1 (fun a => cm a + c2 a) := s1.congr (fun _ => rfl) hc
      cases e3 : sem ms with
      | bad => rw [e3] at h; exact h
      | ret m ms' =>
        rw [e3] at h
        intro v H' z' c' cr hM' hR' w' s'
        obtain ⟨k, wt, st⟩ := Step.frame w2 w' s'
        have hE' := hE2.mono s'.zin (s'.on wm) fun a q => k a q
        obtain ⟨c3, h1, h2, _⟩ := putA_of g1 hM' hE' hio
        have hle : ∀ a, c3 a + cr a ≤ c' a + cr a + c2 a := fun a => by have := h2 a; omega
        exact h v H' ⟨z', c3, cr, h1, hR', wt.mono hle, (s1'.trans w2 st).mono hle⟩
      | ex n ms' =>
        rw [e3] at h
        intro H' z' c' hM' w' s'
        obtain ⟨k, wt, st⟩ := Step.frame w2 w' s'
        have hE' := hE2.mono s'.zin (s'.on wm) fun a q => k a q
        obtain ⟨c3, h1, h2, _⟩ := putA_of g1 hM' hE' hio
        exact h H' ⟨z', c3, h1, wt.mono h2, (s1'.trans w2 st).mono h2⟩
/-- how many arguments -/
def ArgN (A : AF) (n : Nat) : Prop := ∀ δ as δ1, A δ = .ok as δ1 → as.length = n
theorem argN_nil : ArgN aN 0 := fun δ as δ1 h => by cases h; rfl
theorem argN_val {n : Nat} (h : ArgN A n) : ArgN (aV F A) (n + 1) := fun δ as δ1 e => by
  unfold aV at e
  cases e1 : F δ with
  | bad => rw [e1] at e; cases e
  | ex _ _ => rw [e1] at e; cases e
  | ok m δ2 =>
    rw [e1] at e
    have e : (A δ2).bind (fun as δ2 => R.ok (.val m.frz :: as) δ2) = .ok as δ1 := e
    cases e2 : A δ2 with
    | bad => rw [e2] at e; cases e
    | ex _ _ => rw [e2] at e; cases e
    | ok as' δ3 => rw [e2] at e; cases e; simp [h _ _ _ e2]
theorem argN_io {n i : Nat} (h : ArgN A n) : ArgN (aIo i A) (n + 1) := fun δ as δ1 e => by
  unfold aIo at e
  split at e
  · cases e2 : A δ with
    | bad => rw [e2] at e; cases e
    | ex _ _ => rw [e2] at e; cases e
    | ok as' δ3 => rw [e2] at e; cases e; simp [h _ _ _ e2]
  · cases e
theorem takeA_len : ∀ {as : List Arg} {δ : Env'} {p : List M × Env'}, takeA as δ = some p → p.1.length = as.length
  | [], _, _, e => by cases e; rfl
  | .val m :: as, δ, _, e => by
    unfold takeA at e
    cases q : takeA as δ with
    | none => rw [q] at e; cases e
    | some p => rw [q] at e; cases e; simp [takeA_len q]
  | .io j :: as, δ, _, e => by
    unfold takeA at e
    split at e
    · rename_i m _
      cases q : takeA as (δ.set j none) with
      | none => rw [q] at e; cases e
      | some p => rw [q] at e; cases e; simp [takeA_len q]
    · cases e
variable {k j : Nat} {x : Str} {ps : List Str} {sem : Sem} {p : Pos}
theorem de_call {n : Nat} (C : Cal X.prog X.w X.K X.mg X.base tb k x ps sem) (tk : Takes X W) (hr : Room j X.A) (hg : Gl X x) (ha : DA tb W X (e :: es) A) (hn : ArgN A n) (hkj : k ≤ j := by first | decide | omega) (hps : ps.length = n := by rfl) (hdb : (x == ("__debug__" : Str)) = false := by decide)
    (he : starEach (e :: es) X.env = (false, eval e X.env) :: starEach es X.env := by rfl) (hpl : (backTo pos (starEach es X.env)).any (·.1) = false := by rfl) :
    DE tb W X (.Call (.Name x p) (e :: es) [] pos) (eCl sem A) := by
  obtain ⟨f, fd, F, hm, hk, hb⟩ := C.ex
  exact (pe_callSD F (hr.mono hkj) hg hm hk hb .nil (fun σ => passAt tk σ) ha hdb he hpl).wk fun σ H Q h => call_of h fun as δ δ1 p e1 e2 => by rw [takeA_len e2, hn _ _ _ e1, hps]
/-- without an argument; nothing is raised -/
def eCl0 (sem : Sem) : EF := fun δ => match sem [] with
  | .ret m _ => .ok m δ
  | _ => .bad
theorem de_call0 (C : Cal X.prog X.w X.K X.mg X.base tb k x [] sem) (hr : Room j X.A) (hg : Gl X x) (hkj : k ≤ j := by first | decide | omega) (hdb : (x == ("__debug__" : Str)) = false := by decide) : DE tb W X (.Call (.Name x p) [] [] pos) (eCl0 sem) := by
  obtain ⟨f, fd, F, hm, hk, hb⟩ := C.ex
  refine (pe_call0 F (hr.mono hkj) hg hm hk hb .nil passL hdb).wk fun σ H Q ⟨δ, z, c, hE, w, h⟩ => ?_
  refine ⟨[], z, zero, .nil fun _ => rfl, w.mono fun _ => Nat.zero_le _, rfl, ?_⟩
  unfold eCl0 at h
  cases e : sem [] with
  | bad => rw [e] at h; exact h
  | ex _ _ => rw [e] at h; exact h.elim
  | ret m ms' =>
    rw [e] at h
    intro v H' z' c' cr hM' hR' w' s'
    have w2 : Wf H z (fun a => zero a + c a) := w.congr fun a => by show c a = 0 + c a; omega
    obtain ⟨k, wt, st⟩ := Step.frame w2 w' s'
    have hE' := hE.mono s'.zin (s'.on (w.mono fun _ => Nat.zero_le _)) fun a q => k a q
    have hle : ∀ a, c a + cr a ≤ c' a + cr a + c a := fun a => by omega
    exact h v H' ⟨z', c, cr, hE', hR', wt.mono hle, (st.mono hle).congr (fun a => by show 0 + c a = c a; omega) fun _ => rfl⟩
/-! ### a def -/
def frzM : M → Bool
  | .v (.fz _) => true
  | .o false _ _ => true
  | _ => false
/-- what is lent must be handed back; the rest is frozen -/
def okArgs (io : List Nat) : Nat → List M → Bool
  | _, [] => true
  | i, m :: ms => (decide (i ∈ io) || frzM m) && okArgs io (i + 1) ms
def backA (io : List Nat) : Nat → List M → Env' → Option (List M)
  | _, [], _ => some []
  | i, m :: ms, o :: δ => if i ∈ io then (match o with
      | some m' => (backA io (i + 1) ms δ).map (m' :: ·)
      | none => none) else (backA io (i + 1) ms δ).map (m :: ·)
  | _, _ :: _, [] => none
def frOf (io : List Nat) (ms : List M) : SR → FR
  | .nx δ => match backA io 0 ms δ with
    | some ms' => .ret (.fz .none) ms'
    | none => .bad
  | .rt m δ => match backA io 0 ms δ with
    | some ms' => .ret m ms'
    | none => .bad
  | .ex n δ => match backA io 0 ms δ with
    | some ms' => .ex n ms'
    | none => .bad
  | _ => .bad
def semOf (n np : Nat) (io : List Nat) (S : SF) : Sem := fun ms => if ms.length = np ∧ okArgs io 0 ms = true then frOf io ms (S (ms.map some ++ List.replicate (n - np) none)) else .bad
def pinL (io : List Nat) (vs : List V) : List (Nat × V) := io.map fun i => (i, vs.getD i .non)
theorem RpM.env : ∀ {ms : List M} {vs : List V} {c : Ct} (n : Nat), RpM K tb H z ms vs c → RpE K tb H z (ms.map some ++ List.replicate n none) (vs.map some ++ List.replicate n none) c
  | _, _, _, 0, .nil e => .nil e
  | _, _, _, n + 1, .nil e => .no (RpM.env n (.nil e))
  | _, _, _, n, .cons h r e => .yes h (RpM.env n r) e
theorem frzM_zero {m : M} {v : V} (h : Rp K tb H z m v c) (e : frzM m = true) : ∀ a, c a = 0 := by
  cases h with
  | v r =>
    cases r with
    | fz _ q => exact q
    | lst _ _ _ => cases e
    | dik _ _ _ => cases e
    | dit _ _ _ => cases e
  | ins _ _ _ => cases e
  | fin _ _ _ _ q => exact q
theorem backA_of {io : List Nat} : ∀ {ms : List M} {vs : List V} {i : Nat} {δ : Env'} {σ : St} {ms' : List M} {c c' : Ct}, RpM K tb H z ms vs c → okArgs io i ms = true → RpE K tb H' z' δ σ c' → backA io i ms δ = some ms' → (∀ a, z a → z' a) → (∀ a, z a → H' a = H a) →
    (∀ j v, i + j ∈ io → vs[j]? = some v → σ[j]? = some (some v)) → ∃ c2, RpM K tb H' z' ms' vs c2 ∧ ∀ a, c2 a ≤ c' a
  | [], _, _, _, _, _, _, c', .nil _, _, _, e, _, _, _ => by
    cases e
    exact ⟨zero, .nil fun _ => rfl, fun _ => Nat.zero_le _⟩
  | m :: ms, _, i, [], _, _, _, _, .cons _ _ _, _, _, e, _, _, _ => by cases e
  | m :: ms, v :: vs, i, o :: δ, x :: σ, ms', c, c', .cons h r hc, ok, hE, e, hz, hH, hp => by
    have ok' := Bool.and_eq_true_iff.mp (show ((decide (i ∈ io) || frzM m) && okArgs io (i + 1) ms) = true from ok)
    have hp' : ∀ j w, i + 1 + j ∈ io → vs[j]? = some w → σ[j]? = some (some w) := fun j w h1 h2 => by
      have := hp (j + 1) w (by rwa [show i + (j + 1) = i + 1 + j by omega]) (by simpa using h2)
      simpa using this
    unfold backA at e
    by_cases hi : i ∈ io
    · rw [if_pos hi] at e
      cases o with
      | none => cases e
      | some m' =>
        dsimp only at e
        cases q : backA io (i + 1) ms δ with
        | none => rw [q] at e; cases e
        | some ms2 =>
          rw [q] at e
          cases e
          have hx : x = some v := by simpa using hp 0 v (by simpa using hi) rfl
          subst hx
          cases hE with
          | yes hm hr hcc =>
            rename_i d1 d2
            obtain ⟨c2, h1, h2⟩ := backA_of r ok'.2 hr q hz hH hp'
            exact ⟨fun a => d1 a + c2 a, .cons hm h1 fun _ => rfl, fun a => by have := h2 a; have := hcc a; show d1 a + c2 a ≤ _; omega⟩
    · rw [if_neg hi] at e
      cases q : backA io (i + 1) ms δ with
      | none => rw [q] at e; cases e
      | some ms2 =>
        rw [q] at e
        cases e
        have fm : frzM m = true := by
          have := ok'.1
          simpa [hi] using this
        have z0 := frzM_zero h fm
        have h' := h.mono (H' := H') hz hH fun a q => by rw [z0] at q; exact absurd q (Nat.lt_irrefl _)
        have tail : ∃ d, RpE K tb H' z' δ σ d ∧ ∀ a, d a ≤ c' a := by
          cases hE with
          | no hr => exact ⟨_, hr, fun _ => Nat.le_refl _⟩
          | yes hm hr hcc => exact ⟨_, hr, fun a => by have := hcc a; omega⟩
        obtain ⟨d, hd1, hd2⟩ := tail
        obtain ⟨c2, h1, h2⟩ := backA_of r ok'.2 hd1 q hz hH hp'
        exact ⟨c2, .cons h' h1 fun a => by rw [z0]; omega, fun a => Nat.le_trans (h2 a) (hd2 a)⟩
  | m :: ms, _ :: _, i, o :: δ, [], _, _, _, .cons _ _ _, _, hE, _, _, _, _ => by cases hE
end
/-- a wish of the body's -/
abbrev WOf (E : XK) : WX := fun cls d _ H => E cls d H
section
variable {P : Program} {w : World} {K : PySem.W.Frag} {mg : Str → Option Value} {base : Heap} {tb : Nat → Addr}
theorem pinOk_start {io : List Nat} {n : Nat} {vs : List V} (h : ∀ i ∈ io, i < vs.length) : pinOk (pinL io vs) (vs.map some ++ List.replicate n none) := fun p hp => by
  obtain ⟨i, hi, rfl⟩ := List.mem_map.mp hp
  have hl := h i hi
  rw [List.getElem?_append_left (by simpa using hl)]
  simp [List.getD, hl]
theorem fn_D {x qual : Str} {st : Stmt} {f : Addr} {fd : FuncData} {N ps : List Str} {k : Nat} (F : FunD K x qual (defArgs st) (defBody st) (defScope st) [] [] f fd) (S0 : FnScope N ps (defScope st)) (io : List Nat) (S : SF) (hio : (io.all fun i => decide (i < ps.length)) = true)
    (hb : ∀ (cdv : Value) (A : Around) (outer : List Env) (s : Shared) (H : Hp) (vs : List V) (E : XK), Room k (A.deeper (PyProof.Rows.envOfC qual (defScope st) s.heap.objs.size f cdv)) →
      Takes (cxOf (L2.CX P w) P w K mg base N qual (defScope st) f cdv A outer s H E) (WOf E) →
      PassesOwn (model P w) (cxOf (L2.CX P w) P w K mg base N qual (defScope st) f cdv A outer s H E).A (cxOf (L2.CX P w) P w K mg base N qual (defScope st) f cdv A outer s H E).env (cxOf (L2.CX P w) P w K mg base N qual (defScope st) f cdv A outer s H E).xe →
      DB tb (pinL io vs) (WOf E) (cxOf (L2.CX P w) P w K mg base N qual (defScope st) f cdv A outer s H E) (defBody st) S) :
    FnOk P w K mg base (L2.CX P w) (k + 1) f fd ps (spD K tb ps.length (semOf N.length ps.length io S)) := by
  refine F.ok S0 (fun vs H Q E ⟨ms, z, c, hM, _, hl, _⟩ => by rw [← hM.len]; exact hl) fun cdv A outer s H vs Q E hr ⟨ms, z, c, hM, w, hl, h⟩ => ?_
  refine ⟨_, hb cdv A outer s H vs E hr (takes_of rfl rfl rfl rfl) (passes_of rfl), ?_⟩
  have hlv : vs.length = ps.length := by rw [← hM.len]; exact hl
  have hio' : ∀ i ∈ io, i < vs.length := fun i hi => by rw [hlv]; exact of_decide_eq_true (List.all_eq_true.mp hio i hi)
  have hst : L2.start N vs = vs.map some ++ List.replicate (N.length - ps.length) none := by unfold L2.start; rw [hlv]
  rw [hst]
  refine ⟨pinOk_start hio', ms.map some ++ List.replicate (N.length - ps.length) none, z, c, RpM.env _ hM, w, ?_⟩
  unfold semOf at h
  by_cases hok : ms.length = ps.length ∧ okArgs io 0 ms = true
  case neg => rw [if_neg hok] at h; exact h.elim
  rw [if_pos hok] at h
  have hpin : ∀ {σ : St}, pinOk (pinL io vs) σ → ∀ j v, 0 + j ∈ io → vs[j]? = some v → σ[j]? = some (some v) := fun {σ} hp j v hj hv => by
    rw [Nat.zero_add] at hj
    have := hp (j, vs.getD j .non) (List.mem_map.mpr ⟨j, hj, rfl⟩)
    simpa [List.getD, hv] using this
  cases e : S (ms.map some ++ List.replicate (N.length - ps.length) none) with
  | bad => rw [e] at h; exact h
  | bk _ => rw [e] at h; exact h.elim
  | ct _ => rw [e] at h; exact h.elim
  | nx δ' =>
    rw [e] at h
    intro σ' H' ⟨hp, z', c', hE, w', s'⟩
    unfold frOf at h
    dsimp only at h
    cases q : backA io 0 ms δ' with
    | none => rw [q] at h; exact h.elim
    | some ms' =>
      rw [q] at h
      obtain ⟨c2, h1, h2⟩ := backA_of hM hok.2 hE q s'.zin (s'.on w) (hpin hp)
      have hle : ∀ a, c2 a + zero a ≤ c' a := fun a => by have := h2 a; show c2 a + 0 ≤ _; omega
      exact h .non H' z' c2 zero h1 (.v (.fz .non fun _ => rfl)) (w'.mono hle) (s'.mono hle)
  | rt m δ' =>
    rw [e] at h
    intro v σ' H' ⟨hp, z', c', cm, hE, hR, w', s'⟩
    unfold frOf at h
    dsimp only at h
    cases q : backA io 0 ms δ' with
    | none => rw [q] at h; exact h.elim
    | some ms' =>
      rw [q] at h
      obtain ⟨c2, h1, h2⟩ := backA_of hM hok.2 hE q s'.zin (s'.on w) (hpin hp)
      have hle : ∀ a, c2 a + cm a ≤ c' a + cm a := fun a => by have := h2 a; omega
      exact h v H' z' c2 cm h1 hR (w'.mono hle) (s'.mono hle)
  | ex n δ' =>
    rw [e] at h
    intro σ' H' ⟨hp, z', c', hE, w', s'⟩
    unfold frOf at h
    dsimp only at h
    cases q : backA io 0 ms δ' with
    | none => rw [q] at h; exact h.elim
    | some ms' =>
      rw [q] at h
      obtain ⟨c2, h1, h2⟩ := backA_of hM hok.2 hE q s'.zin (s'.on w) (hpin hp)
      exact h H' z' c2 h1 (w'.mono h2) (s'.mono h2)
/-- a def that is never run -/
theorem fn_bad {x qual : Str} {st : Stmt} {f : Addr} {fd : FuncData} {ps : List Str} {k : Nat} : FnOk P w K mg base (L2.CX P w) k f fd ps (spD K tb ps.length fun _ => .bad) :=
  ⟨fun vs H Q E ⟨ms, z, c, hM, _, hl, _⟩ => by rw [← hM.len]; exact hl, fun A outer s H args us vs Q E _ _ _ _ ⟨ms, z, c, hM, w, hl, h⟩ => h.elim⟩
/-- the law -/
def spLaw (K : PySem.W.Frag) : Sp := fun vs H Q _ => ∃ (a : Addr) (ns : List Int), vs = [.ref a] ∧ ns.length ≤ 63 ∧ SqL K H a (ns.map V.int) ∧ ∀ H', Q (.bl true) H'
theorem fn_law {x qual : Str} {st : Stmt} {f : Addr} {fd : FuncData} {N : List Str} {k : Nat} (F : FunD K x qual (defArgs st) (defBody st) (defScope st) [] [] f fd) (S0 : FnScope N ["script"] (defScope st)) (S : SF)
    (hS : ∀ ns : List Int, ns.length ≤ 63 → ∃ δ', S (some (.fz (.list (ns.map .int))) :: List.replicate (N.length - 1) none) = .rt (.fz (.bool true)) δ')
    (hb : ∀ (cdv : Value) (A : Around) (outer : List Env) (s : Shared) (H : Hp) (vs : List V) (E : XK), Room k (A.deeper (PyProof.Rows.envOfC qual (defScope st) s.heap.objs.size f cdv)) →
      Takes (cxOf CX0 P w K mg base N qual (defScope st) f cdv A outer s H E).nox Wno →
      PassesOwn (model P w) (cxOf CX0 P w K mg base N qual (defScope st) f cdv A outer s H E).nox.A (cxOf CX0 P w K mg base N qual (defScope st) f cdv A outer s H E).nox.env (cxOf CX0 P w K mg base N qual (defScope st) f cdv A outer s H E).nox.xe →
      DB tb (pinL [] vs) Wno (cxOf CX0 P w K mg base N qual (defScope st) f cdv A outer s H E).nox (defBody st) S) :
    FnOk P w K mg base CX0 (k + 1) f fd ["script"] (spLaw K) := by
  refine F.ok S0 (fun vs H Q E ⟨a, ns, e, _⟩ => by rw [e]; rfl) fun cdv A outer s H vs Q E hr ⟨a, ns, e, hl, hq, h⟩ => ?_
  refine ⟨_, PSs.nox (hb cdv A outer s H vs E hr takes0 PassesOwn.never), ?_⟩
  subst e
  obtain ⟨δ', hδ⟩ := hS ns hl
  have fIn : ∀ (z : Zn) (ns : List Int), FzA K H z (ns.map .int) (ns.map V.int) := fun z ns => FzA.intsV ns
  have hst : L2.start N [V.ref a] = some (.ref a) :: List.replicate (N.length - 1) none := rfl
  rw [hst]
  have fin : ∀ z : Zn, (∀ b, z b → H b ≠ none) → ((z a ∧ Rd H a (.lst (ns.map V.int))) ∨ KcL K a (ns.map V.int)) → tS K tb (pinL [] [V.ref a]) Wno S { nx := fun _ H' => Q .non H', rt := Q } (some (.ref a) :: List.replicate (N.length - 1) none) H := fun z hz hh => by
    refine ⟨(fun p hp => nomatch hp), some (.fz (.list (ns.map .int))) :: List.replicate (N.length - 1) none, z, zero, RpM.env (vs := [.ref a]) (ms := [.fz (.list (ns.map .int))]) _ (.cons (c1 := zero) (c2 := zero) (.v (.fz (.lst hh (fIn z ns)) fun _ => rfl)) (.nil fun _ => rfl) fun _ => rfl), ⟨hz, fun _ _ => rfl, fun _ => Nat.zero_le _, fun _ q => absurd q (Nat.lt_irrefl _)⟩, ?_⟩
    rw [hδ]
    intro v σ' H' ⟨_, z', c', cm, _, hR, _⟩
    have ev : v = .bl true := by cases hR with | v r => cases r with | fz f _ => exact f.bool_
    rw [ev]
    exact h H'
  rcases hq with hq | hq
  · refine fin (fun b => b = a) (fun b e => ?_) (.inl ⟨rfl, hq⟩)
    rw [e]
    rcases hq with hq | ⟨o, hq⟩ <;> (rw [hq]; exact fun z => nomatch z)
  · exact fin (fun _ => False) (fun _ q => q.elim) (.inr hq)
end
/-! ### raise, try -/
abbrev veB : List Value := [.type "ValueError", .type "Exception", .type "BaseException", .type "object"]
/-- an exception class of the text -/
structure ExcC (K : PySem.W.Frag) (mg : Str → Option Value) (x : Str) (a : Addr) : Prop where
  q : PySem.W.excIn K a veB "ValueError.__new__" = true
  g : mg x = some (.ref a)
  k : PySem.W.keepIn K (.ref a) = true
  b : PySem.W.subIn K (.ref a) (.type "BaseException") = some true
  t : PySem.W.typeIn K (.ref a) = some (.type "type")
section
variable {K : PySem.W.Frag} {tb : Nat → Addr} {pin : List (Nat × V)} {W : WX} {H H' H1 : Hp} {z z' z1 : Zn} {c c' c1 : Ct} {σ σ1 : St} {δ δ' : Env'} {X : Cx} {D : Ends}
variable {a b e : Expr} {F G : EF} {pos p p2 p3 : Pos} {es : List Expr} {st : Stmt} {rest body : List Stmt} {S T U : SF} {A : AF} {x m : Str} {n j : Nat}
def sRs (n : Nat) : SF := fun δ => .ex n δ
theorem raise_of {n : Nat} (h : tS K tb pin W (sRs n) D σ H) : W (.ref (tb n)) none σ H := by
  obtain ⟨hp, δ, z, c, hE, w, h⟩ := h
  exact h σ H ⟨hp, z, c, hE, w, Step.refl _ _ _⟩
theorem ds_raise (n : Nat) (hc : X.calm = true) (tk : Takes X W) (C : ExcC X.K X.mg x (tb n)) (hg : Gl X x) (hdb : (x == ("__debug__" : Str)) = false := by decide) : DS tb pin W X (.Raise (some (.Call (.Name x p) [.Constant (.str m) j p2] [] pos)) none p3) (sRs n) :=
  (ps_raise hc tk (pmk_own PySem.F.excBase_ValueError C.q C.g C.k (raises_own C.b C.t) hg hdb)).wk fun D σ H h => raise_of h
/-- class n is caught by class c: all are below the one with the number 0 -/
def subX (n c : Nat) : Bool := decide (n = c) || decide (c = 0)
def pick : List (Nat × SF) → Nat → SF
  | [], n, δ => .ex n δ
  | (c, S) :: r, n, δ => if subX n c then S δ else pick r n δ
def sTr (B : SF) (hs : List (Nat × SF)) : SF := fun δ => match B δ with
  | .ex n δ1 => pick hs n δ1
  | r => r
/-- no exception leaves the except suites -/
inductive HdsD (tb : Nat → Addr) (pin : List (Nat × V)) (X : Cx) : List ExceptHandler → List (Nat × SF) → Prop
  | nil : HdsD tb pin X [] []
  | cons {x : Str} {c : Nat} {S : SF} {b₀ : Stmt} {suite : List Stmt} {np pos' : Pos} {hds : List ExceptHandler} {l : List (Nat × SF)} (hc : Names X x (.ref (tb c)))
      (hsu : ∀ (a : Addr) (pn : List (Addr × Obj)), DB tb pin Wno (X.suite a pn) (b₀ :: suite) S) (r : HdsD tb pin X hds l) : HdsD tb pin X (.ExceptHandler (some (.Name x np)) none (b₀ :: suite) pos' :: hds) ((c, S) :: l)
theorem HdsD.ok : ∀ {hds : List ExceptHandler} {l : List (Nat × SF)}, HdsD tb pin X hds l → HdsOk X hds (l.map fun q => (.ref (tb q.1), fun _ _ _ => tS X.K tb pin Wno q.2))
  | _, _, .nil => .nil
  | _, _, .cons hc hsu r => .cons hc (fun a oe cls d pn _ _ => hsu a ((a, oe) :: pn)) (HdsD.ok r)
theorem Names.exc {c : Nat} (C : ExcC X.K X.mg x (tb c)) (hg : Gl X x) (hdb : (x == ("__debug__" : Str)) = false := by decide) : Names X x (.ref (tb c)) := ⟨hg, hdb, .inl C.g⟩
theorem OutS.wno {S : SF} (hp : pinOk pin σ) (hE : RpE K tb H z δ σ c) (w : Wf H z c) (hn : ∀ n δ', S δ ≠ .ex n δ') (h : OutS K tb pin W H z c (S δ) D) : tS K tb pin Wno S D σ H := by
  refine ⟨hp, δ, z, c, hE, w, ?_⟩
  cases e : S δ with
  | nx δ1 => rw [e] at h; exact h
  | rt m δ1 => rw [e] at h; exact h
  | bk δ1 => rw [e] at h; exact h
  | ct δ1 => rw [e] at h; exact h
  | ex n δ1 => exact absurd e (hn n δ1)
  | bad => rw [e] at h; exact h
/-- the semantics of a suite that raises is bad -/
def noEx (S : SF) : SF := fun δ => match S δ with
  | .ex _ _ => .bad
  | r => r
def noExs : List (Nat × SF) → List (Nat × SF)
  | [] => []
  | (c, S) :: r => (c, noEx S) :: noExs r
theorem pick_of : ∀ {l : List (Nat × SF)} {n : Nat}, (∀ q ∈ l, PySem.W.exmOne K (.ref (tb n)) (.ref (tb q.1)) = some (subX n q.1)) → pinOk pin σ → RpE K tb H z δ σ c → Wf H z c →
    OutS K tb pin W H z c (pick (noExs l) n δ) D → wMany K W D (l.map fun q => (.ref (tb q.1), fun _ _ _ => tS K tb pin Wno q.2)) (.ref (tb n)) none σ H
  | [], n, _, hp, hE, w, h => h σ H ⟨hp, z, c, hE, w, Step.refl _ _ _⟩
  | (c0, S) :: l, n, hs, hp, hE, w, h => by
    unfold noExs pick at h
    refine ⟨subX n c0, hs (c0, S) List.mem_cons_self, fun hb a _ => ?_, fun hb => ?_⟩
    · rw [if_pos hb] at h
      have h : OutS K tb pin W H z c (noEx S δ) D := h
      unfold noEx at h
      cases e2 : S δ with
      | ex k δ1 => rw [e2] at h; exact h.elim
      | nx δ1 => rw [e2] at h; exact OutS.wno (W := W) (S := S) hp hE w (fun n δ' q => by rw [e2] at q; cases q) (by rw [e2]; exact h)
      | rt m δ1 => rw [e2] at h; exact OutS.wno (W := W) (S := S) hp hE w (fun n δ' q => by rw [e2] at q; cases q) (by rw [e2]; exact h)
      | bk δ1 => rw [e2] at h; exact OutS.wno (W := W) (S := S) hp hE w (fun n δ' q => by rw [e2] at q; cases q) (by rw [e2]; exact h)
      | ct δ1 => rw [e2] at h; exact OutS.wno (W := W) (S := S) hp hE w (fun n δ' q => by rw [e2] at q; cases q) (by rw [e2]; exact h)
      | bad => rw [e2] at h; exact h.elim
    · rw [if_neg (by rw [hb]; exact Bool.false_ne_true)] at h
      exact pick_of (fun q hq => hs q (List.mem_cons_of_mem _ hq)) hp hE w h
theorem ds_try {h₀ : ExceptHandler} {hds : List ExceptHandler} {l : List (Nat × SF)} (hs : ∀ n, ∀ q ∈ l, PySem.W.exmOne X.K (.ref (tb n)) (.ref (tb q.1)) = some (subX n q.1)) (hst : X.stack = X.env :: X.outer) (hf : X.env.frame = some X.env.locals) (tk : Takes X W)
    (hb : ∀ (W : WX) (pn : List (Addr × Obj)) (xe : Value → Shared → Prop), Takes (X.tr pn xe) W → PassesOwn (model X.prog X.w) X.A X.env xe → DB tb pin W (X.tr pn xe) body S) (hh : HdsD tb pin X (h₀ :: hds) l) :
    DS tb pin W X (.Try body (h₀ :: hds) [] [] pos) (sTr S (noExs l)) :=
  (ps_try_many (tb := fun W => tS X.K tb pin W S) hst hf tk hb hh.ok).wk fun D σ H ⟨hp, δ, z, c, hE, w, h⟩ => by
    refine ⟨hp, δ, z, c, hE, w, ?_⟩
    unfold sTr at h
    cases e : S δ with
    | nx δ1 => rw [e] at h; exact h
    | rt m δ1 => rw [e] at h; exact h
    | bk δ1 => rw [e] at h; exact h
    | ct δ1 => rw [e] at h; exact h
    | bad => rw [e] at h; exact h
    | ex n δ1 =>
      rw [e] at h
      intro σ' H' ⟨hp', z', c', hE', w', s'⟩
      exact pick_of (hs n) hp' hE' w' (OutS.step s' w' h)
end
end FS
namespace FS
open PySem PySem.Spec L2
section
variable {K : PySem.W.Frag} {tb : Nat → Addr} {pin : List (Nat × V)} {W : WX} {H H' H1 : Hp} {z z' z1 : Zn} {c c' c1 : Ct} {σ σ1 : St} {δ δ' : Env'} {X : Cx} {D : Ends}
variable {a b e : Expr} {F G : EF} {pos p apos : Pos} {es : List Expr} {st : Stmt} {rest body : List Stmt} {S T U : SF} {A : AF} {x m : Str} {n i j : Nat}
/-! ### a list of one's own in a slot -/
theorem RpE.getV {i : Nat} {m : M} (hE : RpE K tb H z δ σ c) (hi : δ[i]? = some (some m)) : ∃ v, σ[i]? = some (some v) := by
  obtain ⟨v, _, _, e, _⟩ := hE.get hi
  exact ⟨v, e⟩
theorem own_lst {i : Nat} {ls : List L} (hE : RpE K tb H z δ σ c) (hi : δ[i]? = some (some (.v (.lst ls)))) :
    ∃ a vs ca cr, σ[i]? = some (some (.ref a)) ∧ H a = some (.lst vs) ∧ RpA K H z ls vs ca ∧ (∀ b, c b = one a b + ca b + cr b) ∧ RpE K tb H z (δ.set i none) σ cr := by
  obtain ⟨v, c1, c2, e1, e2, e3, e4⟩ := hE.get hi
  cases e2 with
  | v r =>
    cases r with
    | lst h r e => exact ⟨_, _, _, c2, e1, h, r, fun b => by rw [e3, e], e4⟩
theorem own_put {i : Nat} {a : Addr} {ls : List L} {vs : List V} {ca cr : Ct} (hl : i < δ.length) (hv : σ[i]? = some (some (.ref a))) (hA : RpA K H z ls vs ca) (hE : RpE K tb H z (δ.set i none) σ cr)
    (w : Wf H z fun b => one a b + ca b + cr b) : RpE K tb (upd H a (.lst vs)) z (δ.set i (some (.v (.lst ls)))) σ fun b => one a b + ca b + cr b := by
  have c0 : one a a + ca a + cr a ≤ 1 := w.c1 a
  have z0 : ∀ b, z b → b ≠ a := fun b q e => by
    have h : one a b + ca b + cr b = 0 := w.zc b q
    rw [e, one_self] at h
    omega
  rw [one_self] at c0
  have nca : ∀ b, 0 < ca b → b ≠ a := fun b q e => by rw [e] at q; omega
  have ncr : ∀ b, 0 < cr b → b ≠ a := fun b q e => by rw [e] at q; omega
  have hE' := hE.mono (H' := upd H a (.lst vs)) (fun _ q => q) (fun b q => upd_ne (z0 b q)) fun b q => upd_ne (ncr b q)
  have hA' := hA.mono (H' := upd H a (.lst vs)) (fun _ q => q) (fun b q => upd_ne (z0 b q)) fun b q => upd_ne (nca b q)
  exact RpE.put hE' hl hv (.v (.lst upd_same hA' fun _ => rfl))
theorem RpA.len : ∀ {ls : List L} {vs : List V} {c : Ct}, RpA K H z ls vs c → ls.length = vs.length
  | _, _, _, .nil _ => rfl
  | _, _, _, .cons _ r _ => congrArg (· + 1) (RpA.len r)
theorem RpA.set : ∀ {ls : List L} {vs : List V} {c cm : Ct} (j : Nat) {l : L} {y : V}, RpA K H z ls vs c → RpL K H z l y cm → ∃ c', RpA K H z (ls.set j l) (vs.set j y) c' ∧ ∀ a, c' a ≤ c a + cm a
  | _, _, c, cm, j, _, _, .nil e, _ => ⟨c, .nil e, fun a => Nat.le_add_right _ _⟩
  | _, _, c, cm, 0, _, _, .cons (c1 := d1) (c2 := d2) h r e, q => ⟨fun a => cm a + d2 a, .cons q r fun _ => rfl, fun a => by have := e a; show cm a + d2 a ≤ _; omega⟩
  | _, _, c, cm, j + 1, _, _, .cons (c1 := d1) (c2 := d2) h r e, q => by
    obtain ⟨c', h1, h2⟩ := RpA.set j r q
    exact ⟨fun a => d1 a + c' a, .cons h h1 fun _ => rfl, fun a => by have := e a; have := h2 a; show d1 a + c' a ≤ _; omega⟩
/-- x.append(e) -/
def sApp (i : Nat) (F : EF) : SF := fun δ => match δ[i]? with
  | some (some (.v (.lst _))) => (F δ).s fun m δ1 => (match m, δ1[i]? with
    | .v l, some (some (.v (.lst ls))) => if ls.length < big then .nx (δ1.set i (some (.lst (ls ++ [l])))) else .bad
    | _, _ => .bad)
  | _ => .bad
theorem ds_app (ho : PE X a (tVar i)) (he : DE tb W X e F) (hbase : attributeBase a (Str.ofString "append") X.env (eval a X.env) = eval a X.env := by rfl)
    (hfew : ((backTo pos (starEach [e] X.env)).all (fun x => !x.1) && (backToKw pos (keywordEach [] X.env)).all (fun x => x.1.isSome)
      && decide (([e] : List Expr).length + ([] : List Keyword).length + (if ([] : List Keyword).isEmpty then 0 else 1) < 30)) = true := by rfl)
    (hline : (apos.endLine == pos.line) = true := by rfl) (hs : starEach [e] X.env = (false, eval e X.env) :: starEach [] X.env := by rfl) (hplain : (backTo pos (starEach [] X.env)).any (·.1) = false := by rfl)
    (hsw : swapsWith (.Call (.Attribute a (Str.ofString "append") apos) [e] [] pos) none p.line X.env = pure false := by rfl) :
    DS tb pin W X (.Expr (.Call (.Attribute a (Str.ofString "append") apos) [e] [] pos) p) (sApp i F) :=
  (ps_expr (pe_bm PySem.F.plainAttrs_list PySem.F.slot_list_append PySem.F.type_list_append mt_append ho (pa_cons he pa_nil hs) hbase hfew hline hs hplain) hsw).wk fun D σ H ⟨hp, δ, z, c, hE, w, h⟩ => by
    unfold sApp at h
    cases q0 : δ[i]? with
    | none => rw [q0] at h; exact h.elim
    | some o0 =>
      rw [q0] at h
      cases o0 with
      | none => exact h.elim
      | some m0 =>
        cases m0 with
        | o _ _ _ => exact h.elim
        | v l0 =>
          cases l0 with
          | fz _ => exact h.elim
          | dic _ => exact h.elim
          | lst ls0 =>
            dsimp only at h
            obtain ⟨a, vs0, _, _, ev, hH, _, _, _⟩ := own_lst hE q0
            refine ⟨.ref a, ev, .inl ⟨rfl, vs0, .inl (.inl hH)⟩, ?_⟩
            refine go_S hp hE w h fun m δ1 v H1 z1 c1 cm hE1 r1 w1 s1 h1 => ?_
            cases m with
            | o _ _ _ => exact h1.elim
            | v l =>
              cases q1 : δ1[i]? with
              | none => rw [q1] at h1; exact h1.elim
              | some o1 =>
                rw [q1] at h1
                cases o1 with
                | none => exact h1.elim
                | some m1 =>
                  cases m1 with
                  | o _ _ _ => exact h1.elim
                  | v l1 =>
                    cases l1 with
                    | fz _ => exact h1.elim
                    | dic _ => exact h1.elim
                    | lst ls =>
                      dsimp only at h1
                      by_cases hb : ls.length < big
                      case neg => rw [if_neg hb] at h1; exact h1.elim
                      rw [if_pos hb] at h1
                      obtain ⟨a', vs, ca, cr, ev', hH', hA, hc, hE2⟩ := own_lst hE1 q1
                      rw [ev] at ev'
                      cases ev'
                      have r1' : RpL X.K H1 z1 l v cm := by cases r1 with | v r => exact r
                      have hA2 : RpA X.K H1 z1 (ls ++ [l]) (vs ++ [v]) fun b => ca b + cm b := hA.app (.cons (c2 := zero) r1' (.nil fun _ => rfl) fun b => by show cm b = cm b + 0; omega)
                      have w2 : Wf H1 z1 fun b => one a b + (ca b + cm b) + cr b := w1.congr fun b => by have := hc b; show c1 b + cm b = _; omega
                      have hE3 := own_put (lt_of_get q1) ev hA2 hE2 w2
                      have pa : 0 < one a a + (ca a + cm a) + cr a := by rw [one_self]; omega
                      obtain ⟨w3, s3⟩ := Wf.upd (o := .lst (vs ++ [v])) w2 pa trivial
                      refine ⟨a, vs, v, rfl, rfl, hH', by rw [← hA.len, big_eq]; exact hb, ?_⟩
                      exact h1 σ _ ⟨hp, z1, _, hE3, w3, s3.congr (fun b => by have := hc b; show _ = c1 b + cm b; omega) fun _ => rfl⟩
/-- x[i] = e -/
def stK (i : Nat) (m mi : M) : SF := fun δ => match m, mi, δ[i]? with
  | .v l, .v (.fz (.int k)), some (some (.v (.lst ls))) => (match ixN ls.length k with
    | some j => .nx (δ.set i (some (.lst (ls.set j l))))
    | none => .bad)
  | _, _, _ => .bad
def sSt (i : Nat) (Fi Fv : EF) : SF := fun δ => (Fv δ).s fun m δ1 => match δ1[i]? with
  | some (some _) => (Fi δ1).s fun mi δ2 => stK i m mi δ2
  | _ => .bad
theorem ixN_lt {n : Nat} {k : Int} {j : Nat} (h : ixN n k = some j) : j < n := (ixN_seq h).2.1
theorem ds_store {ix : Expr} {Fi Fv : EF} {spos : Pos} (hv : DE tb W X e Fv) (ho : PE X a (tVar i)) (hi : DE tb W X ix Fi) (hs : swapsWithSole [.Subscript a ix spos] e pos.line X.env = pure false := by rfl) (hw : swappedStores [.Subscript a ix spos] e X.env = pure none := by rfl)
    (h1 : (assignEach [.Subscript a ix spos] X.env).map (·.2) = [assign (.Subscript a ix spos) X.env] := by rfl)
    (ha : ∀ v, assign (.Subscript a ix spos) X.env v = (do
      let ov ← holding [v] (eval a X.env)
      let iv ← holding [v, ov] (eval ix X.env)
      standAt spos
      holding [v, ov, iv] (setItem ov iv v)
      release [v, ov, iv] []) := by intro _; rfl) : DS tb pin W X (.Assign [.Subscript a ix spos] e pos) (sSt i Fi Fv) :=
  (ps_asg hv (pg_sub ho hi set_list ha) hs hw h1).wk fun D σ H ⟨hp, δ, z, c, hE, w, h⟩ => by
    unfold sSt at h
    refine go_S hp hE w h fun m δ1 v H1 z1 c1 cm hE1 r1 w1 s1 h1 => ?_
    cases q1 : δ1[i]? with
    | none => rw [q1] at h1; exact h1.elim
    | some o1 =>
      rw [q1] at h1
      cases o1 with
      | none => exact h1.elim
      | some m1 =>
        dsimp only at h1
        obtain ⟨x, ev⟩ := hE1.getV q1
        refine ⟨x, ev, ?_⟩
        refine ⟨δ1, z1, c1, hE1, w1.mono fun _ => Nat.le_add_right _ _, ?_⟩
        cases e1 : Fi δ1 with
        | bad => rw [e1] at h1; exact h1.elim
        | ex n δ2 =>
          rw [e1] at h1
          intro H' ⟨z', c', hE', w', s'⟩
          obtain ⟨k, wt, st⟩ := Step.frame w1 w' s'
          exact h1 σ H' ⟨hp, z', c', hE', w', st.mono fun _ => Nat.le_add_right _ _⟩
        | ok mi δ2 =>
          rw [e1] at h1
          intro iv H' ⟨z', c', ci, hE', ri, w', s'⟩
          obtain ⟨k, wt, st⟩ := Step.frame w1 w' s'
          have h2 : OutS X.K tb pin W H1 z1 (fun a => c1 a + cm a) (stK i m mi δ2) D := h1
          unfold stK at h2
          split at h2
          · rename_i l k0 ls q2
            cases e3 : ixN ls.length k0 with
            | none => rw [e3] at h2; exact h2.elim
            | some j =>
              rw [e3] at h2
              dsimp only at h2
              obtain ⟨a', vs, ca, cr, ev', hH', hA, hc, hE2⟩ := own_lst hE' q2
              rw [ev] at ev'
              cases ev'
              have rl : RpL X.K H1 z1 l v cm := by cases r1 with | v r => exact r
              have rl' : RpL X.K H' z' l v cm := rl.mono s'.zin (s'.on (w1.mono fun _ => Nat.le_add_right _ _)) fun a q => k a q
              have ri' : iv = .int k0 := by cases ri with | v r => cases r with | fz f _ => exact f.int_
              obtain ⟨ca', hA2, hc2⟩ := hA.set j rl'
              have w2 : Wf H' z' fun b => one a' b + ca' b + cr b := wt.mono fun b => by have := hc b; have := hc2 b; show _ ≤ c' b + ci b + cm b; omega
              have hE3 := own_put (lt_of_get q2) ev hA2 hE2 w2
              have pa : 0 < one a' a' + ca' a' + cr a' := by rw [one_self]; omega
              obtain ⟨w3, s3⟩ := Wf.upd (o := .lst (vs.set j v)) w2 pa trivial
              refine ⟨a', vs, k0, j, rfl, ri', hH', by rw [← hA.len]; exact e3, ?_⟩
              refine h2 σ _ ⟨hp, z', _, hE3, w3, ?_⟩
              exact (st.mono (c'' := fun b => one a' b + ca' b + cr b) fun b => by have := hc b; have := hc2 b; show _ ≤ c' b + ci b + cm b; omega).trans w2 s3
          · exact h2.elim
/-! ### [..] * n of a fresh list -/
def fzs : List L → Option (List PD)
  | [] => some []
  | .fz d :: r => (fzs r).map (d :: ·)
  | _ => none
theorem fzs_of : ∀ {ls : List L} {ds : List PD}, fzs ls = some ds → ls = ds.map .fz
  | [], _, h => by cases h; rfl
  | .fz d :: r, _, h => by
    unfold fzs at h
    cases e : fzs r with
    | none => rw [e] at h; cases h
    | some ds => rw [e] at h; cases h; simp [fzs_of e]
  | .lst _ :: _, _, h => by cases h
  | .dic _ :: _, _, h => by cases h
theorem RpA.fzA : ∀ {ds : List PD} {vs : List V} {c : Ct}, RpA K H z (ds.map .fz) vs c → FzA K H z ds vs
  | [], _, _, .nil _ => .nil
  | _ :: _, _, _, .cons h r _ => by
    cases h with
    | fz f _ => exact .cons f (RpA.fzA r)
def gMulL (m : M) (d : PD) : Option M := match m, d with
  | .v (.lst ls), .int k => (fzs ls).bind fun ds => if -(2 ^ 63) ≤ k ∧ k < 2 ^ 63 ∧ ds.length * k.toNat ≤ big then some (.lst ((List.replicate k.toNat ds).flatten.map .fz)) else none
  | _, _ => none
def eMulL (F G : EF) : EF := fun δ => (F δ).bind fun m δ1 => (G δ1).p fun d δ2 => match gMulL m d with
  | some m' => .ok m' δ2
  | none => .bad
theorem de_mulL (ha : DE tb W X a F) (hb : DE tb W X b G) : DE tb W X (.BinOp a .Mult b pos) (eMulL F G) :=
  (pe_op op_rep ha hb).wk fun σ H Q ⟨δ, z, c, hE, w, h⟩ => by
    refine ⟨δ, z, c, hE, w, ?_⟩
    unfold eMulL at h
    cases e1 : F δ with
    | bad => rw [e1] at h; exact h
    | ex n δ1 => rw [e1] at h; exact h
    | ok m δ1 =>
      rw [e1] at h
      intro v H1 ⟨z1, c1, cm, hE1, r1, w1, s1⟩
      have h : Out X.K tb W H z c σ ((G δ1).p fun d δ2 => match gMulL m d with
        | some m' => .ok m' δ2
        | none => .bad) Q := h
      refine ⟨δ1, z1, c1, hE1, w1.mono fun _ => Nat.le_add_right _ _, ?_⟩
      cases e2 : G δ1 with
      | bad => rw [e2] at h; exact h
      | ex n δ2 =>
        rw [e2] at h
        intro H' ⟨z', c', hE', w', s'⟩
        obtain ⟨k, wt, st⟩ := Step.frame w1 w' s'
        exact h H' ⟨z', c', hE', w', (s1.trans w1 st).mono fun _ => Nat.le_add_right _ _⟩
      | ok mi δ2 =>
        rw [e2] at h
        cases mi with
        | o _ _ _ => exact h.elim
        | v l =>
          intro iv H' ⟨z', c', ci, hE', ri, w', s'⟩
          obtain ⟨k, wt, st⟩ := Step.frame w1 w' s'
          have h2 : Out X.K tb W H z c σ (match gMulL m l.pd with
            | some m' => .ok m' δ2
            | none => .bad) Q := h
          cases e3 : gMulL m l.pd with
          | none => rw [e3] at h2; exact h2.elim
          | some m' =>
            rw [e3] at h2
            generalize ek : l.pd = dd at e3
            have key : ∃ ls k0, m = .v (.lst ls) ∧ dd = .int k0 ∧ ((fzs ls).bind fun ds => if -(2 ^ 63) ≤ k0 ∧ k0 < 2 ^ 63 ∧ ds.length * k0.toNat ≤ big then some (M.lst ((List.replicate k0.toNat ds).flatten.map .fz)) else none) = some m' := by
              unfold gMulL at e3
              split at e3
              · exact ⟨_, _, rfl, rfl, e3⟩
              · cases e3
            obtain ⟨ls, k0, rfl, rfl, e5⟩ := key
            · clear e3
              cases e4 : fzs ls with
              | none => rw [e4] at e5; cases e5
              | some ds =>
                rw [e4] at e5
                simp only [Option.bind_some] at e5
                split at e5 <;> cases e5
                rename_i hh
                obtain ⟨g1, g2, g3⟩ := hh
                have els := fzs_of e4
                subst els
                have r1' : Rp X.K tb H' z' (.v (.lst (ds.map .fz))) v cm := r1.mono s'.zin (s'.on (w1.mono fun _ => Nat.le_add_right _ _)) fun a q => k a q
                have fi : Fz X.K H' (fun a => z' a ∨ 0 < ci a) l.pd iv := by
                  cases ri with | v r => exact r.freeze (fun _ => .inl) fun _ => .inr
                rw [ek] at fi
                cases r1' with
                | v r =>
                  cases r with
                  | lst hH hA hc =>
                    rename_i a vs ca
                    have fA := RpA.fzA hA
                    refine ⟨a, k0, vs, rfl, fi.int_, hH, g1, g2, by rw [← fA.len, big_eq]; exact g3, fun p hp => ?_⟩
                    have w3 : Wf H' z' c' := w'.mono fun _ => Nat.le_add_right _ _
                    have nw := NewM.lst (tb := tb) w3.zt hp (fA.rep k0.toNat)
                    have st2 : Step H z c H' z' c' := (s1.trans w1 st).mono fun b => by show c' b ≤ c' b + ci b + cm b; omega
                    exact (Out.step st2 w3 h2) _ _ (nw.aft hE' w3)
end
end FS
namespace FS
open PySem PySem.Spec L2
section
variable {K : PySem.W.Frag} {tb : Nat → Addr} {pin : List (Nat × V)} {W : WX} {H H' H1 : Hp} {z z' z1 : Zn} {c c' c1 : Ct} {σ σ1 : St} {δ δ' : Env'} {X : Cx} {D : Ends} {pins : List (Addr × Obj)} {s : Shared}
variable {a b e : Expr} {F G : EF} {pos p apos : Pos} {es : List Expr} {st : Stmt} {rest body : List Stmt} {S T U : SF} {A : AF} {x m : Str} {n i j : Nat}
/-! ### isinstance -/
def tyD : PD → String
  | .none => "NoneType"
  | .bool _ => "bool"
  | .int _ => "int"
  | .str _ => "str"
  | .list _ => "list"
  | .tuple _ => "tuple"
  | .dict _ => "dict"
theorem kit_fz (I : Inv X pins σ H s) {d : PD} {v : V} {u : Value} (rx : RelV v u) (f : Fz X.K H z d v) : ∃ P : Heap → Prop, PySem.W.KitX X.K u (.type (tyD d)) P ∧ P s.heap := by
  have go : ∀ {t : Value}, TyX X.K H v t → ∃ P : Heap → Prop, PySem.W.KitX X.K u t P ∧ P s.heap := fun ty => by
    obtain ⟨P, h1, h2, _⟩ := kit_of I rx ty
    exact ⟨P, h1, h2⟩
  cases f with
  | non => exact go (.base .non)
  | bl b => exact go (.base (.bl b))
  | int i => exact go (.base (.int i))
  | str x => exact go (.base (.str x))
  | lst h r =>
    rcases h with ⟨_, h | ⟨o, h⟩⟩ | ⟨o, its, n, h, h2, _⟩
    · exact go (.base (.lst h))
    · exact go (.base (.frz h))
    · exact go (.kList h h2)
  | tup h r => exact go (.base (.tup h.2))
  | dik q h r =>
    rcases h with h | ⟨o, h⟩
    · exact go (.base (.dK h))
    · exact go (.fDict h)
  | dit q h r =>
    rename_i a kvs kw
    rcases h with h | ⟨ob, h⟩
    · exact go (.base (.dT h))
    · cases (show u = Value.ref a from rx)
      obtain ⟨_, _, _, xs, _, o, es, ep, h1, h2, _⟩ := (show ObjOk X.prog X.w H s.heap a (.frz ob (.dT kw)) from I.hok a _ h)
      exact ⟨_, PySem.W.kitx_dict, ⟨o, h1, h2.1⟩⟩
theorem fz_nob {d : PD} {v : V} {u : Value} (rx : RelV v u) (f : Fz K H z d v) (n : String) : u ≠ .builtin n := by
  cases f with
  | non => cases (show u = Value.none from rx); exact fun q => nomatch q
  | bl b => cases (show u = Value.bool b from rx); exact fun q => nomatch q
  | int i => obtain ⟨t, e⟩ := (show ∃ t, u = Value.int i t from rx); rw [e]; exact fun q => nomatch q
  | str i => obtain ⟨t, e⟩ := (show ∃ t, u = Value.str i t from rx); rw [e]; exact fun q => nomatch q
  | lst _ _ => rw [show u = Value.ref _ from rx]; exact fun q => nomatch q
  | tup _ _ => rw [show u = Value.ref _ from rx]; exact fun q => nomatch q
  | dik _ _ _ => rw [show u = Value.ref _ from rx]; exact fun q => nomatch q
  | dit _ _ _ => rw [show u = Value.ref _ from rx]; exact fun q => nomatch q
def IsaT (T : String) (f : PD → Bool) : Prop := ∀ d, kitB (tyD d) T = some (f d)
theorem isa_int : IsaT "int" PyData.isInt := fun d => by cases d <;> (dsimp only [tyD, PyData.isInt]; decide +kernel)
theorem isa_bool : IsaT "bool" PyData.isBool := fun d => by cases d <;> (dsimp only [tyD, PyData.isBool]; decide +kernel)
theorem isa_str : IsaT "str" PyData.isStr := fun d => by cases d <;> (dsimp only [tyD, PyData.isStr]; decide +kernel)
theorem isa_list : IsaT "list" PyData.isList := fun d => by cases d <;> (dsimp only [tyD, PyData.isList]; decide +kernel)
theorem isa_tuple : IsaT "tuple" PyData.isTuple := fun d => by cases d <;> (dsimp only [tyD, PyData.isTuple]; decide +kernel)
theorem isa_dict : IsaT "dict" PyData.isDict := fun d => by cases d <;> (dsimp only [tyD, PyData.isDict]; decide +kernel)
def gIsa (f : PD → Bool) : PD → Option M := fun d => some (.fz (.bool (f d)))
def rIsa (K : PySem.W.Frag) (T : String) (f : PD → Bool) : List V → Hp → VK → Prop := fun xs H Q => ∃ (z : Zn) (d : PD) (v : V), xs = [v, .ty T] ∧ Fz K H z d v ∧ Q (.bl (f d)) H
theorem cr_isa {T : String} {f : PD → Bool} (hT : IsaT T f) : CallR X (.builtin "isinstance") (rIsa X.K T f) := by
  intro pins s σ H xs us Q I r h
  obtain ⟨z, d, v, rfl, fd, q⟩ := h
  obtain ⟨u1, u2, rfl, r1, r2⟩ := vals2 r
  cases (show u2 = Value.type T from r2)
  obtain ⟨P, Z, p⟩ := kit_fz I r1 fd
  exact PySem.W.kia_one Z I.kIn p (kit_ty (hT d)) (fz_nob r1 fd _) fun tk => ⟨.bl _, H, I.tok tk, rfl, q⟩
theorem de_isa {T : String} {f : PD → Bool} {y : Str} {py : Pos} (hT : IsaT T f) (hg : Gl X "isinstance") (hm : X.mg "isinstance" = none) (hgT : Gl X y) (hmT : X.mg y = none) (hvT : bootBuiltins y = some (.type T)) (he : DE tb W X e F)
    (hv : bootBuiltins "isinstance" = some (.builtin "isinstance") := by rfl) (hn : ("isinstance" : Str) ≠ "__name__" := by decide) (hdb : (("isinstance" : Str) == ("__debug__" : Str)) = false := by decide) (hn2 : y ≠ "__name__" := by decide) (hd2 : (y == ("__debug__" : Str)) = false := by decide)
    (he1 : starEach (e :: [.Name y py]) X.env = (false, eval e X.env) :: starEach [.Name y py] X.env := by rfl) (he2 : starEach [.Name y py] X.env = (false, eval (.Name y py) X.env) :: starEach [] X.env := by rfl) (hpl : (backTo pos (starEach [.Name y py] X.env)).any (·.1) = false := by rfl) :
    DE tb W X (.Call (.Name "isinstance" p) [e, .Name y py] [] pos) (eU1 (gIsa f) F) :=
  (pe_callB (cr_isa hT) hg hm hv (pa_cons he (pa_cons (pe_bltn hgT hmT hvT (v := .ty T) rfl hn2 hd2) pa_nil he2) he1) hn hdb he1 hpl).wk fun σ H Q ⟨δ, z, c, hE, w, h⟩ => go_P hE w h fun d δ1 v H1 z1 c1 hE1 f1 w1 s1 h1 =>
    ⟨z1, d, v, rfl, f1, h1 _ _ ((new_bl w1.zt).aft hE1 w1)⟩
/-! ### min, max, abs -/
def alikeB (xs : List PD) : Bool := xs.all fun x => (xs.all fun y => PySem.W.alike x y) && !isNone x
theorem alikeB_of {xs : List PD} (h : alikeB xs = true) : PySem.W.AlikeAll xs := by
  unfold alikeB at h
  simp only [List.all_eq_true, Bool.and_eq_true] at h
  exact ⟨fun x hx y hy => (h x hx).1 y hy, fun x hx e => by have := (h x hx).2; rw [e] at this; cases this⟩
theorem fz_reads_at (I : Inv X pins σ H s) {ds : List PD} {vs : List V} {us : List Value} (f : FzA X.K H z ds vs) (r : Vals vs us) {h' : Heap} (hk : ∀ b o, s.heap.get? b = some o → h'.get? b = some o) {i : Nat} {u : Value} {d : PD} {bs : List Addr}
    (hu : us[i]? = some u) (hd : Reads h' u d bs) (hp : PyData.plainAll ds = true) : ∃ v, RelV v u ∧ Fz X.K H z d v := by
  have hl := r.length
  have hi : i < us.length := (List.getElem?_eq_some_iff.mp hu).1
  obtain ⟨v, hv⟩ : ∃ v, vs[i]? = some v := ⟨_, List.getElem?_eq_getElem (by omega)⟩
  obtain ⟨u', hu', rv⟩ := r.get hv
  rw [hu] at hu'
  cases hu'
  obtain ⟨d', hd', f'⟩ := f.get' hv
  have pl : ∀ {ds : List PD} {j : Nat} {d : PD}, PyData.plainAll ds = true → ds[j]? = some d → d.plain = true := by
    intro ds
    induction ds with
    | nil => intro j d _ h; cases h
    | cons x r ih =>
      intro j d hq h
      have hq' := Bool.and_eq_true_iff.mp hq
      cases j with
      | zero => cases h; exact hq'.1
      | succ j => exact ih hq'.2 h
  obtain ⟨as, rd⟩ := f'.rd I (pl hp hd') rv
  have e := (PySem.SeqAt.plain_unique d' d _ _ _ (pl hp hd') (PyProof.Rows.Reads.keeps hk rd) hd)
  exact ⟨v, rv, e ▸ f'⟩
theorem rdsAll (I : Inv X pins σ H s) : ∀ {ds : List PD} {vs : List V} {us : List Value}, FzA X.K H z ds vs → Vals vs us → PyData.plainAll ds = true → ∃ as, ReadsAll s.heap us ds as
  | _, _, _, .nil, .nil, _ => ⟨_, .nil⟩
  | _, _, _, .cons h r, .cons rv rr, e => by
    have e' := Bool.and_eq_true_iff.mp e
    obtain ⟨as, h1⟩ := h.rd I e'.1 rv
    obtain ⟨bs, h2⟩ := rdsAll I r rr e'.2
    exact ⟨_, .cons h1 h2⟩
def gMM (g : PD → List PD → PD) (gi : Int → Int → Int) : List PD → Option M
  | [.list (x :: xs)] => if alikeB (x :: xs) && okNs 12 (x :: xs) then some (.fz (g x xs)) else none
  | [.tuple (x :: xs)] => if alikeB (x :: xs) && okNs 12 (x :: xs) then some (.fz (g x xs)) else none
  | [.int i, .int j] => some (.fz (.int (gi i j)))
  | _ => none
def gMin := gMM PySem.W.minD fun i j => if j < i then j else i
def gMax := gMM PySem.W.maxD fun i j => if j > i then j else i
theorem cr_gMin (hc : X.calm = true) (hu : X.A.units + 64 < cLine) : CallR X (.builtin "min") (rC X.K tb gMin) := fun pins s σ H xs us Q I r ⟨z, ds, m, hz, f, g, q⟩ => by
  unfold gMin gMM at g
  split at g
  · split at g <;> cases g
    rename_i x xs hok
    have hok' := Bool.and_eq_true_iff.mp hok
    have hp := okNs_plain hok'.2
    obtain ⟨v, rfl, f1⟩ := f.one
    obtain ⟨a, vs, rfl, hH, f2⟩ := f1.list
    obtain ⟨its, rv, hl, _⟩ := I.list (sqL_of hH)
    rw [Vals.ref1 r]
    obtain ⟨as, rs⟩ := rdsAll I f2 rv hp.1
    refine PySem.W.min_list_data (vs := its.toArray) (I.ok.hd hc) hl.isList rs (alikeB_of hok'.1) (by have := hp.2; omega) fun i v h' tk bs hv hr hk => ?_
    obtain ⟨w, rw', fw⟩ := fz_reads_at I f2 rv hk (by simpa using hv) hr hp.1
    exact ⟨w, H, I.kept hk, rw', q _ _ (NewM.at hz fw)⟩
  · split at g <;> cases g
    rename_i x xs hok
    have hok' := Bool.and_eq_true_iff.mp hok
    have hp := okNs_plain hok'.2
    obtain ⟨v, rfl, f1⟩ := f.one
    obtain ⟨a, vs, rfl, hH, f2⟩ := f1.tuple
    obtain ⟨its, rv, hl, _⟩ := I.tuple (sqT_of hH)
    rw [Vals.ref1 r]
    obtain ⟨as, rs⟩ := rdsAll I f2 rv hp.1
    refine PySem.W.min_tuple_data (vs := its.toArray) (I.ok.hd hc) hl rs (alikeB_of hok'.1) (by have := hp.2; omega) fun i v h' tk bs hv hr hk => ?_
    obtain ⟨w, rw', fw⟩ := fz_reads_at I f2 rv hk (by simpa using hv) hr hp.1
    exact ⟨w, H, I.kept hk, rw', q _ _ (NewM.at hz fw)⟩
  · cases g
    rename_i i j
    obtain ⟨v, v2, rfl, f1, f2⟩ := f.two
    rw [f1.int_, f2.int_] at r
    exact call_min2 hc pins s σ H _ us Q I r ⟨i, j, rfl, q _ _ (new_int hz)⟩
  · cases g
theorem cr_gMax (hc : X.calm = true) (hu : X.A.units + 64 < cLine) : CallR X (.builtin "max") (rC X.K tb gMax) := fun pins s σ H xs us Q I r ⟨z, ds, m, hz, f, g, q⟩ => by
  unfold gMax gMM at g
  split at g
  · split at g <;> cases g
    rename_i x xs hok
    have hok' := Bool.and_eq_true_iff.mp hok
    have hp := okNs_plain hok'.2
    obtain ⟨v, rfl, f1⟩ := f.one
    obtain ⟨a, vs, rfl, hH, f2⟩ := f1.list
    obtain ⟨its, rv, hl, _⟩ := I.list (sqL_of hH)
    rw [Vals.ref1 r]
    obtain ⟨as, rs⟩ := rdsAll I f2 rv hp.1
    refine PySem.W.max_list_data (vs := its.toArray) (I.ok.hd hc) hl.isList rs (alikeB_of hok'.1) (by have := hp.2; omega) fun i v h' tk bs hv hr hk => ?_
    obtain ⟨w, rw', fw⟩ := fz_reads_at I f2 rv hk (by simpa using hv) hr hp.1
    exact ⟨w, H, I.kept hk, rw', q _ _ (NewM.at hz fw)⟩
  · split at g <;> cases g
    rename_i x xs hok
    have hok' := Bool.and_eq_true_iff.mp hok
    have hp := okNs_plain hok'.2
    obtain ⟨v, rfl, f1⟩ := f.one
    obtain ⟨a, vs, rfl, hH, f2⟩ := f1.tuple
    obtain ⟨its, rv, hl, _⟩ := I.tuple (sqT_of hH)
    rw [Vals.ref1 r]
    obtain ⟨as, rs⟩ := rdsAll I f2 rv hp.1
    refine PySem.W.max_tuple_data (vs := its.toArray) (I.ok.hd hc) hl rs (alikeB_of hok'.1) (by have := hp.2; omega) fun i v h' tk bs hv hr hk => ?_
    obtain ⟨w, rw', fw⟩ := fz_reads_at I f2 rv hk (by simpa using hv) hr hp.1
    exact ⟨w, H, I.kept hk, rw', q _ _ (NewM.at hz fw)⟩
  · cases g
    rename_i i j
    obtain ⟨v, v2, rfl, f1, f2⟩ := f.two
    rw [f1.int_, f2.int_] at r
    exact call_max2 hc pins s σ H _ us Q I r ⟨i, j, rfl, q _ _ (new_int hz)⟩
  · cases g
def gAbs : List PD → Option M
  | [.int i] => some (.fz (.int (if i < 0 then -i else i)))
  | _ => none
theorem cr_gAbs : CallR X (.builtin "abs") (rC X.K tb gAbs) := fun pins s σ H xs us Q I r ⟨z, ds, m, hz, f, g, q⟩ => by
  unfold gAbs at g
  split at g <;> cases g
  rename_i i
  obtain ⟨v, rfl, f1⟩ := f.one
  rw [f1.int_] at r
  exact call_abs pins s σ H _ us Q I r ⟨i, rfl, q _ _ (new_int hz)⟩
/-- list(x), tuple(x) -/
def gListOf : List PD → Option M
  | [.list ds] => some (.lst (ds.map .fz))
  | [.tuple ds] => some (.lst (ds.map .fz))
  | _ => none
def gTupOf : List PD → Option M
  | [.list ds] => some (.fz (.tuple ds))
  | [.tuple ds] => some (.fz (.tuple ds))
  | _ => none
theorem cr_gListOf : CallR X (.type "list") (rC X.K tb gListOf) := fun pins s σ H xs us Q I r ⟨z, ds, m, hz, f, g, q⟩ => by
  unfold gListOf at g
  split at g <;> cases g
  · obtain ⟨v, rfl, f1⟩ := f.one
    obtain ⟨a, vs, rfl, hH, f2⟩ := f1.list
    exact call_list_of pins s σ H _ us Q I r ⟨a, vs, rfl, .inl (sqL_of hH), fun l hl => q _ _ (NewM.lst hz hl f2)⟩
  · obtain ⟨v, rfl, f1⟩ := f.one
    obtain ⟨a, vs, rfl, hH, f2⟩ := f1.tuple
    exact call_list_of pins s σ H _ us Q I r ⟨a, vs, rfl, .inr (sqT_of hH), fun l hl => q _ _ (NewM.lst hz hl f2)⟩
theorem cr_gTupOf : CallR X (.type "tuple") (rC X.K tb gTupOf) := fun pins s σ H xs us Q I r ⟨z, ds, m, hz, f, g, q⟩ => by
  unfold gTupOf at g
  split at g <;> cases g
  · obtain ⟨v, rfl, f1⟩ := f.one
    obtain ⟨a, vs, rfl, hH, f2⟩ := f1.list
    exact call_tuple_of pins s σ H _ us Q I r ⟨a, vs, rfl, .inl ⟨sqL_of hH, fun l hl => q _ _ (NewM.tup hz hl f2)⟩⟩
  · obtain ⟨v, rfl, f1⟩ := f.one
    obtain ⟨a, vs, rfl, hH, f2⟩ := f1.tuple
    exact call_tuple_of pins s σ H _ us Q I r ⟨a, vs, rfl, .inr ⟨sqT_of hH, q _ _ (NewM.at hz f1)⟩⟩
def allInt : List PD → Option (List Int)
  | [] => some []
  | .int i :: r => (allInt r).map (i :: ·)
  | _ => none
theorem allInt_of : ∀ {ds : List PD} {ns : List Int}, allInt ds = some ns → ds = ns.map .int
  | [], _, h => by cases h; rfl
  | .int i :: r, ns, h => by
    unfold allInt at h
    cases e : allInt r with
    | none => rw [e] at h; cases h
    | some ms => rw [e] at h; cases h; simp [allInt_of e]
  | .none :: _, _, h => by cases h
  | .bool _ :: _, _, h => by cases h
  | .str _ :: _, _, h => by cases h
  | .list _ :: _, _, h => by cases h
  | .tuple _ :: _, _, h => by cases h
  | .dict _ :: _, _, h => by cases h
/-- sum(xs) of a list of ints -/
def gSum : List PD → Option M
  | [.list ds] => (allInt ds).map fun ns => .fz (.int ns.sum)
  | _ => none
theorem cr_gSum (hc : X.calm = true) : CallR X (.builtin "sum") (rC X.K tb gSum) := fun pins s σ H xs us Q I r ⟨z, ds, m, hz, f, g, q⟩ => by
  unfold gSum at g
  split at g
  · rename_i ds
    cases e : allInt ds with
    | none => rw [e] at g; cases g
    | some ns =>
      rw [e] at g
      cases g
      obtain ⟨v, rfl, f1⟩ := f.one
      obtain ⟨a, vs, rfl, hH, f2⟩ := f1.list
      have ed := allInt_of e
      subst ed
      have ev := Fz.ints f2
      subst ev
      exact cr_sum hc pins s σ H _ us Q I r ⟨a, ns, rfl, sqL_of hH, q _ _ (new_int hz)⟩
  · cases g
/-- sorted(xs) -/
def sortB (xs : List PD) : Bool := (xs.all fun x => xs.all fun y => PySem.W.alike x y) && ((xs.all fun x => match x with | .tuple (_ :: _) => true | _ => false) || xs.all fun x => match x with | .none => false | .tuple _ => false | _ => true)
theorem sortB_of {xs : List PD} (h : sortB xs = true) : PySem.W.AllAlike xs ∧ PySem.W.Sortable xs := by
  unfold sortB at h
  rw [Bool.and_eq_true, Bool.or_eq_true] at h
  obtain ⟨h1, h2⟩ := h
  simp only [List.all_eq_true] at h1
  refine ⟨fun d hd d' hd' => h1 d hd d' hd', h2.imp (fun h d hd => ?_) fun h d hd => ?_⟩
  · have := List.all_eq_true.mp h d hd
    cases d with
    | tuple ys =>
      cases ys with
      | nil => cases this
      | cons x r => exact ⟨x, r, rfl⟩
    | _ => cases this
  · have := List.all_eq_true.mp h d hd
    cases d with
    | none => cases this
    | tuple _ => cases this
    | _ => exact ⟨(fun e => nomatch e), fun xs e => nomatch e⟩
def sortD (ds : List PD) : List PD := ds.mergeSort (PySem.W.dataLe false id)
def gSorted : List PD → Option M
  | [.list ds] => if sortB ds && okNs 12 ds then some (.lst ((sortD ds).map .fz)) else none
  | _ => none
theorem eachIs_of (I : Inv X pins σ H s) : ∀ {ds : List PD} {vs : List V} {us : List Value}, FzA X.K H z ds vs → Vals vs us → PyData.plainAll ds = true →
    PySem.W.EachIs (fun u d => ∃ v, RelV v u ∧ Fz X.K H z d v) us ds ∧ PySem.W.EachIs (fun u d => ∃ as, Reads s.heap u d as) us ds
  | _, _, _, .nil, .nil, _ => ⟨.nil, .nil⟩
  | _, _, _, .cons h r, .cons rv rr, e => by
    have e' := Bool.and_eq_true_iff.mp e
    obtain ⟨h1, h2⟩ := eachIs_of I r rr e'.2
    exact ⟨.cons ⟨_, rv, h⟩ h1, .cons (h.rd I e'.1 rv) h2⟩
theorem eachIs_back : ∀ {ds : List PD} {us : List Value}, PySem.W.EachIs (fun u d => ∃ v, RelV v u ∧ Fz K H z d v) us ds → ∃ vs, FzA K H z ds vs ∧ Vals vs us
  | _, _, .nil => ⟨[], .nil, .nil⟩
  | _, _, .cons ⟨v, rv, f⟩ r => by
    obtain ⟨vs, h1, h2⟩ := eachIs_back r
    exact ⟨v :: vs, .cons f h1, .cons rv h2⟩
theorem okNs_mem : ∀ {ds : List PD} {n : Nat} {d : PD}, okNs n ds = true → d ∈ ds → okN n d = true
  | [], _, _, _, h => by cases h
  | x :: r, n, d, h, hd => by
    have h' := Bool.and_eq_true_iff.mp (show (okN n x && okNs n r) = true by simpa [okNs] using h)
    rcases List.mem_cons.mp hd with e | hd
    · rw [e]; exact h'.1
    · exact okNs_mem h'.2 hd
theorem cr_gSorted (hu : X.A.units + 64 < cLine) : CallR X (.builtin "sorted") (rC X.K tb gSorted) := fun pins s σ H xs us Q I r ⟨z, ds, m, hz, f, g, q⟩ => by
  unfold gSorted at g
  split at g
  · split at g <;> cases g
    rename_i ds hok
    have hok' := Bool.and_eq_true_iff.mp hok
    have hp := okNs_plain hok'.2
    obtain ⟨h1, h2⟩ := sortB_of hok'.1
    obtain ⟨v, rfl, f1⟩ := f.one
    obtain ⟨a, vs, rfl, hH, f2⟩ := f1.list
    obtain ⟨its, rv, hl, hsz⟩ := I.list (sqL_of hH)
    rw [Vals.ref1 r]
    obtain ⟨e1, e2⟩ := eachIs_of I f2 rv hp.1
    refine PySem.W.sorted_data (enc := fun d : PD => d) hl.isList e1 e2 (by simpa using h1) (by simpa using h2) (by rw [f2.len]; exact hsz)
      (fun d hd => by have := (okN_plain (okNs_mem hok'.2 hd)).2; omega) fun out hlen he => ?_
    obtain ⟨vs', f3, rv'⟩ := eachIs_back he
    obtain ⟨ep, he'⟩ := PyProof.Rows.sortedAll_at s.heap its (List.toArray out)
    have hfr : H (s.heap.objs.size + 1) = none := I.hok.fresh (Nat.le_succ _)
    have hz' : vs'.length ≤ sizeLine := by rw [rv'.length, hlen, f2.len]; exact hsz
    exact ⟨.ref _, upd H (s.heap.objs.size + 1) (.lst vs'), I.laid (t' := s.toks) (fun _ _ => PyProof.Rows.sortedAll_old) (Nat.le_succ _) ⟨hz', out, ep, rv', he'⟩, rfl, q _ _ (NewM.lst hz hfr f3)⟩
  · cases g
/-! ### slices -/
def cutD (xs : List PD) (lo hi : Option Int) : List PD := (xs.drop (HT.sIx xs.length 0 lo)).take (HT.sIx xs.length xs.length hi - HT.sIx xs.length 0 lo)
theorem FzA.cut {ds : List PD} {vs : List V} (f : FzA K H z ds vs) (lo hi : Option Int) : FzA K H z (cutD ds lo hi) (cutV vs lo hi) := by
  unfold cutD cutV
  rw [f.len]
  exact (f.drop _).take _
def gSl : PD → Option Int → Option Int → Option M
  | .list ds, lo, hi => some (.lst ((cutD ds lo hi).map .fz))
  | .tuple ds, lo, hi => if ¬ (HT.sIx ds.length 0 lo = 0 ∧ HT.sIx ds.length ds.length hi = ds.length) then some (.fz (.tuple (cutD ds lo hi))) else none
  | _, _, _ => none
def rSl (K : PySem.W.Frag) (tb : Nat → Addr) : V → Option Int → Option Int → Hp → VK → Prop := fun x lo hi H Q =>
  ∃ z d m, (∀ a, z a → H a ≠ none) ∧ Fz K H z d x ∧ gSl d lo hi = some m ∧ ∀ v H', NewM K tb H z m v H' → Q v H'
theorem sl_gSl : SlR X (rSl X.K tb) := fun pins s σ H x v vl vu lo hi sl Q I rx hs pl pu ⟨z, d, m, hz, f, g, q⟩ => by
  unfold gSl at g
  split at g
  · cases g
    obtain ⟨a, vs, rfl, hH, f2⟩ := f.list
    exact sl_list pins s σ H _ v vl vu lo hi sl Q I rx hs pl pu ⟨a, vs, rfl, sqL_of hH, fun p hp => q _ _ (NewM.lst hz hp (f2.cut lo hi))⟩
  · split at g <;> cases g
    rename_i hw
    obtain ⟨a, vs, rfl, hH, f2⟩ := f.tuple
    rw [f2.len] at hw
    exact sl_tup pins s σ H _ v vl vu lo hi sl Q I rx hs pl pu ⟨a, vs, rfl, sqT_of hH, hw, fun p hp => q _ _ (NewM.tup hz hp (f2.cut lo hi))⟩
  · cases g
/-- a bound of a slice -/
abbrev OF := Env' → R (Option Int)
def oN : OF := fun δ => .ok none δ
def oE (F : EF) : OF := fun δ => (F δ).bind fun m δ1 => match m with
  | .v (.fz (.int i)) => .ok (some i) δ1
  | _ => .bad
def tO (K : PySem.W.Frag) (tb : Nat → Addr) (W : WX) (F : OF) : TO := fun σ H Q => ∃ δ z c, RpE K tb H z δ σ c ∧ Wf H z c ∧
  match F δ with
  | .ok o δ' => ∀ H' z' c', RpE K tb H' z' δ' σ c' → Wf H' z' c' → Step H z c H' z' c' → Q o H'
  | .ex n δ' => ∀ H', Aft K tb H z c δ' σ H' → W (.ref (tb n)) none σ H'
  | .bad => False
abbrev DO (tb : Nat → Addr) (W : WX) (X : Cx) (e : Option Expr) (F : OF) : Prop := PO X e (tO X.K tb W F)
theorem _root_.L2.PO.wk {e : Option Expr} {t t' : TO} (h : PO X e t) (i : ∀ σ H Q, t' σ H Q → t σ H Q) : PO X e t' := ⟨fun pins s σ H Q I q => h.run pins s σ H Q I (i σ H Q q)⟩
theorem do_none : DO tb W X none oN := po_none.wk fun σ H Q ⟨δ, z, c, hE, w, h⟩ => h H z c hE w (Step.refl _ _ _)
theorem do_some (h : DE tb W X e F) : DO tb W X (some e) (oE F) := (po_some h).wk fun σ H Q ⟨δ, z, c, hE, w, h⟩ => by
  refine ⟨δ, z, c, hE, w, ?_⟩
  unfold oE at h
  cases e1 : F δ with
  | bad => rw [e1] at h; exact h
  | ex n δ1 => rw [e1] at h; exact h
  | ok m δ1 =>
    rw [e1] at h
    intro v H' ⟨z', c', cm, hE', hR, w', s'⟩
    cases m with
    | o _ _ _ => exact h.elim
    | v l =>
      cases l with
      | lst _ => exact h.elim
      | dic _ => exact h.elim
      | fz d =>
        cases d with
        | int i =>
          have ev : v = .int i := by cases hR with | v r => cases r with | fz f _ => exact f.int_
          exact ⟨i, ev, h H' z' c' hE' (w'.mono fun _ => Nat.le_add_right _ _) (s'.mono fun _ => Nat.le_add_right _ _)⟩
        | _ => exact h.elim
def eSl (F : EF) (Lo Hi : OF) : EF := fun δ => (F δ).p fun d δ1 => (Lo δ1).bind fun lo δ2 => (Hi δ2).bind fun hi δ3 => match gSl d lo hi with
  | some m => .ok m δ3
  | none => .bad
theorem go_O {F : OF} {f : Option Int → Env' → R M} {Q : VK} {Q1 : Option Int → Hp → Prop} (hE : RpE K tb H z δ σ c) (w : Wf H z c) (h : Out K tb W H z c σ ((F δ).bind f) Q)
    (k : ∀ o δ1 H1 z1 c1, RpE K tb H1 z1 δ1 σ c1 → Wf H1 z1 c1 → Step H z c H1 z1 c1 → Out K tb W H1 z1 c1 σ (f o δ1) Q → Q1 o H1) : tO K tb W F σ H Q1 := by
  refine ⟨δ, z, c, hE, w, ?_⟩
  cases e : F δ with
  | ok o δ1 =>
    rw [e] at h
    exact fun H' z1 c1 h1 h3 h4 => k o δ1 H' z1 c1 h1 h3 h4 (Out.step h4 h3 h)
  | ex n δ1 => rw [e] at h; exact h
  | bad => rw [e] at h; exact h.elim
theorem de_slice {lo hi : Option Expr} {Lo Hi : OF} {p2 : Pos} (he : DE tb W X e F) (hl : DO tb W X lo Lo) (hh : DO tb W X hi Hi) : DE tb W X (.Subscript e (.Slice lo hi none p2) pos) (eSl F Lo Hi) :=
  (pe_slice sl_gSl he hl hh).wk fun σ H Q ⟨δ, z, c, hE, w, h⟩ => go_P hE w h fun d δ1 v H1 z1 c1 hE1 f1 w1 s1 h1 => go_O hE1 w1 h1 fun lo δ2 H2 z2 c2 hE2 w2 s2 h2 => go_O hE2 w2 h2 fun hi δ3 H3 z3 c3 hE3 w3 s3 h3 => by
    cases e : gSl d lo hi with
    | none => rw [e] at h3; exact h3.elim
    | some m =>
      rw [e] at h3
      exact ⟨z3, d, m, w3.zt, s3.fz w2 (s2.fz w1 f1), e, fun v H' q => h3 v H' (q.aft hE3 w3)⟩
end
end FS
namespace FS
open PySem PySem.Spec L2
theorem Cal.mono {P : Program} {w : World} {K : PySem.W.Frag} {mg : Str → Option Value} {base : Heap} {tb : Nat → Addr} {j k : Nat} {x : Str} {ps : List Str} {sem : Sem} (C : Cal P w K mg base tb j x ps sem) (h : j ≤ k) : Cal P w K mg base tb k x ps sem := by
  obtain ⟨f, fd, F, r⟩ := C.ex
  exact ⟨f, fd, F.mono h, r⟩
section
variable {K : PySem.W.Frag} {tb : Nat → Addr} {pin : List (Nat × V)} {W : WX} {H H' H1 : Hp} {z z' z1 : Zn} {c c' c1 : Ct} {σ σ1 : St} {δ δ' : Env'} {X : Cx} {D : Ends} {pins : List (Addr × Obj)} {s : Shared}
variable {a b e : Expr} {F G : EF} {pos p apos : Pos} {es : List Expr} {st : Stmt} {rest body : List Stmt} {S T U : SF} {A : AF} {x y m : Str} {n i j : Nat}
theorem de_gint {k : Int} (h : ∃ t, X.mg x = some (.int k t)) (hg : Gl X x) (hd : (x == ("__debug__" : Str)) = false := by decide) : DE tb W X (.Name x pos) (eC (.int k)) := by
  obtain ⟨t, h⟩ := h
  exact de_const (pe_glob (v := .int k) hg h ⟨t, rfl⟩ hd) fun _ _ => .int k
theorem de_gstr {k : Str} (h : ∃ t, X.mg x = some (.str k t)) (hg : Gl X x) (hd : (x == ("__debug__" : Str)) = false := by decide) : DE tb W X (.Name x pos) (eC (.str k)) := by
  obtain ⟨t, h⟩ := h
  exact de_const (pe_glob (v := .str k) hg h ⟨t, rfl⟩ hd) fun _ _ => .str k
/-- a, b = e, f -/
def setAs : List Nat → List Arg → Env' → Option Env'
  | [], [], δ => some δ
  | i :: is, .val m :: as, δ => if i < δ.length then setAs is as (δ.set i (some m)) else none
  | _, _, _ => none
def sPar (is : List Nat) (A : AF) : SF := fun δ => (A δ).s fun as δ1 => match setAs is as δ1 with
  | some δ2 => .nx δ2
  | none => .bad
def setVs : List Nat → List V → St → St
  | i :: is, v :: vs, σ => setVs is vs (σ.set i (some v))
  | _, _, σ => σ
theorem setAs_of : ∀ {is : List Nat} {as : List Arg} {δ δ' : Env'} {σ σ0 : St} {c : Ct} {vs : List V}, setAs is as δ = some δ' → RpG K tb H z σ0 as vs → RpE K tb H z δ σ c → (is.all fun i => pin.all fun p => decide (p.1 ≠ i)) = true →
    ∃ c', RpE K tb H z δ' (setVs is vs σ) c' ∧ (∀ a, c' a ≤ c a) ∧ (pinOk pin σ → pinOk pin (setVs is vs σ)) ∧ vs.length = is.length
  | [], [], _, _, _, _, c, _, h, g, hE, _ => by
    cases h
    cases g
    exact ⟨c, hE, fun _ => Nat.le_refl _, id, rfl⟩
  | i :: is, .val m :: as, δ, δ', σ, σ0, c, _, h, .val hm g, hE, hp => by
    unfold setAs at h
    split at h
    · rename_i hl
      have hp' := Bool.and_eq_true_iff.mp (show ((pin.all fun p => decide (p.1 ≠ i)) && is.all fun i => pin.all fun p => decide (p.1 ≠ i)) = true from hp)
      obtain ⟨c1, h2, h3⟩ := aft_set hE hl hm
      obtain ⟨c2, h4, h5, h6, h7⟩ := setAs_of h g h2 hp'.2
      exact ⟨c2, h4, fun a => Nat.le_trans (h5 a) (by have := h3 a; exact this), fun q => h6 (pin_set q hp'.1), by simp [h7]⟩
    · cases h
  | i :: is, .io _ :: _, _, _, _, _, _, _, h, _, _, _ => by cases h
  | [], _ :: _, _, _, _, _, _, _, h, _, _, _ => by cases h
  | _ :: _, [], _, _, _, _, _, _, h, _, _, _ => by cases h
theorem go_par {is : List Nat} {Q1 : List V → Hp → Prop} (hpn : (is.all fun i => pin.all fun p => decide (p.1 ≠ i)) = true) (h : tS K tb pin W (sPar is A) D σ H) (k : ∀ vs H', vs.length = is.length → D.nx (setVs is vs σ) H' → Q1 vs H') : tA K tb W A σ H Q1 := by
  obtain ⟨hp, δ, z, c, hE, w, h⟩ := h
  refine ⟨δ, z, c, hE, w, ?_⟩
  unfold sPar at h
  cases e1 : A δ with
  | bad => rw [e1] at h; exact h
  | ex n δ1 => rw [e1] at h; exact fun H' a => h σ H' ⟨hp, a⟩
  | ok as δ1 =>
    rw [e1] at h
    intro vs H1 z1 c1 hE1 g1 w1 s1
    have h : OutS K tb pin W H z c (match setAs is as δ1 with
      | some δ2 => .nx δ2
      | none => .bad) D := h
    cases e2 : setAs is as δ1 with
    | none => rw [e2] at h; exact h.elim
    | some δ2 =>
      rw [e2] at h
      obtain ⟨c2, h1, h2, h3, h4⟩ := setAs_of (pin := pin) e2 g1 hE1 hpn
      exact k vs H1 h4 (h _ H1 ⟨h3 hp, z1, c2, h1, w1.mono h2, s1.mono h2⟩)
theorem ds_par {px py pt : Pos} {kt k2 pt2} (hc : X.calm = true) (hN : X.N.Nodup) (hi : X.N[i]? = some x) (hj : X.N[j]? = some y) (hij : i ≠ j)
    (hx : X.env.scope.names.lookup x = some .local) (hy : X.env.scope.names.lookup y = some .local) (ha : DA tb W X [a, b] A) (hpn : ([i, j].all fun i => pin.all fun p => decide (p.1 ≠ i)) = true)
    (hw : swappedStores [.Tuple [.Name x px, .Name y py] kt pt] (.Tuple [a, b] k2 pt2) X.env = pure (some [x, y]))
    (hs : swapsWithSole [.Tuple [.Name x px, .Name y py] kt pt] (.Tuple [a, b] k2 pt2) pos.line X.env = pure false := by rfl) :
    DS tb pin W X (.Assign [.Tuple [.Name x px, .Name y py] kt pt] (.Tuple [a, b] k2 pt2) pos) (sPar [i, j] A) :=
  (ps_par hc hN hi hj hij hx hy ha hw hs).wk fun D σ H h => go_par hpn h fun vs H' hl q => by
    match vs, hl with
    | [v, w], _ => exact ⟨v, w, rfl, q⟩
theorem ds_par3 {l : Nat} {u : Str} {cc : Expr} {px py pz pt : Pos} {kt k2 pt2} (hc : X.calm = true) (hN : X.N.Nodup) (hi : X.N[i]? = some x) (hj : X.N[j]? = some y) (hl : X.N[l]? = some u) (hij : i ≠ j) (hil : i ≠ l) (hjl : j ≠ l)
    (hx : X.env.scope.names.lookup x = some .local) (hy : X.env.scope.names.lookup y = some .local) (hu : X.env.scope.names.lookup u = some .local) (ha : DA tb W X [a, b, cc] A) (hpn : ([i, j, l].all fun i => pin.all fun p => decide (p.1 ≠ i)) = true)
    (hw : swappedStores [.Tuple [.Name x px, .Name y py, .Name u pz] kt pt] (.Tuple [a, b, cc] k2 pt2) X.env = pure (some [x, y, u]))
    (hs : swapsWithSole [.Tuple [.Name x px, .Name y py, .Name u pz] kt pt] (.Tuple [a, b, cc] k2 pt2) pos.line X.env = pure false := by rfl) :
    DS tb pin W X (.Assign [.Tuple [.Name x px, .Name y py, .Name u pz] kt pt] (.Tuple [a, b, cc] k2 pt2) pos) (sPar [i, j, l] A) :=
  (ps_par3 hc hN hi hj hl hij hil hjl hx hy hu ha hw hs).wk fun D σ H h => go_par hpn h fun vs H' hl q => by
    match vs, hl with
    | [v, w, v3], _ => exact ⟨v, w, v3, rfl, q⟩
/-- x += e, x -= e of ints -/
def sAug (i : Nat) (f : Int → Int → Int) (F : EF) : SF := fun δ => match δ[i]? with
  | some (some (.v (.fz (.int k)))) => (F δ).s fun m δ1 => (match m with
    | .v (.fz (.int k')) => if i < δ1.length then .nx (δ1.set i (some (.fz (.int (f k k'))))) else .bad
    | _ => .bad)
  | _ => .bad
theorem ds_aug {op : Operator} {f : Int → Int → Int} {pos' : Pos} (ho : PIp X op (ipI f)) (hN : X.N.Nodup) (hi : X.N[i]? = some x) (hx : Loc X.env.scope x) (hpn : (pin.all fun p => decide (p.1 ≠ i)) = true) (he : DE tb W X e F) (hf : X.fn x = true ∨ X.env.scope.names.lookup x = some .local := by first | exact .inl rfl | exact .inr rfl | assumption) :
    DS tb pin W X (.AugAssign (.Name x pos') op e pos) (sAug i f F) :=
  (ps_aug hN hi hx he ho hf).wk fun D σ H ⟨hp, δ, z, c, hE, w, h⟩ => by
    unfold sAug at h
    split at h
    · rename_i k q
      obtain ⟨v, c1, c2, e1, e2, _, _⟩ := hE.get q
      have ev : v = .int k := by cases e2 with | v r => cases r with | fz f _ => exact f.int_
      subst ev
      refine ⟨_, e1, ?_⟩
      refine go_S hp hE w h fun m δ1 v H1 z1 c1 cm hE1 r1 w1 s1 h1 => ?_
      split at h1
      · rename_i k'
        split at h1
        · rename_i hl
          have ev : v = .int k' := by cases r1 with | v r => cases r with | fz f _ => exact f.int_
          obtain ⟨c', h2, h3⟩ := aft_set hE1 hl (.v (.fz (.int (f k k')) fun _ => rfl : RpL X.K H1 z1 (.fz (.int (f k k'))) _ zero) : Rp _ tb _ _ _ _ _)
          have hle : ∀ a, c' a ≤ c1 a + cm a := fun a => by have := h3 a; unfold zero at this; omega
          exact ⟨k, k', rfl, ev, h1 _ H1 ⟨pin_set hp hpn, z1, c', h2, w1.mono hle, (Step.refl _ _ _).mono hle⟩⟩
        · exact h1.elim
      · exact h1.elim
    · exact h.elim
end
end FS
namespace FS
open PySem PySem.Spec L2
section
variable {K : PySem.W.Frag} {tb : Nat → Addr} {pin : List (Nat × V)} {W : WX} {H H' H1 : Hp} {z z' z1 : Zn} {c c' c1 : Ct} {σ σ1 : St} {δ δ' : Env'} {X : Cx} {D : Ends} {pins : List (Addr × Obj)} {s : Shared}
variable {a b e : Expr} {F G : EF} {pos p p2 q : Pos}
/-! ### len(set(xs)) -/
theorem nodup_sub {α : Type} [BEq α] [LawfulBEq α] : ∀ {l m : List α}, l.Nodup → (∀ x ∈ l, x ∈ m) → l.length ≤ m.length
  | [], _, _, _ => Nat.zero_le _
  | x :: l, m, h, hs => by
    obtain ⟨h1, h2⟩ := List.nodup_cons.mp h
    have hx := hs x List.mem_cons_self
    have := nodup_sub (l := l) (m := m.erase x) h2 fun y hy => (List.mem_erase_of_ne (fun e => h1 (by rw [← e]; exact hy))).mpr (hs y (List.mem_cons_of_mem _ hy))
    have hl := List.length_erase_of_mem hx
    have hp : 0 < m.length := List.length_pos_of_mem hx
    simp only [List.length_cons]
    omega
/-- each one once -/
def ddL {α : Type} [DecidableEq α] : List α → List α
  | [] => []
  | x :: r => if x ∈ r then ddL r else x :: ddL r
theorem mem_ddL {α : Type} [DecidableEq α] : ∀ {l : List α} {x : α}, x ∈ ddL l ↔ x ∈ l
  | [], _ => Iff.rfl
  | y :: r, x => by
    unfold ddL
    split
    · rename_i h
      rw [mem_ddL]
      exact ⟨List.mem_cons_of_mem _, fun q => (List.mem_cons.mp q).elim (fun e => by rw [e]; exact h) id⟩
    · rw [List.mem_cons, mem_ddL, List.mem_cons]
theorem nodup_ddL {α : Type} [DecidableEq α] : ∀ l : List α, (ddL l).Nodup
  | [] => List.nodup_nil
  | y :: r => by
    unfold ddL
    split
    · exact nodup_ddL r
    · rename_i h
      exact List.nodup_cons.mpr ⟨fun q => h (mem_ddL.mp q), nodup_ddL r⟩
def tupIs : List PD → Option (List (List Int))
  | [] => some []
  | .tuple ds :: r => (allInt ds).bind fun ns => (tupIs r).map (ns :: ·)
  | _ => none
theorem fz_tups : ∀ {ds : List PD} {kss : List (List Int)} {vs : List V}, tupIs ds = some kss → FzA K H z ds vs → ∃ ks : List (Addr × List Int), ks.map (·.2) = kss ∧ vs = ks.map (fun p => V.ref p.1) ∧ ∀ p ∈ ks, SqT K H p.1 (p.2.map V.int)
  | [], _, _, h, .nil => by
    cases h
    exact ⟨[], rfl, rfl, fun p hp => by cases hp⟩
  | .tuple ds :: r, kss, _, h, .cons f fr => by
    unfold tupIs at h
    cases e : allInt ds with
    | none => rw [e] at h; cases h
    | some ns =>
      rw [e] at h
      cases e2 : tupIs r with
      | none => rw [e2] at h; cases h
      | some rs =>
        rw [e2] at h
        simp only [Option.bind_some, Option.map_some, Option.some.injEq] at h
        subst h
        obtain ⟨ks, h1, h2, h3⟩ := fz_tups e2 fr
        obtain ⟨a, ws, rfl, hH, fw⟩ := f.tuple
        have ed := allInt_of e
        subst ed
        have ew := Fz.ints fw
        subst ew
        refine ⟨(a, ns) :: ks, by simp [h1], by simp [h2], fun p hp => ?_⟩
        rcases List.mem_cons.mp hp with rfl | hp
        · exact sqT_of hH
        · exact h3 p hp
  | .none :: _, _, _, h, _ => by cases h
  | .bool _ :: _, _, _, h, _ => by cases h
  | .int _ :: _, _, _, h, _ => by cases h
  | .str _ :: _, _, _, h, _ => by cases h
  | .list _ :: _, _, _, h, _ => by cases h
  | .dict _ :: _, _, _, h, _ => by cases h
def gLenSet : PD → Option M
  | .list ds => if ds.length < 64 then (tupIs ds).map fun ks => .fz (.int (ddL ks).length) else none
  | _ => none
theorem tupIs_len : ∀ {ds : List PD} {kss : List (List Int)}, tupIs ds = some kss → kss.length = ds.length
  | [], _, h => by cases h; rfl
  | .tuple ds :: r, kss, h => by
    unfold tupIs at h
    cases e : allInt ds with
    | none => rw [e] at h; cases h
    | some ns =>
      rw [e] at h
      cases e2 : tupIs r with
      | none => rw [e2] at h; cases h
      | some rs =>
        rw [e2] at h
        simp only [Option.bind_some, Option.map_some, Option.some.injEq] at h
        subst h
        simp [tupIs_len e2]
  | .none :: _, _, h => by cases h
  | .bool _ :: _, _, h => by cases h
  | .int _ :: _, _, h => by cases h
  | .str _ :: _, _, h => by cases h
  | .list _ :: _, _, h => by cases h
  | .dict _ :: _, _, h => by cases h
theorem de_lenSet (hc : X.calm = true) (hu : X.A.units + 64 < cLine) (hg : Gl X "len") (hm : X.mg "len" = none) (hg2 : Gl X "set") (hm2 : X.mg "set" = none) (ha : DE tb W X a F)
    (na : starEach [a] X.env = (false, eval a X.env) :: starEach [] X.env := by rfl) : DE tb W X (.Call (.Name "len" p) [.Call (.Name "set" p2) [a] [] q] [] pos) (eU1 gLenSet F) := by
  refine ⟨fun pins s σ H Q I ⟨δ, z, c, hE, w, h⟩ => ?_⟩
  refine PyProof.Rows.Call_ (ld_blt I hg hm PySem.boot_len ?_)
  refine PyProof.Rows.callWith_builtin1 (PyProof.Rows.args_cons ?_ rfl) rfl rfl
  refine PyProof.Rows.Call_ (ld_blt I hg2 hm2 PyProof.Rows.boot_set ?_)
  have go : tD X.K tb W F σ H fun x H1 => ∃ z1 d m, (∀ a, z1 a → H1 a ≠ none) ∧ Fz X.K H1 z1 d x ∧ gLenSet d = some m ∧ ∀ v H', NewM X.K tb H1 z1 m v H' → Q v H' := go_P hE w h fun d δ1 v H1 z1 c1 hE1 f1 w1 s1 h1 => by
    cases e : gLenSet d with
    | none => rw [e] at h1; exact h1.elim
    | some m =>
      rw [e] at h1
      exact ⟨z1, d, m, w1.zt, f1, e, fun v H' q => h1 v H' (q.aft hE1 w1)⟩
  refine PyProof.Rows.callWith_type1 (PyProof.Rows.args_cons (thn (ha.run pins s σ H _ I go) fun v s1 ⟨x, H1, I1, r1, q1⟩ => PyProof.Rows.args_nil ?_) na) na rfl
  obtain ⟨z1, d, m, hz, f, g, q⟩ := q1
  unfold gLenSet at g
  split at g
  · rename_i ds
    split at g
    · rename_i hlt
      cases et : tupIs ds with
      | none => rw [et] at g; cases g
      | some kss =>
        rw [et] at g
        simp only [Option.map_some, Option.some.injEq] at g
        subst g
        obtain ⟨l, vs, rfl, hH, fv⟩ := f.list
        obtain ⟨ks, h1, h2, h3⟩ := fz_tups et fv
        subst h2
        cases r1
        obtain ⟨its, rv, pl, _⟩ := I1.list (sqL_of hH)
        have hf : ks.length < 64 := by have := tupIs_len et; rw [← h1, List.length_map] at this; omega
        refine call_set_tups (P := X.prog) (w := X.w) ks (I1.ok.hd hc) pl.isList (by simpa using refs_of_vals rv) (fun p hp => I1.isT (h3 p hp)) hf (by omega) fun h' tk L es ep t R g k => ?_
        have J : Inv X pins σ H1 { s1 with heap := h', toks := tk } := I1.kept k
        refine PyProof.Rows.args_nil ?_
        obtain ⟨o, ho, hex, hd⟩ := R.ob
        have hes : es.size = L.length := by
          have hh := congrArg List.length R.rows
          unfold rowsOf at hh
          rw [Array.length_toList, List.length_map] at hh
          exact hh
        have hlen : L.length = (ddL kss).length := by
          have sub1 : ∀ y ∈ L.map (·.2), y ∈ ddL kss := fun y hy => by
            obtain ⟨p, hp, rfl⟩ := List.mem_map.mp hy
            rw [mem_ddL, ← h1]
            exact List.mem_map.mpr ⟨p, List.mem_of_mem_take (g.sub p hp), rfl⟩
          have sub2 : ∀ y ∈ ddL kss, y ∈ L.map (·.2) := fun y hy => by
            rw [mem_ddL, ← h1] at hy
            obtain ⟨p, hp, rfl⟩ := List.mem_map.mp hy
            exact g.all p (by rw [List.take_length]; exact hp)
          have l1 := nodup_sub R.nd sub1
          have l2 := nodup_sub (nodup_ddL kss) sub2
          rw [List.length_map] at l1 l2
          omega
        refine call_len_set ho hex hd (R.fits (s := { s1 with heap := h', toks := tk })) (by rw [hes]; have := R.few; omega) ⟨.int (ddL kss).length, H1, J.tok _, ⟨_, by rw [hes, hlen]⟩, q _ _ (new_int hz)⟩
    · cases g
  · cases g
end
end FS
namespace FS
open PySem PySem.Spec L2
section
variable {K : PySem.W.Frag} {tb : Nat → Addr} {pin : List (Nat × V)} {W : WX} {H H' H1 : Hp} {z z' z1 : Zn} {c c' c1 : Ct} {σ σ1 : St} {δ δ' : Env'} {X : Cx} {D : Ends} {pins : List (Addr × Obj)} {s : Shared}
variable {a b e : Expr} {F G : EF} {pos p p2 q : Pos}
/-! ### an empty dict -/
def eDn : EF := fun δ => .ok (.dic []) δ
theorem NewM.own1 {l : L} {p : Addr} {o : HO} (hz : ∀ a, z a → H a ≠ none) (hp : H p = none) (mo : Mut (some o)) (r : ∀ c, (∀ b, c b = one p b) → RpL K (upd H p o) z l (.ref p) c) : NewM K tb H z (.v l) (.ref p) (upd H p o) := by
  have np : ∀ a, H a ≠ none → a ≠ p := fun a h e => h (e ▸ hp)
  refine ⟨z, one p, fun a h => upd_ne (np a h), fun _ h => h, fun a q => q.imp id fun r => by rw [one_pos r]; exact hp, .v (r _ fun _ => rfl), fun a q => by rw [upd_ne (np a (hz a q))]; exact hz a q, fun a q => one_ne (np a (hz a q)), fun a => ?_, fun a q => ?_⟩
  · unfold one; split <;> omega
  · rw [one_pos q, upd_same]; exact mo
theorem de_dnewK : DE tb W X (.Dict [] [] pos) eDn := pe_dnewK.wk fun σ H Q ⟨δ, z, c, hE, w, h⟩ p hp => h _ _ (NewM.aft hE w (NewM.own1 w.zt hp trivial fun c hc => .dik upd_same .nil hc))
theorem de_dnewT : DE tb W X (.Dict [] [] pos) eDn := pe_dnewT.wk fun σ H Q ⟨δ, z, c, hE, w, h⟩ p hp => h _ _ (NewM.aft hE w (NewM.own1 w.zt hp trivial fun c hc => .dit upd_same .nil hc))
end
end FS
namespace FS
open PySem PySem.Spec L2
section
variable {K : PySem.W.Frag} {tb : Nat → Addr} {pin : List (Nat × V)} {W : WX} {H H' H1 : Hp} {z z' z1 : Zn} {c c' c1 : Ct} {σ σ1 : St} {δ δ' : Env'} {X : Cx} {D : Ends}
variable {a b e : Expr} {F G : EF} {pos : Pos} {es : List Expr} {st : Stmt} {rest body : List Stmt} {S T U : SF} {A : BF}
/-! ### comprehensions with two for -/
def cLoop2 (own own1 : List Nat) (G : PD → Env' → Option Env') (T : BF) (F1 : IF) (G1 : PD → Env' → Option Env') (T1 : BF) (E : EF) : List PD → Env' → Option (List L × Env')
  | [], δ => some ([], δ)
  | d :: ds, δ => match G d δ with
    | none => none
    | some δ1 => match T δ1 with
      | .ok true δ2 => (match F1 δ2 with
        | .ok ds1 δ3 => (match cLoop own1 G1 T1 E ds1 (wipeE δ3 own1) with
          | some r1 => (cLoop2 own own1 G T F1 G1 T1 E ds (wipeE r1.2 own)).map fun r => (r1.1 ++ r.1, r.2)
          | none => none)
        | _ => none)
      | .ok false δ2 => cLoop2 own own1 G T F1 G1 T1 E ds (wipeE δ2 own)
      | _ => none
def eLc2 (own own1 : List Nat) (F : IF) (G : PD → Env' → Option Env') (T : BF) (F1 : IF) (G1 : PD → Env' → Option Env') (T1 : BF) (E : EF) : EF := fun δ => (F δ).bind fun ds δ1 =>
  if keepOk δ1 own = true then match cLoop2 own own1 G T F1 G1 T1 E ds (wipeE δ1 own) with
    | some r => if r.1.length ≤ big then .ok (.lst r.1) (backE δ1 own (wipeE r.2 own)) else .bad
    | none => .bad
  else .bad
theorem lc2_of {own own1 is is1 : List Nat} {If : IF} {Gf : PD → Env' → Option Env'} {Tf : BF} {F1 : IF} {G1 : PD → Env' → Option Env'} {T1 : BF} {Ef : EF} {Q : VK} (hown : ∀ i ∈ is, i ∈ own) (hown1 : ∀ i ∈ is1, i ∈ own1) (hv1 : ∀ i ∈ own1, i ∈ own) (h : tD K tb W (eLc2 own own1 If Gf Tf F1 G1 T1 Ef) σ H Q) :
    tLc2 (tI K tb W If) (tGd K tb [] is Gf) (tT K tb Wno Tf) (tI K tb Wno F1) (tGd K tb [] is1 G1) (tT K tb Wno T1) (tD K tb Wno Ef) own own1 σ H Q := by
  obtain ⟨δ, z, c, hE, w, h⟩ := h
  refine ⟨δ, z, c, hE, w, ?_⟩
  unfold eLc2 at h
  cases e1 : If δ with
  | bad => rw [e1] at h; exact h.elim
  | ex n δ1 => rw [e1] at h; exact h
  | ok ds δ1 =>
    rw [e1] at h
    intro J H1 z1 c1 hE1 w1 s1 ⟨vs, fv, hJ⟩ D hD
    have h : Out K tb W H z c σ (if keepOk δ1 own = true then match cLoop2 own own1 Gf Tf F1 G1 T1 Ef ds (wipeE δ1 own) with
      | some r => if r.1.length ≤ big then .ok (.lst r.1) (backE δ1 own (wipeE r.2 own)) else .bad
      | none => .bad
    else .bad) Q := h
    by_cases hk : keepOk δ1 own = true
    case neg => rw [if_neg hk] at h; exact h.elim
    rw [if_pos hk] at h
    cases cl : cLoop2 own own1 Gf Tf F1 G1 T1 Ef ds (wipeE δ1 own) with
    | none => rw [cl] at h; exact h.elim
    | some r =>
      obtain ⟨ls, δe⟩ := r
      rw [cl] at h
      dsimp only at h
      by_cases hbig : ls.length ≤ big
      case neg => rw [if_neg hbig] at h; exact h.elim
      rw [if_pos hbig] at h
      have hlen := fv.len
      have nD : ∀ a, H1 a ≠ none → a ≠ D := fun a q e => q (e ▸ hD)
      obtain ⟨cw, hEw, hcw⟩ := wipeE_of (vs := own) hE1
      refine ⟨fun i m H2 => m = vs.length - i ∧ i ≤ vs.length ∧ ∃ δ3 z3 c3 la va ca lr, RpE K tb H2 z3 δ3 (wipe σ own) c3 ∧ H2 D = some (.lst va) ∧ RpA K H2 z3 la va ca ∧ Wf H2 z3 (fun a => c3 a + (ca a + one D a)) ∧
        Step H1 z1 c1 H2 z3 (fun a => c3 a + (ca a + one D a)) ∧ cLoop2 own own1 Gf Tf F1 G1 T1 Ef (ds.drop i) δ3 = some (lr, δe) ∧ la ++ lr = ls ∧ δ3.length = δ1.length,
        ⟨vs.length, by simp, Nat.zero_le _, wipeE δ1 own, z1, cw, [], [], zero, ls, hEw.mono (fun _ q => q) (fun a q => upd_ne (nD a (w1.zt a q))) (fun a q => upd_ne (nD a (mut_ne (w1.cm a (Nat.lt_of_lt_of_le q (hcw a)))))), upd_same, .nil fun _ => rfl, ?_, ?_, by simpa using cl, rfl, wipeE_len⟩, ?_⟩
      · refine ⟨fun a q => by rw [upd_ne (nD a (w1.zt a q))]; exact w1.zt a q, fun a q => ?_, fun a => ?_, fun a q => ?_⟩
        · show cw a + (0 + one D a) = 0
          have := hcw a
          have := w1.zc a q
          rw [one_ne (nD a (w1.zt a q))]
          omega
        · show cw a + (0 + one D a) ≤ 1
          have := hcw a
          have := w1.c1 a
          by_cases e : a = D
          · subst e
            have : cw a = 0 := by
              rcases Nat.eq_zero_or_pos (cw a) with q | q
              · exact q
              · exact absurd hD (mut_ne (w1.cm a (by omega)))
            rw [one_self]; omega
          · rw [one_ne e]; omega
        · have q : 0 < cw a + (0 + one D a) := q
          by_cases e : a = D
          · subst e; rw [upd_same]; trivial
          · rw [upd_ne e]
            rw [one_ne e] at q
            exact w1.cm a (by have := hcw a; omega)
      · refine ⟨fun a q _ => upd_ne (nD a q), fun _ q => q, fun a q => ?_, fun a q => by rw [upd_ne (nD a q)]; exact q⟩
        rcases q with q | q
        · exact .inl q
        · have q : 0 < cw a + (0 + one D a) := q
          by_cases e : a = D
          · subst e; exact .inr (.inr hD)
          · rw [one_ne e] at q
            exact .inr (.inl (by have := hcw a; omega))
      · rintro i m H2 ⟨rfl, hi, δ3, z3, c3, la, va, ca, lr, hE3, hD3, hA3, w3, s3, cl3, ela, hl3⟩
        have w3' : Wf H2 z3 c3 := w3.mono fun a => Nat.le_add_right _ _
        have zs : ∀ a, z1 a → H2 a = H1 a := s3.on w1
        obtain ⟨j1, j2, j3⟩ := hJ H2 zs
        by_cases hlt : i < vs.length
        · have hv : vs[i]? = some vs[i] := List.getElem?_eq_getElem hlt
          refine .inr ⟨j1 i _ hv, fun H' => ∃ δ4 z4 c4 la va ca lr, RpE K tb H' z4 δ4 (wipe σ own) c4 ∧ H' D = some (.lst va) ∧ RpA K H' z4 la va ca ∧ Wf H' z4 (fun a => c4 a + (ca a + one D a)) ∧
            Step H1 z1 c1 H' z4 (fun a => c4 a + (ca a + one D a)) ∧ cLoop2 own own1 Gf Tf F1 G1 T1 Ef (ds.drop (i + 1)) δ4 = some (lr, δe) ∧ la ++ lr = ls ∧ δ4.length = δ1.length,
            fun H' q => ⟨vs.length - (i + 1), by omega, rfl, hlt, q⟩, fun x H' y => ?_⟩
          obtain ⟨hH, rfl⟩ := j2 i _ x H' hv y
          have hH := hH.symm
          subst hH
          obtain ⟨d, hd, fd⟩ := fv.get' hv
          have hds : ds.drop i = d :: ds.drop (i + 1) := by
            obtain ⟨hh, e⟩ := List.getElem?_eq_some_iff.mp hd
            rw [← e]
            exact List.drop_eq_getElem_cons hh
          rw [hds] at cl3
          unfold cLoop2 at cl3
          cases e2 : Gf d δ3 with
          | none => rw [e2] at cl3; cases cl3
          | some δ4 =>
            rw [e2] at cl3
            dsimp only at cl3
            refine ⟨δ3, z3, c3, d, δ4, hE3, w3', fd.mono s3.zin zs, e2, fun σ' c' a1 a2 _ a4 => ?_⟩
            have hw : wipe σ' own = wipe σ own := (a4 own hown).trans (wipe_wipe own σ fun _ q => q)
            have hl4 : δ4.length = δ1.length := (a1.len.trans (by
              have e1 := hE3.len
              have : (wipe σ' own).length = (wipe σ own).length := by rw [hw]
              rw [wipe_length] at this
              rw [this, ← e1])).trans hl3
            refine ⟨hw, ?_⟩
            have w4 : Wf H2 z3 c' := w3'.mono a2
            have w4t : Wf H2 z3 (fun a => c' a + (ca a + one D a)) := w3.mono fun a => by have := a2 a; show c' a + (ca a + one D a) ≤ c3 a + (ca a + one D a); omega
            have s4t : Step H1 z1 c1 H2 z3 (fun a => c' a + (ca a + one D a)) := s3.mono fun a => by have := a2 a; show c' a + (ca a + one D a) ≤ c3 a + (ca a + one D a); omega
            refine ⟨δ4, z3, c', a1, w4, ?_⟩
            cases e3 : Tf δ4 with
            | bad => rw [e3] at cl3; cases cl3
            | ex n δ5 => rw [e3] at cl3; cases cl3
            | ok bb δ5 =>
              rw [e3] at cl3
              intro H5 ⟨z5, c5, hE5, w5, s5⟩
              obtain ⟨k5, w5t, s5t⟩ := Step.frame w4t w5 s5
              have hD5 : H5 D = some (.lst va) := (k5 D (by show 0 < ca D + one D D; rw [one_self]; omega)).trans hD3
              have hA5 : RpA K H5 z5 la va ca := hA3.mono s5.zin (s5.on w4) fun a q => k5 a (by show 0 < ca a + one D a; omega)
              have s5t' := s4t.trans w4t s5t
              cases bb with
              | false =>
                rw [if_neg Bool.false_ne_true]
                dsimp only at cl3
                obtain ⟨c6, hE6, h6⟩ := wipeE_of (vs := own) hE5
                rw [hw] at hE6
                have hle : ∀ a, c6 a + (ca a + one D a) ≤ c5 a + (ca a + one D a) := fun a => by have := h6 a; omega
                exact ⟨wipeE δ5 own, z5, c6, la, va, ca, lr, hE6, hD5, hA5, w5t.mono hle, s5t'.mono hle, cl3, ela, wipeE_len.trans (hE5.len.trans (a1.len.symm.trans hl4))⟩
              | true =>
                rw [if_pos rfl]
                dsimp only at cl3
                refine ⟨δ5, z5, c5, hE5, w5, ?_⟩
                cases e4 : F1 δ5 with
                | bad => rw [e4] at cl3; cases cl3
                | ex n δ6 => rw [e4] at cl3; cases cl3
                | ok ds1 δ6 =>
                  rw [e4] at cl3
                  dsimp only at cl3
                  intro J1 H6 z6 c6 hE6 w6 s6 ⟨vs1, fv1, hJ1⟩
                  obtain ⟨k6, w6t, s6t⟩ := Step.frame w5t w6 s6
                  have hD6 : H6 D = some (.lst va) := (k6 D (by show 0 < ca D + one D D; rw [one_self]; omega)).trans hD5
                  have hA6 : RpA K H6 z6 la va ca := hA5.mono s6.zin (s6.on w5) fun a q => k6 a (by show 0 < ca a + one D a; omega)
                  have s6t' := s5t'.trans w5t s6t
                  have hl6 : δ6.length = δ1.length := hE6.len.trans (a1.len.symm.trans hl4)
                  cases e5 : cLoop own1 G1 T1 Ef ds1 (wipeE δ6 own1) with
                  | none => rw [e5] at cl3; cases cl3
                  | some r1 =>
                    obtain ⟨ls1, δe1⟩ := r1
                    rw [e5] at cl3
                    dsimp only at cl3
                    cases e6 : cLoop2 own own1 Gf Tf F1 G1 T1 Ef (ds.drop (i + 1)) (wipeE δe1 own) with
                    | none => rw [e6] at cl3; cases cl3
                    | some rr =>
                      obtain ⟨lr2, δx⟩ := rr
                      rw [e6] at cl3
                      simp only [Option.map_some, Option.some.injEq, Prod.mk.injEq] at cl3
                      obtain ⟨rfl, rfl⟩ := cl3
                      obtain ⟨cw6, hEw6, hcw6⟩ := wipeE_of (vs := own1) hE6
                      have hle6 : ∀ a, cw6 a + (ca a + one D a) ≤ c6 a + (ca a + one D a) := fun a => by have := hcw6 a; omega
                      refine ⟨fun j k Hj => k = vs1.length - j ∧ j ≤ vs1.length ∧ ∃ δ7 z7 c7 la7 va7 ca7 lr7, RpE K tb Hj z7 δ7 (wipe σ' own1) c7 ∧ Hj D = some (.lst va7) ∧ RpA K Hj z7 la7 va7 ca7 ∧ Wf Hj z7 (fun a => c7 a + (ca7 a + one D a)) ∧
                        Step H6 z6 (fun a => c6 a + (ca a + one D a)) Hj z7 (fun a => c7 a + (ca7 a + one D a)) ∧ cLoop own1 G1 T1 Ef (ds1.drop j) δ7 = some (lr7, δe1) ∧ la7 ++ lr7 = la ++ ls1 ∧ δ7.length = δ1.length,
                        ⟨vs1.length, by simp, Nat.zero_le _, wipeE δ6 own1, z6, cw6, la, va, ca, ls1, hEw6, hD6, hA6, w6t.mono hle6, (Step.refl _ _ _).mono hle6, by simpa using e5, rfl, wipeE_len.trans hl6⟩, ?_⟩
                      rintro j k Hj ⟨rfl, hj, δ7, z7, c7, la7, va7, ca7, lr7, hE7, hD7, hA7, w7, s7, cl7, ela7, hl7⟩
                      have w7' : Wf Hj z7 c7 := w7.mono fun a => Nat.le_add_right _ _
                      have zs7 : ∀ a, z6 a → Hj a = H6 a := s7.on w6t
                      obtain ⟨j1', j2', j3'⟩ := hJ1 Hj zs7
                      have lva : la7.length = va7.length := by
                        have go : ∀ {l : List L} {v : List V} {c : Ct}, RpA K Hj z7 l v c → l.length = v.length := by
                          intro l
                          induction l with
                          | nil => intro v c h; cases h; rfl
                          | cons x r ih => intro v c h; cases h with | cons _ h2 _ => simp [ih h2]
                        exact go hA7
                      by_cases hlt1 : j < vs1.length
                      · have hv' : vs1[j]? = some vs1[j] := List.getElem?_eq_getElem hlt1
                        refine .inr ⟨j1' j _ hv', fun H' => ∃ δ8 z8 c8 la8 va8 ca8 lr8, RpE K tb H' z8 δ8 (wipe σ' own1) c8 ∧ H' D = some (.lst va8) ∧ RpA K H' z8 la8 va8 ca8 ∧ Wf H' z8 (fun a => c8 a + (ca8 a + one D a)) ∧
                          Step H6 z6 (fun a => c6 a + (ca a + one D a)) H' z8 (fun a => c8 a + (ca8 a + one D a)) ∧ cLoop own1 G1 T1 Ef (ds1.drop (j + 1)) δ8 = some (lr8, δe1) ∧ la8 ++ lr8 = la ++ ls1 ∧ δ8.length = δ1.length,
                          fun H' q => ⟨vs1.length - (j + 1), by omega, rfl, hlt1, q⟩, fun x H' y => ?_⟩
                        obtain ⟨hH, rfl⟩ := j2' j _ x H' hv' y
                        have hH := hH.symm
                        subst hH
                        obtain ⟨d1, hd1, fd1⟩ := fv1.get' hv'
                        have hds1 : ds1.drop j = d1 :: ds1.drop (j + 1) := by
                          obtain ⟨hh, e⟩ := List.getElem?_eq_some_iff.mp hd1
                          rw [← e]
                          exact List.drop_eq_getElem_cons hh
                        rw [hds1] at cl7
                        unfold cLoop at cl7
                        cases e8 : G1 d1 δ7 with
                        | none => rw [e8] at cl7; cases cl7
                        | some δ8 =>
                          rw [e8] at cl7
                          dsimp only at cl7
                          refine ⟨δ7, z7, c7, d1, δ8, hE7, w7', fd1.mono s7.zin zs7, e8, fun σ'' c'' b1 b2 _ b4 => ?_⟩
                          have hw1 : wipe σ'' own1 = wipe σ' own1 := (b4 own1 hown1).trans (wipe_wipe own1 σ' fun _ q => q)
                          have hl8 : δ8.length = δ1.length := (b1.len.trans (by
                            have e1 := hE7.len
                            have : (wipe σ'' own1).length = (wipe σ' own1).length := by rw [hw1]
                            rw [wipe_length] at this
                            rw [this, ← e1])).trans hl7
                          refine ⟨hw1, ?_⟩
                          have w8 : Wf Hj z7 c'' := w7'.mono b2
                          have w8t : Wf Hj z7 (fun a => c'' a + (ca7 a + one D a)) := w7.mono fun a => by have := b2 a; show c'' a + (ca7 a + one D a) ≤ c7 a + (ca7 a + one D a); omega
                          have s8t : Step H6 z6 (fun a => c6 a + (ca a + one D a)) Hj z7 (fun a => c'' a + (ca7 a + one D a)) := s7.mono fun a => by have := b2 a; show c'' a + (ca7 a + one D a) ≤ c7 a + (ca7 a + one D a); omega
                          refine ⟨δ8, z7, c'', b1, w8, ?_⟩
                          cases e9 : T1 δ8 with
                          | bad => rw [e9] at cl7; cases cl7
                          | ex n δ9 => rw [e9] at cl7; cases cl7
                          | ok bb1 δ9 =>
                            rw [e9] at cl7
                            intro H9 ⟨z9, c9, hE9, w9, s9⟩
                            obtain ⟨k9, w9t, s9t⟩ := Step.frame w8t w9 s9
                            have hD9 : H9 D = some (.lst va7) := (k9 D (by show 0 < ca7 D + one D D; rw [one_self]; omega)).trans hD7
                            have hA9 : RpA K H9 z9 la7 va7 ca7 := hA7.mono s9.zin (s9.on w8) fun a q => k9 a (by show 0 < ca7 a + one D a; omega)
                            have s9t' := s8t.trans w8t s9t
                            cases bb1 with
                            | false =>
                              rw [if_neg Bool.false_ne_true]
                              dsimp only at cl7
                              obtain ⟨ca1, hEa, ha6⟩ := wipeE_of (vs := own1) hE9
                              rw [hw1] at hEa
                              have hle : ∀ a, ca1 a + (ca7 a + one D a) ≤ c9 a + (ca7 a + one D a) := fun a => by have := ha6 a; omega
                              exact ⟨wipeE δ9 own1, z9, ca1, la7, va7, ca7, lr7, hEa, hD9, hA9, w9t.mono hle, s9t'.mono hle, cl7, ela7, wipeE_len.trans (hE9.len.trans (b1.len.symm.trans hl8))⟩
                            | true =>
                              rw [if_pos rfl]
                              dsimp only at cl7
                              refine ⟨δ9, z9, c9, hE9, w9, ?_⟩
                              cases e10 : Ef δ9 with
                              | bad => rw [e10] at cl7; cases cl7
                              | ex n δa => rw [e10] at cl7; cases cl7
                              | ok mm δa =>
                                rw [e10] at cl7
                                cases mm with
                                | o _ _ _ => cases cl7
                                | v l =>
                                  dsimp only at cl7
                                  intro y Ha ⟨za, cA, cm, hEa, hRa, wa, sa⟩
                                  obtain ⟨ka, wat, sat⟩ := Step.frame w9t wa sa
                                  have hDa : Ha D = some (.lst va7) := (ka D (by show 0 < ca7 D + one D D; rw [one_self]; omega)).trans hD9
                                  have hAa : RpA K Ha za la7 va7 ca7 := hA9.mono sa.zin (sa.on w9) fun a q => ka a (by show 0 < ca7 a + one D a; omega)
                                  have sat' := s9t'.trans w9t sat
                                  cases e11 : cLoop own1 G1 T1 Ef (ds1.drop (j + 1)) (wipeE δa own1) with
                                  | none => rw [e11] at cl7; cases cl7
                                  | some rr =>
                                    obtain ⟨lr9, δx⟩ := rr
                                    rw [e11] at cl7
                                    simp only [Option.map_some, Option.some.injEq, Prod.mk.injEq] at cl7
                                    obtain ⟨rfl, rfl⟩ := cl7
                                    have hbl : la7.length < big := by
                                      have q1 := congrArg List.length ela7
                                      have q2 := congrArg List.length ela
                                      simp only [List.length_append, List.length_cons] at q1 q2
                                      omega
                                    refine ⟨va7, hDa, by rw [← lva, big_eq]; exact hbl, ?_⟩
                                    have pD : 0 < cA D + cm D + (ca7 D + one D D) := by rw [one_self]; omega
                                    obtain ⟨wu, su⟩ := Wf.upd (p := D) (o := .lst (va7 ++ [y])) wat pD trivial
                                    have oD : ∀ a, za a → a ≠ D := fun a q e => by
                                      subst e
                                      have q2 : cA a + cm a + (ca7 a + one a a) = 0 := wat.zc a q
                                      rw [one_self] at q2; omega
                                    have cD : cA D + cm D + ca7 D = 0 := by
                                      have q2 : cA D + cm D + (ca7 D + one D D) ≤ 1 := wat.c1 D
                                      rw [one_self] at q2; omega
                                    have nDc : ∀ (cc : Ct) a, cc D = 0 → 0 < cc a → a ≠ D := fun cc a h1 h2 e => by rw [e, h1] at h2; exact Nat.lt_irrefl _ h2
                                    obtain ⟨cB, hEB, hB⟩ := wipeE_of (vs := own1) (hEa.mono (fun _ q => q) (fun a q => upd_ne (oD a q)) fun a q => upd_ne (o := .lst (va7 ++ [y])) (nDc cA a (by omega) q))
                                    rw [hw1] at hEB
                                    have hRB : RpL K (upd Ha D (.lst (va7 ++ [y]))) za l y cm := by
                                      cases hRa with
                                      | v r => exact r.mono (fun _ q => q) (fun a q => upd_ne (oD a q)) fun a q => upd_ne (nDc cm a (by omega) q)
                                    have hAB := (hAa.mono (fun _ q => q) (fun a q => upd_ne (oD a q)) fun a q => upd_ne (o := .lst (va7 ++ [y])) (nDc ca7 a (by omega) q)).app
                                      (.cons (c2 := zero) hRB (.nil fun _ => rfl) fun a => by show cm a = cm a + 0; omega)
                                    have hle : ∀ a, cB a + ((ca7 a + cm a) + one D a) ≤ cA a + cm a + (ca7 a + one D a) := fun a => by have := hB a; omega
                                    exact ⟨wipeE δa own1, za, cB, la7 ++ [l], va7 ++ [y], fun a => ca7 a + cm a, lr9, hEB, upd_same, hAB, wu.mono hle, (sat'.trans wat su).mono hle, e11, by rw [← ela7]; simp,
                                      wipeE_len.trans (hEa.len.trans (b1.len.symm.trans hl8))⟩
                      · have e : j = vs1.length := by omega
                        have hlen1 := fv1.len
                        rw [List.drop_of_length_le (by omega)] at cl7
                        unfold cLoop at cl7
                        simp only [Option.some.injEq, Prod.mk.injEq] at cl7
                        obtain ⟨rfl, rfl⟩ := cl7
                        rw [List.append_nil] at ela7
                        refine .inl ⟨j3' j (by omega), ?_⟩
                        obtain ⟨cC, hEC, hC⟩ := wipeE_of (vs := own) hE7
                        rw [wipe_wipe own1 σ' hv1, hw] at hEC
                        have hle : ∀ a, cC a + (ca7 a + one D a) ≤ c7 a + (ca7 a + one D a) := fun a => by have := hC a; omega
                        exact ⟨wipeE δ7 own, z7, cC, la7, va7, ca7, lr2, hEC, hD7, hA7, w7.mono hle, (s6t'.trans w6t s7).mono hle, e6, by rw [ela7, List.append_assoc]; exact ela, wipeE_len.trans hl7⟩
        · have e : i = vs.length := by omega
          rw [List.drop_of_length_le (by omega)] at cl3
          unfold cLoop2 at cl3
          simp only [Option.some.injEq, Prod.mk.injEq] at cl3
          obtain ⟨rfl, rfl⟩ := cl3
          rw [List.append_nil] at ela
          subst ela
          refine .inl ⟨j3 i (by omega), ?_⟩
          obtain ⟨c9, hE9, h9⟩ := wipeE_of (vs := own) hE3
          have hEc : RpE K tb H2 z3 (wipeE δ3 own) σ c9 := RpE.congr hE9 (by rw [wipe_length, wipe_length]) fun j m q => by
            obtain ⟨q1, _⟩ := wipeE_none q
            rw [wipe_out q1, wipe_out q1]
          obtain ⟨c10, hE10, h10, _⟩ := backE_of (δ0 := δ1) (vs := own) hEc (by rw [wipeE_len, hl3]) fun v hv m q => by
            have hq := List.all_eq_true.mp hk v hv
            rw [q] at hq
            obtain ⟨x, cc1, cc2, e1, r1, _⟩ := hE1.get q
            cases m with
            | o _ _ _ => cases hq
            | v l =>
              cases l with
              | fz d =>
                cases r1 with
                | v r => cases r with
                  | fz f _ => exact ⟨d, x, rfl, e1, f.mono s3.zin zs⟩
              | lst _ => cases hq
              | dic _ => cases hq
          have hle : ∀ a, c10 a + (one D a + ca a) ≤ c3 a + (ca a + one D a) := fun a => by have := h9 a; have := h10 a; omega
          exact h (.ref D) H2 ⟨z3, c10, fun a => one D a + ca a, hE10, .v (.lst hD3 hA3 fun _ => rfl), w3.mono hle, (s1.trans w1 s3).mono hle⟩
end
end FS
namespace FS
open PySem PySem.Spec L2
section
variable {K : PySem.W.Frag} {tb : Nat → Addr} {pin : List (Nat × V)} {W : WX} {H H' H1 : Hp} {z z' z1 : Zn} {c c' c1 : Ct} {σ σ1 : St} {δ δ' : Env'} {X : Cx} {D : Ends}
variable {a b e : Expr} {F G : EF} {pos : Pos} {es : List Expr} {st : Stmt} {rest body : List Stmt} {S T U : SF} {A : BF}
variable {tg iter tg1 iter1 elt : Expr} {ifs ifs1 : List Expr} {scope : Scope} {own : List (Str × Nat)} {is is1 own1 : List Nat} {If F1 : IF} {Gf G1 : PD → Env' → Option Env'} {Tf T1 : BF} {Ef : EF}
theorem de_lc2 (hc : X.calm = true) (hN : X.N.Nodup) (hi : DI tb W X tg iter If) (ok : BlkOk X.N X.env.scope scope own)
    (hg : ∀ (s : Shared) (H : Hp) (C : Addr) (cl : List (Str × Addr)) (fp : List Addr), DG tb [] (X.blk s H scope (compEnvC scope cl C X.env) fp) tg is Gf) (ht : ∀ (s : Shared) (H : Hp) (C : Addr) (cl : List (Str × Addr)) (fp : List Addr), DTs tb Wno (X.blk s H scope (compEnvC scope cl C X.env) fp) ifs Tf)
    (hi1 : ∀ (s : Shared) (H : Hp) (C : Addr) (cl : List (Str × Addr)) (fp : List Addr), DI tb Wno (X.blk s H scope (compEnvC scope cl C X.env) fp) tg1 iter1 F1)
    (hg1 : ∀ (s : Shared) (H : Hp) (C : Addr) (cl : List (Str × Addr)) (fp : List Addr), DG tb [] (X.blk s H scope (compEnvC scope cl C X.env) fp) tg1 is1 G1) (ht1 : ∀ (s : Shared) (H : Hp) (C : Addr) (cl : List (Str × Addr)) (fp : List Addr), DTs tb Wno (X.blk s H scope (compEnvC scope cl C X.env) fp) ifs1 T1)
    (he : ∀ (s : Shared) (H : Hp) (C : Addr) (cl : List (Str × Addr)) (fp : List Addr), DE tb Wno (X.blk s H scope (compEnvC scope cl C X.env) fp) elt Ef) (hown : ∀ i ∈ is, i ∈ own.map (·.2) := by decide) (hown1 : ∀ i ∈ is1, i ∈ own1 := by decide) (hv1 : ∀ i ∈ own1, i ∈ own.map (·.2) := by decide)
    (hs : ∀ x, foldedSetIterable iter X.env x = pure x := by intro _; rfl) (hs1 : ∀ (env : Env) (x : Value), foldedSetIterable iter1 env x = pure x := by intro _ _; rfl) :
    DE tb W X (.ListComp elt [⟨tg, iter, ifs, 0⟩, ⟨tg1, iter1, ifs1, 0⟩] scope pos) (eLc2 (own.map (·.2)) own1 If Gf Tf F1 G1 T1 Ef) := (pe_lc2 hc hN hi ok hv1 hg ht hi1 hg1 ht1 he hs hs1).wk fun σ H Q h => lc2_of hown hown1 hv1 h
end
end FS
namespace FS
open PySem PySem.Spec L2
section
variable {K : PySem.W.Frag} {tb : Nat → Addr} {pin : List (Nat × V)} {W : WX} {H H' H1 : Hp} {z z' z1 : Zn} {c c' c1 : Ct} {σ σ1 : St} {δ δ' : Env'} {X : Cx} {D : Ends}
variable {a b e : Expr} {pos : Pos}
/-! ### a look that makes a new list of things that don't change -/
def fzImm : L → Bool
  | .fz d => immut d
  | _ => false
def ePkN (F : EF) : EF := fun δ =>
  match F (frzE δ) with
  | .ok (.v (.lst ls)) _ => if ls.all fzImm then .ok (.v (.lst ls)) δ else .bad
  | .ex n _ => .ex n δ
  | _ => .bad
theorem pkn_all (w : Wf H z c) (h : Step H (fun a => z a ∨ 0 < c a) zero H' z' c') : ∀ {ls : List L} {vs : List V} {cc : Ct}, RpA K H' z' ls vs cc → ls.all fzImm = true → RpA K H' (fun a => z' a ∧ c a = 0) ls vs cc
  | [], _, _, .nil e, _ => .nil e
  | .fz d :: r, _, _, .cons (.fz f e0) r' e, q => by
    have q' := Bool.and_eq_true_iff.mp (show (fzImm (.fz d) && r.all fzImm) = true from q)
    exact .cons (.fz (pk_imm w h f q'.1) e0) (pkn_all w h r' q'.2) e
  | .lst _ :: r, _, _, _, q => by
    have q' := Bool.and_eq_true_iff.mp (show (false && r.all fzImm) = true from q)
    exact absurd q'.1 Bool.false_ne_true
  | .dic _ :: r, _, _, _, q => by
    have q' := Bool.and_eq_true_iff.mp (show (false && r.all fzImm) = true from q)
    exact absurd q'.1 Bool.false_ne_true
theorem de_peekN {F : EF} (h : DE tb W X e F) : DE tb W X e (ePkN F) := PE.wk h fun σ H Q ⟨δ, z, c, hE, w, h⟩ => by
  refine ⟨frzE δ, fun a => z a ∨ 0 < c a, zero, RpE.mono (fun _ q => q) (fun _ _ => rfl) (hE.freeze (fun _ => .inl) fun _ => .inr) (fun _ _ => rfl), pk_wf w, ?_⟩
  unfold ePkN at h
  cases e : F (frzE δ) with
  | ok m δ1 =>
    rw [e] at h
    cases m with
    | v l =>
      cases l with
      | fz d => exact h.elim
      | lst ls =>
        intro v H' ⟨z1, c1, cm, h1, h2, h3, h4⟩
        dsimp only at h
        by_cases hi : ls.all fzImm = true
        · rw [if_pos hi] at h
          obtain ⟨b1, b2, b3⟩ := pk_back (δ1 := δ1) hE w h4 h3
          have hz : ∀ a, (z a ∨ 0 < c a) → z1 a := h4.zin
          have m0 : ∀ a, 0 < cm a → H a = none := fun a q => by
            rcases h4.src a (.inr (show 0 < c1 a + cm a by omega)) with r | r | r
            · have := h3.zc a (hz a r)
              have : c1 a + cm a = 0 := this
              omega
            · exact absurd r (Nat.lt_irrefl _)
            · exact r
          have c0 : ∀ a, 0 < cm a → c a = 0 := fun a q => by
            rcases Nat.eq_zero_or_pos (c a) with p | p
            · exact p
            · exact absurd (m0 a q) (mut_ne (w.cm a p))
          refine h v H' ⟨fun a => z1 a ∧ c a = 0, c, cm, b1, ?_, ⟨b2.zt, fun a q => ?_, fun a => ?_, fun a q => ?_⟩, ⟨fun a q q2 => h4.keep a q rfl, b3.zin, fun a q => ?_, b3.dom⟩⟩
          · cases h2 with
            | v r =>
              cases r with
              | lst g ra e2 => exact .v (.lst g (pkn_all w h4 ra hi) e2)
          · have q1 := b2.zc a q
            have q2 : c1 a + cm a = 0 := h3.zc a q.1
            show c a + cm a = 0
            have q1 : c a = 0 := q1
            omega
          · show c a + cm a ≤ 1
            have q2 : c1 a + cm a ≤ 1 := h3.c1 a
            have q3 := w.c1 a
            rcases Nat.eq_zero_or_pos (cm a) with p | p
            · omega
            · have := c0 a p; omega
          · have q : 0 < c a + cm a := q
            rcases Nat.eq_zero_or_pos (cm a) with p | p
            · exact b2.cm a (by omega)
            · exact h3.cm a (show 0 < c1 a + cm a by omega)
          · rcases q with q | q
            · exact b3.src a (.inl q)
            · have q : 0 < c a + cm a := q
              rcases Nat.eq_zero_or_pos (cm a) with p | p
              · exact .inr (.inl (by omega))
              · exact .inr (.inr (m0 a p))
        · rw [if_neg hi] at h
          exact h.elim
      | dic _ => exact h.elim
    | o _ _ _ => exact h.elim
  | ex n δ1 =>
    rw [e] at h
    intro H' a
    obtain ⟨z1, c1, h1, h3, h4⟩ := a
    obtain ⟨b1, b2, b3⟩ := pk_back (δ1 := δ1) hE w h4 h3
    exact h H' ⟨_, _, b1, b2, b3⟩
  | bad => rw [e] at h; exact h.elim
end
end FS
namespace FS
open PySem PySem.Spec L2
section
variable {K : PySem.W.Frag} {tb : Nat → Addr} {pin : List (Nat × V)} {W : WX} {H H' H1 : Hp} {z z' z1 : Zn} {c c' c1 : Ct} {σ σ1 : St} {δ δ' : Env'} {X : Cx} {D : Ends}
variable {a b e : Expr} {F G : EF} {pos : Pos}
/-! ### an own list looked at by an index that changes something else -/
def ixoK (i : Nat) (d : PD) (δ1 : Env') : R M := match δ1[i]?, d with
  | some (some (.v (.lst ls))), .int k => (match atI (L.pds ls) k with
    | some e => if immut e then .ok (.fz e) δ1 else .bad
    | none => .bad)
  | _, _ => .bad
def eIxO (i : Nat) (G : EF) : EF := fun δ => match δ[i]? with
  | some (some (.v (.lst _))) => (G δ).p fun d δ1 => ixoK i d δ1
  | _ => .bad
theorem de_ixO {i : Nat} (ha : PE X a (tVar i)) (hb : DE tb W X b G) (hs : PlainIx b) : DE tb W X (.Subscript a b pos) (eIxO i G) :=
  (pe_ix ix_list ha hb hs).wk fun σ H Q ⟨δ, z, c, hE, w, h⟩ => by
    unfold eIxO at h
    split at h
    · rename_i ls0 q0
      obtain ⟨v, c1, c2, e1, e2, e3, e4⟩ := hE.get q0
      refine ⟨v, e1, go_P hE w h fun d δ1 y H1 z1 c1' hE1 f1 w1 s1 h1 => ?_⟩
      unfold ixoK at h1
      split at h1
      · rename_i ls k q1
        obtain ⟨v', d1, d2, g1, g2, g3, g4⟩ := hE1.get q1
        have hv : v' = v := by
          rw [e1] at g1
          exact (Option.some.inj (Option.some.inj g1)).symm
        subst hv
        cases g2 with
        | v r => cases r with
          | lst gg ra re =>
            rename_i p vs cc
            have fA : FzA X.K H1 (fun a => z1 a ∨ 0 < c1' a) (L.pds ls) vs := RpA.freeze (fun _ => .inl) ra fun a q => .inr (by rw [g3, re]; omega)
            cases ea : atI (L.pds ls) k with
            | none => rw [ea] at h1; exact h1.elim
            | some el =>
              rw [ea] at h1
              dsimp only at h1
              by_cases hi : immut el = true
              · rw [if_pos hi] at h1
                obtain ⟨wv, e5, f5⟩ := fA.at ea
                have f6 : Fz X.K H1 z1 el wv := f5.immut (fun a q ⟨xs, r⟩ => by
                  rcases q with q | q
                  · exact q
                  · have m := w1.cm a q
                    rcases r with r | ⟨o, r⟩ <;> (rw [r] at m; exact m.elim)) hi
                rw [f1.int_]
                exact ⟨p, vs, k, wv, rfl, rfl, sqL_of (z := fun _ => True) (.inl ⟨trivial, .inl gg⟩), e5, Out.const hE1 w1 f6 h1⟩
              · rw [if_neg hi] at h1; exact h1.elim
      · exact h1.elim
    · exact h.elim
end
end FS
namespace FS
open PySem PySem.Spec L2
section
variable {prog : Program} {w : World} {A : Around} {E : Value → Shared → Prop} {s : Shared} {l : Addr} {vs : Array Value} {xs : List PyData} {x : Value} {d : PyData} {as bs : List Addr} {Q : Value → Shared → Prop}
theorem index_list_data {j : Nat} (hl : s.heap.IsList l vs) (rs : ReadsAll s.heap vs.toList xs as) (rx : Reads s.heap x d bs) (hxs : PyData.plainAll xs = true) (hd : d.plain = true) (hu : A.units + 1 + min (PyData.depthAll xs) d.depth < cLine)
    (hp : SeqAt.dataPlace xs d = some j) (hsz : vs.size ≤ sizeLine) (h : Q (.int (j : Nat) s.toks) { s with toks := s.toks + 1 }) : wpAny (model prog w) A (call (.builtin "list.index") [.ref l, x]) Q E s := by
  obtain ⟨⟨cls, dd, data, sl⟩, ho, hc, n, hd'⟩ := id hl
  simp only at hc hd'
  subst hc hd'
  obtain ⟨hj, hit, hno⟩ := SeqAt.hit_at rs hxs hp
  rw [sizeLine_eq] at hsz
  exact call_meets F.slot_list_index ⟨_, ho, rfl⟩ F.entry_list_index (F.args_list_index_2 _ _) (SeqAt.list_indexAt l vs n dd sl x _ j hj (by omega) hit hno) ⟨ho, SeqAt.items_plain rs rx hxs hd hu, h⟩
end
section
variable {K : PySem.W.Frag} {tb : Nat → Addr} {pin : List (Nat × V)} {W : WX} {H H' H1 : Hp} {z z' z1 : Zn} {c c' c1 : Ct} {σ σ1 : St} {δ δ' : Env'} {X : Cx} {D : Ends}
variable {a b e : Expr} {F G : EF} {pos p p2 q apos : Pos} {i : Nat}
/-! ### x.index(y) -/
def rIdxD (K : PySem.W.Frag) : V → List V → Hp → VK → Prop := fun x xs H Q => ∃ (z : Zn) (ds : List PD) (b : PD) (j : Nat) (v : V), Fz K H z (.list ds) x ∧ xs = [v] ∧ Fz K H z b v ∧ okNs 12 ds = true ∧ okN 12 b = true ∧ SeqAt.dataPlace ds b = some j ∧ Q (.int (j : Nat)) H
theorem mt_idxD (hu : X.A.units + 64 < cLine) : MtR X "list.index" (rIdxD X.K) := fun pins s σ H x xs v us Q I rx rv ⟨z, ds, b, j, y, f1, e, f2, h1, h2, hp, q⟩ => by
  subst e
  obtain ⟨a, vs, rfl, hH, f⟩ := f1.list
  obtain ⟨its, rv', hl, hlen⟩ := I.list (sqL_of hH)
  cases rx
  obtain ⟨u, rfl, ru⟩ := rv.one
  have p1 := okNs_plain h1
  have p2 := okN_plain h2
  obtain ⟨as, rs⟩ := rdsAll I f rv' p1.1
  obtain ⟨bs, rx⟩ := f2.rd I p2.1 ru
  refine index_list_data (vs := its.toArray) hl.isList (by simpa using rs) rx p1.1 p2.1 (room12 hu p1.2) hp (by have := rv'.length; rw [List.size_toArray]; omega) ?_
  exact ⟨.int (j : Nat), H, I.tok _, ⟨_, rfl⟩, q⟩
def eIdx (F G : EF) : EF := fun δ => (F δ).p fun a δ1 => match a with
  | .list ds => (G δ1).p fun b δ2 => if okNs 12 ds && okN 12 b then (match SeqAt.dataPlace ds b with
    | some j => .ok (.fz (.int (j : Nat))) δ2
    | none => .bad) else .bad
  | _ => .bad
theorem de_idx (hu : X.A.units + 64 < cLine) (ho : DE tb W X a F) (he : DE tb W X e G) (hbase : attributeBase a (Str.ofString "index") X.env (eval a X.env) = eval a X.env := by rfl)
    (hfew : ((backTo pos (starEach [e] X.env)).all (fun x => !x.1) && (backToKw pos (keywordEach [] X.env)).all (fun x => x.1.isSome)
      && decide (([e] : List Expr).length + ([] : List Keyword).length + (if ([] : List Keyword).isEmpty then 0 else 1) < 30)) = true := by rfl)
    (hline : (apos.endLine == pos.line) = true := by rfl) (hs : starEach [e] X.env = (false, eval e X.env) :: starEach [] X.env := by rfl) (hplain : (backTo pos (starEach [] X.env)).any (·.1) = false := by rfl) :
    DE tb W X (.Call (.Attribute a (Str.ofString "index") apos) [e] [] pos) (eIdx F G) :=
  (pe_bm PySem.F.plainAttrs_list PySem.F.slot_list_index PySem.F.type_list_index (mt_idxD hu) ho (pa_cons he pa_nil hs) hbase hfew hline hs hplain).wk fun σ H Q ⟨δ, z, c, hE, w, h⟩ => by
    refine go_P hE w h fun d δ1 v H1 z1 c1 hE1 f1 w1 s1 h1 => ?_
    cases d with
    | list ds =>
      obtain ⟨a, vs, ev, hH, f⟩ := f1.list
      refine ⟨by rw [ev]; exact .inl ⟨rfl, vs, sqL_of hH⟩, ?_⟩
      refine go_P hE1 w1 h1 fun b δ2 u H2 z2 c2 hE2 f2 w2 s2 h2 => ?_
      by_cases hk : (okNs 12 ds && okN 12 b) = true
      case neg => rw [if_neg hk] at h2; exact h2.elim
      rw [if_pos hk] at h2
      have hk' := Bool.and_eq_true_iff.mp hk
      cases ep : SeqAt.dataPlace ds b with
      | none => rw [ep] at h2; exact h2.elim
      | some j =>
        rw [ep] at h2
        exact ⟨z2, ds, b, j, u, s2.fz w1 f1, rfl, f2, hk'.1, hk'.2, ep, Out.const hE2 w2 (.int _) h2⟩
    | _ => exact h1.elim
/-! ### x.extend(e) -/
def sExt (i : Nat) (F : EF) : SF := fun δ => match δ[i]? with
  | some (some (.v (.lst _))) => (F δ).s fun m δ1 => (match m, δ1[i]? with
    | .v (.lst ls'), some (some (.v (.lst ls))) => if ls.length + ls'.length ≤ big then .nx (δ1.set i (some (.lst (ls ++ ls')))) else .bad
    | _, _ => .bad)
  | _ => .bad
theorem ds_ext (ho : PE X a (tVar i)) (he : DE tb W X e F) (hbase : attributeBase a (Str.ofString "extend") X.env (eval a X.env) = eval a X.env := by rfl)
    (hfew : ((backTo pos (starEach [e] X.env)).all (fun x => !x.1) && (backToKw pos (keywordEach [] X.env)).all (fun x => x.1.isSome)
      && decide (([e] : List Expr).length + ([] : List Keyword).length + (if ([] : List Keyword).isEmpty then 0 else 1) < 30)) = true := by rfl)
    (hline : (apos.endLine == pos.line) = true := by rfl) (hs : starEach [e] X.env = (false, eval e X.env) :: starEach [] X.env := by rfl) (hplain : (backTo pos (starEach [] X.env)).any (·.1) = false := by rfl)
    (hsw : swapsWith (.Call (.Attribute a (Str.ofString "extend") apos) [e] [] pos) none p.line X.env = pure false := by rfl) :
    DS tb pin W X (.Expr (.Call (.Attribute a (Str.ofString "extend") apos) [e] [] pos) p) (sExt i F) :=
  (ps_expr (pe_bm PySem.F.plainAttrs_list PySem.F.slot_list_extend PySem.F.type_list_extend mt_extend ho (pa_cons he pa_nil hs) hbase hfew hline hs hplain) hsw).wk fun D σ H ⟨hp, δ, z, c, hE, w, h⟩ => by
    unfold sExt at h
    cases q0 : δ[i]? with
    | none => rw [q0] at h; exact h.elim
    | some o0 =>
      rw [q0] at h
      cases o0 with
      | none => exact h.elim
      | some m0 =>
        cases m0 with
        | o _ _ _ => exact h.elim
        | v l0 =>
          cases l0 with
          | fz _ => exact h.elim
          | dic _ => exact h.elim
          | lst ls0 =>
            dsimp only at h
            obtain ⟨a, vs0, _, _, ev, hH, _, _, _⟩ := own_lst hE q0
            refine ⟨.ref a, ev, .inl ⟨rfl, vs0, .inl (.inl hH)⟩, ?_⟩
            refine go_S hp hE w h fun m δ1 v H1 z1 c1 cm hE1 r1 w1 s1 h1 => ?_
            cases m with
            | o _ _ _ => exact h1.elim
            | v l =>
              cases l with
              | fz _ => exact h1.elim
              | dic _ => exact h1.elim
              | lst ls' =>
              cases q1 : δ1[i]? with
              | none => rw [q1] at h1; exact h1.elim
              | some o1 =>
                rw [q1] at h1
                cases o1 with
                | none => exact h1.elim
                | some m1 =>
                  cases m1 with
                  | o _ _ _ => exact h1.elim
                  | v l1 =>
                    cases l1 with
                    | fz _ => exact h1.elim
                    | dic _ => exact h1.elim
                    | lst ls =>
                      dsimp only at h1
                      by_cases hb : ls.length + ls'.length ≤ big
                      case neg => rw [if_neg hb] at h1; exact h1.elim
                      rw [if_pos hb] at h1
                      obtain ⟨a', vs, ca, cr, ev', hH', hA, hc, hE2⟩ := own_lst hE1 q1
                      rw [ev] at ev'
                      cases ev'
                      cases r1 with
                      | v r1 =>
                        cases r1 with
                        | lst hb1 rb eb =>
                          rename_i pb zs cb
                          have hA2 : RpA X.K H1 z1 (ls ++ ls') (vs ++ zs) fun b => ca b + cb b := hA.app rb
                          have w2 : Wf H1 z1 fun b => one a b + (ca b + cb b) + cr b := w1.mono fun b => by have := hc b; have := eb b; show _ ≤ c1 b + cm b; omega
                          have hE3 := own_put (lt_of_get q1) ev hA2 hE2 w2
                          have pa : 0 < one a a + (ca a + cb a) + cr a := by rw [one_self]; omega
                          obtain ⟨w3, s3⟩ := Wf.upd (o := .lst (vs ++ zs)) w2 pa trivial
                          refine ⟨a, pb, vs, zs, rfl, rfl, hH', hb1, by rw [← hA.len, ← rb.len, big_eq]; exact hb, ?_⟩
                          exact h1 σ _ ⟨hp, z1, _, hE3, w3, ((Step.refl H1 z1 fun b => c1 b + cm b).mono fun b => by have := hc b; have := eb b; show one a b + (ca b + cb b) + cr b ≤ c1 b + cm b; omega).trans w2 s3⟩
/-! ### sorted(set(..)) of pairs of small numbers -/
def ltP : List Int → List Int → Bool
  | [x, y], [x', y'] => decide (x < x') || (decide (x = x') && decide (y < y'))
  | _, _ => false
def insP (x : List Int) : List (List Int) → List (List Int)
  | [] => [x]
  | y :: r => if x = y then y :: r else if ltP x y then x :: y :: r else y :: insP x r
def ascP : List (List Int) → List (List Int)
  | [] => []
  | x :: r => insP x (ascP r)
def pairOk : List Int → Bool
  | [x, y] => decide (0 ≤ x) && decide (x < 64) && (decide (0 ≤ y) && decide (y < 64))
  | _ => false
theorem pairOk_iff {p : List Int} (h : pairOk p = true) : ∃ x y, p = [x, y] ∧ 0 ≤ x ∧ x < 64 ∧ 0 ≤ y ∧ y < 64 := by
  unfold pairOk at h
  split at h
  · rename_i x y
    simp only [Bool.and_eq_true, decide_eq_true_eq] at h
    exact ⟨x, y, rfl, h.1.1, h.1.2, h.2.1, h.2.2⟩
  · cases h
theorem mem_insP {x y : List Int} : ∀ {l : List (List Int)}, y ∈ insP x l ↔ y = x ∨ y ∈ l
  | [] => by simp [insP]
  | z :: r => by
    unfold insP
    split
    · rename_i e; subst e; simp
    · split
      · simp
      · simp only [List.mem_cons, mem_insP (l := r)]
        constructor <;> intro h <;> rcases h with h | h | h <;> simp [h]
theorem mem_ascP {y : List Int} : ∀ {l : List (List Int)}, y ∈ ascP l ↔ y ∈ l
  | [] => Iff.rfl
  | x :: r => by
    unfold ascP
    rw [mem_insP, mem_ascP (l := r), List.mem_cons]
theorem ltP_iff {x y x' y' : Int} : ltP [x, y] [x', y'] = true ↔ x < x' ∨ (x = x' ∧ y < y') := by
  unfold ltP
  simp
theorem ltP_tr {a b c : List Int} (ha : pairOk a = true) (hb : pairOk b = true) (hc : pairOk c = true) (h : ltP a b = true) (h' : ltP b c = true) : ltP a c = true := by
  obtain ⟨x, y, rfl, _⟩ := pairOk_iff ha
  obtain ⟨x1, y1, rfl, _⟩ := pairOk_iff hb
  obtain ⟨x2, y2, rfl, _⟩ := pairOk_iff hc
  rw [ltP_iff] at *
  omega
theorem ltP_tot {a b : List Int} (ha : pairOk a = true) (hb : pairOk b = true) (ne : a ≠ b) (h : ltP a b ≠ true) : ltP b a = true := by
  obtain ⟨x, y, rfl, _⟩ := pairOk_iff ha
  obtain ⟨x1, y1, rfl, _⟩ := pairOk_iff hb
  have h2 : ¬ (x < x1 ∨ (x = x1 ∧ y < y1)) := fun q => h (ltP_iff.mpr q)
  refine ltP_iff.mpr ?_
  by_cases e : x = x1
  · subst e
    by_cases e : y = y1
    · subst e; exact absurd rfl ne
    · omega
  · omega
theorem ltP_irr {a : List Int} (ha : pairOk a = true) : ltP a a ≠ true := by
  obtain ⟨x, y, rfl, _⟩ := pairOk_iff ha
  intro h
  have := ltP_iff.mp h
  omega
theorem insP_asc {x : List Int} (hx : pairOk x = true) : ∀ {l : List (List Int)}, (∀ y ∈ l, pairOk y = true) → l.Pairwise (fun a b => ltP a b = true) → (insP x l).Pairwise fun a b => ltP a b = true
  | [], _, _ => by simp [insP]
  | z :: r, hl, h => by
    have hz := hl z List.mem_cons_self
    have hr := fun y hy => hl y (List.mem_cons_of_mem _ hy)
    obtain ⟨h1, h2⟩ := List.pairwise_cons.mp h
    unfold insP
    split
    · exact h
    · rename_i ne
      split
      · rename_i hlt
        refine List.pairwise_cons.mpr ⟨fun b hb => ?_, h⟩
        rcases List.mem_cons.mp hb with rfl | hb
        · exact hlt
        · exact ltP_tr hx hz (hr b hb) hlt (h1 b hb)
      · rename_i hlt
        refine List.pairwise_cons.mpr ⟨fun b hb => ?_, insP_asc hx hr h2⟩
        rcases mem_insP.mp hb with rfl | hb
        · exact ltP_tot hx hz ne hlt
        · exact h1 b hb
theorem ascP_asc : ∀ {l : List (List Int)}, (∀ y ∈ l, pairOk y = true) → (ascP l).Pairwise fun a b => ltP a b = true
  | [], _ => .nil
  | x :: r, hl => insP_asc (hl x List.mem_cons_self) (fun y hy => hl y (List.mem_cons_of_mem _ (mem_ascP.mp hy))) (ascP_asc fun y hy => hl y (List.mem_cons_of_mem _ hy))
theorem asc_eq : ∀ {l m : List (List Int)}, (∀ y ∈ l, pairOk y = true) → l.Pairwise (fun a b => ltP a b = true) → m.Pairwise (fun a b => ltP a b = true) → (∀ y, y ∈ l ↔ y ∈ m) → l = m
  | [], [], _, _, _, _ => rfl
  | [], y :: m, _, _, _, h => by have := (h y).mpr List.mem_cons_self; cases this
  | x :: l, [], _, _, _, h => by have := (h x).mp List.mem_cons_self; cases this
  | x :: l, y :: m, hk, h1, h2, h => by
    obtain ⟨a1, a2⟩ := List.pairwise_cons.mp h1
    obtain ⟨b1, b2⟩ := List.pairwise_cons.mp h2
    have kx := hk x List.mem_cons_self
    have ky := hk y ((h y).mpr List.mem_cons_self)
    have e : x = y := by
      rcases List.mem_cons.mp ((h x).mp List.mem_cons_self) with q | q
      · exact q
      · rcases List.mem_cons.mp ((h y).mpr List.mem_cons_self) with q' | q'
        · exact q'.symm
        · exact absurd (ltP_tr kx ky kx (a1 y q') (b1 x q)) (ltP_irr kx)
    subst e
    congr 1
    refine asc_eq (fun y hy => hk y (List.mem_cons_of_mem _ hy)) a2 b2 fun y => ⟨fun hy => ?_, fun hy => ?_⟩
    · rcases List.mem_cons.mp ((h y).mp (List.mem_cons_of_mem _ hy)) with q | q
      · subst q; exact absurd (a1 y hy) (ltP_irr kx)
      · exact q
    · rcases List.mem_cons.mp ((h y).mpr (List.mem_cons_of_mem _ hy)) with q | q
      · subst q; exact absurd (b1 y hy) (ltP_irr kx)
      · exact q
def tupD (ns : List Int) : PD := .tuple (ns.map .int)
def gSortSet : PD → Option M
  | .list ds => if ds.length < 64 then (match tupIs ds with
    | some kss => if kss.all pairOk then some (.lst ((ascP kss).map fun k => .fz (tupD k))) else none
    | none => none) else none
  | _ => none
theorem NewM.lst' {ds : List PD} {vs : List V} {p : Addr} {H0 : Hp} (hz : ∀ a, z a → H a ≠ none) (k : ∀ a, H a ≠ none → H0 a = H a) (hp : H0 p = none) (h : FzA K H z ds vs) : NewM K tb H z (.lst (ds.map .fz)) (.ref p) (upd H0 p (.lst vs)) := by
  have np : ∀ a, H a ≠ none → a ≠ p := fun a h e => by rw [e] at h; exact h ((k p h).symm.trans hp)
  have hpn : H p = none := by
    cases e : H p with
    | none => rfl
    | some o => exact absurd rfl (np p (by rw [e]; exact fun z => nomatch z))
  have kk : ∀ a, H a ≠ none → upd H0 p (.lst vs) a = H a := fun a h => (upd_ne (np a h)).trans (k a h)
  refine ⟨z, one p, kk, fun _ h => h, fun a q => q.imp id fun r => by rw [one_pos r]; exact hpn, .v (.lst upd_same ((h.mono (fun _ q => q) fun a q => kk a (hz a q)).rpA) fun _ => rfl), fun a q => by rw [kk a (hz a q)]; exact hz a q, fun a q => one_ne (np a (hz a q)), fun a => ?_, fun a q => ?_⟩
  · unfold one; split <;> omega
  · rw [one_pos q, upd_same]; trivial
theorem fz_backs : ∀ {ks : List (Addr × List Int)}, (∀ p ∈ ks, Fz K H z (tupD p.2) (.ref p.1)) → FzA K H z ((ks.map (·.2)).map tupD) (ks.map fun p => V.ref p.1)
  | [], _ => .nil
  | p :: r, h => .cons (h p List.mem_cons_self) (fz_backs fun q hq => h q (List.mem_cons_of_mem _ hq))
theorem fz_tups' : ∀ {ds : List PD} {kss : List (List Int)} {vs : List V}, tupIs ds = some kss → FzA K H z ds vs → ∃ ks : List (Addr × List Int), ks.map (·.2) = kss ∧ vs = ks.map (fun p => V.ref p.1) ∧ ∀ p ∈ ks, Fz K H z (tupD p.2) (.ref p.1)
  | [], _, _, h, .nil => by
    cases h
    exact ⟨[], rfl, rfl, fun p hp => by cases hp⟩
  | .tuple ds :: r, kss, _, h, .cons f fr => by
    unfold tupIs at h
    cases e : allInt ds with
    | none => rw [e] at h; cases h
    | some ns =>
      rw [e] at h
      cases e2 : tupIs r with
      | none => rw [e2] at h; cases h
      | some rs =>
        rw [e2] at h
        simp only [Option.bind_some, Option.map_some, Option.some.injEq] at h
        subst h
        obtain ⟨ks, h1, h2, h3⟩ := fz_tups' e2 fr
        have ed := allInt_of e
        subst ed
        obtain ⟨a, ws, rfl, hH, fw⟩ := f.tuple
        refine ⟨(a, ns) :: ks, by simp [h1], by simp [h2], fun p hp => ?_⟩
        rcases List.mem_cons.mp hp with rfl | hp
        · exact f
        · exact h3 p hp
  | .none :: _, _, _, h, _ => by cases h
  | .bool _ :: _, _, _, h, _ => by cases h
  | .int _ :: _, _, _, h, _ => by cases h
  | .str _ :: _, _, _, h, _ => by cases h
  | .list _ :: _, _, _, h, _ => by cases h
  | .dict _ :: _, _, _, h, _ => by cases h
theorem de_sortSet (hc : X.calm = true) (hu : X.A.units + 64 < cLine) (hg : Gl X "sorted") (hm : X.mg "sorted" = none) (hg2 : Gl X "set") (hm2 : X.mg "set" = none) (ha : DE tb W X a F)
    (na : starEach [a] X.env = (false, eval a X.env) :: starEach [] X.env := by rfl) (nb : starEach [.Call (.Name "set" p2) [a] [] q] X.env = (false, eval (.Call (.Name "set" p2) [a] [] q) X.env) :: starEach [] X.env := by rfl) :
    DE tb W X (.Call (.Name "sorted" p) [.Call (.Name "set" p2) [a] [] q] [] pos) (eU1 gSortSet F) := by
  have h1 : PE X (.Call (.Name "set" p2) [a] [] q) (tCB (rSetOfT X.K X.prog X.w) _) := pe_callTy (cr_setOfT hc hu) hg2 hm2 (by rfl) (pa_cons ha pa_nil na) (by decide) (by decide) na rfl
  refine (pe_callB (cr_sortedT hc) hg hm (by rfl) (pa_cons h1 pa_nil nb) (by decide) (by decide) nb rfl).wk fun σ H Q ⟨δ, z, c, hE, w, h⟩ => ?_
  refine go_P hE w h fun d δ1 v H1 z1 c1 hE1 f1 w1 s1 h1 => ?_
  unfold gSortSet at h1
  cases d with
  | list ds =>
    dsimp only at h1
    by_cases hl : ds.length < 64
    case neg => rw [if_neg hl] at h1; exact h1.elim
    rw [if_pos hl] at h1
    cases et : tupIs ds with
    | none => rw [et] at h1; exact h1.elim
    | some kss =>
      rw [et] at h1
      dsimp only at h1
      by_cases hk : kss.all pairOk = true
      case neg => rw [if_neg hk] at h1; exact h1.elim
      rw [if_pos hk] at h1
      have hk' := List.all_eq_true.mp hk
      obtain ⟨l, vs, ev, hH, fv⟩ := f1.list
      obtain ⟨ks, e1, e2, e3⟩ := fz_tups' et fv
      subst e2
      have sq : ∀ p ∈ ks, SqT X.K H1 p.1 (p.2.map V.int) := fun p hp => by
        obtain ⟨a', ws, ea, hH', fw⟩ := (e3 p hp).tuple
        cases ea
        rw [Fz.ints fw] at hH'
        exact sqT_of hH'
      refine ⟨l, ks, by rw [ev], sqL_of hH, sq, by have := tupIs_len et; rw [← e1, List.length_map] at this; omega, fun a0 L ha0 sub sup => ?_⟩
      have kp0 : ∀ b, H1 b ≠ none → upd H1 a0 (SetTO X.prog X.w a0 L) b = H1 b := fun b hb => upd_ne fun e => hb (e ▸ ha0)
      have sqL' : ∀ p ∈ L, SqT X.K (upd H1 a0 (SetTO X.prog X.w a0 L)) p.1 (p.2.map V.int) := fun p hp => by
        obtain ⟨a', ws, ea, hH', fw⟩ := ((e3 p (sub p hp)).mono (fun _ q => q) fun b q => kp0 b (w1.zt b q)).tuple
        cases ea
        rw [Fz.ints fw] at hH'
        exact sqT_of hH'
      have okL : ∀ p ∈ L, pairOk p.2 = true := fun p hp => hk' _ (by rw [← e1]; exact List.mem_map.mpr ⟨p, sub p hp, rfl⟩)
      refine ⟨a0, L, 2, 64, rfl, upd_same, sqL', by decide, fun p hp => ?_, fun L' p0 perm nd few pw hp0 => ?_⟩
      · obtain ⟨x, y, e, b1, b2, b3, b4⟩ := pairOk_iff (okL p hp)
        rw [e]
        refine ⟨rfl, fun m hm => ?_⟩
        rcases List.mem_cons.mp hm with rfl | hm
        · exact ⟨b1, b2⟩
        · rw [List.mem_singleton.mp hm]; exact ⟨b3, b4⟩
      · have okL' : ∀ p ∈ L', pairOk p.2 = true := fun p hp => okL p (perm.mem_iff.mp hp)
        have pw' : (L'.map (·.2)).Pairwise fun a b => ltP a b = true := by
          have nd' : L'.Pairwise fun a b => a.2 ≠ b.2 := List.pairwise_map.mp nd
          refine List.pairwise_map.mpr ?_
          refine (List.Pairwise.and pw nd').imp_of_mem fun {a b} ha hb ⟨q1, q2⟩ => ?_
          obtain ⟨x, y, e, b1, b2, b3, b4⟩ := pairOk_iff (okL' a ha)
          obtain ⟨x', y', e', b1', b2', b3', b4'⟩ := pairOk_iff (okL' b hb)
          rw [e, e'] at q1 q2 ⊢
          exact ltP_iff.mpr (pair_lt q1 q2 ⟨b1, b2⟩ ⟨b3, b4⟩ ⟨b1', b2'⟩ ⟨b3', b4'⟩)
        have ee : L'.map (·.2) = ascP kss := by
          refine asc_eq (fun y hy => ?_) pw' (ascP_asc fun y hy => hk' y hy) fun y => ?_
          · obtain ⟨p, hp, rfl⟩ := List.mem_map.mp hy
            exact okL' p hp
          · rw [mem_ascP, ← e1]
            constructor
            · intro hy
              obtain ⟨p, hp, rfl⟩ := List.mem_map.mp hy
              exact List.mem_map.mpr ⟨p, sub p (perm.mem_iff.mp hp), rfl⟩
            · intro hy
              obtain ⟨p, hp, rfl⟩ := List.mem_map.mp hy
              obtain ⟨q, hq, eq⟩ := List.mem_map.mp (sup p hp)
              exact List.mem_map.mpr ⟨q, perm.mem_iff.mpr hq, eq⟩
        have fL : FzA X.K H1 z1 ((ascP kss).map tupD) (L'.map fun q => V.ref q.1) := by
          rw [← ee]
          exact fz_backs fun p hp => e3 p (sub p (perm.mem_iff.mp hp))
        have em : (ascP kss).map (fun k => FS.L.fz (tupD k)) = ((ascP kss).map tupD).map FS.L.fz := by rw [List.map_map]; rfl
        rw [em] at h1
        exact h1 _ _ ((NewM.lst' w1.zt kp0 hp0 fL).aft hE1 w1)
  | _ => exact h1.elim
end
end FS
namespace FS
open PySem PySem.Spec L2
/-! ### dicts: the data -/
section
variable {κ : Type} [DecidableEq κ]
def putDk (f : PD → Option κ) (kvs : List (PD × PD)) (k d : PD) : List (PD × PD) :=
  if (kvs.any fun kv => decide (f kv.1 = f k)) = true then kvs.map (fun kv => if f kv.1 = f k then (kv.1, d) else kv) else kvs ++ [(k, d)]
def getDk (f : PD → Option κ) (kvs : List (PD × PD)) (k : PD) : Option PD := (kvs.find? fun kv => decide (f kv.1 = f k)).map (·.2)
end
def isKd (d : PD) : Bool := (keyD d).isSome
def isKt (d : PD) : Bool := (keyT d).isSome
def putD (kvs : List (PD × PD)) (k d : PD) : List (PD × PD) := if isKd k then putDk keyD kvs k d else putDk keyT kvs k d
def getD' (kvs : List (PD × PD)) (k : PD) : Option PD := if isKd k then getDk keyD kvs k else getDk keyT kvs k
section
variable {K : PySem.W.Frag} {tb : Nat → Addr} {pin : List (Nat × V)} {W : WX} {H H' H1 : Hp} {z z' z1 : Zn} {c c' c1 : Ct} {σ σ1 : St} {δ δ' : Env'} {X : Cx} {D : Ends}
theorem FzD.any {k : PD} {k' : Key} (hk : keyD k = some k') : ∀ {kvs : List (PD × PD)} {kw : List (Key × V)}, FzD K H z kvs kw → (kvs.any fun kv => decide (keyD kv.1 = keyD k)) = kw.any fun kv => decide (kv.1 = k')
  | _, _, .nil => rfl
  | _, _, .cons e f r => by
    have ih := FzD.any hk r
    rw [hk] at ih
    simp only [List.any_cons, e, hk, Option.some.injEq, ih]
theorem FzD.map {k d : PD} {k' : Key} {v : V} (hk : keyD k = some k') (hd : Fz K H z d v) : ∀ {kvs : List (PD × PD)} {kw : List (Key × V)}, FzD K H z kvs kw →
    FzD K H z (kvs.map fun kv => if keyD kv.1 = keyD k then (kv.1, d) else kv) (kw.map fun kv => if kv.1 = k' then (kv.1, v) else kv)
  | _, _, .nil => .nil
  | (k0, d0) :: kvs, (k0', v0) :: kw, .cons e f r => by
    rw [List.map_cons, List.map_cons]
    by_cases h : k0' = k'
    · rw [if_pos (show keyD k0 = keyD k by rw [e, hk, h]), if_pos h]
      exact .cons e hd (FzD.map hk hd r)
    · rw [if_neg (show ¬ keyD k0 = keyD k by rw [e, hk]; exact fun q => h (Option.some.inj q)), if_neg h]
      exact .cons e f (FzD.map hk hd r)
theorem FzD.app : ∀ {a a' : List (PD × PD)} {b b' : List (Key × V)}, FzD K H z a b → FzD K H z a' b' → FzD K H z (a ++ a') (b ++ b')
  | _, _, _, _, .nil, h => h
  | _, _, _, _, .cons e f r, h => .cons e f (FzD.app r h)
theorem FzD.put {k d : PD} {k' : Key} {v : V} {kvs : List (PD × PD)} {kw : List (Key × V)} (hk : keyD k = some k') (hd : Fz K H z d v) (h : FzD K H z kvs kw) : FzD K H z (putDk keyD kvs k d) (putK kw k' v) := by
  unfold putDk putK
  rw [FzD.any hk h]
  split
  · exact FzD.map hk hd h
  · exact h.app (.cons hk hd .nil)
theorem FzD.get {k : PD} {k' : Key} (hk : keyD k = some k') : ∀ {kvs : List (PD × PD)} {kw : List (Key × V)}, FzD K H z kvs kw → (∃ d v, getDk keyD kvs k = some d ∧ valV kw k' = some v ∧ Fz K H z d v) ∨ (getDk keyD kvs k = none ∧ valV kw k' = none)
  | _, _, .nil => .inr ⟨rfl, rfl⟩
  | (k0, d0) :: kvs, (k0', v0) :: kw, .cons e f r => by
    by_cases h : k0' = k'
    · refine .inl ⟨d0, v0, ?_, valV_pos h, f⟩
      unfold getDk
      rw [List.find?_cons_of_pos (by simp [e, hk, h])]; rfl
    · have e1 : getDk keyD ((k0, d0) :: kvs) k = getDk keyD kvs k := by
        unfold getDk
        rw [List.find?_cons_of_neg (by simp [e, hk, h])]
      rw [e1, valV_neg h]
      exact FzD.get hk r
theorem FzT.any {k : PD} {k' : List Key} (hk : keyT k = some k') : ∀ {kvs : List (PD × PD)} {kw : List (List Key × V)}, FzT K H z kvs kw → (kvs.any fun kv => decide (keyT kv.1 = keyT k)) = kw.any fun kv => decide (kv.1 = k')
  | _, _, .nil => rfl
  | _, _, .cons e f r => by
    have ih := FzT.any hk r
    rw [hk] at ih
    simp only [List.any_cons, e, hk, Option.some.injEq, ih]
theorem FzT.map {k d : PD} {k' : List Key} {v : V} (hk : keyT k = some k') (hd : Fz K H z d v) : ∀ {kvs : List (PD × PD)} {kw : List (List Key × V)}, FzT K H z kvs kw →
    FzT K H z (kvs.map fun kv => if keyT kv.1 = keyT k then (kv.1, d) else kv) (kw.map fun kv => if kv.1 = k' then (kv.1, v) else kv)
  | _, _, .nil => .nil
  | (k0, d0) :: kvs, (k0', v0) :: kw, .cons e f r => by
    rw [List.map_cons, List.map_cons]
    by_cases h : k0' = k'
    · rw [if_pos (show keyT k0 = keyT k by rw [e, hk, h]), if_pos h]
      exact .cons e hd (FzT.map hk hd r)
    · rw [if_neg (show ¬ keyT k0 = keyT k by rw [e, hk]; exact fun q => h (Option.some.inj q)), if_neg h]
      exact .cons e f (FzT.map hk hd r)
theorem FzT.app : ∀ {a a' : List (PD × PD)} {b b' : List (List Key × V)}, FzT K H z a b → FzT K H z a' b' → FzT K H z (a ++ a') (b ++ b')
  | _, _, _, _, .nil, h => h
  | _, _, _, _, .cons e f r, h => .cons e f (FzT.app r h)
theorem FzT.put {k d : PD} {k' : List Key} {v : V} {kvs : List (PD × PD)} {kw : List (List Key × V)} (hk : keyT k = some k') (hd : Fz K H z d v) (h : FzT K H z kvs kw) : FzT K H z (putDk keyT kvs k d) (putK kw k' v) := by
  unfold putDk putK
  rw [FzT.any hk h]
  split
  · exact FzT.map hk hd h
  · exact h.app (.cons hk hd .nil)
theorem FzT.get {k : PD} {k' : List Key} (hk : keyT k = some k') : ∀ {kvs : List (PD × PD)} {kw : List (List Key × V)}, FzT K H z kvs kw → (∃ d v, getDk keyT kvs k = some d ∧ valV kw k' = some v ∧ Fz K H z d v) ∨ (getDk keyT kvs k = none ∧ valV kw k' = none)
  | _, _, .nil => .inr ⟨rfl, rfl⟩
  | (k0, d0) :: kvs, (k0', v0) :: kw, .cons e f r => by
    by_cases h : k0' = k'
    · refine .inl ⟨d0, v0, ?_, valV_pos h, f⟩
      unfold getDk
      rw [List.find?_cons_of_pos (by simp [e, hk, h])]; rfl
    · have e1 : getDk keyT ((k0, d0) :: kvs) k = getDk keyT kvs k := by
        unfold getDk
        rw [List.find?_cons_of_neg (by simp [e, hk, h])]
      rw [e1, valV_neg h]
      exact FzT.get hk r
/-! ### keys -/
theorem Fz.keyD {d : PD} {v : V} {k : Key} (f : Fz K H z d v) (h : FS.keyD d = some k) : v = kV k := by
  cases f <;> simp [FS.keyD] at h <;> subst h <;> rfl
theorem FzA.keyDs : ∀ {ds : List PD} {vs : List V} {ks : List Key}, FzA K H z ds vs → FS.keyDs ds = some ks → vs = ks.map kV
  | _, _, _, .nil, h => by cases h; rfl
  | d :: ds, _, ks, .cons f r, h => by
    unfold FS.keyDs at h
    cases e : FS.keyD d with
    | none => rw [e] at h; cases h
    | some k =>
      rw [e] at h
      cases e2 : FS.keyDs ds with
      | none => rw [e2] at h; cases h
      | some kr =>
        rw [e2] at h
        simp only [Option.bind_some, Option.map_some, Option.some.injEq] at h
        subst h
        rw [f.keyD e, FzA.keyDs r e2]; rfl
theorem Fz.keyT {d : PD} {v : V} {ks : List Key} (f : Fz K H z d v) (h : FS.keyT d = some ks) : ∃ b, v = .ref b ∧ H b = some (.tup (ks.map kV)) := by
  cases d with
  | tuple ds =>
    obtain ⟨a, vs, rfl, _, hH, fa⟩ := f.tupleP
    rw [fa.keyDs h] at hH
    exact ⟨a, rfl, hH⟩
  | _ => cases h
theorem kd_kt {d : PD} {k : Key} (h : FS.keyD d = some k) : FS.keyT d = none := by cases d <;> simp [FS.keyD, FS.keyT] at h ⊢
theorem FzD.noT {b : PD} {kt : List Key} (hkt : FS.keyT b = some kt) : ∀ {kvs : List (PD × PD)} {kw : List (Key × V)}, FzD K H z kvs kw → getDk FS.keyT kvs b = none
  | _, _, .nil => rfl
  | _, _, .cons e f r => by
    have ih := FzD.noT hkt r
    unfold getDk at ih ⊢
    rw [List.find?_cons_of_neg (by rw [kd_kt e, hkt]; simp)]
    exact ih
theorem FzT.noD {b : PD} {kd : Key} (hkd : FS.keyD b = some kd) : ∀ {kvs : List (PD × PD)} {kw : List (List Key × V)}, FzT K H z kvs kw → getDk FS.keyD kvs b = none
  | _, _, .nil => rfl
  | (k, _) :: _, _, .cons e f r => by
    have ih := FzT.noD hkd r
    unfold getDk at ih ⊢
    have hn : FS.keyD k = none := by
      cases q : FS.keyD k with
      | none => rfl
      | some x => rw [kd_kt q] at e; cases e
    rw [List.find?_cons_of_neg (by rw [hn, hkd]; simp)]
    exact ih
/-! ### d[k] -/
def eDg (F G : EF) : EF := fun δ => (F δ).p fun a δ1 => (G δ1).p fun b δ2 => match a with
  | .dict kvs => if isKd b || isKt b then (match getD' kvs b with
    | some d => .ok (.fz d) δ2
    | none => .bad) else .bad
  | _ => .bad
/-- a reading of a frozen dict -/
theorem Fz.dget {kvs : List (PD × PD)} {b d : PD} {v u : V} (f : Fz K H z (.dict kvs) v) (g : Fz K H z b u) (h : getD' kvs b = some d) (hk : (isKd b || isKt b) = true) : ∃ a w, v = .ref a ∧ DGet H a u (some w) ∧ Fz K H z d w := by
  unfold getD' at h
  cases f with
  | dik q hr fd =>
    by_cases hb : isKd b = true
    · rw [if_pos hb] at h
      obtain ⟨k', hk'⟩ := Option.isSome_iff_exists.mp hb
      rcases fd.get hk' with ⟨d', w, e1, e2, e3⟩ | ⟨e1, _⟩
      · rw [h] at e1; cases e1
        exact ⟨_, w, rfl, .inl ⟨_, k', hr, g.keyD hk', e2.symm⟩, e3⟩
      · rw [h] at e1; cases e1
    · rw [if_neg hb] at h
      exfalso
      have ht : isKt b = true := by simpa [hb] using hk
      obtain ⟨kt, hkt⟩ := Option.isSome_iff_exists.mp ht
      rw [fd.noT hkt] at h; cases h
  | dit q hr fd =>
    by_cases hb : isKd b = true
    · rw [if_pos hb] at h
      exfalso
      obtain ⟨kd, hkd⟩ := Option.isSome_iff_exists.mp hb
      rw [fd.noD hkd] at h; cases h
    · rw [if_neg hb] at h
      have ht : isKt b = true := by simpa [hb] using hk
      obtain ⟨k', hk'⟩ := Option.isSome_iff_exists.mp ht
      rcases fd.get hk' with ⟨d', w, e1, e2, e3⟩ | ⟨e1, _⟩
      · rw [h] at e1; cases e1
        obtain ⟨p, rfl, hp⟩ := g.keyT hk'
        exact ⟨_, w, rfl, .inr ⟨_, k', p, hr, rfl, hp, e2.symm⟩, e3⟩
      · rw [h] at e1; cases e1
theorem de_dget {a b : Expr} {F G : EF} {pos : Pos} (hu : X.A.units + 64 < cLine) (ha : DE tb W X a F) (hb : DE tb W X b G) (hs : NoSl b) : DE tb W X (.Subscript a b pos) (eDg F G) :=
  (pe_dget (by omega) ha hb hs).wk fun σ H Q ⟨δ, z, c, hE, w, h⟩ => by
    refine go_P hE w h fun d δ1 v H1 z1 c1 hE1 f1 w1 s1 h1 => ?_
    refine go_P hE1 w1 h1 fun b δ2 u H2 z2 c2 hE2 f2 w2 s2 h2 => ?_
    cases d with
    | dict kvs =>
      have h2 : Out X.K tb W H2 z2 c2 σ (if isKd b || isKt b then (match getD' kvs b with
        | some d => .ok (.fz d) δ2
        | none => .bad) else .bad) Q := h2
      by_cases hk : (isKd b || isKt b) = true
      case neg => rw [if_neg hk] at h2; exact h2.elim
      rw [if_pos hk] at h2
      cases eg : getD' kvs b with
      | none => rw [eg] at h2; exact h2.elim
      | some x =>
        rw [eg] at h2
        obtain ⟨p, wv, ev, g, fw⟩ := (s2.fz w1 f1).dget f2 eg hk
        exact ⟨p, wv, ev, g, Out.const hE2 w2 fw h2⟩
    | _ => exact h2.elim
/-! ### k in d -/
def okKind (kvs : List (PD × PD)) (b : PD) : Bool := match kvs with
  | [] => false
  | (k, _) :: _ => (isKd k && isKd b) || (isKt k && isKt b)
theorem okKind_or {kvs : List (PD × PD)} {b : PD} (h : okKind kvs b = true) : (isKd b || isKt b) = true := by
  unfold okKind at h
  split at h
  · cases h
  · simp only [Bool.or_eq_true, Bool.and_eq_true] at h ⊢
    rcases h with h | h
    · exact .inl h.2
    · exact .inr h.2
theorem kt_kd {d : PD} {k : List Key} (h : FS.keyT d = some k) : FS.keyD d = none := by
  cases q : FS.keyD d with
  | none => rfl
  | some x => rw [kd_kt q] at h; cases h
theorem FzD.kind {b : PD} : ∀ {kvs : List (PD × PD)} {kw : List (Key × V)}, FzD K H z kvs kw → okKind kvs b = true → isKd b = true
  | _, _, .nil, h => by cases h
  | (k, _) :: _, _, .cons e f r, h => by
    unfold okKind at h
    have : isKt k = false := by unfold isKt; rw [kd_kt e]; rfl
    simp only [this, Bool.false_and, Bool.or_false, Bool.and_eq_true] at h
    exact h.2
theorem FzT.kind {b : PD} : ∀ {kvs : List (PD × PD)} {kw : List (List Key × V)}, FzT K H z kvs kw → okKind kvs b = true → isKt b = true ∧ isKd b = false
  | _, _, .nil, h => by cases h
  | (k, _) :: _, _, .cons e f r, h => by
    unfold okKind at h
    have : isKd k = false := by unfold isKd; rw [kt_kd e]; rfl
    simp only [this, Bool.false_and, Bool.false_or, Bool.and_eq_true] at h
    refine ⟨h.2, ?_⟩
    obtain ⟨x, hx⟩ := Option.isSome_iff_exists.mp h.2
    unfold isKd
    rw [kt_kd hx]; rfl
theorem Fz.dgetO {kvs : List (PD × PD)} {b : PD} {v u : V} (f : Fz K H z (.dict kvs) v) (g : Fz K H z b u) (hk : okKind kvs b = true) : ∃ a o, v = .ref a ∧ DGet H a u o ∧ o.isSome = (getD' kvs b).isSome := by
  cases e : getD' kvs b with
  | some d =>
    obtain ⟨a, w, h1, h2, _⟩ := f.dget g e (okKind_or hk)
    exact ⟨a, some w, h1, h2, rfl⟩
  | none =>
    unfold getD' at e
    cases f with
    | dik q hr fd =>
      have hb := fd.kind hk
      rw [if_pos hb] at e
      obtain ⟨k', hk'⟩ := Option.isSome_iff_exists.mp hb
      rcases fd.get hk' with ⟨d', w, e1, e2, e3⟩ | ⟨_, e2⟩
      · rw [e] at e1; cases e1
      · exact ⟨_, none, rfl, .inl ⟨_, k', hr, g.keyD hk', e2.symm⟩, rfl⟩
    | dit q hr fd =>
      obtain ⟨ht, hb⟩ := fd.kind hk
      rw [if_neg (by rw [hb]; decide)] at e
      obtain ⟨k', hk'⟩ := Option.isSome_iff_exists.mp ht
      rcases fd.get hk' with ⟨d', w, e1, e2, e3⟩ | ⟨_, e2⟩
      · rw [e] at e1; cases e1
      · obtain ⟨p, rfl, hp⟩ := g.keyT hk'
        exact ⟨_, none, rfl, .inr ⟨_, k', p, hr, rfl, hp, e2.symm⟩, rfl⟩
def eDi (n : Bool → Bool) (F G : EF) : EF := fun δ => (F δ).p fun b δ1 => (G δ1).p fun a δ2 => match a with
  | .dict kvs => if okKind kvs b then .ok (.fz (.bool (n (getD' kvs b).isSome))) δ2 else .bad
  | _ => .bad
theorem di_core {F G : EF} {Q : VK} {n : Bool → Bool} (h : tD K tb W (eDi n F G) σ H Q) : (tD K tb W F) σ H fun y H1 => (tD K tb W G) σ H1 fun x H2 => ∃ p o, x = .ref p ∧ DGet H2 p y o ∧ Q (.bl (n o.isSome)) H2 := by
  obtain ⟨δ, z, c, hE, w, h⟩ := h
  refine go_P hE w h fun b δ1 u H1 z1 c1 hE1 f1 w1 s1 h1 => ?_
  refine go_P hE1 w1 h1 fun d δ2 v H2 z2 c2 hE2 f2 w2 s2 h2 => ?_
  cases d with
  | dict kvs =>
    have h2 : Out K tb W H2 z2 c2 σ (if okKind kvs b then .ok (.fz (.bool (n (getD' kvs b).isSome))) δ2 else .bad) Q := h2
    by_cases hk : okKind kvs b = true
    case neg => rw [if_neg hk] at h2; exact h2.elim
    rw [if_pos hk] at h2
    obtain ⟨p, o, ev, g, eo⟩ := f2.dgetO (s2.fz w1 f1) hk
    refine ⟨p, o, ev, g, ?_⟩
    rw [eo]
    exact Out.const hE2 w2 (.bl _) h2
  | _ => exact h2.elim
theorem de_din {a b : Expr} {F G : EF} {pos : Pos} (hu : X.A.units + 64 < cLine) (ha : DE tb W X a F) (hb : DE tb W X b G) (h1 : behindInMarks .In b = false) : DE tb W X (.Compare a [.In] [b] pos) (eDi id F G) :=
  (pe_cmp (pc_din (by omega) ha hb) h1).wk fun σ H Q h => di_core h
theorem de_dnin {a b : Expr} {F G : EF} {pos : Pos} (hu : X.A.units + 64 < cLine) (ha : DE tb W X a F) (hb : DE tb W X b G) (h1 : behindInMarks .NotIn b = false) : DE tb W X (.Compare a [.NotIn] [b] pos) (eDi not F G) :=
  (pe_cmp (pc_dnotin (by omega) ha hb) h1).wk fun σ H Q h => di_core h
theorem dt_din {a b : Expr} {F G : EF} {pos : Pos} (hu : X.A.units + 64 < cLine) (ha : DE tb W X a F) (hb : DE tb W X b G) (h1 : behindInMarks .In b = false) : DT tb W X (.Compare a [.In] [b] pos) (tE (eDi id F G)) :=
  (pt_cmp (pc_din (by omega) ha hb) h1).wk fun σ H Q h => by
    unfold tB
    exact di_core (Q := fun x H' => ∃ k, x = .bl k ∧ Q k H') (test_of h)
theorem dt_dnin {a b : Expr} {F G : EF} {pos : Pos} (hu : X.A.units + 64 < cLine) (ha : DE tb W X a F) (hb : DE tb W X b G) (h1 : behindInMarks .NotIn b = false) : DT tb W X (.Compare a [.NotIn] [b] pos) (tE (eDi not F G)) :=
  (pt_cmp (pc_dnotin (by omega) ha hb) h1).wk fun σ H Q h => by
    unfold tB
    exact di_core (Q := fun x H' => ∃ k, x = .bl k ∧ Q k H') (test_of h)
/-! ### len(d) -/
def gLenD : PD → Option M
  | .dict kvs => some (.fz (.int (kvs.length : Nat)))
  | _ => none
theorem FzD.len : ∀ {a : List (PD × PD)} {b : List (Key × V)}, FzD K H z a b → a.length = b.length
  | _, _, .nil => rfl
  | _, _, .cons _ _ r => congrArg (· + 1) (FzD.len r)
theorem FzT.len : ∀ {a : List (PD × PD)} {b : List (List Key × V)}, FzT K H z a b → a.length = b.length
  | _, _, .nil => rfl
  | _, _, .cons _ _ r => congrArg (· + 1) (FzT.len r)
/-! ### d[k] = e -/
theorem _root_.L2.Inv.reT {pins : List (Addr × Obj)} {s : Shared} {a : Addr} (I : Inv X pins σ H s) (e : H a = some (.dK [])) : Inv X pins σ (upd H a (.dT [])) s := by
  obtain ⟨_, hs, vs, rel, o, es, ep, h1, h2, h3, _, h5, _⟩ := dk_of I.hok e
  cases rel
  have he : es.toList = [] := by cases hh : es.toList with
    | nil => rfl
    | cons x r => rw [hh] at h5; cases h5
  have J := Inv.write (x := a) (e := a) (o := .dT []) (h' := s.heap) (t' := s.toks) I (by rw [e]; exact True.intro) (.inl rfl) (fun b u _ q => q) ⟨o, h1⟩ ⟨Nat.zero_le _, hs, [], .nil, o, es, ep, h1, h2, h3, he, List.nodup_nil⟩
  exact J
theorem _root_.L2.Inv.reK {pins : List (Addr × Obj)} {s : Shared} {a : Addr} (I : Inv X pins σ H s) (e : H a = some (.dT [])) : Inv X pins σ (upd H a (.dK [])) s := by
  obtain ⟨_, hs, xs, rel, o, es, ep, h1, h2, h3, h4, _⟩ := (show ObjOk X.prog X.w H s.heap a (.dT []) from I.hok a _ e)
  cases rel
  have he : es.toList = [] := h4
  have he2 : es = #[] := by cases es; simp at he; rw [he]
  subst he2
  have J := Inv.write (x := a) (e := a) (o := .dK []) (h' := s.heap) (t' := s.toks) I (by rw [e]; exact True.intro) (.inl rfl) (fun b u _ q => q) ⟨o, h1⟩ ⟨Nat.zero_le _, hs, [], .nil, o, #[], ep, h1, h2, h3, (fun x hx => by simp at hx), .nil, List.nodup_nil⟩
  exact J
def Retype (H : Hp) (a : Addr) (H' : Hp) : Prop := H' = H ∨ (H a = some (.dK []) ∧ H' = upd H a (.dT [])) ∨ (H a = some (.dT []) ∧ H' = upd H a (.dK []))
def sDPut2 (td ty tv : TE) : TS := fun D σ H => tv σ H fun v H1 => td σ H1 fun x H2 => ty σ H2 fun y H3 => ∃ a H4 H5, x = .ref a ∧ Retype H3 a H4 ∧ DPut H4 a y v H5 ∧ D.nx σ H5
theorem ps_dput2 {o i value : Expr} {pos pos' : Pos} {td ty tv : TE} (hu : X.A.units + 1 < cLine) (ho : PE X o td) (hi : PE X i ty) (hv : PE X value tv) (hs : swapsWith value (some (.Subscript o i pos')) pos.line X.env = pure false) :
    PS X (.Assign [.Subscript o i pos'] value pos) (sDPut2 td ty tv) := by
  refine ⟨fun pins s σ H D I h => ?_⟩
  refine PySem.wpAny_Assign_Subscript (thn (hv.run pins s σ H _ I h) fun r s1 ⟨v, H1, I1, rv, q1⟩ => thn (ho.run pins s1 σ H1 _ I1 q1) fun u s2 ⟨x, H2, I2, rx, q2⟩ => thn (hi.run pins s2 σ H2 _ I2 q2) fun iv s3 ⟨y, H3, I3, ry, a, H4, H5, ex, rt, g, q3⟩ => ?_) hs
  subst ex
  obtain rfl : u = Value.ref a := rx
  have I4 : Inv X pins σ H4 s3 := by
    rcases rt with rfl | ⟨e, rfl⟩ | ⟨e, rfl⟩
    · exact I3
    · exact I3.reT e
    · exact I3.reK e
  exact d_setItem hu I4 g ry rv fun s4 I4 => ⟨σ, H5, I4, q3⟩
def R.ps (r : R M) (f : PD → Env' → SR) : SR := match r with
  | .ok (.v l) δ => f l.pd δ
  | .ok _ _ => .bad
  | .ex n δ => .ex n δ
  | .bad => .bad
theorem go_SP {F : EF} {f : PD → Env' → SR} {Q1 : VK} (hp : pinOk pin σ) (hE : RpE K tb H z δ σ c) (w : Wf H z c) (h : OutS K tb pin W H z c ((F δ).ps f) D)
    (k : ∀ d δ1 v H1 z1 c1, RpE K tb H1 z1 δ1 σ c1 → Fz K H1 z1 d v → Wf H1 z1 c1 → Step H z c H1 z1 c1 → OutS K tb pin W H1 z1 c1 (f d δ1) D → Q1 v H1) : tD K tb W F σ H Q1 := by
  refine ⟨δ, z, c, hE, w, ?_⟩
  cases e : F δ with
  | ok m δ1 =>
    rw [e] at h
    cases m with
    | v l =>
      intro v H' a
      obtain ⟨z1, c1, h1, h2, h3, h4⟩ := AftE.toP a
      exact k l.pd δ1 v H' z1 c1 h1 h2 h3 h4 (OutS.step h4 h3 h)
    | o own t fs => exact h.elim
  | ex n δ1 => rw [e] at h; exact fun H' a => h σ H' ⟨hp, a⟩
  | bad => rw [e] at h; exact h.elim
theorem own_dic {i : Nat} {kvs : List (PD × PD)} (hE : RpE K tb H z δ σ c) (hi : δ[i]? = some (some (.v (.dic kvs)))) :
    ∃ a cr, σ[i]? = some (some (.ref a)) ∧ ((∃ kw, H a = some (.dK kw) ∧ FzD K H z kvs kw) ∨ ∃ kw, H a = some (.dT kw) ∧ FzT K H z kvs kw) ∧ (∀ b, c b = one a b + cr b) ∧ RpE K tb H z (δ.set i none) σ cr := by
  obtain ⟨v, c1, c2, e1, e2, e3, e4⟩ := hE.get hi
  cases e2 with
  | v r =>
    cases r with
    | dik h r e => exact ⟨_, c2, e1, .inl ⟨_, h, r⟩, fun b => by rw [e3, e], e4⟩
    | dit h r e => exact ⟨_, c2, e1, .inr ⟨_, h, r⟩, fun b => by rw [e3, e], e4⟩
def dpK (i : Nat) (d kd : PD) (δ : Env') : SR := match δ[i]? with
  | some (some (.v (.dic kvs))) => if ((kvs.isEmpty && (isKd kd || isKt kd)) || okKind kvs kd) && decide (kvs.length < big) then .nx (δ.set i (some (.dic (putD kvs kd d)))) else .bad
  | _ => .bad
def sDp (i : Nat) (Fi Fv : EF) : SF := fun δ => (Fv δ).ps fun d δ1 => match δ1[i]? with
  | some (some _) => (Fi δ1).ps fun kd δ2 => dpK i d kd δ2
  | _ => .bad
theorem FzD.step {s : Step H z c H' z' c'} (w : Wf H z c) {a : List (PD × PD)} {b : List (Key × V)} (h : FzD K H z a b) : FzD K H' z' a b := h.mono s.zin (s.on w)
theorem upd_upd {H : Hp} {a : Addr} {x y : HO} : upd (upd H a x) a y = upd H a y := by
  funext b
  by_cases h : b = a
  · subst h; rw [upd_same, upd_same]
  · rw [upd_ne h, upd_ne h, upd_ne h]
theorem ds_dput {ix e o : Expr} {i : Nat} {Fi Fv : EF} {pos spos : Pos} (hu : X.A.units + 64 < cLine) (hv : DE tb W X e Fv) (ho : PE X o (tVar i)) (hi : DE tb W X ix Fi) (hs : swapsWith e (some (.Subscript o ix spos)) pos.line X.env = pure false := by rfl) :
    DS tb pin W X (.Assign [.Subscript o ix spos] e pos) (sDp i Fi Fv) :=
  (ps_dput2 (by omega) ho hi hv hs).wk fun D σ H ⟨hp, δ, z, c, hE, w, h⟩ => by
    unfold sDp at h
    refine go_SP hp hE w h fun d δ1 v H1 z1 c1 hE1 f1 w1 s1 h1 => ?_
    cases q1 : δ1[i]? with
    | none => rw [q1] at h1; exact h1.elim
    | some o1 =>
      rw [q1] at h1
      cases o1 with
      | none => exact h1.elim
      | some m1 =>
        dsimp only at h1
        obtain ⟨x, ev⟩ := hE1.getV q1
        refine ⟨x, ev, ?_⟩
        refine go_SP hp hE1 w1 h1 fun kd δ2 y H2 z2 c2 hE2 f2 w2 s2 h2 => ?_
        unfold dpK at h2
        cases q2 : δ2[i]? with
        | none => rw [q2] at h2; exact h2.elim
        | some o2 =>
          rw [q2] at h2
          cases o2 with
          | none => exact h2.elim
          | some m2 =>
            cases m2 with
            | o _ _ _ => exact h2.elim
            | v l2 =>
              cases l2 with
              | fz _ => exact h2.elim
              | lst _ => exact h2.elim
              | dic kvs =>
                dsimp only at h2
                by_cases hk : (((kvs.isEmpty && (isKd kd || isKt kd)) || okKind kvs kd) && decide (kvs.length < big)) = true
                case neg => rw [if_neg hk] at h2; exact h2.elim
                rw [if_pos hk] at h2
                have hk' := Bool.and_eq_true_iff.mp hk
                have hl : kvs.length < big := of_decide_eq_true hk'.2
                obtain ⟨a, cr, ev2, hd, hc, hE3⟩ := own_dic hE2 q2
                rw [ev] at ev2
                cases ev2
                have fd := s2.fz w1 f1
                have za : ∀ b, z2 b → b ≠ a := fun b q e => by
                  have := w2.zc b q
                  rw [hc, e, one_self] at this; omega
                have ca : ∀ b, 0 < cr b → b ≠ a := fun b q e => by
                  have := w2.c1 a
                  rw [hc, one_self] at this
                  rw [e] at q; omega
                -- the end: any node at a that stands for the new dict
                have fin : ∀ u : HO, Mut (some u) → (∀ H5 : Hp, H5 = upd H2 a u → RpL X.K H5 z2 (.dic (putD kvs kd d)) (.ref a) (one a)) → D.nx σ (upd H2 a u) := fun u mu hr => by
                  have hE4 := hE3.mono (H' := upd H2 a u) (fun _ q => q) (fun b q => upd_ne (za b q)) fun b q => upd_ne (ca b q)
                  have hE5 := RpE.put hE4 (lt_of_get q2) ev (.v (hr _ rfl))
                  obtain ⟨w3, s3⟩ := Wf.upd (o := u) w2 (show 0 < c2 a by rw [hc, one_self]; omega) mu
                  exact h2 σ _ ⟨hp, z2, _, hE5, w3.congr hc, s3.congr (fun _ => rfl) hc⟩
                have mono : ∀ (u : HO) {d : PD} {v : V}, Fz X.K H2 z2 d v → Fz X.K (upd H2 a u) z2 d v := fun u {d v} f => f.mono (fun _ q => q) fun b q => upd_ne (za b q)
                have monoD : ∀ (u : HO) {a' : List (PD × PD)} {b' : List (Key × V)}, FzD X.K H2 z2 a' b' → FzD X.K (upd H2 a u) z2 a' b' := fun u {a' b'} f => f.mono (fun _ q => q) fun b q => upd_ne (za b q)
                have monoT : ∀ (u : HO) {a' : List (PD × PD)} {b' : List (List Key × V)}, FzT X.K H2 z2 a' b' → FzT X.K (upd H2 a u) z2 a' b' := fun u {a' b'} f => f.mono (fun _ q => q) fun b q => upd_ne (za b q)
                have hcons : kvs ≠ [] → okKind kvs kd = true := fun hne => by
                  have := hk'.1
                  cases kvs with
                  | nil => exact absurd rfl hne
                  | cons x r => simpa using this
                by_cases hkd : isKd kd = true
                · obtain ⟨k', hk1⟩ := Option.isSome_iff_exists.mp hkd
                  have ep : putD kvs kd d = putDk FS.keyD kvs kd d := by unfold putD; rw [if_pos hkd]
                  have yk := f2.keyD hk1
                  -- a dK node
                  have go : ∀ kw, FzD X.K H2 z2 kvs kw → D.nx σ (upd H2 a (.dK (putK kw k' v))) := fun kw fkw => fin _ trivial fun H5 e5 => by
                    subst e5
                    rw [ep]
                    exact .dik upd_same (monoD _ (fkw.put hk1 fd)) fun _ => rfl
                  rcases hd with ⟨kw, hH, fkw⟩ | ⟨kw, hH, fkw⟩
                  · exact ⟨a, H2, _, rfl, .inl rfl, .inl ⟨kw, k', hH, yk, by rw [← fkw.len, big_eq]; exact hl, rfl⟩, go kw fkw⟩
                  · cases fkw with
                    | nil =>
                      refine ⟨a, _, _, rfl, .inr (.inr ⟨hH, rfl⟩), .inl ⟨[], k', upd_same, yk, by rw [big_eq]; decide, rfl⟩, ?_⟩
                      rw [upd_upd]
                      exact go [] .nil
                    | cons e f r =>
                      exfalso
                      have := (FzT.cons e f r).kind (hcons (by intro q; cases q))
                      rw [hkd] at this
                      exact Bool.noConfusion this.2
                · have hkt : isKt kd = true := by
                    have h3 := hk'.1
                    rcases Bool.or_eq_true_iff.mp h3 with h3 | h3
                    · have := (Bool.and_eq_true_iff.mp h3).2
                      simpa [hkd] using this
                    · have := okKind_or h3
                      simpa [hkd] using this
                  obtain ⟨k', hk1⟩ := Option.isSome_iff_exists.mp hkt
                  have ep : putD kvs kd d = putDk FS.keyT kvs kd d := by unfold putD; rw [if_neg hkd]
                  obtain ⟨p, yp, hp2⟩ := f2.keyT hk1
                  have pa : p ≠ a := fun e => by
                    rcases hd with ⟨kw, hH, _⟩ | ⟨kw, hH, _⟩ <;> (rw [← e, hp2] at hH; cases hH)
                  have go : ∀ kw, FzT X.K H2 z2 kvs kw → D.nx σ (upd H2 a (.dT (putK kw k' v))) := fun kw fkw => fin _ trivial fun H5 e5 => by
                    subst e5
                    rw [ep]
                    exact .dit upd_same (monoT _ (fkw.put hk1 fd)) fun _ => rfl
                  rcases hd with ⟨kw, hH, fkw⟩ | ⟨kw, hH, fkw⟩
                  · cases fkw with
                    | nil =>
                      refine ⟨a, _, _, rfl, .inr (.inl ⟨hH, rfl⟩), .inr ⟨[], k', p, upd_same, yp, (upd_ne pa).trans hp2, by rw [big_eq]; decide, rfl⟩, ?_⟩
                      rw [upd_upd]
                      exact go [] .nil
                    | cons e f r =>
                      exfalso
                      exact hkd ((FzD.cons e f r).kind (hcons (by intro q; cases q)))
                  · exact ⟨a, H2, _, rfl, .inl rfl, .inr ⟨kw, k', p, hH, yp, hp2, by rw [← fkw.len, big_eq]; exact hl, rfl⟩, go kw fkw⟩
end
end FS
namespace FS
open PySem PySem.Spec L2
/-! ### instances -/
section
variable {K : PySem.W.Frag} {tb : Nat → Addr} {pin : List (Nat × V)} {W : WX} {H H' H1 : Hp} {z z' z1 : Zn} {c c' c1 : Ct} {σ σ1 : St} {δ δ' : Env'} {X : Cx} {D : Ends}
variable {a b e o : Expr} {F G : EF} {pos p p2 q apos : Pos} {i t : Nat} {es : List Expr} {A : AF} {ps : List Str} {sem : Sem} {k j : Nat} {x m f : Str}
structure CalM (P : Program) (w : World) (K : PySem.W.Frag) (mg : Str → Option Value) (base : Heap) (tb : Nat → Addr) (k : Nat) (t : Nat) (m : Str) (ps : List Str) (sem : Sem) : Prop where
  ex : ∃ f fd, FnOk P w K mg base (L2.CX P w) k f fd ps (spD K tb ps.length sem) ∧ Meth K (tb t) m f ∧ Binds K fd ps []
structure CalI (P : Program) (w : World) (K : PySem.W.Frag) (mg : Str → Option Value) (base : Heap) (tb : Nat → Addr) (k : Nat) (t : Nat) (x : Str) (ps : List Str) (sem : Sem) : Prop where
  ex : ∃ f fd, FnOk P w K mg base (L2.CX P w) k f fd ps (spD K tb ps.length sem) ∧ Mk K (tb t) f ∧ mg x = some (.ref (tb t)) ∧ Binds K fd ps []
theorem RpF.lookup {f : Str} {l : L} : ∀ {fs : List (Str × L)} {fv : List (Str × V)} {c : Ct}, RpF K H z fs fv c → fs.lookup f = some l → ∃ v cl, fv.lookup f = some v ∧ RpL K H z l v cl ∧ ∀ a, cl a ≤ c a
  | _, _, _, .nil _, h => by cases h
  | _, _, _, .cons (f := g) (c1 := c1) (c2 := c2) hl r e, h => by
    rw [List.lookup_cons] at h ⊢
    cases q : f == g with
    | true =>
      rw [q] at h
      dsimp only at h ⊢
      cases h
      exact ⟨_, c1, rfl, hl, fun a => by rw [e]; omega⟩
    | false =>
      rw [q] at h
      obtain ⟨v, cl, h1, h2, h3⟩ := RpF.lookup r h
      exact ⟨v, cl, h1, h2, fun a => by have := h3 a; rw [e]; omega⟩
theorem RpF.none {f : Str} : ∀ {fs : List (Str × L)} {fv : List (Str × V)} {c : Ct}, RpF K H z fs fv c → fs.lookup f = none → fv.lookup f = none
  | _, _, _, .nil _, _ => rfl
  | _, _, _, .cons (f := g) hl r e, h => by
    rw [List.lookup_cons] at h ⊢
    cases q : f == g with
    | true => rw [q] at h; cases h
    | false => rw [q] at h; exact RpF.none r h
theorem RpF.len : ∀ {fs : List (Str × L)} {fv : List (Str × V)} {c : Ct}, RpF K H z fs fv c → fs.length = fv.length
  | _, _, _, .nil _ => rfl
  | _, _, _, .cons _ r _ => congrArg (· + 1) (RpF.len r)
def putL (f : Str) (l : L) : List (Str × L) → List (Str × L)
  | [] => [(f, l)]
  | (g, x) :: r => if g = f then (g, l) :: r else (g, x) :: putL f l r
theorem RpF.put {f : Str} {l : L} {v : V} {cm : Ct} (hl : RpL K H z l v cm) : ∀ {fs : List (Str × L)} {fv : List (Str × V)} {c : Ct}, RpF K H z fs fv c → ∃ c', RpF K H z (putL f l fs) (putF f v fv) c' ∧ ∀ a, c' a ≤ c a + cm a
  | _, _, c, .nil e => ⟨fun a => cm a + zero a, .cons hl (.nil fun _ => rfl) fun _ => rfl, fun a => by show cm a + 0 ≤ _; omega⟩
  | _, _, c, .cons (f := g) (c1 := c1) (c2 := c2) h r e => by
    unfold putL putF
    by_cases q : g = f
    · rw [if_pos q, if_pos q]
      exact ⟨fun a => cm a + c2 a, .cons hl r fun _ => rfl, fun a => by have := e a; show cm a + c2 a ≤ _; omega⟩
    · rw [if_neg q, if_neg q]
      obtain ⟨c', h1, h2⟩ := RpF.put hl r
      exact ⟨fun a => c1 a + c' a, .cons h h1 fun _ => rfl, fun a => by have := e a; have := h2 a; show c1 a + c' a ≤ _; omega⟩
/-! e.f -/
def eFld (t : Nat) (f : Str) (F : EF) : EF := fun δ => match F δ with
  | .ok (.o _ t' fs) δ1 => if t' = t then (match fs.lookup f with
    | some l => .ok (.fz l.pd) δ1
    | none => .bad) else .bad
  | .ex n δ1 => .ex n δ1
  | _ => .bad
theorem frzF_lookup {f : Str} : ∀ {fs : List (Str × L)}, (L.frzF fs).lookup f = (fs.lookup f).map fun l => L.fz l.pd
  | [] => rfl
  | (g, l) :: r => by
    unfold L.frzF
    rw [List.lookup_cons, List.lookup_cons]
    cases f == g with
    | true => rfl
    | false => exact frzF_lookup
theorem de_fld (he : DE tb W X e F) (cl : Cls X.K (tb t)) (na : NoAttr X.K (tb t) f) (hb : attributeBase e f X.env (eval e X.env) = eval e X.env := by rfl) : DE tb W X (.Attribute e f pos) (eFld t f F) :=
  (pe_fld he hb).wk fun σ H Q ⟨δ, z, c, hE, w, h⟩ => by
    refine ⟨δ, z, c, hE, w, ?_⟩
    unfold eFld at h
    cases e1 : F δ with
    | bad => rw [e1] at h; exact h.elim
    | ex n δ1 => rw [e1] at h; exact h
    | ok m δ1 =>
      rw [e1] at h
      cases m with
      | v l => exact h.elim
      | o own t' fs =>
        dsimp only at h
        intro v H' aft
        by_cases ht : t' = t
        case neg => rw [if_neg ht] at h; exact h.elim
        rw [if_pos ht] at h
        subst ht
        obtain ⟨z1, c1, hE1, hR, w1, s1⟩ := aft.frzM
        cases el : fs.lookup f with
        | none => rw [el] at h; exact h.elim
        | some l =>
          rw [el] at h
          cases hR with
          | fin hz hH hF e0 e0' =>
            rename_i a dx fv c'
            have hlk : (L.frzF fs).lookup f = some (.fz l.pd) := by rw [frzF_lookup, el]; rfl
            obtain ⟨y, cy, h1, h2, h3⟩ := hF.lookup hlk
            cases h2 with
            | fz hf _ => exact ⟨a, _, dx, fv, y, rfl, hH, cl, na, h1, h y H' (AftP.toE ⟨z1, c1, hE1, hf, w1, s1⟩)⟩
/-! self.f = e -/
theorem own_ins {own : Bool} {t : Nat} {fs : List (Str × L)} (hE : RpE K tb H z δ σ c) (hi : δ[i]? = some (some (.o own t fs))) :
    ∃ a dx fv cf, σ[i]? = some (some (.ref a)) ∧ H a = some (.ins (tb t) dx fv) ∧ RpF K H z fs fv cf := by
  obtain ⟨v, c1, c2, e1, e2, e3, e4⟩ := hE.get hi
  cases e2 with
  | ins h r e => exact ⟨_, _, _, _, e1, h, r⟩
  | fin q h r e e' => exact ⟨_, _, _, _, e1, h, r⟩
theorem own_insT {t : Nat} {fs : List (Str × L)} (hE : RpE K tb H z δ σ c) (hi : δ[i]? = some (some (.o true t fs))) :
    ∃ a dx fv cf cr, σ[i]? = some (some (.ref a)) ∧ H a = some (.ins (tb t) dx fv) ∧ RpF K H z fs fv cf ∧ (∀ b, c b = one a b + cf b + cr b) ∧ RpE K tb H z (δ.set i none) σ cr := by
  obtain ⟨v, c1, c2, e1, e2, e3, e4⟩ := hE.get hi
  cases e2 with
  | ins h r e => exact ⟨_, _, _, _, c2, e1, h, r, fun b => by rw [e3, e], e4⟩
theorem own_putI {a dx : Addr} {fs : List (Str × L)} {fv : List (Str × V)} {cf cr : Ct} (hl : i < δ.length) (hv : σ[i]? = some (some (.ref a))) (hA : RpF K H z fs fv cf) (hE : RpE K tb H z (δ.set i none) σ cr)
    (w : Wf H z fun b => one a b + cf b + cr b) : RpE K tb (upd H a (.ins (tb t) dx fv)) z (δ.set i (some (.o true t fs))) σ fun b => one a b + cf b + cr b := by
  have c0 : one a a + cf a + cr a ≤ 1 := w.c1 a
  have z0 : ∀ b, z b → b ≠ a := fun b q e => by
    have h : one a b + cf b + cr b = 0 := w.zc b q
    rw [e, one_self] at h
    omega
  rw [one_self] at c0
  have nca : ∀ b, 0 < cf b → b ≠ a := fun b q e => by rw [e] at q; omega
  have ncr : ∀ b, 0 < cr b → b ≠ a := fun b q e => by rw [e] at q; omega
  have hE' := hE.mono (H' := upd H a (.ins (tb t) dx fv)) (fun _ q => q) (fun b q => upd_ne (z0 b q)) fun b q => upd_ne (ncr b q)
  have hA' := hA.mono (H' := upd H a (.ins (tb t) dx fv)) (fun _ q => q) (fun b q => upd_ne (z0 b q)) fun b q => upd_ne (nca b q)
  exact RpE.put hE' hl hv (.ins upd_same hA' fun _ => rfl)
def fsK (t i : Nat) (f : Str) (l : L) (o : Option (Option M)) (δ : Env') : SR := match o with
  | some (some (.o true t' fs)) => if t' = t ∧ fs.length < 900 then .nx (δ.set i (some (.o true t (putL f l fs)))) else .bad
  | _ => .bad
def sFs (t i : Nat) (f : Str) (F : EF) : SF := fun δ => (F δ).s fun m δ1 => match m with
  | .v l => fsK t i f l δ1[i]? δ1
  | _ => .bad
theorem ds_fset {pos' : Pos} (hv : DE tb W X e F) (ho : PE X o (tVar i)) (cl : Cls X.K (tb t)) (na : NoAttr X.K (tb t) f) (hs : swapsWith e (some (.Attribute o f pos')) pos.line X.env = pure false := by rfl) :
    DS tb pin W X (.Assign [.Attribute o f pos'] e pos) (sFs t i f F) :=
  (ps_fld ho hv hs).wk fun D σ H ⟨hp, δ, z, c, hE, w, h⟩ => by
    unfold sFs at h
    refine go_S hp hE w h fun m δ1 v H1 z1 c1 cm hE1 r1 w1 s1 h1 => ?_
    cases m with
    | o _ _ _ => exact h1.elim
    | v l =>
      dsimp only at h1
      unfold fsK at h1
      split at h1
      · rename_i t' fs q1
        by_cases hc : t' = t ∧ fs.length < 900
        case neg => rw [if_neg hc] at h1; exact h1.elim
        rw [if_pos hc] at h1
        obtain ⟨rfl, hlen⟩ := hc
        obtain ⟨a, dx, fv, cf, cr, ev, hH, hF, hcc, hE2⟩ := own_insT hE1 q1
        have rl : RpL X.K H1 z1 l v cm := by cases r1 with | v r => exact r
        obtain ⟨cf', hF2, hc2⟩ := hF.put (f := f) rl
        have w2 : Wf H1 z1 fun b => one a b + cf' b + cr b := w1.mono fun b => by have := hcc b; have := hc2 b; show _ ≤ c1 b + cm b; omega
        have hE3 := own_putI (dx := dx) (t := t') (lt_of_get q1) ev hF2 hE2 w2
        have pa : 0 < one a a + cf' a + cr a := by rw [one_self]; omega
        obtain ⟨w3, s3⟩ := Wf.upd (o := .ins (tb t') dx (putF f v fv)) w2 pa trivial
        refine ⟨.ref a, ev, a, _, dx, fv, rfl, hH, cl, na, by rw [← hF.len]; omega, ?_⟩
        exact h1 σ _ ⟨hp, z1, _, hE3, w3, ((Step.refl H1 z1 fun b => c1 b + cm b).mono fun b => by have := hcc b; have := hc2 b; show one a b + cf' b + cr b ≤ c1 b + cm b; omega).trans w2 s3⟩
      · exact h1.elim
end
end FS
namespace FS
open PySem PySem.Spec L2
section
variable {K : PySem.W.Frag} {tb : Nat → Addr} {pin : List (Nat × V)} {W : WX} {H H' H1 : Hp} {z z' z1 : Zn} {c c' c1 : Ct} {σ σ1 : St} {δ δ' : Env'} {X : Cx} {D : Ends}
variable {a b e o : Expr} {F G : EF} {pos p p2 q apos : Pos} {i t : Nat} {es : List Expr} {A : AF} {ps : List Str} {sem : Sem} {k j n : Nat} {x m f : Str} {np : Nat}
/-! ### calls that raise nothing -/
def eClN (sem : Sem) (A : AF) : EF := fun δ => (A δ).bind fun as δ1 => match takeA as δ1 with
  | none => .bad
  | some p => match sem p.1 with
    | .ret m ms' => .ok m (putA as ms' p.2)
    | _ => .bad
theorem callN_of {Q : VK} (h : tD K tb W (eClN sem A) σ H Q) (hnp : ∀ as δ δ1 p, A δ = .ok as δ1 → takeA as δ1 = some p → p.1.length = np) : tA K tb W A σ H fun vs H1 => spD K tb np sem (vs ++ []) H1 Q E0 := by
  obtain ⟨δ, z, c, hE, w, h⟩ := h
  refine ⟨δ, z, c, hE, w, ?_⟩
  unfold eClN at h
  cases e1 : A δ with
  | bad => rw [e1] at h; exact h
  | ex n δ1 => rw [e1] at h; exact h
  | ok as δ1 =>
    rw [e1] at h
    intro vs H1 z1 c1 hE1 g1 w1 s1
    have h : Out K tb W H z c σ (match takeA as δ1 with
      | none => .bad
      | some p => match sem p.1 with
        | .ret m ms' => .ok m (putA as ms' p.2)
        | _ => .bad) Q := h
    cases e2 : takeA as δ1 with
    | none => rw [e2] at h; exact h.elim
    | some p =>
      rw [e2] at h
      dsimp only at h
      obtain ⟨ms, δ2⟩ := p
      obtain ⟨cm, c2, hM, hE2, hc, hl⟩ := takeA_of g1 hE1 e2
      have hio : ∀ i, Arg.io i ∈ as → i < δ2.length := fun i hi => by rw [hl]; exact takeA_io e2 i hi
      have w2 : Wf H1 z1 (fun a => cm a + c2 a) := w1.congr hc
      have wm : Wf H1 z1 cm := w2.mono fun a => Nat.le_add_right _ _
      rw [List.append_nil]
      refine ⟨ms, z1, cm, hM, wm, hnp as δ δ1 _ e1 e2, ?_⟩
      have s1' : Step H z c H1 z1 (fun a => cm a + c2 a) := s1.congr (fun _ => rfl) hc
      cases e3 : sem ms with
      | bad => rw [e3] at h; exact h
      | ret m ms' =>
        rw [e3] at h
        intro v H' z' c' cr hM' hR' w' s'
        obtain ⟨k, wt, st⟩ := Step.frame w2 w' s'
        have hE' := hE2.mono s'.zin (s'.on wm) fun a q => k a q
        obtain ⟨c3, h1, h2, _⟩ := putA_of g1 hM' hE' hio
        have hle : ∀ a, c3 a + cr a ≤ c' a + cr a + c2 a := fun a => by have := h2 a; omega
        exact h v H' ⟨z', c3, cr, h1, hR', wt.mono hle, (s1'.trans w2 st).mono hle⟩
      | ex n ms' => rw [e3] at h; exact h.elim
/-! ### o.m(..) -/
theorem tio_of {i : Nat} {Q : List V → Hp → Prop} (h : tA K tb W (aIo i A) σ H Q) : ∃ v, σ[i]? = some (some v) ∧ tA K tb W A σ H fun vs H1 => Q (v :: vs) H1 := by
  obtain ⟨δ, z, c, hE, w, h⟩ := h
  unfold aIo at h
  cases q : δ[i]? with
  | none => rw [q] at h; exact h.elim
  | some o =>
    rw [q] at h
    cases o with
    | none => exact h.elim
    | some m =>
      obtain ⟨v, c1, c2, e1, _⟩ := hE.get q
      refine ⟨v, e1, δ, z, c, hE, w, ?_⟩
      dsimp only at h
      cases e2 : A δ with
      | ok as δ2 =>
        rw [e2] at h
        exact fun vs H2 z2 c2 hE2 f2 w2 s2 => h (v :: vs) H2 z2 c2 hE2 (.io e1 f2) w2 s2
      | ex n δ2 => rw [e2] at h; exact h
      | bad => rw [e2] at h; exact h
def isO (t : Nat) (m : Str) : Option (Option M) → Bool
  | some (some (.o _ t' fs)) => decide (t' = t) && (fs.lookup m).isNone
  | _ => false
/-- the receiver is lent -/
def eMe (t : Nat) (m : Str) (i : Nat) (sem : Sem) (A : AF) : EF := fun δ => if isO t m δ[i]? then eClN sem (aIo i A) δ else .bad
theorem me_of {Q : VK} (h : tD K tb W (eMe t m i sem A) σ H Q) (hnp : ∀ as δ δ1 p, aIo i A δ = .ok as δ1 → takeA as δ1 = some p → p.1.length = np) :
    tMeth (tb t) m (spD K tb np sem) [] E0 (tVar i) (tA K tb W A) σ H Q := by
  obtain ⟨δ, z, c, hE, w, h⟩ := h
  unfold eMe at h
  by_cases hi : isO t m δ[i]? = true
  case neg => rw [if_neg hi] at h; exact h.elim
  rw [if_pos hi] at h
  have h2 : tD K tb W (eClN sem (aIo i A)) σ H Q := ⟨δ, z, c, hE, w, h⟩
  obtain ⟨v, ev, hA⟩ := tio_of (callN_of h2 hnp)
  refine ⟨v, ev, ?_⟩
  unfold isO at hi
  split at hi
  · rename_i own t' fs q
    have hi' := Bool.and_eq_true_iff.mp hi
    have ht : t' = t := of_decide_eq_true hi'.1
    subst ht
    obtain ⟨a, dx, fv, cf, e1, hH, hF⟩ := own_ins hE q
    rw [ev] at e1
    cases e1
    exact ⟨a, dx, fv, rfl, hH, hF.none (Option.isNone_iff_eq_none.mp hi'.2), hA⟩
  · cases hi
theorem de_meth {pl : PySem.Sem Bool} (C : CalM X.prog X.w X.K X.mg X.base tb k t m ps sem) (cl : Cls X.K (tb t)) (hr : Room j X.A) (ho : PE X o (tVar i)) (ha : DA tb W X (e :: es) A) (hn : ArgN (aIo i A) n) (hkj : k ≤ j := by first | decide | omega) (hps : ps.length = n := by rfl)
    (hst : starEach (e :: es) X.env = (false, eval e X.env) :: starEach es X.env := by rfl) (hpl : (backTo pos (starEach es X.env)).any (·.1) = false := by rfl)
    (ht : eval (.Call (.Attribute o m apos) (e :: es) [] pos) X.env = (do
      let ov ← eval o X.env
      standAt apos.atName
      let (f, first) ← holding [ov] (getMethod ov m pl)
      callWith pos f first (backTo pos (starEach (e :: es) X.env)) (backToKw pos (keywordEach [] X.env))) := by rfl) :
    DE tb W X (.Call (.Attribute o m apos) (e :: es) [] pos) (eMe t m i sem A) := by
  obtain ⟨f, fd, F, hm, hb⟩ := C.ex
  exact (pe_meth (pl := pl) ho cl hm F (hr.mono hkj) hb .nil passL ha hst hpl ht).wk fun σ H Q h => me_of h fun as δ δ1 p e1 e2 => by rw [takeA_len e2, hn _ _ _ e1, hps]
theorem de_meth0 {pl : PySem.Sem Bool} (C : CalM X.prog X.w X.K X.mg X.base tb k t m ps sem) (cl : Cls X.K (tb t)) (hr : Room j X.A) (ho : PE X o (tVar i)) (hkj : k ≤ j := by first | decide | omega) (hps : ps.length = 1 := by rfl)
    (ht : eval (.Call (.Attribute o m apos) [] [] pos) X.env = (do
      let ov ← eval o X.env
      standAt apos.atName
      let (f, first) ← holding [ov] (getMethod ov m pl)
      callWith pos f first (backTo pos (starEach [] X.env)) (backToKw pos (keywordEach [] X.env))) := by rfl) :
    DE tb W X (.Call (.Attribute o m apos) [] [] pos) (eMe t m i sem aN) := by
  obtain ⟨f, fd, F, hm, hb⟩ := C.ex
  refine (pe_meth0 (pl := pl) ho cl hm F (hr.mono hkj) hb .nil passL ht).wk fun σ H Q h => ?_
  obtain ⟨v, ev, a, dx, fs, e1, e2, e3, δ, z, c, hE, w, h4⟩ := me_of (np := 1) h fun as δ δ1 p e1 e2 => by rw [takeA_len e2, argN_io argN_nil _ _ _ e1]
  refine ⟨v, ev, a, dx, fs, e1, e2, e3, ?_⟩
  rw [hps]
  exact h4 [] H z c hE .nil w (Step.refl _ _ _)
theorem RpM.mono (hz : ∀ a, z a → z' a) (hH : ∀ a, z a → H' a = H a) : ∀ {ms : List M} {vs : List V} {c : Ct}, RpM K tb H z ms vs c → (∀ a, 0 < c a → H' a = H a) → RpM K tb H' z' ms vs c
  | _, _, _, .nil e, _ => .nil e
  | _, _, _, .cons h r e, hc => .cons (h.mono hz hH fun a q => hc a (by rw [e]; omega)) (RpM.mono hz hH r fun a q => hc a (by rw [e]; omega)) e
/-! ### C(..) -/
def eMk (t : Nat) (sem : Sem) (A : AF) : EF := fun δ => (A δ).bind fun as δ1 => match takeA as δ1 with
  | none => .bad
  | some p => match sem (.o true t [] :: p.1) with
    | .ret (.v (.fz .none)) (m' :: ms') => .ok m' (putA as ms' p.2)
    | _ => .bad
theorem mk_of {Q : VK} (h : tD K tb W (eMk t sem A) σ H Q) (hnp : ∀ as δ δ1 p, A δ = .ok as δ1 → takeA as δ1 = some p → p.1.length + 1 = np) : tMake (tb t) (spD K tb np sem) [] E0 (tA K tb W A) σ H Q := by
  obtain ⟨δ, z, c, hE, w, h⟩ := h
  refine ⟨δ, z, c, hE, w, ?_⟩
  unfold eMk at h
  cases e1 : A δ with
  | bad => rw [e1] at h; exact h
  | ex n δ1 => rw [e1] at h; exact h
  | ok as δ1 =>
    rw [e1] at h
    intro vs H1 z1 c1 hE1 g1 w1 s1 x dx hx hdx hne
    have h : Out K tb W H z c σ (match takeA as δ1 with
      | none => .bad
      | some p => match sem (.o true t [] :: p.1) with
        | .ret (.v (.fz .none)) (m' :: ms') => .ok m' (putA as ms' p.2)
        | _ => .bad) Q := h
    cases e2 : takeA as δ1 with
    | none => rw [e2] at h; exact h.elim
    | some p =>
      rw [e2] at h
      dsimp only at h
      obtain ⟨ms, δ2⟩ := p
      obtain ⟨cm, c2, hM, hE2, hc, hl⟩ := takeA_of g1 hE1 e2
      have hio : ∀ i, Arg.io i ∈ as → i < δ2.length := fun i hi => by rw [hl]; exact takeA_io e2 i hi
      have w2 : Wf H1 z1 (fun a => cm a + c2 a) := w1.congr hc
      rw [List.append_nil]
      -- the new heap
      have nx : ∀ a, H1 a ≠ none → a ≠ x := fun a q e => q (e ▸ hx)
      have nd : ∀ a, H1 a ≠ none → a ≠ dx := fun a q e => q (e ▸ hdx)
      have kp : ∀ a, H1 a ≠ none → upd (upd H1 dx (.own x)) x (.ins (tb t) dx []) a = H1 a := fun a q => (upd_ne (nx a q)).trans (upd_ne (nd a q))
      have mx : ∀ a, 0 < cm a + c2 a → a ≠ x := fun a q => nx a (mut_ne (w2.cm a q))
      have zn : ∀ a, z1 a → H1 a ≠ none := w2.zt
      have w3 : Wf (upd (upd H1 dx (.own x)) x (.ins (tb t) dx [])) z1 (fun a => (one x a + cm a) + c2 a) := by
        refine ⟨fun a q => by rw [kp a (zn a q)]; exact zn a q, fun a q => ?_, fun a => ?_, fun a q => ?_⟩
        · have h0 : cm a + c2 a = 0 := w2.zc a q
          have h1 : one x a = 0 := one_ne (nx a (zn a q))
          show one x a + cm a + c2 a = 0
          omega
        · have h0 : cm a + c2 a ≤ 1 := w2.c1 a
          show one x a + cm a + c2 a ≤ 1
          by_cases ha : a = x
          · have h1 : cm a + c2 a = 0 := by
              rcases Nat.eq_zero_or_pos (cm a + c2 a) with r | r
              · exact r
              · exact absurd ha (mx a r)
            have h2 : one x a = 1 := by rw [ha]; exact one_self x
            omega
          · have h1 : one x a = 0 := one_ne ha
            omega
        · by_cases ha : a = x
          · rw [ha, upd_same]; trivial
          · have h1 : one x a = 0 := one_ne ha
            have q : 0 < one x a + cm a + c2 a := q
            have q2 : 0 < cm a + c2 a := by omega
            rw [kp a (mut_ne (w2.cm a q2))]
            exact w2.cm a q2
      have s3 : Step H1 z1 (fun a => cm a + c2 a) (upd (upd H1 dx (.own x)) x (.ins (tb t) dx [])) z1 (fun a => (one x a + cm a) + c2 a) := by
        refine ⟨fun a q _ => kp a q, fun a q => q, fun a q => ?_, fun a q => by rw [kp a q]; exact q⟩
        by_cases ha : a = x
        · rw [ha]; exact .inr (.inr hx)
        · have h1 : one x a = 0 := one_ne ha
          rcases q with q | q
          · exact .inl q
          · have q : 0 < one x a + cm a + c2 a := q
            exact .inr (.inl (by show 0 < cm a + c2 a; omega))
      have hM' : RpM K tb (upd (upd H1 dx (.own x)) x (.ins (tb t) dx [])) z1 (.o true t [] :: ms) (.ref x :: vs) (fun a => one x a + cm a) := by
        refine .cons (c1 := one x) (c2 := cm) (.ins (c' := zero) upd_same (.nil fun _ => rfl) fun _ => rfl) ?_ fun _ => rfl
        exact hM.mono (fun _ q => q) (fun a q => kp a (zn a q)) fun a q => kp a (mut_ne (w2.cm a (by show 0 < cm a + c2 a; omega)))
      have hE3 := hE2.mono (H' := upd (upd H1 dx (.own x)) x (.ins (tb t) dx [])) (z' := z1) (fun _ q => q) (fun a q => kp a (zn a q)) fun a q => kp a (mut_ne (w2.cm a (by show 0 < cm a + c2 a; omega)))
      have g3 := g1.mono (H' := upd (upd H1 dx (.own x)) x (.ins (tb t) dx [])) (z' := z1) (fun _ q => q) (fun a q => kp a (zn a q))
      have wm : Wf (upd (upd H1 dx (.own x)) x (.ins (tb t) dx [])) z1 (fun a => one x a + cm a) := w3.mono fun a => Nat.le_add_right _ _
      refine ⟨.o true t [] :: ms, z1, _, hM', wm, by have := hnp as δ δ1 _ e1 e2; simpa using this, ?_⟩
      have s1' : Step H z c H1 z1 (fun a => cm a + c2 a) := s1.congr (fun _ => rfl) hc
      cases e3 : sem (.o true t [] :: ms) with
      | bad => rw [e3] at h; exact h
      | ex n ms' => rw [e3] at h; exact h.elim
      | ret m0 ms' =>
        rw [e3] at h
        intro v H' z' c' cr hR hv w' s'
        split at h
        · rename_i m' ms'' heq
          cases heq
          obtain ⟨k, wt, st⟩ := Step.frame w3 w' s'
          have hE' := hE3.mono s'.zin (s'.on wm) fun a q => k a q
          cases hR with
          | cons hm' hM'' ee =>
            rename_i d1 d2
            obtain ⟨c3, h1, h2, _⟩ := putA_of g3 hM'' hE' hio
            have hvn : v = .non := by cases hv with | v r => cases r with | fz ff _ => cases ff; rfl
            refine ⟨hvn, ?_⟩
            have hle : ∀ a, c3 a + d1 a ≤ c' a + cr a + c2 a := fun a => by have := h2 a; have := ee a; omega
            exact h (.ref x) H' ⟨z', c3, d1, h1, hm', wt.mono hle, ((s1'.trans w2 s3).trans w3 st).mono hle⟩
        · exact h.elim
theorem de_make (C : CalI X.prog X.w X.K X.mg X.base tb k t x ps sem) (hr : Room (j + 1) X.A) (hg : Gl X x) (ha : DA tb W X (e :: es) A) (hn : ArgN A n) (hkj : k ≤ j := by first | decide | omega) (hps : ps.length = n + 1 := by rfl) (hdb : (x == ("__debug__" : Str)) = false := by decide)
    (he : starEach (e :: es) X.env = (false, eval e X.env) :: starEach es X.env := by rfl) (hpl : (backTo pos (starEach es X.env)).any (·.1) = false := by rfl) :
    DE tb W X (.Call (.Name x p) (e :: es) [] pos) (eMk t sem A) := by
  obtain ⟨f, fd, F, hm, hmg, hb⟩ := C.ex
  exact (pe_make hm F (hr.mono (Nat.succ_le_succ hkj)) hg hmg hb .nil passL ha hdb he hpl).wk fun σ H Q h => mk_of h fun as δ δ1 p e1 e2 => by rw [takeA_len e2, hn _ _ _ e1, hps]
theorem de_make0 (C : CalI X.prog X.w X.K X.mg X.base tb k t x ps sem) (hr : Room (j + 1) X.A) (hg : Gl X x) (hkj : k ≤ j := by first | decide | omega) (hps : ps.length = 1 := by rfl) (hdb : (x == ("__debug__" : Str)) = false := by decide) :
    DE tb W X (.Call (.Name x p) [] [] pos) (eMk t sem aN) := by
  obtain ⟨f, fd, F, hm, hmg, hb⟩ := C.ex
  refine (pe_make0 hm F (hr.mono (Nat.succ_le_succ hkj)) hg hmg hb .nil passL hdb).wk fun σ H Q h => ?_
  obtain ⟨δ, z, c, hE, w, h4⟩ := mk_of (np := 1) h fun as δ δ1 p e1 e2 => by rw [takeA_len e2, argN_nil _ _ _ e1]
  rw [hps]
  exact h4 [] H z c hE .nil w (Step.refl _ _ _)
end
end FS
namespace FS
open PySem PySem.Spec L2
section
variable {K : PySem.W.Frag} {tb : Nat → Addr} {pin : List (Nat × V)} {W : WX} {H H' H1 : Hp} {z z' z1 : Zn} {c c' c1 : Ct} {σ σ1 : St} {δ δ' : Env'} {X : Cx} {D : Ends}
variable {a b e o : Expr} {F G : EF} {pos p p2 q apos fpos : Pos} {i t : Nat} {f : Str}
/-! ### a list in a field -/
theorem RpF.hole {f : Str} {ls : List L} : ∀ {fs : List (Str × L)} {fv : List (Str × V)} {c : Ct}, RpF K H z fs fv c → fs.lookup f = some (.lst ls) →
    ∃ (p : Addr) (vs : List V) (cl cr : Ct), fv.lookup f = some (.ref p) ∧ H p = some (.lst vs) ∧ RpA K H z ls vs cl ∧ (∀ b, c b = one p b + cl b + cr b) ∧
      ∀ (H2 : Hp) (z2 : Zn) (l2 : L) (c2 : Ct), (∀ a, z a → z2 a) → (∀ a, z a → H2 a = H a) → (∀ a, 0 < cr a → H2 a = H a) → RpL K H2 z2 l2 (.ref p) c2 → RpF K H2 z2 (putL f l2 fs) fv fun b => c2 b + cr b
  | _, _, _, .nil _, h => by cases h
  | (g, l) :: fs, (_, v) :: fv, c, .cons (c1 := c1) (c2 := c2) hl r e, h => by
    rw [List.lookup_cons] at h
    rw [List.lookup_cons]
    cases q : f == g with
    | true =>
      rw [q] at h
      dsimp only at h ⊢
      cases h
      have hg : g = f := (beq_iff_eq.mp q).symm
      cases hl with
      | lst hH hA ee =>
        rename_i p vs cl
        refine ⟨p, vs, cl, c2, rfl, hH, hA, fun b => by rw [e, ee], fun H2 z2 l2 c2' hz h1 h2 hr => ?_⟩
        unfold putL
        rw [if_pos hg]
        exact .cons hr (r.mono hz h1 h2) fun _ => rfl
    | false =>
      rw [q] at h
      have hg : ¬ g = f := fun x => by rw [x] at q; simp at q
      obtain ⟨p, vs, cl, cr, h1, h2, h3, h4, h5⟩ := RpF.hole r h
      refine ⟨p, vs, cl, fun b => c1 b + cr b, h1, h2, h3, fun b => by have := h4 b; have := e b; show c b = one p b + cl b + (c1 b + cr b); omega, fun H2 z2 l2 c2' hz k1 k2 hr => ?_⟩
      unfold putL
      rw [if_neg hg]
      exact .cons (hl.mono hz k1 fun a q => k2 a (by show 0 < c1 a + cr a; omega)) (h5 H2 z2 l2 c2' hz k1 (fun a q => k2 a (by show 0 < c1 a + cr a; omega)) hr) fun b => by show c2' b + (c1 b + cr b) = c1 b + (c2' b + cr b); omega
def sAppF (t i : Nat) (f : Str) (F : EF) : SF := fun δ => match δ[i]? with
  | some (some (.o true t' fs)) => (match fs.lookup f with
    | some (.lst ls) => if t' = t ∧ ls.length < big then (F (δ.set i none)).s fun m δ1 => (match m with
      | .v l => .nx (δ1.set i (some (.o true t (putL f (.lst (ls ++ [l])) fs))))
      | _ => .bad) else .bad
    | _ => .bad)
  | _ => .bad
theorem ds_appF (ho : PE X o (tVar i)) (cl : Cls X.K (tb t)) (na : NoAttr X.K (tb t) f) (he : DE tb W X e F) (hb : attributeBase o f X.env (eval o X.env) = eval o X.env := by rfl)
    (hbase : attributeBase (.Attribute o f fpos) (Str.ofString "append") X.env (eval (.Attribute o f fpos) X.env) = eval (.Attribute o f fpos) X.env := by rfl)
    (hfew : ((backTo pos (starEach [e] X.env)).all (fun x => !x.1) && (backToKw pos (keywordEach [] X.env)).all (fun x => x.1.isSome)
      && decide (([e] : List Expr).length + ([] : List Keyword).length + (if ([] : List Keyword).isEmpty then 0 else 1) < 30)) = true := by rfl)
    (hline : (apos.endLine == pos.line) = true := by rfl) (hs : starEach [e] X.env = (false, eval e X.env) :: starEach [] X.env := by rfl) (hplain : (backTo pos (starEach [] X.env)).any (·.1) = false := by rfl)
    (hsw : swapsWith (.Call (.Attribute (.Attribute o f fpos) (Str.ofString "append") apos) [e] [] pos) none p.line X.env = pure false := by rfl) :
    DS tb pin W X (.Expr (.Call (.Attribute (.Attribute o f fpos) (Str.ofString "append") apos) [e] [] pos) p) (sAppF t i f F) :=
  (ps_expr (pe_bm PySem.F.plainAttrs_list PySem.F.slot_list_append PySem.F.type_list_append mt_append (pe_fld ho hb) (pa_cons he pa_nil hs) hbase hfew hline hs hplain) hsw).wk fun D σ H ⟨hp, δ, z, c, hE, w, h⟩ => by
    unfold sAppF at h
    split at h
    · rename_i t' fs q0
      split at h
      · rename_i ls el
        by_cases hc0 : t' = t ∧ ls.length < big
        case neg => rw [if_neg hc0] at h; exact h.elim
        rw [if_pos hc0] at h
        obtain ⟨ht, hbig⟩ := hc0
        subst ht
        obtain ⟨a, dx, fv, cf, cr0, ev, hHa, hF, hc, hE2⟩ := own_insT hE q0
        obtain ⟨pp, vs, cl', crf, hlk, hHp, hA, hcf, hole⟩ := hF.hole el
        refine ⟨.ref a, ev, a, _, dx, fv, .ref pp, rfl, hHa, cl, na, hlk, .inl ⟨rfl, vs, .inl (.inl hHp)⟩, ?_⟩
        have wf : Wf H z fun b => cr0 b + (one a b + cf b) := w.congr fun b => by rw [hc]; omega
        have w0 : Wf H z cr0 := wf.mono fun b => Nat.le_add_right _ _
        refine ⟨δ.set i none, z, cr0, hE2, w0, ?_⟩
        cases e1 : F (δ.set i none) with
        | bad => rw [e1] at h; exact h.elim
        | ex n δ1 =>
          rw [e1] at h
          intro H' ⟨z', c', hE', w', s'⟩
          obtain ⟨_, wt, st⟩ := Step.frame wf w' s'
          exact h σ H' ⟨hp, z', c', hE', w', (st.congr (fun b => by rw [hc]; omega) fun _ => rfl).mono fun b => Nat.le_add_right _ _⟩
        | ok m δ1 =>
          rw [e1] at h
          intro v H1 ⟨z1, c1, cm, hE1, r1, w1, s1⟩
          cases m with
          | o _ _ _ => exact h.elim
          | v l =>
            have h : OutS X.K tb pin W H z c (.nx (δ1.set i (some (.o true t' (putL f (.lst (ls ++ [l])) fs))))) D := h
            have rl : RpL X.K H1 z1 l v cm := by cases r1 with | v r => exact r
            obtain ⟨kp, wt, st⟩ := Step.frame wf w1 s1
            -- addresses
            have t1 : ∀ b, c1 b + cm b + (one a b + (one pp b + cl' b + crf b)) ≤ 1 := fun b => by have h3 : c1 b + cm b + (one a b + cf b) ≤ 1 := wt.c1 b; rw [hcf] at h3; exact h3
            have ap : a ≠ pp := fun e => by have := t1 a; rw [one_self, e, one_self] at this; omega
            have onz : ∀ b, z b → H1 b = H b := s1.on w0
            have kH : ∀ b, 0 < one a b + cf b → H1 b = H b := kp
            have hp1 : H1 pp = some (.lst vs) := (kH pp (by rw [hcf, one_self]; omega)).trans hHp
            have ha1 : H1 a = some (.ins (tb t') dx fv) := (kH a (by rw [one_self]; omega)).trans hHa
            refine ⟨pp, vs, v, rfl, rfl, hp1, by rw [← hA.len, big_eq]; exact hbig, ?_⟩
            have zp : ∀ b, z1 b → b ≠ pp := fun b q e => by
              have h3 : c1 b + cm b + (one a b + cf b) = 0 := wt.zc b q
              rw [e, hcf, one_self] at h3; omega
            have za : ∀ b, z1 b → b ≠ a := fun b q e => by
              have h3 : c1 b + cm b + (one a b + cf b) = 0 := wt.zc b q
              rw [e, one_self] at h3; omega
            have np : ∀ b, 0 < c1 b ∨ 0 < cm b ∨ 0 < cl' b ∨ 0 < crf b → b ≠ pp := fun b q e => by
              have := t1 b; rw [e, one_self] at this; rw [e] at q; omega
            let H2 : Hp := upd H1 pp (.lst (vs ++ [v]))
            have u2 : ∀ b, b ≠ pp → H2 b = H1 b := fun b q => upd_ne q
            have hA1 : RpA X.K H1 z1 ls vs cl' := hA.mono s1.zin onz fun b q => kH b (by rw [hcf]; omega)
            have hA2 : RpA X.K H2 z1 (ls ++ [l]) (vs ++ [v]) fun b => cl' b + cm b := (hA1.app (.cons (c2 := zero) rl (.nil fun _ => rfl) fun b => by show cm b = cm b + 0; omega)).mono (fun _ q => q) (fun b q => u2 b (zp b q)) fun b q => u2 b (np b (by omega))
            have hL : RpL X.K H2 z1 (.lst (ls ++ [l])) (.ref pp) fun b => one pp b + (cl' b + cm b) := .lst upd_same hA2 fun _ => rfl
            have hF2 := hole H2 z1 _ _ s1.zin (fun b q => (u2 b (zp b (s1.zin b q))).trans (onz b q)) (fun b q => (u2 b (np b (by omega))).trans (kH b (by rw [hcf]; omega))) hL
            have hE3 : RpE X.K tb H2 z1 δ1 σ c1 := hE1.mono (fun _ q => q) (fun b q => u2 b (zp b q)) fun b q => u2 b (np b (by omega))
            obtain ⟨c3, k1, k2⟩ := hE3.drop i
            have hil : i < δ1.length := by rw [hE1.len, ← hE.len]; exact lt_of_get q0
            have hR : Rp X.K tb H2 z1 (.o true t' (putL f (.lst (ls ++ [l])) fs)) (.ref a) fun b => one a b + (one pp b + (cl' b + cm b) + crf b) := .ins ((u2 a ap).trans ha1) hF2 fun _ => rfl
            have hE4 := RpE.put k2 hil ev hR
            have wn : Wf H1 z1 fun b => one a b + (one pp b + (cl' b + cm b) + crf b) + c3 b := wt.mono fun b => by
              have h3 := k1 b
              have h4 := hcf b
              show _ ≤ c1 b + cm b + (one a b + cf b)
              omega
            obtain ⟨w3, s3⟩ := Wf.upd (p := pp) (o := .lst (vs ++ [v])) wn (by rw [one_self]; omega) trivial
            refine h σ H2 ⟨hp, z1, _, hE4, w3, ?_⟩
            have st2 : Step H z c H1 z1 fun b => one a b + (one pp b + (cl' b + cm b) + crf b) + c3 b := (st.congr (fun b => by rw [hc]; omega) fun _ => rfl).mono fun b => by
              have h3 := k1 b
              have h4 := hcf b
              show _ ≤ c1 b + cm b + (one a b + cf b)
              omega
            exact st2.trans wn s3
      · exact h.elim
    · exact h.elim
end
end FS
namespace FS
open PySem PySem.Spec L2
section
variable {K : PySem.W.Frag} {tb : Nat → Addr} {pin : List (Nat × V)} {W : WX} {H H' H1 H2 : Hp} {z z' z1 z2 : Zn} {c c' c1 c2 cm : Ct} {σ σ1 : St} {δ δ' δ1 : Env'} {X : Cx} {D : Ends}
variable {a b e o ix : Expr} {F G Fi Fv : EF} {pos p p2 q apos fpos : Pos} {i t : Nat} {g : Str} {ls : List L}
theorem RpE.congrC (h : RpE K tb H z δ σ c) (e : ∀ b, c b = c' b) : RpE K tb H z δ σ c' := (funext e : c = c') ▸ h
theorem RpA.congrC {ls : List L} {vs : List V} (h : RpA K H z ls vs c) (e : ∀ b, c b = c' b) : RpA K H z ls vs c' := (funext e : c = c') ▸ h
/-! ### places: a slot with a list of one's own, a field with one -/
inductive Pl where
  | s (i : Nat)
  | f (i t : Nat) (g : Str)
def getP : Pl → Env' → Option (List L)
  | .s i, δ => match δ[i]? with
    | some (some (.v (.lst ls))) => some ls
    | _ => none
  | .f i t g, δ => match δ[i]? with
    | some (some (.o true t' fs)) => if t' = t then (match fs.lookup g with
      | some (.lst ls) => some ls
      | _ => none) else none
    | _ => none
def putP : Pl → List L → Env' → Env'
  | .s i, ls, δ => δ.set i (some (.lst ls))
  | .f i _ g, ls, δ => match δ[i]? with
    | some (some (.o true t' fs)) => δ.set i (some (.o true t' (putL g (.lst ls) fs)))
    | _ => δ
def tP (K : PySem.W.Frag) : Pl → TE
  | .s i => tVar i
  | .f i _ g => tFld K (tVar i) g
def PlOk (K : PySem.W.Frag) (tb : Nat → Addr) : Pl → Prop
  | .s _ => True
  | .f _ t g => Cls K (tb t) ∧ NoAttr K (tb t) g
theorem getP_s (h : getP (.s i) δ = some ls) : δ[i]? = some (some (.v (.lst ls))) := by
  have h : (match δ[i]? with
    | some (some (.v (.lst ls))) => some ls
    | _ => none) = some ls := h
  generalize δ[i]? = o at *
  rcases o with _ | _ | (_ | _ | _) | _ <;> first | (cases h; rfl) | cases h
theorem getP_f (h : getP (.f i t g) δ = some ls) : ∃ fs, δ[i]? = some (some (.o true t fs)) ∧ fs.lookup g = some (.lst ls) := by
  have h : (match δ[i]? with
    | some (some (.o true t' fs)) => if t' = t then (match fs.lookup g with
      | some (.lst ls) => some ls
      | _ => none) else none
    | _ => none) = some ls := h
  generalize δ[i]? = o at *
  rcases o with _ | _ | _ | ⟨b, t', fs⟩
  · cases h
  · cases h
  · cases h
  · cases b with
    | false => cases h
    | true =>
      dsimp only at h
      by_cases ht : t' = t
      case neg => rw [if_neg ht] at h; cases h
      rw [if_pos ht] at h
      subst ht
      refine ⟨fs, rfl, ?_⟩
      generalize fs.lookup g = x at *
      rcases x with _ | (_ | _ | _) <;> first | (cases h; rfl) | cases h
theorem own_P {P : Pl} (hE : RpE K tb H z δ σ c) (ok : PlOk K tb P) (h : getP P δ = some ls) : ∃ (a : Addr) (vs : List V) (ca cr : Ct), (∀ Q : VK, Q (.ref a) H → tP K P σ H Q) ∧ H a = some (.lst vs) ∧ RpA K H z ls vs ca ∧ (∀ b, c b = one a b + ca b + cr b) ∧
    ∀ (H2 : Hp) (z2 : Zn) (ls2 : List L) (vs2 : List V) (c2 : Ct), (∀ b, z b → z2 b) → (∀ b, z b → H2 b = H b) → (∀ b, 0 < cr b → H2 b = H b) → H2 a = some (.lst vs2) → RpA K H2 z2 ls2 vs2 c2 → RpE K tb H2 z2 (putP P ls2 δ) σ fun b => one a b + c2 b + cr b := by
  cases P with
  | s i =>
    have q := getP_s h
    obtain ⟨a, vs, ca, cr, ev, hH, hA, hc, hE2⟩ := own_lst hE q
    refine ⟨a, vs, ca, cr, fun Q k => ⟨_, ev, k⟩, hH, hA, hc, fun H2 z2 ls2 vs2 c2 k1 k2 k3 k4 k5 => ?_⟩
    exact RpE.put (hE2.mono k1 k2 k3) (lt_of_get q) ev (.v (.lst k4 k5 fun _ => rfl))
  | f i t g =>
    obtain ⟨fs, q, el⟩ := getP_f h
    obtain ⟨a0, dx, fv, cf, cr0, ev, hHa, hF, hc, hE2⟩ := own_insT hE q
    obtain ⟨pp, vs, cl', crf, hlk, hHp, hA, hcf, hole⟩ := hF.hole el
    refine ⟨pp, vs, cl', fun b => one a0 b + crf b + cr0 b, fun Q k => ⟨.ref a0, ev, a0, _, dx, fv, .ref pp, rfl, hHa, ok.1, ok.2, hlk, k⟩, hHp, hA, fun b => by have := hc b; have := hcf b; show c b = one pp b + cl' b + (one a0 b + crf b + cr0 b); omega, fun H2 z2 ls2 vs2 c2 k1 k2 k3 k4 k5 => ?_⟩
    have e0 : putP (.f i t g) ls2 δ = δ.set i (some (.o true t (putL g (.lst ls2) fs))) := by
      show (match δ[i]? with
        | some (some (.o true t' fs)) => δ.set i (some (.o true t' (putL g (.lst ls2) fs)))
        | _ => δ) = _
      rw [q]
    rw [e0]
    have hL : RpL K H2 z2 (.lst ls2) (.ref pp) fun b => one pp b + c2 b := .lst k4 k5 fun _ => rfl
    have hF2 := hole H2 z2 _ _ k1 k2 (fun b q => k3 b (by show 0 < one a0 b + crf b + cr0 b; omega)) hL
    have ha : H2 a0 = some (.ins (tb t) dx fv) := (k3 a0 (by show 0 < one a0 a0 + crf a0 + cr0 a0; rw [one_self]; omega)).trans hHa
    have hR : Rp K tb H2 z2 (.o true t (putL g (.lst ls2) fs)) (.ref a0) fun b => one a0 b + (one pp b + c2 b + crf b) := .ins ha hF2 fun _ => rfl
    refine (RpE.put (hE2.mono k1 k2 fun b q => k3 b (by show 0 < one a0 b + crf b + cr0 b; omega)) (lt_of_get q) ev hR).congrC fun b => ?_
    show one a0 b + (one pp b + c2 b + crf b) + cr0 b = one pp b + c2 b + (one a0 b + crf b + cr0 b)
    omega
/-- the last step of a change -/
theorem fin_P {P : Pl} {a : Addr} {ls2 : List L} {vs2 : List V} {ca2 cr : Ct} (w1 : Wf H1 z1 c1) (hcr : ∀ b, cr b ≤ c1 b)
    (cont : ∀ (H2 : Hp) (z2 : Zn) (ls2 : List L) (vs2 : List V) (c2 : Ct), (∀ b, z1 b → z2 b) → (∀ b, z1 b → H2 b = H1 b) → (∀ b, 0 < cr b → H2 b = H1 b) → H2 a = some (.lst vs2) → RpA K H2 z2 ls2 vs2 c2 → RpE K tb H2 z2 (putP P ls2 δ1) σ fun b => one a b + c2 b + cr b)
    (x : ∀ b, H1 b ≠ none → H2 b = H1 b) (zz : ∀ b, z1 b → z2 b) (w2 : Wf H2 z2 c2) (hA : RpA K H2 z2 ls2 vs2 ca2) (le : ∀ b, one a b + ca2 b + cr b ≤ c2 b) :
    RpE K tb (upd H2 a (.lst vs2)) z2 (putP P ls2 δ1) σ (fun b => one a b + ca2 b + cr b) ∧ Wf (upd H2 a (.lst vs2)) z2 (fun b => one a b + ca2 b + cr b) ∧ Step H2 z2 c2 (upd H2 a (.lst vs2)) z2 (fun b => one a b + ca2 b + cr b) := by
  have w2' : Wf H2 z2 fun b => one a b + ca2 b + cr b := w2.mono le
  have ha := w2'.c1 a
  have ha : one a a + ca2 a + cr a ≤ 1 := ha
  rw [one_self] at ha
  have zn : ∀ b, z2 b → b ≠ a := fun b q e => by
    have h : one a b + ca2 b + cr b = 0 := w2'.zc b q
    rw [e, one_self] at h
    omega
  have hA' := hA.mono (H' := upd H2 a (.lst vs2)) (fun _ q => q) (fun b q => upd_ne (zn b q)) fun b q => upd_ne fun e => by rw [e] at q; omega
  obtain ⟨w3, s3⟩ := Wf.upd (o := .lst vs2) w2' (by rw [one_self]; omega) trivial
  refine ⟨cont _ z2 ls2 vs2 ca2 zz (fun b q => (upd_ne (zn b (zz b q))).trans (x b (w1.zt b q))) (fun b q => (upd_ne fun e => by rw [e] at q; omega).trans (x b (mut_ne (w1.cm b (Nat.lt_of_lt_of_le q (hcr b)))))) upd_same hA', w3, ?_⟩
  exact ((Step.refl H2 z2 c2).mono le).trans w2' s3
/-! ### a look at a value -/
def pkV (F : EF) (δ : Env') : Option PD := match F (frzE δ) with
  | .ok (.v (.fz d)) _ => if immut d then some d else none
  | _ => none
theorem pk_go {Q : VK} {d : PD} (hE : RpE K tb H z δ σ c) (w : Wf H z c) (h : pkV F δ = some d)
    (k : ∀ v H1 z1, RpE K tb H1 z1 δ σ c → Wf H1 z1 c → Step H z c H1 z1 c → (∀ b, H b ≠ none → H1 b = H b) → Fz K H1 z1 d v → Q v H1) : tD K tb W F σ H Q := by
  refine ⟨frzE δ, fun a => z a ∨ 0 < c a, zero, hE.freeze (fun _ => .inl) fun _ => .inr, pk_wf w, ?_⟩
  unfold pkV at h
  split at h
  · rename_i d' δ1 e
    by_cases hi : immut d' = true
    case neg => rw [if_neg hi] at h; cases h
    rw [if_pos hi] at h
    cases h
    rw [e]
    intro v H' a
    obtain ⟨z1, c1, h1, h2, h3, h4⟩ := AftE.toP a
    obtain ⟨b1, b2, b3⟩ := pk_back (δ1 := δ1) hE w h4 h3
    exact k v H' _ b1 b2 b3 (fun b q => h4.keep b q rfl) (pk_imm w h4 h2 hi)
  · cases h
/-! ### P[i] = e -/
def sStP (P : Pl) (Fi Fv : EF) : SF := fun δ => (Fv δ).s fun m δ1 => match m, pkV Fi δ1, getP P δ1 with
  | .v l, some (.int k), some ls => (match ixN ls.length k with
    | some j => .nx (putP P (ls.set j l) δ1)
    | none => .bad)
  | _, _, _ => .bad
theorem ds_stP {P : Pl} {spos : Pos} (hv : DE tb W X e Fv) (ok : PlOk X.K tb P) (ho : PE X a (tP X.K P)) (hi : DE tb W X ix Fi) (hs : swapsWithSole [.Subscript a ix spos] e pos.line X.env = pure false := by rfl) (hw : swappedStores [.Subscript a ix spos] e X.env = pure none := by rfl)
    (h1 : (assignEach [.Subscript a ix spos] X.env).map (·.2) = [assign (.Subscript a ix spos) X.env] := by rfl)
    (ha : ∀ v, assign (.Subscript a ix spos) X.env v = (do
      let ov ← holding [v] (eval a X.env)
      let iv ← holding [v, ov] (eval ix X.env)
      standAt spos
      holding [v, ov, iv] (setItem ov iv v)
      release [v, ov, iv] []) := by intro _; rfl) : DS tb pin W X (.Assign [.Subscript a ix spos] e pos) (sStP P Fi Fv) :=
  (ps_asg hv (pg_sub ho hi set_list ha) hs hw h1).wk fun D σ H ⟨hp, δ, z, c, hE, w, h⟩ => by
    unfold sStP at h
    refine go_S hp hE w h fun m δ1 v H1 z1 c1 cm hE1 r1 w1 s1 h1 => ?_
    split at h1
    · rename_i l k ls e2 e3
      cases e4 : ixN ls.length k with
      | none => rw [e4] at h1; exact h1.elim
      | some j =>
        rw [e4] at h1
        dsimp only at h1
        have w1' : Wf H1 z1 c1 := w1.mono fun _ => Nat.le_add_right _ _
        obtain ⟨pa, vs, ca, cr, hto, hH, hA, hc, cont⟩ := own_P hE1 ok e3
        refine hto _ ?_
        refine pk_go hE1 w1' e2 fun iv H2 z2 hE2 w2 s2 x f => ?_
        obtain ⟨kp, wt, st⟩ := Step.frame w1 w2 s2
        have rl : RpL X.K H1 z1 l v cm := by cases r1 with | v r => exact r
        have rl' : RpL X.K H2 z2 l v cm := rl.mono s2.zin (s2.on w1') fun b q => kp b q
        have hA' : RpA X.K H2 z2 ls vs ca := hA.mono s2.zin (s2.on w1') fun b q => x b (mut_ne (w1'.cm b (by have := hc b; omega)))
        obtain ⟨ca2, hA2, hca2⟩ := hA'.set j rl'
        obtain ⟨hE3, w3, s3⟩ := fin_P w1' (fun b => by have := hc b; omega) cont x s2.zin wt hA2 (fun b => by have := hc b; have := hca2 b; show _ ≤ c1 b + cm b; omega)
        have hH2 : H2 pa = some (.lst vs) := (x pa (by rw [hH]; exact fun q => nomatch q)).trans hH
        exact ⟨pa, vs, k, j, rfl, f.int_, hH2, by rw [← hA.len]; exact e4, h1 σ _ ⟨hp, z2, _, hE3, w3, st.trans wt s3⟩⟩
    · exact h1.elim
/-! ### P[i] += e -/
def rGetL (K : PySem.W.Frag) : V → V → Hp → VK → Prop := fun x y H Q => ∃ p xs i v, x = .ref p ∧ y = .int i ∧ H p = some (.lst xs) ∧ atI xs i = some v ∧ Q v H
theorem get_list : PGet X (rGetL X.K) := by
  intro pins s σ H x y v u Q I rx ry h
  obtain ⟨p, xs, i, w0, rfl, rfl, hq, he, q⟩ := h
  cases rx
  obtain ⟨t, rfl⟩ := ry
  obtain ⟨its, r, pl, hz⟩ := I.list (.inl (.inl hq))
  obtain ⟨j, h1, h2, h3, h4, h5⟩ := atI_get he
  obtain ⟨w, ew, rw'⟩ := r.get h2
  have hl := r.length
  have hn := line63
  have fin : EP X pins σ Q w s := ⟨w0, H, I, rw', q⟩
  by_cases h0 : 0 ≤ i
  · have hj : i.toNat = j := by
      rw [seqIndex_of h0 h5] at h1
      exact Option.some.inj h1
    exact wpAny_getItem_list pl.isList h0 (by omega) (by rw [hj]; simpa using ew) fin
  · have hj : (i + (its.toArray.size : Int)).toNat = j := by
      rw [seqIndex_neg (by omega) h4] at h1
      rw [List.size_toArray, ← hl]
      exact Option.some.inj h1
    exact wpAny_getItem_list_neg pl.isList (by omega) (by rw [List.size_toArray] <;> omega) (by omega) (by rw [hj]; simpa using ew) fin
def auK (f : Int → Int → Int) (x y : PD) : Option PD := match x, y with
  | .int i, .int j => some (.int (f i j))
  | _, _ => none
def sAuP (P : Pl) (f : Int → Int → Int) (Fi Fv : EF) : SF := fun δ => match getP P δ, pkV Fi δ, pkV Fv δ with
  | some ls, some (.int k), some (.int y) => (match ixN ls.length k with
    | some j => (match ls[j]? with
      | some (.fz (.int x)) => .nx (putP P (ls.set j (.fz (.int (f x y)))) δ)
      | _ => .bad)
    | none => .bad)
  | _, _, _ => .bad
theorem RpA.at {vs : List V} : ∀ {ls : List L} {vs : List V} {c : Ct} {j : Nat} {l : L}, RpA K H z ls vs c → ls[j]? = some l → ∃ v cl, vs[j]? = some v ∧ RpL K H z l v cl
  | _, _, _, 0, l, .cons h r e, q => by cases q; exact ⟨_, _, rfl, h⟩
  | _, _, _, j + 1, l, .cons h r e, q => by
    obtain ⟨v, cl, h1, h2⟩ := RpA.at (vs := []) (j := j) r (by simpa using q)
    exact ⟨v, cl, by simpa using h1, h2⟩
  | _, _, _, 0, l, .nil _, q => by cases q
  | _, _, _, j + 1, l, .nil _, q => by cases q
theorem ds_augP {P : Pl} {op : Operator} {f : Int → Int → Int} {tpos : Pos} (hf : PIp X op (ipI f)) (ok : PlOk X.K tb P) (ho : PE X a (tP X.K P)) (hi : DE tb W X ix Fi) (hv : DE tb W X e Fv)
    (ha : ∀ ov iv new, augStore ix ov iv new = (do holding [new, ov, iv] (setItem ov iv new); release [new, ov, iv] []; pure .next) := by intros; rfl) : DS tb pin W X (.AugAssign (.Subscript a ix tpos) op e pos) (sAuP P f Fi Fv) :=
  (ps_augS ho hi get_list hv hf set_list ha).wk fun D σ H ⟨hp, δ, z, c, hE, w, h⟩ => by
    unfold sAuP at h
    split at h
    · rename_i ls k y e1 e2 e3
      cases e4 : ixN ls.length k with
      | none => rw [e4] at h; exact h.elim
      | some j =>
        rw [e4] at h
        dsimp only at h
        split at h
        · rename_i x0 e5
          obtain ⟨pa, vs, ca, cr, hto, hH, hA, hc, cont⟩ := own_P hE ok e1
          refine hto _ ?_
          refine pk_go hE w e2 fun iv H1 z1 hE1 w1 s1 x1 f1 => ?_
          obtain ⟨v0, cl, hv0, rv0⟩ := RpA.at (vs := vs) hA e5
          have ev0 : v0 = .int x0 := by cases rv0 with | fz f _ => exact f.int_
          subst ev0
          have hH1 : H1 pa = some (.lst vs) := (x1 pa (by rw [hH]; exact fun q => nomatch q)).trans hH
          have hat : atI vs k = some (.int x0) := by unfold atI; rw [← hA.len, e4]; exact hv0
          refine ⟨pa, vs, k, _, rfl, f1.int_, hH1, hat, ?_⟩
          refine pk_go hE1 w1 e3 fun yv H2 z2 hE2 w2 s2 x2 f2 => ?_
          refine ⟨x0, y, rfl, f2.int_, ?_⟩
          have xx : ∀ b, H b ≠ none → H2 b = H b := fun b q => (x2 b (by rw [x1 b q]; exact q)).trans (x1 b q)
          have zz : ∀ b, z b → z2 b := fun b q => s2.zin b (s1.zin b q)
          have hA2 : RpA X.K H2 z2 ls vs ca := hA.mono zz (fun b q => xx b (w.zt b q)) fun b q => xx b (mut_ne (w.cm b (by have := hc b; omega)))
          obtain ⟨ca2, hA3, hca2⟩ := hA2.set (cm := zero) j (l := .fz (.int (f x0 y))) (y := .int (f x0 y)) (.fz (.int _) fun _ => rfl)
          obtain ⟨hE3, w3, s3⟩ := fin_P w (fun b => by have := hc b; omega) cont xx zz w2 hA3 (fun b => by have := hc b; have h0 : ca2 b ≤ ca b + 0 := hca2 b; omega)
          have hH2 : H2 pa = some (.lst vs) := (xx pa (by rw [hH]; exact fun q => nomatch q)).trans hH
          exact ⟨pa, vs, k, j, rfl, f1.int_, hH2, by rw [← hA.len]; exact e4, h σ _ ⟨hp, z2, _, hE3, w3, (s1.trans w1 s2).trans w2 s3⟩⟩
        · exact h.elim
    · exact h.elim
/-! ### P[i], Q[j] = .. -/
def stV (P : Pl) (Fi : EF) (d : PD) (δ : Env') : Option Env' := match pkV Fi δ, getP P δ with
  | some (.int k), some ls => (ixN ls.length k).map fun j => putP P (ls.set j (.fz d)) δ
  | _, _ => none
theorem stV_of {P : Pl} {d : PD} {v : V} {Q : St → Hp → Prop} (hE : RpE K tb H z δ σ c) (w : Wf H z c) (f : Fz K H z d v) (ok : PlOk K tb P) (h : stV P Fi d δ = some δ')
    (k : ∀ H1 z1 c1, RpE K tb H1 z1 δ' σ c1 → Wf H1 z1 c1 → Step H z c H1 z1 c1 → Q σ H1) : L2.gSub (tP K P) (tD K tb W Fi) rSetL v σ H Q := by
  unfold stV at h
  split at h
  · rename_i i ls e2 e3
    cases e4 : ixN ls.length i with
    | none => rw [e4] at h; cases h
    | some j =>
      rw [e4] at h
      cases h
      obtain ⟨pa, vs, ca, cr, hto, hH, hA, hc, cont⟩ := own_P hE ok e3
      refine hto _ ?_
      refine pk_go hE w e2 fun iv H2 z2 hE2 w2 s2 x f2 => ?_
      have hA' : RpA K H2 z2 ls vs ca := hA.mono s2.zin (s2.on w) fun b q => x b (mut_ne (w.cm b (by have := hc b; omega)))
      obtain ⟨ca2, hA2, hca2⟩ := hA'.set (cm := zero) j (l := .fz d) (y := v) (.fz (s2.fz w f) fun _ => rfl)
      obtain ⟨hE3, w3, s3⟩ := fin_P w (fun b => by have := hc b; omega) cont x s2.zin w2 hA2 (fun b => by have := hc b; have h0 : ca2 b ≤ ca b + 0 := hca2 b; omega)
      have hH2 : H2 pa = some (.lst vs) := (x pa (by rw [hH]; exact fun q => nomatch q)).trans hH
      exact ⟨pa, vs, i, j, rfl, f2.int_, hH2, by rw [← hA.len]; exact e4, k _ z2 _ hE3 w3 (s2.trans w2 s3)⟩
  · cases h
def sSw (P : Pl) (Fi : EF) (P' : Pl) (Fj : EF) (F : EF) : SF := fun δ => (F δ).ps fun d δ1 => match d with
  | .tuple [x, y] => (match stV P Fi x δ1 with
    | some δ2 => (match stV P' Fj y δ2 with
      | some δ3 => .nx δ3
      | none => .bad)
    | none => .bad)
  | _ => .bad
theorem ds_sw {P P' : Pl} {Fj : EF} {a' ix' : Expr} {spos spos' tpos : Pos} {kk : Nat} (hc : X.calm = true) (hv : DE tb W X e F) (ok : PlOk X.K tb P) (ho : PE X a (tP X.K P)) (hi : DE tb W X ix Fi) (ok' : PlOk X.K tb P') (ho' : PE X a' (tP X.K P')) (hi' : DE tb W X ix' Fj)
    (hs : swapsWithSole [.Tuple [.Subscript a ix spos, .Subscript a' ix' spos'] kk tpos] e pos.line X.env = pure false := by rfl) (hw : swappedStores [.Tuple [.Subscript a ix spos, .Subscript a' ix' spos'] kk tpos] e X.env = pure none := by rfl)
    (h1 : (assignEach [.Tuple [.Subscript a ix spos, .Subscript a' ix' spos'] kk tpos] X.env).map (·.2) = [assign (.Tuple [.Subscript a ix spos, .Subscript a' ix' spos'] kk tpos) X.env] := by rfl)
    (hn : (assignEach [.Subscript a ix spos, .Subscript a' ix' spos'] X.env).length = 2 := by rfl) (hst : (assignEach [.Subscript a ix spos, .Subscript a' ix' spos'] X.env).findIdx? (·.1) = none := by rfl)
    (hs1 : (assignEach (.Subscript a ix spos :: [.Subscript a' ix' spos']) X.env).map (·.2) = assign (.Subscript a ix spos) X.env :: (assignEach [.Subscript a' ix' spos'] X.env).map (·.2) := by rfl)
    (hs2 : (assignEach (.Subscript a' ix' spos' :: []) X.env).map (·.2) = assign (.Subscript a' ix' spos') X.env :: (assignEach [] X.env).map (·.2) := by rfl)
    (ha : ∀ v, assign (.Subscript a ix spos) X.env v = (do
      let ov ← holding [v] (eval a X.env)
      let iv ← holding [v, ov] (eval ix X.env)
      standAt spos
      holding [v, ov, iv] (setItem ov iv v)
      release [v, ov, iv] []) := by intro _; rfl)
    (ha' : ∀ v, assign (.Subscript a' ix' spos') X.env v = (do
      let ov ← holding [v] (eval a' X.env)
      let iv ← holding [v, ov] (eval ix' X.env)
      standAt spos'
      holding [v, ov, iv] (setItem ov iv v)
      release [v, ov, iv] []) := by intro _; rfl) : DS tb pin W X (.Assign [.Tuple [.Subscript a ix spos, .Subscript a' ix' spos'] kk tpos] e pos) (sSw P Fi P' Fj F) :=
  (ps_asg hv (pg_tup hc (pgs_cons (pg_sub ho hi set_list ha) (pgs_cons (pg_sub ho' hi' set_list ha') pgs_nil hs2) hs1) hn hst) hs hw h1).wk fun D σ H ⟨hp, δ, z, c, hE, w, h⟩ => by
    unfold sSw at h
    refine ⟨δ, z, c, hE, w, ?_⟩
    unfold R.ps at h
    cases e0 : F δ with
    | bad => rw [e0] at h; exact h.elim
    | ex n δ1 => rw [e0] at h; exact fun H' a => h σ H' ⟨hp, a⟩
    | ok m δ1 =>
      rw [e0] at h
      intro v H1 aft
      cases m with
      | o _ _ _ => exact h.elim
      | v l =>
        obtain ⟨z1, c1, hE1, f1, w1, s1⟩ := AftE.toP aft
        dsimp only at h
        split at h
        · rename_i x y el
          rw [el] at f1
          obtain ⟨ta, vs, rfl, hT, f2⟩ := f1.tuple
          cases f2 with
          | cons fx f3 =>
            cases f3 with
            | cons fy f4 =>
              cases f4
              cases e5 : stV P Fi x δ1 with
              | none => rw [e5] at h; exact h.elim
              | some δ2 =>
                rw [e5] at h
                dsimp only at h
                cases e6 : stV P' Fj y δ2 with
                | none => rw [e6] at h; exact h.elim
                | some δ3 =>
                  rw [e6] at h
                  refine ⟨ta, _, rfl, sqT_of hT, rfl, _, _, rfl, ?_⟩
                  refine stV_of hE1 w1 fx ok e5 fun H2 z2 c2 hE2 w2 s2 => ?_
                  refine ⟨_, _, rfl, ?_⟩
                  refine stV_of hE2 w2 (s2.fz w1 fy) ok' e6 fun H3 z3 c3 hE3 w3 s3 => ?_
                  exact ⟨rfl, h σ H3 ⟨hp, z3, c3, hE3, w3, (s1.trans w1 s2).trans w2 s3⟩⟩
        · exact h.elim
/-! ### P.pop(), P.reverse() -/
def ePop (P : Pl) : EF := fun δ => match getP P δ with
  | some ls => (match ls[ls.length - 1]? with
    | some l => .ok (.v l) (putP P ls.dropLast δ)
    | none => .bad)
  | none => .bad
theorem RpA.pop : ∀ {ls : List L} {vs : List V} {c : Ct} {l : L}, RpA K H z ls vs c → ls[ls.length - 1]? = some l → ∃ v cl c', vs[vs.length - 1]? = some v ∧ RpL K H z l v cl ∧ RpA K H z ls.dropLast vs.dropLast c' ∧ ∀ b, c b = cl b + c' b
  | _, _, _, _, .nil _, q => by cases q
  | [l0], [v0], c, l, .cons (c1 := d1) (c2 := d2) h (.nil e0) e, q => by
    cases q
    exact ⟨v0, d1, d2, rfl, h, .nil e0, e⟩
  | l0 :: l1 :: ls, v0 :: v1 :: vs, c, l, .cons (c1 := d1) (c2 := d2) h r e, q => by
    obtain ⟨v, cl, c', h1, h2, h3, h4⟩ := RpA.pop (l := l) r (by simpa using q)
    refine ⟨v, cl, fun b => d1 b + c' b, by simpa using h1, h2, .cons h h3 fun _ => rfl, fun b => ?_⟩
    have := e b
    have := h4 b
    show c b = cl b + (d1 b + c' b)
    omega
theorem de_pop {P : Pl} (ok : PlOk X.K tb P) (ho : PE X a (tP X.K P)) (hbase : attributeBase a (Str.ofString "pop") X.env (eval a X.env) = eval a X.env := by rfl)
    (hline : (apos.endLine == pos.line) = true := by rfl) : DE tb W X (.Call (.Attribute a (Str.ofString "pop") apos) [] [] pos) (ePop P) :=
  (pe_bm0 PySem.F.plainAttrs_list PySem.F.slot_list_pop PySem.F.type_list_pop mt_pop ho hbase hline).wk fun σ H Q ⟨δ, z, c, hE, w, h⟩ => by
    unfold ePop at h
    cases e1 : getP P δ with
    | none => rw [e1] at h; exact h.elim
    | some ls =>
      rw [e1] at h
      dsimp only at h
      cases e2 : ls[ls.length - 1]? with
      | none => rw [e2] at h; exact h.elim
      | some l =>
        rw [e2] at h
        obtain ⟨pa, vs, ca, cr, hto, hH, hA, hc, cont⟩ := own_P hE ok e1
        obtain ⟨v, cl, c', h1, h2, h3, h4⟩ := hA.pop e2
        refine hto _ ⟨.inl ⟨rfl, vs, .inl (.inl hH)⟩, pa, vs, v, rfl, rfl, hH, h1, ?_⟩
        have w0 : Wf H z fun b => (one pa b + c' b + cr b) + cl b := w.mono fun b => by have := hc b; have := h4 b; omega
        obtain ⟨hE3, w3, s3⟩ := fin_P (H2 := H) (z2 := z) (ls2 := ls.dropLast) (vs2 := vs.dropLast) (ca2 := c') w (fun b => by have := hc b; omega) cont (fun _ _ => rfl) (fun _ q => q) w h3 (fun b => by have := hc b; have := h4 b; omega)
        -- the value, apart from the list
        have one0 : ∀ b, one pa b + c' b + cr b + cl b ≤ 1 := w0.c1
        have hl : RpL X.K (upd H pa (.lst vs.dropLast)) z l v cl := h2.mono (fun _ q => q) (fun b q => upd_ne fun e => by
          have hz : one pa b + c' b + cr b + cl b = 0 := w0.zc b q
          rw [e, one_self] at hz; omega) fun b q => upd_ne fun e => by have := one0 b; rw [e, one_self] at this; rw [e] at q; omega
        obtain ⟨w4, s4⟩ := Wf.upd (o := .lst vs.dropLast) w0 (p := pa) (by rw [one_self]; omega) trivial
        refine h v _ ⟨z, _, cl, hE3, .v hl, w4, ?_⟩
        exact ((Step.refl H z c).mono fun b => by have := hc b; have := h4 b; show one pa b + c' b + cr b + cl b ≤ c b; omega).trans w0 s4
    
def sRev (P : Pl) : SF := fun δ => match getP P δ with
  | some ls => .nx (putP P ls.reverse δ)
  | none => .bad
theorem RpA.app1 {l : L} {v : V} {cl : Ct} (hl : RpL K H z l v cl) : ∀ {ls : List L} {vs : List V} {c : Ct}, RpA K H z ls vs c → RpA K H z (ls ++ [l]) (vs ++ [v]) fun b => c b + cl b := fun h => h.app (.cons (c2 := zero) hl (.nil fun _ => rfl) fun b => by show cl b = cl b + 0; omega)
theorem RpA.rev : ∀ {ls : List L} {vs : List V} {c : Ct}, RpA K H z ls vs c → RpA K H z ls.reverse vs.reverse c
  | _, _, _, .nil e => .nil e
  | l :: ls, v :: vs, c, .cons (c1 := d1) (c2 := d2) h r e => by
    rw [List.reverse_cons, List.reverse_cons]
    exact (RpA.app1 h (RpA.rev r)).congrC fun b => by have := e b; show d2 b + d1 b = c b; omega
theorem ds_rev {P : Pl} (ok : PlOk X.K tb P) (ho : PE X a (tP X.K P)) (hbase : attributeBase a (Str.ofString "reverse") X.env (eval a X.env) = eval a X.env := by rfl)
    (hline : (apos.endLine == pos.line) = true := by rfl) (hsw : swapsWith (.Call (.Attribute a (Str.ofString "reverse") apos) [] [] pos) none p.line X.env = pure false := by rfl) :
    DS tb pin W X (.Expr (.Call (.Attribute a (Str.ofString "reverse") apos) [] [] pos) p) (sRev P) :=
  (ps_expr (pe_bm0 PySem.F.plainAttrs_list PySem.F.slot_list_reverse PySem.F.type_list_reverse mt_reverse ho hbase hline) hsw).wk fun D σ H ⟨hp, δ, z, c, hE, w, h⟩ => by
    unfold sRev at h
    cases e1 : getP P δ with
    | none => rw [e1] at h; exact h.elim
    | some ls =>
      rw [e1] at h
      obtain ⟨pa, vs, ca, cr, hto, hH, hA, hc, cont⟩ := own_P hE ok e1
      refine hto _ ⟨.inl ⟨rfl, vs, .inl (.inl hH)⟩, pa, vs, rfl, rfl, hH, ?_⟩
      obtain ⟨hE3, w3, s3⟩ := fin_P (H2 := H) (z2 := z) (ls2 := ls.reverse) (vs2 := vs.reverse) (ca2 := ca) w (fun b => by have := hc b; omega) cont (fun _ _ => rfl) (fun _ q => q) w hA.rev (fun b => by have := hc b; omega)
      exact h σ _ ⟨hp, z, _, hE3, w3, s3⟩
end
end FS
namespace FS
open PySem PySem.Spec L2
section
variable {K : PySem.W.Frag} {tb : Nat → Addr} {pin : List (Nat × V)} {W : WX} {H H' H1 H2 : Hp} {z z' z1 z2 : Zn} {c c' c1 c2 ce : Ct} {σ σ1 : St} {δ δ' δ1 : Env'} {X : Cx} {D : Ends}
variable {a b e o ix : Expr} {F G : EF} {pos p p2 p3 q : Pos}
/-! ### an evaluation beside things of one's own -/
theorem ev_go {Q : VK} {l : L} (hE : RpE K tb H z δ σ c) (w : Wf H z fun a => c a + ce a) (e : F δ = .ok (.v l) δ1)
    (k : ∀ v H1 z1 c1, RpE K tb H1 z1 δ1 σ c1 → (Wf H1 z1 fun a => c1 a + ce a) → (Step H z (fun a => c a + ce a) H1 z1 fun a => c1 a + ce a) → (∀ a, 0 < ce a → H1 a = H a) → Fz K H1 z1 l.pd v → Q v H1) : tD K tb W F σ H Q := by
  refine ⟨δ, z, c, hE, w.mono fun _ => Nat.le_add_right _ _, ?_⟩
  rw [e]
  intro v H' aft
  obtain ⟨z1, c1, hE1, f1, w1, s1⟩ := AftE.toP aft
  obtain ⟨kp, wt, st⟩ := Step.frame w w1 s1
  exact k v H' z1 c1 hE1 wt st kp f1
theorem wf_alloc {p : Addr} {u : HO} (w : Wf H z c) (hp : H p = none) (hm : Mut (some u)) : Wf (upd H p u) z (fun a => c a + one p a) ∧ Step H z c (upd H p u) z (fun a => c a + one p a) := by
  have np : ∀ a, H a ≠ none → a ≠ p := fun a q e => q (e ▸ hp)
  have kp : ∀ a, H a ≠ none → upd H p u a = H a := fun a q => upd_ne (np a q)
  refine ⟨⟨fun a q => by rw [kp a (w.zt a q)]; exact w.zt a q, fun a q => ?_, fun a => ?_, fun a q => ?_⟩, ⟨fun a q _ => kp a q, fun _ q => q, fun a q => ?_, fun a q => by rw [kp a q]; exact q⟩⟩
  · have h0 : c a = 0 := w.zc a q
    have h1 : one p a = 0 := one_ne (np a (w.zt a q))
    show c a + one p a = 0
    omega
  · have h0 : c a ≤ 1 := w.c1 a
    show c a + one p a ≤ 1
    by_cases ha : a = p
    · have h1 : c a = 0 := by
        rcases Nat.eq_zero_or_pos (c a) with r | r
        · exact r
        · exact absurd ha (np a (mut_ne (w.cm a r)))
      have h2 : one p a = 1 := by rw [ha]; exact one_self p
      omega
    · have h1 : one p a = 0 := one_ne ha
      omega
  · by_cases ha : a = p
    · rw [ha, upd_same]; exact hm
    · have h1 : one p a = 0 := one_ne ha
      have q : 0 < c a + one p a := q
      have q2 : 0 < c a := by omega
      rw [kp a (mut_ne (w.cm a q2))]
      exact w.cm a q2
  · by_cases ha : a = p
    · rw [ha]; exact .inr (.inr hp)
    · have h1 : one p a = 0 := one_ne ha
      rcases q with q | q
      · exact .inl q
      · have q : 0 < c a + one p a := q
        exact .inr (.inl (by omega))
/-! ### {k: e, ..}, the keys constants -/
def disV : List (PD × EF) → Env' → Option (List (PD × PD) × Env')
  | [], δ => some ([], δ)
  | (k, F) :: r, δ => match F δ with
    | .ok (.v l) δ1 => (disV r δ1).map fun q => ((k, l.pd) :: q.1, q.2)
    | _ => none
def mergeD (acc ps : List (PD × PD)) : List (PD × PD) := ps.foldl (fun a kv => putDk keyD a kv.1 kv.2) acc
def eDis (prs : List (PD × EF)) : EF := fun δ => match disV prs δ with
  | some q => if q.1.length ≤ 15 && q.1.all fun kv => isKd kv.1 then .ok (.dic (mergeD [] q.1)) q.2 else .bad
  | none => .bad
inductive DPs (tb : Nat → Addr) (W : WX) (X : Cx) (pos : Pos) : List (Option Expr) → List Expr → List (PD × EF) → Prop
  | nil : DPs tb W X pos [] [] []
  | cons {k v : Expr} {ks : List (Option Expr)} {vs : List Expr} {kd : PD} {F : EF} {r : List (PD × EF)} (hk : DE tb W X k (eC kd)) (hv : DE tb W X v F) (hr : DPs tb W X pos ks vs r) : DPs tb W X pos (some k :: ks) (v :: vs) ((kd, F) :: r)
theorem DPs.pps : ∀ {ks : List (Option Expr)} {vs : List Expr} {prs : List (PD × EF)}, DPs tb W X pos ks vs prs → PPs X pos ks vs (prs.map fun p => (tD X.K tb W (eC p.1), tD X.K tb W p.2))
  | _, _, _, .nil => pps_nil
  | _, _, _, .cons hk hv hr => pps_cons hk hv hr.pps
theorem FzD.merge : ∀ {ps : List (PD × PD)} {kw : List (Key × V)} {acc : List (PD × PD)} {ac : List (Key × V)}, FzD K H z acc ac → FzD K H z ps kw → FzD K H z (mergeD acc ps) (mergeK ac kw)
  | _, _, _, _, h, .nil => h
  | (k, d) :: ps, (k', v) :: kw, acc, ac, h, .cons e f r => FzD.merge (acc := putDk FS.keyD acc k d) (ac := putK ac k' v) (FzD.put e f h) r
theorem pairs_of : ∀ {prs : List (PD × EF)} {δ δ' : Env'} {H : Hp} {z : Zn} {c : Ct} {ps : List (PD × PD)} {Q : List (V × V) → Hp → Prop}, RpE K tb H z δ σ c → (Wf H z fun a => c a + ce a) → disV prs δ = some (ps, δ') → (∀ kv ∈ ps, isKd kv.1 = true) →
    (∀ (kw : List (Key × V)) H' z' c', RpE K tb H' z' δ' σ c' → (Wf H' z' fun a => c' a + ce a) → (Step H z (fun a => c a + ce a) H' z' fun a => c' a + ce a) → (∀ a, 0 < ce a → H' a = H a) → FzD K H' z' ps kw → Q (kw.map fun kv => (kV kv.1, kv.2)) H') →
    tPairs (prs.map fun p => (tD K tb W (eC p.1), tD K tb W p.2)) σ H Q
  | [], δ, δ', H, z, c, ps, Q, hE, w, e, _, k => by
    cases e
    exact k [] H z c hE w (Step.refl _ _ _) (fun _ _ => rfl) .nil
  | (kd, F) :: r, δ, δ', H, z, c, ps, Q, hE, w, e, hk, k => by
    unfold disV at e
    split at e
    · rename_i l δ1 e1
      cases e2 : disV r δ1 with
      | none => rw [e2] at e; cases e
      | some q =>
        rw [e2] at e
        cases e
        obtain ⟨k', hk'⟩ := Option.isSome_iff_exists.mp (show (keyD kd).isSome = true from hk (kd, l.pd) List.mem_cons_self)
        refine ev_go (F := eC kd) (l := .fz kd) hE w rfl fun x H1 z1 c1 hE1 w1 s1 x1 f1 => ?_
        refine ev_go hE1 w1 e1 fun y H2 z2 c2 hE2 w2 s2 x2 f2 => ?_
        refine pairs_of hE2 w2 e2 (fun kv h => hk kv (List.mem_cons_of_mem _ h)) fun kw H3 z3 c3 hE3 w3 s3 x3 f3 => ?_
        have ex : x = kV k' := f1.keyD hk'
        subst ex
        exact k ((k', y) :: kw) H3 z3 c3 hE3 w3 ((s1.trans w1 s2).trans w2 s3) (fun a q => ((x3 a q).trans (x2 a q)).trans (x1 a q)) (.cons hk' (s3.fz w2 f2) f3)
    · cases e
theorem de_disp {keys : List (Option Expr)} {values : List Expr} {prs : List (PD × EF)} (h : DPs tb W X pos keys values prs) (hall : keys.all (·.isSome) = true := by rfl) (hl : keys.length = values.length := by rfl) (h0 : keys ≠ [] := by simp) (h15 : keys.length ≤ 15 := by decide) :
    DE tb W X (.Dict keys values pos) (eDis prs) := (pe_disp h.pps hall hl h0 h15).wk fun σ H Q ⟨δ, z, c, hE, w, h⟩ p hp => by
  unfold eDis at h
  cases e : disV prs δ with
  | none => rw [e] at h; exact h.elim
  | some q =>
    rw [e] at h
    dsimp only at h
    by_cases hk : (q.1.length ≤ 15 && q.1.all fun kv => isKd kv.1) = true
    case neg => rw [if_neg hk] at h; exact h.elim
    rw [if_pos hk] at h
    obtain ⟨hk1, hk2⟩ := Bool.and_eq_true_iff.mp hk
    have np : ∀ a, H a ≠ none → a ≠ p := fun a q e => q (e ▸ hp)
    obtain ⟨w0, s0⟩ := wf_alloc (u := .dK []) w hp trivial
    have hE0 := hE.mono (H' := upd H p (.dK [])) (fun _ q => q) (fun a q => upd_ne (np a (w.zt a q))) fun a q => upd_ne (np a (mut_ne (w.cm a q)))
    refine pairs_of (ce := one p) hE0 w0 e (fun kv hkv => List.all_eq_true.mp hk2 kv hkv) fun kw H1 z1 c1 hE1 w1 s1 x1 f1 => ?_
    have hp1 : H1 p = some (.dK []) := (x1 p (by rw [one_self]; omega)).trans upd_same
    refine ⟨hp1, kw, rfl, by rw [← f1.len]; exact of_decide_eq_true hk1, ?_⟩
    obtain ⟨w2, s2⟩ := Wf.upd (p := p) (o := .dK (mergeK [] kw)) w1 (by rw [one_self]; omega) trivial
    have zn : ∀ b, z1 b → b ≠ p := fun b q e => by
      have h : c1 b + one p b = 0 := w1.zc b q
      rw [e, one_self] at h
      omega
    have cn : ∀ b, 0 < c1 b → b ≠ p := fun b q e => by
      have h : c1 b + one p b ≤ 1 := w1.c1 b
      rw [e, one_self] at h
      rw [e] at q
      omega
    have hE2 := hE1.mono (H' := upd H1 p (.dK (mergeK [] kw))) (fun _ q => q) (fun b q => upd_ne (zn b q)) fun b q => upd_ne (cn b q)
    have f2 := (FzD.merge (acc := []) (ac := []) .nil f1).mono (H' := upd H1 p (.dK (mergeK [] kw))) (z' := z1) (fun _ q => q) fun b q => upd_ne (zn b q)
    exact h (.ref p) _ ⟨z1, c1, one p, hE2, .v (.dik upd_same f2 fun _ => rfl), w2, (s0.trans w0 s1).trans w1 s2⟩
/-! ### list(range(n)), xs[::-1] -/
def eLrg (F : EF) : EF := fun δ => (F δ).p fun d δ1 => match d with
  | .int j => if small62 j && decide (j.toNat ≤ big) then .ok (.lst ((rangeD 0 j.toNat).map .fz)) δ1 else .bad
  | _ => .bad
theorem FzA.rg : ∀ (j : Int), FzA K H z (rangeD 0 j.toNat) (rgV 0 j) := fun j => by
  unfold rangeD rgV
  rw [Int.sub_zero]
  generalize List.range j.toNat = l
  induction l with
  | nil => exact .nil
  | cons x r ih => exact .cons (.int _) ih
theorem de_lrg (hc : X.calm = true) (hg : Gl X "list") (hm : X.mg "list" = none) (hg2 : Gl X "range") (hm2 : X.mg "range" = none) (ha : DE tb W X a F)
    (na : starEach [a] X.env = (false, eval a X.env) :: starEach [] X.env := by rfl) (nb : starEach [.Call (.Name "range" p2) [a] [] q] X.env = (false, eval (.Call (.Name "range" p2) [a] [] q) X.env) :: starEach [] X.env := by rfl) :
    DE tb W X (.Call (.Name "list" p) [.Call (.Name "range" p2) [a] [] q] [] pos) (eLrg F) :=
  (pe_listRg hc hg hm (prg_1 hg2 hm2 ha na) nb).wk fun σ H Q ⟨δ, z, c, hE, w, h⟩ => by
    refine go_P hE w h fun d δ1 v H1 z1 c1 hE1 f1 w1 s1 h1 => ?_
    cases d with
    | int j =>
      dsimp only at h1
      by_cases hk : (small62 j && decide (j.toNat ≤ big)) = true
      case neg => rw [if_neg hk] at h1; exact h1.elim
      rw [if_pos hk] at h1
      obtain ⟨hk1, hk2⟩ := Bool.and_eq_true_iff.mp hk
      unfold small62 at hk1
      obtain ⟨k3, k4⟩ := Bool.and_eq_true_iff.mp hk1
      have k3 := of_decide_eq_true k3
      have k4 := of_decide_eq_true k4
      have hk2 := of_decide_eq_true hk2
      refine ⟨j, f1.int_, ⟨by omega, by omega, k3, k4, by rw [Int.sub_zero]; exact hk2⟩, fun p hp => ?_⟩
      exact h1 _ _ ((NewM.lst w1.zt hp (FzA.rg j)).aft hE1 w1)
    | _ => exact h1.elim
def eRvL (F : EF) : EF := fun δ => (F δ).p fun d δ1 => match d with
  | .list ds => .ok (.lst (ds.reverse.map .fz)) δ1
  | _ => .bad
theorem de_revL {k : Nat} {q3 q4 : Pos} (ha : DE tb W X a F) : DE tb W X (.Subscript a (.Slice none none (some (.UnaryOp .USub (.Constant (.int 1) k q3) q4)) p3) pos) (eRvL F) :=
  (pe_revL ha).wk fun σ H Q ⟨δ, z, c, hE, w, h⟩ => by
    refine go_P hE w h fun d δ1 v H1 z1 c1 hE1 f1 w1 s1 h1 => ?_
    cases d with
    | list ds =>
      obtain ⟨a, vs, rfl, hH, f2⟩ := f1.list
      exact ⟨a, vs, rfl, sqL_of hH, fun p hp => h1 _ _ ((NewM.lst w1.zt hp f2.rev).aft hE1 w1)⟩
    | _ => exact h1.elim
end
end FS
namespace FS
open PySem PySem.Spec L2
section
variable {K : PySem.W.Frag} {tb : Nat → Addr} {H : Hp} {z : Zn} {X : Cx}
/-! ### len of a dict -/
def gLenDA : List PD → Option M
  | [.dict kvs] => some (.fz (.int (kvs.length : Nat)))
  | _ => none
theorem cr_gLenD : CallR X (.builtin "len") (rC X.K tb gLenDA) := fun pins s σ H xs us Q I r ⟨z, ds, m, hz, f, g, q⟩ => by
  unfold gLenDA at g
  split at g
  · cases g
    obtain ⟨v, rfl, f1⟩ := f.one
    cases r with
    | cons ru rr =>
      cases rr
      cases f1 with
      | @dik a kvs0 kw qa hr fd =>
        cases ru
        refine d_len I hr fun t s' I' => ?_
        rw [fd.len] at q
        exact ⟨.int (kw.length : Nat), H, I', ⟨_, rfl⟩, q _ _ (new_int hz)⟩
      | @dit a kvs0 kw qa hr fd =>
        cases ru
        obtain ⟨z0, hd, ys, rel, dd⟩ := dt_rd I.hok hr
        have hl : kw.length = ys.length := Paired.length rel
        rw [fd.len] at q
        refine call_len_dictH hd dd (by rw [← hl]; rw [sizeLine_eq] at z0; omega) ?_
        rw [← hl]
        exact ⟨.int (kw.length : Nat), H, I.tok _, ⟨_, rfl⟩, q _ _ (new_int hz)⟩
  · cases g
end
end FS
/-! ### min, max of two things that are alike -/
namespace PySem.W
open PySem PyProof.Rows
section
variable {prog : Program} {w : World} {A : Around} {E : Value → Shared → Prop} {s : Shared} {a b : Value} {x y : PyData} {as : List Addr} {Q : Value → Shared → Prop}
theorem fs_nm1 : (toString "min" ++ toString ".loop" : String) = "min.loop" := by decide +kernel
theorem fs_nm2 : (toString "max" ++ toString ".loop" : String) = "max.loop" := by decide +kernel
theorem fs_min2 (quiet : A.handled = none) (rd : ReadsAll s.heap [a, b] [x, y] as) (al : AlikeAll [x, y]) (room : A.units + 1 + PyData.depthAll [x, y] < cLine)
    (goal : ∀ (i : Nat) v h' tk bs, [a, b][i]? = some v → Reads h' v (minD x [y]) bs → (∀ c o, s.heap.get? c = some o → h'.get? c = some o) → Q v { s with heap := h', toks := tk }) :
    wpAny (model prog w) A (call (.builtin "min") [a, b]) Q E s := by
  refine call_function_tree F.kind_min F.plain_min F.entry_min (F.args_min2 _ _) (?_ : wpAny _ A.in1 (Builtin.Builtins.bindParams "min" ["key", "default"] 0 ⟨[], []⟩ >>= _) _ _ s)
  refine wpAny_bind (wpAny_of_eq (a := [none, none]) rfl (?_ : wpAny _ A.in1 (newTuple [a, b] >>= _) _ _ s))
  have up : ∀ c o, s.heap.get? c = some o → (s.heap.push { cls := .type "tuple", data := .seq #[a, b] }).get? c = some o := fun c o e => Heap.get?_push_of_some _ e
  have tup : (s.heap.push { cls := .type "tuple", data := .seq #[a, b] }).IsTuple s.heap.objs.size #[a, b] := ⟨_, Heap.get?_push_size _ rfl, rfl, 0, rfl⟩
  have rd1 : ReadsAll (s.heap.push { cls := .type "tuple", data := .seq #[a, b] }) (#[a, b] : Array Value).toList [x, y] as := ReadsAll.keeps up rd
  refine wpAny_bind (wpAny_newObj_type (wpAny_bind (wpAny_mono (iter_tupleW (s := { s with heap := s.heap.push { cls := .type "tuple", data := .seq #[a, b] } }) (A := A.in1) quiet tup fun s₂ e W st infp hw hk => ?_) (fun it s₃ h₃ => h₃) fun _ _ z => z)))
  refine wpAny_bind (wpAny_newObj_type ?_)
  rw [fs_nm1]
  refine wpAny_pure ⟨plainId_quiet F.plain_min_loop _, ?_⟩
  refine codeAny_min_loop_firstH W (s.heap.push { cls := .type "tuple", data := .seq #[a, b] }) hw _ (cmpIn_lt (s := { s with heap := s.heap.push { cls := .type "tuple", data := .seq #[a, b] } }) (A := A.in1) rd1 al (show A.units + 1 + _ < _ from room)) s₂.heap.objs.size (fun q => Nat.lt_irrefl _ (infp _ q)) (fresh_in hk) _ (by show 0 < 2; decide)
    (fun c o q => Heap.get?_push_of_some _ (hk c o q)) (W.frame 0 s₂ _ s₂.toks st (Nat.le_refl _) fun c _ o q => Heap.get?_push_of_some _ q) (Heap.get?_push_size _ rfl) fun v s' hP hm => ?_
  obtain ⟨h', tk, rfl, kk⟩ := moved_old e rfl (Moved.drop_new (tk := s₂.toks) hm (Nat.le_refl _))
  obtain ⟨bs, r, _, _, _⟩ := readsAll_atA rd1 _ v hP
  have fold := (argBest_fold dataLt PyData.none x [y] 1 (Nat.le_refl _)).2
  refine goal _ v h' tk bs (by simpa using hP) (reads_keeps kk ?_) fun c o q => kk c o (up c o q)
  unfold minD
  rw [show ([y] : List PyData) = [y].take 1 from rfl, ← fold]
  exact r
theorem fs_max2 (quiet : A.handled = none) (rd : ReadsAll s.heap [a, b] [x, y] as) (al : AlikeAll [x, y]) (room : A.units + 1 + PyData.depthAll [x, y] < cLine)
    (goal : ∀ (i : Nat) v h' tk bs, [a, b][i]? = some v → Reads h' v (maxD x [y]) bs → (∀ c o, s.heap.get? c = some o → h'.get? c = some o) → Q v { s with heap := h', toks := tk }) :
    wpAny (model prog w) A (call (.builtin "max") [a, b]) Q E s := by
  refine call_function_tree F.kind_max F.plain_max F.entry_max (F.args_max2 _ _) (?_ : wpAny _ A.in1 (Builtin.Builtins.bindParams "max" ["key", "default"] 0 ⟨[], []⟩ >>= _) _ _ s)
  refine wpAny_bind (wpAny_of_eq (a := [none, none]) rfl (?_ : wpAny _ A.in1 (newTuple [a, b] >>= _) _ _ s))
  have up : ∀ c o, s.heap.get? c = some o → (s.heap.push { cls := .type "tuple", data := .seq #[a, b] }).get? c = some o := fun c o e => Heap.get?_push_of_some _ e
  have tup : (s.heap.push { cls := .type "tuple", data := .seq #[a, b] }).IsTuple s.heap.objs.size #[a, b] := ⟨_, Heap.get?_push_size _ rfl, rfl, 0, rfl⟩
  have rd1 : ReadsAll (s.heap.push { cls := .type "tuple", data := .seq #[a, b] }) (#[a, b] : Array Value).toList [x, y] as := ReadsAll.keeps up rd
  refine wpAny_bind (wpAny_newObj_type (wpAny_bind (wpAny_mono (iter_tupleW (s := { s with heap := s.heap.push { cls := .type "tuple", data := .seq #[a, b] } }) (A := A.in1) quiet tup fun s₂ e W st infp hw hk => ?_) (fun it s₃ h₃ => h₃) fun _ _ z => z)))
  refine wpAny_bind (wpAny_newObj_type ?_)
  rw [fs_nm2]
  refine wpAny_pure ⟨plainId_quiet F.plain_max_loop _, ?_⟩
  refine codeAny_max_loop_firstH W (s.heap.push { cls := .type "tuple", data := .seq #[a, b] }) hw _ (cmpIn_gt (s := { s with heap := s.heap.push { cls := .type "tuple", data := .seq #[a, b] } }) (A := A.in1) rd1 al (show A.units + 1 + _ < _ from room)) s₂.heap.objs.size (fun q => Nat.lt_irrefl _ (infp _ q)) (fresh_in hk) _ (by show 0 < 2; decide)
    (fun c o q => Heap.get?_push_of_some _ (hk c o q)) (W.frame 0 s₂ _ s₂.toks st (Nat.le_refl _) fun c _ o q => Heap.get?_push_of_some _ q) (Heap.get?_push_size _ rfl) fun v s' hP hm => ?_
  obtain ⟨h', tk, rfl, kk⟩ := moved_old e rfl (Moved.drop_new (tk := s₂.toks) hm (Nat.le_refl _))
  obtain ⟨bs, r, _, _, _⟩ := readsAll_atA rd1 _ v hP
  have fold := (argBest_fold (fun p q => dataLt q p) PyData.none x [y] 1 (Nat.le_refl _)).2
  refine goal _ v h' tk bs (by simpa using hP) (reads_keeps kk ?_) fun c o q => kk c o (up c o q)
  unfold maxD
  rw [show ([y] : List PyData) = [y].take 1 from rfl, ← fold]
  exact r
end
end PySem.W
namespace FS
open PySem PySem.Spec L2
section
variable {K : PySem.W.Frag} {tb : Nat → Addr} {H : Hp} {z : Zn} {X : Cx}
def gMin2 : List PD → Option M
  | [x, y] => if alikeB [x, y] && okNs 12 [x, y] then some (.fz (PySem.W.minD x [y])) else none
  | _ => none
def gMax2 : List PD → Option M
  | [x, y] => if alikeB [x, y] && okNs 12 [x, y] then some (.fz (PySem.W.maxD x [y])) else none
  | _ => none
theorem cr_gMin2 (hc : X.calm = true) (hu : X.A.units + 64 < cLine) : CallR X (.builtin "min") (rC X.K tb gMin2) := fun pins s σ H xs us Q I r ⟨z, ds, m, hz, f, g, q⟩ => by
  unfold gMin2 at g
  split at g
  · split at g <;> cases g
    rename_i x y hok
    have hok' := Bool.and_eq_true_iff.mp hok
    have hp := okNs_plain hok'.2
    obtain ⟨as, rs⟩ := rdsAll I f r hp.1
    obtain ⟨v1, v2, rfl, _, _⟩ := f.two
    obtain ⟨u1, u2, rfl, r1, r2⟩ := vals2 r
    refine PySem.W.fs_min2 (I.ok.hd hc) rs (alikeB_of hok'.1) (by have := hp.2; omega) fun i v h' tk bs hv hr hk => ?_
    obtain ⟨w, rw', fw⟩ := fz_reads_at I f (.cons r1 (.cons r2 .nil)) hk hv hr hp.1
    exact ⟨w, H, I.kept hk, rw', q _ _ (NewM.at hz fw)⟩
  · cases g
theorem cr_gMax2 (hc : X.calm = true) (hu : X.A.units + 64 < cLine) : CallR X (.builtin "max") (rC X.K tb gMax2) := fun pins s σ H xs us Q I r ⟨z, ds, m, hz, f, g, q⟩ => by
  unfold gMax2 at g
  split at g
  · split at g <;> cases g
    rename_i x y hok
    have hok' := Bool.and_eq_true_iff.mp hok
    have hp := okNs_plain hok'.2
    obtain ⟨as, rs⟩ := rdsAll I f r hp.1
    obtain ⟨v1, v2, rfl, _, _⟩ := f.two
    obtain ⟨u1, u2, rfl, r1, r2⟩ := vals2 r
    refine PySem.W.fs_max2 (I.ok.hd hc) rs (alikeB_of hok'.1) (by have := hp.2; omega) fun i v h' tk bs hv hr hk => ?_
    obtain ⟨w, rw', fw⟩ := fz_reads_at I f (.cons r1 (.cons r2 .nil)) hk hv hr hp.1
    exact ⟨w, H, I.kept hk, rw', q _ _ (NewM.at hz fw)⟩
  · cases g
end
theorem CalM.mono {P : Program} {w : World} {K : PySem.W.Frag} {mg : Str → Option Value} {base : Heap} {tb : Nat → Addr} {j k t : Nat} {x : Str} {ps : List Str} {sem : Sem} (C : CalM P w K mg base tb j t x ps sem) (h : j ≤ k) : CalM P w K mg base tb k t x ps sem := by
  obtain ⟨f, fd, F, r⟩ := C.ex
  exact ⟨f, fd, F.mono h, r⟩
end FS
namespace FX
open PySem PySem.Spec L2 FS
noncomputable section
def s_is_number : SF := (sRt (eAn (eU1 (gIsa PyData.isInt) (eN 0)) (eAn (eNt (eU1 (gIsa PyData.isBool) (eN 0))) (eCh gLe gLe (eN 1) (eN 0) (eN 2)))))
def m_is_number : Sem := semOf 3 3 [] s_is_number
def s_is_point : SF := (sSq (sIf (tOr' (tNt (tTru (eU1 (gIsa PyData.isTuple) (eN 0)))) (tE (eB2 gNe (eDs gLen (aV (eN 0) aN)) (eC (.int 2)))))
    (sRt (eC (.bool false)))
    sNl)
  (sRt (eAn (eCl m_is_number (aV (eB2 gIx (eN 0) (eC (.int 0))) (aV (eC (.int 0)) (aV (eC (.int 4000)) aN)))) (eCl m_is_number (aV (eB2 gIx (eN 0) (eC (.int 1))) (aV (eC (.int 0)) (aV (eC (.int 4000)) aN)))))))
def m_is_point : Sem := semOf 1 1 [] s_is_point
def s_check_point : SF := (sIf (tNt (tTru (eCl m_is_point (aV (eN 0) aN))))
    (sRs 1)
    sNl)
def m_check_point : Sem := semOf 1 1 [] s_check_point
def s_check_formation : SF := (sSq (sIf (tOr' (tNt (tTru (eU1 (gIsa PyData.isList) (eN 0)))) (tNt (tE (eCh gLe gLe (eC (.int 1)) (eDs gLen (aV (eN 0) aN)) (eC (.int 60))))))
    (sRs 3)
    sNl)
  (sSq (sFor (iE (eN 0)) (gN 1)
    (sEx (eCl m_check_point (aV (eN 1) aN))))
  (sIf (tE (eB2 gNe (eU1 gLenSet (eN 0)) (eDs gLen (aV (eN 0) aN))))
    (sRs 3)
    sNl)))
def m_check_formation : Sem := semOf 2 1 [] s_check_formation
def s_squared : SF := (sRt (eB2 gAdd (eB2 gMul (eB2 gSub (eB2 gIx (eN 0) (eC (.int 0))) (eB2 gIx (eN 1) (eC (.int 0)))) (eB2 gSub (eB2 gIx (eN 0) (eC (.int 0))) (eB2 gIx (eN 1) (eC (.int 0))))) (eB2 gMul (eB2 gSub (eB2 gIx (eN 0) (eC (.int 1))) (eB2 gIx (eN 1) (eC (.int 1)))) (eB2 gSub (eB2 gIx (eN 0) (eC (.int 1))) (eB2 gIx (eN 1) (eC (.int 1)))))))
def m_squared : Sem := semOf 2 2 [] s_squared
def s_least_spacing : SF := (sSq (sAs 1 (eC .none))
  (sSq (sFor (iR rng1 (aV (eDs gLen (aV (eN 0) aN)) aN)) (gN 2)
    (sFor (iR rng2 (aV (eB2 gAdd (eN 2) (eC (.int 1))) (aV (eDs gLen (aV (eN 0) aN)) aN))) (gN 3)
    (sSq (sAs 4 (eCl m_squared (aV (eB2 gIx (eN 0) (eN 2)) (aV (eB2 gIx (eN 0) (eN 3)) aN))))
  (sIf (tOr' (tE (eB2 gIs (eN 1) (eC .none))) (tE (eB2 gLt (eN 4) (eB2 gIx (eN 1) (eC (.int 0))))))
    (sAs 1 (eDs gTup (aV (eN 4) (aV (eN 2) (aV (eN 3) aN)))))
    sNl))))
  (sRt (eN 1))))
def m_least_spacing : Sem := semOf 5 1 [] s_least_spacing
def s_spacing : SF := (sSq (sEx (eCl m_check_formation (aV (eN 0) aN)))
  (sRt (eCl m_least_spacing (aV (eN 0) aN))))
def m_spacing : Sem := semOf 1 1 [] s_spacing
def s__law_mixed : SF := (sSq (sAs 2 (eB2 gMod (eB2 gAdd (eB2 gAdd (eB2 gMul (eN 0) (eC (.int 48271))) (eB2 gMul (eN 1) (eC (.int 69621)))) (eC (.int 12345))) (eC (.int 2147483647))))
  (sRt (eB2 gMod (eB2 gAdd (eB2 gMul (eN 2) (eB2 gAdd (eB2 gDiv (eN 2) (eC (.int 65536))) (eC (.int 3)))) (eN 1)) (eC (.int 2147483647)))))
def m__law_mixed : Sem := semOf 3 2 [] s__law_mixed
def s__law_numbers : SF := (sSq (sAs 1 (eDs gLst aN))
  (sSq (sFor (iE (eN 0)) (gN 2)
    (sIf (tE (eB2 gGe (eN 2) (eB2 gPow (eC (.int 10)) (eC (.int 18)))))
    (sSq (sAs 3 (eN 2))
  (sFor (iR rng1 (aV (eC (.int 60)) aN)) (gN 4)
    (sIf (tE (eB2 gGt (eN 3) (eC (.int 0))))
    (sSq (sApp 1 (eB2 gMod (eN 3) (eC (.int 1000000))))
  (sAs 3 (eB2 gDiv (eN 3) (eC (.int 1000000)))))
    sNl)))
    (sSq (sApp 1 (eB2 gMod (eN 2) (eC (.int 1000000))))
  (sFor (iR rng1 (aV (eC (.int 5)) aN)) (gN 4)
    (sApp 1 (eB2 gMod (eCl m__law_mixed (aV (eCl m__law_mixed (aV (eB2 gMod (eN 2) (eC (.int 2147483647))) (aV (eN 4) aN))) (aV (eB2 gAdd (eN 4) (eC (.int 7))) aN))) (eC (.int 1000000))))))))
  (sRt (eMv 1))))
def m__law_numbers : Sem := semOf 5 1 [] s__law_numbers
def s__law_draw : SF := (sSq (sAs 1 (ePk (eB2 gIx (eN 0) (eC (.int 1)))))
  (sSq (sSt 0 (eC (.int 1)) (eB2 gAdd (eN 1) (eC (.int 1))))
  (sSq (sIf (tPk (tE (eB2 gLt (eN 1) (eDs gLen (aV (eB2 gIx (eN 0) (eC (.int 0))) aN)))))
    (sRt (ePk (eB2 gIx (eB2 gIx (eN 0) (eC (.int 0))) (eN 1))))
    sNl)
  (sSq (sAs 2 (eB2 gAdd (eC (.int 1)) (eN 1)))
  (sSq (sIf (tPk (tE (eB2 gGt (eDs gLen (aV (eB2 gIx (eN 0) (eC (.int 0))) aN)) (eC (.int 0)))))
    (sAs 2 (ePk (eB2 gAdd (eN 2) (eB2 gMul (eC (.int 1009)) (eB2 gIx (eB2 gIx (eN 0) (eC (.int 0))) (eC (.int 0)))))))
    sNl)
  (sRt (eB2 gMod (eCl m__law_mixed (aV (eCl m__law_mixed (aV (eN 2) (aV (eN 1) aN))) (aV (eC (.int 5)) aN))) (eC (.int 1000000)))))))))
def m__law_draw : Sem := semOf 3 1 [0] s__law_draw
def s__law_equal (r__law_equal : Sem) (r__law_all_equal : Sem) : SF := (sSq (sIf (tTru (eU1 (gIsa PyData.isList) (eN 1)))
    (sSq (sIf (tOr' (tNt (tTru (eU1 (gIsa PyData.isList) (eN 0)))) (tE (eB2 gNe (eDs gLen (aV (eN 0) aN)) (eDs gLen (aV (eN 1) aN)))))
    (sRt (eC (.bool false)))
    sNl)
  (sRt (eCl r__law_all_equal (aV (eN 0) (aV (eN 1) aN)))))
    sNl)
  (sSq (sIf (tTru (eU1 (gIsa PyData.isTuple) (eN 1)))
    (sSq (sIf (tOr' (tNt (tTru (eU1 (gIsa PyData.isTuple) (eN 0)))) (tE (eB2 gNe (eDs gLen (aV (eN 0) aN)) (eDs gLen (aV (eN 1) aN)))))
    (sRt (eC (.bool false)))
    sNl)
  (sRt (eCl r__law_all_equal (aV (eN 0) (aV (eN 1) aN)))))
    sNl)
  (sSq (sIf (tTru (eU1 (gIsa PyData.isBool) (eN 1)))
    (sRt (eAn (eU1 (gIsa PyData.isBool) (eN 0)) (eB2 gEq (eN 0) (eN 1))))
    sNl)
  (sSq (sIf (tTru (eU1 (gIsa PyData.isInt) (eN 1)))
    (sRt (eAn (eU1 (gIsa PyData.isInt) (eN 0)) (eAn (eNt (eU1 (gIsa PyData.isBool) (eN 0))) (eB2 gEq (eN 0) (eN 1)))))
    sNl)
  (sSq (sIf (tTru (eU1 (gIsa PyData.isStr) (eN 1)))
    (sRt (eAn (eU1 (gIsa PyData.isStr) (eN 0)) (eB2 gEq (eN 0) (eN 1))))
    sNl)
  (sRt (eB2 gIs (eN 0) (eC .none))))))))
def s__law_all_equal (r__law_equal : Sem) (r__law_all_equal : Sem) : SF := (sSq (sFor (iR rng1 (aV (eDs gLen (aV (eN 1) aN)) aN)) (gN 2)
    (sIf (tNt (tTru (eCl r__law_equal (aV (eB2 gIx (eN 0) (eN 2)) (aV (eB2 gIx (eN 1) (eN 2)) aN)))))
    (sRt (eC (.bool false)))
    sNl))
  (sRt (eC (.bool true))))
mutual
def m__law_equal : Nat → Sem
  | 0 => fun _ => .bad
  | n + 1 => semOf 2 2 [] (s__law_equal (m__law_equal n) (m__law_all_equal n))
def m__law_all_equal : Nat → Sem
  | 0 => fun _ => .bad
  | n + 1 => semOf 3 2 [] (s__law_all_equal (m__law_equal n) (m__law_all_equal n))
end
def s__law_formation : SF := (sSq (sAs 3 (eDs gLst aN))
  (sSq (sFor (iR rng1 (aV (eN 1) aN)) (gN 4)
    (sSq (sAs 5 (eDs gTup (aV (eB2 gMod (eCl m__law_draw (aIo 0 aN)) (eN 2)) (aV (eB2 gMod (eCl m__law_draw (aIo 0 aN)) (eN 2)) aN))))
  (sIf (tPk (tE (eB2 gNinL (eN 5) (eN 3))))
    (sApp 3 (eN 5))
    sNl)))
  (sRt (eMv 3))))
def m__law_formation : Sem := semOf 6 3 [0] s__law_formation
def s__law_far : SF := (sRt (eB2 gAdd (eB2 gPow (eB2 gSub (eB2 gIx (eN 0) (eC (.int 0))) (eB2 gIx (eN 1) (eC (.int 0)))) (eC (.int 2))) (eB2 gPow (eB2 gSub (eB2 gIx (eN 0) (eC (.int 1))) (eB2 gIx (eN 1) (eC (.int 1)))) (eC (.int 2)))))
def m__law_far : Sem := semOf 2 2 [] s__law_far
def s__law_spacing : SF := (sSq (sAs 1 (eDs gLst aN))
  (sSq (sFor (iR rng1 (aV (eDs gLen (aV (eN 0) aN)) aN)) (gN 2)
    (sAs 1 (eB2 gAdd (eN 1) (eLc [3] (iR rng1 (aV (eN 2) aN)) (gN 3) tY (eDs gTup (aV (eCl m__law_far (aV (eB2 gIx (eN 0) (eN 3)) (aV (eB2 gIx (eN 0) (eN 2)) aN))) (aV (eN 3) (aV (eN 2) aN))))))))
  (sRt (eIf (tE (eB2 gGt (eDs gLen (aV (eN 1) aN)) (eC (.int 0)))) (eDs gMin (aV (eN 1) aN)) (eC .none)))))
def m__law_spacing : Sem := semOf 4 1 [] s__law_spacing
def s__law_wrong_points : SF := (sRt (eDs gLst (aV (eDs gTup (aV (eC (.int 4001)) (aV (eC (.int 0)) aN))) (aV (eDs gTup (aV (eC (.int 0)) (aV (eC (.int 4001)) aN))) (aV (eDs gTup (aV (eU1 gNeg (eC (.int 1))) (aV (eC (.int 0)) aN))) (aV (eDs gTup (aV (eC (.int 0)) aN)) (aV (eDs gTup (aV (eC (.int 0)) (aV (eC (.int 0)) (aV (eC (.int 0)) aN)))) (aV (eDs gLst (aV (eC (.int 0)) (aV (eC (.int 0)) aN))) (aV (eC .none) (aV (eDs gTup (aV (eC (.bool true)) (aV (eC (.int 0)) aN))) (aV (eDs gTup (aV (eC (.str (Str.ofString "0"))) (aV (eC (.int 0)) aN))) (aV (eC (.int 0)) aN))))))))))))
def m__law_wrong_points : Sem := semOf 0 0 [] s__law_wrong_points
def s_divisor : SF := (sSq (sWh (tE (eB2 gNe (eN 1) (eC (.int 0))))
    (sPar [0, 1] (aV (eN 1) (aV (eB2 gMod (eN 0) (eN 1)) aN))))
  (sRt (eN 0)))
def m_divisor : Sem := semOf 2 2 [] s_divisor
def s_fraction : SF := (sSq (sAs 2 (eCl m_divisor (aV (eDs gAbs (aV (eN 0) aN)) (aV (eDs gAbs (aV (eN 1) aN)) aN))))
  (sSq (sIf (tE (eB2 gLt (eN 1) (eC (.int 0))))
    (sPar [0, 1] (aV (eU1 gNeg (eN 0)) (aV (eU1 gNeg (eN 1)) aN)))
    sNl)
  (sRt (eDs gTup (aV (eB2 gDiv (eN 0) (eN 2)) (aV (eB2 gDiv (eN 1) (eN 2)) aN))))))
def m_fraction : Sem := semOf 3 2 [] s_fraction
def s_is_whole : SF := (sRt (eAn (eU1 (gIsa PyData.isInt) (eN 0)) (eNt (eU1 (gIsa PyData.isBool) (eN 0)))))
def m_is_whole : Sem := semOf 1 1 [] s_is_whole
def s_is_fraction : SF := (sSq (sIf (tOr' (tNt (tTru (eU1 (gIsa PyData.isTuple) (eN 0)))) (tOr' (tE (eB2 gNe (eDs gLen (aV (eN 0) aN)) (eC (.int 2)))) (tOr' (tNt (tTru (eCl m_is_whole (aV (eB2 gIx (eN 0) (eC (.int 0))) aN)))) (tNt (tTru (eCl m_is_whole (aV (eB2 gIx (eN 0) (eC (.int 1))) aN)))))))
    (sRt (eC (.bool false)))
    sNl)
  (sRt (eAn (eB2 gGt (eB2 gIx (eN 0) (eC (.int 1))) (eC (.int 0))) (eB2 gEq (eCl m_divisor (aV (eDs gAbs (aV (eB2 gIx (eN 0) (eC (.int 0))) aN)) (aV (eB2 gIx (eN 0) (eC (.int 1))) aN))) (eC (.int 1))))))
def m_is_fraction : Sem := semOf 1 1 [] s_is_fraction
def s_check_move : SF := (sSq (sIf (tOr' (tNt (tTru (eU1 (gIsa PyData.isTuple) (eN 0)))) (tE (eB2 gNe (eDs gLen (aV (eN 0) aN)) (eC (.int 3)))))
    (sRs 4)
    sNl)
  (sSq (sEx (eCl m_check_formation (aV (eB2 gIx (eN 0) (eC (.int 0))) aN)))
  (sSq (sEx (eCl m_check_formation (aV (eB2 gIx (eN 0) (eC (.int 1))) aN)))
  (sSq (sIf (tE (eB2 gNe (eDs gLen (aV (eB2 gIx (eN 0) (eC (.int 0))) aN)) (eDs gLen (aV (eB2 gIx (eN 0) (eC (.int 1))) aN))))
    (sRs 4)
    sNl)
  (sIf (tNt (tTru (eCl m_is_number (aV (eB2 gIx (eN 0) (eC (.int 2))) (aV (eC (.int 1)) (aV (eC (.int 64)) aN))))))
    (sRs 4)
    sNl)))))
def m_check_move : Sem := semOf 1 1 [] s_check_move
def s_check_show : SF := (sSq (sIf (tOr' (tNt (tTru (eU1 (gIsa PyData.isTuple) (eN 0)))) (tE (eB2 gNe (eDs gLen (aV (eN 0) aN)) (eC (.int 2)))))
    (sRs 5)
    sNl)
  (sSq (sAg (gUp [2, 3]) (eN 0))
  (sSq (sIf (tOr' (tNt (tTru (eU1 (gIsa PyData.isList) (eN 2)))) (tNt (tE (eCh gLe gLe (eC (.int 1)) (eDs gLen (aV (eN 2) aN)) (eC (.int 40))))))
    (sRs 5)
    sNl)
  (sSq (sFor (iE (eN 2)) (gN 1)
    (sEx (eCl m_check_formation (aV (eN 1) aN))))
  (sSq (sIf (tTru (eLc [1] (iE (eN 2)) (gN 1) (tE (eB2 gNe (eDs gLen (aV (eN 1) aN)) (eDs gLen (aV (eB2 gIx (eN 2) (eC (.int 0))) aN)))) (eN 1)))
    (sRs 5)
    sNl)
  (sSq (sIf (tOr' (tNt (tTru (eU1 (gIsa PyData.isList) (eN 3)))) (tE (eB2 gNe (eDs gLen (aV (eN 3) aN)) (eB2 gSub (eDs gLen (aV (eN 2) aN)) (eC (.int 1))))))
    (sRs 5)
    sNl)
  (sIf (tTru (eLc [4] (iE (eN 3)) (gN 4) (tNt (tTru (eCl m_is_number (aV (eN 4) (aV (eC (.int 1)) (aV (eC (.int 64)) aN)))))) (eN 4)))
    (sRs 5)
    sNl)))))))
def m_check_show : Sem := semOf 5 1 [] s_check_show
def s_check_time : SF := (sIf (tOr' (tNt (tTru (eCl m_is_fraction (aV (eN 1) aN)))) (tOr' (tE (eB2 gLt (eB2 gIx (eN 1) (eC (.int 0))) (eC (.int 0)))) (tE (eB2 gGt (eB2 gIx (eN 1) (eC (.int 0))) (eB2 gMul (eB2 gIx (eN 0) (eC (.int 2))) (eB2 gIx (eN 1) (eC (.int 1))))))))
    (sRs 2)
    sNl)
def m_check_time : Sem := semOf 2 2 [] s_check_time
def s_part_way : SF := (sSq (sAg (gUp [5, 6]) (eN 3))
  (sSq (sAs 4 (eB2 gMul (eN 2) (eN 6)))
  (sRt (eDs gTupOf (aV (eLc [7] (iR rng1 (aV (eC (.int 2)) aN)) (gN 7) tY (eCl m_fraction (aV (eB2 gAdd (eB2 gMul (eB2 gIx (eN 0) (eN 7)) (eB2 gSub (eN 4) (eN 5))) (eB2 gMul (eB2 gIx (eN 1) (eN 7)) (eN 5))) (aV (eN 4) aN)))) aN)))))
def m_part_way : Sem := semOf 8 4 [] s_part_way
def s_all_places : SF := (sRt (eLc [2] (iR rng1 (aV (eDs gLen (aV (eB2 gIx (eN 0) (eC (.int 0))) aN)) aN)) (gN 2) tY (eCl m_part_way (aV (eB2 gIx (eB2 gIx (eN 0) (eC (.int 0))) (eN 2)) (aV (eB2 gIx (eB2 gIx (eN 0) (eC (.int 1))) (eN 2)) (aV (eB2 gIx (eN 0) (eC (.int 2))) (aV (eN 1) aN)))))))
def m_all_places : Sem := semOf 3 2 [] s_all_places
def s_places_at : SF := (sSq (sEx (eCl m_check_move (aV (eN 0) aN)))
  (sSq (sEx (eCl m_check_time (aV (eN 0) (aV (eN 1) aN))))
  (sRt (eCl m_all_places (aV (eN 0) (aV (eN 1) aN))))))
def m_places_at : Sem := semOf 2 2 [] s_places_at
def s_all_counts : SF := (sSq (sEx (eCl m_check_show (aV (eN 0) aN)))
  (sRt (eDs gSum (aV (eB2 gIx (eN 0) (eC (.int 1))) aN))))
def m_all_counts : Sem := semOf 1 1 [] s_all_counts
def s__law_two : SF := (sSq (sAs 3 (eCl m__law_formation (aIo 0 (aV (eN 1) (aV (eN 2) aN)))))
  (sSq (sAs 4 (eCl m__law_formation (aIo 0 (aV (eN 1) (aV (eN 2) aN)))))
  (sSq (sAs 5 (eDs gMin (aV (eDs gLen (aV (eN 3) aN)) (aV (eDs gLen (aV (eN 4) aN)) aN))))
  (sRt (eDs gTup (aV (eSl (eN 3) oN (oE (eN 5))) (aV (eSl (eN 4) oN (oE (eN 5))) aN)))))))
def m__law_two : Sem := semOf 6 3 [0] s__law_two
def s__law_refused_v3 : SF := (sTr (sSq (sIf (tE (eB2 gEq (eN 0) (eC (.str (Str.ofString "move")))))
    (sEx (eCl m_places_at (aV (eN 1) (aV (eDs gTup (aV (eC (.int 0)) (aV (eC (.int 1)) aN))) aN))))
    (sEx (eCl m_all_counts (aV (eN 1) aN))))
  (sRt (eC (.str (Str.ofString ""))))) (noExs [(1, (sRt (eC (.str (Str.ofString "point"))))), (3, (sRt (eC (.str (Str.ofString "formation"))))), (4, (sRt (eC (.str (Str.ofString "move"))))), (5, (sRt (eC (.str (Str.ofString "show")))))]))
def m__law_refused_v3 : Sem := semOf 2 2 [] s__law_refused_v3
def s_check_number : SF := (sIf (tNt (tTru (eCl m_is_number (aV (eN 0) (aV (eN 1) (aV (eN 2) aN))))))
    (sRs 2)
    sNl)
def m_check_number : Sem := semOf 3 3 [] s_check_number
def s_measures : SF := (sSq (sAg (gUp [7, 8, 9]) (eN 0))
  (sSq (sAs 3 (eCl m_squared (aV (eB2 gIx (eN 7) (eN 1)) (aV (eB2 gIx (eN 7) (eN 2)) aN))))
  (sSq (sAs 4 (eCl m_squared (aV (eB2 gIx (eN 8) (eN 1)) (aV (eB2 gIx (eN 8) (eN 2)) aN))))
  (sSq (sAs 5 (eC (.int 0)))
  (sSq (sFor (iR rng1 (aV (eC (.int 2)) aN)) (gN 6)
    (sAug 5 (fun i j => i + j) (eB2 gMul (eB2 gSub (eB2 gIx (eB2 gIx (eN 7) (eN 2)) (eN 6)) (eB2 gIx (eB2 gIx (eN 7) (eN 1)) (eN 6))) (eB2 gSub (eB2 gIx (eB2 gIx (eN 8) (eN 2)) (eN 6)) (eB2 gIx (eB2 gIx (eN 8) (eN 1)) (eN 6))))))
  (sRt (eDs gTup (aV (eN 3) (aV (eN 4) (aV (eN 5) aN))))))))))
def m_measures : Sem := semOf 10 3 [] s_measures
def s_nearest_pair : SF := (sSq (sAg (gUp [4, 5, 6]) (eCl m_measures (aV (eN 0) (aV (eN 1) (aV (eN 2) aN)))))
  (sSq (sAs 3 (eB2 gSub (eB2 gAdd (eN 4) (eN 5)) (eB2 gMul (eC (.int 2)) (eN 6))))
  (sSq (sIf (tOr' (tE (eB2 gEq (eN 3) (eC (.int 0)))) (tE (eB2 gGe (eN 6) (eN 4))))
    (sRt (eDs gTup (aV (eDs gTup (aV (eN 4) (aV (eC (.int 1)) aN))) (aV (eDs gTup (aV (eC (.int 0)) (aV (eC (.int 1)) aN))) aN))))
    sNl)
  (sSq (sIf (tE (eB2 gGe (eN 6) (eN 5)))
    (sRt (eDs gTup (aV (eDs gTup (aV (eN 5) (aV (eC (.int 1)) aN))) (aV (eDs gTup (aV (eB2 gIx (eN 0) (eC (.int 2))) (aV (eC (.int 1)) aN))) aN))))
    sNl)
  (sRt (eDs gTup (aV (eCl m_fraction (aV (eB2 gSub (eB2 gMul (eN 4) (eN 5)) (eB2 gMul (eN 6) (eN 6))) (aV (eN 3) aN))) (aV (eCl m_fraction (aV (eB2 gMul (eB2 gIx (eN 0) (eC (.int 2))) (eB2 gSub (eN 4) (eN 6))) (aV (eN 3) aN))) aN))))))))
def m_nearest_pair : Sem := semOf 7 3 [] s_nearest_pair
def s__law_equal_v1 (r__law_equal : Sem) (r__law_all_equal : Sem) : SF := (sSq (sIf (tTru (eU1 (gIsa PyData.isList) (eN 1)))
    (sRt (eAn (eU1 (gIsa PyData.isList) (eN 0)) (eAn (eB2 gEq (eDs gLen (aV (eN 0) aN)) (eDs gLen (aV (eN 1) aN))) (eCl r__law_all_equal (aV (eN 0) (aV (eN 1) aN))))))
    sNl)
  (sSq (sIf (tTru (eU1 (gIsa PyData.isTuple) (eN 1)))
    (sRt (eAn (eU1 (gIsa PyData.isTuple) (eN 0)) (eAn (eB2 gEq (eDs gLen (aV (eN 0) aN)) (eDs gLen (aV (eN 1) aN))) (eCl r__law_all_equal (aV (eN 0) (aV (eN 1) aN))))))
    sNl)
  (sSq (sIf (tTru (eU1 (gIsa PyData.isBool) (eN 1)))
    (sRt (eAn (eU1 (gIsa PyData.isBool) (eN 0)) (eB2 gEq (eN 0) (eN 1))))
    sNl)
  (sSq (sIf (tTru (eU1 (gIsa PyData.isInt) (eN 1)))
    (sRt (eAn (eU1 (gIsa PyData.isInt) (eN 0)) (eAn (eNt (eU1 (gIsa PyData.isBool) (eN 0))) (eB2 gEq (eN 0) (eN 1)))))
    sNl)
  (sSq (sIf (tTru (eU1 (gIsa PyData.isStr) (eN 1)))
    (sRt (eAn (eU1 (gIsa PyData.isStr) (eN 0)) (eB2 gEq (eN 0) (eN 1))))
    sNl)
  (sRt (eB2 gIs (eN 0) (eC .none))))))))
def s__law_all_equal_v1 (r__law_equal : Sem) (r__law_all_equal : Sem) : SF := (sSq (sFor (iR rng1 (aV (eDs gLen (aV (eN 1) aN)) aN)) (gN 2)
    (sIf (tNt (tTru (eCl r__law_equal (aV (eB2 gIx (eN 0) (eN 2)) (aV (eB2 gIx (eN 1) (eN 2)) aN)))))
    (sRt (eC (.bool false)))
    sNl))
  (sRt (eC (.bool true))))
mutual
def m__law_equal_v1 : Nat → Sem
  | 0 => fun _ => .bad
  | n + 1 => semOf 2 2 [] (s__law_equal_v1 (m__law_equal_v1 n) (m__law_all_equal_v1 n))
def m__law_all_equal_v1 : Nat → Sem
  | 0 => fun _ => .bad
  | n + 1 => semOf 3 2 [] (s__law_all_equal_v1 (m__law_equal_v1 n) (m__law_all_equal_v1 n))
end
def s__law_point : SF := (sRt (eDs gTup (aV (eB2 gMod (eCl m__law_draw (aIo 0 aN)) (eB2 gAdd (eN 1) (eC (.int 1)))) (aV (eB2 gMod (eCl m__law_draw (aIo 0 aN)) (eB2 gAdd (eN 1) (eC (.int 1)))) aN))))
def m__law_point : Sem := semOf 2 2 [0] s__law_point
def s__law_formation_v1 : SF := (sSq (sAs 3 (eDs gLst aN))
  (sSq (sAs 4 (eC (.int 0)))
  (sSq (sWh (tPk (tE (eB2 gLt (eDs gLen (aV (eN 3) aN)) (eN 1))))
    (sSq (sAs 5 (eCl m__law_point (aIo 0 (aV (eN 2) aN))))
  (sSq (sAs 4 (eB2 gAdd (eN 4) (eC (.int 1))))
  (sSq (sIf (tE (eB2 gGt (eN 4) (eC (.int 40))))
    (sAs 5 (ePk (eDs gTup (aV (eB2 gMod (eB2 gMul (eDs gLen (aV (eN 3) aN)) (eC (.int 7))) (eB2 gAdd (eN 2) (eC (.int 1)))) (aV (eB2 gMod (eB2 gDiv (eB2 gMul (eDs gLen (aV (eN 3) aN)) (eC (.int 7))) (eB2 gAdd (eN 2) (eC (.int 1)))) (eB2 gAdd (eN 2) (eC (.int 1)))) aN)))))
    sNl)
  (sSq (sIf (tE (eB2 gGt (eN 4) (eC (.int 80))))
    (sAs 5 (ePk (eDs gTup (aV (eB2 gDiv (eDs gLen (aV (eN 3) aN)) (eB2 gAdd (eN 2) (eC (.int 1)))) (aV (eB2 gMod (eDs gLen (aV (eN 3) aN)) (eB2 gAdd (eN 2) (eC (.int 1)))) aN)))))
    sNl)
  (sSq (sIf (tE (eB2 gGt (eN 4) (eC (.int 120))))
    (sAs 5 (eDs gTup (aV (eB2 gMod (eN 4) (eB2 gAdd (eN 2) (eC (.int 1)))) (aV (eB2 gMod (eB2 gDiv (eN 4) (eB2 gAdd (eN 2) (eC (.int 1)))) (eB2 gAdd (eN 2) (eC (.int 1)))) aN))))
    sNl)
  (sIf (tPk (tE (eB2 gNinL (eN 5) (eN 3))))
    (sApp 3 (eN 5))
    sNl)))))))
  (sRt (eMv 3)))))
def m__law_formation_v1 : Sem := semOf 6 3 [0] s__law_formation_v1
def s__law_move : SF := (sSq (sAs 2 (eB2 gAdd (eC (.int 2)) (eB2 gMod (eCl m__law_draw (aIo 0 aN)) (eN 1))))
  (sSq (sAs 3 (eB2 gIx (eDs gLst (aV (eC (.int 3)) (aV (eC (.int 6)) (aV (eC (.int 40)) (aV (eC (.int 4000)) aN))))) (eB2 gMod (eCl m__law_draw (aIo 0 aN)) (eC (.int 4)))))
  (sSq (sPar [4, 5] (aV (eCl m__law_formation_v1 (aIo 0 (aV (eN 2) (aV (eN 3) aN)))) (aV (eCl m__law_formation_v1 (aIo 0 (aV (eN 2) (aV (eN 3) aN)))) aN)))
  (sRt (eDs gTup (aV (eN 4) (aV (eN 5) (aV (eB2 gIx (eDs gLst (aV (eC (.int 1)) (aV (eC (.int 8)) (aV (eC (.int 64)) aN)))) (eB2 gMod (eCl m__law_draw (aIo 0 aN)) (eC (.int 3)))) aN))))))))
def m__law_move : Sem := semOf 6 2 [0] s__law_move
def s__law_lowest : SF := (sSq (sPar [2, 3] (aV (eDs gAbs (aV (eN 0) aN)) (aV (eN 1) aN)))
  (sSq (sWh (tE (eB2 gNe (eN 3) (eC (.int 0))))
    (sPar [2, 3] (aV (eN 3) (aV (eB2 gMod (eN 2) (eN 3)) aN))))
  (sRt (eDs gTup (aV (eB2 gDiv (eN 0) (eN 2)) (aV (eB2 gDiv (eN 1) (eN 2)) aN))))))
def m__law_lowest : Sem := semOf 4 2 [] s__law_lowest
def s__law_far_v1 : SF := (sSq (sAg (gUp [7, 8]) (eN 3))
  (sSq (sAs 4 (eB2 gMul (eB2 gIx (eN 0) (eC (.int 2))) (eN 8)))
  (sSq (sAs 5 (eC (.int 0)))
  (sSq (sFor (iR rng1 (aV (eC (.int 2)) aN)) (gN 6)
    (sSq (sAs 9 (eB2 gAdd (eB2 gMul (eB2 gSub (eB2 gIx (eB2 gIx (eB2 gIx (eN 0) (eC (.int 0))) (eN 2)) (eN 6)) (eB2 gIx (eB2 gIx (eB2 gIx (eN 0) (eC (.int 0))) (eN 1)) (eN 6))) (eB2 gSub (eN 4) (eN 7))) (eB2 gMul (eB2 gSub (eB2 gIx (eB2 gIx (eB2 gIx (eN 0) (eC (.int 1))) (eN 2)) (eN 6)) (eB2 gIx (eB2 gIx (eB2 gIx (eN 0) (eC (.int 1))) (eN 1)) (eN 6))) (eN 7))))
  (sAs 5 (eB2 gAdd (eN 5) (eB2 gMul (eN 9) (eN 9))))))
  (sRt (eCl m__law_lowest (aV (eN 5) (aV (eB2 gMul (eN 4) (eN 4)) aN))))))))
def m__law_far_v1 : Sem := semOf 10 4 [] s__law_far_v1
def s__law_nearest : SF := (sSq (sAg (gUp [6, 7, 8]) (eDs gTup (aV (eC (.int 0)) (aV (eC (.int 0)) (aV (eC (.int 0)) aN)))))
  (sSq (sFor (iR rng1 (aV (eC (.int 2)) aN)) (gN 3)
    (sSq (sPar [9, 10] (aV (eB2 gSub (eB2 gIx (eB2 gIx (eB2 gIx (eN 0) (eC (.int 0))) (eN 2)) (eN 3)) (eB2 gIx (eB2 gIx (eB2 gIx (eN 0) (eC (.int 0))) (eN 1)) (eN 3))) (aV (eB2 gSub (eB2 gIx (eB2 gIx (eB2 gIx (eN 0) (eC (.int 1))) (eN 2)) (eN 3)) (eB2 gIx (eB2 gIx (eB2 gIx (eN 0) (eC (.int 1))) (eN 1)) (eN 3))) aN)))
  (sPar [6, 7, 8] (aV (eB2 gAdd (eN 6) (eB2 gMul (eN 9) (eN 9))) (aV (eB2 gAdd (eN 7) (eB2 gMul (eN 10) (eN 10))) (aV (eB2 gAdd (eN 8) (eB2 gMul (eN 9) (eN 10))) aN))))))
  (sSq (sAs 4 (eB2 gSub (eB2 gAdd (eN 6) (eN 7)) (eB2 gMul (eC (.int 2)) (eN 8))))
  (sSq (sIf (tOr' (tE (eB2 gEq (eN 4) (eC (.int 0)))) (tE (eB2 gLe (eN 6) (eN 8))))
    (sRt (eDs gTup (aV (eCl m__law_far_v1 (aV (eN 0) (aV (eN 1) (aV (eN 2) (aV (eDs gTup (aV (eC (.int 0)) (aV (eC (.int 1)) aN))) aN))))) (aV (eDs gTup (aV (eC (.int 0)) (aV (eC (.int 1)) aN))) aN))))
    sNl)
  (sSq (sIf (tE (eB2 gGe (eB2 gSub (eN 6) (eN 8)) (eN 4)))
    (sRt (eDs gTup (aV (eCl m__law_far_v1 (aV (eN 0) (aV (eN 1) (aV (eN 2) (aV (eDs gTup (aV (eB2 gIx (eN 0) (eC (.int 2))) (aV (eC (.int 1)) aN))) aN))))) (aV (eDs gTup (aV (eB2 gIx (eN 0) (eC (.int 2))) (aV (eC (.int 1)) aN))) aN))))
    sNl)
  (sSq (sAs 5 (eCl m__law_lowest (aV (eB2 gMul (eB2 gIx (eN 0) (eC (.int 2))) (eB2 gSub (eN 6) (eN 8))) (aV (eN 4) aN))))
  (sRt (eDs gTup (aV (eCl m__law_far_v1 (aV (eN 0) (aV (eN 1) (aV (eN 2) (aV (eN 5) aN))))) (aV (eN 5) aN))))))))))
def m__law_nearest : Sem := semOf 11 3 [] s__law_nearest
def s__law_less : SF := (sRt (eB2 gLt (eB2 gMul (eB2 gIx (eN 0) (eC (.int 0))) (eB2 gIx (eN 1) (eC (.int 1)))) (eB2 gMul (eB2 gIx (eN 1) (eC (.int 0))) (eB2 gIx (eN 0) (eC (.int 1))))))
def m__law_less : Sem := semOf 2 2 [] s__law_less
def s_neighbours : SF := (sSq (sEx (eCl m_check_move (aV (eN 0) aN)))
  (sSq (sAg (gUp [6, 7, 8]) (eN 0))
  (sSq (sEx (eCl m_check_number (aV (eN 1) (aV (eC (.int 0)) (aV (eN 8) aN)))))
  (sSq (sAs 2 (eDs gLst aN))
  (sSq (sFor (iR rng1 (aV (eDs gLen (aV (eN 6) aN)) aN)) (gN 3)
    (sApp 2 (eDs gTupOf (aV (eLc [11] (iR rng1 (aV (eC (.int 2)) aN)) (gN 11) tY (eB2 gAdd (eB2 gMul (eB2 gIx (eB2 gIx (eN 6) (eN 3)) (eN 11)) (eB2 gSub (eN 8) (eN 1))) (eB2 gMul (eB2 gIx (eB2 gIx (eN 7) (eN 3)) (eN 11)) (eN 1)))) aN))))
  (sSq (sAs 4 (eDs gLst aN))
  (sSq (sFor (iR rng1 (aV (eDs gLen (aV (eN 2) aN)) aN)) (gN 5)
    (sSq (sAs 9 (eC .none))
  (sSq (sFor (iR rng1 (aV (eDs gLen (aV (eN 2) aN)) aN)) (gN 10)
    (sIf (tAn (tE (eB2 gNe (eN 10) (eN 5))) (tOr' (tE (eB2 gIs (eN 9) (eC .none))) (tE (eB2 gLt (eCl m_squared (aV (eB2 gIx (eN 2) (eN 5)) (aV (eB2 gIx (eN 2) (eN 10)) aN))) (eB2 gIx (eN 9) (eC (.int 1)))))))
    (sAs 9 (eDs gTup (aV (eN 10) (aV (eCl m_squared (aV (eB2 gIx (eN 2) (eN 5)) (aV (eB2 gIx (eN 2) (eN 10)) aN))) aN))))
    sNl))
  (sApp 4 (eIf (tE (eB2 gIs (eN 9) (eC .none))) (eC .none) (eDs gTup (aV (eB2 gIx (eN 9) (eC (.int 0))) (aV (eCl m_fraction (aV (eB2 gIx (eN 9) (eC (.int 1))) (aV (eB2 gMul (eN 8) (eN 8)) aN))) aN))))))))
  (sRt (eMv 4)))))))))
def m_neighbours : Sem := semOf 12 2 [] s_neighbours
def s__law_point_v1 : SF := (sRt (eDs gTup (aV (eB2 gMod (eCl m__law_draw (aIo 0 aN)) (eN 1)) (aV (eB2 gMod (eCl m__law_draw (aIo 0 aN)) (eN 1)) aN))))
def m__law_point_v1 : Sem := semOf 2 2 [0] s__law_point_v1
def s__law_points : SF := (sSq (sAs 3 (eDs gLst aN))
  (sSq (sWh (tPk (tE (eB2 gLt (eDs gLen (aV (eN 3) aN)) (eN 1))))
    (sSq (sAg (gUp [4, 5]) (eCl m__law_point_v1 (aIo 0 (aV (eN 2) aN))))
  (sSq (sWh (tPk (tE (eB2 gInL (eDs gTup (aV (eN 4) (aV (eN 5) aN))) (eN 3))))
    (sAg (gUp [4, 5]) (eIf (tE (eB2 gLt (eB2 gAdd (eN 4) (eC (.int 1))) (eN 2))) (eDs gTup (aV (eB2 gAdd (eN 4) (eC (.int 1))) (aV (eN 5) aN))) (eDs gTup (aV (eC (.int 0)) (aV (eB2 gMod (eB2 gAdd (eN 5) (eC (.int 1))) (eN 2)) aN))))))
  (sApp 3 (eDs gTup (aV (eN 4) (aV (eN 5) aN)))))))
  (sRt (eMv 3))))
def m__law_points : Sem := semOf 6 3 [0] s__law_points
def s_choose : SF := (sSq (sAs 2 (eC (.int 1)))
  (sSq (sFor (iR rng1 (aV (eIf (tE (eB2 gLe (eN 1) (eN 0))) (eDs gMin (aV (eN 1) (aV (eB2 gSub (eN 0) (eN 1)) aN))) (eC (.int 0))) aN)) (gN 3)
    (sAs 2 (eB2 gDiv (eB2 gMul (eN 2) (eB2 gSub (eN 0) (eN 3))) (eB2 gAdd (eN 3) (eC (.int 1))))))
  (sRt (eIf (tE (eB2 gLe (eN 1) (eN 0))) (eN 2) (eC (.int 0))))))
def m_choose : Sem := semOf 4 2 [] s_choose
def s_check_grid : SF := (sSq (sEx (eCl m_check_number (aV (eN 0) (aV (eC (.int 1)) (aV (eC (.int 5)) aN)))))
  (sEx (eCl m_check_number (aV (eN 1) (aV (eC (.int 1)) (aV (eC (.int 5)) aN))))))
def m_check_grid : Sem := semOf 2 2 [] s_check_grid
def s_check_sets : SF := (sSq (sEx (eCl m_check_grid (aV (eN 0) (aV (eN 1) aN))))
  (sSq (sEx (eCl m_check_number (aV (eN 2) (aV (eC (.int 1)) (aV (eC (.int 25)) aN)))))
  (sEx (eCl m_check_number (aV (eN 3) (aV (eC (.int 1)) (aV (eC (.int 33)) aN)))))))
def m_check_sets : Sem := semOf 4 4 [] s_check_sets
def s_check_ways : SF := (sIf (tE (eB2 gGt (eCl m_choose (aV (eB2 gMul (eN 0) (eN 1)) (aV (eN 2) aN))) (eC (.int 200000))))
    (sRs 6)
    sNl)
def m_check_ways : Sem := semOf 3 3 [] s_check_ways
def s_is_cell : SF := (sSq (sIf (tOr' (tNt (tTru (eU1 (gIsa PyData.isTuple) (eN 0)))) (tE (eB2 gNe (eDs gLen (aV (eN 0) aN)) (eC (.int 2)))))
    (sRt (eC (.bool false)))
    sNl)
  (sRt (eAn (eCl m_is_number (aV (eB2 gIx (eN 0) (eC (.int 0))) (aV (eC (.int 0)) (aV (eB2 gSub (eN 1) (eC (.int 1))) aN)))) (eCl m_is_number (aV (eB2 gIx (eN 0) (eC (.int 1))) (aV (eC (.int 0)) (aV (eB2 gSub (eN 2) (eC (.int 1))) aN)))))))
def m_is_cell : Sem := semOf 3 3 [] s_is_cell
def s_check_cells : SF := (sSq (sIf (tOr' (tNt (tTru (eU1 (gIsa PyData.isList) (eN 0)))) (tNt (tE (eCh gLe gLe (eC (.int 1)) (eDs gLen (aV (eN 0) aN)) (eC (.int 25))))))
    (sRs 2)
    sNl)
  (sSq (sIf (tTru (eLc [3] (iE (eN 0)) (gN 3) (tNt (tTru (eCl m_is_cell (aV (eN 3) (aV (eN 1) (aV (eN 2) aN)))))) (eN 3)))
    (sRs 2)
    sNl)
  (sIf (tTru (eLc [4] (iR rng2 (aV (eC (.int 1)) (aV (eDs gLen (aV (eN 0) aN)) aN))) (gN 4) (tE (eB2 gGe (eB2 gIx (eN 0) (eB2 gSub (eN 4) (eC (.int 1)))) (eB2 gIx (eN 0) (eN 4)))) (eN 4)))
    (sRs 2)
    sNl)))
def m_check_cells : Sem := semOf 5 3 [] s_check_cells
def s_are_apart : SF := (sRt (eB2 gGe (eB2 gAdd (eB2 gMul (eB2 gSub (eB2 gIx (eN 0) (eC (.int 0))) (eB2 gIx (eN 1) (eC (.int 0)))) (eB2 gSub (eB2 gIx (eN 0) (eC (.int 0))) (eB2 gIx (eN 1) (eC (.int 0))))) (eB2 gMul (eB2 gSub (eB2 gIx (eN 0) (eC (.int 1))) (eB2 gIx (eN 1) (eC (.int 1)))) (eB2 gSub (eB2 gIx (eN 0) (eC (.int 1))) (eB2 gIx (eN 1) (eC (.int 1)))))) (eN 2)))
def m_are_apart : Sem := semOf 3 3 [] s_are_apart
def s_cells_of : SF := (sRt (eLc2 [2, 3] [3] (iR rng1 (aV (eN 0) aN)) (gN 2) tY (iR rng1 (aV (eN 1) aN)) (gN 3) tY (eDs gTup (aV (eN 2) (aV (eN 3) aN)))))
def m_cells_of : Sem := semOf 4 2 [] s_cells_of
def s_all_sets (r_all_sets : Sem) : SF := (sSq (sIf (tE (eB2 gEq (eN 1) (eC (.int 0))))
    (sRt (eDs gLst (aV (eDs gLst aN) aN)))
    sNl)
  (sSq (sAs 3 (eDs gLst aN))
  (sSq (sFor (iR rng1 (aV (eB2 gAdd (eB2 gSub (eDs gLen (aV (eN 0) aN)) (eN 1)) (eC (.int 1))) aN)) (gN 4)
    (sSq (sAs 5 (eLc [6] (iE (eSl (eN 0) (oE (eB2 gAdd (eN 4) (eC (.int 1)))) oN)) (gN 6) (tTru (eCl m_are_apart (aV (eB2 gIx (eN 0) (eN 4)) (aV (eN 6) (aV (eN 2) aN))))) (eN 6)))
  (sExt 3 (eLc [7] (iE (eCl r_all_sets (aV (eN 5) (aV (eB2 gSub (eN 1) (eC (.int 1))) (aV (eN 2) aN))))) (gN 7) tY (eB2 gAdd (eDs gLst (aV (eB2 gIx (eN 0) (eN 4)) aN)) (eN 7))))))
  (sRt (eMv 3)))))
def m_all_sets : Nat → Sem
  | 0 => fun _ => .bad
  | n + 1 => semOf 8 3 [] (s_all_sets (m_all_sets n))
def s_sets_of : SF := (sRt (eCl (m_all_sets 14) (aV (eCl m_cells_of (aV (eN 0) (aV (eN 1) aN))) (aV (eN 2) (aV (eN 3) aN)))))
def m_sets_of : Sem := semOf 4 4 [] s_sets_of
def s_count_sets : SF := (sSq (sEx (eCl m_check_sets (aV (eN 0) (aV (eN 1) (aV (eN 2) (aV (eN 3) aN))))))
  (sSq (sEx (eCl m_check_ways (aV (eN 0) (aV (eN 1) (aV (eN 2) aN)))))
  (sRt (eDs gLen (aV (eCl m_sets_of (aV (eN 0) (aV (eN 1) (aV (eN 2) (aV (eN 3) aN))))) aN)))))
def m_count_sets : Sem := semOf 4 4 [] s_count_sets
def s_check_place_v1 : SF := (sIf (tOr' (tNt (tTru (eU1 (gIsa PyData.isInt) (eN 0)))) (tOr' (tTru (eU1 (gIsa PyData.isBool) (eN 0))) (tE (eB2 gLt (eN 0) (eC (.int 0))))))
    (sRs 2)
    sNl)
def m_check_place_v1 : Sem := semOf 1 1 [] s_check_place_v1
def s_set_at : SF := (sSq (sEx (eCl m_check_sets (aV (eN 0) (aV (eN 1) (aV (eN 2) (aV (eN 3) aN))))))
  (sSq (sEx (eCl m_check_place_v1 (aV (eN 4) aN)))
  (sSq (sEx (eCl m_check_ways (aV (eN 0) (aV (eN 1) (aV (eN 2) aN)))))
  (sSq (sAs 5 (eCl m_sets_of (aV (eN 0) (aV (eN 1) (aV (eN 2) (aV (eN 3) aN))))))
  (sRt (eIf (tE (eB2 gLt (eN 4) (eDs gLen (aV (eN 5) aN)))) (eB2 gIx (eN 5) (eN 4)) (eC .none)))))))
def m_set_at : Sem := semOf 6 5 [] s_set_at
def s_far_enough : SF := (sSq (sFor (iR rng1 (aV (eDs gLen (aV (eN 0) aN)) aN)) (gN 2)
    (sIf (tTru (eLc [3] (iE (eSl (eN 0) oN (oE (eN 2)))) (gN 3) (tNt (tTru (eCl m_are_apart (aV (eB2 gIx (eN 0) (eN 2)) (aV (eN 3) (aV (eN 1) aN)))))) (eN 3)))
    (sRt (eC (.bool false)))
    sNl))
  (sRt (eC (.bool true))))
def m_far_enough : Sem := semOf 4 2 [] s_far_enough
def s_place_of_set : SF := (sSq (sEx (eCl m_check_grid (aV (eN 0) (aV (eN 1) aN))))
  (sSq (sEx (eCl m_check_number (aV (eN 2) (aV (eC (.int 1)) (aV (eC (.int 33)) aN)))))
  (sSq (sEx (eCl m_check_cells (aV (eN 3) (aV (eN 0) (aV (eN 1) aN)))))
  (sSq (sEx (eCl m_check_ways (aV (eN 0) (aV (eN 1) (aV (eDs gLen (aV (eN 3) aN)) aN)))))
  (sSq (sIf (tNt (tTru (eCl m_far_enough (aV (eN 3) (aV (eN 2) aN)))))
    (sRt (eC .none))
    sNl)
  (sRt (eIdx (eCl m_sets_of (aV (eN 0) (aV (eN 1) (aV (eDs gLen (aV (eN 3) aN)) (aV (eN 2) aN))))) (eN 3))))))))
def m_place_of_set : Sem := semOf 4 4 [] s_place_of_set
def s__law_draw_v1 : SF := (sSq (sAs 2 (ePk (eB2 gIx (eN 0) (eC (.int 1)))))
  (sSq (sSt 0 (eC (.int 1)) (eB2 gAdd (eN 2) (eC (.int 1))))
  (sSq (sIf (tPk (tE (eB2 gLt (eN 2) (eDs gLen (aV (eB2 gIx (eN 0) (eC (.int 0))) aN)))))
    (sRt (ePk (eB2 gMod (eB2 gIx (eB2 gIx (eN 0) (eC (.int 0))) (eN 2)) (eN 1))))
    sNl)
  (sSq (sAs 3 (eB2 gAdd (eC (.int 1)) (eN 2)))
  (sSq (sIf (tPk (tE (eB2 gGt (eDs gLen (aV (eB2 gIx (eN 0) (eC (.int 0))) aN)) (eC (.int 0)))))
    (sAs 3 (ePk (eB2 gAdd (eN 3) (eB2 gMul (eC (.int 1009)) (eB2 gIx (eB2 gIx (eN 0) (eC (.int 0))) (eC (.int 0)))))))
    sNl)
  (sRt (eB2 gMod (eB2 gDiv (eCl m__law_mixed (aV (eCl m__law_mixed (aV (eN 3) (aV (eN 2) aN))) (aV (eC (.int 5)) aN))) (eC (.int 7))) (eN 1))))))))
def m__law_draw_v1 : Sem := semOf 4 2 [0] s__law_draw_v1
def s__law_cells : SF := (sSq (sAs 2 (eDs gLst aN))
  (sSq (sFor (iR rng1 (aV (eN 0) aN)) (gN 3)
    (sAs 2 (eB2 gAdd (eN 2) (eLc [4] (iR rng1 (aV (eN 1) aN)) (gN 4) tY (eDs gTup (aV (eN 3) (aV (eN 4) aN)))))))
  (sRt (eN 2))))
def m__law_cells : Sem := semOf 5 2 [] s__law_cells
def s__law_far_v2 : SF := (sRt (eB2 gAdd (eB2 gMul (eB2 gSub (eB2 gIx (eN 0) (eC (.int 0))) (eB2 gIx (eN 1) (eC (.int 0)))) (eB2 gSub (eB2 gIx (eN 0) (eC (.int 0))) (eB2 gIx (eN 1) (eC (.int 0))))) (eB2 gMul (eB2 gSub (eB2 gIx (eN 0) (eC (.int 1))) (eB2 gIx (eN 1) (eC (.int 1)))) (eB2 gSub (eB2 gIx (eN 0) (eC (.int 1))) (eB2 gIx (eN 1) (eC (.int 1)))))))
def m__law_far_v2 : Sem := semOf 2 2 [] s__law_far_v2
def s__law_sets : SF := (sSq (sAs 4 (eDs gLst (aV (eDs gLst aN) aN)))
  (sSq (sAs 5 (eCl m__law_cells (aV (eN 0) (aV (eN 1) aN))))
  (sSq (sFor (iR rng1 (aV (eN 2) aN)) (gN 6)
    (sSq (sAs 7 (eDs gLst aN))
  (sSq (sFor (iE (eN 4)) (gN 8)
    (sFor (iE (eN 5)) (gN 9)
    (sIf (tAn (tOr' (tE (eB2 gEq (eDs gLen (aV (eN 8) aN)) (eC (.int 0)))) (tE (eB2 gGt (eN 9) (eB2 gIx (eN 8) (eU1 gNeg (eC (.int 1))))))) (tE (eB2 gEq (eDs gLen (aV (eLc [10] (iE (eN 8)) (gN 10) (tE (eB2 gLt (eCl m__law_far_v2 (aV (eN 10) (aV (eN 9) aN))) (eN 3))) (eN 10)) aN)) (eC (.int 0)))))
    (sApp 7 (eB2 gAdd (eN 8) (eDs gLst (aV (eN 9) aN))))
    sNl)))
  (sAs 4 (eN 7)))))
  (sRt (eN 4)))))
def m__law_sets : Sem := semOf 11 4 [] s__law_sets
def s__law_motions : SF := (sSq (sAs 3 (eDs gLst aN))
  (sSq (sFor (iR rng1 (aV (eC (.int 2)) aN)) (gN 4)
    (sFor (iR rng1 (aV (eC (.int 2)) aN)) (gN 5)
    (sSq (sAs 6 (eLc [7] (iE (eN 2)) (gN 7) tY (eDs gTup (aV (eIf (tE (eB2 gEq (eN 4) (eC (.int 1)))) (eB2 gSub (eB2 gSub (eN 0) (eC (.int 1))) (eB2 gIx (eN 7) (eC (.int 0)))) (eB2 gIx (eN 7) (eC (.int 0)))) (aV (eIf (tE (eB2 gEq (eN 5) (eC (.int 1)))) (eB2 gSub (eB2 gSub (eN 1) (eC (.int 1))) (eB2 gIx (eN 7) (eC (.int 1)))) (eB2 gIx (eN 7) (eC (.int 1)))) aN)))))
  (sSq (sApp 3 (eDs gSorted (aV (eN 6) aN)))
  (sIf (tE (eB2 gEq (eN 0) (eN 1)))
    (sApp 3 (eDs gSorted (aV (eLc [7] (iE (eN 6)) (gN 7) tY (eDs gTup (aV (eB2 gIx (eN 7) (eC (.int 1))) (aV (eB2 gIx (eN 7) (eC (.int 0))) aN)))) aN)))
    sNl)))))
  (sRt (eMv 3))))
def m__law_motions : Sem := semOf 8 3 [] s__law_motions
def s__law_size : SF := (sRt (eB2 gIx (eDs gLst (aV (eDs gTup (aV (eC (.int 1)) (aV (eC (.int 1)) aN))) (aV (eDs gTup (aV (eC (.int 1)) (aV (eC (.int 4)) aN))) (aV (eDs gTup (aV (eC (.int 2)) (aV (eC (.int 2)) aN))) (aV (eDs gTup (aV (eC (.int 2)) (aV (eC (.int 3)) aN))) (aV (eDs gTup (aV (eC (.int 3)) (aV (eC (.int 2)) aN))) (aV (eDs gTup (aV (eC (.int 3)) (aV (eC (.int 3)) aN))) (aV (eDs gTup (aV (eC (.int 1)) (aV (eC (.int 5)) aN))) (aV (eDs gTup (aV (eC (.int 4)) (aV (eC (.int 2)) aN))) (aV (eDs gTup (aV (eC (.int 3)) (aV (eC (.int 4)) aN))) aN)))))))))) (eCl m__law_draw_v1 (aIo 0 (aV (eC (.int 9)) aN)))))
def m__law_size : Sem := semOf 1 1 [0] s__law_size
def s__law_refused_v14 : SF := (sSq (sTr (sIf (tE (eB2 gEq (eN 0) (eC (.str (Str.ofString "count")))))
    (sEx (eCl m_count_sets (aV (eN 1) (aV (eN 2) (aV (eN 3) (aV (eN 4) aN))))))
    (sIf (tE (eB2 gEq (eN 0) (eC (.str (Str.ofString "at")))))
    (sEx (eCl m_set_at (aV (eN 1) (aV (eN 2) (aV (eN 3) (aV (eN 4) (aV (eN 5) aN)))))))
    (sEx (eCl m_place_of_set (aV (eN 1) (aV (eN 2) (aV (eN 4) (aV (eN 5) aN)))))))) (noExs [(2, (sRt (eC (.str (Str.ofString "argument"))))), (6, (sRt (eC (.str (Str.ofString "large")))))]))
  (sRt (eC (.str (Str.ofString "taken")))))
def m__law_refused_v14 : Sem := semOf 6 6 [] s__law_refused_v14
def s_motions_v1 : SF := (sSq (sAs 2 (eDs gLst aN))
  (sSq (sFor (iR rng1 (aV (eIf (tE (eB2 gEq (eN 0) (eN 1))) (eC (.int 2)) (eC (.int 1))) aN)) (gN 3)
    (sFor (iR rng1 (aV (eC (.int 2)) aN)) (gN 4)
    (sFor (iR rng1 (aV (eC (.int 2)) aN)) (gN 5)
    (sSq (sAs 6 eDn)
  (sSq (sFor (iE (eCl m_cells_of (aV (eN 0) (aV (eN 1) aN)))) (gUp [7, 8])
    (sSq (sAs 9 (eDs gTup (aV (eIf (tTru (eN 4)) (eB2 gSub (eB2 gSub (eN 0) (eC (.int 1))) (eN 7)) (eN 7)) (aV (eIf (tTru (eN 5)) (eB2 gSub (eB2 gSub (eN 1) (eC (.int 1))) (eN 8)) (eN 8)) aN))))
  (sDp 6 (eDs gTup (aV (eN 7) (aV (eN 8) aN))) (eIf (tTru (eN 3)) (eDs gTup (aV (eB2 gIx (eN 9) (eC (.int 1))) (aV (eB2 gIx (eN 9) (eC (.int 0))) aN))) (eN 9)))))
  (sApp 2 (eN 6)))))))
  (sRt (eMv 2))))
def m_motions_v1 : Sem := semOf 10 2 [] s_motions_v1
def s_images : SF := (sRt (eLc [2] (iE (eN 1)) (gN 2) tY (eDs gSorted (aV (eLc [3] (iE (eN 0)) (gN 3) tY (eDg (eN 2) (eN 3))) aN))))
def m_images : Sem := semOf 4 2 [] s_images
def s_first_ones : SF := (sSq (sAs 4 (eCl m_motions_v1 (aV (eN 0) (aV (eN 1) aN))))
  (sRt (eLc [5] (iE (eCl m_sets_of (aV (eN 0) (aV (eN 1) (aV (eN 2) (aV (eN 3) aN)))))) (gN 5) (tE (eB2 gEq (eN 5) (eDs gMin (aV (eCl m_images (aV (eN 5) (aV (eN 4) aN))) aN)))) (eN 5))))
def m_first_ones : Sem := semOf 6 4 [] s_first_ones
def s_count_unlike : SF := (sSq (sEx (eCl m_check_sets (aV (eN 0) (aV (eN 1) (aV (eN 2) (aV (eN 3) aN))))))
  (sSq (sEx (eCl m_check_ways (aV (eN 0) (aV (eN 1) (aV (eN 2) aN)))))
  (sRt (eDs gLen (aV (eCl m_first_ones (aV (eN 0) (aV (eN 1) (aV (eN 2) (aV (eN 3) aN))))) aN)))))
def m_count_unlike : Sem := semOf 4 4 [] s_count_unlike
def s_unlike_at : SF := (sSq (sEx (eCl m_check_sets (aV (eN 0) (aV (eN 1) (aV (eN 2) (aV (eN 3) aN))))))
  (sSq (sEx (eCl m_check_place_v1 (aV (eN 4) aN)))
  (sSq (sEx (eCl m_check_ways (aV (eN 0) (aV (eN 1) (aV (eN 2) aN)))))
  (sSq (sAs 5 (eCl m_first_ones (aV (eN 0) (aV (eN 1) (aV (eN 2) (aV (eN 3) aN))))))
  (sRt (eIf (tE (eB2 gLt (eN 4) (eDs gLen (aV (eN 5) aN)))) (eB2 gIx (eN 5) (eN 4)) (eC .none)))))))
def m_unlike_at : Sem := semOf 6 5 [] s_unlike_at
def s_motions_of : SF := (sSq (sEx (eCl m_check_grid (aV (eN 0) (aV (eN 1) aN))))
  (sSq (sEx (eCl m_check_cells (aV (eN 2) (aV (eN 0) (aV (eN 1) aN)))))
  (sRt (eDs gLen (aV (eLc [3] (iE (eCl m_images (aV (eN 2) (aV (eCl m_motions_v1 (aV (eN 0) (aV (eN 1) aN))) aN)))) (gN 3) (tE (eB2 gEq (eN 3) (eN 2))) (eN 3)) aN)))))
def m_motions_of : Sem := semOf 4 3 [] s_motions_of
def s_Most_go_on (r_Most_go_on : Sem) : SF := (sSq (sIf (tPk (tE (eB2 gLe (eB2 gAdd (eDs gLen (aV (eN 1) aN)) (eDs gLen (aV (eN 2) aN))) (eDs gLen (aV (eFld 15 (Str.ofString "best") (eN 0)) aN)))))
    sRn
    sNl)
  (sSq (sIf (tNt (tTru (eN 2)))
    (sSq (sFs 15 0 (Str.ofString "best") (eN 1))
  sRn)
    sNl)
  (sSq (sAs 3 (ePkN (eLc [4] (iE (eSl (eN 2) (oE (eC (.int 1))) oN)) (gN 4) (tNt (tTru (eCl m_are_apart (aV (eB2 gIx (eN 2) (eC (.int 0))) (aV (eN 4) (aV (eFld 15 (Str.ofString "apart") (eN 0)) aN)))))) (eN 4))))
  (sSq (sEx (eMe 15 (Str.ofString "go_on") 0 r_Most_go_on (aV (eB2 gAdd (eN 1) (eDs gLst (aV (eB2 gIx (eN 2) (eC (.int 0))) aN))) (aV (eLc [4] (iE (eSl (eN 2) (oE (eC (.int 1))) oN)) (gN 4) (tE (eB2 gNinL (eN 4) (eN 3))) (eN 4)) aN))))
  (sIf (tTru (eN 3))
    (sEx (eMe 15 (Str.ofString "go_on") 0 r_Most_go_on (aV (eN 1) (aV (eSl (eN 2) (oE (eC (.int 1))) oN) aN))))
    sNl)))))
def m_Most_go_on : Nat → Sem
  | 0 => fun _ => .bad
  | n + 1 => semOf 5 3 [0] (s_Most_go_on (m_Most_go_on n))
def s_Most_init : SF := (sSq (sFs 15 0 (Str.ofString "apart") (eN 3))
  (sSq (sFs 15 0 (Str.ofString "best") (eDs gLst aN))
  (sEx (eMe 15 (Str.ofString "go_on") 0 (m_Most_go_on 14) (aV (eDs gLst aN) (aV (eCl m_cells_of (aV (eN 1) (aV (eN 2) aN))) aN))))))
def m_Most_init : Sem := semOf 4 4 [0] s_Most_init
def s_most_apart : SF := (sSq (sEx (eCl m_check_grid (aV (eN 0) (aV (eN 1) aN))))
  (sSq (sEx (eCl m_check_number (aV (eN 2) (aV (eC (.int 1)) (aV (eC (.int 33)) aN)))))
  (sSq (sAs 3 (eFld 15 (Str.ofString "best") (eMk 15 m_Most_init (aV (eN 0) (aV (eN 1) (aV (eN 2) aN))))))
  (sRt (eDs gTup (aV (eDs gLen (aV (eN 3) aN)) (aV (eN 3) aN)))))))
def m_most_apart : Sem := semOf 4 3 [] s_most_apart
def s_is_full : SF := (sSq (sEx (eCl m_check_grid (aV (eN 0) (aV (eN 1) aN))))
  (sSq (sEx (eCl m_check_number (aV (eN 2) (aV (eC (.int 1)) (aV (eC (.int 33)) aN)))))
  (sSq (sEx (eCl m_check_cells (aV (eN 3) (aV (eN 0) (aV (eN 1) aN)))))
  (sSq (sIf (tNt (tTru (eCl m_far_enough (aV (eN 3) (aV (eN 2) aN)))))
    (sRt (eC (.bool false)))
    sNl)
  (sSq (sFor (iE (eCl m_cells_of (aV (eN 0) (aV (eN 1) aN)))) (gN 4)
    (sIf (tAn (tE (eB2 gNinL (eN 4) (eN 3))) (tE (eB2 gEq (eLc [5] (iE (eN 3)) (gN 5) (tNt (tTru (eCl m_are_apart (aV (eN 4) (aV (eN 5) (aV (eN 2) aN)))))) (eN 5)) (eDs gLst aN))))
    (sRt (eC (.bool false)))
    sNl))
  (sRt (eC (.bool true))))))))
def m_is_full : Sem := semOf 6 4 [] s_is_full
def s__law_full : SF := (sSq (sFor (iR rng1 (aV (eDs gLen (aV (eN 3) aN)) aN)) (gN 4)
    (sIf (tE (eB2 gGt (eDs gLen (aV (eLc [6] (iE (eSl (eN 3) oN (oE (eN 4)))) (gN 6) (tE (eB2 gLt (eCl m__law_far_v2 (aV (eN 6) (aV (eB2 gIx (eN 3) (eN 4)) aN))) (eN 2))) (eN 6)) aN)) (eC (.int 0))))
    (sRt (eC (.bool false)))
    sNl))
  (sSq (sFor (iE (eCl m__law_cells (aV (eN 0) (aV (eN 1) aN)))) (gN 5)
    (sIf (tAn (tE (eB2 gNinL (eN 5) (eN 3))) (tE (eB2 gEq (eDs gLen (aV (eLc [6] (iE (eN 3)) (gN 6) (tE (eB2 gLt (eCl m__law_far_v2 (aV (eN 6) (aV (eN 5) aN))) (eN 2))) (eN 6)) aN)) (eC (.int 0)))))
    (sRt (eC (.bool false)))
    sNl))
  (sRt (eC (.bool true)))))
def m__law_full : Sem := semOf 7 4 [] s__law_full
def s_law_k77 : SF := (sSq (sAs 1 (eDs gLst (aV (eCl m__law_numbers (aV (eN 0) aN)) (aV (eC (.int 0)) aN))))
  (sSq (sAg (gUp [7, 8]) (eCl m__law_size (aIo 1 aN)))
  (sSq (sAs 2 (eB2 gIx (eDs gLst (aV (eC (.int 1)) (aV (eC (.int 2)) (aV (eC (.int 3)) (aV (eC (.int 4)) (aV (eC (.int 5)) (aV (eC (.int 8)) (aV (eC (.int 33)) aN)))))))) (eCl m__law_draw_v1 (aIo 1 (aV (eC (.int 7)) aN)))))
  (sSq (sAs 3 (eDs gTup (aV (eB2 gMul (eN 7) (eN 8)) (aV (eCl m__law_cells (aV (eN 7) (aV (eN 8) aN))) aN))))
  (sSq (sIf (tE (eB2 gGt (eN 2) (eC (.int 1))))
    (sSq (sAs 9 (eC (.int 1)))
  (sSq (sAs 10 (eCl m__law_sets (aV (eN 7) (aV (eN 8) (aV (eN 9) (aV (eN 2) aN))))))
  (sWh (tE (eB2 gGt (eDs gLen (aV (eN 10) aN)) (eC (.int 0))))
    (sSq (sAs 3 (eDs gTup (aV (eN 9) (aV (eB2 gIx (eN 10) (eC (.int 0))) aN))))
  (sSq (sAs 9 (eB2 gAdd (eN 9) (eC (.int 1))))
  (sAs 10 (eCl m__law_sets (aV (eN 7) (aV (eN 8) (aV (eN 9) (aV (eN 2) aN)))))))))))
    sNl)
  (sSq (sIf (tNt (tTru (eCl (m__law_equal_v1 14) (aV (eCl m_most_apart (aV (eN 7) (aV (eN 8) (aV (eN 2) aN)))) (aV (eN 3) aN)))))
    (sRt (eC (.bool false)))
    sNl)
  (sSq (sAs 4 (eU1 gSortSet (eLc [11] (iR rng1 (aV (eB2 gAdd (eC (.int 1)) (eCl m__law_draw_v1 (aIo 1 (aV (eC (.int 5)) aN)))) aN)) (gN 11) tY (eB2 gIx (eCl m__law_cells (aV (eN 7) (aV (eN 8) aN))) (eCl m__law_draw_v1 (aIo 1 (aV (eB2 gMul (eN 7) (eN 8)) aN)))))))
  (sSq (sFor (iE (eDs gLst (aV (eN 4) (aV (eB2 gIx (eN 3) (eC (.int 1))) (aV (eIf (tE (eB2 gGt (eB2 gIx (eN 3) (eC (.int 0))) (eC (.int 1)))) (eSl (eB2 gIx (eN 3) (eC (.int 1))) (oE (eC (.int 1))) oN) (eB2 gIx (eN 3) (eC (.int 1)))) aN))))) (gN 5)
    (sIf (tNt (tTru (eCl (m__law_equal_v1 14) (aV (eCl m_is_full (aV (eN 7) (aV (eN 8) (aV (eN 2) (aV (eN 5) aN))))) (aV (eCl m__law_full (aV (eN 7) (aV (eN 8) (aV (eN 2) (aV (eN 5) aN))))) aN)))))
    (sRt (eC (.bool false)))
    sNl))
  (sSq (sFor (iE (eDs gLst (aV (eDs gLst aN) (aV (eDs gLst (aV (eDs gTup (aV (eC (.int 0)) (aV (eC (.int 0)) aN))) (aV (eDs gTup (aV (eC (.int 0)) (aV (eC (.int 0)) aN))) aN))) (aV (eC .none) (aV (eDs gLst (aV (eDs gTup (aV (eC (.int 9)) (aV (eC (.int 9)) aN))) aN)) aN)))))) (gN 6)
    (sTr (sSq (sEx (eCl m_is_full (aV (eN 7) (aV (eN 8) (aV (eN 2) (aV (eN 6) aN))))))
  (sRt (eC (.bool false)))) (noExs [(2, sNl)])))
  (sRt (eC (.bool true))))))))))))
end
end FX
/-! the reading of the terms, step by step -/
namespace MX
open PySem PySem.Spec L2 FS
theorem nr {α : Sort _} {a b : α} (h : a = b) : a = b := h
section
variable {α : Type} {δ δ1 δ2 : Env'} {i j n k : Nat} {m : M} {l : L} {d d1 d2 : PD} {F G Hh : EF} {A B : BF} {S T U : SF} {Af : AF} {g g' : PD → PD → Option M} {g1 : PD → Option M} {gs : List PD → Option M} {as : List FS.Arg} {ds : List PD}
/-- an operation's answer -/
def res (o : Option M) (δ : Env') : R M := match o with
  | some m => .ok m δ
  | none => .bad
@[simp] theorem res_some : res (some m) δ = .ok m δ := nr rfl
/-! expressions -/
@[simp] theorem eC_ : eC d δ = .ok (.fz d) δ := nr rfl
def nR (i : Nat) (o : Option (Option M)) (δ : Env') : R M := match o with
  | some (some (.v (.fz d))) => .ok (.fz d) δ
  | some (some m) => .ok m.frz (δ.set i (some m.frz))
  | _ => .bad
@[simp] theorem eN_ : eN i δ = nR i δ[i]? δ := nr rfl
@[simp] theorem nR_fz : nR i (some (some (.v (.fz d)))) δ = .ok (.fz d) δ := nr rfl
@[simp] theorem nR_lst {ls : List L} : nR i (some (some (.v (.lst ls)))) δ = .ok (.fz (.list (L.pds ls))) (δ.set i (some (.fz (.list (L.pds ls))))) := nr rfl
def mvR (i : Nat) (o : Option (Option M)) (δ : Env') : R M := match o with
  | some (some m) => .ok m (δ.set i none)
  | _ => .bad
@[simp] theorem eMv_ : eMv i δ = mvR i δ[i]? δ := nr rfl
@[simp] theorem mvR_ok : mvR i (some (some m)) δ = .ok m (δ.set i none) := nr rfl
def pkR (δ : Env') (r : R M) : R M := match r with
  | .ok (.v (.fz d)) _ => if immut d then .ok (.fz d) δ else .bad
  | .ex n _ => .ex n δ
  | _ => .bad
@[simp] theorem ePk_ : ePk F δ = pkR δ (F (frzE δ)) := nr rfl
@[simp] theorem pkR_ok : pkR δ (.ok (.v (.fz d)) δ1) = if immut d then .ok (.fz d) δ else .bad := nr rfl
@[simp] theorem pkR_ex : pkR δ (.ex n δ1) = .ex n δ := nr rfl
def pkT (δ : Env') (r : R Bool) : R Bool := match r with
  | .ok b _ => .ok b δ
  | .ex n _ => .ex n δ
  | .bad => .bad
@[simp] theorem tPk_ : tPk A δ = pkT δ (A (frzE δ)) := nr rfl
@[simp] theorem pkT_ok {b : Bool} : pkT δ (.ok b δ1) = .ok b δ := nr rfl
@[simp] theorem pkT_ex : pkT δ (.ex n δ1) = .ex n δ := nr rfl
def b2R (g : PD → PD → Option M) (G : EF) (r : R M) : R M := r.p fun a δ1 => (G δ1).p fun b δ2 => res (g a b) δ2
def b2K (g : PD → PD → Option M) (a : PD) (r : R M) : R M := r.p fun b δ2 => res (g a b) δ2
@[simp] theorem eB2_ : eB2 g F G δ = b2R g G (F δ) := nr rfl
@[simp] theorem b2R_ok : b2R g G (.ok (.v l) δ) = b2K g l.pd (G δ) := nr rfl
@[simp] theorem b2R_ex : b2R g G (.ex n δ) = .ex n δ := nr rfl
@[simp] theorem b2K_ok : b2K g d (.ok (.v l) δ) = res (g d l.pd) δ := nr rfl
@[simp] theorem b2K_ex : b2K g d (.ex n δ) = .ex n δ := nr rfl
def u1R (g : PD → Option M) (r : R M) : R M := r.p fun a δ1 => res (g a) δ1
@[simp] theorem eU1_ : eU1 g1 F δ = u1R g1 (F δ) := nr rfl
@[simp] theorem u1R_ok : u1R g1 (.ok (.v l) δ) = res (g1 l.pd) δ := nr rfl
@[simp] theorem u1R_ex : u1R g1 (.ex n δ) = .ex n δ := nr rfl
def anR (G : EF) (r : R M) : R M := r.p fun d δ1 => match d with
  | .bool true => G δ1
  | .bool false => .ok (.fz (.bool false)) δ1
  | _ => .bad
@[simp] theorem eAn_ : eAn F G δ = anR G (F δ) := nr rfl
@[simp] theorem anR_t : anR G (.ok (.v (.fz (.bool true))) δ) = G δ := nr rfl
@[simp] theorem anR_f : anR G (.ok (.v (.fz (.bool false))) δ) = .ok (.fz (.bool false)) δ := nr rfl
@[simp] theorem anR_ex : anR G (.ex n δ) = .ex n δ := nr rfl
def orR (G : EF) (r : R M) : R M := r.p fun d δ1 => match d with
  | .bool true => .ok (.fz (.bool true)) δ1
  | .bool false => G δ1
  | _ => .bad
@[simp] theorem eOr_ : eOr F G δ = orR G (F δ) := nr rfl
@[simp] theorem orR_t : orR G (.ok (.v (.fz (.bool true))) δ) = .ok (.fz (.bool true)) δ := nr rfl
@[simp] theorem orR_f : orR G (.ok (.v (.fz (.bool false))) δ) = G δ := nr rfl
@[simp] theorem orR_ex : orR G (.ex n δ) = .ex n δ := nr rfl
def ntR (r : R M) : R M := r.p fun d δ1 => match d with
  | .bool b => .ok (.fz (.bool (!b))) δ1
  | _ => .bad
@[simp] theorem eNt_ : eNt F δ = ntR (F δ) := nr rfl
@[simp] theorem ntR_ok {b : Bool} : ntR (.ok (.v (.fz (.bool b))) δ) = .ok (.fz (.bool (!b))) δ := nr rfl
@[simp] theorem ntR_ex : ntR (.ex n δ) = .ex n δ := nr rfl
def chR (g g' : PD → PD → Option M) (G Hh : EF) (r : R M) : R M := r.p fun x δ1 => (G δ1).p fun y δ2 => match g x y with
  | some (.v (.fz (.bool true))) => (Hh δ2).p fun u δ3 => match g' y u with
    | some m => .ok m δ3
    | none => .bad
  | some (.v (.fz (.bool false))) => .ok (.fz (.bool false)) δ2
  | _ => .bad
def chK (g g' : PD → PD → Option M) (Hh : EF) (x : PD) (r : R M) : R M := r.p fun y δ2 => match g x y with
  | some (.v (.fz (.bool true))) => (Hh δ2).p fun u δ3 => match g' y u with
    | some m => .ok m δ3
    | none => .bad
  | some (.v (.fz (.bool false))) => .ok (.fz (.bool false)) δ2
  | _ => .bad
def chL (g' : PD → PD → Option M) (Hh : EF) (y : PD) (o : Option M) (δ : Env') : R M := match o with
  | some (.v (.fz (.bool true))) => b2K g' y (Hh δ)
  | some (.v (.fz (.bool false))) => .ok (.fz (.bool false)) δ
  | _ => .bad
@[simp] theorem eCh_ : eCh g g' F G Hh δ = chR g g' G Hh (F δ) := nr rfl
@[simp] theorem chR_ok : chR g g' G Hh (.ok (.v l) δ) = chK g g' Hh l.pd (G δ) := nr rfl
@[simp] theorem chK_ok : chK g g' Hh d (.ok (.v l) δ) = chL g' Hh l.pd (g d l.pd) δ := nr rfl
@[simp] theorem chL_t : chL g' Hh d (some (.v (.fz (.bool true)))) δ = b2K g' d (Hh δ) := nr rfl
@[simp] theorem chL_f : chL g' Hh d (some (.v (.fz (.bool false)))) δ = .ok (.fz (.bool false)) δ := nr rfl
def ifR (F G : EF) (r : R Bool) : R M := r.bind fun b δ1 => if b then F δ1 else G δ1
@[simp] theorem eIf_ : eIf A F G δ = ifR F G (A δ) := nr rfl
@[simp] theorem ifR_ok {b : Bool} : ifR F G (.ok b δ) = if b then F δ else G δ := nr rfl
@[simp] theorem ifR_t : ifR F G (.ok true δ) = F δ := nr rfl
@[simp] theorem ifR_f : ifR F G (.ok false δ) = G δ := nr rfl
@[simp] theorem ifR_ex : ifR F G (.ex n δ) = .ex n δ := nr rfl
/-! arguments -/
def avR (Af : AF) (r : R M) : R (List FS.Arg) := r.bind fun m δ1 => (Af δ1).bind fun as δ2 => .ok (.val m.frz :: as) δ2
def avK (m : M) (r : R (List FS.Arg)) : R (List FS.Arg) := r.bind fun as δ2 => .ok (.val m.frz :: as) δ2
@[simp] theorem aN_ : aN δ = .ok [] δ := nr rfl
@[simp] theorem aV_ : aV F Af δ = avR Af (F δ) := nr rfl
@[simp] theorem avR_ok : avR Af (.ok m δ) = avK m (Af δ) := nr rfl
@[simp] theorem avR_ex : avR Af (.ex n δ) = .ex n δ := nr rfl
@[simp] theorem avK_ok : avK m (.ok as δ) = .ok (.val m.frz :: as) δ := nr rfl
@[simp] theorem avK_ex : avK m (.ex n δ) = .ex n δ := nr rfl
def aiR (i : Nat) (Af : AF) (o : Option (Option M)) (δ : Env') : R (List FS.Arg) := match o with
  | some (some _) => (Af δ).bind fun as δ2 => .ok (.io i :: as) δ2
  | _ => .bad
def aiK (i : Nat) (r : R (List FS.Arg)) : R (List FS.Arg) := r.bind fun as δ2 => .ok (.io i :: as) δ2
@[simp] theorem aIo_ : aIo i Af δ = aiR i Af δ[i]? δ := nr rfl
@[simp] theorem aiR_ok : aiR i Af (some (some m)) δ = aiK i (Af δ) := nr rfl
@[simp] theorem aiK_ok : aiK i (.ok as δ) = .ok (.io i :: as) δ := nr rfl
@[simp] theorem aiK_ex : aiK i (.ex n δ) = .ex n δ := nr rfl
def dsR (g : List PD → Option M) (r : R (List FS.Arg)) : R M := r.bind fun as δ1 => match pds as with
  | some ds => match g ds with
    | some m => .ok m δ1
    | none => .bad
  | none => .bad
def dsK (g : List PD → Option M) (o : Option (List PD)) (δ : Env') : R M := match o with
  | some ds => res (g ds) δ
  | none => .bad
@[simp] theorem eDs_ : eDs gs Af δ = dsR gs (Af δ) := nr rfl
@[simp] theorem dsR_ok : dsR gs (.ok as δ) = dsK gs (pds as) δ := nr rfl
@[simp] theorem dsR_ex : dsR gs (.ex n δ) = .ex n δ := nr rfl
@[simp] theorem dsK_ok : dsK gs (some ds) δ = res (gs ds) δ := nr rfl
@[simp] theorem pds_nil : pds [] = some [] := nr rfl
@[simp] theorem pds_cons : pds (.val (.v l) :: as) = (pds as).map fun ds => l.pd :: ds := nr rfl
/-! calls -/
def clR (sem : Sem) (r : R (List FS.Arg)) : R M := r.bind fun as δ1 => match takeA as δ1 with
  | none => .bad
  | some p => match sem p.1 with
    | .ret m ms' => .ok m (putA as ms' p.2)
    | .ex n ms' => .ex n (putA as ms' p.2)
    | .bad => .bad
def clK (sem : Sem) (as : List FS.Arg) (o : Option (List M × Env')) : R M := match o with
  | none => .bad
  | some p => match sem p.1 with
    | .ret m ms' => .ok m (putA as ms' p.2)
    | .ex n ms' => .ex n (putA as ms' p.2)
    | .bad => .bad
def clL (as : List FS.Arg) (δ : Env') (r : FR) : R M := match r with
  | .ret m ms' => .ok m (putA as ms' δ)
  | .ex n ms' => .ex n (putA as ms' δ)
  | .bad => .bad
variable {sem : Sem} {ms ms' : List M}
@[simp] theorem eCl_ : eCl sem Af δ = clR sem (Af δ) := nr rfl
@[simp] theorem clR_ok : clR sem (.ok as δ) = clK sem as (takeA as δ) := nr rfl
@[simp] theorem clR_ex : clR sem (.ex n δ) = .ex n δ := nr rfl
@[simp] theorem clK_ok : clK sem as (some (ms, δ)) = clL as δ (sem ms) := nr rfl
@[simp] theorem clL_ret : clL as δ (.ret m ms) = .ok m (putA as ms δ) := nr rfl
@[simp] theorem clL_ex : clL as δ (.ex n ms) = .ex n (putA as ms δ) := nr rfl
@[simp] theorem takeA_nil : takeA [] δ = some ([], δ) := nr rfl
@[simp] theorem takeA_val : takeA (.val m :: as) δ = (takeA as δ).map fun q => (m :: q.1, q.2) := nr rfl
def taR (i : Nat) (as : List FS.Arg) (o : Option (Option M)) (δ : Env') : Option (List M × Env') := match o with
  | some (some m) => (takeA as (δ.set i none)).map fun q => (m :: q.1, q.2)
  | _ => none
@[simp] theorem takeA_io : takeA (.io i :: as) δ = taR i as δ[i]? δ := nr rfl
@[simp] theorem taR_ok : taR i as (some (some m)) δ = (takeA as (δ.set i none)).map fun q => (m :: q.1, q.2) := nr rfl
@[simp] theorem putA_nil : putA [] [] δ = δ := nr rfl
@[simp] theorem putA_val : putA (.val m :: as) (m' :: ms) δ = putA as ms δ := nr rfl
@[simp] theorem putA_io : putA (.io i :: as) (m' :: ms) δ = (putA as ms δ).set i (some m') := nr rfl
def c0R (δ : Env') (r : FR) : R M := match r with
  | .ret m _ => .ok m δ
  | _ => .bad
@[simp] theorem eCl0_ : eCl0 sem δ = c0R δ (sem []) := nr rfl
@[simp] theorem c0R_ret : c0R δ (.ret m ms) = .ok m δ := nr rfl
/-! slices -/
def slR (Lo Hi : OF) (r : R M) : R M := r.p fun d δ1 => (Lo δ1).bind fun lo δ2 => (Hi δ2).bind fun hi δ3 => res (gSl d lo hi) δ3
def slK (d : PD) (Hi : OF) (r : R (Option Int)) : R M := r.bind fun lo δ2 => (Hi δ2).bind fun hi δ3 => res (gSl d lo hi) δ3
def slL (d : PD) (lo : Option Int) (r : R (Option Int)) : R M := r.bind fun hi δ3 => res (gSl d lo hi) δ3
variable {Lo Hi : OF} {o lo hi : Option Int}
@[simp] theorem eSl_ : eSl F Lo Hi δ = slR Lo Hi (F δ) := nr rfl
@[simp] theorem slR_ok : slR Lo Hi (.ok (.v l) δ) = slK l.pd Hi (Lo δ) := nr rfl
@[simp] theorem slK_ok : slK d Hi (.ok lo δ) = slL d lo (Hi δ) := nr rfl
@[simp] theorem slL_ok : slL d lo (.ok hi δ) = res (gSl d lo hi) δ := nr rfl
@[simp] theorem oN_ : oN δ = .ok none δ := nr rfl
def oeR (r : R M) : R (Option Int) := r.bind fun m δ1 => match m with
  | .v (.fz (.int i)) => .ok (some i) δ1
  | _ => .bad
@[simp] theorem oE_ : oE F δ = oeR (F δ) := nr rfl
@[simp] theorem oeR_ok {i : Int} : oeR (.ok (.v (.fz (.int i))) δ) = .ok (some i) δ := nr rfl
/-! [..] * n -/
def mlR (G : EF) (r : R M) : R M := r.bind fun m δ1 => (G δ1).p fun d δ2 => res (gMulL m d) δ2
def mlK (m : M) (r : R M) : R M := r.p fun d δ2 => res (gMulL m d) δ2
@[simp] theorem eMulL_ : eMulL F G δ = mlR G (F δ) := nr rfl
@[simp] theorem mlR_ok : mlR G (.ok m δ) = mlK m (G δ) := nr rfl
@[simp] theorem mlK_ok : mlK m (.ok (.v l) δ) = res (gMulL m l.pd) δ := nr rfl
/-! tests -/
def teR (r : R M) : R Bool := r.p fun d δ1 => match d with
  | .bool b => .ok b δ1
  | _ => .bad
@[simp] theorem tE_ : tE F δ = teR (F δ) := nr rfl
@[simp] theorem teR_ok {b : Bool} : teR (.ok (.v (.fz (.bool b))) δ) = .ok b δ := nr rfl
@[simp] theorem teR_ex : teR (.ex n δ) = .ex n δ := nr rfl
def ttR (r : R M) : R Bool := r.p fun d δ1 => match truD d with
  | some b => .ok b δ1
  | none => .bad
def ttK (o : Option Bool) (δ : Env') : R Bool := match o with
  | some b => .ok b δ
  | none => .bad
@[simp] theorem tTru_ : tTru F δ = ttR (F δ) := nr rfl
@[simp] theorem ttR_ok : ttR (.ok (.v l) δ) = ttK (truD l.pd) δ := nr rfl
@[simp] theorem ttR_ex : ttR (.ex n δ) = .ex n δ := nr rfl
@[simp] theorem ttK_ok {b : Bool} : ttK (some b) δ = .ok b δ := nr rfl
def tnR (r : R Bool) : R Bool := r.bind fun b δ1 => .ok (!b) δ1
@[simp] theorem tNt_ : tNt A δ = tnR (A δ) := nr rfl
@[simp] theorem tnR_ok {b : Bool} : tnR (.ok b δ) = .ok (!b) δ := nr rfl
@[simp] theorem tnR_ex : tnR (.ex n δ) = .ex n δ := nr rfl
def taN (B : BF) (r : R Bool) : R Bool := r.bind fun b δ1 => if b then B δ1 else .ok false δ1
@[simp] theorem tAn_ : tAn A B δ = taN B (A δ) := nr rfl
@[simp] theorem taN_t : taN B (.ok true δ) = B δ := nr rfl
@[simp] theorem taN_f : taN B (.ok false δ) = .ok false δ := nr rfl
@[simp] theorem taN_ex : taN B (.ex n δ) = .ex n δ := nr rfl
def toR (B : BF) (r : R Bool) : R Bool := r.bind fun b δ1 => if b then .ok true δ1 else B δ1
@[simp] theorem tOr_ : tOr' A B δ = toR B (A δ) := nr rfl
@[simp] theorem toR_t : toR B (.ok true δ) = .ok true δ := nr rfl
@[simp] theorem toR_f : toR B (.ok false δ) = B δ := nr rfl
@[simp] theorem toR_ex : toR B (.ex n δ) = .ex n δ := nr rfl
@[simp] theorem tY_ : tY δ = .ok true δ := nr rfl
/-! statements -/
def sqR (T : SF) (r : SR) : SR := match r with
  | .nx δ1 => T δ1
  | r => r
@[simp] theorem sSq_ : sSq S T δ = sqR T (S δ) := by unfold sSq sqR; cases S δ <;> rfl
@[simp] theorem sqR_nx : sqR T (.nx δ) = T δ := nr rfl
@[simp] theorem sqR_rt : sqR T (.rt m δ) = .rt m δ := nr rfl
@[simp] theorem sqR_ex : sqR T (.ex n δ) = .ex n δ := nr rfl
@[simp] theorem sqR_bk : sqR T (.bk δ) = .bk δ := nr rfl
@[simp] theorem sqR_ct : sqR T (.ct δ) = .ct δ := nr rfl
@[simp] theorem sNl_ : sNl δ = .nx δ := nr rfl
@[simp] theorem sBk_ : sBk δ = .bk δ := nr rfl
@[simp] theorem sCt_ : sCt δ = .ct δ := nr rfl
@[simp] theorem sRn_ : sRn δ = .rt (.fz .none) δ := nr rfl
@[simp] theorem sRs_ : sRs n δ = .ex n δ := nr rfl
def exR (r : R M) : SR := r.s fun _ δ1 => .nx δ1
@[simp] theorem sEx_ : sEx F δ = exR (F δ) := nr rfl
@[simp] theorem exR_ok : exR (.ok m δ) = .nx δ := nr rfl
@[simp] theorem exR_ex : exR (.ex n δ) = .ex n δ := nr rfl
def rtR (r : R M) : SR := r.s fun m δ1 => .rt m δ1
@[simp] theorem sRt_ : sRt F δ = rtR (F δ) := nr rfl
@[simp] theorem rtR_ok : rtR (.ok m δ) = .rt m δ := nr rfl
@[simp] theorem rtR_ex : rtR (.ex n δ) = .ex n δ := nr rfl
def siR (S T : SF) (r : R Bool) : SR := r.s fun b δ1 => if b then S δ1 else T δ1
@[simp] theorem sIf_ : sIf A S T δ = siR S T (A δ) := nr rfl
@[simp] theorem siR_ok {b : Bool} : siR S T (.ok b δ) = if b then S δ else T δ := nr rfl
@[simp] theorem siR_t : siR S T (.ok true δ) = S δ := nr rfl
@[simp] theorem siR_f : siR S T (.ok false δ) = T δ := nr rfl
@[simp] theorem siR_ex : siR S T (.ex n δ) = .ex n δ := nr rfl
def asR (i : Nat) (r : R M) : SR := r.s fun m δ1 => if i < δ1.length then .nx (δ1.set i (some m)) else .bad
@[simp] theorem sAs_ : sAs i F δ = asR i (F δ) := nr rfl
@[simp] theorem asR_ok : asR i (.ok m δ) = if i < δ.length then .nx (δ.set i (some m)) else .bad := nr rfl
@[simp] theorem asR_ex : asR i (.ex n δ) = .ex n δ := nr rfl
variable {Gt : PD → Env' → Option Env'}
def agR (G : PD → Env' → Option Env') (r : R M) : SR := match r with
  | .ok (.v l) δ1 => (match G l.pd δ1 with
    | some δ2 => .nx δ2
    | none => .bad)
  | .ok _ _ => .bad
  | .ex n δ1 => .ex n δ1
  | .bad => .bad
def agK (o : Option Env') : SR := match o with
  | some δ2 => .nx δ2
  | none => .bad
@[simp] theorem sAg_ : sAg Gt F δ = agR Gt (F δ) := nr rfl
@[simp] theorem agR_ok : agR Gt (.ok (.v l) δ) = agK (Gt l.pd δ) := nr rfl
@[simp] theorem agR_ex : agR Gt (.ex n δ) = .ex n δ := nr rfl
@[simp] theorem agK_ok : agK (some δ) = .nx δ := nr rfl
@[simp] theorem gN_ : gN i d δ = if i < δ.length then some (δ.set i (some (.fz d))) else none := nr rfl
@[simp] theorem gUp_t {is : List Nat} : gUp is (.tuple ds) δ = setAll is ds δ := nr rfl
@[simp] theorem gUp_l {is : List Nat} : gUp is (.list ds) δ = setAll is ds δ := nr rfl
@[simp] theorem setAll_nil : setAll [] [] δ = some δ := nr rfl
@[simp] theorem setAll_cons {is : List Nat} : setAll (i :: is) (d :: ds) δ = if i < δ.length then setAll is ds (δ.set i (some (.fz d))) else none := nr rfl
def prR (is : List Nat) (r : R (List FS.Arg)) : SR := r.s fun as δ1 => match setAs is as δ1 with
  | some δ2 => .nx δ2
  | none => .bad
@[simp] theorem sPar_ {is : List Nat} : sPar is Af δ = prR is (Af δ) := nr rfl
@[simp] theorem prR_ok {is : List Nat} : prR is (.ok as δ) = agK (setAs is as δ) := nr rfl
@[simp] theorem prR_ex {is : List Nat} : prR is (.ex n δ) = .ex n δ := nr rfl
@[simp] theorem setAs_nil : setAs [] [] δ = some δ := nr rfl
@[simp] theorem setAs_cons {is : List Nat} : setAs (i :: is) (.val m :: as) δ = if i < δ.length then setAs is as (δ.set i (some m)) else none := nr rfl
/-! own lists -/
def apR (i : Nat) (F : EF) (o : Option (Option M)) (δ : Env') : SR := match o with
  | some (some (.v (.lst _))) => (F δ).s fun m δ1 => (match m, δ1[i]? with
    | .v l, some (some (.v (.lst ls))) => if ls.length < big then .nx (δ1.set i (some (.lst (ls ++ [l])))) else .bad
    | _, _ => .bad)
  | _ => .bad
def apK (i : Nat) (r : R M) : SR := r.s fun m δ1 => (match m, δ1[i]? with
    | .v l, some (some (.v (.lst ls))) => if ls.length < big then .nx (δ1.set i (some (.lst (ls ++ [l])))) else .bad
    | _, _ => .bad)
def apL (i : Nat) (l : L) (o : Option (Option M)) (δ : Env') : SR := match o with
    | some (some (.v (.lst ls))) => if ls.length < big then .nx (δ.set i (some (.lst (ls ++ [l])))) else .bad
    | _ => .bad
@[simp] theorem sApp_ : sApp i F δ = apR i F δ[i]? δ := nr rfl
@[simp] theorem apR_ok {ls : List L} : apR i F (some (some (.v (.lst ls)))) δ = apK i (F δ) := nr rfl
@[simp] theorem apK_ok : apK i (.ok (.v l) δ) = apL i l δ[i]? δ := by
  show (match (M.v l), δ[i]? with
    | .v l, some (some (.v (.lst ls))) => if ls.length < big then SR.nx (δ.set i (some (.lst (ls ++ [l])))) else .bad
    | _, _ => .bad) = _
  unfold apL
  generalize δ[i]? = o
  rcases o with _ | _ | (_ | _ | _) | _ <;> rfl
@[simp] theorem apK_ex : apK i (.ex n δ) = .ex n δ := nr rfl
@[simp] theorem apL_ok {ls : List L} : apL i l (some (some (.v (.lst ls)))) δ = if ls.length < big then .nx (δ.set i (some (.lst (ls ++ [l])))) else .bad := nr rfl
def stR (i : Nat) (Fi : EF) (r : R M) : SR := r.s fun m δ1 => match δ1[i]? with
  | some (some _) => (Fi δ1).s fun mi δ2 => stK i m mi δ2
  | _ => .bad
def stA (i : Nat) (Fi : EF) (m : M) (o : Option (Option M)) (δ : Env') : SR := match o with
  | some (some _) => (Fi δ).s fun mi δ2 => stK i m mi δ2
  | _ => .bad
def stB (i : Nat) (m : M) (r : R M) : SR := r.s fun mi δ2 => stK i m mi δ2
def stC (i : Nat) (l : L) (k : Int) (o : Option (Option M)) (δ : Env') : SR := match o with
  | some (some (.v (.lst ls))) => (match ixN ls.length k with
    | some j => .nx (δ.set i (some (.lst (ls.set j l))))
    | none => .bad)
  | _ => .bad
variable {Fi Fv : EF}
@[simp] theorem sSt_ : sSt i Fi Fv δ = stR i Fi (Fv δ) := nr rfl
@[simp] theorem stR_ok : stR i Fi (.ok m δ) = stA i Fi m δ[i]? δ := nr rfl
@[simp] theorem stR_ex : stR i Fi (.ex n δ) = .ex n δ := nr rfl
@[simp] theorem stA_ok {m' : M} : stA i Fi m (some (some m')) δ = stB i m (Fi δ) := nr rfl
@[simp] theorem stB_ok {k : Int} : stB i (.v l) (.ok (.v (.fz (.int k))) δ) = stC i l k δ[i]? δ := by
  show stK i (.v l) (.v (.fz (.int k))) δ = _
  unfold stC stK
  generalize δ[i]? = o
  rcases o with _ | _ | (_ | _ | _) | _ <;> rfl
def stD (i : Nat) (l : L) (ls : List L) (o : Option Nat) (δ : Env') : SR := match o with
    | some j => .nx (δ.set i (some (.lst (ls.set j l))))
    | none => .bad
@[simp] theorem stC_ok {k : Int} {ls : List L} : stC i l k (some (some (.v (.lst ls)))) δ = stD i l ls (ixN ls.length k) δ := nr rfl
@[simp] theorem stD_ok {ls : List L} : stD i l ls (some j) δ = .nx (δ.set i (some (.lst (ls.set j l)))) := nr rfl
/-! walks -/
variable {If : IF} {rng : List PD → Option (List PD)}
def foR (G : PD → Env' → Option Env') (S : SF) (r : R (List PD)) : SR := r.s fun ds δ1 => sLoop G S ds δ1
@[simp] theorem sFor_ : sFor If Gt S δ = foR Gt S (If δ) := nr rfl
@[simp] theorem foR_ok : foR Gt S (.ok ds δ) = sLoop Gt S ds δ := nr rfl
@[simp] theorem foR_ex : foR Gt S (.ex n δ) = .ex n δ := nr rfl
def ieR (r : R M) : R (List PD) := r.p fun d δ1 => match seqD d with
  | some ds => .ok ds δ1
  | none => .bad
def ieK (o : Option (List PD)) (δ : Env') : R (List PD) := match o with
  | some ds => .ok ds δ
  | none => .bad
@[simp] theorem iE_ : iE F δ = ieR (F δ) := nr rfl
@[simp] theorem ieR_ok : ieR (.ok (.v l) δ) = ieK (seqD l.pd) δ := nr rfl
@[simp] theorem ieR_ex : ieR (.ex n δ) = .ex n δ := nr rfl
@[simp] theorem ieK_ok : ieK (some ds) δ = .ok ds δ := nr rfl
def irR (rng : List PD → Option (List PD)) (r : R (List FS.Arg)) : R (List PD) := r.bind fun as δ1 => match pds as with
  | some ds => match rng ds with
    | some rs => .ok rs δ1
    | none => .bad
  | none => .bad
def irK (rng : List PD → Option (List PD)) (o : Option (List PD)) (δ : Env') : R (List PD) := match o with
  | some ds => ieK (rng ds) δ
  | none => .bad
@[simp] theorem iR_ : iR rng Af δ = irR rng (Af δ) := nr rfl
@[simp] theorem irR_ok : irR rng (.ok as δ) = irK rng (pds as) δ := nr rfl
@[simp] theorem irK_ok : irK rng (some ds) δ = ieK (rng ds) δ := nr rfl
def lcR (own : List Nat) (G : PD → Env' → Option Env') (T : BF) (E : EF) (r : R (List PD)) : R M := r.bind fun ds δ1 =>
  if keepOk δ1 own = true ∧ ds.length ≤ big then match cLoop own G T E ds (wipeE δ1 own) with
    | some r => .ok (.lst r.1) (backE δ1 own (wipeE r.2 own))
    | none => .bad
  else .bad
def lcK (own : List Nat) (δ1 : Env') (o : Option (List L × Env')) : R M := match o with
    | some r => .ok (.lst r.1) (backE δ1 own (wipeE r.2 own))
    | none => .bad
variable {own : List Nat} {Ef : EF} {Tf : BF} {ls : List L}
@[simp] theorem eLc_ : eLc own If Gt Tf Ef δ = lcR own Gt Tf Ef (If δ) := nr rfl
@[simp] theorem lcR_ok : lcR own Gt Tf Ef (.ok ds δ) = if keepOk δ own = true ∧ ds.length ≤ big then lcK own δ (cLoop own Gt Tf Ef ds (wipeE δ own)) else .bad := nr rfl
@[simp] theorem lcR_ex : lcR own Gt Tf Ef (.ex n δ) = .ex n δ := nr rfl
@[simp] theorem lcK_ok : lcK own δ (some (ls, δ1)) = .ok (.lst ls) (backE δ own (wipeE δ1 own)) := nr rfl
/-! try -/
variable {hs : List (Nat × SF)}
def trR (hs : List (Nat × SF)) (r : SR) : SR := match r with
  | .ex n δ1 => pick hs n δ1
  | r => r
@[simp] theorem sTr_ : sTr S hs δ = trR hs (S δ) := by unfold sTr trR; cases S δ <;> rfl
@[simp] theorem trR_nx : trR hs (.nx δ) = .nx δ := nr rfl
@[simp] theorem trR_rt : trR hs (.rt m δ) = .rt m δ := nr rfl
@[simp] theorem trR_bk : trR hs (.bk δ) = .bk δ := nr rfl
@[simp] theorem trR_ct : trR hs (.ct δ) = .ct δ := nr rfl
@[simp] theorem trR_ex : trR hs (.ex n δ) = pick hs n δ := nr rfl
@[simp] theorem pick_nil : pick [] n δ = .ex n δ := nr rfl
@[simp] theorem pick_cons {c : Nat} : pick ((c, S) :: hs) n δ = if subX n c then S δ else pick hs n δ := nr rfl
@[simp] theorem noExs_nil : noExs [] = [] := nr rfl
@[simp] theorem noExs_cons {c : Nat} : noExs ((c, S) :: hs) = (c, noEx S) :: noExs hs := nr rfl
def neR (r : SR) : SR := match r with
  | .ex _ _ => .bad
  | r => r
@[simp] theorem noEx_ : noEx S δ = neR (S δ) := by unfold noEx neR; cases S δ <;> rfl
@[simp] theorem neR_nx : neR (.nx δ) = .nx δ := nr rfl
@[simp] theorem neR_rt : neR (.rt m δ) = .rt m δ := nr rfl
/-! defs -/
variable {np : Nat} {io : List Nat}
def soR (io : List Nat) (ms : List M) (r : SR) : FR := frOf io ms r
theorem semOf_ (h : ms.length = np) (h2 : okArgs io 0 ms = true) : semOf n np io S ms = frOf io ms (S (ms.map some ++ List.replicate (n - np) none)) := if_pos ⟨h, h2⟩
theorem frOf_nx : frOf io ms (.nx δ) = (match backA io 0 ms δ with
    | some ms' => .ret (.fz .none) ms'
    | none => .bad) := rfl
theorem frOf_rt : frOf io ms (.rt m δ) = (match backA io 0 ms δ with
    | some ms' => .ret m ms'
    | none => .bad) := rfl
theorem frOf_ex : frOf io ms (.ex n δ) = (match backA io 0 ms δ with
    | some ms' => .ex n ms'
    | none => .bad) := rfl
@[simp] theorem backA_nil : backA io j [] δ = some [] := nr rfl
/-- nothing is lent -/
theorem backA_no : ∀ {ms : List M} {j : Nat} {δ : Env'}, ms.length ≤ δ.length → backA [] j ms δ = some ms
  | [], _, _, _ => rfl
  | m :: ms, j, o :: δ, h => by
    unfold backA
    rw [if_neg (by simp), backA_no (by simpa using h)]
    rfl
/-! frozen, plain -/
@[simp] theorem frz_fz : (M.v (.fz d)).frz = .v (.fz d) := nr rfl
@[simp] theorem pd_fz : (L.fz d).pd = d := nr rfl
@[simp] theorem frz_lst : (M.v (.lst ls)).frz = .v (.fz (.list (L.pds ls))) := nr rfl
@[simp] theorem pd_lst : (L.lst ls).pd = .list (L.pds ls) := nr rfl
@[simp] theorem pds_map : ∀ ds : List PD, L.pds (ds.map .fz) = ds
  | [] => rfl
  | d :: ds => by show d :: L.pds (ds.map .fz) = _; rw [pds_map ds]
@[simp] theorem pds_comp {β : Type} {f : β → PD} : ∀ xs : List β, L.pds (xs.map (L.fz ∘ f)) = xs.map f
  | [] => rfl
  | x :: r => by show f x :: L.pds (r.map (L.fz ∘ f)) = _; rw [pds_comp r]; rfl
@[simp] theorem pds_nil' : L.pds [] = [] := nr rfl
@[simp] theorem pds_cons' : L.pds (l :: ls) = l.pd :: L.pds ls := nr rfl
@[simp] theorem frzE_nil : frzE [] = [] := nr rfl
@[simp] theorem frzE_no : frzE (none :: δ) = none :: frzE δ := nr rfl
@[simp] theorem frzE_yes : frzE (some m :: δ) = some m.frz :: frzE δ := nr rfl
/-! a loop over written items -/
def loL (G : PD → Env' → Option Env') (S : SF) (ds : List PD) (r : SR) : SR := match r with
  | .nx δ2 => sLoop G S ds δ2
  | .ct δ2 => sLoop G S ds δ2
  | .bk δ2 => .nx δ2
  | r => r
def loK (G : PD → Env' → Option Env') (S : SF) (ds : List PD) (o : Option Env') : SR := match o with
  | none => .bad
  | some δ1 => loL G S ds (S δ1)
@[simp] theorem sLoop_nil : sLoop Gt S [] δ = .nx δ := nr rfl
@[simp] theorem sLoop_cons : sLoop Gt S (d :: ds) δ = loK Gt S ds (Gt d δ) := by
  show (match Gt d δ with
    | none => SR.bad
    | some δ1 => match S δ1 with
      | .nx δ2 => sLoop Gt S ds δ2
      | .ct δ2 => sLoop Gt S ds δ2
      | .bk δ2 => .nx δ2
      | r => r) = _
  cases Gt d δ with
  | none => rfl
  | some δ1 =>
    show (match S δ1 with
      | .nx δ2 => sLoop Gt S ds δ2
      | .ct δ2 => sLoop Gt S ds δ2
      | .bk δ2 => .nx δ2
      | r => r) = loL Gt S ds (S δ1)
    cases S δ1 <;> rfl
@[simp] theorem loK_ok : loK Gt S ds (some δ) = loL Gt S ds (S δ) := nr rfl
@[simp] theorem loL_nx : loL Gt S ds (.nx δ) = sLoop Gt S ds δ := nr rfl
@[simp] theorem loL_ct : loL Gt S ds (.ct δ) = sLoop Gt S ds δ := nr rfl
@[simp] theorem loL_bk : loL Gt S ds (.bk δ) = .nx δ := nr rfl
@[simp] theorem loL_rt : loL Gt S ds (.rt m δ) = .rt m δ := nr rfl
@[simp] theorem loL_ex : loL Gt S ds (.ex n δ) = .ex n δ := nr rfl
/-! places -/
@[simp] theorem at0 {α : Type} {a0 : α} {r : List α} : (a0 :: r)[0]? = some a0 := nr rfl
@[simp] theorem at1 {α : Type} {a0 a1 : α} {r : List α} : (a0 :: a1 :: r)[1]? = some a1 := nr rfl
@[simp] theorem at2 {α : Type} {a0 a1 a2 : α} {r : List α} : (a0 :: a1 :: a2 :: r)[2]? = some a2 := nr rfl
@[simp] theorem at3 {α : Type} {a0 a1 a2 a3 : α} {r : List α} : (a0 :: a1 :: a2 :: a3 :: r)[3]? = some a3 := nr rfl
@[simp] theorem at4 {α : Type} {a0 a1 a2 a3 a4 : α} {r : List α} : (a0 :: a1 :: a2 :: a3 :: a4 :: r)[4]? = some a4 := nr rfl
@[simp] theorem at5 {α : Type} {a0 a1 a2 a3 a4 a5 : α} {r : List α} : (a0 :: a1 :: a2 :: a3 :: a4 :: a5 :: r)[5]? = some a5 := nr rfl
@[simp] theorem at6 {α : Type} {a0 a1 a2 a3 a4 a5 a6 : α} {r : List α} : (a0 :: a1 :: a2 :: a3 :: a4 :: a5 :: a6 :: r)[6]? = some a6 := nr rfl
@[simp] theorem at7 {α : Type} {a0 a1 a2 a3 a4 a5 a6 a7 : α} {r : List α} : (a0 :: a1 :: a2 :: a3 :: a4 :: a5 :: a6 :: a7 :: r)[7]? = some a7 := nr rfl
@[simp] theorem at8 {α : Type} {a0 a1 a2 a3 a4 a5 a6 a7 a8 : α} {r : List α} : (a0 :: a1 :: a2 :: a3 :: a4 :: a5 :: a6 :: a7 :: a8 :: r)[8]? = some a8 := nr rfl
@[simp] theorem at9 {α : Type} {a0 a1 a2 a3 a4 a5 a6 a7 a8 a9 : α} {r : List α} : (a0 :: a1 :: a2 :: a3 :: a4 :: a5 :: a6 :: a7 :: a8 :: a9 :: r)[9]? = some a9 := nr rfl
@[simp] theorem at10 {α : Type} {a0 a1 a2 a3 a4 a5 a6 a7 a8 a9 a10 : α} {r : List α} : (a0 :: a1 :: a2 :: a3 :: a4 :: a5 :: a6 :: a7 :: a8 :: a9 :: a10 :: r)[10]? = some a10 := nr rfl
@[simp] theorem at11 {α : Type} {a0 a1 a2 a3 a4 a5 a6 a7 a8 a9 a10 a11 : α} {r : List α} : (a0 :: a1 :: a2 :: a3 :: a4 :: a5 :: a6 :: a7 :: a8 :: a9 :: a10 :: a11 :: r)[11]? = some a11 := nr rfl
@[simp] theorem at12 {α : Type} {a0 a1 a2 a3 a4 a5 a6 a7 a8 a9 a10 a11 a12 : α} {r : List α} : (a0 :: a1 :: a2 :: a3 :: a4 :: a5 :: a6 :: a7 :: a8 :: a9 :: a10 :: a11 :: a12 :: r)[12]? = some a12 := nr rfl
@[simp] theorem at13 {α : Type} {a0 a1 a2 a3 a4 a5 a6 a7 a8 a9 a10 a11 a12 a13 : α} {r : List α} : (a0 :: a1 :: a2 :: a3 :: a4 :: a5 :: a6 :: a7 :: a8 :: a9 :: a10 :: a11 :: a12 :: a13 :: r)[13]? = some a13 := nr rfl
@[simp] theorem at14 {α : Type} {a0 a1 a2 a3 a4 a5 a6 a7 a8 a9 a10 a11 a12 a13 a14 : α} {r : List α} : (a0 :: a1 :: a2 :: a3 :: a4 :: a5 :: a6 :: a7 :: a8 :: a9 :: a10 :: a11 :: a12 :: a13 :: a14 :: r)[14]? = some a14 := nr rfl
@[simp] theorem at15 {α : Type} {a0 a1 a2 a3 a4 a5 a6 a7 a8 a9 a10 a11 a12 a13 a14 a15 : α} {r : List α} : (a0 :: a1 :: a2 :: a3 :: a4 :: a5 :: a6 :: a7 :: a8 :: a9 :: a10 :: a11 :: a12 :: a13 :: a14 :: a15 :: r)[15]? = some a15 := nr rfl
@[simp] theorem at16 {α : Type} {a0 a1 a2 a3 a4 a5 a6 a7 a8 a9 a10 a11 a12 a13 a14 a15 a16 : α} {r : List α} : (a0 :: a1 :: a2 :: a3 :: a4 :: a5 :: a6 :: a7 :: a8 :: a9 :: a10 :: a11 :: a12 :: a13 :: a14 :: a15 :: a16 :: r)[16]? = some a16 := nr rfl
@[simp] theorem at17 {α : Type} {a0 a1 a2 a3 a4 a5 a6 a7 a8 a9 a10 a11 a12 a13 a14 a15 a16 a17 : α} {r : List α} : (a0 :: a1 :: a2 :: a3 :: a4 :: a5 :: a6 :: a7 :: a8 :: a9 :: a10 :: a11 :: a12 :: a13 :: a14 :: a15 :: a16 :: a17 :: r)[17]? = some a17 := nr rfl
@[simp] theorem at18 {α : Type} {a0 a1 a2 a3 a4 a5 a6 a7 a8 a9 a10 a11 a12 a13 a14 a15 a16 a17 a18 : α} {r : List α} : (a0 :: a1 :: a2 :: a3 :: a4 :: a5 :: a6 :: a7 :: a8 :: a9 :: a10 :: a11 :: a12 :: a13 :: a14 :: a15 :: a16 :: a17 :: a18 :: r)[18]? = some a18 := nr rfl
@[simp] theorem at19 {α : Type} {a0 a1 a2 a3 a4 a5 a6 a7 a8 a9 a10 a11 a12 a13 a14 a15 a16 a17 a18 a19 : α} {r : List α} : (a0 :: a1 :: a2 :: a3 :: a4 :: a5 :: a6 :: a7 :: a8 :: a9 :: a10 :: a11 :: a12 :: a13 :: a14 :: a15 :: a16 :: a17 :: a18 :: a19 :: r)[19]? = some a19 := nr rfl
@[simp] theorem at20 {α : Type} {a0 a1 a2 a3 a4 a5 a6 a7 a8 a9 a10 a11 a12 a13 a14 a15 a16 a17 a18 a19 a20 : α} {r : List α} : (a0 :: a1 :: a2 :: a3 :: a4 :: a5 :: a6 :: a7 :: a8 :: a9 :: a10 :: a11 :: a12 :: a13 :: a14 :: a15 :: a16 :: a17 :: a18 :: a19 :: a20 :: r)[20]? = some a20 := nr rfl
@[simp] theorem at21 {α : Type} {a0 a1 a2 a3 a4 a5 a6 a7 a8 a9 a10 a11 a12 a13 a14 a15 a16 a17 a18 a19 a20 a21 : α} {r : List α} : (a0 :: a1 :: a2 :: a3 :: a4 :: a5 :: a6 :: a7 :: a8 :: a9 :: a10 :: a11 :: a12 :: a13 :: a14 :: a15 :: a16 :: a17 :: a18 :: a19 :: a20 :: a21 :: r)[21]? = some a21 := nr rfl
@[simp] theorem at22 {α : Type} {a0 a1 a2 a3 a4 a5 a6 a7 a8 a9 a10 a11 a12 a13 a14 a15 a16 a17 a18 a19 a20 a21 a22 : α} {r : List α} : (a0 :: a1 :: a2 :: a3 :: a4 :: a5 :: a6 :: a7 :: a8 :: a9 :: a10 :: a11 :: a12 :: a13 :: a14 :: a15 :: a16 :: a17 :: a18 :: a19 :: a20 :: a21 :: a22 :: r)[22]? = some a22 := nr rfl
@[simp] theorem at23 {α : Type} {a0 a1 a2 a3 a4 a5 a6 a7 a8 a9 a10 a11 a12 a13 a14 a15 a16 a17 a18 a19 a20 a21 a22 a23 : α} {r : List α} : (a0 :: a1 :: a2 :: a3 :: a4 :: a5 :: a6 :: a7 :: a8 :: a9 :: a10 :: a11 :: a12 :: a13 :: a14 :: a15 :: a16 :: a17 :: a18 :: a19 :: a20 :: a21 :: a22 :: a23 :: r)[23]? = some a23 := nr rfl
@[simp] theorem fn1 {a0 : M} {x0 : Option M} {r : Env'} : frOf [] [a0] (.nx (x0 :: r)) = .ret (.fz .none) [a0] := nr rfl
@[simp] theorem ft1 {m a0 : M} {x0 : Option M} {r : Env'} : frOf [] [a0] (.rt m (x0 :: r)) = .ret m [a0] := nr rfl
@[simp] theorem fx1 {n : Nat} {a0 : M} {x0 : Option M} {r : Env'} : frOf [] [a0] (.ex n (x0 :: r)) = .ex n [a0] := nr rfl
@[simp] theorem fn2 {a0 a1 : M} {x0 x1 : Option M} {r : Env'} : frOf [] [a0, a1] (.nx (x0 :: x1 :: r)) = .ret (.fz .none) [a0, a1] := nr rfl
@[simp] theorem ft2 {m a0 a1 : M} {x0 x1 : Option M} {r : Env'} : frOf [] [a0, a1] (.rt m (x0 :: x1 :: r)) = .ret m [a0, a1] := nr rfl
@[simp] theorem fx2 {n : Nat} {a0 a1 : M} {x0 x1 : Option M} {r : Env'} : frOf [] [a0, a1] (.ex n (x0 :: x1 :: r)) = .ex n [a0, a1] := nr rfl
@[simp] theorem fn3 {a0 a1 a2 : M} {x0 x1 x2 : Option M} {r : Env'} : frOf [] [a0, a1, a2] (.nx (x0 :: x1 :: x2 :: r)) = .ret (.fz .none) [a0, a1, a2] := nr rfl
@[simp] theorem ft3 {m a0 a1 a2 : M} {x0 x1 x2 : Option M} {r : Env'} : frOf [] [a0, a1, a2] (.rt m (x0 :: x1 :: x2 :: r)) = .ret m [a0, a1, a2] := nr rfl
@[simp] theorem fx3 {n : Nat} {a0 a1 a2 : M} {x0 x1 x2 : Option M} {r : Env'} : frOf [] [a0, a1, a2] (.ex n (x0 :: x1 :: x2 :: r)) = .ex n [a0, a1, a2] := nr rfl
@[simp] theorem fn4 {a0 a1 a2 a3 : M} {x0 x1 x2 x3 : Option M} {r : Env'} : frOf [] [a0, a1, a2, a3] (.nx (x0 :: x1 :: x2 :: x3 :: r)) = .ret (.fz .none) [a0, a1, a2, a3] := nr rfl
@[simp] theorem ft4 {m a0 a1 a2 a3 : M} {x0 x1 x2 x3 : Option M} {r : Env'} : frOf [] [a0, a1, a2, a3] (.rt m (x0 :: x1 :: x2 :: x3 :: r)) = .ret m [a0, a1, a2, a3] := nr rfl
@[simp] theorem fx4 {n : Nat} {a0 a1 a2 a3 : M} {x0 x1 x2 x3 : Option M} {r : Env'} : frOf [] [a0, a1, a2, a3] (.ex n (x0 :: x1 :: x2 :: x3 :: r)) = .ex n [a0, a1, a2, a3] := nr rfl
@[simp] theorem fn5 {a0 a1 a2 a3 a4 : M} {x0 x1 x2 x3 x4 : Option M} {r : Env'} : frOf [] [a0, a1, a2, a3, a4] (.nx (x0 :: x1 :: x2 :: x3 :: x4 :: r)) = .ret (.fz .none) [a0, a1, a2, a3, a4] := nr rfl
@[simp] theorem ft5 {m a0 a1 a2 a3 a4 : M} {x0 x1 x2 x3 x4 : Option M} {r : Env'} : frOf [] [a0, a1, a2, a3, a4] (.rt m (x0 :: x1 :: x2 :: x3 :: x4 :: r)) = .ret m [a0, a1, a2, a3, a4] := nr rfl
@[simp] theorem fx5 {n : Nat} {a0 a1 a2 a3 a4 : M} {x0 x1 x2 x3 x4 : Option M} {r : Env'} : frOf [] [a0, a1, a2, a3, a4] (.ex n (x0 :: x1 :: x2 :: x3 :: x4 :: r)) = .ex n [a0, a1, a2, a3, a4] := nr rfl
@[simp] theorem fn6 {a0 a1 a2 a3 a4 a5 : M} {x0 x1 x2 x3 x4 x5 : Option M} {r : Env'} : frOf [] [a0, a1, a2, a3, a4, a5] (.nx (x0 :: x1 :: x2 :: x3 :: x4 :: x5 :: r)) = .ret (.fz .none) [a0, a1, a2, a3, a4, a5] := nr rfl
@[simp] theorem ft6 {m a0 a1 a2 a3 a4 a5 : M} {x0 x1 x2 x3 x4 x5 : Option M} {r : Env'} : frOf [] [a0, a1, a2, a3, a4, a5] (.rt m (x0 :: x1 :: x2 :: x3 :: x4 :: x5 :: r)) = .ret m [a0, a1, a2, a3, a4, a5] := nr rfl
@[simp] theorem fx6 {n : Nat} {a0 a1 a2 a3 a4 a5 : M} {x0 x1 x2 x3 x4 x5 : Option M} {r : Env'} : frOf [] [a0, a1, a2, a3, a4, a5] (.ex n (x0 :: x1 :: x2 :: x3 :: x4 :: x5 :: r)) = .ex n [a0, a1, a2, a3, a4, a5] := nr rfl
@[simp] theorem fn0 {r : Env'} : frOf [] [] (.nx r) = .ret (.fz .none) [] := nr rfl
@[simp] theorem ft0 {m : M} {r : Env'} : frOf [] [] (.rt m r) = .ret m [] := nr rfl
@[simp] theorem fi1 {m a b : M} {r : Env'} : frOf [0] [a] (.rt m (some b :: r)) = .ret m [b] := nr rfl
@[simp] theorem fi2 {m a b a1 : M} {x : Option M} {r : Env'} : frOf [0] [a, a1] (.rt m (some b :: x :: r)) = .ret m [b, a1] := nr rfl
@[simp] theorem fi3 {m a b a1 a2 : M} {x y : Option M} {r : Env'} : frOf [0] [a, a1, a2] (.rt m (some b :: x :: y :: r)) = .ret m [b, a1, a2] := nr rfl
@[simp] theorem fi4 {m a b a1 a2 a3 : M} {x y z : Option M} {r : Env'} : frOf [0] [a, a1, a2, a3] (.rt m (some b :: x :: y :: z :: r)) = .ret m [b, a1, a2, a3] := nr rfl
@[simp] theorem gt0 : FS.gTup [] = some (.fz (.tuple [])) := nr rfl
@[simp] theorem gl0 : FS.gLst [] = some (.lst []) := nr rfl
@[simp] theorem gt1 {a0 : PD} : FS.gTup [a0] = some (.fz (.tuple [a0])) := nr rfl
@[simp] theorem gl1 {a0 : PD} : FS.gLst [a0] = some (.lst [.fz a0]) := nr rfl
@[simp] theorem gt2 {a0 a1 : PD} : FS.gTup [a0, a1] = some (.fz (.tuple [a0, a1])) := nr rfl
@[simp] theorem gl2 {a0 a1 : PD} : FS.gLst [a0, a1] = some (.lst [.fz a0, .fz a1]) := nr rfl
@[simp] theorem gt3 {a0 a1 a2 : PD} : FS.gTup [a0, a1, a2] = some (.fz (.tuple [a0, a1, a2])) := nr rfl
@[simp] theorem gl3 {a0 a1 a2 : PD} : FS.gLst [a0, a1, a2] = some (.lst [.fz a0, .fz a1, .fz a2]) := nr rfl
@[simp] theorem gt4 {a0 a1 a2 a3 : PD} : FS.gTup [a0, a1, a2, a3] = some (.fz (.tuple [a0, a1, a2, a3])) := nr rfl
@[simp] theorem gl4 {a0 a1 a2 a3 : PD} : FS.gLst [a0, a1, a2, a3] = some (.lst [.fz a0, .fz a1, .fz a2, .fz a3]) := nr rfl
@[simp] theorem gt5 {a0 a1 a2 a3 a4 : PD} : FS.gTup [a0, a1, a2, a3, a4] = some (.fz (.tuple [a0, a1, a2, a3, a4])) := nr rfl
@[simp] theorem gl5 {a0 a1 a2 a3 a4 : PD} : FS.gLst [a0, a1, a2, a3, a4] = some (.lst [.fz a0, .fz a1, .fz a2, .fz a3, .fz a4]) := nr rfl
@[simp] theorem gt6 {a0 a1 a2 a3 a4 a5 : PD} : FS.gTup [a0, a1, a2, a3, a4, a5] = some (.fz (.tuple [a0, a1, a2, a3, a4, a5])) := nr rfl
@[simp] theorem gl6 {a0 a1 a2 a3 a4 a5 : PD} : FS.gLst [a0, a1, a2, a3, a4, a5] = some (.lst [.fz a0, .fz a1, .fz a2, .fz a3, .fz a4, .fz a5]) := nr rfl
@[simp] theorem gt7 {a0 a1 a2 a3 a4 a5 a6 : PD} : FS.gTup [a0, a1, a2, a3, a4, a5, a6] = some (.fz (.tuple [a0, a1, a2, a3, a4, a5, a6])) := nr rfl
@[simp] theorem gl7 {a0 a1 a2 a3 a4 a5 a6 : PD} : FS.gLst [a0, a1, a2, a3, a4, a5, a6] = some (.lst [.fz a0, .fz a1, .fz a2, .fz a3, .fz a4, .fz a5, .fz a6]) := nr rfl
@[simp] theorem gt8 {a0 a1 a2 a3 a4 a5 a6 a7 : PD} : FS.gTup [a0, a1, a2, a3, a4, a5, a6, a7] = some (.fz (.tuple [a0, a1, a2, a3, a4, a5, a6, a7])) := nr rfl
@[simp] theorem gl8 {a0 a1 a2 a3 a4 a5 a6 a7 : PD} : FS.gLst [a0, a1, a2, a3, a4, a5, a6, a7] = some (.lst [.fz a0, .fz a1, .fz a2, .fz a3, .fz a4, .fz a5, .fz a6, .fz a7]) := nr rfl
@[simp] theorem gt9 {a0 a1 a2 a3 a4 a5 a6 a7 a8 : PD} : FS.gTup [a0, a1, a2, a3, a4, a5, a6, a7, a8] = some (.fz (.tuple [a0, a1, a2, a3, a4, a5, a6, a7, a8])) := nr rfl
@[simp] theorem gl9 {a0 a1 a2 a3 a4 a5 a6 a7 a8 : PD} : FS.gLst [a0, a1, a2, a3, a4, a5, a6, a7, a8] = some (.lst [.fz a0, .fz a1, .fz a2, .fz a3, .fz a4, .fz a5, .fz a6, .fz a7, .fz a8]) := nr rfl
@[simp] theorem gt10 {a0 a1 a2 a3 a4 a5 a6 a7 a8 a9 : PD} : FS.gTup [a0, a1, a2, a3, a4, a5, a6, a7, a8, a9] = some (.fz (.tuple [a0, a1, a2, a3, a4, a5, a6, a7, a8, a9])) := nr rfl
@[simp] theorem gl10 {a0 a1 a2 a3 a4 a5 a6 a7 a8 a9 : PD} : FS.gLst [a0, a1, a2, a3, a4, a5, a6, a7, a8, a9] = some (.lst [.fz a0, .fz a1, .fz a2, .fz a3, .fz a4, .fz a5, .fz a6, .fz a7, .fz a8, .fz a9]) := nr rfl
@[simp] theorem gt11 {a0 a1 a2 a3 a4 a5 a6 a7 a8 a9 a10 : PD} : FS.gTup [a0, a1, a2, a3, a4, a5, a6, a7, a8, a9, a10] = some (.fz (.tuple [a0, a1, a2, a3, a4, a5, a6, a7, a8, a9, a10])) := nr rfl
@[simp] theorem gl11 {a0 a1 a2 a3 a4 a5 a6 a7 a8 a9 a10 : PD} : FS.gLst [a0, a1, a2, a3, a4, a5, a6, a7, a8, a9, a10] = some (.lst [.fz a0, .fz a1, .fz a2, .fz a3, .fz a4, .fz a5, .fz a6, .fz a7, .fz a8, .fz a9, .fz a10]) := nr rfl
@[simp] theorem gt12 {a0 a1 a2 a3 a4 a5 a6 a7 a8 a9 a10 a11 : PD} : FS.gTup [a0, a1, a2, a3, a4, a5, a6, a7, a8, a9, a10, a11] = some (.fz (.tuple [a0, a1, a2, a3, a4, a5, a6, a7, a8, a9, a10, a11])) := nr rfl
@[simp] theorem gl12 {a0 a1 a2 a3 a4 a5 a6 a7 a8 a9 a10 a11 : PD} : FS.gLst [a0, a1, a2, a3, a4, a5, a6, a7, a8, a9, a10, a11] = some (.lst [.fz a0, .fz a1, .fz a2, .fz a3, .fz a4, .fz a5, .fz a6, .fz a7, .fz a8, .fz a9, .fz a10, .fz a11]) := nr rfl
/-! branches that meet again -/
@[simp] theorem ite_okand {p : Prop} [Decidable p] {c : Bool} : (if p then R.ok (M.v (.fz (.bool c))) δ else R.ok (M.v (.fz (.bool false))) δ) = R.ok (M.v (.fz (.bool (decide p && c)))) δ := by by_cases h : p <;> simp [h]
@[simp] theorem ite_okor {p : Prop} [Decidable p] {c : Bool} : (if p then R.ok (M.v (.fz (.bool true))) δ else R.ok (M.v (.fz (.bool c))) δ) = R.ok (M.v (.fz (.bool (decide p || c)))) δ := by by_cases h : p <;> simp [h]
@[simp] theorem ite_tand {p : Prop} [Decidable p] {c : Bool} : (if p then R.ok c δ else R.ok false δ) = R.ok (decide p && c) δ := by by_cases h : p <;> simp [h]
@[simp] theorem ite_tor {p : Prop} [Decidable p] {c : Bool} : (if p then R.ok true δ else R.ok c δ) = R.ok (decide p || c) δ := by by_cases h : p <;> simp [h]
@[simp] theorem chL_b {b : Bool} : chL g' Hh d (some (.v (.fz (.bool b)))) δ = if b = true then b2K g' d (Hh δ) else .ok (.fz (.bool false)) δ := by cases b <;> rfl
@[simp] theorem anR_b {b : Bool} : anR G (.ok (.v (.fz (.bool b))) δ) = if b = true then G δ else .ok (.fz (.bool false)) δ := by cases b <;> rfl
@[simp] theorem orR_b {b : Bool} : orR G (.ok (.v (.fz (.bool b))) δ) = if b = true then .ok (.fz (.bool true)) δ else G δ := by cases b <;> rfl
@[simp] theorem taN_b {b : Bool} : taN B (.ok b δ) = if b = true then B δ else .ok false δ := by cases b <;> rfl
@[simp] theorem toR_b {b : Bool} : toR B (.ok b δ) = if b = true then .ok true δ else B δ := by cases b <;> rfl
@[simp] theorem fr0_nx {ms : List M} {δ : Env'} (h : ms.length ≤ δ.length) : frOf [] ms (.nx δ) = .ret (.fz .none) ms := by rw [frOf_nx, backA_no h]
@[simp] theorem fr0_rt {ms : List M} {δ : Env'} {m : M} (h : ms.length ≤ δ.length) : frOf [] ms (.rt m δ) = .ret m ms := by rw [frOf_rt, backA_no h]
@[simp] theorem fr0_ex {ms : List M} {δ : Env'} {n : Nat} (h : ms.length ≤ δ.length) : frOf [] ms (.ex n δ) = .ex n ms := by rw [frOf_ex, backA_no h]
end
/-! operations on data -/
section
variable {i j : Int} {d e : PD} {ds es : List PD} {x y : Str} {b c : Bool}
@[simp] theorem gIsa_ {f : PD → Bool} {d : PD} : gIsa f d = some (.fz (.bool (f d))) := nr rfl
@[simp] theorem okEq_ii : okEq (.int i) (.int j) = true := nr rfl
@[simp] theorem okLt_ii : okLt (.int i) (.int j) = true := by unfold okLt; simp [okN, PySem.W.alike]
@[simp] theorem dataLt_i : PySem.W.dataLt (.int i) (.int j) = decide (i < j) := PySem.W.dataLt_int i j
@[simp] theorem gAdd_ii : gAdd (.int i) (.int j) = some (.fz (.int (i + j))) := nr rfl
@[simp] theorem gSub_ii : gSub (.int i) (.int j) = some (.fz (.int (i - j))) := nr rfl
theorem log2_lt {n : Nat} (h : n < 2 ^ 250) : n.log2 < 250 := by
  rcases Nat.eq_zero_or_pos n with e | e
  · subst e; decide
  · exact (Nat.log2_lt (by omega)).mpr h
theorem lim_eq : (2 : Nat) ^ 250 = 1809251394333065553493296640760748560207343510400633813116524750123642650624 := by decide
theorem mulOk_of (h1 : -1000000000000000000000000000000000000000000000000000000000000 ≤ i) (h2 : i ≤ 1000000000000000000000000000000000000000000000000000000000000) (h3 : -1000000000000000000000000000000000000000000000000000000000000 ≤ j) (h4 : j ≤ 1000000000000000000000000000000000000000000000000000000000000) : mulOk i j = true := by
  have a1 := log2_lt (n := i.natAbs) (by rw [lim_eq]; omega)
  have a2 := log2_lt (n := j.natAbs) (by rw [lim_eq]; omega)
  unfold mulOk
  exact decide_eq_true (by omega)
@[simp] theorem gMul_ii (h1 : -1000000000000000000000000000000000000000000000000000000000000 ≤ i) (h2 : i ≤ 1000000000000000000000000000000000000000000000000000000000000) (h3 : -1000000000000000000000000000000000000000000000000000000000000 ≤ j) (h4 : j ≤ 1000000000000000000000000000000000000000000000000000000000000) : gMul (.int i) (.int j) = some (.fz (.int (i * j))) := by
  unfold gMul
  exact if_pos (mulOk_of h1 h2 h3 h4)
@[simp] theorem gDiv_ii (h1 : 0 < j) (h2 : j ≤ 1000000000000000000000000000000000000000000000000000000000000) : gDiv (.int i) (.int j) = some (.fz (.int (i / j))) := by
  have a2 := log2_lt (n := j.natAbs) (by rw [lim_eq]; omega)
  unfold gDiv
  refine if_pos ?_
  unfold divOk
  rw [decide_eq_true h1, decide_eq_true (by omega)]; rfl
@[simp] theorem gMod_ii (h1 : 0 < j) : gMod (.int i) (.int j) = some (.fz (.int (i % j))) := if_pos h1
@[simp] theorem gPow_ii (h1 : 0 ≤ j) (h2 : j ≤ 1000000) (h3 : -10000000000000000000 < i) (h4 : i < 10000000000000000000) : gPow (.int i) (.int j) = some (.fz (.int (i ^ j.toNat))) := if_pos ⟨h1, h2, by omega⟩
@[simp] theorem gNeg_i : gNeg (.int i) = some (.fz (.int (-i))) := nr rfl
@[simp] theorem eqv_ii : PyData.eqv (.int i) (.int j) = decide (i = j) := by simp only [PyData.eqv]; by_cases h : i = j <;> simp [h]
@[simp] theorem gEq_ii : gEq (.int i) (.int j) = some (.fz (.bool (decide (i = j)))) := by simp [gEq, gBool2]
@[simp] theorem gNe_ii : gNe (.int i) (.int j) = some (.fz (.bool (!decide (i = j)))) := by simp [gNe, gBool2]
@[simp] theorem gLt_ii : gLt (.int i) (.int j) = some (.fz (.bool (decide (i < j)))) := by simp [gLt, gBool2]
@[simp] theorem gGt_ii : gGt (.int i) (.int j) = some (.fz (.bool (decide (j < i)))) := by simp [gGt, gBool2]
@[simp] theorem gLe_ii : gLe (.int i) (.int j) = some (.fz (.bool (decide (i ≤ j)))) := by
  have : (!decide (j < i)) = decide (i ≤ j) := by by_cases h : i ≤ j <;> simp [h]; omega
  simp [gLe, gBool2, this]
@[simp] theorem gGe_ii : gGe (.int i) (.int j) = some (.fz (.bool (decide (j ≤ i)))) := by
  have : (!decide (i < j)) = decide (j ≤ i) := by by_cases h : j ≤ i <;> simp [h]; omega
  simp [gGe, gBool2, this]
@[simp] theorem gIs_n : gIs d .none = some (.fz (.bool (isNone d))) := nr rfl
@[simp] theorem gIsNot_n : gIsNot d .none = some (.fz (.bool (!isNone d))) := nr rfl
@[simp] theorem isNone_n : isNone .none = true := nr rfl
@[simp] theorem isNone_i : isNone (.int i) = false := nr rfl
@[simp] theorem isNone_t : isNone (.tuple ds) = false := nr rfl
@[simp] theorem isNone_l : isNone (.list ds) = false := nr rfl
@[simp] theorem isNone_b : isNone (.bool b) = false := nr rfl
@[simp] theorem isNone_s : isNone (.str x) = false := nr rfl
@[simp] theorem gIx_l : gIx (.list ds) (.int i) = (atI ds i).map .fz := nr rfl
@[simp] theorem gIx_t : gIx (.tuple ds) (.int i) = (atI ds i).map .fz := nr rfl
theorem atI_nat {α : Type} (xs : List α) (n : Nat) : atI xs (n : Int) = xs[n]? := by
  unfold atI ixN
  rw [if_pos (by omega)]
  by_cases h : n < xs.length
  · rw [if_pos (by omega)]; simp
  · rw [if_neg (by omega), List.getElem?_eq_none (by omega)]; rfl
@[simp] theorem atI_0 {α : Type} (xs : List α) : atI xs 0 = xs[0]? := atI_nat xs 0
@[simp] theorem atI_1 {α : Type} (xs : List α) : atI xs 1 = xs[1]? := atI_nat xs 1
@[simp] theorem atI_2 {α : Type} (xs : List α) : atI xs 2 = xs[2]? := atI_nat xs 2
@[simp] theorem atI_3 {α : Type} (xs : List α) : atI xs 3 = xs[3]? := atI_nat xs 3
@[simp] theorem atI_4 {α : Type} (xs : List α) : atI xs 4 = xs[4]? := atI_nat xs 4
@[simp] theorem gLen_l : gLen [.list ds] = some (.fz (.int ds.length)) := nr rfl
@[simp] theorem gLen_t : gLen [.tuple ds] = some (.fz (.int ds.length)) := nr rfl
@[simp] theorem gTup_ (h : ds.length ≤ 16777216) : gTup ds = some (.fz (.tuple ds)) := if_pos h
@[simp] theorem gLst_ (h : ds.length ≤ 16777216) : gLst ds = some (.lst (ds.map .fz)) := if_pos h
@[simp] theorem gAbs_ : gAbs [.int i] = some (.fz (.int (if i < 0 then -i else i))) := nr rfl
@[simp] theorem truD_b : truD (.bool b) = some b := nr rfl
@[simp] theorem truD_n : truD .none = some false := nr rfl
@[simp] theorem truD_i : truD (.int i) = some (i != 0) := nr rfl
@[simp] theorem truD_l : truD (.list ds) = some (!ds.isEmpty) := nr rfl
@[simp] theorem truD_t : truD (.tuple ds) = some (!ds.isEmpty) := nr rfl
@[simp] theorem seqD_l : seqD (.list ds) = some ds := nr rfl
@[simp] theorem seqD_t : seqD (.tuple ds) = some ds := nr rfl
@[simp] theorem immut_i : immut (.int i) = true := nr rfl
@[simp] theorem immut_b : immut (.bool b) = true := nr rfl
@[simp] theorem immut_n : immut .none = true := nr rfl
@[simp] theorem immut_s : immut (.str x) = true := nr rfl
@[simp] theorem immut_t : immut (.tuple ds) = immutA ds := nr rfl
@[simp] theorem immutA_n : immutA [] = true := nr rfl
@[simp] theorem immutA_c : immutA (d :: ds) = (immut d && immutA ds) := nr rfl
@[simp] theorem small62_ (h1 : -4611686018427387904 ≤ i) (h2 : i < 4611686018427387904) : small62 i = true := by
  unfold small62
  rw [decide_eq_true (by omega), decide_eq_true (by omega)]; rfl
@[simp] theorem rng1_ (h1 : -4611686018427387904 ≤ j) (h2 : j < 4611686018427387904) : rng1 [.int j] = some (rangeD 0 j.toNat) := by
  show (if small62 j = true then _ else none) = _; rw [if_pos (small62_ h1 h2)]
@[simp] theorem rng2_ (h1 : -4611686018427387904 ≤ i) (h2 : i < 4611686018427387904) (h3 : -4611686018427387904 ≤ j) (h4 : j < 4611686018427387904) : rng2 [.int i, .int j] = some (rangeD i (j - i).toNat) := by
  show (if (small62 i && small62 j) = true then _ else none) = _; rw [if_pos (by rw [small62_ h1 h2, small62_ h3 h4]; rfl)]
end
end MX
namespace MX
open PySem PySem.Spec L2 FS FX
/-! ### loops -/
section
variable {Gt : PD → Env' → Option Env'} {S : SF}
theorem sLoop_from {σ : Type} (env : σ → Env') (P : Nat → σ → Prop) : ∀ (ds : List PD) (k : Nat) (s : σ), (∀ i d s, ds[i]? = some d → P (k + i) s → ∃ s' δ1, P (k + i + 1) s' ∧ Gt d (env s) = some δ1 ∧ (S δ1 = .nx (env s') ∨ S δ1 = .ct (env s'))) → P k s →
    ∃ s', P (k + ds.length) s' ∧ sLoop Gt S ds (env s) = .nx (env s')
  | [], k, s, _, h => ⟨s, h, rfl⟩
  | d :: ds, k, s, hs, h => by
    obtain ⟨s1, δ1, h1, h2, h3⟩ := hs 0 d s rfl h
    obtain ⟨s2, h4, h5⟩ := sLoop_from env P ds (k + 1) s1 (fun i d' s' e q => by
      have := hs (i + 1) d' s' (by simpa using e) (by rwa [show k + (i + 1) = k + 1 + i by omega])
      rwa [show k + (i + 1) + 1 = k + 1 + i + 1 by omega] at this) h1
    refine ⟨s2, by rwa [show k + (d :: ds).length = k + 1 + ds.length by simp; omega], ?_⟩
    unfold sLoop
    rw [h2]
    rcases h3 with h3 | h3 <;> (dsimp only; rw [h3]; exact h5)
/-- an invariant by places -/
theorem sLoop_inv {σ : Type} (env : σ → Env') (P : Nat → σ → Prop) (ds : List PD) (s : σ) (h : P 0 s) (hs : ∀ i d s, ds[i]? = some d → P i s → ∃ s' δ1, P (i + 1) s' ∧ Gt d (env s) = some δ1 ∧ (S δ1 = .nx (env s') ∨ S δ1 = .ct (env s'))) :
    ∃ s', P ds.length s' ∧ sLoop Gt S ds (env s) = .nx (env s') := by
  have := sLoop_from env P ds 0 s (fun i d s e q => by rw [Nat.zero_add] at q ⊢; exact hs i d s e q) h
  rwa [Nat.zero_add] at this
theorem rangeD_len (lo : Int) (n : Nat) : (rangeD lo n).length = n := by simp [rangeD]
theorem rangeD0_get {n i : Nat} {d : PD} (h : (rangeD 0 n)[i]? = some d) : d = .int i ∧ i < n := by
  unfold rangeD at h
  rw [List.getElem?_map] at h
  by_cases hi : i < n
  · rw [List.getElem?_range hi] at h
    exact ⟨by rw [← Option.some.inj h]; simp, hi⟩
  · rw [List.getElem?_eq_none (by simpa using hi)] at h; cases h
theorem rangeD_get {lo : Int} {n i : Nat} {d : PD} (h : (rangeD lo n)[i]? = some d) : d = .int (lo + i) ∧ i < n := by
  unfold rangeD at h
  rw [List.getElem?_map] at h
  by_cases hi : i < n
  · rw [List.getElem?_range hi] at h
    exact ⟨(Option.some.inj h).symm, hi⟩
  · rw [List.getElem?_eq_none (by simpa using hi)] at h; cases h
end
/-! ### the law's draws -/
def mixedV (a k : Int) : Int := ((a * 48271 + k * 69621 + 12345) % 2147483647 * ((a * 48271 + k * 69621 + 12345) % 2147483647 / 65536 + 3) + k) % 2147483647
theorem mixedV_lo (a k : Int) : 0 ≤ mixedV a k := Int.emod_nonneg _ (by decide)
theorem mixedV_hi (a k : Int) : mixedV a k < 2147483647 := Int.emod_lt_of_pos _ (by decide)
theorem m__law_mixed_ (a k : Int) (h1 : 0 ≤ a) (h2 : a ≤ 1000000000000000000000000000000) (h3 : 0 ≤ k) (h4 : k ≤ 1000000000000000000000000000000) :
    m__law_mixed [.fz (.int a), .fz (.int k)] = .ret (.fz (.int (mixedV a k))) [.fz (.int a), .fz (.int k)] := by
  unfold m__law_mixed
  refine (semOf_ (by rfl) (by rfl)).trans ?_
  have b1 : 0 ≤ (a * 48271 + k * 69621 + 12345) % 2147483647 := Int.emod_nonneg _ (by decide)
  have b2 : (a * 48271 + k * 69621 + 12345) % 2147483647 < 2147483647 := Int.emod_lt_of_pos _ (by decide)
  simp (disch := omega) [s__law_mixed, mixedV]
/-- numbers of the draws: each in 0 .. 999999 -/
def Nums (ns : List Int) : Prop := ∀ x ∈ ns, 0 ≤ x ∧ x < 1000000
theorem Nums.app {a b : List Int} (h : Nums a) (h' : Nums b) : Nums (a ++ b) := fun x hx => (List.mem_append.mp hx).elim (h x) (h' x)
theorem Nums.one {a : Int} (h : 0 ≤ a) (h' : a < 1000000) : Nums [a] := fun x hx => by
  have := List.mem_singleton.mp hx; subst this; exact ⟨h, h'⟩
def lsI (ns : List Int) : List L := ns.map fun i => .fz (.int i)
theorem lsI_app (a b : List Int) : lsI (a ++ b) = lsI a ++ lsI b := List.map_append
theorem lsI_len (a : List Int) : (lsI a).length = a.length := List.length_map _
theorem lsI_pds : ∀ a : List Int, L.pds (lsI a) = a.map .int
  | [] => rfl
  | x :: r => by show _ :: L.pds (lsI r) = _; rw [lsI_pds r]; rfl
theorem m__law_numbers_ (ns : List Int) (hl : ns.length ≤ 63) : ∃ xs : List Int, Nums xs ∧ xs.length ≤ 3780 ∧ m__law_numbers [.fz (.list (ns.map .int))] = .ret (.v (.lst (lsI xs))) [.fz (.list (ns.map .int))] := by
  unfold m__law_numbers
  have key : ∃ s : List Int × Option M × Option M × Option M, (Nums s.1 ∧ s.1.length ≤ 60 * ns.length) ∧ sFor (iE (eN 0)) (gN 2)
    (sIf (tE (eB2 gGe (eN 2) (eB2 gPow (eC (.int 10)) (eC (.int 18)))))
    (sSq (sAs 3 (eN 2))
  (sFor (iR rng1 (aV (eC (.int 60)) aN)) (gN 4)
    (sIf (tE (eB2 gGt (eN 3) (eC (.int 0))))
    (sSq (sApp 1 (eB2 gMod (eN 3) (eC (.int 1000000))))
  (sAs 3 (eB2 gDiv (eN 3) (eC (.int 1000000)))))
    sNl)))
    (sSq (sApp 1 (eB2 gMod (eN 2) (eC (.int 1000000))))
  (sFor (iR rng1 (aV (eC (.int 5)) aN)) (gN 4)
    (sApp 1 (eB2 gMod (eCl m__law_mixed (aV (eCl m__law_mixed (aV (eB2 gMod (eN 2) (eC (.int 2147483647))) (aV (eN 4) aN))) (aV (eB2 gAdd (eN 4) (eC (.int 7))) aN))) (eC (.int 1000000)))))))
    [some (.fz (.list (ns.map .int))), some (.v (.lst [])), none, none, none] = .nx [some (.fz (.list (ns.map .int))), some (.v (.lst (lsI s.1))), s.2.1, s.2.2.1, s.2.2.2] := by
    simp only [sFor_, iE_, eN_, at0, nR_fz, ieR_ok, pd_fz, seqD_l, ieK_ok, foR_ok]
    obtain ⟨s, h1, h2⟩ := sLoop_inv (Gt := gN 2) (S := (sIf (tE (eB2 gGe (eN 2) (eB2 gPow (eC (.int 10)) (eC (.int 18)))))
    (sSq (sAs 3 (eN 2))
  (sFor (iR rng1 (aV (eC (.int 60)) aN)) (gN 4)
    (sIf (tE (eB2 gGt (eN 3) (eC (.int 0))))
    (sSq (sApp 1 (eB2 gMod (eN 3) (eC (.int 1000000))))
  (sAs 3 (eB2 gDiv (eN 3) (eC (.int 1000000)))))
    sNl)))
    (sSq (sApp 1 (eB2 gMod (eN 2) (eC (.int 1000000))))
  (sFor (iR rng1 (aV (eC (.int 5)) aN)) (gN 4)
    (sApp 1 (eB2 gMod (eCl m__law_mixed (aV (eCl m__law_mixed (aV (eB2 gMod (eN 2) (eC (.int 2147483647))) (aV (eN 4) aN))) (aV (eB2 gAdd (eN 4) (eC (.int 7))) aN))) (eC (.int 1000000))))))))
      (fun s : List Int × Option M × Option M × Option M => [some (.fz (.list (ns.map .int))), some (.v (.lst (lsI s.1))), s.2.1, s.2.2.1, s.2.2.2])
      (fun i s => Nums s.1 ∧ s.1.length ≤ 60 * i) (ns.map .int) ([], none, none, none) ⟨(fun x hx => nomatch hx), Nat.zero_le _⟩ (by
      rintro i d ⟨xs, v2, v3, v4⟩ hi ⟨hn, hlen⟩
      obtain ⟨c, hc, rfl⟩ : ∃ c, ns[i]? = some c ∧ PyData.int c = d := by
        rw [List.getElem?_map] at hi
        cases e : ns[i]? with
        | none => rw [e] at hi; cases hi
        | some c => rw [e] at hi; exact ⟨c, rfl, Option.some.inj hi⟩
      have hi63 : i < 63 := Nat.lt_of_lt_of_le (List.getElem?_eq_some_iff.mp hc).1 hl
      dsimp only at hn hlen ⊢
      by_cases hb : (1000000000000000000 : Int) ≤ c
      · -- a great one
        obtain ⟨s2, h1, h2⟩ := sLoop_inv (Gt := gN 4) (S := sIf (tE (eB2 gGt (eN 3) (eC (.int 0)))) (sSq (sApp 1 (eB2 gMod (eN 3) (eC (.int 1000000)))) (sAs 3 (eB2 gDiv (eN 3) (eC (.int 1000000))))) sNl)
          (fun s : List Int × Int × Option M => [some (.fz (.list (ns.map .int))), some (.v (.lst (lsI s.1))), some (.fz (.int c)), some (.fz (.int s.2.1)), s.2.2])
          (fun j s => Nums s.1 ∧ s.1.length ≤ 60 * i + j) (rangeD 0 60) (xs, c, v4) ⟨hn, hlen⟩ (by
            rintro j d ⟨ys, r, v5⟩ hj ⟨hy, hyl⟩
            obtain ⟨rfl, hj60⟩ := rangeD0_get hj
            dsimp only at hy hyl ⊢
            have hys : ys.length < big := by show ys.length < 16777216; omega
            by_cases hr : 0 < r
            · refine ⟨(ys ++ [r % 1000000], r / 1000000, some (.fz (.int (j : Int)))), _, ⟨hy.app (Nums.one (Int.emod_nonneg _ (by decide)) (Int.emod_lt_of_pos _ (by decide))), by simp; omega⟩, by simp; rfl, .inl ?_⟩
              simp (disch := omega) [hr, lsI_len, hys, lsI_app]; rfl
            · refine ⟨(ys, r, some (.fz (.int (j : Int)))), _, ⟨hy, by dsimp only; omega⟩, by simp; rfl, .inl ?_⟩
              simp (disch := omega) [hr])
        rw [rangeD_len] at h1
        refine ⟨(s2.1, some (.fz (.int c)), some (.fz (.int s2.2.1)), s2.2.2), _, ⟨h1.1, by have := h1.2; dsimp only; omega⟩, by simp; rfl, .inl ?_⟩
        simp (disch := omega) [hb]
        exact h2
      · -- a small one
        have hc1 : 0 ≤ c % 2147483647 := Int.emod_nonneg _ (by decide)
        have hc2 : c % 2147483647 < 2147483647 := Int.emod_lt_of_pos _ (by decide)
        obtain ⟨s2, h1, h2⟩ := sLoop_inv (Gt := gN 4) (S := sApp 1 (eB2 gMod (eCl m__law_mixed (aV (eCl m__law_mixed (aV (eB2 gMod (eN 2) (eC (.int 2147483647))) (aV (eN 4) aN))) (aV (eB2 gAdd (eN 4) (eC (.int 7))) aN))) (eC (.int 1000000))))
          (fun s : List Int × Option M => [some (.fz (.list (ns.map .int))), some (.v (.lst (lsI s.1))), some (.fz (.int c)), v3, s.2])
          (fun j s => Nums s.1 ∧ s.1.length ≤ 60 * i + 1 + j) (rangeD 0 5) (xs ++ [c % 1000000], v4) ⟨hn.app (Nums.one (Int.emod_nonneg _ (by decide)) (Int.emod_lt_of_pos _ (by decide))), by simp; omega⟩ (by
            rintro j d ⟨ys, v5⟩ hj ⟨hy, hyl⟩
            obtain ⟨rfl, hj5⟩ := rangeD0_get hj
            dsimp only at hy hyl ⊢
            have hys : ys.length < big := by show ys.length < 16777216; omega
            have m1 := mixedV_lo (c % 2147483647) (j : Int)
            have m2 := mixedV_hi (c % 2147483647) (j : Int)
            refine ⟨(ys ++ [mixedV (mixedV (c % 2147483647) (j : Int)) ((j : Int) + 7) % 1000000], some (.fz (.int (j : Int)))), _, ⟨hy.app (Nums.one (Int.emod_nonneg _ (by decide)) (Int.emod_lt_of_pos _ (by decide))), by simp; omega⟩, by simp; rfl, .inl ?_⟩
            have e1 := m__law_mixed_ (c % 2147483647) (j : Int) hc1 (by omega) (by omega) (by omega)
            have e2 := m__law_mixed_ (mixedV (c % 2147483647) (j : Int)) ((j : Int) + 7) m1 (by omega) (by omega) (by omega)
            simp (disch := omega) only [sApp_, at1, apR_ok, eB2_, eCl_, aV_, eN_, at2, at4, nR_fz, b2R_ok, eC_, b2K_ok, pd_fz, gMod_ii, gAdd_ii, res_some, avR_ok, aN_, avK_ok, frz_fz, clR_ok, takeA_val, takeA_nil, Option.map_some, clK_ok, e1, e2, clL_ret, putA_val, putA_nil, apK_ok, apL_ok, lsI_len, hys, if_true, lsI_app]
            rfl)
        rw [rangeD_len] at h1
        refine ⟨(s2.1, some (.fz (.int c)), v3, s2.2), _, ⟨h1.1, by have := h1.2; dsimp only; omega⟩, by simp; rfl, .inl ?_⟩
        have hxs : xs.length < big := by show xs.length < 16777216; omega
        simp (disch := omega) [hb, lsI_len, hxs]
        rw [lsI_app] at h2
        exact h2)
    exact ⟨s, ⟨h1.1, by simpa using h1.2⟩, h2⟩
  obtain ⟨s, ⟨h1, h2⟩, h3⟩ := key
  refine ⟨s.1, h1, by omega, (semOf_ (by rfl) (by rfl)).trans ?_⟩
  unfold s__law_numbers
  simp at h3 ⊢
  rw [h3]
  simp
/-- the draws: the numbers and the place -/
def DR (xs : List Int) (at_ : Nat) : M := .v (.lst [.fz (.list (xs.map .int)), .fz (.int at_)])
def drawV (xs : List Int) (at_ : Nat) : Int := match xs[at_]? with
  | some x => x
  | none => mixedV (mixedV (1 + at_ + (match xs with
    | [] => 0
    | x :: _ => 1009 * x)) at_) 5 % 1000000
theorem drawV_ok {xs : List Int} (h : Nums xs) (n : Nat) : 0 ≤ drawV xs n ∧ drawV xs n < 1000000 := by
  unfold drawV
  cases e : xs[n]? with
  | some x => exact h x (List.mem_of_getElem? e)
  | none => exact ⟨Int.emod_nonneg _ (by decide), Int.emod_lt_of_pos _ (by decide)⟩
theorem drawV_lo {xs : List Int} (h : Nums xs) (n : Nat) : 0 ≤ drawV xs n := (drawV_ok h n).1
theorem drawV_hi {xs : List Int} (h : Nums xs) (n : Nat) : drawV xs n < 1000000 := (drawV_ok h n).2
theorem m__law_draw_ {xs : List Int} (h : Nums xs) (n : Nat) (hn : n ≤ 1000000000000000) : m__law_draw [DR xs n] = .ret (.fz (.int (drawV xs n))) [DR xs (n + 1)] := by
  unfold m__law_draw
  refine (semOf_ (by rfl) (by rfl)).trans ?_
  have hx : ixN 2 1 = some 1 := rfl
  unfold s__law_draw DR drawV
  cases e : xs[n]? with
  | some x =>
    have hl : n < xs.length := (List.getElem?_eq_some_iff.mp e).1
    have hl' : (n : Int) < (xs.length : Int) := by omega
    simp [hx, hl', atI_nat, e]
  | none =>
    have hl : ¬ (n : Int) < (xs.length : Int) := by have := List.getElem?_eq_none_iff.mp e; omega
    cases xs with
    | nil =>
      have e1 := m__law_mixed_ (1 + n) n (by omega) (by omega) (by omega) (by omega)
      have e2 := m__law_mixed_ (mixedV (1 + n) n) 5 (mixedV_lo _ _) (by have := mixedV_hi (1 + n) n; omega) (by omega) (by omega)
      have hl1 : ¬ (n : Int) < 0 := by omega
      simp (disch := omega) [hx, hl1, e1, e2]
    | cons x r =>
      obtain ⟨x1, x2⟩ := h x List.mem_cons_self
      have e1 := m__law_mixed_ (1 + n + 1009 * x) n (by omega) (by omega) (by omega) (by omega)
      have e2 := m__law_mixed_ (mixedV (1 + n + 1009 * x) n) 5 (mixedV_lo _ _) (by have := mixedV_hi (1 + n + 1009 * x) n; omega) (by omega) (by omega)
      have hl1 : ¬ (n : Int) < (r.length : Int) + 1 := by simpa using hl
      have hl2 : (0 : Int) < (r.length : Int) + 1 := by omega
      simp (disch := omega) [hx, hl1, hl2, e1, e2]
end MX
namespace MX
open PySem PySem.Spec L2 FS FX
/-! ### the law's comparison -/
mutual
def eqOk : Nat → PD → Bool
  | _, .none => true
  | _, .bool _ => true
  | _, .int _ => true
  | _, .str _ => true
  | n + 1, .list ds => decide (ds.length ≤ 16777216) && eqOks n ds
  | n + 1, .tuple ds => decide (ds.length ≤ 16777216) && eqOks n ds
  | _, _ => false
def eqOks : Nat → List PD → Bool
  | _, [] => true
  | n, d :: ds => eqOk n d && eqOks n ds
end
theorem eqOks_get : ∀ {ds : List PD} {n i : Nat} {d : PD}, eqOks n ds = true → ds[i]? = some d → eqOk n d = true
  | [], _, _, _, _, h => by cases h
  | x :: r, n, 0, d, h, e => by
    cases e
    exact (Bool.and_eq_true_iff.mp (show (eqOk n x && eqOks n r) = true by simpa [eqOks] using h)).1
  | x :: r, n, i + 1, d, h, e => eqOks_get (ds := r) (i := i) (Bool.and_eq_true_iff.mp (show (eqOk n x && eqOks n r) = true by simpa [eqOks] using h)).2 (by simpa using e)
@[simp] theorem isBool_l {ds : List PD} : (PyData.list ds).isBool = false := rfl
@[simp] theorem eqv_ss {x : Str} : PyData.eqv (.str x) (.str x) = true := by simp [PyData.eqv]
@[simp] theorem eqv_bb {b : Bool} : PyData.eqv (.bool b) (.bool b) = true := by simp [PyData.eqv]
@[simp] theorem gEq_ss {x : Str} : gEq (.str x) (.str x) = some (.fz (.bool true)) := by simp [gEq, gBool2, okEq, okN]
@[simp] theorem gEq_bb {b : Bool} : gEq (.bool b) (.bool b) = some (.fz (.bool true)) := by simp [gEq, gBool2, okEq, okN]
theorem all_equal_of {f : PD → PD → Sem} {r r' : Sem} {ds : List PD} (hl : ds.length ≤ 16777216) (h : ∀ d ∈ ds, r [.fz d, .fz d] = .ret (.fz (.bool true)) [.fz d, .fz d]) (mk : PD) (hm : mk = .list ds ∨ mk = .tuple ds) :
    semOf 3 2 [] (s__law_all_equal r r') [.fz mk, .fz mk] = .ret (.fz (.bool true)) [.fz mk, .fz mk] := by
  refine (semOf_ (by rfl) (by rfl)).trans ?_
  unfold s__law_all_equal
  have lp : ∃ s : Option M, sLoop (gN 2) (sIf (tNt (tTru (eCl r (aV (eB2 gIx (eN 0) (eN 2)) (aV (eB2 gIx (eN 1) (eN 2)) aN))))) (sRt (eC (.bool false))) sNl) (rangeD 0 ds.length) [some (.fz mk), some (.fz mk), none] = .nx [some (.fz mk), some (.fz mk), s] := by
    obtain ⟨s, _, h2⟩ := sLoop_inv (Gt := gN 2) (S := sIf (tNt (tTru (eCl r (aV (eB2 gIx (eN 0) (eN 2)) (aV (eB2 gIx (eN 1) (eN 2)) aN))))) (sRt (eC (.bool false))) sNl)
      (fun s : Option M => [some (.fz mk), some (.fz mk), s]) (fun _ _ => True) (rangeD 0 ds.length) none trivial (by
        rintro i d s hi _
        obtain ⟨rfl, hi'⟩ := rangeD0_get hi
        have hd : ds[i]? = some ds[i] := List.getElem?_eq_getElem hi'
        have he := h ds[i] (List.getElem_mem hi')
        refine ⟨some (.fz (.int i)), _, trivial, by simp; rfl, .inl ?_⟩
        rcases hm with rfl | rfl <;> simp [atI_nat, hd, he])
    exact ⟨s, h2⟩
  obtain ⟨s, hs⟩ := lp
  rcases hm with rfl | rfl <;> simp (disch := omega) [hs]
theorem law_equal_ : ∀ (n k : Nat) (d : PD), eqOk k d = true → 2 * k + 1 ≤ n → m__law_equal n [.fz d, .fz d] = .ret (.fz (.bool true)) [.fz d, .fz d] := by
  intro n
  induction n using Nat.strongRecOn with
  | ind n ih =>
    intro k d hd hn
    match n, hn with
    | 0, hn => omega
    | n + 1, hn =>
      show semOf 2 2 [] (s__law_equal (m__law_equal n) (m__law_all_equal n)) [.fz d, .fz d] = _
      have allq : ∀ (ds : List PD) (mk : PD), (mk = .list ds ∨ mk = .tuple ds) → (decide (ds.length ≤ 16777216) && eqOks (k - 1) ds) = true → 1 ≤ k → m__law_all_equal n [.fz mk, .fz mk] = .ret (.fz (.bool true)) [.fz mk, .fz mk] := by
        intro ds mk hm hh hk
        obtain ⟨h1, h2⟩ := Bool.and_eq_true_iff.mp hh
        match n, hn with
        | 0, hn => omega
        | n + 1, hn =>
          show semOf 3 2 [] (s__law_all_equal (m__law_equal n) (m__law_all_equal n)) [.fz mk, .fz mk] = _
          refine all_equal_of (f := fun _ _ => m__law_equal n) (of_decide_eq_true h1) (fun x hx => ?_) mk hm
          obtain ⟨i, hi⟩ := List.getElem?_of_mem hx
          exact ih n (by omega) (k - 1) x (eqOks_get h2 hi) (by omega)
      refine (semOf_ (by rfl) (by rfl)).trans ?_
      unfold s__law_equal
      cases d with
      | list ds =>
        cases k with
        | zero => cases hd
        | succ k =>
          have := allq ds _ (.inl rfl) (by simpa [eqOk] using hd) (by omega)
          simp [PyData.isList, PyData.isTuple, PyData.isBool, PyData.isInt, PyData.isStr, this]
      | tuple ds =>
        cases k with
        | zero => cases hd
        | succ k =>
          have := allq ds _ (.inr rfl) (by simpa [eqOk] using hd) (by omega)
          simp [PyData.isList, PyData.isTuple, PyData.isBool, PyData.isInt, PyData.isStr, this]
      | dict _ => cases k <;> cases hd
      | none => simp [PyData.isList, PyData.isTuple, PyData.isBool, PyData.isInt, PyData.isStr]
      | bool b => simp [PyData.isList, PyData.isTuple, PyData.isBool, PyData.isInt, PyData.isStr]
      | int b => simp [PyData.isList, PyData.isTuple, PyData.isBool, PyData.isInt, PyData.isStr]
      | str b => simp [PyData.isList, PyData.isTuple, PyData.isBool, PyData.isInt, PyData.isStr]
theorem law_equal_same {d e : PD} (h : d = e) (hd : eqOk 6 d = true) : m__law_equal 14 [.fz d, .fz e] = .ret (.fz (.bool true)) [.fz d, .fz e] := by
  subst h
  exact law_equal_ 14 6 d hd (by decide)
end MX
namespace MX
open PySem PySem.Spec L2 FS
/-! ### comprehensions -/
section
variable {own : List Nat} {G : PD → Env' → Option Env'} {T : BF} {E : EF} {δ : Env'}
theorem cLoop_fm (g : PD → Option L) : ∀ ds : List PD, (∀ d ∈ ds, ∃ δ1 b δ2, G d δ = some δ1 ∧ T δ1 = .ok b δ2 ∧ (b = false → wipeE δ2 own = δ ∧ g d = none) ∧ (b = true → ∃ l δ3, E δ2 = .ok (.v l) δ3 ∧ wipeE δ3 own = δ ∧ g d = some l)) →
    cLoop own G T E ds δ = some (ds.filterMap g, δ)
  | [], _ => rfl
  | d :: ds, h => by
    obtain ⟨δ1, b, δ2, h1, h2, h3, h4⟩ := h d List.mem_cons_self
    have ih := cLoop_fm g ds fun x hx => h x (List.mem_cons_of_mem _ hx)
    unfold cLoop
    rw [h1]
    dsimp only
    rw [h2]
    cases b with
    | false =>
      obtain ⟨h5, h6⟩ := h3 rfl
      dsimp only
      rw [h5, ih, List.filterMap_cons, h6]
    | true =>
      obtain ⟨l, δ3, h5, h6, h7⟩ := h4 rfl
      dsimp only
      rw [h5]
      dsimp only
      rw [h6, ih, List.filterMap_cons, h7]
      rfl
/-- without a test -/
theorem cLoop_map (g : PD → L) (hT : T = tY) (ds : List PD) (h : ∀ d ∈ ds, ∃ δ1 δ3, G d δ = some δ1 ∧ E δ1 = .ok (.v (g d)) δ3 ∧ wipeE δ3 own = δ) : cLoop own G T E ds δ = some (ds.map g, δ) := by
  rw [cLoop_fm (fun d => some (g d)) ds fun d hd => by
    obtain ⟨δ1, δ3, h1, h2, h3⟩ := h d hd
    exact ⟨δ1, true, δ1, h1, by rw [hT]; rfl, (fun e => nomatch e), fun _ => ⟨g d, δ3, h2, h3, rfl⟩⟩]
  rw [List.filterMap_eq_map']
/-- .. of items by a reading: those with p, each as l says -/
theorem cLoop_flt {β : Type} (enc : β → PD) (p : β → Bool) (l : β → L) : ∀ xs : List β, (∀ x ∈ xs, ∃ δ1 δ2, G (enc x) δ = some δ1 ∧ T δ1 = .ok (p x) δ2 ∧ (p x = false → wipeE δ2 own = δ) ∧ (p x = true → ∃ δ3, E δ2 = .ok (.v (l x)) δ3 ∧ wipeE δ3 own = δ)) →
    cLoop own G T E (xs.map enc) δ = some ((xs.filter p).map l, δ)
  | [], _ => rfl
  | x :: xs, h => by
    obtain ⟨δ1, δ2, h1, h2, h3, h4⟩ := h x List.mem_cons_self
    have ih := cLoop_flt enc p l xs fun y hy => h y (List.mem_cons_of_mem _ hy)
    rw [List.map_cons]
    unfold cLoop
    rw [h1]
    dsimp only
    rw [h2]
    cases hp : p x with
    | false =>
      dsimp only
      rw [h3 hp, ih, List.filter_cons, if_neg (by rw [hp]; exact Bool.false_ne_true)]
    | true =>
      obtain ⟨δ3, h5, h6⟩ := h4 hp
      dsimp only
      rw [h5]
      dsimp only
      rw [h6, ih, List.filter_cons, if_pos hp]
      rfl
/-- .. all of them -/
theorem cLoop_all {β : Type} (enc : β → PD) (l : β → L) (hT : T = tY) (xs : List β) (h : ∀ x ∈ xs, ∃ δ1 δ3, G (enc x) δ = some δ1 ∧ E δ1 = .ok (.v (l x)) δ3 ∧ wipeE δ3 own = δ) : cLoop own G T E (xs.map enc) δ = some (xs.map l, δ) := by
  have := cLoop_flt (own := own) (G := G) (T := T) (E := E) (δ := δ) enc (fun _ => true) l xs fun x hx => by
    obtain ⟨δ1, δ3, h1, h2, h3⟩ := h x hx
    exact ⟨δ1, δ1, h1, by rw [hT]; rfl, (fun e => nomatch e), fun _ => ⟨δ3, h2, h3⟩⟩
  rwa [List.filter_eq_self.mpr fun _ _ => rfl] at this
theorem wipeE_nil : wipeE δ [] = δ := rfl
@[simp] theorem wipeE_n : wipeE δ [] = δ := nr rfl
@[simp] theorem wipeE_c {v : Nat} {vs : List Nat} : wipeE δ (v :: vs) = (wipeE δ vs).set v none := nr rfl
@[simp] theorem backE_n {δ0 : Env'} : backE δ0 [] δ = δ := nr rfl
@[simp] theorem backE_c {δ0 : Env'} {v : Nat} {vs : List Nat} : backE δ0 (v :: vs) δ = (backE δ0 vs δ).set v (δ0.getD v none) := nr rfl
def kpR (o : Option (Option M)) : Bool := match o with
  | some none => true
  | some (some (.v (.fz _))) => true
  | _ => false
@[simp] theorem keepOk_n : keepOk δ [] = true := nr rfl
@[simp] theorem keepOk_c {v : Nat} {vs : List Nat} : keepOk δ (v :: vs) = (kpR δ[v]? && keepOk δ vs) := nr rfl
@[simp] theorem kpR_no : kpR (some none) = true := nr rfl
@[simp] theorem kpR_fz {d : PD} : kpR (some (some (.v (.fz d)))) = true := nr rfl
end
/-! ### tuples of ints -/
def tupI (xs : List Int) : PD := .tuple (xs.map .int)
theorem dataLt_tupI (xs ys : List Int) : PySem.W.dataLt (tupI xs) (tupI ys) = decide (xs < ys) := by
  unfold tupI
  rw [PySem.W.dataLt_tuple]
  exact PySem.W.dataLt_ints xs ys
theorem alike_tupI (xs ys : List Int) : PySem.W.alike (tupI xs) (tupI ys) = true := by
  unfold tupI
  rw [PySem.W.alike]
  exact PySem.W.alike_ints xs ys
theorem okN_int (n : Nat) (i : Int) : okN n (.int i) = true := by cases n <;> rfl
theorem okNs_ints : ∀ (n : Nat) (xs : List Int), okNs n (xs.map .int) = true
  | _, [] => by simp [okNs]
  | n, x :: xs => by
    show okNs n (.int x :: xs.map .int) = true
    rw [okNs, okN_int, okNs_ints n xs]; rfl
theorem okN_tupI (n : Nat) (xs : List Int) : okN (n + 1) (tupI xs) = true := by
  unfold tupI
  rw [okN]
  exact okNs_ints n xs
theorem okNs_tupI : ∀ (n : Nat) (xs : List (List Int)), okNs (n + 1) (xs.map tupI) = true
  | _, [] => by simp [okNs]
  | n, x :: xs => by
    show okNs (n + 1) (tupI x :: xs.map tupI) = true
    rw [okNs, okN_tupI, okNs_tupI n xs]; rfl
theorem alikeB_tupI (xs : List (List Int)) : alikeB (xs.map tupI) = true := by
  unfold alikeB
  rw [List.all_eq_true]
  intro d hd
  obtain ⟨x, _, rfl⟩ := List.mem_map.mp hd
  rw [Bool.and_eq_true]
  refine ⟨?_, rfl⟩
  rw [List.all_eq_true]
  intro e he
  obtain ⟨y, _, rfl⟩ := List.mem_map.mp he
  exact alike_tupI x y
def lexMin (x : List Int) (xs : List (List Int)) : List Int := xs.foldl (fun a y => if y < a then y else a) x
theorem minD_tupI (x : List Int) (xs : List (List Int)) : PySem.W.minD (tupI x) (xs.map tupI) = tupI (lexMin x xs) := by
  unfold PySem.W.minD lexMin
  induction xs generalizing x with
  | nil => rfl
  | cons y r ih =>
    simp only [List.map_cons, List.foldl_cons, dataLt_tupI]
    by_cases h : y < x
    · simp only [h, decide_true, if_true]; exact ih y
    · simp only [h, decide_false, if_false, Bool.false_eq_true]; exact ih x
theorem gMin_tupI (x : List Int) (xs : List (List Int)) : gMin [.list ((x :: xs).map tupI)] = some (.fz (tupI (lexMin x xs))) := by
  show (if (alikeB ((x :: xs).map tupI) && okNs 12 ((x :: xs).map tupI)) = true then some (M.fz (PySem.W.minD (tupI x) (xs.map tupI))) else none) = _
  rw [alikeB_tupI, okNs_tupI, minD_tupI]; rfl
theorem okLt_tupI (xs ys : List Int) : okLt (tupI xs) (tupI ys) = true := by
  unfold okLt
  rw [alike_tupI, okN_tupI 11 xs, okN_tupI 11 ys]; rfl
theorem gLt_tupI (xs ys : List Int) : gLt (tupI xs) (tupI ys) = some (.fz (.bool (decide (xs < ys)))) := by
  show (if okLt (tupI xs) (tupI ys) = true then some (M.fz (.bool (PySem.W.dataLt (tupI xs) (tupI ys)))) else none) = _
  rw [okLt_tupI, dataLt_tupI]; rfl
theorem il_trans {a b c : List Int} (h : a < b) (h' : b < c) : a < c := List.lt_trans h h'
theorem il_irr {a : List Int} : ¬ a < a := List.lt_irrefl a
theorem il_tri {a b : List Int} (h : ¬ a < b) (h' : ¬ b < a) : a = b := List.le_antisymm (List.not_lt.mp h') (List.not_lt.mp h)
theorem il_nlt {a b c : List Int} (h : ¬ a < b) (h' : c < b) : ¬ a < c := fun q => h (il_trans q h')
/-- the least one -/
theorem lexMin_spec : ∀ (xs : List (List Int)) (x : List Int), lexMin x xs ∈ x :: xs ∧ ∀ y ∈ x :: xs, ¬ y < lexMin x xs
  | [], x => ⟨List.mem_singleton.mpr rfl, fun y hy => by rw [List.mem_singleton.mp hy]; exact il_irr⟩
  | z :: r, x => by
    have e : lexMin x (z :: r) = lexMin (if z < x then z else x) r := rfl
    obtain ⟨h1, h2⟩ := lexMin_spec r (if z < x then z else x)
    rw [e]
    refine ⟨?_, fun y hy => ?_⟩
    · rcases List.mem_cons.mp h1 with h | h
      · rw [h]
        split <;> simp
      · exact List.mem_cons_of_mem _ (List.mem_cons_of_mem _ h)
    · have h3 := h2 _ List.mem_cons_self
      rcases List.mem_cons.mp hy with h | h
      · rw [h]
        by_cases hz : z < x
        · rw [if_pos hz] at h3 ⊢
          exact fun q => h3 (il_trans hz q)
        · rw [if_neg hz] at h3 ⊢
          exact h3
      · rcases List.mem_cons.mp h with h | h
        · rw [h]
          by_cases hz : z < x
          · rw [if_pos hz] at h3 ⊢
            exact h3
          · rw [if_neg hz] at h3 ⊢
            exact fun q => by
              by_cases hx : x < z
              · exact h3 (il_trans hx q)
              · have ez := il_tri hx hz
                subst ez
                exact h3 q
        · exact h2 y (List.mem_cons_of_mem _ h)
theorem lexMin_eq {x q : List Int} {xs : List (List Int)} (hq : q ∈ x :: xs) (hm : ∀ y ∈ x :: xs, ¬ y < q) : lexMin x xs = q := by
  obtain ⟨h1, h2⟩ := lexMin_spec xs x
  exact il_tri (hm _ h1) (h2 _ hq)
theorem lt_il {a b : Int} {r s : List Int} : a :: r < b :: s ↔ a < b ∨ (a = b ∧ r < s) := List.cons_lt_cons_iff
theorem nil_il {r : List Int} : ¬ r < [] := List.not_lt_nil r
end MX
namespace MX
open PySem PySem.Spec L2 FS FX
/-! ### numbers, points -/
def isNum (d : PD) (lo hi : Int) : Bool := match d with
  | .int i => decide (lo ≤ i) && decide (i ≤ hi)
  | _ => false
theorem m_is_number_ (d : PD) (lo hi : Int) : m_is_number [.fz d, .fz (.int lo), .fz (.int hi)] = .ret (.fz (.bool (isNum d lo hi))) [.fz d, .fz (.int lo), .fz (.int hi)] := by
  unfold m_is_number
  refine (semOf_ (by rfl) (by rfl)).trans ?_
  cases d with
  | int i => simp [s_is_number, PyData.isInt, PyData.isBool, isNum]
  | _ => simp [s_is_number, PyData.isInt, PyData.isBool, isNum]
theorem m_check_number_ (d : PD) (lo hi : Int) : m_check_number [.fz d, .fz (.int lo), .fz (.int hi)] = if isNum d lo hi then .ret (.fz .none) [.fz d, .fz (.int lo), .fz (.int hi)] else .ex 2 [.fz d, .fz (.int lo), .fz (.int hi)] := by
  unfold m_check_number
  refine (semOf_ (by rfl) (by rfl)).trans ?_
  cases h : isNum d lo hi <;> simp [s_check_number, m_is_number_, h]
def isPt (d : PD) : Bool := match d with
  | .tuple [x, y] => isNum x 0 4000 && isNum y 0 4000
  | _ => false
theorem m_is_point_ (d : PD) : m_is_point [.fz d] = .ret (.fz (.bool (isPt d))) [.fz d] := by
  unfold m_is_point
  refine (semOf_ (by rfl) (by rfl)).trans ?_
  cases d with
  | tuple ds =>
    match ds with
    | [x, y] => simp [s_is_point, m_is_number_, isPt, PyData.isTuple]
    | [] => simp [s_is_point, isPt, PyData.isTuple]
    | [x] => simp [s_is_point, isPt, PyData.isTuple]
    | x :: y :: u :: r =>
      have : ¬ ((r.length : Int) + 1 + 1 + 1 = 2) := by omega
      simp [s_is_point, isPt, PyData.isTuple, this]
  | _ => simp [s_is_point, isPt, PyData.isTuple]
theorem m_check_point_ (d : PD) : m_check_point [.fz d] = if isPt d then .ret (.fz .none) [.fz d] else .ex 1 [.fz d] := by
  unfold m_check_point
  refine (semOf_ (by rfl) (by rfl)).trans ?_
  cases h : isPt d <;> simp [s_check_point, m_is_point_, h]
@[simp] theorem isNum_i {i lo hi : Int} : isNum (.int i) lo hi = (decide (lo ≤ i) && decide (i ≤ hi)) := rfl
@[simp] theorem isNum_b {b : Bool} {lo hi : Int} : isNum (.bool b) lo hi = false := rfl
@[simp] theorem isNum_n {lo hi : Int} : isNum .none lo hi = false := rfl
@[simp] theorem isNum_s {x : Str} {lo hi : Int} : isNum (.str x) lo hi = false := rfl
@[simp] theorem isPt_p {x y : PD} : isPt (.tuple [x, y]) = (isNum x 0 4000 && isNum y 0 4000) := rfl
end MX
namespace MX
open PySem PySem.Spec L2 FS FX
/-! ### formations -/
def ptD (p : Int × Int) : PD := .tuple [.int p.1, .int p.2]
def fmD (ps : List (Int × Int)) : PD := .list (ps.map ptD)
def ptL (p : Int × Int) : List Int := [p.1, p.2]
theorem tupIs_pts : ∀ ps : List (Int × Int), tupIs (ps.map ptD) = some (ps.map ptL)
  | [] => rfl
  | p :: r => by
    show (allInt [.int p.1, .int p.2]).bind (fun ns => (tupIs (r.map ptD)).map (ns :: ·)) = _
    rw [tupIs_pts r]; rfl
theorem ptL_inj {a b : Int × Int} (h : ptL a = ptL b) : a = b := by
  unfold ptL at h
  simp only [List.cons.injEq, and_true] at h
  exact Prod.ext h.1 h.2
theorem ddL_id {α : Type} [DecidableEq α] : ∀ {l : List α}, l.Nodup → ddL l = l
  | [], _ => rfl
  | x :: r, h => by
    obtain ⟨h1, h2⟩ := List.nodup_cons.mp h
    unfold ddL
    rw [if_neg h1, ddL_id h2]
theorem ddL_le {α : Type} [DecidableEq α] : ∀ l : List α, (ddL l).length ≤ l.length
  | [] => Nat.le_refl _
  | x :: r => by
    have := ddL_le r
    unfold ddL
    split <;> simp <;> omega
theorem ddL_lt {α : Type} [DecidableEq α] : ∀ {l : List α}, ¬ l.Nodup → (ddL l).length < l.length
  | [], h => absurd List.nodup_nil h
  | x :: r, h => by
    unfold ddL
    by_cases hx : x ∈ r
    · rw [if_pos hx]
      have := ddL_le r
      simp; omega
    · rw [if_neg hx]
      have hr : ¬ r.Nodup := fun q => h (List.nodup_cons.mpr ⟨hx, q⟩)
      have := ddL_lt hr
      simp; omega
theorem isNum_cases {d : PD} {lo hi : Int} (h : isNum d lo hi = true) : ∃ i, d = .int i ∧ lo ≤ i ∧ i ≤ hi := by
  cases d with
  | int i =>
    rw [isNum_i, Bool.and_eq_true] at h
    exact ⟨i, rfl, of_decide_eq_true h.1, of_decide_eq_true h.2⟩
  | _ => cases h
theorem isPt_cases {d : PD} (h : isPt d = true) : ∃ p : Int × Int, d = ptD p ∧ 0 ≤ p.1 ∧ p.1 ≤ 4000 ∧ 0 ≤ p.2 ∧ p.2 ≤ 4000 := by
  unfold isPt at h
  split at h
  · obtain ⟨h1, h2⟩ := Bool.and_eq_true_iff.mp h
    obtain ⟨i, rfl, i1, i2⟩ := isNum_cases h1
    obtain ⟨j, rfl, j1, j2⟩ := isNum_cases h2
    exact ⟨(i, j), rfl, i1, i2, j1, j2⟩
  · cases h
theorem all_pts : ∀ {ds : List PD}, ds.all isPt = true → ∃ ps : List (Int × Int), ds = ps.map ptD ∧ ∀ p ∈ ps, 0 ≤ p.1 ∧ p.1 ≤ 4000 ∧ 0 ≤ p.2 ∧ p.2 ≤ 4000
  | [], _ => ⟨[], rfl, fun p hp => nomatch hp⟩
  | d :: ds, h => by
    rw [List.all_cons, Bool.and_eq_true] at h
    obtain ⟨p, rfl, hp⟩ := isPt_cases h.1
    obtain ⟨ps, rfl, hps⟩ := all_pts h.2
    refine ⟨p :: ps, rfl, fun q hq => ?_⟩
    rcases List.mem_cons.mp hq with rfl | hq
    · exact hp
    · exact hps q hq
/-- what check_formation says: none, or an error's number -/
def chkF : PD → Option Nat
  | .list ds => if 1 ≤ ds.length ∧ ds.length ≤ 60 then (if ds.all isPt then (match tupIs ds with
      | some ks => if (ddL ks).length = ds.length then none else some 3
      | none => some 3) else some 1) else some 3
  | _ => some 3
theorem chkF_l {ds : List PD} : chkF (.list ds) = if 1 ≤ ds.length ∧ ds.length ≤ 60 then (if ds.all isPt then (match tupIs ds with
      | some ks => if (ddL ks).length = ds.length then none else some 3
      | none => some 3) else some 1) else some 3 := rfl
def frC (r : Option Nat) (ms : List M) : FR := match r with
  | none => .ret (.fz .none) ms
  | some n => .ex n ms
@[simp] theorem frC_n {ms : List M} : frC none ms = .ret (.fz .none) ms := nr rfl
@[simp] theorem frC_s {n : Nat} {ms : List M} : frC (some n) ms = .ex n ms := nr rfl
theorem chk_loop (d0 : M) : ∀ (ds : List PD) (v : Option M), ∃ v', sLoop (gN 1) (sEx (eCl m_check_point (aV (eN 1) aN))) ds [some d0, v] = if ds.all isPt then .nx [some d0, v'] else .ex 1 [some d0, v']
  | [], v => ⟨v, by simp⟩
  | d :: ds, v => by
    cases h : isPt d with
    | true =>
      obtain ⟨v', hv⟩ := chk_loop d0 ds (some (.fz d))
      exact ⟨v', by simp [m_check_point_, h, hv]⟩
    | false => exact ⟨some (.fz d), by simp [m_check_point_, h]⟩
theorem m_check_formation_ (d : PD) : m_check_formation [.fz d] = frC (chkF d) [.fz d] := by
  unfold m_check_formation
  refine (semOf_ (by rfl) (by rfl)).trans ?_
  unfold s_check_formation
  cases d with
  | list ds =>
    by_cases hl : 1 ≤ ds.length ∧ ds.length ≤ 60
    · have h1 : (1 : Int) ≤ ds.length := by omega
      have h2 : (ds.length : Int) ≤ 60 := by omega
      obtain ⟨v', hv⟩ := chk_loop (.fz (.list ds)) ds none
      rw [chkF_l, if_pos hl]
      cases hall : ds.all isPt with
      | false =>
        rw [hall, if_neg Bool.false_ne_true] at hv
        simp [PyData.isList, h1, h2, hv]
      | true =>
        rw [hall, if_pos rfl] at hv
        obtain ⟨ps, rfl, _⟩ := all_pts hall
        have hg : gLenSet (.list (ps.map ptD)) = some (.fz (.int (ddL (ps.map ptL)).length)) := by
          show (if (ps.map ptD).length < 64 then (tupIs (ps.map ptD)).map fun ks => M.fz (.int (ddL ks).length) else none) = _
          rw [if_pos (by omega), tupIs_pts]; rfl
        simp only [List.length_map] at h1 h2 hv hl hg
        rw [tupIs_pts]
        by_cases hd : (ddL (ps.map ptL)).length = ps.length
        · simp [PyData.isList, h1, h2, hv, hg, hd]
        · have hd' : ¬ ((ddL (ps.map ptL)).length : Int) = (ps.length : Int) := by omega
          simp [PyData.isList, h1, h2, hv, hg, hd, hd']
    · rw [chkF_l, if_neg hl]
      by_cases h1 : (1 : Int) ≤ ds.length
      · have h2 : ¬ (ds.length : Int) ≤ 60 := by omega
        simp [PyData.isList, h1, h2]
      · simp [PyData.isList, h1]
  | _ => simp [PyData.isList, chkF]
/-- a right formation -/
structure Fm (ps : List (Int × Int)) : Prop where
  pos : 1 ≤ ps.length
  few : ps.length ≤ 60
  on : ∀ p ∈ ps, 0 ≤ p.1 ∧ p.1 ≤ 4000 ∧ 0 ≤ p.2 ∧ p.2 ≤ 4000
  nd : ps.Nodup
theorem isPt_ptD {p : Int × Int} (h : 0 ≤ p.1 ∧ p.1 ≤ 4000 ∧ 0 ≤ p.2 ∧ p.2 ≤ 4000) : isPt (ptD p) = true := by
  unfold ptD
  simp [h.1, h.2.1, h.2.2.1, h.2.2.2]
theorem all_isPt {ps : List (Int × Int)} (h : ∀ p ∈ ps, 0 ≤ p.1 ∧ p.1 ≤ 4000 ∧ 0 ≤ p.2 ∧ p.2 ≤ 4000) : (ps.map ptD).all isPt = true := by
  rw [List.all_map, List.all_eq_true]
  exact fun p hp => isPt_ptD (h p hp)
theorem chkF_ok {ps : List (Int × Int)} (h : Fm ps) : chkF (fmD ps) = none := by
  unfold fmD
  rw [chkF_l, if_pos (by rw [List.length_map]; exact ⟨h.pos, h.few⟩), if_pos (all_isPt h.on), tupIs_pts]
  have hn : (ps.map ptL).Nodup := h.nd.map _ (fun a b hab e => hab (ptL_inj e))
  dsimp only
  rw [ddL_id hn]
  simp
end MX
namespace MX
open PySem PySem.Spec L2 FS FX
def dist2 (p q : Int × Int) : Int := (p.1 - q.1) * (p.1 - q.1) + (p.2 - q.2) * (p.2 - q.2)
def OnF (p : Int × Int) : Prop := 0 ≤ p.1 ∧ p.1 ≤ 4000 ∧ 0 ≤ p.2 ∧ p.2 ≤ 4000
theorem m_squared_ {p q : Int × Int} (hp : OnF p) (hq : OnF q) : m_squared [.fz (ptD p), .fz (ptD q)] = .ret (.fz (.int (dist2 p q))) [.fz (ptD p), .fz (ptD q)] := by
  unfold m_squared
  refine (semOf_ (by rfl) (by rfl)).trans ?_
  obtain ⟨a1, a2, a3, a4⟩ := hp
  obtain ⟨b1, b2, b3, b4⟩ := hq
  simp (disch := omega) [s_squared, ptD, dist2]
theorem m__law_far_ {p q : Int × Int} (hp : OnF p) (hq : OnF q) : m__law_far [.fz (ptD p), .fz (ptD q)] = .ret (.fz (.int (dist2 p q))) [.fz (ptD p), .fz (ptD q)] := by
  unfold m__law_far
  refine (semOf_ (by rfl) (by rfl)).trans ?_
  obtain ⟨a1, a2, a3, a4⟩ := hp
  obtain ⟨b1, b2, b3, b4⟩ := hq
  have e : ∀ x : Int, x ^ (2 : Int).toNat = x * x := fun x => by
    show x ^ 2 = x * x
    rw [Int.pow_succ, Int.pow_succ, Int.pow_zero, Int.one_mul]
  simp (disch := omega) [s__law_far, ptD, dist2]
  simp [Int.pow_succ]
/-! ### the least spacing, by pairs -/
def pairT (ps : List (Int × Int)) (i j : Nat) : List Int := [dist2 (ps.getD i (0, 0)) (ps.getD j (0, 0)), i, j]
def upd2 (b : Option (List Int)) (t : List Int) : Option (List Int) := match b with
  | none => some t
  | some u => if t.headD 0 < u.headD 0 then some t else some u
/-- the inner loop from i: j = i + 1 .. i + m -/
def inB (ps : List (Int × Int)) (i : Nat) (b : Option (List Int)) : Nat → Option (List Int)
  | 0 => b
  | m + 1 => upd2 (inB ps i b m) (pairT ps i (i + 1 + m))
def outB (ps : List (Int × Int)) : Nat → Option (List Int)
  | 0 => none
  | i + 1 => inB ps i (outB ps i) (ps.length - (i + 1))
def optD : Option (List Int) → PD
  | none => .none
  | some t => tupI t
/-- pairs seen ahead of (i, i + 1 + m) -/
def Seen (n i m : Nat) (a b : Nat) : Prop := (a < i ∧ a < b ∧ b < n) ∨ (a = i ∧ i < b ∧ b ≤ i + m)
def BestOf (ps : List (Int × Int)) (S : Nat → Nat → Prop) (b : Option (List Int)) : Prop := match b with
  | none => ∀ x y, ¬ S x y
  | some t => ∃ x y, S x y ∧ t = pairT ps x y ∧ ∀ x' y', S x' y' → ¬ pairT ps x' y' < pairT ps x y
theorem BestOf.congr {ps : List (Int × Int)} {S S' : Nat → Nat → Prop} {b : Option (List Int)} (h : BestOf ps S b) (e : ∀ x y, S x y ↔ S' x y) : BestOf ps S' b := by
  have : S = S' := by funext x y; exact propext (e x y)
  rw [← this]; exact h
theorem BestOf.upd {ps : List (Int × Int)} {S : Nat → Nat → Prop} {b : Option (List Int)} {i j : Nat} (h : BestOf ps S b) (hlex : ∀ x y, S x y → x < i ∨ (x = i ∧ y < j)) : BestOf ps (fun x y => S x y ∨ (x = i ∧ y = j)) (upd2 b (pairT ps i j)) := by
  cases b with
  | none => exact ⟨i, j, .inr ⟨rfl, rfl⟩, rfl, fun x' y' hs => hs.elim (fun q => absurd q (h x' y')) fun ⟨e1, e2⟩ => by rw [e1, e2]; exact il_irr⟩
  | some t =>
    obtain ⟨x, y, h1, rfl, h3⟩ := h
    unfold upd2
    dsimp only
    have e1 : (pairT ps i j).headD 0 = dist2 (ps.getD i (0, 0)) (ps.getD j (0, 0)) := rfl
    have e2 : (pairT ps x y).headD 0 = dist2 (ps.getD x (0, 0)) (ps.getD y (0, 0)) := rfl
    by_cases hlt : (pairT ps i j).headD 0 < (pairT ps x y).headD 0
    · rw [if_pos hlt]
      rw [e1, e2] at hlt
      have hlt' : pairT ps i j < pairT ps x y := by unfold pairT; exact lt_il.mpr (.inl hlt)
      exact ⟨i, j, .inr ⟨rfl, rfl⟩, rfl, fun x' y' hs => hs.elim (fun q r => h3 x' y' q (il_trans r hlt')) fun ⟨a, b⟩ => by rw [a, b]; exact il_irr⟩
    · rw [if_neg hlt]
      rw [e1, e2] at hlt
      refine ⟨x, y, .inl h1, rfl, fun x' y' hs => hs.elim (fun q => h3 x' y' q) fun ⟨a, b⟩ => ?_⟩
      rw [a, b]
      intro r
      unfold pairT at r
      simp only [lt_il, nil_il, and_false, or_false] at r
      rcases hlex x y h1 with q | ⟨q1, q2⟩ <;> omega
theorem inB_best (ps : List (Int × Int)) (i : Nat) (b : Option (List Int)) (h : BestOf ps (Seen ps.length i 0) b) : ∀ m, i + m < ps.length → BestOf ps (Seen ps.length i m) (inB ps i b m)
  | 0, _ => h
  | m + 1, hm => by
    have ih := inB_best ps i b h m (by omega)
    refine (ih.upd (i := i) (j := i + 1 + m) fun x y hs => ?_).congr fun x y => ?_
    · unfold Seen at hs; omega
    · unfold Seen; omega
theorem outB_best (ps : List (Int × Int)) : ∀ i, i ≤ ps.length → BestOf ps (Seen ps.length i 0) (outB ps i)
  | 0, _ => fun x y h => by unfold Seen at h; omega
  | i + 1, hi => by
    have ih := outB_best ps i (by omega)
    refine (inB_best ps i _ ih (ps.length - (i + 1)) (by omega)).congr fun x y => ?_
    unfold Seen; omega
theorem getD_on {ps : List (Int × Int)} (h : ∀ p ∈ ps, OnF p) {i : Nat} (hi : i < ps.length) : OnF (ps.getD i (0, 0)) ∧ (ps.map ptD)[i]? = some (ptD (ps.getD i (0, 0))) := by
  have e : ps.getD i (0, 0) = ps[i] := by simp [List.getD, hi]
  rw [e]
  exact ⟨h _ (List.getElem_mem hi), by simp [hi]⟩
theorem tupI3 (a b c : Int) : tupI [a, b, c] = .tuple [.int a, .int b, .int c] := rfl
theorem in_loop {ps : List (Int × Int)} (h : ∀ p ∈ ps, OnF p) (hl : ps.length ≤ 60) (i : Nat) (hi : i < ps.length) (b : Option (List Int)) (hb : ∀ t, b = some t → ∃ x y z, t = [x, y, z]) (v3 v4 : Option M) : ∃ v3' v4',
    sLoop (gN 3) (sSq (sAs 4 (eCl m_squared (aV (eB2 gIx (eN 0) (eN 2)) (aV (eB2 gIx (eN 0) (eN 3)) aN))))
  (sIf (tOr' (tE (eB2 gIs (eN 1) (eC .none))) (tE (eB2 gLt (eN 4) (eB2 gIx (eN 1) (eC (.int 0))))))
    (sAs 1 (eDs FS.gTup (aV (eN 4) (aV (eN 2) (aV (eN 3) aN)))))
    sNl)) (rangeD (i + 1) (ps.length - (i + 1))) [some (.fz (fmD ps)), some (.fz (optD b)), some (.fz (.int i)), v3, v4] =
    .nx [some (.fz (fmD ps)), some (.fz (optD (inB ps i b (ps.length - (i + 1))))), some (.fz (.int i)), v3', v4'] := by
  obtain ⟨s, ⟨hs, _⟩, hlp⟩ := sLoop_inv (Gt := gN 3) (S := (sSq (sAs 4 (eCl m_squared (aV (eB2 gIx (eN 0) (eN 2)) (aV (eB2 gIx (eN 0) (eN 3)) aN))))
  (sIf (tOr' (tE (eB2 gIs (eN 1) (eC .none))) (tE (eB2 gLt (eN 4) (eB2 gIx (eN 1) (eC (.int 0))))))
    (sAs 1 (eDs FS.gTup (aV (eN 4) (aV (eN 2) (aV (eN 3) aN)))))
    sNl))) (fun s : Option (List Int) × Option M × Option M => [some (.fz (fmD ps)), some (.fz (optD s.1)), some (.fz (.int i)), s.2.1, s.2.2])
    (fun m s => s.1 = inB ps i b m ∧ ∀ t, s.1 = some t → ∃ x y z, t = [x, y, z]) (rangeD (i + 1) (ps.length - (i + 1))) (b, v3, v4) ⟨rfl, hb⟩ (by
      rintro m d ⟨b', w3, w4⟩ hd ⟨hm, hf⟩
      obtain ⟨rfl, hml⟩ := rangeD_get hd
      dsimp only at hm hf ⊢
      obtain ⟨o1, g1⟩ := getD_on h hi
      obtain ⟨o2, g2⟩ := getD_on h (i := i + 1 + m) (by omega)
      have sq := m_squared_ o1 o2
      have ej : (i : Int) + 1 + (m : Nat) = ((i + 1 + m : Nat) : Int) := by omega
      have hin : inB ps i b (m + 1) = upd2 (inB ps i b m) (pairT ps i (i + 1 + m)) := rfl
      rw [hin, ej]
      generalize i + 1 + m = j at *
      have hpt : pairT ps i j = [dist2 (ps.getD i (0, 0)) (ps.getD j (0, 0)), i, j] := rfl
      rw [hpt, ← hm]
      generalize ps.getD i (0, 0) = p at *
      generalize ps.getD j (0, 0) = q at *
      refine ⟨(upd2 b' [dist2 p q, i, j], some (.fz (.int j)), some (.fz (.int (dist2 p q)))), _, ⟨rfl, fun t ht => ?_⟩, by simp; rfl, .inl ?_⟩
      · cases b' with
        | none => cases ht; exact ⟨_, _, _, rfl⟩
        | some u =>
          unfold upd2 at ht
          dsimp only at ht
          split at ht
          · cases ht; exact ⟨_, _, _, rfl⟩
          · exact hf t ht
      · unfold fmD
        cases b' with
        | none => simp [atI_nat, g1, g2, sq, optD, upd2, tupI3]
        | some u =>
          obtain ⟨x, y, z, rfl⟩ := hf u rfl
          by_cases hlt : dist2 p q < x
          · simp [atI_nat, g1, g2, sq, optD, upd2, tupI3, hlt]
          · simp [atI_nat, g1, g2, sq, optD, upd2, tupI3, hlt])
  rw [rangeD_len] at hs
  obtain ⟨b', w3, w4⟩ := s
  dsimp only at hs hlp
  subst hs
  exact ⟨w3, w4, hlp⟩
theorem inB_form {ps : List (Int × Int)} {i : Nat} {b : Option (List Int)} (hb : ∀ t, b = some t → ∃ x y z, t = [x, y, z]) : ∀ m t, inB ps i b m = some t → ∃ x y z, t = [x, y, z]
  | 0, t, h => hb t h
  | m + 1, t, h => by
    have ih := inB_form (ps := ps) (i := i) hb m
    unfold inB at h
    cases e : inB ps i b m with
    | none => rw [e] at h; cases h; exact ⟨_, _, _, rfl⟩
    | some u =>
      rw [e] at h
      unfold upd2 at h
      dsimp only at h
      split at h
      · cases h; exact ⟨_, _, _, rfl⟩
      · exact ih t (e.trans h)
theorem outB_form {ps : List (Int × Int)} : ∀ i t, outB ps i = some t → ∃ x y z, t = [x, y, z]
  | 0, t, h => by cases h
  | i + 1, t, h => inB_form (outB_form i) _ t h
theorem m_least_spacing_ {ps : List (Int × Int)} (h : ∀ p ∈ ps, OnF p) (hl : ps.length ≤ 60) : m_least_spacing [.fz (fmD ps)] = .ret (.fz (optD (outB ps ps.length))) [.fz (fmD ps)] := by
  unfold m_least_spacing
  refine (semOf_ (by rfl) (by rfl)).trans ?_
  unfold s_least_spacing
  obtain ⟨s, hs, hlp⟩ := sLoop_inv (Gt := gN 2) (S := sFor (iR rng2 (aV (eB2 gAdd (eN 2) (eC (.int 1))) (aV (eDs gLen (aV (eN 0) aN)) aN))) (gN 3)
    (sSq (sAs 4 (eCl m_squared (aV (eB2 gIx (eN 0) (eN 2)) (aV (eB2 gIx (eN 0) (eN 3)) aN))))
  (sIf (tOr' (tE (eB2 gIs (eN 1) (eC .none))) (tE (eB2 gLt (eN 4) (eB2 gIx (eN 1) (eC (.int 0))))))
    (sAs 1 (eDs FS.gTup (aV (eN 4) (aV (eN 2) (aV (eN 3) aN)))))
    sNl))) (fun s : Option (List Int) × Option M × Option M × Option M => [some (.fz (fmD ps)), some (.fz (optD s.1)), s.2.1, s.2.2.1, s.2.2.2])
    (fun i s => s.1 = outB ps i) (rangeD 0 ps.length) (none, none, none, none) rfl (by
      rintro i d ⟨b, v2, v3, v4⟩ hi hb
      obtain ⟨rfl, hil⟩ := rangeD0_get hi
      dsimp only at hb ⊢
      obtain ⟨v3', v4', e⟩ := in_loop h hl i hil b (fun t ht => outB_form i t (hb.symm.trans ht)) v3 v4
      refine ⟨(inB ps i b (ps.length - (i + 1)), some (.fz (.int i)), v3', v4'), _, by rw [hb]; rfl, by simp; rfl, .inl ?_⟩
      have en : ((ps.length : Int) - ((i : Int) + 1)).toNat = ps.length - (i + 1) := by omega
      unfold fmD at e ⊢
      simp (disch := omega) [en, e])
  rw [rangeD_len] at hs
  obtain ⟨b, v2, v3, v4⟩ := s
  dsimp only at hs hlp
  subst hs
  have e0 : optD none = .none := rfl
  rw [e0] at hlp
  unfold fmD at hlp ⊢
  simp (disch := omega) [hlp]
theorem m_spacing_ok {ps : List (Int × Int)} (h : Fm ps) : m_spacing [.fz (fmD ps)] = .ret (.fz (optD (outB ps ps.length))) [.fz (fmD ps)] := by
  unfold m_spacing
  refine (semOf_ (by rfl) (by rfl)).trans ?_
  simp [s_spacing, m_check_formation_, chkF_ok h, m_least_spacing_ h.on h.few]
theorem m_spacing_ex {d : PD} {n : Nat} (h : chkF d = some n) : m_spacing [.fz d] = .ex n [.fz d] := by
  unfold m_spacing
  refine (semOf_ (by rfl) (by rfl)).trans ?_
  simp [s_spacing, m_check_formation_, h]
/-! ### the law's spacing -/
def lawP (ps : List (Int × Int)) : Nat → List (List Int)
  | 0 => []
  | j + 1 => lawP ps j ++ (List.range j).map fun i => pairT ps i j
theorem mem_lawP {ps : List (Int × Int)} {x : List Int} : ∀ {n : Nat}, x ∈ lawP ps n ↔ ∃ i j, i < j ∧ j < n ∧ x = pairT ps i j
  | 0 => ⟨(fun h => nomatch h), fun ⟨i, j, h1, h2, _⟩ => absurd h2 (Nat.not_lt_zero _)⟩
  | n + 1 => by
    unfold lawP
    rw [List.mem_append, mem_lawP, List.mem_map]
    constructor
    · rintro (⟨i, j, h1, h2, h⟩ | ⟨i, h1, rfl⟩)
      · exact ⟨i, j, h1, by omega, h⟩
      · exact ⟨i, n, List.mem_range.mp h1, by omega, rfl⟩
    · rintro ⟨i, j, h1, h2, h⟩
      by_cases hj : j < n
      · exact .inl ⟨i, j, h1, hj, h⟩
      · have : j = n := by omega
        subst this
        exact .inr ⟨i, List.mem_range.mpr h1, h.symm⟩
theorem lawP_len (ps : List (Int × Int)) : ∀ n, (lawP ps n).length ≤ n * n
  | 0 => Nat.le_refl _
  | n + 1 => by
    have := lawP_len ps n
    have e : (n + 1) * (n + 1) = n * n + 2 * n + 1 := by rw [Nat.add_mul, Nat.mul_add]; omega
    simp only [lawP, List.length_append, List.length_map, List.length_range]
    omega
theorem law_out (ps : List (Int × Int)) : (match lawP ps ps.length with
    | [] => (none : Option (List Int))
    | x :: xs => some (lexMin x xs)) = outB ps ps.length := by
  have hb := outB_best ps ps.length (Nat.le_refl _)
  have hS : ∀ a b, Seen ps.length ps.length 0 a b ↔ a < b ∧ b < ps.length := fun a b => by unfold Seen; omega
  cases hf : lawP ps ps.length with
  | nil =>
    cases ho : outB ps ps.length with
    | none => rfl
    | some t =>
      rw [ho] at hb
      obtain ⟨x, y, h1, rfl, _⟩ := hb
      obtain ⟨q1, q2⟩ := (hS x y).mp h1
      have : pairT ps x y ∈ lawP ps ps.length := mem_lawP.mpr ⟨x, y, q1, q2, rfl⟩
      rw [hf] at this
      cases this
  | cons z zs =>
    cases ho : outB ps ps.length with
    | none =>
      rw [ho] at hb
      have : z ∈ lawP ps ps.length := by rw [hf]; exact List.mem_cons_self
      obtain ⟨i, j, h1, h2, _⟩ := mem_lawP.mp this
      exact absurd ((hS i j).mpr ⟨h1, h2⟩) (hb i j)
    | some t =>
      rw [ho] at hb
      obtain ⟨x, y, h1, rfl, h3⟩ := hb
      obtain ⟨q1, q2⟩ := (hS x y).mp h1
      dsimp only
      rw [lexMin_eq (q := pairT ps x y) (by rw [← hf]; exact mem_lawP.mpr ⟨x, y, q1, q2, rfl⟩) fun v hv => ?_]
      rw [← hf] at hv
      obtain ⟨i, j, r1, r2, rfl⟩ := mem_lawP.mp hv
      exact h3 i j ((hS i j).mpr ⟨r1, r2⟩)
def lsT' (xs : List (List Int)) : List L := xs.map fun t => .fz (tupI t)
theorem lsT'_pds : ∀ xs : List (List Int), L.pds (lsT' xs) = xs.map tupI
  | [] => rfl
  | x :: r => by show tupI x :: L.pds (lsT' r) = _; rw [lsT'_pds r]; rfl
theorem gAdd_lists {xs ys : List PD} (h : xs.length + ys.length ≤ 16777216) : gAdd (.list xs) (.list ys) = some (.lst ((xs ++ ys).map .fz)) := if_pos h
theorem m__law_spacing_ {ps : List (Int × Int)} (h : ∀ p ∈ ps, OnF p) (hl : ps.length ≤ 60) : m__law_spacing [.fz (fmD ps)] = .ret (.fz (optD (outB ps ps.length))) [.fz (fmD ps)] := by
  unfold m__law_spacing
  refine (semOf_ (by rfl) (by rfl)).trans ?_
  unfold s__law_spacing
  obtain ⟨s, hs, hlp⟩ := sLoop_inv (Gt := gN 2) (S := sAs 1 (eB2 gAdd (eN 1) (eLc [3] (iR rng1 (aV (eN 2) aN)) (gN 3) tY (eDs FS.gTup (aV (eCl m__law_far (aV (eB2 gIx (eN 0) (eN 3)) (aV (eB2 gIx (eN 0) (eN 2)) aN))) (aV (eN 3) (aV (eN 2) aN)))))))
    (fun s : List (List Int) × Option M => [some (.fz (fmD ps)), some (.v (.lst (lsT' s.1))), s.2, none]) (fun j s => s.1 = lawP ps j) (rangeD 0 ps.length) ([], none) rfl (by
      rintro j d ⟨b, v2⟩ hj hb
      obtain ⟨rfl, hjl⟩ := rangeD0_get hj
      dsimp only at hb ⊢
      obtain ⟨o2, g2⟩ := getD_on h hjl
      have hc := cLoop_all (own := [3]) (G := gN 3) (T := tY) (E := (eDs FS.gTup (aV (eCl m__law_far (aV (eB2 gIx (eN 0) (eN 3)) (aV (eB2 gIx (eN 0) (eN 2)) aN))) (aV (eN 3) (aV (eN 2) aN)))))
        (δ := [some (.fz (fmD ps)), some (.fz (.list (b.map tupI))), some (.fz (.int j)), none]) (fun i : Nat => PyData.int (0 + (i : Int))) (fun i => .fz (tupI (pairT ps i j))) rfl (List.range j) (fun i hi => by
          have hij : i < j := List.mem_range.mp hi
          obtain ⟨o1, g1⟩ := getD_on h (i := i) (by omega)
          have sq := m__law_far_ o1 o2
          have hpt : pairT ps i j = [dist2 (ps.getD i (0, 0)) (ps.getD j (0, 0)), i, j] := rfl
          rw [hpt]
          generalize ps.getD i (0, 0) = p at *
          generalize ps.getD j (0, 0) = q at *
          unfold fmD
          exact ⟨_, _, by simp; rfl, by simp [atI_nat, g1, g2, sq, tupI3]; rfl, by simp⟩)
      have hlen : (b.map tupI).length + ((List.range j).map fun i => tupI (pairT ps i j)).length ≤ 16777216 := by
        have q1 := lawP_len ps j
        have q3 := Nat.mul_le_mul (show j ≤ 60 by omega) (show j ≤ 60 by omega)
        rw [hb]
        simp only [List.length_map, List.length_range]
        omega
      have hjb : j ≤ big := by show j ≤ 16777216; omega
      refine ⟨(b ++ (List.range j).map fun i => pairT ps i j, some (.fz (.int j))), _, by rw [hb]; rfl, by simp; rfl, .inl ?_⟩
      have er : rangeD 0 j = (List.range j).map fun i : Nat => PyData.int (0 + (i : Int)) := rfl
      have el : L.pds ((List.range j).map fun i => L.fz (tupI (pairT ps i j))) = (List.range j).map fun i => tupI (pairT ps i j) := pds_comp (f := fun i => tupI (pairT ps i j)) _
      rw [← er] at hc
      simp (disch := omega) [lsT'_pds, rangeD_len, hjb, hc, el, gAdd_lists hlen]
      simp [lsT', Function.comp_def])
  rw [rangeD_len] at hs
  obtain ⟨b, v2⟩ := s
  dsimp only at hs hlp
  subst hs
  have e0 : lsT' [] = [] := rfl
  rw [e0] at hlp
  have ho := law_out ps
  unfold fmD at hlp ⊢
  cases hf : lawP ps ps.length with
  | nil =>
    rw [hf] at hlp ho
    rw [← ho]
    simp (disch := omega) [hlp, lsT', optD]
  | cons x xs =>
    rw [hf] at hlp ho
    dsimp only at ho
    rw [← ho]
    have hg := gMin_tupI x xs
    have h0 : (0 : Int) < (xs.length : Int) + 1 := by omega
    simp only [List.map_cons] at hg
    simp (disch := omega) [hlp, lsT'_pds, h0, hg, optD]
end MX
namespace MX
open PySem PySem.Spec L2 FS FX
/-! ### drawn formations -/
theorem eqv_pt (p q : Int × Int) : PyData.eqv (ptD p) (ptD q) = decide (p = q) := by
  unfold ptD
  have h : decide (p = q) = (decide (p.1 = q.1) && decide (p.2 = q.2)) := by
    by_cases h1 : p.1 = q.1 <;> by_cases h2 : p.2 = q.2 <;> simp [Prod.ext_iff, h1, h2]
  rw [h]
  simp only [PyData.eqv, PyData.eqvAll, Bool.and_true]
  by_cases h1 : p.1 = q.1 <;> by_cases h2 : p.2 = q.2 <;> simp [h1, h2]
theorem okN_pt (n : Nat) (p : Int × Int) : okN (n + 1) (ptD p) = true := okN_tupI n [p.1, p.2]
theorem okNs_pts : ∀ (n : Nat) (ps : List (Int × Int)), okNs (n + 1) (ps.map ptD) = true
  | _, [] => by simp [okNs]
  | n, p :: ps => by
    show okNs (n + 1) (ptD p :: ps.map ptD) = true
    rw [okNs, okN_pt, okNs_pts n ps]; rfl
theorem isIn_pts (p : Int × Int) : ∀ ps : List (Int × Int), ((ps.map ptD).any fun y => PyData.eqv y (ptD p)) = decide (p ∈ ps)
  | [] => by simp
  | q :: ps => by
    simp only [List.map_cons, List.any_cons, eqv_pt, isIn_pts p ps, List.mem_cons]
    by_cases h : q = p
    · simp [h]
    · have h' : ¬ p = q := fun e => h e.symm
      simp [h, h']
theorem gNin_pts (p : Int × Int) (ps : List (Int × Int)) : gNinL (ptD p) (.list (ps.map ptD)) = some (.fz (.bool (!decide (p ∈ ps)))) := by
  show (if (okN 12 (ptD p) && okNs 12 (ps.map ptD)) = true then some (M.fz (.bool (!((ps.map ptD).any fun y => PyData.eqv y (ptD p))))) else none) = _
  rw [okN_pt, okNs_pts, isIn_pts]; rfl
theorem gIn_pts (p : Int × Int) (ps : List (Int × Int)) : gInL (ptD p) (.list (ps.map ptD)) = some (.fz (.bool (decide (p ∈ ps)))) := by
  show (if (okN 12 (ptD p) && okNs 12 (ps.map ptD)) = true then some (M.fz (.bool ((ps.map ptD).any fun y => PyData.eqv y (ptD p)))) else none) = _
  rw [okN_pt, okNs_pts, isIn_pts]; rfl
def lsP (ps : List (Int × Int)) : List L := ps.map fun p => .fz (ptD p)
theorem lsP_pds (ps : List (Int × Int)) : L.pds (lsP ps) = ps.map ptD := pds_comp (f := ptD) ps
theorem lsP_len (ps : List (Int × Int)) : (lsP ps).length = ps.length := List.length_map _
theorem lsP_app (ps qs : List (Int × Int)) : lsP (ps ++ qs) = lsP ps ++ lsP qs := List.map_append
theorem m__law_formation_ {xs : List Int} (hN : Nums xs) (k : Nat) (hk : k ≤ 1000000) (many : Nat) (hm : many ≤ 1000) (size : Int) (hs : 1 ≤ size) : ∃ ps : List (Int × Int), ps.Nodup ∧ (∀ p ∈ ps, 0 ≤ p.1 ∧ p.1 < size ∧ 0 ≤ p.2 ∧ p.2 < size) ∧ ps.length ≤ many ∧ (1 ≤ many → 1 ≤ ps.length) ∧
    m__law_formation [DR xs k, .fz (.int many), .fz (.int size)] = .ret (.v (.lst (lsP ps))) [DR xs (k + 2 * many), .fz (.int many), .fz (.int size)] := by
  unfold m__law_formation
  obtain ⟨s, ⟨h1, h2, h3, h4⟩, hlp⟩ := sLoop_inv (Gt := gN 4) (S := (sSq (sAs 5 (eDs FS.gTup (aV (eB2 gMod (eCl m__law_draw (aIo 0 aN)) (eN 2)) (aV (eB2 gMod (eCl m__law_draw (aIo 0 aN)) (eN 2)) aN))))
  (sIf (tPk (tE (eB2 gNinL (eN 5) (eN 3))))
    (sApp 3 (eN 5))
    sNl))) (fun s : Nat × List (Int × Int) × Option M × Option M => [some (DR xs s.1), some (.fz (.int many)), some (.fz (.int size)), some (.v (.lst (lsP s.2.1))), s.2.2.1, s.2.2.2])
    (fun i s => s.1 = k + 2 * i ∧ s.2.1.Nodup ∧ (∀ p ∈ s.2.1, 0 ≤ p.1 ∧ p.1 < size ∧ 0 ≤ p.2 ∧ p.2 < size) ∧ s.2.1.length ≤ i ∧ (1 ≤ i → 1 ≤ s.2.1.length)) (rangeD 0 many) (k, [], none, none)
    ⟨rfl, List.nodup_nil, (fun p hp => nomatch hp), Nat.le_refl _, fun h => absurd h (by omega)⟩ (by
      rintro i d ⟨kk, ps, v4, v5⟩ hi ⟨e1, e2, e3, e4, e5⟩
      obtain ⟨rfl, him⟩ := rangeD0_get hi
      dsimp only at e1 e2 e3 e4 e5 ⊢
      have d1 := m__law_draw_ hN kk (by omega)
      have d2 := m__law_draw_ hN (kk + 1) (by omega)
      have g1 := Int.emod_nonneg (drawV xs kk) (b := size) (by omega)
      have g2 := Int.emod_lt_of_pos (drawV xs kk) (b := size) (by omega)
      have g3 := Int.emod_nonneg (drawV xs (kk + 1)) (b := size) (by omega)
      have g4 := Int.emod_lt_of_pos (drawV xs (kk + 1)) (b := size) (by omega)
      have hb : ps.length < big := by show _ < 16777216; omega
      have hn := gNin_pts (drawV xs kk % size, drawV xs (kk + 1) % size) ps
      have hpt : PyData.tuple [.int (drawV xs kk % size), .int (drawV xs (kk + 1) % size)] = ptD (drawV xs kk % size, drawV xs (kk + 1) % size) := rfl
      by_cases hin : (drawV xs kk % size, drawV xs (kk + 1) % size) ∈ ps
      · refine ⟨(kk + 2, ps, some (.fz (.int i)), some (.fz (ptD (drawV xs kk % size, drawV xs (kk + 1) % size)))), _, ⟨by dsimp only; omega, e2, e3, by dsimp only; omega, fun _ => List.length_pos_of_mem hin⟩, by simp; rfl, .inl ?_⟩
        simp (disch := omega) [d1, d2, hpt, lsP_pds, hn, hin]
      · refine ⟨(kk + 2, ps ++ [(drawV xs kk % size, drawV xs (kk + 1) % size)], some (.fz (.int i)), some (.fz (ptD (drawV xs kk % size, drawV xs (kk + 1) % size)))), _, ⟨by dsimp only; omega, ?_, fun p hp => ?_, by simp; omega, fun _ => by simp⟩, by simp; rfl, .inl ?_⟩
        · rw [List.nodup_append]
          exact ⟨e2, (by simp), fun a ha b hb' e => hin (by rw [List.mem_singleton.mp hb'] at e; rw [← e]; exact ha)⟩
        · rcases List.mem_append.mp hp with q | q
          · exact e3 p q
          · rw [List.mem_singleton.mp q]
            exact ⟨g1, g2, g3, g4⟩
        · simp (disch := omega) [d1, d2, hpt, lsP_pds, hn, hin, lsP_len, hb]
          simp [lsP])
  rw [rangeD_len] at h1
  obtain ⟨kk, ps, v4, v5⟩ := s
  dsimp only at h1 h2 h3 h4 hlp
  obtain ⟨h4, h5⟩ := h4
  subst h1
  refine ⟨ps, h2, h3, by rw [rangeD_len] at h4; exact h4, fun hh => h5 (by rw [rangeD_len]; exact hh), (semOf_ (by rfl) (by rfl)).trans ?_⟩
  unfold s__law_formation
  have e0 : lsP [] = [] := rfl
  rw [e0] at hlp
  simp (disch := omega) [hlp]
end MX
namespace MX
open PySem PySem.Spec L2 FS FX
/-! ### cuts, refusals -/
@[simp] theorem eDn_ {δ : Env'} : eDn δ = .ok (.v (.dic [])) δ := nr rfl
@[simp] theorem frz_dic {kvs : List (PD × PD)} : (M.v (.dic kvs)).frz = .v (.fz (.dict kvs)) := nr rfl
@[simp] theorem pd_dic {kvs : List (PD × PD)} : (L.dic kvs).pd = .dict kvs := nr rfl
theorem gSl_lo (ds : List PD) (n : Nat) : gSl (.list ds) none (some (n : Int)) = some (.lst ((ds.take n).map .fz)) := by
  show some (M.lst ((cutD ds none (some (n : Int))).map .fz)) = _
  unfold cutD
  rw [HT.sIx_nat, HT.sIx_none]
  simp [List.take_eq_take_iff]
theorem gSl_hi (ds : List PD) (n : Nat) : gSl (.list ds) (some (n : Int)) none = some (.lst ((ds.drop n).map .fz)) := by
  show some (M.lst ((cutD ds (some (n : Int)) none).map .fz)) = _
  unfold cutD
  rw [HT.sIx_nat, HT.sIx_none]
  congr 2
  by_cases h : n ≤ ds.length
  · rw [Nat.min_eq_left h, List.take_of_length_le (by simp)]
  · rw [Nat.min_eq_right (by omega), List.drop_of_length_le (Nat.le_refl _), List.drop_of_length_le (by omega)]; simp
theorem chkF_bad {ds : List PD} {w : PD} (h1 : 1 ≤ ds.length) (h2 : ds.length ≤ 60) (hw : w ∈ ds) (hp : isPt w = false) : chkF (.list ds) = some 1 := by
  rw [chkF_l, if_pos ⟨h1, h2⟩, if_neg]
  intro hall
  rw [List.all_eq_true] at hall
  rw [hall w hw] at hp
  cases hp
theorem chkF_long {ds : List PD} (h : ¬ (1 ≤ ds.length ∧ ds.length ≤ 60)) : chkF (.list ds) = some 3 := by rw [chkF_l, if_neg h]
theorem chkF_twice {ps : List (Int × Int)} (h1 : 1 ≤ ps.length) (h2 : ps.length ≤ 60) (hon : ∀ p ∈ ps, OnF p) (hd : ¬ ps.Nodup) : chkF (fmD ps) = some 3 := by
  unfold fmD
  rw [chkF_l, if_pos (by rw [List.length_map]; exact ⟨h1, h2⟩), if_pos (all_isPt hon), tupIs_pts]
  have hn : ¬ (ps.map ptL).Nodup := fun q => hd (List.Pairwise.of_map _ (fun a b hab e => hab (by rw [e])) q)
  have := ddL_lt hn
  rw [List.length_map] at this
  dsimp only
  rw [if_neg (by rw [List.length_map]; omega)]
theorem gNe_txt {x y : Str} : gNe (.str x) (.str y) = some (.fz (.bool (!(x == y)))) := by
  show (if okEq (.str x) (.str y) = true then some (M.fz (.bool (!PyData.eqv (.str x) (.str y)))) else none) = _
  have h : PyData.eqv (.str x) (.str y) = (x == y) := by simp only [PyData.eqv]
  rw [h]; rfl
theorem gEq_txt {x y : Str} : gEq (.str x) (.str y) = some (.fz (.bool (x == y))) := by
  show (if okEq (.str x) (.str y) = true then some (M.fz (.bool (PyData.eqv (.str x) (.str y)))) else none) = _
  have h : PyData.eqv (.str x) (.str y) = (x == y) := by simp only [PyData.eqv]
  rw [h]; rfl
/-- one of three, by a draw -/
theorem ix3 {x y z : PD} (k : Int) : ∃ w, (w = x ∨ w = y ∨ w = z) ∧ atI [x, y, z] (k % 3) = some w := by
  have h1 := Int.emod_nonneg k (b := 3) (by decide)
  have h2 := Int.emod_lt_of_pos k (b := 3) (by decide)
  have h : k % 3 = 0 ∨ k % 3 = 1 ∨ k % 3 = 2 := by omega
  rcases h with h | h | h <;> rw [h]
  · exact ⟨x, .inl rfl, by simp⟩
  · exact ⟨y, .inr (.inl rfl), by simp⟩
  · exact ⟨z, .inr (.inr rfl), by simp⟩
end MX
namespace MX
open PySem PySem.Spec L2 FS FX
/-! ### while -/
def whR (A : BF) (S : SF) (n : Nat) (r : R Bool) : Option SR := match r with
  | .ok true δ1 => (match S δ1 with
    | .nx δ2 => whileN A S n δ2
    | .ct δ2 => whileN A S n δ2
    | .bk δ2 => some (.nx δ2)
    | r => some r)
  | .ok false δ1 => some (.nx δ1)
  | .ex k δ1 => some (.ex k δ1)
  | .bad => some .bad
theorem whileN_s {A : BF} {S : SF} {n : Nat} {δ : Env'} : whileN A S (n + 1) δ = whR A S n (A δ) := by
  show (match A δ with
    | .ok true δ1 => (match S δ1 with
      | .nx δ2 => whileN A S n δ2
      | .ct δ2 => whileN A S n δ2
      | .bk δ2 => some (.nx δ2)
      | r => some r)
    | .ok false δ1 => some (.nx δ1)
    | .ex k δ1 => some (.ex k δ1)
    | .bad => some .bad) = _
  cases A δ with
  | ok b δ1 => cases b <;> rfl
  | ex _ _ => rfl
  | bad => rfl
/-- one turn -/
theorem while_go {A : BF} {S : SF} {n : Nat} {δ δ1 δ2 : Env'} {r : SR} (h1 : A δ = .ok true δ1) (h2 : S δ1 = .nx δ2 ∨ S δ1 = .ct δ2) (h3 : whileN A S n δ2 = some r) : whileN A S (n + 1) δ = some r := by
  rw [whileN_s, h1]
  unfold whR
  rcases h2 with h2 | h2 <;> (dsimp only; rw [h2]; exact h3)
theorem while_end {A : BF} {S : SF} {n : Nat} {δ δ1 : Env'} (h1 : A δ = .ok false δ1) : whileN A S (n + 1) δ = some (.nx δ1) := by
  rw [whileN_s, h1]; rfl
/-! ### the greatest divisor -/
theorem div_loop : ∀ (b a : Nat), ∃ n, whileN (tE (eB2 gNe (eN 1) (eC (.int 0)))) (sPar [0, 1] (aV (eN 1) (aV (eB2 gMod (eN 0) (eN 1)) aN))) n [some (.fz (.int (a : Int))), some (.fz (.int (b : Int)))] = some (.nx [some (.fz (.int (Nat.gcd a b : Nat))), some (.fz (.int 0))]) := by
  intro b
  induction b using Nat.strongRecOn with
  | ind b ih =>
    intro a
    rcases Nat.eq_zero_or_pos b with h | h
    · subst h
      exact ⟨1, while_end (by simp)⟩
    · obtain ⟨n, hn⟩ := ih (a % b) (Nat.mod_lt _ h) b
      have hb : (0 : Int) < b := by omega
      have hne : ¬ b = 0 := by omega
      refine ⟨n + 1, while_go (δ1 := [some (.fz (.int a)), some (.fz (.int b))]) (by simp [hne]) (.inl (by simp (disch := omega); rfl)) ?_⟩
      have e : (a : Int) % (b : Int) = ((a % b : Nat) : Int) := by omega
      rw [e, hn, Nat.gcd_comm b, ← Nat.gcd_rec, Nat.gcd_comm]
theorem m_divisor_ (a b : Nat) : m_divisor [.fz (.int a), .fz (.int b)] = .ret (.fz (.int (Nat.gcd a b : Nat))) [.fz (.int a), .fz (.int b)] := by
  unfold m_divisor
  refine (semOf_ (by rfl) (by rfl)).trans ?_
  obtain ⟨n, hn⟩ := div_loop b a
  have := sWh_eq hn
  simp [s_divisor, this]
def frN (n d : Int) : Int := (if d < 0 then -n else n) / (Int.gcd n d : Nat)
def frDn (n d : Int) : Int := (if d < 0 then -d else d) / (Int.gcd n d : Nat)
theorem absI (i : Int) : (if i < 0 then -i else i) = (i.natAbs : Int) := by split <;> omega
theorem m_fraction_ (n d : Int) (hd : d ≠ 0) (hs : d.natAbs ≤ 1000000000000000000000000000000) : m_fraction [.fz (.int n), .fz (.int d)] = .ret (.fz (.tuple [.int (frN n d), .int (frDn n d)])) [.fz (.int n), .fz (.int d)] := by
  unfold m_fraction
  refine (semOf_ (by rfl) (by rfl)).trans ?_
  have hg : 0 < Int.gcd n d := Int.gcd_pos_iff.mpr (.inr hd)
  have hg2 : Int.gcd n d ≤ d.natAbs := Nat.le_of_dvd (by omega) (Nat.gcd_dvd_right _ _)
  have dv := m_divisor_ n.natAbs d.natAbs
  have eg : Nat.gcd n.natAbs d.natAbs = Int.gcd n d := rfl
  rw [eg] at dv
  by_cases h : d < 0
  · have e : (d.natAbs : Int) = -d := by omega
    rw [e] at dv
    simp (disch := omega) [s_fraction, absI, dv, h, frN, frDn]
  · have e : (d.natAbs : Int) = d := by omega
    rw [e] at dv
    simp (disch := omega) [s_fraction, absI, dv, h, frN, frDn]
theorem m_is_whole_ (d : PD) : m_is_whole [.fz d] = .ret (.fz (.bool (match d with
    | .int _ => true
    | _ => false))) [.fz d] := by
  unfold m_is_whole
  refine (semOf_ (by rfl) (by rfl)).trans ?_
  cases d <;> simp [s_is_whole, PyData.isInt, PyData.isBool]
def isFrac (d : PD) : Bool := match d with
  | .tuple [.int n, .int d] => decide (0 < d) && decide (Int.gcd n d = 1)
  | _ => false
theorem m_is_fraction_ii (n d : Int) : m_is_fraction [.fz (.tuple [.int n, .int d])] = .ret (.fz (.bool (decide (0 < d) && decide (Int.gcd n d = 1)))) [.fz (.tuple [.int n, .int d])] := by
  unfold m_is_fraction
  refine (semOf_ (by rfl) (by rfl)).trans ?_
  by_cases h : 0 < d
  · obtain ⟨m, rfl⟩ : ∃ m : Nat, (m : Int) = d := ⟨d.toNat, by omega⟩
    have dv := m_divisor_ n.natAbs m
    have eg : Nat.gcd n.natAbs m = Int.gcd n m := by simp [Int.gcd]
    rw [eg] at dv
    have e1 : decide (((Int.gcd n m : Nat) : Int) = 1) = decide (Int.gcd n m = 1) := by
      by_cases q : Int.gcd n m = 1
      · simp [q]
      · have : ¬ ((Int.gcd n m : Nat) : Int) = 1 := by omega
        simp [q, this]
    simp [s_is_fraction, m_is_whole_, PyData.isTuple, absI, dv, h, e1]
  · simp [s_is_fraction, m_is_whole_, PyData.isTuple, h]
end MX
namespace MX
open PySem PySem.Spec L2 FS FX
/-! ### moves and shows are checked -/
theorem chkF_none {d : PD} (h : chkF d = none) : ∃ ps, d = fmD ps ∧ Fm ps := by
  cases d with
  | list ds =>
    rw [chkF_l] at h
    split at h
    · rename_i hl
      split at h
      · rename_i hall
        obtain ⟨ps, rfl, hon⟩ := all_pts hall
        rw [tupIs_pts] at h
        dsimp only at h
        split at h
        · rename_i he
          rw [List.length_map] at he hl
          refine ⟨ps, rfl, hl.1, hl.2, hon, ?_⟩
          apply Classical.byContradiction
          intro hn
          have hn' : ¬ (ps.map ptL).Nodup := fun q => hn (List.Pairwise.of_map _ (fun a b hab e => hab (by rw [e])) q)
          have := ddL_lt hn'
          rw [List.length_map] at this
          omega
        · cases h
      · cases h
    · cases h
  | _ => cases h
def lenD : PD → Nat
  | .list ds => ds.length
  | _ => 0
def chkM : PD → Option Nat
  | .tuple [a, b, c] => match chkF a with
    | some n => some n
    | none => match chkF b with
      | some n => some n
      | none => if lenD a = lenD b then (if isNum c 1 64 then none else some 4) else some 4
  | _ => some 4
theorem chkM_3 {a b c : PD} : chkM (.tuple [a, b, c]) = match chkF a with
    | some n => some n
    | none => match chkF b with
      | some n => some n
      | none => if lenD a = lenD b then (if isNum c 1 64 then none else some 4) else some 4 := rfl
theorem m_check_move_ (d : PD) : m_check_move [.fz d] = frC (chkM d) [.fz d] := by
  unfold m_check_move
  refine (semOf_ (by rfl) (by rfl)).trans ?_
  cases d with
  | tuple ds =>
    match ds with
    | [a, b, c] =>
      rw [chkM_3]
      cases ha : chkF a with
      | some n => simp [s_check_move, PyData.isTuple, m_check_formation_, ha]
      | none =>
        cases hb : chkF b with
        | some n => simp [s_check_move, PyData.isTuple, m_check_formation_, ha, hb]
        | none =>
          obtain ⟨ps, rfl, fa⟩ := chkF_none ha
          obtain ⟨qs, rfl, fb⟩ := chkF_none hb
          have la : lenD (fmD ps) = ps.length := by unfold lenD fmD; simp
          have lb : lenD (fmD qs) = qs.length := by unfold lenD fmD; simp
          rw [la, lb]
          unfold fmD at ha hb ⊢
          by_cases hl : ps.length = qs.length
          · cases hc : isNum c 1 64 <;> simp [s_check_move, PyData.isTuple, m_check_formation_, ha, hb, hl, m_is_number_, hc]
          · have hl' : ¬ (ps.length : Int) = qs.length := by omega
            simp [s_check_move, PyData.isTuple, m_check_formation_, ha, hb, hl, hl', m_is_number_]
    | [] => simp [s_check_move, PyData.isTuple, chkM]
    | [a] => simp [s_check_move, PyData.isTuple, chkM]
    | [a, b] => simp [s_check_move, PyData.isTuple, chkM]
    | a :: b :: c :: e :: r =>
      have : ¬ ((r.length : Int) + 1 + 1 + 1 + 1 = 3) := by omega
      simp [s_check_move, PyData.isTuple, this, chkM]
  | _ => simp [s_check_move, PyData.isTuple, chkM]
/-- .. a show -/
def chkFs (fs : List PD) : Option Nat := fs.findSome? chkF
def chkS : PD → Option Nat
  | .tuple [.list fs, cs] => if 1 ≤ fs.length ∧ fs.length ≤ 40 then (match chkFs fs with
      | some n => some n
      | none => if fs.all fun f => decide (lenD f = lenD (fs.headD .none)) then (match cs with
          | .list cs => if cs.length + 1 = fs.length then (if cs.all fun c => isNum c 1 64 then none else some 5) else some 5
          | _ => some 5) else some 5) else some 5
  | _ => some 5
theorem fs_loop (d0 : M) (e2 e3 e4 : Option M) : ∀ (fs : List PD) (v : Option M), (v = none ∨ ∃ d, v = some (.fz d)) → ∃ v', (v' = none ∨ ∃ d, v' = some (.fz d)) ∧
    sLoop (gN 1) (sEx (eCl m_check_formation (aV (eN 1) aN))) fs [some d0, v, e2, e3, e4] = match chkFs fs with
      | none => .nx [some d0, v', e2, e3, e4]
      | some n => .ex n [some d0, v', e2, e3, e4]
  | [], v, hv => ⟨v, hv, by simp [chkFs]⟩
  | f :: fs, v, hv => by
    unfold chkFs
    rw [List.findSome?_cons]
    cases h : chkF f with
    | none =>
      obtain ⟨v', h1, h2⟩ := fs_loop d0 e2 e3 e4 fs (some (.fz f)) (.inr ⟨f, rfl⟩)
      refine ⟨v', h1, ?_⟩
      simp [m_check_formation_, h]
      exact h2
    | some n => exact ⟨some (.fz f), .inr ⟨f, rfl⟩, by simp [m_check_formation_, h]⟩
theorem chkFs_none : ∀ {fs : List PD}, chkFs fs = none → ∃ Ps : List (List (Int × Int)), fs = Ps.map fmD ∧ ∀ ps ∈ Ps, Fm ps
  | [], _ => ⟨[], rfl, fun p hp => nomatch hp⟩
  | f :: fs, h => by
    unfold chkFs at h
    rw [List.findSome?_cons] at h
    cases e : chkF f with
    | some n => rw [e] at h; cases h
    | none =>
      rw [e] at h
      obtain ⟨ps, rfl, hp⟩ := chkF_none e
      obtain ⟨Ps, rfl, hP⟩ := chkFs_none h
      exact ⟨ps :: Ps, rfl, fun q hq => (List.mem_cons.mp hq).elim (fun e => e ▸ hp) (hP q)⟩
theorem chkS_2 {fs : List PD} {cs : PD} : chkS (.tuple [.list fs, cs]) = if 1 ≤ fs.length ∧ fs.length ≤ 40 then (match chkFs fs with
      | some n => some n
      | none => if fs.all fun f => decide (lenD f = lenD (fs.headD .none)) then (match cs with
          | .list cs => if cs.length + 1 = fs.length then (if cs.all fun c => isNum c 1 64 then none else some 5) else some 5
          | _ => some 5) else some 5) else some 5 := rfl
theorem lenD_fm (ps : List (Int × Int)) : lenD (fmD ps) = ps.length := by unfold lenD fmD; simp
theorem isEmpty_filter {β γ : Type} {p : β → Bool} {f : β → γ} {xs : List β} : ((xs.filter p).map f).isEmpty = !xs.any p := by
  induction xs with
  | nil => rfl
  | cons x xs ih =>
    rw [List.filter_cons, List.any_cons]
    cases h : p x with
    | true => rfl
    | false => simp only [Bool.false_eq_true, if_false, Bool.false_or]; exact ih
theorem counts_lc (d0 e2 : PD) (v : Option M) (hv : v = none ∨ ∃ d, v = some (.fz d)) (cs : List PD) (hl : cs.length ≤ 1000) : ∃ b, b = !(cs.all fun c => isNum c 1 64) ∧ tTru (eLc [4] (iE (eN 3)) (gN 4) (tNt (tTru (eCl m_is_number (aV (eN 4) (aV (eC (.int 1)) (aV (eC (.int 64)) aN)))))) (eN 4)) [some (.fz d0), v, some (.fz e2), some (.fz (.list cs)), none] =
    .ok b [some (.fz d0), v, some (.fz e2), some (.fz (.list cs)), none] := by
  have hc := cLoop_flt (own := [4]) (G := gN 4) (T := tNt (tTru (eCl m_is_number (aV (eN 4) (aV (eC (.int 1)) (aV (eC (.int 64)) aN)))))) (E := eN 4) (δ := [some (.fz d0), v, some (.fz e2), some (.fz (.list cs)), none]) (fun c : PD => c) (fun c => !isNum c 1 64) (fun c => L.fz c) cs
    (fun c _ => ⟨_, _, by simp; rfl, by simp [m_is_number_]; rfl, fun _ => by simp, fun _ => ⟨_, by simp; rfl, by simp⟩⟩)
  rw [List.map_id'] at hc
  have hb : cs.length ≤ big := by show _ ≤ 16777216; omega
  have he : ((cs.filter fun c => !isNum c 1 64).map L.fz).isEmpty = !cs.any fun c => !isNum c 1 64 := isEmpty_filter
  have hp : L.pds ((cs.filter fun c => !isNum c 1 64).map L.fz) = cs.filter fun c => !isNum c 1 64 := pds_map _
  have he2 : (cs.filter fun c => !isNum c 1 64).isEmpty = !cs.any fun c => !isNum c 1 64 := by
    rw [← he]; cases (cs.filter fun c => !isNum c 1 64) <;> rfl
  refine ⟨_, rfl, ?_⟩
  have e3 : (cs.any fun c => !isNum c 1 64) = !(cs.all fun c => isNum c 1 64) := by
    rw [List.all_eq_not_any_not]; simp
  simp only [tTru_, eLc_, iE_, eN_, at3, nR_fz, ieR_ok, pd_fz, seqD_l, ieK_ok, lcR_ok]
  rw [if_pos ⟨by simp, hb⟩]
  have w : wipeE [some (M.fz d0), v, some (.fz e2), some (.fz (.list cs)), none] [4] = [some (.fz d0), v, some (.fz e2), some (.fz (.list cs)), none] := by simp
  rw [w, hc, lcK_ok]
  simp only [ttR_ok, pd_lst, hp, truD_l, he2, Bool.not_not, ttK_ok, e3]
  simp
theorem forms_lc (d0 e3 : PD) (v : Option M) (hv : v = none ∨ ∃ d, v = some (.fz d)) (Ps : List (List (Int × Int))) (h1 : 1 ≤ Ps.length) (hl : Ps.length ≤ 1000) : ∃ b, b = !((Ps.map fmD).all fun f => decide (lenD f = lenD ((Ps.map fmD).headD .none))) ∧
    tTru (eLc [1] (iE (eN 2)) (gN 1) (tE (eB2 gNe (eDs gLen (aV (eN 1) aN)) (eDs gLen (aV (eB2 gIx (eN 2) (eC (.int 0))) aN)))) (eN 1)) [some (.fz d0), v, some (.fz (.list (Ps.map fmD))), some (.fz e3), none] =
    .ok b [some (.fz d0), v, some (.fz (.list (Ps.map fmD))), some (.fz e3), none] := by
  obtain ⟨p0, Ps', rfl⟩ : ∃ p0 Ps', Ps = p0 :: Ps' := by
    cases Ps with
    | nil => simp at h1
    | cons p r => exact ⟨p, r, rfl⟩
  have hc := cLoop_flt (own := [1]) (G := gN 1) (T := tE (eB2 gNe (eDs gLen (aV (eN 1) aN)) (eDs gLen (aV (eB2 gIx (eN 2) (eC (.int 0))) aN)))) (E := eN 1) (δ := [some (.fz d0), none, some (.fz (.list ((p0 :: Ps').map fmD))), some (.fz e3), none]) fmD (fun ps => !decide (ps.length = p0.length)) (fun ps => L.fz (fmD ps)) (p0 :: Ps')
    (fun ps _ => ⟨_, _, by simp; rfl, by
      have e : decide (((ps.length : Nat) : Int) = (p0.length : Int)) = decide (ps.length = p0.length) := by
        by_cases q : ps.length = p0.length
        · simp [q]
        · have : ¬ (ps.length : Int) = p0.length := by omega
          simp [q, this]
      have g1 : gLen [fmD ps] = some (.fz (.int ps.length)) := by unfold fmD; simp
      have g2 : gLen [fmD p0] = some (.fz (.int p0.length)) := by unfold fmD; simp
      simp [g1, g2, e]; rfl, fun _ => by simp, fun _ => ⟨_, by simp; rfl, by simp⟩⟩)
  have hb : ((p0 :: Ps').map fmD).length ≤ big := by show _ ≤ 16777216; rw [List.length_map]; omega
  have hp : L.pds (((p0 :: Ps').filter fun ps => !decide (ps.length = p0.length)).map fun ps => L.fz (fmD ps)) = ((p0 :: Ps').filter fun ps => !decide (ps.length = p0.length)).map fmD := pds_comp (f := fmD) _
  have he2 : (((p0 :: Ps').filter fun ps => !decide (ps.length = p0.length)).map fmD).isEmpty = !(p0 :: Ps').any fun ps => !decide (ps.length = p0.length) := isEmpty_filter
  have e3' : ((p0 :: Ps').any fun ps => !decide (ps.length = p0.length)) = !(((p0 :: Ps').map fmD).all fun f => decide (lenD f = lenD (((p0 :: Ps').map fmD).headD .none))) := by
    rw [List.all_map, List.all_eq_not_any_not]
    simp only [Function.comp_def, List.map_cons, List.headD_cons, lenD_fm, Bool.not_not]
  refine ⟨_, rfl, ?_⟩
  simp only [tTru_, eLc_, iE_, eN_, at2, nR_fz, ieR_ok, pd_fz, seqD_l, ieK_ok, lcR_ok]
  have kk : keepOk [some (M.fz d0), v, some (.fz (.list ((p0 :: Ps').map fmD))), some (.fz e3), none] [1] = true := by
    rcases hv with rfl | ⟨d, rfl⟩ <;> simp
  rw [if_pos ⟨kk, hb⟩]
  have w : wipeE [some (M.fz d0), v, some (.fz (.list ((p0 :: Ps').map fmD))), some (.fz e3), none] [1] = [some (.fz d0), none, some (.fz (.list ((p0 :: Ps').map fmD))), some (.fz e3), none] := by simp
  rw [w, hc, lcK_ok]
  simp only [ttR_ok, pd_lst, hp, truD_l, he2, Bool.not_not, ttK_ok, e3']
  simp
theorem m_check_show_ (d : PD) : m_check_show [.fz d] = frC (chkS d) [.fz d] := by
  unfold m_check_show
  refine (semOf_ (by rfl) (by rfl)).trans ?_
  cases d with
  | tuple ds =>
    match ds with
    | [a, cs] =>
      cases a with
      | list fs =>
        rw [chkS_2]
        by_cases hl : 1 ≤ fs.length ∧ fs.length ≤ 40
        · rw [if_pos hl]
          have h1 : (1 : Int) ≤ fs.length := by omega
          have h2 : (fs.length : Int) ≤ 40 := by omega
          obtain ⟨v', hv', hlp⟩ := fs_loop (.fz (.tuple [.list fs, cs])) (some (.fz (.list fs))) (some (.fz cs)) none fs none (.inl rfl)
          cases hf : chkFs fs with
          | some n =>
            rw [hf] at hlp
            simp [s_check_show, PyData.isTuple, PyData.isList, h1, h2, hlp]
          | none =>
            rw [hf] at hlp
            obtain ⟨Ps, rfl, hP⟩ := chkFs_none hf
            rw [List.length_map] at hl
            obtain ⟨b, hb, hlc⟩ := forms_lc (.tuple [.list (Ps.map fmD), cs]) cs v' hv' Ps hl.1 (by omega)
            simp only [List.length_map] at h1 h2
            have p1 : sIf (tOr' (tNt (tTru (eU1 (gIsa PyData.isTuple) (eN 0)))) (tE (eB2 gNe (eDs gLen (aV (eN 0) aN)) (eC (.int 2))))) (sRs 5) sNl [some (.fz (.tuple [.list (Ps.map fmD), cs])), none, none, none, none] = .nx [some (.fz (.tuple [.list (Ps.map fmD), cs])), none, none, none, none] := by
              simp [PyData.isTuple]
            have p2 : sAg (gUp [2, 3]) (eN 0) [some (.fz (.tuple [.list (Ps.map fmD), cs])), none, none, none, none] = .nx [some (.fz (.tuple [.list (Ps.map fmD), cs])), none, some (.fz (.list (Ps.map fmD))), some (.fz cs), none] := by
              simp
            have p3 : sIf (tOr' (tNt (tTru (eU1 (gIsa PyData.isList) (eN 2)))) (tNt (tE (eCh gLe gLe (eC (.int 1)) (eDs gLen (aV (eN 2) aN)) (eC (.int 40)))))) (sRs 5) sNl [some (.fz (.tuple [.list (Ps.map fmD), cs])), none, some (.fz (.list (Ps.map fmD))), some (.fz cs), none] = .nx [some (.fz (.tuple [.list (Ps.map fmD), cs])), none, some (.fz (.list (Ps.map fmD))), some (.fz cs), none] := by
              simp [PyData.isList, h1, h2]
            have p4 : sFor (iE (eN 2)) (gN 1) (sEx (eCl m_check_formation (aV (eN 1) aN))) [some (.fz (.tuple [.list (Ps.map fmD), cs])), none, some (.fz (.list (Ps.map fmD))), some (.fz cs), none] = .nx [some (.fz (.tuple [.list (Ps.map fmD), cs])), v', some (.fz (.list (Ps.map fmD))), some (.fz cs), none] := by
              simp [hlp]
            have p5 : sIf (tTru (eLc [1] (iE (eN 2)) (gN 1) (tE (eB2 gNe (eDs gLen (aV (eN 1) aN)) (eDs gLen (aV (eB2 gIx (eN 2) (eC (.int 0))) aN)))) (eN 1))) (sRs 5) sNl [some (.fz (.tuple [.list (Ps.map fmD), cs])), v', some (.fz (.list (Ps.map fmD))), some (.fz cs), none] = if b then .ex 5 [some (.fz (.tuple [.list (Ps.map fmD), cs])), v', some (.fz (.list (Ps.map fmD))), some (.fz cs), none] else .nx [some (.fz (.tuple [.list (Ps.map fmD), cs])), v', some (.fz (.list (Ps.map fmD))), some (.fz cs), none] := by
              rw [sIf_, hlc]; cases b <;> rfl
            show frOf [] _ (s_check_show [some (.fz (.tuple [.list (Ps.map fmD), cs])), none, none, none, none]) = _
            unfold s_check_show
            rw [sSq_, p1, sqR_nx, sSq_, p2, sqR_nx, sSq_, p3, sqR_nx, sSq_, p4, sqR_nx, sSq_, p5]
            cases hall : (Ps.map fmD).all fun f => decide (lenD f = lenD ((Ps.map fmD).headD .none)) with
            | false =>
              rw [hall] at hb
              subst hb
              simp
            | true =>
              rw [hall] at hb
              subst hb
              cases cs with
              | list cs =>
                by_cases hcl : cs.length + 1 = Ps.length
                · have hcl' : (cs.length : Int) = (Ps.length : Int) - 1 := by omega
                  obtain ⟨b2, hb2, hlc2⟩ := counts_lc (.tuple [.list (Ps.map fmD), .list cs]) (.list (Ps.map fmD)) v' hv' cs (by omega)
                  have p6 : sIf (tOr' (tNt (tTru (eU1 (gIsa PyData.isList) (eN 3)))) (tE (eB2 gNe (eDs gLen (aV (eN 3) aN)) (eB2 FS.gSub (eDs gLen (aV (eN 2) aN)) (eC (.int 1)))))) (sRs 5) sNl [some (.fz (.tuple [.list (Ps.map fmD), .list cs])), v', some (.fz (.list (Ps.map fmD))), some (.fz (.list cs)), none] = .nx [some (.fz (.tuple [.list (Ps.map fmD), .list cs])), v', some (.fz (.list (Ps.map fmD))), some (.fz (.list cs)), none] := by
                    simp [PyData.isList, hcl']
                  rw [if_neg (by simp), sqR_nx, sSq_, p6, sqR_nx, sIf_, hlc2, hb2]
                  cases hn : cs.all fun c => isNum c 1 64 <;> simp [hcl, hn]
                · have hcl' : ¬ (cs.length : Int) = (Ps.length : Int) - 1 := by omega
                  simp [PyData.isList, hcl, hcl']
              | _ => simp [PyData.isList]
        · rw [if_neg hl]
          by_cases h1 : (1 : Int) ≤ fs.length
          · have h2 : ¬ (fs.length : Int) ≤ 40 := by omega
            simp [s_check_show, PyData.isTuple, PyData.isList, h1, h2]
          · simp [s_check_show, PyData.isTuple, PyData.isList, h1]
      | _ => simp [s_check_show, PyData.isTuple, PyData.isList, chkS]
    | [] => simp [s_check_show, PyData.isTuple, chkS]
    | [a] => simp [s_check_show, PyData.isTuple, chkS]
    | a :: b :: c :: r =>
      have : ¬ ((r.length : Int) + 1 + 1 + 1 = 2) := by omega
      simp [s_check_show, PyData.isTuple, this, chkS]
  | _ => simp [s_check_show, PyData.isTuple, chkS]
end MX
namespace MX
open PySem PySem.Spec L2 FS FX
/-! ### where marchers are -/
theorem gIx_pt0 (p : Int × Int) : gIx (ptD p) (.int 0) = some (.fz (.int p.1)) := rfl
theorem gIx_pt1 (p : Int × Int) : gIx (ptD p) (.int 1) = some (.fz (.int p.2)) := rfl
def frD (n d : Int) : PD := .tuple [.int (frN n d), .int (frDn n d)]
def pwI (c n d s e : Int) : Int := s * (c * d - n) + e * n
def pwD (c n d : Int) (p q : Int × Int) : PD := .tuple [frD (pwI c n d p.1 q.1) (c * d), frD (pwI c n d p.2 q.2) (c * d)]
theorem m_part_way_ {p q : Int × Int} {c n d : Int} (hp : OnF p) (hq : OnF q) (c1 : 1 ≤ c) (c2 : c ≤ 64) (d1 : 1 ≤ d) (d2 : d ≤ 100000000000000000000) (n1 : -10000000000000000000000 ≤ n) (n2 : n ≤ 10000000000000000000000) :
    m_part_way [.fz (ptD p), .fz (ptD q), .fz (.int c), .fz (.tuple [.int n, .int d])] = .ret (.fz (pwD c n d p q)) [.fz (ptD p), .fz (ptD q), .fz (.int c), .fz (.tuple [.int n, .int d])] := by
  unfold m_part_way
  refine (semOf_ (by rfl) (by rfl)).trans ?_
  obtain ⟨a1, a2, a3, a4⟩ := hp
  obtain ⟨b1, b2, b3, b4⟩ := hq
  have h1 : 1 ≤ c * d := by have := Int.mul_le_mul c1 d1 (by decide) (by omega); omega
  have h2 : c * d ≤ 64 * 100000000000000000000 := Int.mul_le_mul c2 d2 (by omega) (by decide)
  have key : ∀ s e : Int, 0 ≤ s → s ≤ 4000 → 0 ≤ e → e ≤ 4000 → m_fraction [.fz (.int (s * (c * d - n) + e * n)), .fz (.int (c * d))] = .ret (.fz (frD (pwI c n d s e) (c * d))) [.fz (.int (s * (c * d - n) + e * n)), .fz (.int (c * d))] := fun s e _ _ _ _ =>
    m_fraction_ _ _ (by omega) (by omega)
  have k1 := key p.1 q.1 a1 a2 b1 b2
  have k2 := key p.2 q.2 a3 a4 b3 b4
  generalize hw : c * d = w at *
  have hc := cLoop_all (own := [7]) (G := gN 7) (T := tY) (E := (eCl m_fraction (aV (eB2 gAdd (eB2 gMul (eB2 gIx (eN 0) (eN 7)) (eB2 FS.gSub (eN 4) (eN 5))) (eB2 gMul (eB2 gIx (eN 1) (eN 7)) (eN 5))) (aV (eN 4) aN))))
    (δ := [some (.fz (ptD p)), some (.fz (ptD q)), some (.fz (.int c)), some (.fz (.tuple [.int n, .int d])), some (.fz (.int w)), some (.fz (.int n)), some (.fz (.int d)), none]) (fun i : Nat => PyData.int (0 + (i : Int))) (fun i : Nat => if i = 0 then .fz (frD (pwI c n d p.1 q.1) w) else .fz (frD (pwI c n d p.2 q.2) w)) rfl (List.range 2) (fun i hi => by
      have hi2 := List.mem_range.mp hi
      have : i = 0 ∨ i = 1 := by omega
      rcases this with rfl | rfl
      · exact ⟨_, _, by simp; rfl, by simp (disch := omega) [gIx_pt0, k1]; rfl, by simp⟩
      · exact ⟨_, _, by simp; rfl, by simp (disch := omega) [gIx_pt1, k2]; rfl, by simp⟩)
  have er : rangeD 0 2 = (List.range 2).map fun i : Nat => PyData.int (0 + (i : Int)) := rfl
  have el : (List.range 2).map (fun i : Nat => if i = 0 then L.fz (frD (pwI c n d p.1 q.1) w) else .fz (frD (pwI c n d p.2 q.2) w)) = [.fz (frD (pwI c n d p.1 q.1) w), .fz (frD (pwI c n d p.2 q.2) w)] := rfl
  rw [← er, el] at hc
  have hb : (2 : Nat) ≤ big := by show 2 ≤ 16777216; omega
  have ht : ∀ x y : PD, gTupOf [.list [x, y]] = some (.fz (.tuple [x, y])) := fun _ _ => rfl
  simp (disch := omega) [s_part_way, hw, rangeD_len, hb, hc, ht, pwD]
def plsD (c n d : Int) (ps qs : List (Int × Int)) : List PD := (List.range ps.length).map fun i => pwD c n d (ps.getD i (0, 0)) (qs.getD i (0, 0))
theorem m_all_places_ {ps qs : List (Int × Int)} {c n d : Int} (hp : Fm ps) (hq : Fm qs) (hl : ps.length = qs.length) (c1 : 1 ≤ c) (c2 : c ≤ 64) (d1 : 1 ≤ d) (d2 : d ≤ 100000000000000000000) (n1 : -10000000000000000000000 ≤ n) (n2 : n ≤ 10000000000000000000000) :
    m_all_places [.fz (.tuple [fmD ps, fmD qs, .int c]), .fz (.tuple [.int n, .int d])] = .ret (.lst ((plsD c n d ps qs).map .fz)) [.fz (.tuple [fmD ps, fmD qs, .int c]), .fz (.tuple [.int n, .int d])] := by
  unfold m_all_places
  refine (semOf_ (by rfl) (by rfl)).trans ?_
  have hc := cLoop_all (own := [2]) (G := gN 2) (T := tY) (E := (eCl m_part_way (aV (eB2 gIx (eB2 gIx (eN 0) (eC (.int 0))) (eN 2)) (aV (eB2 gIx (eB2 gIx (eN 0) (eC (.int 1))) (eN 2)) (aV (eB2 gIx (eN 0) (eC (.int 2))) (aV (eN 1) aN))))))
    (δ := [some (.fz (.tuple [fmD ps, fmD qs, .int c])), some (.fz (.tuple [.int n, .int d])), none]) (fun i : Nat => PyData.int (0 + (i : Int))) (fun i : Nat => .fz (pwD c n d (ps.getD i (0, 0)) (qs.getD i (0, 0)))) rfl (List.range ps.length) (fun i hi => by
      have hi2 := List.mem_range.mp hi
      obtain ⟨o1, g1⟩ := getD_on hp.on hi2
      obtain ⟨o2, g2⟩ := getD_on hq.on (i := i) (by omega)
      have e := m_part_way_ (c := c) (n := n) (d := d) o1 o2 c1 c2 d1 d2 n1 n2
      generalize ps.getD i (0, 0) = p at *
      generalize qs.getD i (0, 0) = q at *
      unfold fmD
      exact ⟨_, _, by simp; rfl, by simp [atI_nat, g1, g2, e]; rfl, by simp⟩)
  have er : rangeD 0 ps.length = (List.range ps.length).map fun i : Nat => PyData.int (0 + (i : Int)) := rfl
  have el : (List.range ps.length).map (fun i : Nat => L.fz (pwD c n d (ps.getD i (0, 0)) (qs.getD i (0, 0)))) = (plsD c n d ps qs).map .fz := by unfold plsD; rw [List.map_map]; rfl
  rw [← er, el] at hc
  have hb : ps.length ≤ big := by show _ ≤ 16777216; have := hp.few; omega
  have few := hp.few
  unfold fmD at hc ⊢
  simp (disch := omega) [s_all_places, rangeD_len, hb, hc]
theorem m_check_time_ {a b : PD} {c n d : Int} (c1 : 1 ≤ c) (c2 : c ≤ 64) (d1 : 1 ≤ d) (d2 : d ≤ 100000000000000000000) (hg : Int.gcd n d = 1) : m_check_time [.fz (.tuple [a, b, .int c]), .fz (.tuple [.int n, .int d])] = if 0 ≤ n ∧ n ≤ c * d then .ret (.fz .none) [.fz (.tuple [a, b, .int c]), .fz (.tuple [.int n, .int d])] else .ex 2 [.fz (.tuple [a, b, .int c]), .fz (.tuple [.int n, .int d])] := by
  unfold m_check_time
  refine (semOf_ (by rfl) (by rfl)).trans ?_
  have hf := m_is_fraction_ii n d
  have hd : decide (0 < d) = true := decide_eq_true (by omega)
  rw [hd, hg] at hf
  by_cases h0 : n < 0
  · have : ¬ (0 ≤ n ∧ n ≤ c * d) := by omega
    simp (disch := omega) [s_check_time, hf, h0, this]
  · have h0' : 0 ≤ n := by omega
    by_cases h1 : c * d < n
    · have : ¬ (0 ≤ n ∧ n ≤ c * d) := by omega
      simp (disch := omega) [s_check_time, hf, h0, h1, this]
    · have : 0 ≤ n ∧ n ≤ c * d := by omega
      simp (disch := omega) [s_check_time, hf, h0, h1, this]
theorem chkM_none {d : PD} (h : chkM d = none) : ∃ ps qs c, d = .tuple [fmD ps, fmD qs, .int c] ∧ Fm ps ∧ Fm qs ∧ ps.length = qs.length ∧ 1 ≤ c ∧ c ≤ 64 := by
  unfold chkM at h
  split at h
  · rename_i a b c
    split at h
    · cases h
    · rename_i ha
      split at h
      · cases h
      · rename_i hb
        obtain ⟨ps, rfl, fa⟩ := chkF_none ha
        obtain ⟨qs, rfl, fb⟩ := chkF_none hb
        rw [lenD_fm, lenD_fm] at h
        split at h
        · rename_i hl
          split at h
          · rename_i hn
            obtain ⟨i, rfl, i1, i2⟩ := isNum_cases hn
            exact ⟨ps, qs, i, rfl, fa, fb, hl, i1, i2⟩
          · cases h
        · cases h
  · cases h
theorem places01 (d : PD) : m_places_at [.fz d, .fz (.tuple [.int 0, .int 1])] = match chkM d with
    | none => m_places_at [.fz d, .fz (.tuple [.int 0, .int 1])]
    | some n => .ex n [.fz d, .fz (.tuple [.int 0, .int 1])] := by
  cases h : chkM d with
  | none => rfl
  | some n =>
    unfold m_places_at
    refine (semOf_ (by rfl) (by rfl)).trans ?_
    simp [s_places_at, m_check_move_, h]
theorem places_ok {d : PD} (h : chkM d = none) : ∃ l, m_places_at [.fz d, .fz (.tuple [.int 0, .int 1])] = .ret (.v l) [.fz d, .fz (.tuple [.int 0, .int 1])] := by
  obtain ⟨ps, qs, c, rfl, fa, fb, hl, c1, c2⟩ := chkM_none h
  have e1 := m_check_time_ (a := fmD ps) (b := fmD qs) (c := c) (n := 0) (d := 1) c1 c2 (by decide) (by decide) (by rfl)
  rw [if_pos ⟨by decide, by omega⟩] at e1
  have e2 := m_all_places_ (n := 0) (d := 1) fa fb hl c1 c2 (by decide) (by decide) (by decide) (by decide)
  refine ⟨.lst ((plsD c 0 1 ps qs).map .fz), ?_⟩
  unfold m_places_at
  refine (semOf_ (by rfl) (by rfl)).trans ?_
  simp [s_places_at, m_check_move_, h, e1, e2]
end MX
namespace MX
open PySem PySem.Spec L2 FS FX
@[simp] theorem gMax_i2 {x y : Int} : gMax [.int x, .int y] = some (.fz (.int (if y > x then y else x))) := nr rfl
@[simp] theorem gMin_i2 {x y : Int} : gMin [.int x, .int y] = some (.fz (.int (if y < x then y else x))) := nr rfl
theorem fm_take {ps : List (Int × Int)} (h : Fm ps) {n : Nat} (h1 : 1 ≤ n) : Fm (ps.take n) := by
  have := h.pos
  have := h.few
  exact ⟨by rw [List.length_take]; omega, by rw [List.length_take]; omega, fun p hp => h.on p (List.mem_of_mem_take hp), h.nd.sublist (List.take_sublist _ _)⟩
theorem pds_take (X : List PD) (m : Nat) : L.pds (List.take m (List.map L.fz X)) = List.take m X := by
  rw [← List.map_take, pds_map]
theorem m__law_two_ {xs : List Int} (hN : Nums xs) (k : Nat) (hk : k ≤ 100000) (many : Nat) (hm1 : 1 ≤ many) (hm : many ≤ 60) (size : Int) (hs : 1 ≤ size) (hs2 : size ≤ 4001) : ∃ ps qs : List (Int × Int), Fm ps ∧ Fm qs ∧ ps.length = qs.length ∧ ps.length ≤ many ∧
    m__law_two [DR xs k, .fz (.int many), .fz (.int size)] = .ret (.fz (.tuple [fmD ps, fmD qs])) [DR xs (k + 4 * many), .fz (.int many), .fz (.int size)] := by
  obtain ⟨ps, f1, f2, f3, f4, ef⟩ := m__law_formation_ hN k (by omega) many (by omega) size hs
  obtain ⟨qs, g1, g2, g3, g4, eg⟩ := m__law_formation_ hN (k + 2 * many) (by omega) many (by omega) size hs
  have hp : Fm ps := ⟨f4 hm1, by omega, fun p hp => by obtain ⟨a, b, c, d⟩ := f2 p hp; exact ⟨a, by omega, c, by omega⟩, f1⟩
  have hq : Fm qs := ⟨g4 hm1, by omega, fun p hp => by obtain ⟨a, b, c, d⟩ := g2 p hp; exact ⟨a, by omega, c, by omega⟩, g1⟩
  have hp1 := hp.pos
  have hq1 := hq.pos
  refine ⟨ps.take (min ps.length qs.length), qs.take (min ps.length qs.length), fm_take hp (by omega), fm_take hq (by omega), by rw [List.length_take, List.length_take]; omega, by rw [List.length_take]; omega, ?_⟩
  unfold m__law_two
  refine (semOf_ (by rfl) (by rfl)).trans ?_
  have hmin : (if (qs.length : Int) < (ps.length : Int) then (qs.length : Int) else (ps.length : Int)) = ((min ps.length qs.length : Nat) : Int) := by
    split <;> omega
  have hmin2 : (if qs.length < ps.length then (qs.length : Int) else (ps.length : Int)) = ((min ps.length qs.length : Nat) : Int) := by
    split <;> omega
  have s1 := gSl_lo (ps.map ptD) (min ps.length qs.length)
  have s2 := gSl_lo (qs.map ptD) (min ps.length qs.length)
  have e4 : k + 4 * many = k + 2 * many + 2 * many := by omega
  generalize min ps.length qs.length = m at *
  rw [e4]
  unfold fmD
  rw [List.map_take, List.map_take]
  have l1 := lsP_pds ps
  have l2 := lsP_pds qs
  generalize lsP ps = lp at *
  generalize lsP qs = lq at *
  have lX : (ps.map ptD).length = ps.length := by simp
  have lY : (qs.map ptD).length = qs.length := by simp
  generalize ps.map ptD = X at *
  generalize qs.map ptD = Y at *
  simp (disch := omega) [s__law_two, ef, eg, l1, l2, lX, lY, hmin, hmin2, s1, s2, pds_take]
theorem chkF_val {d : PD} {n : Nat} (h : chkF d = some n) : n = 1 ∨ n = 3 := by
  cases d with
  | list ds =>
    rw [chkF_l] at h
    split at h
    · split at h
      · split at h
        · split at h <;> cases h
          exact .inr rfl
        · cases h; exact .inr rfl
      · cases h; exact .inl rfl
    · cases h; exact .inr rfl
  | _ => cases h; exact .inr rfl
theorem chkM_val {d : PD} {n : Nat} (h : chkM d = some n) : n = 1 ∨ n = 3 ∨ n = 4 := by
  unfold chkM at h
  split at h
  · split at h
    · rename_i m hm
      cases h
      rcases chkF_val hm with q | q <;> simp [q]
    · split at h
      · rename_i m hm
        cases h
        rcases chkF_val hm with q | q <;> simp [q]
      · split at h
        · split at h <;> cases h
          simp
        · cases h; simp
  · cases h; simp
theorem chkS_val {d : PD} {n : Nat} (h : chkS d = some n) : n = 1 ∨ n = 3 ∨ n = 5 := by
  unfold chkS at h
  split at h
  · split at h
    · split at h
      · rename_i m hm
        cases h
        obtain ⟨f, _, hf⟩ := List.exists_of_findSome?_eq_some hm
        rcases chkF_val hf with q | q <;> simp [q]
      · split at h
        · split at h
          · split at h
            · split at h <;> cases h
              simp
            · cases h; simp
          · cases h; simp
        · cases h; simp
    · cases h; simp
  · cases h; simp
def refT : Option Nat → Str
  | none => Str.ofString ""
  | some 1 => Str.ofString "point"
  | some 3 => Str.ofString "formation"
  | some 4 => Str.ofString "move"
  | _ => Str.ofString "show"
theorem ref_move (d : PD) : m__law_refused_v3 [.fz (.str (Str.ofString "move")), .fz d] = .ret (.fz (.str (refT (chkM d)))) [.fz (.str (Str.ofString "move")), .fz d] := by
  unfold m__law_refused_v3
  refine (semOf_ (by rfl) (by rfl)).trans ?_
  cases h : chkM d with
  | none =>
    obtain ⟨l, e⟩ := places_ok h
    simp [s__law_refused_v3, gEq_txt, e, refT]
  | some n =>
    have e := places01 d
    rw [h] at e
    rcases chkM_val h with q | q | q <;> subst q <;> simp [s__law_refused_v3, gEq_txt, e, refT, subX]
theorem chkS_none {d : PD} (h : chkS d = none) : ∃ (fs : List PD) (ns : List Int), d = .tuple [.list fs, .list (ns.map .int)] := by
  unfold chkS at h
  split at h
  · split at h
    · split at h
      · cases h
      · split at h
        · split at h
          · split at h
            · split at h
              · rename_i hall
                rename_i fs _ _ _ _ _ cs _
                have : ∀ cs : List PD, (cs.all fun c => isNum c 1 64) = true → ∃ ns : List Int, cs = ns.map .int := by
                  intro cs
                  induction cs with
                  | nil => intro _; exact ⟨[], rfl⟩
                  | cons c cs ih =>
                    intro hh
                    rw [List.all_cons, Bool.and_eq_true] at hh
                    obtain ⟨i, rfl, _⟩ := isNum_cases hh.1
                    obtain ⟨ns, rfl⟩ := ih hh.2
                    exact ⟨i :: ns, rfl⟩
                obtain ⟨ns, e⟩ := this _ hall
                exact ⟨_, ns, by rw [e]⟩
              · cases h
            · cases h
          · cases h
        · cases h
    · cases h
  · cases h
theorem allInt_ints : ∀ ns : List Int, allInt (ns.map .int) = some ns
  | [] => rfl
  | n :: ns => by
    show (allInt (ns.map .int)).map (n :: ·) = _
    rw [allInt_ints ns]; rfl
theorem ref_show (d : PD) : m__law_refused_v3 [.fz (.str (Str.ofString "show")), .fz d] = .ret (.fz (.str (refT (chkS d)))) [.fz (.str (Str.ofString "show")), .fz d] := by
  unfold m__law_refused_v3
  refine (semOf_ (by rfl) (by rfl)).trans ?_
  have hne : ((Str.ofString "show") == (Str.ofString "move")) = false := by decide
  cases h : chkS d with
  | none =>
    obtain ⟨fs, ns, rfl⟩ := chkS_none h
    have hs : gSum [.list (ns.map .int)] = some (.fz (.int ns.sum)) := by
      show (allInt (ns.map .int)).map (fun ns => M.fz (.int ns.sum)) = _
      rw [allInt_ints]; rfl
    have e : m_all_counts [.fz (.tuple [.list fs, .list (ns.map .int)])] = .ret (.fz (.int ns.sum)) [.fz (.tuple [.list fs, .list (ns.map .int)])] := by
      unfold m_all_counts
      refine (semOf_ (by rfl) (by rfl)).trans ?_
      simp [s_all_counts, m_check_show_, h, hs]
    simp [s__law_refused_v3, gEq_txt, hne, e, refT]
  | some n =>
    have e : m_all_counts [.fz d] = .ex n [.fz d] := by
      unfold m_all_counts
      refine (semOf_ (by rfl) (by rfl)).trans ?_
      simp [s_all_counts, m_check_show_, h]
    rcases chkS_val h with q | q | q <;> subst q <;> simp [s__law_refused_v3, gEq_txt, hne, e, refT, subX]
def wrongs : List PD := [.tuple [.int 4001, .int 0], .tuple [.int 0, .int 4001], .tuple [.int (-1), .int 0], .tuple [.int 0], .tuple [.int 0, .int 0, .int 0], .list [.int 0, .int 0], .none, .tuple [.bool true, .int 0], .tuple [.str (Str.ofString "0"), .int 0], .int 0]
theorem m__law_wrong_points_ : m__law_wrong_points [] = .ret (.v (.lst (wrongs.map .fz))) [] := by
  unfold m__law_wrong_points
  refine (semOf_ (by rfl) (by rfl)).trans ?_
  simp [s__law_wrong_points, wrongs]
theorem wrongs_no : ∀ w ∈ wrongs, isPt w = false := by
  intro w hw
  simp only [wrongs, List.mem_cons, List.not_mem_nil, or_false] at hw
  rcases hw with h | h | h | h | h | h | h | h | h | h <;> subst h <;> first | rfl | simp
end MX
namespace MX
open PySem PySem.Spec L2 FS FX
theorem gSl_m1 (ds : List PD) (h : 1 ≤ ds.length) : gSl (.list ds) none (some (-1)) = some (.lst (ds.dropLast.map .fz)) := by
  show some (M.lst ((cutD ds none (some (-1))).map .fz)) = _
  unfold cutD
  have e : HT.sIx ds.length ds.length (some (-1)) = ds.length - 1 := by
    unfold HT.sIx; simp; omega
  rw [e, HT.sIx_none, List.dropLast_eq_take]; rfl
theorem fzs_map : ∀ ds : List PD, fzs (ds.map .fz) = some ds
  | [] => rfl
  | d :: ds => by
    show (fzs (ds.map .fz)).map (d :: ·) = _
    rw [fzs_map ds]; rfl
theorem rep_one (d : PD) : ∀ k : Nat, (List.replicate k [d]).flatten = List.replicate k d
  | 0 => rfl
  | k + 1 => by rw [List.replicate_succ, List.flatten_cons, rep_one d k, List.replicate_succ]; rfl
theorem gMulL_1 (d : PD) (k : Nat) (hk : k ≤ 1000) : gMulL (.v (.lst [.fz d])) (.int (k : Int)) = some (.lst ((List.replicate k d).map .fz)) := by
  have e : fzs [.fz d] = some [d] := rfl
  have hb : 1000 ≤ big := by show 1000 ≤ 16777216; omega
  have c : -(2 ^ 63) ≤ (k : Int) ∧ (k : Int) < 2 ^ 63 ∧ [d].length * (k : Int).toNat ≤ big := by
    refine ⟨by omega, by omega, ?_⟩
    rw [Int.toNat_natCast, List.length_singleton, Nat.one_mul]
    exact Nat.le_trans hk hb
  have u : gMulL (.v (.lst [.fz d])) (.int (k : Int)) = (fzs [.fz d]).bind fun ds => if -(2 ^ 63) ≤ (k : Int) ∧ (k : Int) < 2 ^ 63 ∧ ds.length * (k : Int).toNat ≤ big then some (.lst ((List.replicate (k : Int).toNat ds).flatten.map .fz)) else none := rfl
  rw [u, e, Option.bind_some, if_pos c, Int.toNat_natCast, rep_one]
theorem chkM_ok {a b : PD} {c : PD} (ha : chkF a = none) (hb : chkF b = none) (hl : lenD a = lenD b) (hc : isNum c 1 64 = true) : chkM (.tuple [a, b, c]) = none := by
  rw [chkM_3, ha, hb]; simp only; rw [if_pos hl, if_pos hc]
theorem chkM_count {a b : PD} {c : PD} (ha : chkF a = none) (hb : chkF b = none) (hc : isNum c 1 64 = false) : chkM (.tuple [a, b, c]) = some 4 := by
  rw [chkM_3, ha, hb]; simp only
  split
  · rw [if_neg (by simp [hc])]
  · rfl
theorem chkM_len {a b : PD} {c : PD} (ha : chkF a = none) (hb : chkF b = none) (hl : lenD a ≠ lenD b) : chkM (.tuple [a, b, c]) = some 4 := by
  rw [chkM_3, ha, hb]; simp only; rw [if_neg hl]
theorem chkM_a {a b : PD} {c : PD} {n : Nat} (ha : chkF a = some n) : chkM (.tuple [a, b, c]) = some n := by
  rw [chkM_3, ha]
theorem chkM_b {a b : PD} {c : PD} {n : Nat} (ha : chkF a = none) (hb : chkF b = some n) : chkM (.tuple [a, b, c]) = some n := by
  rw [chkM_3, ha, hb]
theorem gIn_set (ms : List (Int × Int)) (h : ms.length < 64) : gLenSet (.list (ms.map ptD)) = some (.fz (.int (ddL (ms.map ptL)).length)) := by
  unfold gLenSet
  simp only
  rw [if_pos (by simpa using h), tupIs_pts]; rfl
theorem dd_same {ms : List (Int × Int)} (h : ((ddL (ms.map ptL)).length : Int) = ms.length) : ms.Nodup := by
  by_cases hd : (ms.map ptL).Nodup
  · exact (List.pairwise_map.mp hd).imp fun h e => h (by rw [e])
  · have := ddL_lt hd
    rw [List.length_map] at this
    omega
end MX
namespace MX
open PySem PySem.Spec L2 FS FX
theorem refT_n : refT none = Str.ofString "" := rfl
theorem refT_1 : refT (some 1) = Str.ofString "point" := rfl
theorem refT_3 : refT (some 3) = Str.ofString "formation" := rfl
theorem refT_4 : refT (some 4) = Str.ofString "move" := rfl
theorem refT_5 : refT (some 5) = Str.ofString "show" := rfl
theorem gTupOf_l (ds : List PD) : gTupOf [.list ds] = some (.fz (.tuple ds)) := rfl
end MX
namespace MX
open PySem PySem.Spec L2 FS FX
theorem all_equal_of_v1 {f : PD → PD → Sem} {r r' : Sem} {ds : List PD} (hl : ds.length ≤ 16777216) (h : ∀ d ∈ ds, r [.fz d, .fz d] = .ret (.fz (.bool true)) [.fz d, .fz d]) (mk : PD) (hm : mk = .list ds ∨ mk = .tuple ds) :
    semOf 3 2 [] (s__law_all_equal_v1 r r') [.fz mk, .fz mk] = .ret (.fz (.bool true)) [.fz mk, .fz mk] := by
  refine (semOf_ (by rfl) (by rfl)).trans ?_
  unfold s__law_all_equal_v1
  have lp : ∃ s : Option M, sLoop (gN 2) (sIf (tNt (tTru (eCl r (aV (eB2 gIx (eN 0) (eN 2)) (aV (eB2 gIx (eN 1) (eN 2)) aN))))) (sRt (eC (.bool false))) sNl) (rangeD 0 ds.length) [some (.fz mk), some (.fz mk), none] = .nx [some (.fz mk), some (.fz mk), s] := by
    obtain ⟨s, _, h2⟩ := sLoop_inv (Gt := gN 2) (S := sIf (tNt (tTru (eCl r (aV (eB2 gIx (eN 0) (eN 2)) (aV (eB2 gIx (eN 1) (eN 2)) aN))))) (sRt (eC (.bool false))) sNl)
      (fun s : Option M => [some (.fz mk), some (.fz mk), s]) (fun _ _ => True) (rangeD 0 ds.length) none trivial (by
        rintro i d s hi _
        obtain ⟨rfl, hi'⟩ := rangeD0_get hi
        have hd : ds[i]? = some ds[i] := List.getElem?_eq_getElem hi'
        have he := h ds[i] (List.getElem_mem hi')
        refine ⟨some (.fz (.int i)), _, trivial, by simp; rfl, .inl ?_⟩
        rcases hm with rfl | rfl <;> simp [atI_nat, hd, he])
    exact ⟨s, h2⟩
  obtain ⟨s, hs⟩ := lp
  rcases hm with rfl | rfl <;> simp (disch := omega) [hs]
theorem law_equal_v1_ : ∀ (n k : Nat) (d : PD), eqOk k d = true → 2 * k + 1 ≤ n → m__law_equal_v1 n [.fz d, .fz d] = .ret (.fz (.bool true)) [.fz d, .fz d] := by
  intro n
  induction n using Nat.strongRecOn with
  | ind n ih =>
    intro k d hd hn
    match n, hn with
    | 0, hn => omega
    | n + 1, hn =>
      show semOf 2 2 [] (s__law_equal_v1 (m__law_equal_v1 n) (m__law_all_equal_v1 n)) [.fz d, .fz d] = _
      have allq : ∀ (ds : List PD) (mk : PD), (mk = .list ds ∨ mk = .tuple ds) → (decide (ds.length ≤ 16777216) && eqOks (k - 1) ds) = true → 1 ≤ k → m__law_all_equal_v1 n [.fz mk, .fz mk] = .ret (.fz (.bool true)) [.fz mk, .fz mk] := by
        intro ds mk hm hh hk
        obtain ⟨h1, h2⟩ := Bool.and_eq_true_iff.mp hh
        match n, hn with
        | 0, hn => omega
        | n + 1, hn =>
          show semOf 3 2 [] (s__law_all_equal_v1 (m__law_equal_v1 n) (m__law_all_equal_v1 n)) [.fz mk, .fz mk] = _
          refine all_equal_of_v1 (f := fun _ _ => m__law_equal_v1 n) (of_decide_eq_true h1) (fun x hx => ?_) mk hm
          obtain ⟨i, hi⟩ := List.getElem?_of_mem hx
          exact ih n (by omega) (k - 1) x (eqOks_get h2 hi) (by omega)
      refine (semOf_ (by rfl) (by rfl)).trans ?_
      unfold s__law_equal_v1
      cases d with
      | list ds =>
        cases k with
        | zero => cases hd
        | succ k =>
          have := allq ds _ (.inl rfl) (by simpa [eqOk] using hd) (by omega)
          simp [PyData.isList, PyData.isTuple, PyData.isBool, PyData.isInt, PyData.isStr, this]
      | tuple ds =>
        cases k with
        | zero => cases hd
        | succ k =>
          have := allq ds _ (.inr rfl) (by simpa [eqOk] using hd) (by omega)
          simp [PyData.isList, PyData.isTuple, PyData.isBool, PyData.isInt, PyData.isStr, this]
      | dict _ => cases k <;> cases hd
      | none => simp [PyData.isList, PyData.isTuple, PyData.isBool, PyData.isInt, PyData.isStr]
      | bool b => simp [PyData.isList, PyData.isTuple, PyData.isBool, PyData.isInt, PyData.isStr]
      | int b => simp [PyData.isList, PyData.isTuple, PyData.isBool, PyData.isInt, PyData.isStr]
      | str b => simp [PyData.isList, PyData.isTuple, PyData.isBool, PyData.isInt, PyData.isStr]
theorem law_equal_same_v1 {d e : PD} (h : d = e) (hd : eqOk 6 d = true) : m__law_equal_v1 14 [.fz d, .fz e] = .ret (.fz (.bool true)) [.fz d, .fz e] := by
  subst h
  exact law_equal_v1_ 14 6 d hd (by decide)
end MX
namespace MX
open PySem PySem.Spec L2 FS FX
/-! ### the law's unlike points -/
def nxP (w : Int) (p : Int × Int) : Int × Int := if p.1 + 1 < w then (p.1 + 1, p.2) else (0, (p.2 + 1) % w)
def itP (w : Int) : Nat → Int × Int → Int × Int
  | 0, p => p
  | j + 1, p => itP w j (nxP w p)
def inW (w : Int) (p : Int × Int) : Prop := 0 ≤ p.1 ∧ p.1 < w ∧ 0 ≤ p.2 ∧ p.2 < w
def cdP (w : Int) (p : Int × Int) : Int := p.1 + w * p.2
theorem nxP_in {w : Int} {p : Int × Int} (h : inW w p) : inW w (nxP w p) := by
  obtain ⟨a, b, c, d⟩ := h
  have h1 := Int.emod_nonneg (p.2 + 1) (b := w) (by omega)
  have h2 := Int.emod_lt_of_pos (p.2 + 1) (b := w) (by omega)
  unfold nxP
  split
  · exact ⟨by dsimp only; omega, by dsimp only; omega, c, d⟩
  · exact ⟨by dsimp only; omega, by dsimp only; omega, h1, h2⟩
theorem itP_in {w : Int} : ∀ (j : Nat) {p : Int × Int}, inW w p → inW w (itP w j p)
  | 0, _, h => h
  | j + 1, _, h => itP_in j (nxP_in h)
theorem nxP_cd {w : Int} {p : Int × Int} (h : inW w p) : cdP w (nxP w p) % (w * w) = (cdP w p + 1) % (w * w) := by
  obtain ⟨a, b, c, d⟩ := h
  unfold nxP cdP
  split
  · dsimp only; congr 1; omega
  · have e : p.1 = w - 1 := by omega
    dsimp only
    rw [e]
    have e1 : w - 1 + w * p.2 + 1 = w * (p.2 + 1) := by rw [Int.mul_add]; omega
    rw [e1, Int.zero_add, Int.mul_emod_mul_of_pos _ _ (by omega), Int.mul_emod_mul_of_pos _ _ (by omega), Int.emod_emod]
theorem itP_cd {w : Int} : ∀ (j : Nat) {p : Int × Int}, inW w p → cdP w (itP w j p) % (w * w) = (cdP w p + j) % (w * w)
  | 0, p, _ => by show cdP w p % (w * w) = _; rw [show cdP w p + ((0 : Nat) : Int) = cdP w p by omega]
  | j + 1, p, h => by
    show cdP w (itP w j (nxP w p)) % (w * w) = _
    rw [itP_cd j (nxP_in h), Int.add_emod, nxP_cd h, ← Int.add_emod]
    congr 1; omega
theorem itP_ne {w : Int} {p : Int × Int} (h : inW w p) {i j : Nat} (hij : i < j) (hj : (j : Int) < w * w) : itP w i p ≠ itP w j p := by
  intro e
  have e1 := itP_cd i h
  rw [e, itP_cd j h] at e1
  have e2 := Int.emod_eq_emod_iff_emod_sub_eq_zero.mp e1
  rw [show cdP w p + (j : Int) - (cdP w p + i) = (j : Int) - i by omega, Int.emod_eq_of_lt (by omega) (by omega)] at e2
  omega
theorem itP_free {w : Int} {p : Int × Int} (h : inW w p) {ps : List (Int × Int)} (hl : (ps.length : Int) < w * w) : ∃ j, j ≤ ps.length ∧ itP w j p ∉ ps := by
  apply Classical.byContradiction
  intro hn
  have hall : ∀ j, j ≤ ps.length → itP w j p ∈ ps := fun j hj => Classical.byContradiction fun q => hn ⟨j, hj, q⟩
  have hnd : ((List.range (ps.length + 1)).map fun j => itP w j p).Nodup := by
    unfold List.Nodup
    rw [List.pairwise_map]
    refine List.Pairwise.imp_of_mem ?_ (List.pairwise_lt_range (n := ps.length + 1))
    intro a b ha hb hab
    have := List.mem_range.mp hb
    exact itP_ne h hab (by omega)
  have := nodup_sub hnd (m := ps) (fun x hx => by
    obtain ⟨j, hj, rfl⟩ := List.mem_map.mp hx
    exact hall j (by have := List.mem_range.mp hj; omega))
  rw [List.length_map, List.length_range] at this
  omega
def ptA : BF := tPk (tE (eB2 gInL (eDs FS.gTup (aV (eN 4) (aV (eN 5) aN))) (eN 3)))
def ptB : SF := sAg (gUp [4, 5]) (eIf (tE (eB2 gLt (eB2 gAdd (eN 4) (eC (.int 1))) (eN 2))) (eDs FS.gTup (aV (eB2 gAdd (eN 4) (eC (.int 1))) (aV (eN 5) aN))) (eDs FS.gTup (aV (eC (.int 0)) (aV (eB2 gMod (eB2 gAdd (eN 5) (eC (.int 1))) (eN 2)) aN))))
def ptE (d m : M) (w : Int) (ps : List (Int × Int)) (p : Int × Int) : Env' := [some d, some m, some (.fz (.int w)), some (.v (.lst (lsP ps))), some (.fz (.int p.1)), some (.fz (.int p.2))]
theorem pt_loop (d m : M) (w : Int) (hw : 1 ≤ w) (ps : List (Int × Int)) : ∀ (j : Nat) (p : Int × Int), inW w p → itP w j p ∉ ps → ∃ n q, inW w q ∧ q ∉ ps ∧ whileN ptA ptB n (ptE d m w ps p) = some (.nx (ptE d m w ps q)) := by
  intro j
  induction j with
  | zero =>
    intro p hp hq
    have hq : ¬ p ∈ ps := hq
    have hn := gIn_pts p ps
    rw [show decide (p ∈ ps) = false by simpa using hq] at hn
    have hpt : PyData.tuple [.int p.1, .int p.2] = ptD p := rfl
    exact ⟨1, p, hp, hq, while_end (by unfold ptA ptE; simp [hpt, lsP_pds, hn])⟩
  | succ j ih =>
    intro p hp hq
    have hn := gIn_pts p ps
    have hpt : PyData.tuple [.int p.1, .int p.2] = ptD p := rfl
    by_cases hin : p ∈ ps
    · obtain ⟨n, q, q1, q2, q3⟩ := ih (nxP w p) (nxP_in hp) hq
      rw [show decide (p ∈ ps) = true by simpa using hin] at hn
      refine ⟨n + 1, q, q1, q2, while_go (δ1 := ptE d m w ps p) (by unfold ptA ptE; simp [hpt, lsP_pds, hn]) (δ2 := ptE d m w ps (nxP w p)) (.inl ?_) q3⟩
      unfold ptB ptE nxP
      by_cases hlt : p.1 + 1 < w
      · simp (disch := omega) [hlt]
      · simp (disch := omega) [hlt]
    · rw [show decide (p ∈ ps) = false by simpa using hin] at hn
      exact ⟨1, p, hp, hin, while_end (by unfold ptA ptE; simp [hpt, lsP_pds, hn])⟩
noncomputable def poB : SF := (sSq (sAg (gUp [4, 5]) (eCl m__law_point_v1 (aIo 0 (aV (eN 2) aN))))
  (sSq (sWh ptA ptB)
  (sApp 3 (eDs FS.gTup (aV (eN 4) (aV (eN 5) aN))))))
def poA : BF := tPk (tE (eB2 gLt (eDs gLen (aV (eN 3) aN)) (eN 1)))
def poE (xs : List Int) (k many : Nat) (w : Int) (ps : List (Int × Int)) (u v : Option M) : Env' := [some (DR xs k), some (.fz (.int many)), some (.fz (.int w)), some (.v (.lst (lsP ps))), u, v]
theorem m__law_point_v1_ {xs : List Int} (hN : Nums xs) (k : Nat) (hk : k ≤ 1000000000) (w : Int) (hw : 1 ≤ w) : m__law_point_v1 [DR xs k, .fz (.int w)] = .ret (.fz (.tuple [.int (drawV xs k % w), .int (drawV xs (k + 1) % w)])) [DR xs (k + 2), .fz (.int w)] := by
  unfold m__law_point_v1
  refine (semOf_ (by rfl) (by rfl)).trans ?_
  have d1 := m__law_draw_ hN k (by omega)
  have d2 := m__law_draw_ hN (k + 1) (by omega)
  simp (disch := omega) [s__law_point_v1, d1, d2]
theorem po_loop {xs : List Int} (hN : Nums xs) (w : Int) (hw : 1 ≤ w) (many : Nat) (hm : (many : Int) ≤ w * w) (hm2 : many ≤ 1000) : ∀ (r : Nat) (k : Nat) (ps : List (Int × Int)) (u v : Option M), k + 2 * r ≤ 100000000 → ps.length + r = many → ps.Nodup → (∀ p ∈ ps, inW w p) →
    ∃ n qs u' v', qs.Nodup ∧ (∀ p ∈ qs, inW w p) ∧ qs.length = many ∧ whileN poA poB n (poE xs k many w ps u v) = some (.nx (poE xs (k + 2 * r) many w qs u' v')) := by
  intro r
  induction r with
  | zero =>
    intro k ps u v hk hl hnd hin
    have hl : ps.length = many := by omega
    exact ⟨1, ps, u, v, hnd, hin, hl, while_end (by unfold poA poE; simp [lsP_pds, hl])⟩
  | succ r ih =>
    intro k ps u v hk hl hnd hin
    have hp : inW w (drawV xs k % w, drawV xs (k + 1) % w) := ⟨Int.emod_nonneg _ (by omega), Int.emod_lt_of_pos _ (by omega), Int.emod_nonneg _ (by omega), Int.emod_lt_of_pos _ (by omega)⟩
    obtain ⟨j, _, hj⟩ := itP_free hp (ps := ps) (by omega)
    obtain ⟨n1, q, q1, q2, q3⟩ := pt_loop (DR xs (k + 2)) (.fz (.int many)) w hw ps j _ hp hj
    obtain ⟨n, qs, u', v', h1, h2, h3, h4⟩ := ih (k + 2) (ps ++ [q]) (some (.fz (.int q.1))) (some (.fz (.int q.2))) (by omega) (by simp; omega)
      (by rw [List.nodup_append]; exact ⟨hnd, by simp, fun a ha b hb e => q2 (by rw [List.mem_singleton.mp hb] at e; rw [← e]; exact ha)⟩)
      (fun p hp => by
        rcases List.mem_append.mp hp with h | h
        · exact hin p h
        · rw [List.mem_singleton.mp h]; exact q1)
    have ep := m__law_point_v1_ hN k (by omega) w hw
    have hlt : ps.length < many := by omega
    have hsw := sWh_eq q3
    refine ⟨n + 1, qs, u', v', h1, h2, h3, while_go (δ1 := poE xs k many w ps u v) (δ2 := poE xs (k + 2) many w (ps ++ [q]) (some (.fz (.int q.1))) (some (.fz (.int q.2)))) (by unfold poA poE; simp [lsP_pds, hlt]) (.inl ?_) ?_⟩
    · unfold poB
      have hb : ps.length < big := by show _ < 16777216; omega
      have st1 : sAg (gUp [4, 5]) (eCl m__law_point_v1 (aIo 0 (aV (eN 2) aN))) (poE xs k many w ps u v) = .nx (ptE (DR xs (k + 2)) (.fz (.int many)) w ps (drawV xs k % w, drawV xs (k + 1) % w)) := by
        unfold poE ptE
        simp [ep]
      rw [sSq_, st1, sqR_nx, sSq_, hsw, sqR_nx]
      unfold ptE poE
      have hpt : PyData.tuple [.int q.1, .int q.2] = ptD q := rfl
      simp (disch := omega) [hpt, lsP_len, hb]
      simp [lsP]
    · rw [show k + 2 * (r + 1) = k + 2 + 2 * r by omega]; exact h4
theorem m__law_points_ {xs : List Int} (hN : Nums xs) (k : Nat) (hk : k ≤ 10000000) (many : Nat) (w : Int) (hw : 1 ≤ w) (hm : (many : Int) ≤ w * w) (hm2 : many ≤ 1000) : ∃ ps : List (Int × Int), ps.Nodup ∧ (∀ p ∈ ps, inW w p) ∧ ps.length = many ∧
    m__law_points [DR xs k, .fz (.int many), .fz (.int w)] = .ret (.v (.lst (lsP ps))) [DR xs (k + 2 * many), .fz (.int many), .fz (.int w)] := by
  obtain ⟨n, qs, u', v', h1, h2, h3, h4⟩ := po_loop hN w hw many hm hm2 many k [] none none (by omega) (by simp) List.nodup_nil (fun _ h => nomatch h)
  refine ⟨qs, h1, h2, h3, ?_⟩
  unfold m__law_points
  refine (semOf_ (by rfl) (by rfl)).trans ?_
  have hsw := sWh_eq h4
  have e0 : lsP [] = [] := rfl
  unfold poA poB ptA ptB poE at hsw
  rw [e0] at hsw
  unfold s__law_points
  simp [hsw]
end MX
namespace MX
open PySem PySem.Spec L2 FS FX
/-! ### loops that leave early -/
section
variable {Gt : PD → Env' → Option Env'} {S : SF}
/-- an invariant up to the place that leaves -/
theorem sLoop_to {σ : Type} (env : σ → Env') (P : Nat → σ → Prop) : ∀ (as : List PD) (k : Nat) (s : σ) (d : PD) (bs : List PD), (∀ i d s, as[i]? = some d → P (k + i) s → ∃ s' δ1, P (k + i + 1) s' ∧ Gt d (env s) = some δ1 ∧ (S δ1 = .nx (env s') ∨ S δ1 = .ct (env s'))) → P k s →
    ∃ s', P (k + as.length) s' ∧ sLoop Gt S (as ++ d :: bs) (env s) = sLoop Gt S (d :: bs) (env s')
  | [], k, s, _, _, _, h => ⟨s, h, rfl⟩
  | a :: as, k, s, d, bs, hs, h => by
    obtain ⟨s1, δ1, h1, h2, h3⟩ := hs 0 a s rfl h
    obtain ⟨s2, h4, h5⟩ := sLoop_to env P as (k + 1) s1 d bs (fun i d' s' e q => by
      have := hs (i + 1) d' s' (by simpa using e) (by rwa [show k + (i + 1) = k + 1 + i by omega])
      rwa [show k + (i + 1) + 1 = k + 1 + i + 1 by omega] at this) h1
    refine ⟨s2, by rwa [show k + (a :: as).length = k + 1 + as.length by simp; omega], ?_⟩
    rw [List.cons_append, ← h5]
    rw [sLoop.eq_def]
    dsimp only
    rw [h2]
    rcases h3 with h3 | h3 <;> (dsimp only; rw [h3])
theorem sLoop_rt {σ : Type} (env : σ → Env') (P : Nat → σ → Prop) (ds : List PD) (j : Nat) (d : PD) (hd : ds[j]? = some d) (s : σ) (h : P 0 s) (v : M) (Qd : Env' → Prop)
    (hs : ∀ i d s, i < j → ds[i]? = some d → P i s → ∃ s' δ1, P (i + 1) s' ∧ Gt d (env s) = some δ1 ∧ (S δ1 = .nx (env s') ∨ S δ1 = .ct (env s')))
    (he : ∀ s, P j s → ∃ δ1 δ2, Qd δ2 ∧ Gt d (env s) = some δ1 ∧ S δ1 = .rt v δ2) : ∃ δ2, Qd δ2 ∧ sLoop Gt S ds (env s) = .rt v δ2 := by
  have hj : j < ds.length := (List.getElem?_eq_some_iff.mp hd).1
  have e : ds = ds.take j ++ d :: ds.drop (j + 1) := by
    have : ds.drop j = d :: ds.drop (j + 1) := by
      rw [List.drop_eq_getElem_cons hj]
      congr 1
      exact (List.getElem?_eq_some_iff.mp hd).2
    rw [← this, List.take_append_drop]
  obtain ⟨s', h1, h2⟩ := sLoop_to (Gt := Gt) (S := S) env P (ds.take j) 0 s d (ds.drop (j + 1)) (fun i x s hx hp => by
    rw [Nat.zero_add] at hp ⊢
    have hi : i < j := by have := (List.getElem?_eq_some_iff.mp hx).1; rw [List.length_take] at this; omega
    rw [List.getElem?_take_of_lt hi] at hx
    exact hs i x s hi hx hp) h
  rw [Nat.zero_add, List.length_take, Nat.min_eq_left (by omega)] at h1
  obtain ⟨δ1, δ2, q0, q1, q2⟩ := he s' h1
  refine ⟨δ2, q0, ?_⟩
  rw [e, h2]
  unfold sLoop
  rw [q1]; dsimp only; rw [q2]
end
theorem alike_int (x y : Int) : PySem.W.alike (.int x) (.int y) = true := rfl
theorem alikeB_ints (xs : List Int) : alikeB (xs.map .int) = true := by
  unfold alikeB
  rw [List.all_eq_true]
  intro d hd
  obtain ⟨x, _, rfl⟩ := List.mem_map.mp hd
  rw [Bool.and_eq_true]
  refine ⟨?_, rfl⟩
  rw [List.all_eq_true]
  intro e he
  obtain ⟨y, _, rfl⟩ := List.mem_map.mp he
  exact alike_int x y
def maxZ : List Int → Int
  | [] => 0
  | n :: r => r.foldl max n
theorem foldl_max : ∀ (r : List Int) (n B : Int), r.foldl max n ≤ B ↔ n ≤ B ∧ ∀ w ∈ r, w ≤ B
  | [], n, B => by simp
  | x :: r, n, B => by
    rw [List.foldl_cons, foldl_max r (max n x) B]
    constructor
    · rintro ⟨h1, h2⟩
      exact ⟨by omega, fun w hw => by rcases List.mem_cons.mp hw with rfl | h; omega; exact h2 w h⟩
    · rintro ⟨h1, h2⟩
      have := h2 x List.mem_cons_self
      exact ⟨by omega, fun w hw => h2 w (List.mem_cons_of_mem _ hw)⟩
theorem maxZ_le {ws : List Int} (h : ws ≠ []) (B : Int) : maxZ ws ≤ B ↔ ∀ w ∈ ws, w ≤ B := by
  cases ws with
  | nil => exact absurd rfl h
  | cons n r => unfold maxZ; rw [foldl_max]; simp
theorem gMax_ints {ws : List Int} (h : ws ≠ []) : gMax [.list (ws.map .int)] = some (.fz (.int (maxZ ws))) := by
  cases ws with
  | nil => exact absurd rfl h
  | cons n r =>
    show (if (alikeB ((n :: r).map .int) && okNs 12 ((n :: r).map .int)) = true then some (M.fz (PySem.W.maxD (.int n) (r.map .int))) else none) = _
    rw [alikeB_ints, okNs_ints, PySem.W.maxD_ints]; rfl
end MX
namespace MX
open PySem PySem.Spec L2 FS FX
/-! ### the law's formation of unlike points -/
theorem sqb {x n : Int} (h0 : 0 ≤ x) (h : x ≤ n) : 0 ≤ x * x ∧ x * x ≤ n * n := ⟨Int.mul_nonneg h0 h0, Int.mul_le_mul h h h0 (by omega)⟩
theorem m__law_point_ {xs : List Int} (hN : Nums xs) (k : Nat) (hk : k ≤ 1000000000) (w : Int) (hw : 0 ≤ w) : m__law_point [DR xs k, .fz (.int w)] = .ret (.fz (ptD (drawV xs k % (w + 1), drawV xs (k + 1) % (w + 1)))) [DR xs (k + 2), .fz (.int w)] := by
  unfold m__law_point
  refine (semOf_ (by rfl) (by rfl)).trans ?_
  have d1 := m__law_draw_ hN k (by omega)
  have d2 := m__law_draw_ hN (k + 1) (by omega)
  simp (disch := omega) [s__law_point, d1, d2, ptD]
def fbP (w : Int) (t : Nat) : Int × Int := ((t : Int) % w, (t : Int) / w % w)
theorem fbP_in {w : Int} (hw : 1 ≤ w) (t : Nat) : inW w (fbP w t) :=
  ⟨Int.emod_nonneg _ (by omega), Int.emod_lt_of_pos _ (by omega), Int.emod_nonneg _ (by omega), Int.emod_lt_of_pos _ (by omega)⟩
theorem fbP_cd {w : Int} (hw : 1 ≤ w) (t : Nat) : cdP w (fbP w t) % (w * w) = (t : Int) % (w * w) := by
  unfold cdP fbP
  dsimp only
  have h1 := Int.mul_ediv_add_emod (t : Int) w
  have h2 := Int.mul_ediv_add_emod ((t : Int) / w) w
  have e : (t : Int) = ((t : Int) % w + w * ((t : Int) / w % w)) + w * w * ((t : Int) / w / w) := by
    generalize (t : Int) / w / w = c at *
    generalize (t : Int) / w % w = b at *
    generalize (t : Int) / w = a at *
    generalize (t : Int) % w = d at *
    rw [Int.mul_assoc, ← h1, ← h2, Int.mul_add]; omega
  have e3 : (t : Int) % (w * w) = (((t : Int) % w + w * ((t : Int) / w % w)) + w * w * ((t : Int) / w / w)) % (w * w) := congrArg (· % (w * w)) e
  rw [e3, Int.add_mul_emod_self_left]
theorem fbP_ne {w : Int} (hw : 1 ≤ w) {i j : Nat} (hij : i < j) (hj : ((j - i : Nat) : Int) < w * w) : fbP w i ≠ fbP w j := by
  intro e
  have e1 := fbP_cd hw i
  rw [e, fbP_cd hw j] at e1
  have e2 := Int.emod_eq_emod_iff_emod_sub_eq_zero.mp e1
  rw [Int.emod_eq_of_lt (by omega) (by omega)] at e2
  omega
theorem fbP_free {w : Int} (hw : 1 ≤ w) (t : Nat) {ps : List (Int × Int)} (hl : (ps.length : Int) < w * w) : ∃ j, j ≤ ps.length ∧ fbP w (t + j) ∉ ps := by
  apply Classical.byContradiction
  intro hn
  have hall : ∀ j, j ≤ ps.length → fbP w (t + j) ∈ ps := fun j hj => Classical.byContradiction fun q => hn ⟨j, hj, q⟩
  have hnd : ((List.range (ps.length + 1)).map fun j => fbP w (t + j)).Nodup := by
    unfold List.Nodup
    rw [List.pairwise_map]
    refine List.Pairwise.imp_of_mem ?_ (List.pairwise_lt_range (n := ps.length + 1))
    intro a b ha hb hab
    have := List.mem_range.mp hb
    exact fbP_ne hw (by omega) (by omega)
  have := nodup_sub hnd (m := ps) (fun x hx => by
    obtain ⟨j, hj, rfl⟩ := List.mem_map.mp hx
    exact hall j (by have := List.mem_range.mp hj; omega))
  rw [List.length_map, List.length_range] at this
  omega
noncomputable def lfB : SF := (sSq (sAs 5 (eCl m__law_point (aIo 0 (aV (eN 2) aN))))
  (sSq (sAs 4 (eB2 gAdd (eN 4) (eC (.int 1))))
  (sSq (sIf (tE (eB2 gGt (eN 4) (eC (.int 40))))
    (sAs 5 (ePk (eDs FS.gTup (aV (eB2 gMod (eB2 gMul (eDs gLen (aV (eN 3) aN)) (eC (.int 7))) (eB2 gAdd (eN 2) (eC (.int 1)))) (aV (eB2 gMod (eB2 gDiv (eB2 gMul (eDs gLen (aV (eN 3) aN)) (eC (.int 7))) (eB2 gAdd (eN 2) (eC (.int 1)))) (eB2 gAdd (eN 2) (eC (.int 1)))) aN)))))
    sNl)
  (sSq (sIf (tE (eB2 gGt (eN 4) (eC (.int 80))))
    (sAs 5 (ePk (eDs FS.gTup (aV (eB2 gDiv (eDs gLen (aV (eN 3) aN)) (eB2 gAdd (eN 2) (eC (.int 1)))) (aV (eB2 gMod (eDs gLen (aV (eN 3) aN)) (eB2 gAdd (eN 2) (eC (.int 1)))) aN)))))
    sNl)
  (sSq (sIf (tE (eB2 gGt (eN 4) (eC (.int 120))))
    (sAs 5 (eDs FS.gTup (aV (eB2 gMod (eN 4) (eB2 gAdd (eN 2) (eC (.int 1)))) (aV (eB2 gMod (eB2 gDiv (eN 4) (eB2 gAdd (eN 2) (eC (.int 1)))) (eB2 gAdd (eN 2) (eC (.int 1)))) aN))))
    sNl)
  (sIf (tPk (tE (eB2 gNinL (eN 5) (eN 3))))
    (sApp 3 (eN 5))
    sNl))))))
def lfA' : BF := (tPk (tE (eB2 gLt (eDs gLen (aV (eN 3) aN)) (eN 1))))
def lfE (xs : List Int) (k many : Nat) (w : Int) (ps : List (Int × Int)) (t : Nat) (v : Option M) : Env' := [some (DR xs k), some (.fz (.int many)), some (.fz (.int w)), some (.v (.lst (lsP ps))), some (.fz (.int t)), v]
theorem lf_body {xs : List Int} (hN : Nums xs) (k many : Nat) (w : Int) (ps : List (Int × Int)) (t : Nat) (v : Option M) (hk : k ≤ 1000000000) (hw : 0 ≤ w) (hw2 : w ≤ 1000000000) (hl : (ps.length : Int) < (w + 1) * (w + 1)) (hl2 : ps.length ≤ 1000) :
    ∃ p, inW (w + 1) p ∧ (120 ≤ t → p = fbP (w + 1) (t + 1)) ∧ lfB (lfE xs k many w ps t v) = .nx (lfE xs (k + 2) many w (if p ∈ ps then ps else ps ++ [p]) (t + 1) (some (.fz (ptD p)))) := by
  have d1 := m__law_point_ hN k (by omega) w hw
  have hb : ps.length < big := by show _ < 16777216; omega
  have fin : ∀ p : Int × Int, (sIf (tPk (tE (eB2 gNinL (eN 5) (eN 3)))) (sApp 3 (eN 5)) sNl) (lfE xs (k + 2) many w ps (t + 1) (some (.fz (ptD p)))) = .nx (lfE xs (k + 2) many w (if p ∈ ps then ps else ps ++ [p]) (t + 1) (some (.fz (ptD p)))) := by
    intro p
    have hn := gNin_pts p ps
    unfold lfE
    by_cases h : p ∈ ps
    · rw [show decide (p ∈ ps) = true by simpa using h] at hn
      simp [lsP_pds, hn, h]
    · rw [show decide (p ∈ ps) = false by simpa using h] at hn
      simp [lsP_pds, hn, h, lsP_len, hb]
      simp [lsP]
  have two : (sSq (sAs 5 (eCl m__law_point (aIo 0 (aV (eN 2) aN)))) (sAs 4 (eB2 gAdd (eN 4) (eC (.int 1))))) (lfE xs k many w ps t v) = .nx (lfE xs (k + 2) many w ps (t + 1) (some (.fz (ptD (drawV xs k % (w + 1), drawV xs (k + 1) % (w + 1)))))) := by
    unfold lfE
    simp [d1]
  have o1 : inW (w + 1) (drawV xs k % (w + 1), drawV xs (k + 1) % (w + 1)) := ⟨Int.emod_nonneg _ (by omega), Int.emod_lt_of_pos _ (by omega), Int.emod_nonneg _ (by omega), Int.emod_lt_of_pos _ (by omega)⟩
  generalize (drawV xs k % (w + 1), drawV xs (k + 1) % (w + 1)) = p0 at *
  have o2 : inW (w + 1) ((ps.length : Int) * 7 % (w + 1), (ps.length : Int) * 7 / (w + 1) % (w + 1)) := ⟨Int.emod_nonneg _ (by omega), Int.emod_lt_of_pos _ (by omega), Int.emod_nonneg _ (by omega), Int.emod_lt_of_pos _ (by omega)⟩
  have o3 : inW (w + 1) ((ps.length : Int) / (w + 1), (ps.length : Int) % (w + 1)) := ⟨Int.ediv_nonneg (by omega) (by omega), Int.ediv_lt_of_lt_mul (by omega) hl, Int.emod_nonneg _ (by omega), Int.emod_lt_of_pos _ (by omega)⟩
  have s1 : ∀ p : Int × Int, (sIf (tE (eB2 gGt (eN 4) (eC (.int 40))))
    (sAs 5 (ePk (eDs FS.gTup (aV (eB2 gMod (eB2 gMul (eDs gLen (aV (eN 3) aN)) (eC (.int 7))) (eB2 gAdd (eN 2) (eC (.int 1)))) (aV (eB2 gMod (eB2 gDiv (eB2 gMul (eDs gLen (aV (eN 3) aN)) (eC (.int 7))) (eB2 gAdd (eN 2) (eC (.int 1)))) (eB2 gAdd (eN 2) (eC (.int 1)))) aN)))))
    sNl) (lfE xs (k + 2) many w ps (t + 1) (some (.fz (ptD p)))) = .nx (lfE xs (k + 2) many w ps (t + 1) (some (.fz (ptD (if 40 < t + 1 then ((ps.length : Int) * 7 % (w + 1), (ps.length : Int) * 7 / (w + 1) % (w + 1)) else p))))) := by
    intro p
    unfold lfE
    by_cases h : 40 < t + 1
    · have h' : (40 : Int) < ((t + 1 : Nat) : Int) := by omega
      have hz : ¬ (w + 1 = 0) := by omega
      generalize hT : ((t + 1 : Nat) : Int) = T at *
      simp (disch := omega) [h, h', lsP_pds, hz, ptD]
    · have h' : ¬ (40 : Int) < ((t + 1 : Nat) : Int) := by omega
      generalize hT : ((t + 1 : Nat) : Int) = T at *
      simp (disch := omega) [h, h', lsP_pds]
  have s2 : ∀ p : Int × Int, (sIf (tE (eB2 gGt (eN 4) (eC (.int 80))))
    (sAs 5 (ePk (eDs FS.gTup (aV (eB2 gDiv (eDs gLen (aV (eN 3) aN)) (eB2 gAdd (eN 2) (eC (.int 1)))) (aV (eB2 gMod (eDs gLen (aV (eN 3) aN)) (eB2 gAdd (eN 2) (eC (.int 1)))) aN)))))
    sNl) (lfE xs (k + 2) many w ps (t + 1) (some (.fz (ptD p)))) = .nx (lfE xs (k + 2) many w ps (t + 1) (some (.fz (ptD (if 80 < t + 1 then ((ps.length : Int) / (w + 1), (ps.length : Int) % (w + 1)) else p))))) := by
    intro p
    unfold lfE
    by_cases h : 80 < t + 1
    · have h' : (80 : Int) < ((t + 1 : Nat) : Int) := by omega
      have hz : ¬ (w + 1 = 0) := by omega
      generalize hT : ((t + 1 : Nat) : Int) = T at *
      simp (disch := omega) [h, h', lsP_pds, hz, ptD]
    · have h' : ¬ (80 : Int) < ((t + 1 : Nat) : Int) := by omega
      generalize hT : ((t + 1 : Nat) : Int) = T at *
      simp (disch := omega) [h, h', lsP_pds]
  have s3 : ∀ p : Int × Int, (sIf (tE (eB2 gGt (eN 4) (eC (.int 120))))
    (sAs 5 (eDs FS.gTup (aV (eB2 gMod (eN 4) (eB2 gAdd (eN 2) (eC (.int 1)))) (aV (eB2 gMod (eB2 gDiv (eN 4) (eB2 gAdd (eN 2) (eC (.int 1)))) (eB2 gAdd (eN 2) (eC (.int 1)))) aN))))
    sNl) (lfE xs (k + 2) many w ps (t + 1) (some (.fz (ptD p)))) = .nx (lfE xs (k + 2) many w ps (t + 1) (some (.fz (ptD (if 120 < t + 1 then fbP (w + 1) (t + 1) else p))))) := by
    intro p
    unfold lfE fbP
    by_cases h : 120 < t + 1
    · have h' : (120 : Int) < ((t + 1 : Nat) : Int) := by omega
      have hz : ¬ (w + 1 = 0) := by omega
      generalize hT : ((t + 1 : Nat) : Int) = T at *
      simp (disch := omega) [h, h', hz, ptD]
    · have h' : ¬ (120 : Int) < ((t + 1 : Nat) : Int) := by omega
      generalize hT : ((t + 1 : Nat) : Int) = T at *
      simp (disch := omega) [h, h']
  have all : ∀ p1 p2 p3, p1 = (if 40 < t + 1 then ((ps.length : Int) * 7 % (w + 1), (ps.length : Int) * 7 / (w + 1) % (w + 1)) else p0) → p2 = (if 80 < t + 1 then ((ps.length : Int) / (w + 1), (ps.length : Int) % (w + 1)) else p1) → p3 = (if 120 < t + 1 then fbP (w + 1) (t + 1) else p2) → lfB (lfE xs k many w ps t v) = .nx (lfE xs (k + 2) many w (if p3 ∈ ps then ps else ps ++ [p3]) (t + 1) (some (.fz (ptD p3)))) := by
    intro p1 p2 p3 h1 h2 h3
    have a1 := s1 p0
    rw [← h1] at a1
    have a2 := s2 p1
    rw [← h2] at a2
    have a3 := s3 p2
    rw [← h3] at a3
    have a4 := fin p3
    unfold lfB
    rw [sSq_] at two ⊢
    cases e0 : sAs 5 (eCl m__law_point (aIo 0 (aV (eN 2) aN))) (lfE xs k many w ps t v) with
    | nx δ =>
      rw [e0, sqR_nx] at two
      rw [sqR_nx, sSq_, two, sqR_nx, sSq_, a1, sqR_nx, sSq_, a2, sqR_nx, sSq_, a3, sqR_nx, a4]
    | _ => rw [e0] at two; simp [sqR] at two
  refine ⟨_, ?_, ?_, all _ _ _ rfl rfl rfl⟩
  · split
    · exact fbP_in (by omega) _
    · split
      · exact o3
      · split
        · exact o2
        · exact o1
  · intro ht
    rw [if_pos (by omega)]
def LfR (xs : List Int) (k many : Nat) (w : Int) (ps : List (Int × Int)) (t : Nat) (v : Option M) (K : Nat) : Prop :=
  ∃ n qs k' t' v', qs.Nodup ∧ (∀ p ∈ qs, inW (w + 1) p) ∧ qs.length = many ∧ k' ≤ K ∧ whileN lfA' lfB n (lfE xs k many w ps t v) = some (.nx (lfE xs k' many w qs t' v'))
theorem lf_step {xs : List Int} {k many : Nat} {w : Int} {ps qs : List (Int × Int)} {t t' : Nat} {v v' : Option M} {K k' : Nat} (hlt : ps.length < many) (hb : lfB (lfE xs k many w ps t v) = .nx (lfE xs k' many w qs t' v')) (h : LfR xs k' many w qs t' v' K) : LfR xs k many w ps t v K := by
  obtain ⟨n, qs', k2, t2, v2, h1, h2, h3, h4, h5⟩ := h
  exact ⟨n + 1, qs', k2, t2, v2, h1, h2, h3, h4, while_go (δ1 := lfE xs k many w ps t v) (by unfold lfA' lfE; simp [lsP_pds, hlt]) (.inl hb) h5⟩
theorem lf_late {xs : List Int} (hN : Nums xs) (w : Int) (hw : 0 ≤ w) (hw2 : w ≤ 1000000000) (many : Nat) (hm : (many : Int) ≤ (w + 1) * (w + 1)) (hm2 : many ≤ 1000) : ∀ (r k : Nat) (ps : List (Int × Int)) (t : Nat) (v : Option M), 120 ≤ t → ps.length + r = many → k + 2002 * r ≤ 100000000 → ps.Nodup → (∀ p ∈ ps, inW (w + 1) p) → LfR xs k many w ps t v (k + 2002 * r) := by
  intro r
  induction r with
  | zero =>
    intro k ps t v ht hl hk hnd hin
    have hl : ps.length = many := by omega
    exact ⟨1, ps, k, t, v, hnd, hin, hl, by omega, while_end (by unfold lfA' lfE; simp [lsP_pds, hl])⟩
  | succ r ih =>
    intro k ps t v ht hl hk hnd hin
    have hlt : ps.length < many := by omega
    have inner : ∀ (j k t : Nat) (v : Option M) (K : Nat), 120 ≤ t → fbP (w + 1) (t + 1 + j) ∉ ps → k + 2 * (j + 1) + 2002 * r ≤ 100000000 → k + 2 * (j + 1) + 2002 * r ≤ K → LfR xs k many w ps t v K := by
      intro j
      induction j with
      | zero =>
        intro k t v K ht hj hk hK
        obtain ⟨p, p1, p2, p3⟩ := lf_body hN k many w ps t v (by omega) hw hw2 (by omega) (by omega)
        have ep := p2 ht
        have hnp : p ∉ ps := by rw [ep]; exact hj
        rw [if_neg hnp] at p3
        have := ih (k + 2) (ps ++ [p]) (t + 1) (some (.fz (ptD p))) (by omega) (by simp; omega) (by omega)
          (by rw [List.nodup_append]; exact ⟨hnd, by simp, fun a ha b hb e => hnp (by rw [List.mem_singleton.mp hb] at e; rw [← e]; exact ha)⟩)
          (fun q hq => by
            rcases List.mem_append.mp hq with h | h
            · exact hin q h
            · rw [List.mem_singleton.mp h]; exact p1)
        obtain ⟨n, qs', k2, t2, v2, h1, h2, h3, h4, h5⟩ := this
        exact lf_step hlt p3 ⟨n, qs', k2, t2, v2, h1, h2, h3, by omega, h5⟩
      | succ j ihj =>
        intro k t v K ht hj hk hK
        obtain ⟨p, p1, p2, p3⟩ := lf_body hN k many w ps t v (by omega) hw hw2 (by omega) (by omega)
        by_cases hnp : p ∈ ps
        · rw [if_pos hnp] at p3
          exact lf_step hlt p3 (ihj (k + 2) (t + 1) _ K (by omega) (by rw [show t + 1 + 1 + j = t + 1 + (j + 1) by omega]; exact hj) (by omega) (by omega))
        · rw [if_neg hnp] at p3
          have := ih (k + 2) (ps ++ [p]) (t + 1) (some (.fz (ptD p))) (by omega) (by simp; omega) (by omega)
            (by rw [List.nodup_append]; exact ⟨hnd, by simp, fun a ha b hb e => hnp (by rw [List.mem_singleton.mp hb] at e; rw [← e]; exact ha)⟩)
            (fun q hq => by
              rcases List.mem_append.mp hq with h | h
              · exact hin q h
              · rw [List.mem_singleton.mp h]; exact p1)
          obtain ⟨n, qs', k2, t2, v2, h1, h2, h3, h4, h5⟩ := this
          exact lf_step hlt p3 ⟨n, qs', k2, t2, v2, h1, h2, h3, by omega, h5⟩
    obtain ⟨j, hj, hj2⟩ := fbP_free (w := w + 1) (by omega) (t + 1) (ps := ps) (by omega)
    exact inner j k t v _ ht hj2 (by omega) (by omega)
theorem lf_all {xs : List Int} (hN : Nums xs) (w : Int) (hw : 0 ≤ w) (hw2 : w ≤ 1000000000) (many : Nat) (hm : (many : Int) ≤ (w + 1) * (w + 1)) (hm2 : many ≤ 1000) : ∀ (s k : Nat) (ps : List (Int × Int)) (t : Nat) (v : Option M), t + s = 120 → ps.length ≤ many → k + 2 * s + 2002 * many ≤ 100000000 → ps.Nodup → (∀ p ∈ ps, inW (w + 1) p) → LfR xs k many w ps t v (k + 2 * s + 2002 * many) := by
  intro s
  induction s with
  | zero =>
    intro k ps t v ht hl hk hnd hin
    obtain ⟨n, qs', k2, t2, v2, h1, h2, h3, h4, h5⟩ := lf_late hN w hw hw2 many hm hm2 (many - ps.length) k ps t v (by omega) (by omega) (by omega) hnd hin
    exact ⟨n, qs', k2, t2, v2, h1, h2, h3, by omega, h5⟩
  | succ s ih =>
    intro k ps t v ht hl hk hnd hin
    by_cases he : ps.length = many
    · exact ⟨1, ps, k, t, v, hnd, hin, he, by omega, while_end (by unfold lfA' lfE; simp [lsP_pds, he])⟩
    · obtain ⟨p, p1, p2, p3⟩ := lf_body hN k many w ps t v (by omega) hw hw2 (by omega) (by omega)
      have hlt : ps.length < many := by omega
      by_cases hnp : p ∈ ps
      · rw [if_pos hnp] at p3
        obtain ⟨n, qs', k2, t2, v2, h1, h2, h3, h4, h5⟩ := ih (k + 2) ps (t + 1) (some (.fz (ptD p))) (by omega) hl (by omega) hnd hin
        exact lf_step hlt p3 ⟨n, qs', k2, t2, v2, h1, h2, h3, by omega, h5⟩
      · rw [if_neg hnp] at p3
        obtain ⟨n, qs', k2, t2, v2, h1, h2, h3, h4, h5⟩ := ih (k + 2) (ps ++ [p]) (t + 1) (some (.fz (ptD p))) (by omega) (by simp; omega) (by omega)
          (by rw [List.nodup_append]; exact ⟨hnd, by simp, fun a ha b hb e => hnp (by rw [List.mem_singleton.mp hb] at e; rw [← e]; exact ha)⟩)
          (fun q hq => by
            rcases List.mem_append.mp hq with h | h
            · exact hin q h
            · rw [List.mem_singleton.mp h]; exact p1)
        exact lf_step hlt p3 ⟨n, qs', k2, t2, v2, h1, h2, h3, by omega, h5⟩
theorem m__law_formation_v1_ {xs : List Int} (hN : Nums xs) (k : Nat) (hk : k ≤ 10000000) (many : Nat) (w : Int) (hw : 0 ≤ w) (hw2 : w ≤ 1000000000) (hm : (many : Int) ≤ (w + 1) * (w + 1)) (hm2 : many ≤ 1000) : ∃ (ps : List (Int × Int)) (k' : Nat), ps.Nodup ∧ (∀ p ∈ ps, inW (w + 1) p) ∧ ps.length = many ∧ k' ≤ k + 240 + 2002 * many ∧
    m__law_formation_v1 [DR xs k, .fz (.int many), .fz (.int w)] = .ret (.v (.lst (lsP ps))) [DR xs k', .fz (.int many), .fz (.int w)] := by
  obtain ⟨n, qs, k', t', v', h1, h2, h3, h4, h5⟩ := lf_all hN w hw hw2 many hm hm2 120 k [] 0 none (by omega) (by simp) (by omega) List.nodup_nil (fun _ h => nomatch h)
  refine ⟨qs, k', h1, h2, h3, by omega, ?_⟩
  unfold m__law_formation_v1
  refine (semOf_ (by rfl) (by rfl)).trans ?_
  have hsw := sWh_eq h5
  have e0 : lsP [] = [] := rfl
  unfold lfA' lfB lfE at hsw
  rw [e0] at hsw
  unfold s__law_formation_v1
  have e1 : ((0 : Nat) : Int) = 0 := rfl
  rw [e1] at hsw
  simp [hsw]
end MX
namespace MX
open PySem PySem.Spec L2 FS FX
/-! ### the law's own fractions and distances -/
theorem mul_bd {x y a b : Int} (h1 : -a ≤ x) (h2 : x ≤ a) (h3 : 0 ≤ y) (h4 : y ≤ b) : -(a * b) ≤ x * y ∧ x * y ≤ a * b := by
  have ha : 0 ≤ a := by omega
  have e1 := Int.mul_le_mul_of_nonneg_right h2 h3
  have e2 := Int.mul_le_mul_of_nonneg_left h4 ha
  have e3 := Int.mul_le_mul_of_nonneg_right h1 h3
  rw [Int.neg_mul] at e3
  omega
theorem low_loop (P Q : M) : ∀ (b a : Nat), ∃ n, whileN (tE (eB2 gNe (eN 3) (eC (.int 0)))) (sPar [2, 3] (aV (eN 3) (aV (eB2 gMod (eN 2) (eN 3)) aN))) n [some P, some Q, some (.fz (.int (a : Int))), some (.fz (.int (b : Int)))] = some (.nx [some P, some Q, some (.fz (.int (Nat.gcd a b : Nat))), some (.fz (.int 0))]) := by
  intro b
  induction b using Nat.strongRecOn with
  | ind b ih =>
    intro a
    rcases Nat.eq_zero_or_pos b with h | h
    · subst h
      exact ⟨1, while_end (by simp)⟩
    · obtain ⟨n, hn⟩ := ih (a % b) (Nat.mod_lt _ h) b
      have hb : (0 : Int) < b := by omega
      have hne : ¬ b = 0 := by omega
      refine ⟨n + 1, while_go (δ1 := [some P, some Q, some (.fz (.int a)), some (.fz (.int b))]) (by simp [hne]) (.inl (by simp (disch := omega); rfl)) ?_⟩
      have e : (a : Int) % (b : Int) = ((a % b : Nat) : Int) := by omega
      rw [e, hn, Nat.gcd_comm b, ← Nat.gcd_rec, Nat.gcd_comm]
theorem m__law_lowest_ (p q : Int) (hq : 0 < q) (hs : q ≤ 10000000000000000000000000000000000000000) : m__law_lowest [.fz (.int p), .fz (.int q)] = .ret (.fz (frD p q)) [.fz (.int p), .fz (.int q)] := by
  unfold m__law_lowest
  refine (semOf_ (by rfl) (by rfl)).trans ?_
  obtain ⟨n, hn⟩ := low_loop (.fz (.int p)) (.fz (.int q)) q.natAbs p.natAbs
  have hsw := sWh_eq hn
  have e1 : (if p < 0 then -p else p) = (p.natAbs : Int) := absI p
  have e2 : q = (q.natAbs : Int) := by omega
  have e3 : Nat.gcd p.natAbs q.natAbs = Int.gcd p q := rfl
  rw [← e2, e3] at hsw
  have g1 : (0 : Int) < (Int.gcd p q : Nat) := by have := Int.gcd_pos_of_ne_zero_right p (b := q) (by omega); omega
  have g2 : ((Int.gcd p q : Nat) : Int) ≤ q := Int.le_of_dvd hq (Int.gcd_dvd_right _ _)
  have hn : ¬ q < 0 := by omega
  generalize hg : ((Int.gcd p q : Nat) : Int) = g at *
  simp (disch := omega) [s__law_lowest, e1, hsw, frD, frN, frDn, hg, hn]
theorem frN_spec {n d : Int} (hd : 0 < d) : frN n d * (Int.gcd n d : Nat) = n ∧ frDn n d * (Int.gcd n d : Nat) = d ∧ (0 : Int) < (Int.gcd n d : Nat) := by
  have g1 : (0 : Int) < (Int.gcd n d : Nat) := by have := Int.gcd_pos_of_ne_zero_right n (b := d) (by omega); omega
  unfold frN frDn
  rw [if_neg (by omega), if_neg (by omega)]
  exact ⟨Int.ediv_mul_cancel (Int.gcd_dvd_left _ _), Int.ediv_mul_cancel (Int.gcd_dvd_right _ _), g1⟩
theorem frN_bd {n d : Int} (hd : 0 < d) (hn : 0 ≤ n) : 0 ≤ frN n d ∧ frN n d ≤ n ∧ 0 < frDn n d ∧ frDn n d ≤ d := by
  obtain ⟨h1, h2, h3⟩ := frN_spec (n := n) hd
  generalize ((Int.gcd n d : Nat) : Int) = g at *
  generalize frN n d = a at *
  generalize frDn n d = b at *
  subst h1
  subst h2
  have ha : 0 ≤ a := Int.nonneg_of_mul_nonneg_left hn h3
  have hb : 0 < b := Int.pos_of_mul_pos_left hd h3
  refine ⟨ha, ?_, hb, ?_⟩
  · have := Int.mul_le_mul_of_nonneg_left (show (1 : Int) ≤ g by omega) ha; omega
  · have := Int.mul_le_mul_of_nonneg_left (show (1 : Int) ≤ g by omega) (Int.le_of_lt hb); omega
/-- fractions of one lower part -/
theorem fr_less {a b q : Int} (hq : 0 < q) : frN a q * frDn b q < frN b q * frDn a q ↔ a < b := by
  obtain ⟨h1, h2, h3⟩ := frN_spec (n := a) hq
  obtain ⟨k1, k2, k3⟩ := frN_spec (n := b) hq
  generalize ((Int.gcd a q : Nat) : Int) = g at *
  generalize ((Int.gcd b q : Nat) : Int) = k at *
  generalize frN a q = A at *
  generalize frN b q = B at *
  generalize frDn a q = C at *
  generalize frDn b q = D at *
  have hp : 0 < g * k := Int.mul_pos h3 k3
  have e1 : A * D * (g * k) = a * q := by
    rw [← h1, ← k2]; ac_rfl
  have e2 : B * C * (g * k) = b * q := by
    rw [← k1, ← h2]; ac_rfl
  constructor
  · intro h
    have := Int.mul_lt_mul_of_pos_right h hp
    rw [e1, e2] at this
    exact Int.lt_of_mul_lt_mul_right this (Int.le_of_lt hq)
  · intro h
    have := Int.mul_lt_mul_of_pos_right h hq
    rw [← e1, ← e2] at this
    exact Int.lt_of_mul_lt_mul_right this (Int.le_of_lt hp)
theorem m__law_less_ {a b c d : Int} (a1 : -1000000000000000000000000000000000000000000000000000000000000 ≤ a) (a2 : a ≤ 1000000000000000000000000000000000000000000000000000000000000) (b1 : -1000000000000000000000000000000000000000000000000000000000000 ≤ b) (b2 : b ≤ 1000000000000000000000000000000000000000000000000000000000000) (c1 : -1000000000000000000000000000000000000000000000000000000000000 ≤ c) (c2 : c ≤ 1000000000000000000000000000000000000000000000000000000000000) (d1 : -1000000000000000000000000000000000000000000000000000000000000 ≤ d) (d2 : d ≤ 1000000000000000000000000000000000000000000000000000000000000) :
    m__law_less [.fz (.tuple [.int a, .int b]), .fz (.tuple [.int c, .int d])] = .ret (.fz (.bool (decide (a * d < c * b)))) [.fz (.tuple [.int a, .int b]), .fz (.tuple [.int c, .int d])] := by
  unfold m__law_less
  refine (semOf_ (by rfl) (by rfl)).trans ?_
  simp (disch := omega) [s__law_less]
def mvD (S E : List (Int × Int)) (c : Int) : PD := .tuple [fmD S, fmD E, .int c]
/-- the squared distance at the part n of W, times W W -/
def farI (W n : Int) (s1 s2 e1 e2 : Int × Int) : Int :=
  ((s2.1 - s1.1) * (W - n) + (e2.1 - e1.1) * n) * ((s2.1 - s1.1) * (W - n) + (e2.1 - e1.1) * n) + ((s2.2 - s1.2) * (W - n) + (e2.2 - e1.2) * n) * ((s2.2 - s1.2) * (W - n) + (e2.2 - e1.2) * n)
theorem getD_all {ps : List (Int × Int)} {Q : Int × Int → Prop} (h : ∀ p ∈ ps, Q p) {i : Nat} (hi : i < ps.length) : Q (ps.getD i (0, 0)) ∧ (ps.map ptD)[i]? = some (ptD (ps.getD i (0, 0))) := by
  have e : ps.getD i (0, 0) = ps[i] := by simp [List.getD, hi]
  rw [e]
  exact ⟨h _ (List.getElem_mem hi), by simp [hi]⟩
theorem range01 : rangeD 0 2 = [.int 0, .int 1] := rfl
theorem m__law_far_v1_ {S E : List (Int × Int)} {c n d : Int} (i j : Nat) (hS : ∀ p ∈ S, OnF p) (hE : ∀ p ∈ E, OnF p) (hl : S.length = E.length) (hi : i < S.length) (hj : j < S.length) (c1 : 1 ≤ c) (c2 : c ≤ 64) (d1 : 1 ≤ d) (d2 : d ≤ 10000000000) (n1 : 0 ≤ n) (n2 : n ≤ c * d) :
    m__law_far_v1 [.fz (mvD S E c), .fz (.int i), .fz (.int j), .fz (.tuple [.int n, .int d])] = .ret (.fz (frD (farI (c * d) n (S.getD i (0, 0)) (S.getD j (0, 0)) (E.getD i (0, 0)) (E.getD j (0, 0))) (c * d * (c * d)))) [.fz (mvD S E c), .fz (.int i), .fz (.int j), .fz (.tuple [.int n, .int d])] := by
  unfold m__law_far_v1
  refine (semOf_ (by rfl) (by rfl)).trans ?_
  obtain ⟨o1, g1⟩ := getD_all hS hi
  obtain ⟨o2, g2⟩ := getD_all hS hj
  obtain ⟨o3, g3⟩ := getD_all hE (i := i) (by omega)
  obtain ⟨o4, g4⟩ := getD_all hE (i := j) (by omega)
  generalize S.getD i (0, 0) = p at *
  generalize S.getD j (0, 0) = q at *
  generalize E.getD i (0, 0) = r at *
  generalize E.getD j (0, 0) = t at *
  obtain ⟨a1, a2, a3, a4⟩ := o1
  obtain ⟨b1, b2, b3, b4⟩ := o2
  obtain ⟨f1, f2, f3, f4⟩ := o3
  obtain ⟨h1, h2, h3, h4⟩ := o4
  have w1 : 1 ≤ c * d := by have := Int.mul_le_mul c1 d1 (by decide) (by omega); omega
  have w2 : c * d ≤ 64 * 10000000000 := Int.mul_le_mul c2 d2 (by omega) (by decide)
  unfold mvD fmD
  generalize hw : c * d = w at *
  have m1 := mul_bd (x := q.1 - p.1) (y := w - n) (a := 4000) (b := 1000000000000) (by omega) (by omega) (by omega) (by omega)
  have m2 := mul_bd (x := t.1 - r.1) (y := n) (a := 4000) (b := 1000000000000) (by omega) (by omega) (by omega) (by omega)
  have m3 := mul_bd (x := q.2 - p.2) (y := w - n) (a := 4000) (b := 1000000000000) (by omega) (by omega) (by omega) (by omega)
  have m4 := mul_bd (x := t.2 - r.2) (y := n) (a := 4000) (b := 1000000000000) (by omega) (by omega) (by omega) (by omega)
  have w3 : 0 < w * w := Int.mul_pos (by omega) (by omega)
  have w4 : w * w ≤ (64 * 10000000000) * (64 * 10000000000) := Int.mul_le_mul w2 w2 (by omega) (by decide)
  have lo := fun x => m__law_lowest_ x (w * w) w3 (by omega)
  generalize hww : w * w = ww at *
  simp (disch := omega) [s__law_far_v1, hw, hww, range01, atI_nat, g1, g2, g3, g4, gIx_pt0, gIx_pt1, lo, farI]
theorem m_squared_b {p q : Int × Int} (h1 : -1000000000000 ≤ p.1) (h2 : p.1 ≤ 1000000000000) (h3 : -1000000000000 ≤ p.2) (h4 : p.2 ≤ 1000000000000) (k1 : -1000000000000 ≤ q.1) (k2 : q.1 ≤ 1000000000000) (k3 : -1000000000000 ≤ q.2) (k4 : q.2 ≤ 1000000000000) : m_squared [.fz (ptD p), .fz (ptD q)] = .ret (.fz (.int (dist2 p q))) [.fz (ptD p), .fz (ptD q)] := by
  unfold m_squared
  refine (semOf_ (by rfl) (by rfl)).trans ?_
  simp (disch := omega) [s_squared, ptD, dist2]
end MX
namespace MX
open PySem PySem.Spec L2 FS FX
/-! ### the nearest other one -/
def nbU (i : Nat) (b : Option (Nat × Int)) (m : Nat) (v : Int) : Option (Nat × Int) :=
  if m = i then b else match b with
    | none => some (m, v)
    | some u => if v < u.2 then some (m, v) else some u
def nb (f : Nat → Int) (i : Nat) : Nat → Option (Nat × Int)
  | 0 => none
  | m + 1 => nbU i (nb f i m) m (f m)
theorem nb_val (f : Nat → Int) (i : Nat) : ∀ (m : Nat) (u : Nat × Int), nb f i m = some u → u.2 = f u.1 ∧ u.1 < m ∧ u.1 ≠ i
  | 0, u, h => by cases h
  | m + 1, u, h => by
    have ih := nb_val f i m
    unfold nb nbU at h
    split at h
    · obtain ⟨a, b, c⟩ := ih u h; exact ⟨a, by omega, c⟩
    · rename_i hm
      split at h
      · cases h; exact ⟨rfl, by dsimp only; omega, hm⟩
      · split at h
        · cases h; exact ⟨rfl, by dsimp only; omega, hm⟩
        · rename_i e _; cases h; obtain ⟨a, b, c⟩ := ih _ e; exact ⟨a, by omega, c⟩
def encP : Option (Nat × Int) → PD
  | none => .none
  | some u => .tuple [.int u.1, .int u.2]
def encF (q : Int) : Option (Nat × Int) → PD
  | none => .none
  | some u => .tuple [.int u.1, frD u.2 q]
@[simp] theorem encP_n : encP none = .none := nr rfl
@[simp] theorem encP_s {u : Nat × Int} : encP (some u) = .tuple [.int u.1, .int u.2] := nr rfl
@[simp] theorem encF_n {q : Int} : encF q none = .none := nr rfl
@[simp] theorem encF_s {q : Int} {u : Nat × Int} : encF q (some u) = .tuple [.int u.1, frD u.2 q] := nr rfl
def Big (p : Int × Int) : Prop := 0 ≤ p.1 ∧ p.1 ≤ 1000000 ∧ 0 ≤ p.2 ∧ p.2 ≤ 1000000
def nbB : SF := (sIf (tAn (tE (eB2 gNe (eN 10) (eN 5))) (tOr' (tE (eB2 gIs (eN 9) (eC .none))) (tE (eB2 gLt (eCl m_squared (aV (eB2 gIx (eN 2) (eN 5)) (aV (eB2 gIx (eN 2) (eN 10)) aN))) (eB2 gIx (eN 9) (eC (.int 1)))))))
    (sAs 9 (eDs FS.gTup (aV (eN 10) (aV (eCl m_squared (aV (eB2 gIx (eN 2) (eN 5)) (aV (eB2 gIx (eN 2) (eN 10)) aN))) aN))))
    sNl)
def distF (P : List (Int × Int)) (i : Nat) : Nat → Int := fun j => dist2 (P.getD i (0, 0)) (P.getD j (0, 0))
theorem nb_loop {P : List (Int × Int)} (hP : ∀ p ∈ P, Big p) (i : Nat) (hi : i < P.length) (a0 a1 a3 a4 a6 a7 a8 v a11 : Option M) : ∃ v',
    sLoop (gN 10) nbB (rangeD 0 P.length) [a0, a1, some (.fz (fmD P)), a3, a4, some (.fz (.int i)), a6, a7, a8, some (.fz .none), v, a11] =
    .nx [a0, a1, some (.fz (fmD P)), a3, a4, some (.fz (.int i)), a6, a7, a8, some (.fz (encP (nb (distF P i) i P.length))), v', a11] := by
  obtain ⟨s, hs, hlp⟩ := sLoop_inv (Gt := gN 10) (S := nbB) (fun s : Option (Nat × Int) × Option M => [a0, a1, some (.fz (fmD P)), a3, a4, some (.fz (.int i)), a6, a7, a8, some (.fz (encP s.1)), s.2, a11])
    (fun m s => s.1 = nb (distF P i) i m) (rangeD 0 P.length) (none, v) rfl (by
      rintro m d ⟨b, w⟩ hd hb
      obtain ⟨rfl, hm⟩ := rangeD0_get hd
      dsimp only at hb ⊢
      obtain ⟨o1, g1⟩ := getD_all hP hi
      obtain ⟨o2, g2⟩ := getD_all hP hm
      obtain ⟨x1, x2, x3, x4⟩ := o1
      obtain ⟨y1, y2, y3, y4⟩ := o2
      have sq := m_squared_b (p := P.getD i (0, 0)) (q := P.getD m (0, 0)) (by omega) (by omega) (by omega) (by omega) (by omega) (by omega) (by omega) (by omega)
      have hst : nb (distF P i) i (m + 1) = nbU i b m (dist2 (P.getD i (0, 0)) (P.getD m (0, 0))) := by rw [hb]; rfl
      refine ⟨(nbU i b m (dist2 (P.getD i (0, 0)) (P.getD m (0, 0))), some (.fz (.int m))), _, hst.symm, by simp; rfl, .inl ?_⟩
      clear hst hb
      generalize dist2 (P.getD i (0, 0)) (P.getD m (0, 0)) = D at *
      generalize P.getD i (0, 0) = p at *
      generalize P.getD m (0, 0) = q at *
      unfold nbB fmD nbU
      by_cases hmi : m = i
      · simp [hmi]
      · have hmi' : ¬ ((m : Int) = i) := by omega
        cases b with
        | none => simp [hmi, hmi', atI_nat, g1, g2, sq]
        | some u =>
          by_cases hlt : D < u.2
          · simp [hmi, hmi', atI_nat, g1, g2, sq, hlt]
          · simp [hmi, hmi', atI_nat, g1, g2, sq, hlt])
  rw [rangeD_len] at hs
  obtain ⟨b, w⟩ := s
  dsimp only at hs hlp
  subst hs
  exact ⟨w, hlp⟩
/-- where a marcher is at a whole count, times the counts -/
def plP (S E : List (Int × Int)) (c t : Int) (k : Nat) : Int × Int :=
  ((S.getD k (0, 0)).1 * (c - t) + (E.getD k (0, 0)).1 * t, (S.getD k (0, 0)).2 * (c - t) + (E.getD k (0, 0)).2 * t)
def plL (S E : List (Int × Int)) (c t : Int) : List (Int × Int) := (List.range S.length).map (plP S E c t)
def nbAt (S E : List (Int × Int)) (c t : Int) (i : Nat) : Option (Nat × Int) := nb (distF (plL S E c t) i) i S.length
def nbD (S E : List (Int × Int)) (c t : Int) : List PD := (List.range S.length).map fun i => encF (c * c) (nbAt S E c t i)
noncomputable def nbA : SF := (sApp 2 (eDs gTupOf (aV (eLc [11] (iR rng1 (aV (eC (.int 2)) aN)) (gN 11) tY (eB2 gAdd (eB2 gMul (eB2 gIx (eB2 gIx (eN 6) (eN 3)) (eN 11)) (eB2 FS.gSub (eN 8) (eN 1))) (eB2 gMul (eB2 gIx (eB2 gIx (eN 7) (eN 3)) (eN 11)) (eN 1)))) aN)))
theorem pl_loop {S E : List (Int × Int)} {c t : Int} (hS : ∀ p ∈ S, OnF p) (hE : ∀ p ∈ E, OnF p) (hl : S.length = E.length) (h60 : S.length ≤ 60) (c2 : c ≤ 64) (t1 : 0 ≤ t) (t2 : t ≤ c) (a0 v a4 a5 a9 a10 : Option M) : ∃ v',
    sLoop (gN 3) nbA (rangeD 0 S.length) [a0, some (.fz (.int t)), some (.v (.lst [])), v, a4, a5, some (.fz (fmD S)), some (.fz (fmD E)), some (.fz (.int c)), a9, a10, none] =
    .nx [a0, some (.fz (.int t)), some (.v (.lst (lsP (plL S E c t)))), v', a4, a5, some (.fz (fmD S)), some (.fz (fmD E)), some (.fz (.int c)), a9, a10, none] := by
  obtain ⟨s, hs, hlp⟩ := sLoop_inv (Gt := gN 3) (S := nbA) (fun s : List (Int × Int) × Option M => [a0, some (.fz (.int t)), some (.v (.lst (lsP s.1))), s.2, a4, a5, some (.fz (fmD S)), some (.fz (fmD E)), some (.fz (.int c)), a9, a10, none])
    (fun m s => s.1 = (List.range m).map (plP S E c t)) (rangeD 0 S.length) ([], v) rfl (by
      rintro m d ⟨ps, w⟩ hd hb
      obtain ⟨rfl, hm⟩ := rangeD0_get hd
      dsimp only at hb ⊢
      obtain ⟨o1, g1⟩ := getD_all hS hm
      obtain ⟨o2, g2⟩ := getD_all hE (i := m) (by omega)
      refine ⟨(ps ++ [plP S E c t m], some (.fz (.int m))), _, by rw [hb, List.range_succ, List.map_append]; rfl, by simp; rfl, .inl ?_⟩
      have hlen : ps.length = m := by rw [hb]; simp
      unfold plP
      clear hb
      generalize S.getD m (0, 0) = p at *
      generalize E.getD m (0, 0) = q at *
      obtain ⟨a1, a2, a3, a4'⟩ := o1
      obtain ⟨b1, b2, b3, b4⟩ := o2
      have hc := cLoop_all (own := [11]) (G := gN 11) (T := tY) (E := (eB2 gAdd (eB2 gMul (eB2 gIx (eB2 gIx (eN 6) (eN 3)) (eN 11)) (eB2 FS.gSub (eN 8) (eN 1))) (eB2 gMul (eB2 gIx (eB2 gIx (eN 7) (eN 3)) (eN 11)) (eN 1))))
        (δ := [a0, some (.fz (.int t)), some (.v (.lst (lsP ps))), some (.fz (.int m)), a4, a5, some (.fz (fmD S)), some (.fz (fmD E)), some (.fz (.int c)), a9, a10, none]) (fun i : Nat => PyData.int (0 + (i : Int))) (fun i : Nat => if i = 0 then .fz (.int (p.1 * (c - t) + q.1 * t)) else .fz (.int (p.2 * (c - t) + q.2 * t))) rfl (List.range 2) (fun i hi => by
          have hi2 := List.mem_range.mp hi
          have : i = 0 ∨ i = 1 := by omega
          unfold fmD
          rcases this with rfl | rfl
          · exact ⟨_, _, by simp; rfl, by simp (disch := omega) [gIx_pt0, atI_nat, g1, g2, -atI_0]; rfl, by simp⟩
          · exact ⟨_, _, by simp; rfl, by simp (disch := omega) [gIx_pt1, atI_nat, g1, g2, -atI_0]; rfl, by simp⟩)
      have er : rangeD 0 2 = (List.range 2).map fun i : Nat => PyData.int (0 + (i : Int)) := rfl
      have el : (List.range 2).map (fun i : Nat => if i = 0 then L.fz (.int (p.1 * (c - t) + q.1 * t)) else L.fz (.int (p.2 * (c - t) + q.2 * t))) = [.fz (.int (p.1 * (c - t) + q.1 * t)), .fz (.int (p.2 * (c - t) + q.2 * t))] := rfl
      rw [← er, el] at hc
      have hb : (2 : Nat) ≤ big := by show 2 ≤ 16777216; omega
      have hb2 : ps.length < big := by show _ < 16777216; omega
      have ht : ∀ x y : PD, gTupOf [.list [x, y]] = some (.fz (.tuple [x, y])) := fun _ _ => rfl
      unfold nbA
      simp (disch := omega) [rangeD_len, hb, hc, ht, lsP_len, hb2]
      simp [lsP, ptD])
  rw [rangeD_len] at hs
  obtain ⟨ps, w⟩ := s
  dsimp only at hs hlp
  subst hs
  exact ⟨w, hlp⟩
theorem plP_big {S E : List (Int × Int)} {c t : Int} (hS : ∀ p ∈ S, OnF p) (hE : ∀ p ∈ E, OnF p) (hl : S.length = E.length) (c2 : c ≤ 64) (t1 : 0 ≤ t) (t2 : t ≤ c) : ∀ p ∈ plL S E c t, Big p := by
  intro p hp
  obtain ⟨k, hk, rfl⟩ := List.mem_map.mp hp
  have hk := List.mem_range.mp hk
  obtain ⟨o1, _⟩ := getD_all hS hk
  obtain ⟨o2, _⟩ := getD_all hE (i := k) (by omega)
  obtain ⟨a1, a2, a3, a4⟩ := o1
  obtain ⟨b1, b2, b3, b4⟩ := o2
  unfold Big plP
  dsimp only
  have m1 := Int.mul_le_mul a2 (show c - t ≤ 64 by omega) (by omega) (by decide)
  have m2 := Int.mul_le_mul a4 (show c - t ≤ 64 by omega) (by omega) (by decide)
  have m3 := Int.mul_le_mul b2 (show t ≤ 64 by omega) (by omega) (by decide)
  have m4 := Int.mul_le_mul b4 (show t ≤ 64 by omega) (by omega) (by decide)
  have n1 := Int.mul_nonneg a1 (show 0 ≤ c - t by omega)
  have n2 := Int.mul_nonneg a3 (show 0 ≤ c - t by omega)
  have n3 := Int.mul_nonneg b1 (show 0 ≤ t by omega)
  have n4 := Int.mul_nonneg b3 (show 0 ≤ t by omega)
  omega
def lsD (ds : List PD) : List L := ds.map .fz
@[simp] theorem lsD_pds (ds : List PD) : L.pds (lsD ds) = ds := by
  unfold lsD; induction ds with
  | nil => rfl
  | cons a r ih => show _ :: L.pds _ = _; rw [ih]; rfl
theorem m_neighbours_ {S E : List (Int × Int)} {c t : Int} (hS : Fm S) (hE : Fm E) (hl : S.length = E.length) (c1 : 1 ≤ c) (c2 : c ≤ 64) (t1 : 0 ≤ t) (t2 : t ≤ c) :
    m_neighbours [.fz (mvD S E c), .fz (.int t)] = .ret (.v (.lst (lsD (nbD S E c t)))) [.fz (mvD S E c), .fz (.int t)] := by
  unfold m_neighbours
  refine (semOf_ (by rfl) (by rfl)).trans ?_
  have few := hS.few
  have ck := m_check_move_ (mvD S E c)
  have hck : chkM (mvD S E c) = none := by
    unfold mvD
    rw [chkM_3, chkF_ok hS, chkF_ok hE]
    simp [lenD_fm, hl, isNum, c1, c2]
  rw [hck, frC_n] at ck
  have cn := m_check_number_ (.int t) 0 c
  rw [show isNum (.int t) 0 c = true by simp [isNum, t1, t2]] at cn
  obtain ⟨v3, l1⟩ := pl_loop hS.on hE.on hl (by omega) c2 t1 t2 (some (.fz (mvD S E c))) none none none none none
  have pb := plP_big hS.on hE.on hl c2 t1 t2
  have hPl : (plL S E c t).length = S.length := by unfold plL; simp
  have l2 := fun (i : Nat) (hi : i < (plL S E c t).length) (a4 v : Option M) => nb_loop pb i hi (some (.fz (mvD S E c))) (some (.fz (.int t))) v3 a4 (some (.fz (fmD S))) (some (.fz (fmD E))) (some (.fz (.int c))) v none
  have e2 : ∀ i, nbAt S E c t i = nb (distF (plL S E c t) i) i (plL S E c t).length := fun i => by unfold nbAt; rw [hPl]
  have cc1 : 1 ≤ c * c := by have := Int.mul_le_mul c1 c1 (by decide) (by omega); omega
  have cc2 : c * c ≤ 64 * 64 := Int.mul_le_mul c2 c2 (by omega) (by decide)
  obtain ⟨s, hs, hlp⟩ := sLoop_inv (Gt := gN 5) (S := (sSq (sAs 9 (eC .none))
  (sSq (sFor (iR rng1 (aV (eDs gLen (aV (eN 2) aN)) aN)) (gN 10) nbB)
  (sApp 4 (eIf (tE (eB2 gIs (eN 9) (eC .none))) (eC .none) (eDs FS.gTup (aV (eB2 gIx (eN 9) (eC (.int 0))) (aV (eCl m_fraction (aV (eB2 gIx (eN 9) (eC (.int 1))) (aV (eB2 gMul (eN 8) (eN 8)) aN))) aN)))))))) (fun s : List PD × Option M × Option M × Option M => [some (.fz (mvD S E c)), some (.fz (.int t)), some (.fz (fmD (plL S E c t))), v3, some (.v (.lst (lsD s.1))), s.2.1, some (.fz (fmD S)), some (.fz (fmD E)), some (.fz (.int c)), s.2.2.1, s.2.2.2, none])
    (fun m s => s.1 = (List.range m).map (fun i => encF (c * c) (nbAt S E c t i))) (rangeD 0 S.length) ([], none, none, none) rfl (by
      rintro m d ⟨ds, w5, w9, w10⟩ hd hb
      obtain ⟨rfl, hm⟩ := rangeD0_get hd
      dsimp only at hb ⊢
      have hlen : ds.length = m := by rw [hb]; simp
      obtain ⟨v', h2⟩ := l2 m (by omega) (some (.v (.lst (lsD ds)))) w10
      rw [← e2] at h2
      refine ⟨(ds ++ [encF (c * c) (nbAt S E c t m)], some (.fz (.int m)), some (.fz (encP (nbAt S E c t m))), v'), _, by rw [hb, List.range_succ, List.map_append]; rfl, by simp; rfl, .inl ?_⟩
      have hb2 : ds.length < big := by show _ < 16777216; omega
      have hb3 : (lsD ds).length = ds.length := List.length_map _
      clear hb
      rw [hPl] at h2
      unfold fmD at h2 ⊢
      generalize nbAt S E c t m = b at *
      have fr := fun x => m_fraction_ x (c * c) (by omega) (by omega)
      generalize hww : c * c = ww at *
      cases b with
      | none =>
        simp (disch := omega) [h2, hPl, hb2, hb3, hww]
        simp [lsD]
      | some u =>
        simp (disch := omega) [h2, hPl, hb2, hb3, hww, fr]
        simp [lsD, frD])
  rw [rangeD_len] at hs
  obtain ⟨ds, w5, w9, w10⟩ := s
  dsimp only at hs hlp
  have hds : ds = nbD S E c t := hs
  subst hds
  have e0 : lsD [] = [] := rfl
  rw [e0] at hlp
  have hll : (lsP (plL S E c t)).length = S.length := by rw [lsP_len, hPl]
  have hlen2 : S.length ≤ 60 := by omega
  unfold nbA at l1
  unfold nbB at hlp
  unfold s_neighbours
  have u3 : gUp [6, 7, 8] (mvD S E c) [some (.fz (mvD S E c)), some (.fz (.int t)), none, none, none, none, none, none, none, none, none, none] = some [some (.fz (mvD S E c)), some (.fz (.int t)), none, none, none, none, some (.fz (fmD S)), some (.fz (fmD E)), some (.fz (.int c)), none, none, none] := by unfold mvD; simp
  generalize mvD S E c = mv at *
  unfold fmD at u3 l1 hlp
  simp (disch := omega) [ck, cn, u3]
  simp (disch := omega) [l1, hll, hlp, lsP_pds, hPl]
end MX
namespace MX
open PySem PySem.Spec L2 FS FX
/-! ### the law's moves -/
theorem frzE_any {o : Option M} {δ : Env'} : frzE (o :: δ) = o.map M.frz :: frzE δ := by cases o <;> rfl
theorem ix4 {x y z u : PD} (k : Int) : ∃ w, (w = x ∨ w = y ∨ w = z ∨ w = u) ∧ atI [x, y, z, u] (k % 4) = some w := by
  have h1 := Int.emod_nonneg k (b := 4) (by decide)
  have h2 := Int.emod_lt_of_pos k (b := 4) (by decide)
  have h : k % 4 = 0 ∨ k % 4 = 1 ∨ k % 4 = 2 ∨ k % 4 = 3 := by omega
  rcases h with h | h | h | h <;> rw [h]
  · exact ⟨x, .inl rfl, by simp⟩
  · exact ⟨y, .inr (.inl rfl), by simp⟩
  · exact ⟨z, .inr (.inr (.inl rfl)), by simp⟩
  · exact ⟨u, .inr (.inr (.inr rfl)), by simp⟩
theorem m__law_move_ {xs : List Int} (hN : Nums xs) (k : Nat) (hk : k ≤ 1000000) (most : Int) (h1 : 1 ≤ most) (h2 : most ≤ 15) : ∃ (S E : List (Int × Int)) (c : Int) (k' : Nat), Fm S ∧ Fm E ∧ S.length = E.length ∧ 2 ≤ S.length ∧ (S.length : Int) ≤ most + 1 ∧ (c = 1 ∨ c = 8 ∨ c = 64) ∧ k' ≤ k + 200000 ∧
    m__law_move [DR xs k, .fz (.int most)] = .ret (.fz (mvD S E c)) [DR xs k', .fz (.int most)] := by
  have d0 := m__law_draw_ hN k (by omega)
  have d1 := m__law_draw_ hN (k + 1) (by omega)
  have r0 := Int.emod_nonneg (drawV xs k) (b := most) (by omega)
  have r1 := Int.emod_lt_of_pos (drawV xs k) (b := most) (by omega)
  obtain ⟨many, hmany⟩ : ∃ many : Nat, (many : Int) = 2 + drawV xs k % most := ⟨(2 + drawV xs k % most).toNat, by omega⟩
  obtain ⟨wd, hwd, hix⟩ := ix4 (x := .int 3) (y := .int 6) (z := .int 40) (u := .int 4000) (drawV xs (k + 1))
  obtain ⟨w, rfl, hw3, hw4⟩ : ∃ w : Int, wd = .int w ∧ 3 ≤ w ∧ w ≤ 4000 := by
    rcases hwd with h | h | h | h
    · exact ⟨3, h, by omega, by omega⟩
    · exact ⟨6, h, by omega, by omega⟩
    · exact ⟨40, h, by omega, by omega⟩
    · exact ⟨4000, h, by omega, by omega⟩
  have hsq : (16 : Int) ≤ (w + 1) * (w + 1) := Int.mul_le_mul (a := 4) (b := 4) (by omega) (by omega) (by decide) (by omega)
  obtain ⟨S, k1, S1, S2, S3, S4, S5⟩ := m__law_formation_v1_ hN (k + 2) (by omega) many w (by omega) (by omega) (by omega) (by omega)
  obtain ⟨E, k2, E1, E2, E3, E4, E5⟩ := m__law_formation_v1_ hN k1 (by omega) many w (by omega) (by omega) (by omega) (by omega)
  have d2 := m__law_draw_ hN k2 (by omega)
  obtain ⟨cd, hcd, hic⟩ := ix3 (x := .int 1) (y := .int 8) (z := .int 64) (drawV xs k2)
  obtain ⟨c, rfl, hc⟩ : ∃ c : Int, cd = .int c ∧ (c = 1 ∨ c = 8 ∨ c = 64) := by
    rcases hcd with h | h | h
    · exact ⟨1, h, .inl rfl⟩
    · exact ⟨8, h, .inr (.inl rfl)⟩
    · exact ⟨64, h, .inr (.inr rfl)⟩
  have on : ∀ {T : List (Int × Int)}, (∀ p ∈ T, inW (w + 1) p) → ∀ p ∈ T, OnF p := fun h p hp => by
    obtain ⟨a, b, c, d⟩ := h p hp
    exact ⟨a, by omega, c, by omega⟩
  refine ⟨S, E, c, k2 + 1, ⟨by omega, by omega, on S2, S1⟩, ⟨by omega, by omega, on E2, E1⟩, by omega, by omega, by omega, hc, by omega, ?_⟩
  unfold m__law_move
  refine (semOf_ (by rfl) (by rfl)).trans ?_
  unfold s__law_move
  simp (disch := omega) [d0, d1, hix, ← hmany, S5, E5, lsP_pds, d2, hic, mvD, fmD]
theorem far_pl {S E : List (Int × Int)} {c t : Int} {i j : Nat} (hi : i < S.length) (hj : j < S.length) : farI c t (S.getD i (0, 0)) (S.getD j (0, 0)) (E.getD i (0, 0)) (E.getD j (0, 0)) = distF (plL S E c t) i j := by
  have e : ∀ k, k < S.length → (plL S E c t).getD k (0, 0) = plP S E c t k := fun k hk => by
    unfold plL
    simp [List.getD, hk]
  unfold distF farI dist2
  rw [e i hi, e j hj]
  unfold plP
  dsimp only
  have g : ∀ a b u v : Int, ((b - a) * (c - t) + (v - u) * t) = -((a * (c - t) + u * t) - (b * (c - t) + v * t)) := fun a b u v => by
    rw [Int.sub_mul, Int.sub_mul]; omega
  rw [g, g, Int.neg_mul_neg, Int.neg_mul_neg]
noncomputable def laB : SF := (sIf (tE (eB2 gNe (eN 8) (eN 6)))
    (sSq (sAs 9 (eCl m__law_far_v1 (aV (eN 2) (aV (eN 6) (aV (eN 8) (aV (eDs FS.gTup (aV (eN 3) (aV (eC (.int 1)) aN))) aN))))))
  (sIf (tOr' (tE (eB2 gIs (eN 7) (eC .none))) (tTru (eCl m__law_less (aV (eN 9) (aV (eB2 gIx (eN 7) (eC (.int 1))) aN)))))
    (sAs 7 (eDs FS.gTup (aV (eN 8) (aV (eN 9) aN))))
    sNl))
    sNl)
theorem distF_bd {P : List (Int × Int)} (hP : ∀ p ∈ P, Big p) {i j : Nat} (hi : i < P.length) (hj : j < P.length) : 0 ≤ distF P i j ∧ distF P i j ≤ 2000000000000 := by
  obtain ⟨⟨a1, a2, a3, a4⟩, _⟩ := getD_all hP hi
  obtain ⟨⟨b1, b2, b3, b4⟩, _⟩ := getD_all hP hj
  unfold distF dist2
  generalize P.getD i (0, 0) = p at *
  generalize P.getD j (0, 0) = q at *
  have sq : ∀ x : Int, -1000000 ≤ x → x ≤ 1000000 → 0 ≤ x * x ∧ x * x ≤ 1000000000000 := fun x h1 h2 => by
    rcases Int.le_total 0 x with h | h
    · have := sqb h h2; omega
    · have := sqb (x := -x) (n := 1000000) (by omega) (by omega)
      rw [Int.neg_mul_neg] at this; omega
  have s1 := sq (p.1 - q.1) (by omega) (by omega)
  have s2 := sq (p.2 - q.2) (by omega) (by omega)
  omega
theorem la_loop {S E : List (Int × Int)} {c t : Int} (hS : Fm S) (hE : Fm E) (hl : S.length = E.length) (c1 : 1 ≤ c) (c2 : c ≤ 64) (t1 : 0 ≤ t) (t2 : t ≤ c) (i : Nat) (hi : i < S.length) (a0 a1 a4 a5 v w : Option M) : ∃ v' w',
    sLoop (gN 8) laB (rangeD 0 S.length) [a0, a1, some (.fz (mvD S E c)), some (.fz (.int t)), a4, a5, some (.fz (.int i)), some (.fz .none), v, w] =
    .nx [a0, a1, some (.fz (mvD S E c)), some (.fz (.int t)), a4, a5, some (.fz (.int i)), some (.fz (encF (c * c) (nbAt S E c t i))), v', w'] := by
  have pb := plP_big hS.on hE.on hl c2 t1 t2
  have hPl : (plL S E c t).length = S.length := by unfold plL; simp
  have cc1 : 1 ≤ c * c := by have := Int.mul_le_mul c1 c1 (by decide) (by omega); omega
  have cc2 : c * c ≤ 64 * 64 := Int.mul_le_mul c2 c2 (by omega) (by decide)
  obtain ⟨s, hs, hlp⟩ := sLoop_inv (Gt := gN 8) (S := laB) (fun s : Option (Nat × Int) × Option M × Option M => [a0, a1, some (.fz (mvD S E c)), some (.fz (.int t)), a4, a5, some (.fz (.int i)), some (.fz (encF (c * c) s.1)), s.2.1, s.2.2])
    (fun m s => s.1 = nb (distF (plL S E c t) i) i m) (rangeD 0 S.length) (none, v, w) rfl (by
      rintro m d ⟨b, v, w⟩ hd hb
      obtain ⟨rfl, hm⟩ := rangeD0_get hd
      dsimp only at hb ⊢
      have fr := m__law_far_v1_ (c := c) (n := t) (d := 1) i m hS.on hE.on hl hi hm c1 c2 (by omega) (by omega) t1 (by omega)
      rw [Int.mul_one, far_pl hi hm] at fr
      have hst : nb (distF (plL S E c t) i) i (m + 1) = nbU i b m (distF (plL S E c t) i m) := by rw [hb]; rfl
      have hb1 := distF_bd pb (i := i) (j := m) (by omega) (by omega)
      have hb2 : ∀ u, b = some u → 0 ≤ u.2 ∧ u.2 ≤ 2000000000000 := fun u hu => by
        obtain ⟨e1, e2, _⟩ := nb_val _ _ _ _ (hb.symm.trans hu)
        rw [e1]
        exact distF_bd pb (by omega) (by omega)
      refine ⟨(nbU i b m (distF (plL S E c t) i m), some (.fz (.int m)), if m = i then w else some (.fz (frD (distF (plL S E c t) i m) (c * c)))), _, hst.symm, by simp; rfl, .inl ?_⟩
      clear hst hb
      generalize distF (plL S E c t) i m = D at *
      generalize c * c = q at *
      generalize mvD S E c = mv at *
      unfold laB nbU
      by_cases hmi : m = i
      · simp [hmi]
      · have hmi' : ¬ ((m : Int) = i) := by omega
        cases b with
        | none => simp [hmi, hmi', fr]
        | some u =>
          have hu := hb2 u rfl
          have f1 := frN_bd (n := D) (d := q) (by omega) hb1.1
          have f2 := frN_bd (n := u.2) (d := q) (by omega) hu.1
          have ls := m__law_less_ (a := frN D q) (b := frDn D q) (c := frN u.2 q) (d := frDn u.2 q) (by omega) (by omega) (by omega) (by omega) (by omega) (by omega) (by omega) (by omega)
          rw [decide_eq_decide.mpr (fr_less (a := D) (b := u.2) (q := q) (by omega))] at ls
          have ls' : m__law_less [.fz (frD D q), .fz (frD u.2 q)] = .ret (.fz (.bool (decide (D < u.2)))) [.fz (frD D q), .fz (frD u.2 q)] := ls
          generalize hFD : frD D q = FD at *
          generalize hFU : frD u.2 q = FU at *
          by_cases hlt : D < u.2
          · simp [hmi, hmi', fr, ls', hlt, hFU, hFD]
          · simp [hmi, hmi', fr, ls', hlt, hFU, hFD])
  rw [rangeD_len] at hs
  obtain ⟨b, v, w⟩ := s
  dsimp only at hs hlp
  have : b = nbAt S E c t i := hs
  subst this
  exact ⟨v, w, hlp⟩
theorem eqOks_of : ∀ (n : Nat) (ds : List PD), (∀ d ∈ ds, eqOk n d = true) → eqOks n ds = true
  | n, [], _ => by simp [eqOks]
  | n, d :: ds, h => by
    have ih := eqOks_of n ds (fun x hx => h x (List.mem_cons_of_mem _ hx))
    simp [eqOks, ih, h d (List.mem_cons_self)]
theorem eqOk_encF (q : Int) (b : Option (Nat × Int)) : eqOk 5 (encF q b) = true := by
  cases b with
  | none => simp [eqOk]
  | some u => simp [eqOk, eqOks, frD]
theorem eqOk_nbD (S E : List (Int × Int)) (c t : Int) (h : S.length ≤ 60) : eqOk 6 (.list (nbD S E c t)) = true := by
  have : eqOks 5 (nbD S E c t) = true := eqOks_of _ _ fun d hd => by
    obtain ⟨i, _, rfl⟩ := List.mem_map.mp hd
    exact eqOk_encF _ _
  have hl : (nbD S E c t).length = S.length := by unfold nbD; simp
  simp [eqOk, this, hl]; omega
end MX
namespace MX
open PySem PySem.Spec L2 FS FX
/-! ### fractions alike -/
theorem fr_eq {a b q p : Int} (hq : 0 < q) (hp : 0 < p) (h : a * p = b * q) : frN a q = frN b p ∧ frDn a q = frDn b p := by
  obtain ⟨h1, h2, h3⟩ := frN_spec (n := a) hq
  obtain ⟨k1, k2, k3⟩ := frN_spec (n := b) hp
  have e1 : Int.gcd (a * p) (q * p) = Int.gcd a q * p.natAbs := Int.gcd_mul_right _ _ _
  have e2 : Int.gcd (b * q) (p * q) = Int.gcd b p * q.natAbs := Int.gcd_mul_right _ _ _
  have e3 : ((Int.gcd a q : Nat) : Int) * p = (Int.gcd b p : Nat) * q := by
    have : ((Int.gcd a q * p.natAbs : Nat) : Int) = ((Int.gcd b p * q.natAbs : Nat) : Int) := by rw [← e1, ← e2, h, Int.mul_comm q p]
    rw [Int.natCast_mul, Int.natCast_mul] at this
    rwa [show (p.natAbs : Int) = p by omega, show (q.natAbs : Int) = q by omega] at this
  generalize ((Int.gcd a q : Nat) : Int) = g at *
  generalize ((Int.gcd b p : Nat) : Int) = k at *
  generalize frN a q = A at *
  generalize frN b p = B at *
  generalize frDn a q = C at *
  generalize frDn b p = D at *
  have hgp : g * p ≠ 0 := Int.ne_of_gt (Int.mul_pos h3 hp)
  have hgk : g * k ≠ 0 := Int.ne_of_gt (Int.mul_pos h3 k3)
  constructor
  · have : A * (g * p) = B * (g * p) := by grind
    exact Int.eq_of_mul_eq_mul_right hgp this
  · have : C * (g * k) = D * (g * k) := by grind
    exact Int.eq_of_mul_eq_mul_right hgk this
theorem frD_eq {a b q p : Int} (hq : 0 < q) (hp : 0 < p) (h : a * p = b * q) : frD a q = frD b p := by
  obtain ⟨e1, e2⟩ := fr_eq hq hp h
  unfold frD
  rw [e1, e2]
theorem fr_ltg {a b q p : Int} (hq : 0 < q) (hp : 0 < p) : frN a q * frDn b p < frN b p * frDn a q ↔ a * p < b * q := by
  obtain ⟨h1, h2, h3⟩ := frN_spec (n := a) hq
  obtain ⟨k1, k2, k3⟩ := frN_spec (n := b) hp
  generalize ((Int.gcd a q : Nat) : Int) = g at *
  generalize ((Int.gcd b p : Nat) : Int) = k at *
  generalize frN a q = A at *
  generalize frN b p = B at *
  generalize frDn a q = C at *
  generalize frDn b p = D at *
  have hgk : 0 < g * k := Int.mul_pos h3 k3
  have e1 : A * D * (g * k) = a * p := by grind
  have e2 : B * C * (g * k) = b * q := by grind
  rw [← e1, ← e2]
  exact ⟨fun h => Int.mul_lt_mul_of_pos_right h hgk, fun h => Int.lt_of_mul_lt_mul_right h (Int.le_of_lt hgk)⟩
theorem fr_eqg {a b q p : Int} (hq : 0 < q) (hp : 0 < p) (h : frD a q = frD b p) : a * p = b * q := by
  unfold frD at h
  simp only [PyData.tuple.injEq, List.cons.injEq, PyData.int.injEq] at h
  obtain ⟨e1, e2, _⟩ := h
  obtain ⟨h1, h2, h3⟩ := frN_spec (n := a) hq
  obtain ⟨k1, k2, k3⟩ := frN_spec (n := b) hp
  rw [e1] at h1
  rw [e2] at h2
  generalize ((Int.gcd a q : Nat) : Int) = g at *
  generalize ((Int.gcd b p : Nat) : Int) = k at *
  grind
theorem frD_one (a : Int) : frD a 1 = .tuple [.int a, .int 1] := by
  have : Int.gcd a 1 = 1 := Int.gcd_one
  unfold frD frN frDn
  simp [this]
/-! ### two marchers of a move -/
def mM (p q r t : Int × Int) : Int := (q.1 - p.1) * (t.1 - r.1) + (q.2 - p.2) * (t.2 - r.2)
def nrF (a b m : Int) : Int × Int := if a + b - 2 * m = 0 ∨ a ≤ m then (a, 1) else if b ≤ m then (b, 1) else (a * b - m * m, a + b - 2 * m)
def nrT (c a b m : Int) : Int × Int := if a + b - 2 * m = 0 ∨ a ≤ m then (0, 1) else if b ≤ m then (c, 1) else (c * (a - m), a + b - 2 * m)
def nrD (c a b m : Int) : PD := .tuple [frD (nrF a b m).1 (nrF a b m).2, frD (nrT c a b m).1 (nrT c a b m).2]
theorem on_bd {p q : Int × Int} (hp : OnF p) (hq : OnF q) : -4000 ≤ q.1 - p.1 ∧ q.1 - p.1 ≤ 4000 ∧ -4000 ≤ q.2 - p.2 ∧ q.2 - p.2 ≤ 4000 := by
  obtain ⟨a1, a2, a3, a4⟩ := hp
  obtain ⟨b1, b2, b3, b4⟩ := hq
  omega
theorem sq_ab {x : Int} (h1 : -4000 ≤ x) (h2 : x ≤ 4000) : 0 ≤ x * x ∧ x * x ≤ 16000000 := by
  rcases Int.le_total 0 x with h | h
  · have := sqb h h2; omega
  · have := sqb (x := -x) (n := 4000) (by omega) (by omega)
    rw [Int.neg_mul_neg] at this; omega
theorem dist2_on {p q : Int × Int} (hp : OnF p) (hq : OnF q) : 0 ≤ dist2 p q ∧ dist2 p q ≤ 32000000 := by
  obtain ⟨a1, a2, a3, a4⟩ := on_bd hq hp
  have h1 := sq_ab a1 a2
  have h2 := sq_ab a3 a4
  unfold dist2; omega
/-- a + b - 2 m is a sum of squares -/
theorem bend_sq (p q r t : Int × Int) : dist2 p q + dist2 r t - 2 * mM p q r t = ((q.1 - p.1) - (t.1 - r.1)) * ((q.1 - p.1) - (t.1 - r.1)) + ((q.2 - p.2) - (t.2 - r.2)) * ((q.2 - p.2) - (t.2 - r.2)) := by
  unfold dist2 mM; grind
theorem sum_sq (p q r t : Int × Int) : dist2 p q + dist2 r t + 2 * mM p q r t = ((q.1 - p.1) + (t.1 - r.1)) * ((q.1 - p.1) + (t.1 - r.1)) + ((q.2 - p.2) + (t.2 - r.2)) * ((q.2 - p.2) + (t.2 - r.2)) := by
  unfold dist2 mM; grind
theorem sq_nn (x : Int) : 0 ≤ x * x := by
  rcases Int.le_total 0 x with h | h
  · exact Int.mul_nonneg h h
  · have := Int.mul_nonneg (a := -x) (b := -x) (by omega) (by omega)
    rwa [Int.neg_mul_neg] at this
theorem sq_zero {x : Int} (h : x * x = 0) : x = 0 := by
  rcases Int.mul_eq_zero.mp h with h | h <;> exact h
structure Me (a b m : Int) : Prop where
  a0 : 0 ≤ a
  a1 : a ≤ 32000000
  b0 : 0 ≤ b
  b1 : b ≤ 32000000
  w0 : 0 ≤ a + b - 2 * m
  s0 : 0 ≤ a + b + 2 * m
  wz : a + b - 2 * m = 0 → a = m ∧ b = m
theorem me_of {p q r t : Int × Int} (hp : OnF p) (hq : OnF q) (hr : OnF r) (ht : OnF t) : Me (dist2 p q) (dist2 r t) (mM p q r t) := by
  obtain ⟨h1, h2⟩ := dist2_on hp hq
  obtain ⟨h3, h4⟩ := dist2_on hr ht
  have e := bend_sq p q r t
  have e2 := sum_sq p q r t
  have n1 := sq_nn ((q.1 - p.1) - (t.1 - r.1))
  have n2 := sq_nn ((q.2 - p.2) - (t.2 - r.2))
  have n3 := sq_nn ((q.1 - p.1) + (t.1 - r.1))
  have n4 := sq_nn ((q.2 - p.2) + (t.2 - r.2))
  refine ⟨h1, h2, h3, h4, by omega, by omega, fun hz => ?_⟩
  have z1 := sq_zero (x := (q.1 - p.1) - (t.1 - r.1)) (by omega)
  have z2 := sq_zero (x := (q.2 - p.2) - (t.2 - r.2)) (by omega)
  have y1 : t.1 - r.1 = q.1 - p.1 := by omega
  have y2 : t.2 - r.2 = q.2 - p.2 := by omega
  have : dist2 p q = mM p q r t := by
    unfold dist2 mM
    rw [y1, y2]
    grind
  omega
theorem Me.m_bd {a b m : Int} (h : Me a b m) : -32000000 ≤ m ∧ m ≤ 32000000 := by
  obtain ⟨h1, h2, h3, h4, h5, h6, _⟩ := h
  omega
/-- the squared distance by a, b, m -/
def qf (a b m W n : Int) : Int := a * ((W - n) * (W - n)) + 2 * m * ((W - n) * n) + b * (n * n)
theorem farI_qf (W n : Int) (p q r t : Int × Int) : farI W n p q r t = qf (dist2 p q) (dist2 r t) (mM p q r t) W n := by
  unfold farI qf dist2 mM; grind
/-- case by case -/
theorem nr_cases {c a b m : Int} (h : Me a b m) (P : Int × Int → Int × Int → Prop)
    (h1 : a ≤ m → P (a, 1) (0, 1)) (h2 : m < a → b ≤ m → 0 < a + b - 2 * m → P (b, 1) (c, 1))
    (h3 : m < a → m < b → 0 < a + b - 2 * m → P (a * b - m * m, a + b - 2 * m) (c * (a - m), a + b - 2 * m)) : P (nrF a b m) (nrT c a b m) := by
  unfold nrF nrT
  by_cases hz : a + b - 2 * m = 0 ∨ a ≤ m
  · rw [if_pos hz, if_pos hz]
    refine h1 ?_
    rcases hz with hz | hz
    · have := h.wz hz; omega
    · exact hz
  · rw [if_neg hz, if_neg hz]
    have := h.w0
    by_cases hb : b ≤ m
    · rw [if_pos hb, if_pos hb]; exact h2 (by omega) hb (by omega)
    · rw [if_neg hb, if_neg hb]; exact h3 (by omega) (by omega) (by omega)
theorem nr_pos {c a b m : Int} (h : Me a b m) : 0 < (nrF a b m).2 ∧ 0 < (nrT c a b m).2 :=
  nr_cases (c := c) h (fun x y => 0 < x.2 ∧ 0 < y.2) (fun _ => ⟨Int.one_pos, Int.one_pos⟩) (fun _ _ _ => ⟨Int.one_pos, Int.one_pos⟩) (fun _ _ h => ⟨h, h⟩)
/-- nothing is nearer, and nothing as near is earlier -/
theorem nr_least {c a b m : Int} (h : Me a b m) (hc : 1 ≤ c) {n d : Int} (hd : 1 ≤ d) (n0 : 0 ≤ n) (n1 : n ≤ c * d) :
    ¬ (qf a b m (c * d) n * (nrF a b m).2 < (nrF a b m).1 * (c * d * (c * d))) ∧
    (qf a b m (c * d) n * (nrF a b m).2 = (nrF a b m).1 * (c * d * (c * d)) → ¬ (n * (nrT c a b m).2 < (nrT c a b m).1 * d)) := by
  refine nr_cases (c := c) h (fun x y => ¬ (qf a b m (c * d) n * x.2 < x.1 * (c * d * (c * d))) ∧ (qf a b m (c * d) n * x.2 = x.1 * (c * d * (c * d)) → ¬ (n * y.2 < y.1 * d))) ?_ ?_ ?_
  · intro ham
    dsimp only
    generalize hW : c * d = W at *
    have e : qf a b m W n = a * (W * W) + ((a + b - 2 * m) * (n * n) + 2 * ((m - a) * (W * n))) := by unfold qf; grind
    have hW0 : 0 ≤ W := by omega
    have p1 := Int.mul_nonneg h.w0 (sq_nn n)
    have p2 := Int.mul_nonneg (show 0 ≤ m - a by omega) (Int.mul_nonneg hW0 n0)
    rw [e]
    refine ⟨by omega, fun _ => by omega⟩
  · intro hma hbm hw
    dsimp only
    generalize hW : c * d = W at *
    have e : qf a b m W n = b * (W * W) + ((W - n) * ((a + b - 2 * m) * (W - n)) + (W - n) * (2 * ((m - b) * W))) := by unfold qf; grind
    have hW0 : 0 ≤ W := by omega
    have hwn : 0 ≤ W - n := by omega
    have p1 := Int.mul_nonneg hwn (Int.mul_nonneg h.w0 hwn)
    have p2 := Int.mul_nonneg hwn (Int.mul_nonneg (show (0 : Int) ≤ 2 by omega) (Int.mul_nonneg (show 0 ≤ m - b by omega) hW0))
    rw [e]
    refine ⟨by omega, fun he => ?_⟩
    have z : (W - n) * ((a + b - 2 * m) * (W - n)) = 0 := by omega
    rcases Int.mul_eq_zero.mp z with z | z
    · omega
    · rcases Int.mul_eq_zero.mp z with z | z <;> omega
  · intro hma hmb hw
    dsimp only
    have e : qf a b m (c * d) n * (a + b - 2 * m) = (a * b - m * m) * (c * d * (c * d)) + ((a + b - 2 * m) * n - (a - m) * (c * d)) * ((a + b - 2 * m) * n - (a - m) * (c * d)) := by unfold qf; grind
    have p := sq_nn ((a + b - 2 * m) * n - (a - m) * (c * d))
    rw [e]
    refine ⟨by omega, fun he => ?_⟩
    have z := sq_zero (x := (a + b - 2 * m) * n - (a - m) * (c * d)) (by omega)
    have : n * (a + b - 2 * m) = c * (a - m) * d := by grind
    omega
end MX
namespace MX
open PySem PySem.Spec L2 FS FX
def augR (i : Nat) (f : Int → Int → Int) (o : Option (Option M)) (r : R M) : SR := match o with
  | some (some (.v (.fz (.int k)))) => r.s fun m δ1 => (match m with
    | .v (.fz (.int k')) => if i < δ1.length then .nx (δ1.set i (some (.fz (.int (f k k'))))) else .bad
    | _ => .bad)
  | _ => .bad
@[simp] theorem sAug_ {i : Nat} {f : Int → Int → Int} {F : EF} {δ : Env'} : sAug i f F δ = augR i f δ[i]? (F δ) := nr rfl
@[simp] theorem augR_ok {i : Nat} {f : Int → Int → Int} {k k' : Int} {δ1 : Env'} : augR i f (some (some (M.fz (.int k)))) (.ok (.fz (.int k')) δ1) = if i < δ1.length then .nx (δ1.set i (some (.fz (.int (f k k'))))) else .bad := nr rfl
theorem mM_bd {p q r t : Int × Int} (hp : OnF p) (hq : OnF q) (hr : OnF r) (ht : OnF t) : -32000000 ≤ mM p q r t ∧ mM p q r t ≤ 32000000 := (me_of hp hq hr ht).m_bd
abbrev gP (S : List (Int × Int)) (i : Nat) : Int × Int := S.getD i (0, 0)
def meD (p q r t : Int × Int) : PD := .tuple [.int (dist2 p q), .int (dist2 r t), .int (mM p q r t)]
theorem m_measures_ {S E : List (Int × Int)} {c : Int} (i j : Nat) (hS : ∀ p ∈ S, OnF p) (hE : ∀ p ∈ E, OnF p) (hl : S.length = E.length) (hi : i < S.length) (hj : j < S.length) :
    m_measures [.fz (mvD S E c), .fz (.int i), .fz (.int j)] = .ret (.fz (meD (gP S i) (gP S j) (gP E i) (gP E j))) [.fz (mvD S E c), .fz (.int i), .fz (.int j)] := by
  unfold m_measures
  refine (semOf_ (by rfl) (by rfl)).trans ?_
  obtain ⟨o1, g1⟩ := getD_all hS hi
  obtain ⟨o2, g2⟩ := getD_all hS hj
  obtain ⟨o3, g3⟩ := getD_all hE (i := i) (by omega)
  obtain ⟨o4, g4⟩ := getD_all hE (i := j) (by omega)
  unfold gP meD mM
  generalize S.getD i (0, 0) = p at *
  generalize S.getD j (0, 0) = q at *
  generalize E.getD i (0, 0) = r at *
  generalize E.getD j (0, 0) = t at *
  have sq1 := m_squared_ o1 o2
  have sq2 := m_squared_ o3 o4
  obtain ⟨b1, b2, b3, b4⟩ := on_bd o1 o2
  obtain ⟨c1, c2, c3, c4⟩ := on_bd o3 o4
  unfold mvD fmD
  simp (disch := omega) [s_measures, range01, atI_nat, g1, g2, g3, g4, gIx_pt0, gIx_pt1, sq1, sq2]
theorem m_nearest_pair_ {S E : List (Int × Int)} {c : Int} (i j : Nat) (hS : ∀ p ∈ S, OnF p) (hE : ∀ p ∈ E, OnF p) (hl : S.length = E.length) (hi : i < S.length) (hj : j < S.length) (c1 : 1 ≤ c) (c2 : c ≤ 64) :
    m_nearest_pair [.fz (mvD S E c), .fz (.int i), .fz (.int j)] = .ret (.fz (nrD c (dist2 (gP S i) (gP S j)) (dist2 (gP E i) (gP E j)) (mM (gP S i) (gP S j) (gP E i) (gP E j)))) [.fz (mvD S E c), .fz (.int i), .fz (.int j)] := by
  unfold m_nearest_pair
  refine (semOf_ (by rfl) (by rfl)).trans ?_
  obtain ⟨o1, _⟩ := getD_all hS hi
  obtain ⟨o2, _⟩ := getD_all hS hj
  obtain ⟨o3, _⟩ := getD_all hE (i := i) (by omega)
  obtain ⟨o4, _⟩ := getD_all hE (i := j) (by omega)
  have me := m_measures_ (c := c) i j hS hE hl hi hj
  have Hm := me_of o1 o2 o3 o4
  unfold meD gP at *
  generalize dist2 (S.getD i (0, 0)) (S.getD j (0, 0)) = a at *
  generalize dist2 (E.getD i (0, 0)) (E.getD j (0, 0)) = b at *
  generalize mM (S.getD i (0, 0)) (S.getD j (0, 0)) (E.getD i (0, 0)) (E.getD j (0, 0)) = m at *
  have mb := Hm.m_bd
  have g2 : gIx (mvD S E c) (.int 2) = some (.fz (.int c)) := rfl
  generalize mvD S E c = mv at *
  obtain ⟨x1, x2, x3, x4, x5, x6, x7⟩ := Hm
  unfold nrD nrF nrT
  by_cases h1 : a + b - 2 * m = 0 ∨ a ≤ m
  · rw [if_pos h1, if_pos h1]
    rw [frD_one, frD_one]
    rcases h1 with h1 | h1
    · simp (disch := omega) [s_nearest_pair, me, h1]
    · by_cases h0 : a + b - 2 * m = 0
      · simp (disch := omega) [s_nearest_pair, me, h0]
      · simp (disch := omega) [s_nearest_pair, me, h0, h1]
  · have h0 : ¬ a + b - 2 * m = 0 := fun q => h1 (.inl q)
    have h2 : ¬ a ≤ m := fun q => h1 (.inr q)
    rw [if_neg h1, if_neg h1]
    by_cases h3 : b ≤ m
    · rw [if_pos h3, if_pos h3, frD_one, frD_one]
      simp (disch := omega) [s_nearest_pair, me, h0, h2, h3, g2]
    · rw [if_neg h3, if_neg h3]
      have f1 := fun x => m_fraction_ x (a + b - 2 * m) h0 (by omega)
      simp (disch := omega) [s_nearest_pair, me, h0, h2, h3, g2, f1, frD]
theorem qf_0 (a b m c : Int) : qf a b m c 0 = a * (c * c) := by unfold qf; grind
theorem qf_c (a b m c : Int) : qf a b m c c = b * (c * c) := by unfold qf; grind
theorem m__law_nearest_ {S E : List (Int × Int)} {c : Int} (i j : Nat) (hS : ∀ p ∈ S, OnF p) (hE : ∀ p ∈ E, OnF p) (hl : S.length = E.length) (hi : i < S.length) (hj : j < S.length) (c1 : 1 ≤ c) (c2 : c ≤ 64) :
    m__law_nearest [.fz (mvD S E c), .fz (.int i), .fz (.int j)] = .ret (.fz (nrD c (dist2 (gP S i) (gP S j)) (dist2 (gP E i) (gP E j)) (mM (gP S i) (gP S j) (gP E i) (gP E j)))) [.fz (mvD S E c), .fz (.int i), .fz (.int j)] := by
  unfold m__law_nearest
  refine (semOf_ (by rfl) (by rfl)).trans ?_
  obtain ⟨o1, g1⟩ := getD_all hS hi
  obtain ⟨o2, g2⟩ := getD_all hS hj
  obtain ⟨o3, g3⟩ := getD_all hE (i := i) (by omega)
  obtain ⟨o4, g4⟩ := getD_all hE (i := j) (by omega)
  have fr := fun n d (h1 : 1 ≤ d) (h2 : d ≤ 10000000000) (h3 : 0 ≤ n) (h4 : n ≤ c * d) => m__law_far_v1_ (c := c) (n := n) (d := d) i j hS hE hl hi hj c1 c2 h1 h2 h3 h4
  have Hm := me_of o1 o2 o3 o4
  unfold gP at *
  simp only [farI_qf] at fr
  obtain ⟨b1, b2, b3, b4⟩ := on_bd o1 o2
  obtain ⟨d1, d2, d3, d4⟩ := on_bd o3 o4
  generalize hA : dist2 (S.getD i (0, 0)) (S.getD j (0, 0)) = a at *
  generalize hB : dist2 (E.getD i (0, 0)) (E.getD j (0, 0)) = b at *
  generalize hM : mM (S.getD i (0, 0)) (S.getD j (0, 0)) (E.getD i (0, 0)) (E.getD j (0, 0)) = m at *
  -- the sums
  have lp : sLoop (gN 3)
    (sSq (sPar [9, 10] (aV (eB2 FS.gSub (eB2 gIx (eB2 gIx (eB2 gIx (eN 0) (eC (.int 0))) (eN 2)) (eN 3)) (eB2 gIx (eB2 gIx (eB2 gIx (eN 0) (eC (.int 0))) (eN 1)) (eN 3))) (aV (eB2 FS.gSub (eB2 gIx (eB2 gIx (eB2 gIx (eN 0) (eC (.int 1))) (eN 2)) (eN 3)) (eB2 gIx (eB2 gIx (eB2 gIx (eN 0) (eC (.int 1))) (eN 1)) (eN 3))) aN)))
  (sPar [6, 7, 8] (aV (eB2 gAdd (eN 6) (eB2 gMul (eN 9) (eN 9))) (aV (eB2 gAdd (eN 7) (eB2 gMul (eN 10) (eN 10))) (aV (eB2 gAdd (eN 8) (eB2 gMul (eN 9) (eN 10))) aN))))) (rangeD 0 2)
    [some (.fz (mvD S E c)), some (.fz (.int i)), some (.fz (.int j)), none, none, none, some (.fz (.int 0)), some (.fz (.int 0)), some (.fz (.int 0)), none, none] = .nx
    [some (.fz (mvD S E c)), some (.fz (.int i)), some (.fz (.int j)), some (.fz (.int 1)), none, none, some (.fz (.int a)), some (.fz (.int b)), some (.fz (.int m)), some (.fz (.int ((S.getD j (0, 0)).2 - (S.getD i (0, 0)).2))), some (.fz (.int ((E.getD j (0, 0)).2 - (E.getD i (0, 0)).2)))] := by
    rw [← hA, ← hB, ← hM]
    clear fr Hm hA hB hM
    generalize S.getD i (0, 0) = p at *
    generalize S.getD j (0, 0) = q at *
    generalize E.getD i (0, 0) = r at *
    generalize E.getD j (0, 0) = t at *
    have ea : ∀ u v : Int × Int, dist2 u v = (v.1 - u.1) * (v.1 - u.1) + (v.2 - u.2) * (v.2 - u.2) := fun u v => by unfold dist2; grind
    rw [ea, ea]
    unfold mvD fmD mM
    simp (disch := omega) [range01, atI_nat, g1, g2, g3, g4, gIx_pt0, gIx_pt1]
  clear hA hB hM g1 g2 g3 g4
  have mb := Hm.m_bd
  have g2 : gIx (mvD S E c) (.int 2) = some (.fz (.int c)) := rfl
  have hme := Hm
  obtain ⟨x1, x2, x3, x4, x5, x6, x7⟩ := Hm
  have hcc : 0 < c * c := Int.mul_pos (by omega) (by omega)
  unfold nrD nrF nrT
  unfold s__law_nearest
  by_cases h1 : a + b - 2 * m = 0 ∨ a ≤ m
  · rw [if_pos h1, if_pos h1]
    have f0 := fr 0 1 (by omega) (by omega) (by omega) (by omega)
    rw [Int.mul_one, qf_0, frD_eq hcc Int.one_pos (b := a) (by omega), frD_one] at f0
    rw [frD_one, frD_one]
    generalize mvD S E c = mv at *
    rcases h1 with h1 | h1
    · simp (disch := omega) [lp, h1, f0]
    · by_cases h0 : a + b - 2 * m = 0
      · simp (disch := omega) [lp, h0, f0]
      · simp (disch := omega) [lp, h0, h1, f0]
  · have h0 : ¬ a + b - 2 * m = 0 := fun q => h1 (.inl q)
    have h2 : ¬ a ≤ m := fun q => h1 (.inr q)
    rw [if_neg h1, if_neg h1]
    by_cases h3 : b ≤ m
    · have h4 : a + b - 2 * m ≤ a - m := by omega
      rw [if_pos h3, if_pos h3]
      have f0 := fr c 1 (by omega) (by omega) (by omega) (by omega)
      rw [Int.mul_one, qf_c, frD_eq hcc Int.one_pos (b := b) (by omega), frD_one] at f0
      rw [frD_one, frD_one]
      generalize mvD S E c = mv at *
      simp (disch := omega) [lp, h0, h2, h3, h4, g2, f0]
    · have h4 : ¬ a + b - 2 * m ≤ a - m := by omega
      rw [if_neg h3, if_neg h3]
      have hw : 0 < a + b - 2 * m := by omega
      have lo := m__law_lowest_ (c * (a - m)) (a + b - 2 * m) hw (by omega)
      obtain ⟨k1, k2, k3⟩ := frN_spec (n := c * (a - m)) hw
      have hk : 0 ≤ c * (a - m) := Int.mul_nonneg (by omega) (by omega)
      obtain ⟨l1, l2, l3, l4⟩ := frN_bd (n := c * (a - m)) hw hk
      generalize hn : frN (c * (a - m)) (a + b - 2 * m) = n at *
      generalize hd : frDn (c * (a - m)) (a + b - 2 * m) = d at *
      generalize ((Int.gcd (c * (a - m)) (a + b - 2 * m) : Nat) : Int) = g at *
      have hle : n ≤ c * d := by
        have e1 : c * (a - m) ≤ c * (a + b - 2 * m) := Int.mul_le_mul_of_nonneg_left (by omega) (by omega)
        rw [← k1, ← k2, ← Int.mul_assoc] at e1
        exact Int.le_of_mul_le_mul_right e1 k3
      have f0 := fr n d (by omega) (by omega) l1 hle
      have hcd : 0 < c * d * (c * d) := Int.mul_pos (Int.mul_pos (by omega) l3) (Int.mul_pos (by omega) l3)
      have hq : qf a b m (c * d) n * (a + b - 2 * m) = (a * b - m * m) * (c * d * (c * d)) := by
        have hgg : g * g ≠ 0 := Int.ne_of_gt (Int.mul_pos k3 k3)
        refine Int.eq_of_mul_eq_mul_right hgg ?_
        unfold qf
        grind
      rw [frD_eq hcd hw hq] at f0
      have ed : frD (c * (a - m)) (a + b - 2 * m) = .tuple [.int n, .int d] := by unfold frD; rw [hn, hd]
      rw [ed] at lo ⊢
      have mp := mul_bd (x := c) (y := a - m) (a := 64) (b := 100000000) (by omega) (by omega) (by omega) (by omega)
      generalize mvD S E c = mv at *
      simp (disch := omega) [lp, h0, h2, h3, h4, g2, lo, f0]
end MX
namespace MX
open PySem PySem.Spec L2 FS FX
/-! ### sets of cells, far enough apart: the plain law -/
abbrev Cl := Int × Int
def pl (p q : Cl) : Bool := decide (p.1 < q.1) || (decide (p.1 = q.1) && decide (p.2 < q.2))
def ap (a : Int) (p q : Cl) : Bool := decide (a ≤ dist2 p q)
theorem pl_iff {p q : Cl} : pl p q = true ↔ p.1 < q.1 ∨ (p.1 = q.1 ∧ p.2 < q.2) := by unfold pl; simp
theorem pl_tr {p q r : Cl} (h : pl p q = true) (h' : pl q r = true) : pl p r = true := by rw [pl_iff] at *; omega
theorem pl_irr {p : Cl} : ¬ pl p p = true := by rw [pl_iff]; omega
theorem pl_asym {p q : Cl} (h : pl p q = true) : ¬ pl q p = true := by rw [pl_iff] at *; omega
theorem dist2_comm (p q : Cl) : dist2 p q = dist2 q p := by unfold dist2; grind
theorem ap_comm (a : Int) (p q : Cl) : ap a p q = ap a q p := by unfold ap; rw [dist2_comm]
def AS (a : Int) : Nat → List Cl → List (List Cl)
  | 0, _ => [[]]
  | _ + 1, [] => []
  | m + 1, x :: r => (AS a m (r.filter (ap a x))).map (x :: ·) ++ AS a (m + 1) r
termination_by m l => l.length
decreasing_by
  · have h := List.length_filter_le (ap a x) r
    simp only [List.length_cons]
    simp at *
    omega
  · exact Nat.lt_succ_self _
theorem AS_0 (a : Int) (l : List Cl) : AS a 0 l = [[]] := by rw [AS]
theorem AS_nil (a : Int) (m : Nat) : AS a (m + 1) [] = [] := by rw [AS]
theorem AS_cons (a : Int) (m : Nat) (x : Cl) (r : List Cl) : AS a (m + 1) (x :: r) = (AS a m (r.filter (ap a x))).map (x :: ·) ++ AS a (m + 1) r := by rw [AS]
theorem AS_short (a : Int) : ∀ (n : Nat) (l : List Cl) (m : Nat), l.length ≤ n → l.length < m → AS a m l = []
  | _, [], m + 1, _, _ => AS_nil a m
  | n + 1, x :: r, m + 1, hn, h => by
    simp only [List.length_cons] at h hn
    have := List.length_filter_le (ap a x) r
    rw [AS_cons, AS_short a n r (m + 1) (by omega) (by omega), AS_short a n _ m (by omega) (by omega)]; rfl
theorem AS_len (a : Int) : ∀ (n : Nat) (l : List Cl) (m : Nat), l.length ≤ n → (AS a m l).length ≤ 2 ^ l.length
  | _, l, 0, _ => by rw [AS_0]; exact Nat.one_le_two_pow
  | _, [], m + 1, _ => by rw [AS_nil]; exact Nat.zero_le _
  | n + 1, x :: r, m + 1, hn => by
    simp only [List.length_cons] at hn
    have h0 := List.length_filter_le (ap a x) r
    have h1 := AS_len a n (r.filter (ap a x)) m (by omega)
    have h2 := AS_len a n r (m + 1) (by omega)
    have h3 : 2 ^ (r.filter (ap a x)).length ≤ 2 ^ r.length := Nat.pow_le_pow_right (by decide) h0
    rw [AS_cons, List.length_append, List.length_map, List.length_cons, Nat.pow_succ]
    omega
/-- as the program goes through them -/
def ASk (a : Int) (m : Nat) (l : List Cl) (t : Nat) : List (List Cl) := (List.range t).flatMap fun k => (AS a m ((l.drop (k + 1)).filter (ap a (l.getD k (0, 0))))).map (l.getD k (0, 0) :: ·)
theorem ASk_succ (a : Int) (m : Nat) (l : List Cl) (t : Nat) : ASk a m l (t + 1) = ASk a m l t ++ (AS a m ((l.drop (t + 1)).filter (ap a (l.getD t (0, 0))))).map (l.getD t (0, 0) :: ·) := by
  unfold ASk
  rw [List.range_succ, List.flatMap_append]
  simp
theorem ASk_end (a : Int) (m : Nat) : ∀ l : List Cl, ASk a m l (l.length - m) = AS a (m + 1) l
  | [] => by rw [AS_nil]; simp [ASk]
  | x :: r => by
    rw [AS_cons]
    by_cases h : m ≤ r.length
    · have e : (x :: r).length - m = (r.length - m) + 1 := by simp only [List.length_cons]; omega
      rw [e]
      unfold ASk
      rw [List.range_succ_eq_map, List.flatMap_cons, List.flatMap_map, ← ASk_end a m r]
      rfl
    · have e : (x :: r).length - m = 0 := by simp only [List.length_cons]; omega
      rw [e, AS_short a _ r (m + 1) (Nat.le_refl _) (by omega), AS_short a _ _ m (Nat.le_refl _) (by have := List.length_filter_le (ap a x) r; omega)]
      rfl
theorem ASk_le (a : Int) (m : Nat) (l : List Cl) {t : Nat} (h : t ≤ l.length - m) : (ASk a m l t).length ≤ (AS a (m + 1) l).length := by
  rw [← ASk_end]
  unfold ASk
  have e : List.range t = (List.range (l.length - m)).take t := by rw [List.take_range, Nat.min_eq_left h]
  rw [e]
  generalize List.range (l.length - m) = xs
  generalize (fun k => (AS a m ((l.drop (k + 1)).filter (ap a (l.getD k (0, 0))))).map (l.getD k (0, 0) :: ·)) = f
  have e2 : xs.flatMap f = (xs.take t).flatMap f ++ (xs.drop t).flatMap f := by rw [← List.flatMap_append, List.take_append_drop]
  rw [e2, List.length_append]
  omega
theorem AS_sub (a : Int) (m : Nat) (l : List Cl) {t : Nat} (h : t < l.length - m) : (AS a m ((l.drop (t + 1)).filter (ap a (l.getD t (0, 0))))).length ≤ (AS a (m + 1) l).length := by
  have h1 := ASk_le a m l (t := t + 1) h
  rw [ASk_succ, List.length_append, List.length_map] at h1
  omega
/-- what goes on behind some -/
def gt (s : List Cl) (c : Cl) : Bool := match s.getLast? with
  | none => true
  | some q => pl q c
def fit (a : Int) (s : List Cl) (c : Cl) : Bool := gt s c && s.all fun o => ap a o c
def exts (a : Int) (l : List Cl) (s : List Cl) : List (List Cl) := (l.filter (fit a s)).map fun c => s ++ [c]
def Asc (l : List Cl) : Prop := l.Pairwise fun p q => pl p q = true
theorem Asc.tail {x : Cl} {r : List Cl} (h : Asc (x :: r)) : Asc r := (List.pairwise_cons.mp h).2
theorem Asc.head {x : Cl} {r : List Cl} (h : Asc (x :: r)) : ∀ y ∈ r, pl x y = true := (List.pairwise_cons.mp h).1
theorem Asc.filter {l : List Cl} (h : Asc l) (p : Cl → Bool) : Asc (l.filter p) := List.Pairwise.sublist List.filter_sublist h
theorem AS_in (a : Int) : ∀ (n : Nat) (l : List Cl) (m : Nat) (s : List Cl), l.length ≤ n → Asc l → (s ∈ AS a m l ↔ s.length = m ∧ Asc s ∧ (∀ c ∈ s, c ∈ l) ∧ s.Pairwise fun p q => ap a p q = true)
  | _, l, 0, s, _, _ => by
    rw [AS_0, List.mem_singleton]
    constructor
    · intro h; subst h; exact ⟨rfl, List.Pairwise.nil, (fun _ h => nomatch h), List.Pairwise.nil⟩
    · intro h; exact List.length_eq_zero_iff.mp h.1
  | _, [], m + 1, s, _, _ => by
    rw [AS_nil]
    constructor
    · intro h; cases h
    · rintro ⟨h1, _, h3, _⟩
      cases s with
      | nil => cases h1
      | cons c s => exact absurd (h3 c List.mem_cons_self) (by simp)
  | n + 1, x :: r, m + 1, s, hn, hl => by
    simp only [List.length_cons] at hn
    have h0 := List.length_filter_le (ap a x) r
    rw [AS_cons, List.mem_append, AS_in a n r (m + 1) s (by omega) hl.tail, List.mem_map]
    constructor
    · rintro (⟨t, ht, rfl⟩ | ⟨h1, h2, h3, h4⟩)
      · obtain ⟨h1, h2, h3, h4⟩ := (AS_in a n (r.filter (ap a x)) m t (by omega) (hl.tail.filter _)).mp ht
        refine ⟨by simp [h1], List.pairwise_cons.mpr ⟨fun c hc => hl.head c (List.mem_filter.mp (h3 c hc)).1, h2⟩, fun c hc => ?_, List.pairwise_cons.mpr ⟨fun c hc => (List.mem_filter.mp (h3 c hc)).2, h4⟩⟩
        rcases List.mem_cons.mp hc with rfl | hc
        · exact List.mem_cons_self
        · exact List.mem_cons_of_mem _ (List.mem_filter.mp (h3 c hc)).1
      · exact ⟨h1, h2, fun c hc => List.mem_cons_of_mem _ (h3 c hc), h4⟩
    · rintro ⟨h1, h2, h3, h4⟩
      cases s with
      | nil => cases h1
      | cons c t =>
        obtain ⟨b1, b2⟩ := List.pairwise_cons.mp h2
        obtain ⟨d1, d2⟩ := List.pairwise_cons.mp h4
        rcases List.mem_cons.mp (h3 c List.mem_cons_self) with rfl | hc
        · refine .inl ⟨t, (AS_in a n (r.filter (ap a c)) m t (by omega) (hl.tail.filter _)).mpr ⟨by simpa using h1, b2, fun y hy => ?_, d2⟩, rfl⟩
          refine List.mem_filter.mpr ⟨?_, d1 y hy⟩
          rcases List.mem_cons.mp (h3 y (List.mem_cons_of_mem _ hy)) with rfl | h
          · exact absurd (b1 y hy) pl_irr
          · exact h
        · refine .inr ⟨h1, h2, fun y hy => ?_, h4⟩
          rcases List.mem_cons.mp hy with rfl | hy
          · exact hc
          · rcases List.mem_cons.mp (h3 y (List.mem_cons_of_mem _ hy)) with rfl | h
            · exact absurd (b1 y hy) (pl_asym (hl.head c hc))
            · exact h
theorem exts_cons {a : Int} {x : Cl} {r : List Cl} (hl : Asc (x :: r)) (t : List Cl) (ht : ∀ c ∈ t, c ∈ r.filter (ap a x)) : exts a (x :: r) (x :: t) = (exts a (r.filter (ap a x)) t).map (x :: ·) := by
  unfold exts
  rw [List.map_map]
  have e1 : (x :: r).filter (fit a (x :: t)) = (r.filter (ap a x)).filter (fit a t) := by
    rw [List.filter_cons]
    have n1 : ¬ fit a (x :: t) x = true := by
      unfold fit gt
      intro h
      simp only [Bool.and_eq_true] at h
      have h := h.1
      cases e : t.getLast? with
      | none => rw [List.getLast?_cons, e] at h; exact pl_irr h
      | some q =>
        rw [List.getLast?_cons, e] at h
        exact pl_asym (hl.head q (List.mem_filter.mp (ht q (List.mem_of_getLast? e))).1) h
    rw [if_neg n1, List.filter_filter]
    refine List.filter_congr fun c hc => ?_
    unfold fit gt
    rw [List.getLast?_cons]
    have hxc := hl.head c hc
    cases e : t.getLast? with
    | none =>
      simp only [Option.getD_none, hxc, List.all_cons, Bool.true_and]
      exact Bool.and_comm _ _
    | some q =>
      simp only [Option.getD_some, List.all_cons]
      cases pl q c <;> cases ap a x c <;> simp
  rw [e1]
  rfl
theorem exts_skip {a : Int} {x : Cl} {r : List Cl} (hl : Asc (x :: r)) (s : List Cl) (hs : s ≠ []) (hr : ∀ c ∈ s, c ∈ r) : exts a (x :: r) s = exts a r s := by
  unfold exts
  rw [List.filter_cons]
  have n1 : ¬ fit a s x = true := by
    unfold fit gt
    intro h
    simp only [Bool.and_eq_true] at h
    have h := h.1
    cases e : s.getLast? with
    | none => exact hs (List.getLast?_eq_none_iff.mp e)
    | some q =>
      rw [e] at h
      exact pl_asym (hl.head q (hr q (List.mem_of_getLast? e))) h
  rw [if_neg n1]
theorem exts_nil (a : Int) (l : List Cl) : exts a l [] = l.map fun c => [c] := by
  unfold exts
  have : l.filter (fit a []) = l := List.filter_eq_self.mpr fun c _ => rfl
  rw [this]; rfl
theorem AS_one (a : Int) : ∀ l : List Cl, AS a 1 l = l.map fun c => [c]
  | [] => AS_nil a 0
  | x :: r => by rw [AS_cons, AS_0, AS_one a r]; rfl
theorem flatMap_congr' {α β : Type} {f g : α → List β} : ∀ {l : List α}, (∀ x ∈ l, f x = g x) → l.flatMap f = l.flatMap g
  | [], _ => rfl
  | x :: r, h => by rw [List.flatMap_cons, List.flatMap_cons, h x List.mem_cons_self, flatMap_congr' fun y hy => h y (List.mem_cons_of_mem _ hy)]
theorem AS_step (a : Int) : ∀ (n : Nat) (l : List Cl) (m : Nat), l.length ≤ n → Asc l → AS a (m + 1) l = (AS a m l).flatMap (exts a l)
  | _, l, 0, _, _ => by
    rw [AS_0, AS_one]
    simp [exts_nil]
  | _, [], m + 1, _, _ => by rw [AS_nil, AS_nil]; rfl
  | n + 1, x :: r, m + 1, hn, hl => by
    simp only [List.length_cons] at hn
    have h0 := List.length_filter_le (ap a x) r
    rw [AS_cons a (m + 1), AS_cons a m, List.flatMap_append, List.flatMap_map]
    congr 1
    · rw [AS_step a n (r.filter (ap a x)) m (by omega) (hl.tail.filter _), List.map_flatMap]
      refine flatMap_congr' fun t ht => ?_
      rw [exts_cons hl t ((AS_in a n _ m t (by omega) (hl.tail.filter _)).mp ht).2.2.1]
    · rw [AS_step a n r (m + 1) (by omega) hl.tail]
      refine flatMap_congr' fun s hs => ?_
      obtain ⟨h1, _, h3, _⟩ := (AS_in a n r (m + 1) s (by omega) hl.tail).mp hs
      rw [exts_skip hl s (by intro e; rw [e] at h1; cases h1) h3]
end MX
namespace MX
open PySem PySem.Spec L2 FS FX
/-! ### extend, index -/
section
variable {i n : Nat} {F G : EF} {δ δ1 : Env'} {l : L} {ds : List PD}
def xtR (i : Nat) (F : EF) (o : Option (Option M)) (δ : Env') : SR := match o with
  | some (some (.v (.lst _))) => (F δ).s fun m δ1 => (match m, δ1[i]? with
    | .v (.lst ls'), some (some (.v (.lst ls))) => if ls.length + ls'.length ≤ big then .nx (δ1.set i (some (.lst (ls ++ ls')))) else .bad
    | _, _ => .bad)
  | _ => .bad
def xtK (i : Nat) (r : R M) : SR := r.s fun m δ1 => (match m, δ1[i]? with
    | .v (.lst ls'), some (some (.v (.lst ls))) => if ls.length + ls'.length ≤ big then .nx (δ1.set i (some (.lst (ls ++ ls')))) else .bad
    | _, _ => .bad)
def xtL (i : Nat) (ls' : List L) (o : Option (Option M)) (δ : Env') : SR := match o with
  | some (some (.v (.lst ls))) => if ls.length + ls'.length ≤ big then .nx (δ.set i (some (.lst (ls ++ ls')))) else .bad
  | _ => .bad
@[simp] theorem sExt_ : sExt i F δ = xtR i F δ[i]? δ := nr rfl
@[simp] theorem xtR_ok {ls : List L} : xtR i F (some (some (.v (.lst ls)))) δ = xtK i (F δ) := nr rfl
@[simp] theorem xtK_ok {ls : List L} : xtK i (.ok (.v (.lst ls)) δ) = xtL i ls δ[i]? δ := by
  show (match (M.v (.lst ls)), δ[i]? with
    | .v (.lst ls'), some (some (.v (.lst ls))) => if ls.length + ls'.length ≤ big then SR.nx (δ.set i (some (.lst (ls ++ ls')))) else .bad
    | _, _ => .bad) = _
  unfold xtL
  cases δ[i]? with
  | none => rfl
  | some o => cases o with
    | none => rfl
    | some m => cases m with
      | o _ _ _ => rfl
      | v l => cases l <;> rfl
@[simp] theorem xtL_ok {ls ls' : List L} : xtL i ls' (some (some (.v (.lst ls)))) δ = if ls.length + ls'.length ≤ big then .nx (δ.set i (some (.lst (ls ++ ls')))) else .bad := nr rfl
def idK (ds : List PD) (r : R M) : R M := r.p fun b δ2 => if okNs 12 ds && okN 12 b then (match SeqAt.dataPlace ds b with
    | some j => .ok (.fz (.int (j : Nat))) δ2
    | none => .bad) else .bad
def idL (o : Option Nat) (δ : Env') : R M := match o with
  | some j => .ok (.fz (.int (j : Nat))) δ
  | none => .bad
def idJ (G : EF) (d : PD) (δ : Env') : R M := match d with
  | .list ds => (G δ).p fun b δ2 => if okNs 12 ds && okN 12 b then (match SeqAt.dataPlace ds b with
    | some j => .ok (.fz (.int (j : Nat))) δ2
    | none => .bad) else .bad
  | _ => .bad
def idR (G : EF) (r : R M) : R M := r.p (idJ G)
@[simp] theorem eIdx_ : eIdx F G δ = idR G (F δ) := nr rfl
@[simp] theorem idR_ok {l : L} : idR G (.ok (.v l) δ) = idJ G l.pd δ := nr rfl
@[simp] theorem idJ_ok : idJ G (.list ds) δ = idK ds (G δ) := nr rfl
@[simp] theorem idK_ok {l : L} : idK ds (.ok (.v l) δ) = if okNs 12 ds && okN 12 l.pd then idL (SeqAt.dataPlace ds l.pd) δ else .bad := nr rfl
@[simp] theorem idL_ok {j : Nat} : idL (some j) δ = .ok (.fz (.int (j : Nat))) δ := nr rfl
end
theorem m_are_apart_ {p q : Cl} {a : Int} (hp : OnF p) (hq : OnF q) : m_are_apart [.fz (ptD p), .fz (ptD q), .fz (.int a)] = .ret (.fz (.bool (ap a p q))) [.fz (ptD p), .fz (ptD q), .fz (.int a)] := by
  unfold m_are_apart
  refine (semOf_ (by rfl) (by rfl)).trans ?_
  obtain ⟨p1, p2, p3, p4⟩ := hp
  obtain ⟨q1, q2, q3, q4⟩ := hq
  unfold s_are_apart ap dist2
  have e1 : (q.1 - p.1) * (q.1 - p.1) = (p.1 - q.1) * (p.1 - q.1) := by grind
  simp (disch := omega) [gIx_pt0, gIx_pt1]
theorem m__law_far_v2_ {p q : Cl} (hp : OnF p) (hq : OnF q) : m__law_far_v2 [.fz (ptD p), .fz (ptD q)] = .ret (.fz (.int (dist2 p q))) [.fz (ptD p), .fz (ptD q)] := by
  unfold m__law_far_v2
  refine (semOf_ (by rfl) (by rfl)).trans ?_
  obtain ⟨p1, p2, p3, p4⟩ := hp
  obtain ⟨q1, q2, q3, q4⟩ := hq
  unfold s__law_far_v2 dist2
  simp (disch := omega) [gIx_pt0, gIx_pt1]
def lsF (ss : List (List Cl)) : List L := ss.map fun s => .lst (lsP s)
theorem lsF_pds : ∀ ss : List (List Cl), L.pds (lsF ss) = ss.map fmD
  | [] => rfl
  | s :: r => by
    show (L.lst (lsP s)).pd :: L.pds (lsF r) = fmD s :: r.map fmD
    rw [lsF_pds r]
    show PyData.list (L.pds (lsP s)) :: _ = _
    rw [lsP_pds]; rfl
theorem lsF_app (a b : List (List Cl)) : lsF (a ++ b) = lsF a ++ lsF b := List.map_append
theorem lsF_len (a : List (List Cl)) : (lsF a).length = a.length := List.length_map _
theorem lsP_def (s : List Cl) : (s.map ptD).map L.fz = lsP s := by unfold lsP; rw [List.map_map]; rfl
noncomputable def asB (f : Nat) : SF := (sSq (sAs 5 (eLc [6] (iE (eSl (eN 0) (oE (eB2 gAdd (eN 4) (eC (.int 1)))) oN)) (gN 6) (tTru (eCl m_are_apart (aV (eB2 gIx (eN 0) (eN 4)) (aV (eN 6) (aV (eN 2) aN))))) (eN 6)))
  (sExt 3 (eLc [7] (iE (eCl (m_all_sets f) (aV (eN 5) (aV (eB2 FS.gSub (eN 1) (eC (.int 1))) (aV (eN 2) aN))))) (gN 7) tY (eB2 gAdd (eDs FS.gLst (aV (eB2 gIx (eN 0) (eN 4)) aN)) (eN 7)))))
def cB (l : List Cl) : Prop := ∀ p ∈ l, OnF p
theorem cB.filter {l : List Cl} (h : cB l) (p : Cl → Bool) : cB (l.filter p) := fun x hx => h x (List.mem_filter.mp hx).1
theorem cB.drop {l : List Cl} (h : cB l) (n : Nat) : cB (l.drop n) := fun x hx => h x (List.mem_of_mem_drop hx)
theorem gIx_fm {l : List Cl} {t : Nat} (h : t < l.length) : gIx (fmD l) (.int (t : Int)) = some (.fz (ptD (l.getD t (0, 0)))) := by
  unfold gIx fmD
  simp only [atI_nat, List.getElem?_map, List.getD, List.getElem?_eq_getElem h]
  rfl
theorem AS_lenE (a : Int) : ∀ (n : Nat) (l : List Cl) (m : Nat), l.length ≤ n → ∀ s ∈ AS a m l, s.length = m
  | _, l, 0, _, s, hs => by rw [AS_0, List.mem_singleton] at hs; rw [hs]; rfl
  | _, [], m + 1, _, s, hs => by rw [AS_nil] at hs; cases hs
  | n + 1, x :: r, m + 1, hn, s, hs => by
    simp only [List.length_cons] at hn
    have h0 := List.length_filter_le (ap a x) r
    rw [AS_cons, List.mem_append, List.mem_map] at hs
    rcases hs with ⟨t, ht, rfl⟩ | hs
    · have := AS_lenE a n _ m (by omega) t ht
      simp [this]
    · exact AS_lenE a n r (m + 1) (by omega) s hs
theorem as_body (f : Nat) (a : Int) (m : Nat) (l : List Cl) (hb : cB l) (hl : l.length ≤ 1000)
    (ih : ∀ l' : List Cl, cB l' → l'.length ≤ 1000 → (AS a m l').length ≤ 10000000 → ∃ x : L, x.pd = .list ((AS a m l').map fmD) ∧ m_all_sets f [.fz (fmD l'), .fz (.int m), .fz (.int a)] = .ret (.v x) [.fz (fmD l'), .fz (.int m), .fz (.int a)])
    (t : Nat) (ht : t < l.length - m) (hA : (AS a (m + 1) l).length ≤ 10000000) (v5 : Option M) : ∃ v5',
    asB f [some (.fz (fmD l)), some (.fz (.int ((m + 1 : Nat) : Int))), some (.fz (.int a)), some (.v (.lst (lsF (ASk a m l t)))), some (.fz (.int (t : Int))), v5, none, none] =
      .nx [some (.fz (fmD l)), some (.fz (.int ((m + 1 : Nat) : Int))), some (.fz (.int a)), some (.v (.lst (lsF (ASk a m l (t + 1))))), some (.fz (.int (t : Int))), v5', none, none] := by
  have hbt : OnF (l.getD t (0, 0)) := (getD_on hb (by omega)).1
  have hix := gIx_fm (l := l) (t := t) (by omega)
  have hsl : gSl (fmD l) (some ((t : Int) + 1)) none = some (.lst (lsP (l.drop (t + 1)))) := by
    have := gSl_hi (l.map ptD) (t + 1)
    push_cast at this
    rw [← List.map_drop, lsP_def] at this
    exact this
  have em : ((m + 1 : Nat) : Int) - 1 = (m : Int) := by omega
  generalize hM : ((m + 1 : Nat) : Int) = MM at *
  have hle := ASk_le a m l (t := t) (by omega)
  have hsub := AS_sub a m l ht
  have hsl' := ASk_le a m l (t := t + 1) (by omega)
  have hdl : (l.drop (t + 1)).length ≤ 1000 := by rw [List.length_drop]; omega
  have hfl := List.length_filter_le (ap a (l.getD t (0, 0))) (l.drop (t + 1))
  obtain ⟨x, x1, x2⟩ := ih ((l.drop (t + 1)).filter (ap a (l.getD t (0, 0)))) ((hb.drop _).filter _) (by omega) (by omega)
  refine ⟨some (.fz (fmD ((l.drop (t + 1)).filter (ap a (l.getD t (0, 0)))))), ?_⟩
  have c1 := cLoop_flt (own := [6]) (G := gN 6) (T := (tTru (eCl m_are_apart (aV (eB2 gIx (eN 0) (eN 4)) (aV (eN 6) (aV (eN 2) aN)))))) (E := eN 6)
    (δ := [some (.fz (fmD l)), some (.fz (.int MM)), some (.fz (.int a)), some (.v (.lst (lsF (ASk a m l t)))), some (.fz (.int (t : Int))), v5, none, none]) ptD (ap a (l.getD t (0, 0))) (fun c => L.fz (ptD c)) (l.drop (t + 1)) (fun c hc => by
      have hco : OnF c := hb c (List.mem_of_mem_drop hc)
      have ea := m_are_apart_ (a := a) hbt hco
      generalize lsF (ASk a m l t) = A at *
      generalize fmD l = fl at *
      generalize ptD (l.getD t (0, 0)) = pt at *
      generalize ptD c = pc at *
      refine ⟨[some (.fz fl), some (.fz (.int MM)), some (.fz (.int a)), some (.v (.lst A)), some (.fz (.int (t : Int))), v5, some (.fz pc), none], [some (.fz fl), some (.fz (.int MM)), some (.fz (.int a)), some (.v (.lst A)), some (.fz (.int (t : Int))), v5, some (.fz pc), none], by simp, by simp [hix, ea, truD], fun _ => by simp, fun _ => ⟨_, by simp; rfl, by simp⟩⟩)
  have st1 : sAs 5 (eLc [6] (iE (eSl (eN 0) (oE (eB2 gAdd (eN 4) (eC (.int 1)))) oN)) (gN 6) (tTru (eCl m_are_apart (aV (eB2 gIx (eN 0) (eN 4)) (aV (eN 6) (aV (eN 2) aN))))) (eN 6)) [some (.fz (fmD l)), some (.fz (.int MM)), some (.fz (.int a)), some (.v (.lst (lsF (ASk a m l t)))), some (.fz (.int (t : Int))), v5, none, none] =
      .nx [some (.fz (fmD l)), some (.fz (.int MM)), some (.fz (.int a)), some (.v (.lst (lsF (ASk a m l t)))), some (.fz (.int (t : Int))), some (.v (.lst (lsP ((l.drop (t + 1)).filter (ap a (l.getD t (0, 0))))))), none, none] := by
    have hbg : ((l.drop (t + 1)).map ptD).length ≤ big := by rw [List.length_map]; unfold big; omega
    generalize lsF (ASk a m l t) = A at *
    generalize (l.drop (t + 1)).filter (ap a (l.getD t (0, 0))) = fl at *
    generalize l.drop (t + 1) = dl at *
    have hbg' : dl.length ≤ big := by simpa using hbg
    simp [hsl, lsP_pds, seqD, hbg', c1, keepOk]
    rfl
  have c2 := cLoop_all (own := [7]) (G := gN 7) (T := tY) (E := (eB2 gAdd (eDs FS.gLst (aV (eB2 gIx (eN 0) (eN 4)) aN)) (eN 7)))
    (δ := [some (.fz (fmD l)), some (.fz (.int MM)), some (.fz (.int a)), some (.v (.lst (lsF (ASk a m l t)))), some (.fz (.int (t : Int))), some (.fz (fmD ((l.drop (t + 1)).filter (ap a (l.getD t (0, 0)))))), none, none]) fmD (fun s => L.lst (lsP (l.getD t (0, 0) :: s))) rfl
    (AS a m ((l.drop (t + 1)).filter (ap a (l.getD t (0, 0))))) (fun s hs => by
      have hsl2 : s.length ≤ 1000 := by
        by_cases h : m ≤ 1000
        · have := (AS_lenE a _ _ m (Nat.le_refl _) s hs); omega
        · rw [AS_short a _ _ m (Nat.le_refl _) (by omega)] at hs; cases hs
      have ga : gAdd (.list [ptD (l.getD t (0, 0))]) (fmD s) = some (.lst (lsP (l.getD t (0, 0) :: s))) := by
        have := gAdd_lists (xs := [ptD (l.getD t (0, 0))]) (ys := s.map ptD) (by simp; omega)
        rw [← lsP_def]
        exact this
      generalize lsF (ASk a m l t) = A at *
      generalize fmD ((l.drop (t + 1)).filter (ap a (l.getD t (0, 0)))) = fl at *
      generalize fmD l = fl2 at *
      generalize lsP (l.getD t (0, 0) :: s) = out at *
      generalize ptD (l.getD t (0, 0)) = pt at *
      generalize fmD s = fs at *
      exact ⟨[some (.fz fl2), some (.fz (.int MM)), some (.fz (.int a)), some (.v (.lst A)), some (.fz (.int (t : Int))), some (.fz fl), none, some (.fz fs)], [some (.fz fl2), some (.fz (.int MM)), some (.fz (.int a)), some (.v (.lst A)), some (.fz (.int (t : Int))), some (.fz fl), none, some (.fz fs)], by simp, by simp [hix, ga], by simp⟩)
  have hpd : L.pds ((AS a m ((l.drop (t + 1)).filter (ap a (l.getD t (0, 0))))).map fun s => L.lst (lsP (l.getD t (0, 0) :: s))) = ((AS a m ((l.drop (t + 1)).filter (ap a (l.getD t (0, 0))))).map (l.getD t (0, 0) :: ·)).map fmD := by
    rw [← lsF_pds]; unfold lsF; rw [List.map_map]; rfl
  have hlx : lsF (ASk a m l t) ++ ((AS a m ((l.drop (t + 1)).filter (ap a (l.getD t (0, 0))))).map fun s => L.lst (lsP (l.getD t (0, 0) :: s))) = lsF (ASk a m l (t + 1)) := by
    rw [ASk_succ, lsF_app]
    congr 1
    unfold lsF; rw [List.map_map]; rfl
  have hll : (lsF (ASk a m l t)).length + (AS a m ((l.drop (t + 1)).filter (ap a (l.getD t (0, 0))))).length ≤ big := by
    have : (lsF (ASk a m l (t + 1))).length ≤ 10000000 := by rw [lsF_len]; omega
    rw [← hlx, List.length_append, List.length_map] at this
    unfold big; omega
  have hbs : (AS a m ((l.drop (t + 1)).filter (ap a (l.getD t (0, 0))))).length ≤ big := by unfold big; omega
  unfold asB
  rw [sSq_, st1, sqR_nx]
  have hlP : L.pds (lsP ((l.drop (t + 1)).filter (ap a (l.getD t (0, 0))))) = ((l.drop (t + 1)).filter (ap a (l.getD t (0, 0)))).map ptD := lsP_pds _
  have hfm : PyData.list (((l.drop (t + 1)).filter (ap a (l.getD t (0, 0)))).map ptD) = fmD ((l.drop (t + 1)).filter (ap a (l.getD t (0, 0)))) := rfl
  rw [← hlx]
  generalize lsF (ASk a m l t) = A at *
  generalize (l.drop (t + 1)).filter (ap a (l.getD t (0, 0))) = fl at *
  generalize fmD l = fl2 at *
  clear hsl hix c1 st1
  simp [hlP, hfm, em, x2, x1, seqD, hbs, c2, keepOk, hll]
  trace_state
end MX
namespace MX
open PySem PySem.Spec L2 FS FX
theorem m_all_sets_ (a : Int) : ∀ (fuel m : Nat) (l : List Cl), m < fuel → fuel ≤ 100 → cB l → l.length ≤ 1000 → (AS a m l).length ≤ 10000000 → ∃ x : L, x.pd = .list ((AS a m l).map fmD) ∧
    m_all_sets fuel [.fz (fmD l), .fz (.int m), .fz (.int a)] = .ret (.v x) [.fz (fmD l), .fz (.int m), .fz (.int a)] := by
  intro fuel
  induction fuel with
  | zero => intro m l h _; exact absurd h (Nat.not_lt_zero _)
  | succ f ih =>
    intro m l hm hfu hb hl hA
    have hdef : m_all_sets (f + 1) = semOf 8 3 [] (s_all_sets (m_all_sets f)) := rfl
    rw [hdef]
    cases m with
    | zero =>
      refine ⟨.lst [.fz (.list [])], by rw [AS_0]; rfl, ?_⟩
      refine (semOf_ (by rfl) (by rfl)).trans ?_
      unfold s_all_sets
      simp
    | succ m =>
      refine ⟨.lst (lsF (AS a (m + 1) l)), by show PyData.list (L.pds (lsF _)) = _; rw [lsF_pds], ?_⟩
      refine (semOf_ (by rfl) (by rfl)).trans ?_
      have hne : ¬ (((m + 1 : Nat) : Int) = 0) := by omega
      obtain ⟨st, hst, hlp⟩ := sLoop_inv (Gt := gN 4) (S := asB f)
        (fun s : Nat × Option M × Option M => [some (.fz (fmD l)), some (.fz (.int ((m + 1 : Nat) : Int))), some (.fz (.int a)), some (.v (.lst (lsF (ASk a m l s.1)))), s.2.1, s.2.2, none, none])
        (fun i s => s.1 = i) (rangeD 0 (l.length - m)) (0, none, none) rfl (by
          rintro i d ⟨t, v4, v5⟩ hd hi
          obtain ⟨rfl, ht⟩ := rangeD0_get hd
          dsimp only at hi
          subst hi
          obtain ⟨v5', hb'⟩ := as_body f a m l hb hl (fun l' h1 h2 h3 => ih m l' (by omega) (by omega) h1 h2 h3) t ht hA v5
          exact ⟨(t + 1, some (.fz (.int (t : Int))), v5'), _, rfl, by simp, .inl hb'⟩)
      obtain ⟨t, v4, v5⟩ := st
      rw [rangeD_len] at hst
      dsimp only at hst
      subst hst
      unfold s_all_sets
      have hr : (l.length : Int) - ((m + 1 : Nat) : Int) + 1 = (l.length : Int) - (m : Int) := by omega
      have hr2 : ((l.length : Int) - (m : Int)).toNat = l.length - m := by omega
      have hgl : gLen [fmD l] = some (.fz (.int (l.length : Int))) := by unfold fmD; simp
      have hlp' : sLoop (gN 4) (sSq (sAs 5 (eLc [6] (iE (eSl (eN 0) (oE (eB2 gAdd (eN 4) (eC (.int 1)))) oN)) (gN 6) (tTru (eCl m_are_apart (aV (eB2 gIx (eN 0) (eN 4)) (aV (eN 6) (aV (eN 2) aN))))) (eN 6)))
  (sExt 3 (eLc [7] (iE (eCl (m_all_sets f) (aV (eN 5) (aV (eB2 FS.gSub (eN 1) (eC (.int 1))) (aV (eN 2) aN))))) (gN 7) tY (eB2 gAdd (eDs FS.gLst (aV (eB2 gIx (eN 0) (eN 4)) aN)) (eN 7))))) (rangeD 0 (l.length - m)) [some (.fz (fmD l)), some (.fz (.int ((m + 1 : Nat) : Int))), some (.fz (.int a)), some (.v (.lst [])), none, none, none, none] = _ := hlp
      rw [ASk_end] at hlp'
      generalize lsF (AS a (m + 1) l) = A at *
      generalize hM : ((m + 1 : Nat) : Int) = MM at *
      generalize fmD l = fl at *
      clear hlp
      simp (disch := omega) [hne, hgl, hr, hr2, hlp']
end MX
namespace MX
open PySem PySem.Spec L2 FS FX
def grid (r c : Nat) : List Cl := (List.range r).flatMap fun (i : Nat) => (List.range c).map fun (j : Nat) => ((i : Int), (j : Int))
def Szs : List (Nat × Nat) := [(1, 1), (1, 4), (2, 2), (2, 3), (3, 2), (3, 3), (1, 5), (4, 2), (3, 4)]
theorem m_cells_of_ : ∀ s ∈ Szs, m_cells_of [.fz (.int (s.1 : Nat)), .fz (.int (s.2 : Nat))] = .ret (.v (.lst (lsP (grid s.1 s.2)))) [.fz (.int (s.1 : Nat)), .fz (.int (s.2 : Nat))] := by
  intro s hs
  unfold Szs at hs
  simp only [List.mem_cons, List.not_mem_nil, or_false] at hs
  rcases hs with rfl | rfl | rfl | rfl | rfl | rfl | rfl | rfl | rfl <;> kernel_rfl
theorem m__law_cells_ : ∀ s ∈ Szs, m__law_cells [.fz (.int (s.1 : Nat)), .fz (.int (s.2 : Nat))] = .ret (.fz (fmD (grid s.1 s.2))) [.fz (.int (s.1 : Nat)), .fz (.int (s.2 : Nat))] := by
  intro s hs
  unfold Szs at hs
  simp only [List.mem_cons, List.not_mem_nil, or_false] at hs
  rcases hs with rfl | rfl | rfl | rfl | rfl | rfl | rfl | rfl | rfl <;> kernel_rfl
theorem grid_facts : ∀ s ∈ Szs, Asc (grid s.1 s.2) ∧ cB (grid s.1 s.2) ∧ (grid s.1 s.2).length = s.1 * s.2 ∧ (grid s.1 s.2).length ≤ 12 ∧ (∀ p ∈ grid s.1 s.2, 0 ≤ p.1 ∧ p.1 < s.1 ∧ 0 ≤ p.2 ∧ p.2 < s.2) ∧ 1 ≤ s.1 ∧ s.1 ≤ 5 ∧ 1 ≤ s.2 ∧ s.2 ≤ 5 := by
  intro s hs
  unfold Szs at hs
  simp only [List.mem_cons, List.not_mem_nil, or_false] at hs
  unfold Asc cB OnF
  rcases hs with rfl | rfl | rfl | rfl | rfl | rfl | rfl | rfl | rfl <;> refine ⟨by decide +kernel, by decide +kernel, by decide +kernel, by decide +kernel, by decide +kernel, by decide, by decide, by decide, by decide⟩
theorem m_check_ways_ : ∀ s ∈ Szs, ∀ m, m ≤ 6 → m_check_ways [.fz (.int (s.1 : Nat)), .fz (.int (s.2 : Nat)), .fz (.int (m : Nat))] = .ret (.fz .none) [.fz (.int (s.1 : Nat)), .fz (.int (s.2 : Nat)), .fz (.int (m : Nat))] := by
  intro s hs m hm
  unfold Szs at hs
  simp only [List.mem_cons, List.not_mem_nil, or_false] at hs
  have hm' : m = 0 ∨ m = 1 ∨ m = 2 ∨ m = 3 ∨ m = 4 ∨ m = 5 ∨ m = 6 := by omega
  rcases hs with rfl | rfl | rfl | rfl | rfl | rfl | rfl | rfl | rfl <;> rcases hm' with rfl | rfl | rfl | rfl | rfl | rfl | rfl <;> kernel_rfl
end MX
namespace MX
open PySem PySem.Spec L2 FS FX
theorem gGt_pt (p q : Cl) : gGt (ptD p) (ptD q) = some (.fz (.bool (pl q p))) := by
  have h1 : okLt (tupI [p.1, p.2]) (tupI [q.1, q.2]) = true := okLt_tupI _ _
  show gBool2 okLt (fun a b => PySem.W.dataLt b a) (tupI [p.1, p.2]) (tupI [q.1, q.2]) = _
  unfold gBool2
  rw [if_pos h1]
  show some (M.fz (.bool (PySem.W.dataLt (tupI [q.1, q.2]) (tupI [p.1, p.2])))) = _
  rw [dataLt_tupI]
  congr 3
  unfold pl
  rw [Bool.eq_iff_iff]
  simp only [decide_eq_true_eq, lt_il, nil_il, and_false, or_false, Bool.or_eq_true, Bool.and_eq_true]
theorem gIx_last {s : List Cl} {q : Cl} (h : s.getLast? = some q) : gIx (fmD s) (.int (-1)) = some (.fz (ptD q)) := by
  have hne : s ≠ [] := by intro e; rw [e] at h; cases h
  have hl : 1 ≤ s.length := List.length_pos_iff.mpr hne
  have : atI (s.map ptD) (-1) = some (ptD q) := by
    have e : atI (s.map ptD) (-1) = (s.map ptD)[s.length - 1]? := by
      unfold atI ixN
      rw [if_neg (by omega), List.length_map, if_pos (by omega)]
      have : ((-1 : Int) + s.length).toNat = s.length - 1 := by omega
      rw [this]; rfl
    rw [e, List.getElem?_map, ← List.getLast?_eq_getElem?, h]; rfl
  unfold gIx fmD
  simp only [this]
  rfl
noncomputable def ltB : BF := (tAn (tOr' (tE (eB2 gEq (eDs gLen (aV (eN 8) aN)) (eC (.int 0)))) (tE (eB2 gGt (eN 9) (eB2 gIx (eN 8) (eU1 gNeg (eC (.int 1))))))) (tE (eB2 gEq (eDs gLen (aV (eLc [10] (iE (eN 8)) (gN 10) (tE (eB2 gLt (eCl m__law_far_v2 (aV (eN 10) (aV (eN 9) aN))) (eN 3))) (eN 10)) aN)) (eC (.int 0)))))
theorem lt_test (a : Int) (s : List Cl) (c : Cl) (hs : cB s) (hc : OnF c) (hl : s.length ≤ 1000) (x0 x1 x2 x4 x5 x6 : Option M) (X : List L) :
    ltB [x0, x1, x2, some (.fz (.int a)), x4, x5, x6, some (.v (.lst X)), some (.fz (fmD s)), some (.fz (ptD c)), none] =
      .ok (fit a s c) [x0, x1, x2, some (.fz (.int a)), x4, x5, x6, some (.v (.lst X)), some (.fz (fmD s)), some (.fz (ptD c)), none] := by
  have c1 := cLoop_flt (own := [10]) (G := gN 10) (T := (tE (eB2 gLt (eCl m__law_far_v2 (aV (eN 10) (aV (eN 9) aN))) (eN 3)))) (E := eN 10)
    (δ := [x0, x1, x2, some (.fz (.int a)), x4, x5, x6, some (.v (.lst X)), some (.fz (fmD s)), some (.fz (ptD c)), none]) ptD (fun o => decide (dist2 o c < a)) (fun o => L.fz (ptD o)) s (fun o ho => by
      have ea := m__law_far_v2_ (hs o ho) hc
      generalize fmD s = fs at *
      generalize ptD c = pc at *
      generalize ptD o = po at *
      refine ⟨[x0, x1, x2, some (.fz (.int a)), x4, x5, x6, some (.v (.lst X)), some (.fz fs), some (.fz pc), some (.fz po)], [x0, x1, x2, some (.fz (.int a)), x4, x5, x6, some (.v (.lst X)), some (.fz fs), some (.fz pc), some (.fz po)], by simp, by simp [ea], fun _ => by simp, fun _ => ⟨_, by simp; rfl, by simp⟩⟩)
  have hle : (s.filter fun o => decide (dist2 o c < a)).length ≤ s.length := List.length_filter_le _ _
  have hall : (decide (((s.filter fun o => decide (dist2 o c < a)).length : Int) = 0)) = s.all fun o => ap a o c := by
    rw [Bool.eq_iff_iff, decide_eq_true_eq, List.all_eq_true]
    constructor
    · intro h o ho
      have h0 : (s.filter fun o => decide (dist2 o c < a)) = [] := List.length_eq_zero_iff.mp (by omega)
      have := List.filter_eq_nil_iff.mp h0 o ho
      unfold ap
      simp only [decide_eq_true_eq] at this ⊢
      omega
    · intro h
      have h0 : (s.filter fun o => decide (dist2 o c < a)) = [] := List.filter_eq_nil_iff.mpr fun o ho => by
        have := h o ho
        unfold ap at this
        simp only [decide_eq_true_eq] at this ⊢
        omega
      rw [h0]; rfl
  have hbg : s.length ≤ big := by unfold big; omega
  have c1' : cLoop [10] (gN 10) (tE (eB2 gLt (eCl m__law_far_v2 (aV (eN 10) (aV (eN 9) aN))) (eN 3))) (eN 10) (s.map ptD) [x0, x1, x2, some (.fz (.int a)), x4, x5, x6, some (.v (.lst X)), some (.fz (fmD s)), some (.fz (ptD c)), none] = some (lsP (s.filter fun o => decide (dist2 o c < a)), _) := c1
  have hgl : gLen [fmD s] = some (.fz (.int (s.length : Int))) := by unfold fmD; simp
  have hsd : seqD (fmD s) = some (s.map ptD) := rfl
  unfold ltB fit gt
  cases e : s.getLast? with
  | none =>
    have h0 := List.getLast?_eq_none_iff.mp e
    subst h0
    have hz : gLen [fmD []] = some (.fz (.int 0)) := hgl
    generalize fmD [] = fs at *
    generalize ptD c = pc at *
    simp only [List.map_nil, List.filter_nil] at c1'
    have hp0 : L.pds (lsP []) = [] := rfl
    simp [hz, hsd, c1', keepOk, hp0]
  | some q =>
    have hne : s ≠ [] := by intro e'; rw [e'] at e; cases e
    have hl0 : ¬ ((s.length : Int) = 0) := by have := List.length_pos_iff.mpr hne; omega
    have hgi := gIx_last e
    have hgt := gGt_pt c q
    dsimp only
    rw [← hall]
    generalize fmD s = fs at *
    generalize ptD c = pc at *
    cases hp : pl q c with
    | false =>
      rw [hp] at hgt
      simp [hgl, hl0, hne, hgi, hgt]
    | true =>
      rw [hp] at hgt
      simp [hgl, hl0, hne, hgi, hgt, hsd, hbg, c1', keepOk, lsP_pds]
end MX
namespace MX
open PySem PySem.Spec L2 FS FX
theorem flatMap_take_len {α β : Type} (f : α → List β) (xs : List α) (t : Nat) : ((xs.take t).flatMap f).length ≤ (xs.flatMap f).length := by
  have e2 : xs.flatMap f = (xs.take t).flatMap f ++ (xs.drop t).flatMap f := by rw [← List.flatMap_append, List.take_append_drop]
  rw [e2, List.length_append]
  omega
theorem take_snoc {α : Type} {xs : List α} {t : Nat} {x : α} (h : xs[t]? = some x) : xs.take (t + 1) = xs.take t ++ [x] := by
  rw [List.take_succ, h]; rfl
/-- the cells looked at so far, behind one set -/
noncomputable def lcS : SF := sIf ltB (sApp 7 (eB2 gAdd (eN 8) (eDs FS.gLst (aV (eN 9) aN)))) sNl
theorem cells_loop (a : Int) (g s : List Cl) (hg : cB g) (hs : cB s) (hl : s.length ≤ 1000) (acc : List (List Cl)) (hA : acc.length + (exts a g s).length ≤ 10000000) (x0 x1 x2 x4 x5 x6 : Option M) (v9 : Option M) : ∃ v9',
    sLoop (gN 9) lcS (g.map ptD) [x0, x1, x2, some (.fz (.int a)), x4, x5, x6, some (.v (.lst (lsF acc))), some (.fz (fmD s)), v9, none] =
      .nx [x0, x1, x2, some (.fz (.int a)), x4, x5, x6, some (.v (.lst (lsF (acc ++ exts a g s)))), some (.fz (fmD s)), v9', none] := by
  obtain ⟨st, hst, hlp⟩ := sLoop_inv (Gt := gN 9) (S := lcS)
    (fun t : Nat × Option M => [x0, x1, x2, some (.fz (.int a)), x4, x5, x6, some (.v (.lst (lsF (acc ++ exts a (g.take t.1) s)))), some (.fz (fmD s)), t.2, none])
    (fun i t => t.1 = i) (g.map ptD) (0, v9) rfl (by
      rintro i d ⟨t, v⟩ hd hi
      dsimp only at hi
      subst hi
      rw [List.getElem?_map] at hd
      cases hgt : g[t]? with
      | none => rw [hgt] at hd; cases hd
      | some c =>
        rw [hgt] at hd
        simp only [Option.map_some, Option.some.injEq] at hd
        subst hd
        have hc : OnF c := hg c (List.mem_of_getElem? hgt)
        have ht := lt_test a s c hs hc hl x0 x1 x2 x4 x5 x6 (lsF (acc ++ exts a (g.take t) s))
        have ex : exts a (g.take (t + 1)) s = exts a (g.take t) s ++ (if fit a s c then [s ++ [c]] else []) := by
          unfold exts
          rw [take_snoc hgt, List.filter_append, List.map_append]
          congr 1
          cases h : fit a s c <;> simp [List.filter, h]
        have hle : (exts a (g.take t) s).length ≤ (exts a g s).length := by
          unfold exts
          rw [List.length_map, List.length_map]
          exact ((List.take_sublist t g).filter _).length_le
        refine ⟨(t + 1, some (.fz (ptD c))), [x0, x1, x2, some (.fz (.int a)), x4, x5, x6, some (.v (.lst (lsF (acc ++ exts a (g.take t) s)))), some (.fz (fmD s)), some (.fz (ptD c)), none], rfl, by simp, .inl ?_⟩
        have ga : gAdd (fmD s) (.list [ptD c]) = some (.lst (lsP (s ++ [c]))) := by
          have := gAdd_lists (xs := s.map ptD) (ys := [ptD c]) (by simp; omega)
          rw [← lsP_def, List.map_append]
          exact this
        have hll : (lsF (acc ++ exts a (g.take t) s)).length < big := by
          rw [lsF_len, List.length_append]
          have h1 : (exts a (g.take (t + 1)) s).length ≤ (exts a g s).length := by
            unfold exts
            rw [List.length_map, List.length_map]
            exact ((List.take_sublist (t + 1) g).filter _).length_le
          unfold big; omega
        unfold lcS
        rw [sIf_, ht]
        dsimp only
        rw [ex]
        cases hf : fit a s c with
        | false => simp
        | true =>
          have e3 : lsF (acc ++ exts a (g.take t) s) ++ [L.lst (lsP (s ++ [c]))] = lsF (acc ++ (exts a (g.take t) s ++ [s ++ [c]])) := by
            rw [← List.append_assoc, lsF_app (acc ++ exts a (g.take t) s)]; rfl
          have e4 : (if true = true then [s ++ [c]] else []) = [s ++ [c]] := rfl
          rw [e4, ← e3]
          generalize lsF (acc ++ exts a (g.take t) s) = A at *
          generalize lsP (s ++ [c]) = out at *
          generalize fmD s = fs at *
          generalize ptD c = pc at *
          simp [ga, hll])
  obtain ⟨t, v⟩ := st
  dsimp only at hst
  rw [List.length_map] at hst
  subst hst
  refine ⟨v, ?_⟩
  have e0 : acc ++ exts a (g.take 0) s = acc := by unfold exts; simp
  dsimp only at hlp
  rw [List.take_length, e0] at hlp
  exact hlp
theorem sets_loop (a : Int) (g : List Cl) (hg : cB g) (ss : List (List Cl)) (hs : ∀ s ∈ ss, cB s ∧ s.length ≤ 1000) (hA : (ss.flatMap (exts a g)).length ≤ 10000000) (hgl : g.length ≤ 1000) (x0 x1 x2 x4 x6 : Option M) (v8 v9 : Option M) : ∃ v8' v9',
    sLoop (gN 8) (sFor (iE (eN 5)) (gN 9) lcS) (ss.map fmD) [x0, x1, x2, some (.fz (.int a)), x4, some (.fz (fmD g)), x6, some (.v (.lst [])), v8, v9, none] =
      .nx [x0, x1, x2, some (.fz (.int a)), x4, some (.fz (fmD g)), x6, some (.v (.lst (lsF (ss.flatMap (exts a g))))), v8', v9', none] := by
  obtain ⟨st, hst, hlp⟩ := sLoop_inv (Gt := gN 8) (S := sFor (iE (eN 5)) (gN 9) lcS)
    (fun t : Nat × Option M × Option M => [x0, x1, x2, some (.fz (.int a)), x4, some (.fz (fmD g)), x6, some (.v (.lst (lsF ((ss.take t.1).flatMap (exts a g))))), t.2.1, t.2.2, none])
    (fun i t => t.1 = i) (ss.map fmD) (0, v8, v9) rfl (by
      rintro i d ⟨t, v, v'⟩ hd hi
      dsimp only at hi
      subst hi
      rw [List.getElem?_map] at hd
      cases hgt : ss[t]? with
      | none => rw [hgt] at hd; cases hd
      | some s =>
        rw [hgt] at hd
        simp only [Option.map_some, Option.some.injEq] at hd
        subst hd
        obtain ⟨h1, h2⟩ := hs s (List.mem_of_getElem? hgt)
        have e1 : (ss.take (t + 1)).flatMap (exts a g) = (ss.take t).flatMap (exts a g) ++ exts a g s := by
          rw [take_snoc hgt, List.flatMap_append]; simp
        have hle := flatMap_take_len (exts a g) ss (t + 1)
        rw [e1, List.length_append] at hle
        obtain ⟨w, hw⟩ := cells_loop a g s hg h1 h2 ((ss.take t).flatMap (exts a g)) (by omega) x0 x1 x2 x4 (some (.fz (fmD g))) x6 v'
        refine ⟨(t + 1, some (.fz (fmD s)), w), [x0, x1, x2, some (.fz (.int a)), x4, some (.fz (fmD g)), x6, some (.v (.lst (lsF ((ss.take t).flatMap (exts a g))))), some (.fz (fmD s)), v', none], rfl, by simp, .inl ?_⟩
        dsimp only
        rw [e1, ← hw]
        have hsd : seqD (fmD g) = some (g.map ptD) := rfl
        simp [hsd])
  obtain ⟨t, v, v'⟩ := st
  dsimp only at hst
  rw [List.length_map] at hst
  subst hst
  refine ⟨v, v', ?_⟩
  rw [List.take_length] at hlp
  exact hlp
theorem m__law_sets_ (s : Nat × Nat) (hs : s ∈ Szs) (m : Nat) (hm1 : 1 ≤ m) (hm : m ≤ 12) (a : Int) : m__law_sets [.fz (.int (s.1 : Nat)), .fz (.int (s.2 : Nat)), .fz (.int (m : Nat)), .fz (.int a)] =
    .ret (.fz (.list ((AS a m (grid s.1 s.2)).map fmD))) [.fz (.int (s.1 : Nat)), .fz (.int (s.2 : Nat)), .fz (.int (m : Nat)), .fz (.int a)] := by
  obtain ⟨g1, g2, g3, g4, _⟩ := grid_facts s hs
  have hcl := m__law_cells_ s hs
  have hlen : ∀ m', (AS a m' (grid s.1 s.2)).length ≤ 4096 := fun m' => by
    have h1 := AS_len a _ (grid s.1 s.2) m' (Nat.le_refl _)
    have h2 : 2 ^ (grid s.1 s.2).length ≤ 2 ^ 12 := Nat.pow_le_pow_right (by decide) g4
    omega
  unfold m__law_sets
  refine (semOf_ (by rfl) (by rfl)).trans ?_
  generalize hg : grid s.1 s.2 = g at *
  obtain ⟨st, hst, hlp⟩ := sLoop_inv (Gt := gN 6) (S := (sSq (sAs 7 (eDs FS.gLst aN)) (sSq (sFor (iE (eN 4)) (gN 8) (sFor (iE (eN 5)) (gN 9) lcS)) (sAs 4 (eN 7)))))
    (fun t : M × Option M × Option M × Option M × Option M => [some (.fz (.int (s.1 : Nat))), some (.fz (.int (s.2 : Nat))), some (.fz (.int (m : Nat))), some (.fz (.int a)), some t.1, some (.fz (fmD g)), t.2.1, t.2.2.1, t.2.2.2.1, t.2.2.2.2, none])
    (fun i t => t.1 = .fz (.list ((AS a i g).map fmD)) ∨ (i = 0 ∧ t.1 = .v (.lst [.fz (.list [])]))) (rangeD 0 m) (.v (.lst [.fz (.list [])]), none, none, none, none) (.inr ⟨rfl, rfl⟩) (by
      rintro i d ⟨x4, v6, v7, v8, v9⟩ hd hx
      obtain ⟨rfl, hi⟩ := rangeD0_get hd
      dsimp only at hx
      have hsts := AS_step a _ g i (Nat.le_refl _) g1
      obtain ⟨w8, w9, hw⟩ := sets_loop a g g2 (AS a i g) (fun t ht => by
        obtain ⟨q1, _, q3, _⟩ := (AS_in a _ g i t (Nat.le_refl _) g1).mp ht
        exact ⟨fun c hc => g2 c (q3 c hc), by omega⟩) (by rw [← hsts]; have := hlen (i + 1); omega) (by omega) (some (.fz (.int (s.1 : Nat)))) (some (.fz (.int (s.2 : Nat)))) (some (.fz (.int (m : Nat)))) (some (.fz (.list ((AS a i g).map fmD)))) (some (.fz (.int (i : Nat)))) v8 v9
      rw [← hsts] at hw
      refine ⟨(.fz (.list ((AS a (i + 1) g).map fmD)), some (.fz (.int (i : Nat))), some (.fz (.list ((AS a (i + 1) g).map fmD))), w8, w9), [some (.fz (.int (s.1 : Nat))), some (.fz (.int (s.2 : Nat))), some (.fz (.int (m : Nat))), some (.fz (.int a)), some x4, some (.fz (fmD g)), some (.fz (.int (i : Nat))), v7, v8, v9, none], .inl rfl, by simp, .inl ?_⟩
      have hpd : L.pds (lsF (AS a (i + 1) g)) = (AS a (i + 1) g).map fmD := lsF_pds _
      have e0 : (AS a 0 g).map fmD = [PyData.list []] := by rw [AS_0]; rfl
      rcases hx with rfl | ⟨h0, rfl⟩
      · generalize lsF (AS a (i + 1) g) = X at *
        generalize (AS a (i + 1) g).map fmD = Y at *
        generalize (AS a i g).map fmD = Z at *
        generalize fmD g = G at *
        clear hlen hsts
        simp [seqD, hw, hpd]
      · subst h0
        rw [e0] at hw
        generalize lsF (AS a (0 + 1) g) = X at *
        generalize (AS a (0 + 1) g).map fmD = Y at *
        generalize fmD g = G at *
        clear hlen hsts e0
        have e1 : ((0 : Nat) : Int) = 0 := rfl
        rw [e1] at hw ⊢
        simp [seqD, hw, hpd])
  obtain ⟨x4, v6, v7, v8, v9⟩ := st
  rw [rangeD_len] at hst
  dsimp only at hst
  have hlp' : sLoop (gN 6) (sSq (sAs 7 (eDs FS.gLst aN)) (sSq (sFor (iE (eN 4)) (gN 8) (sFor (iE (eN 5)) (gN 9) (sIf (tAn (tOr' (tE (eB2 gEq (eDs gLen (aV (eN 8) aN)) (eC (.int 0)))) (tE (eB2 gGt (eN 9) (eB2 gIx (eN 8) (eU1 gNeg (eC (.int 1))))))) (tE (eB2 gEq (eDs gLen (aV (eLc [10] (iE (eN 8)) (gN 10) (tE (eB2 gLt (eCl m__law_far_v2 (aV (eN 10) (aV (eN 9) aN))) (eN 3))) (eN 10)) aN)) (eC (.int 0)))))
    (sApp 7 (eB2 gAdd (eN 8) (eDs FS.gLst (aV (eN 9) aN))))
    sNl))) (sAs 4 (eN 7)))) (rangeD 0 m) [some (.fz (.int (s.1 : Nat))), some (.fz (.int (s.2 : Nat))), some (.fz (.int (m : Nat))), some (.fz (.int a)), some (.v (.lst [.fz (.list [])])), some (.fz (fmD g)), none, none, none, none, none] = _ := hlp
  have hr : ((m : Int)).toNat = m := by omega
  unfold s__law_sets
  generalize fmD g = G at *
  have e0 : (AS a 0 g).map fmD = [PyData.list []] := by rw [AS_0]; rfl
  clear hlp hlen
  rcases hst with rfl | ⟨h0, rfl⟩
  · simp (disch := omega) [hcl, hr, hlp']
  · omega
end MX
namespace MX
open PySem PySem.Spec L2 FS FX
def drawU (xs : List Int) (at_ : Nat) : Int := match xs[at_]? with
  | some x => x
  | none => mixedV (mixedV (match xs with
    | [] => 1 + at_
    | x :: _ => 1 + at_ + 1009 * x) at_) 5 / 7
theorem m__law_draw_v1_ {xs : List Int} (h : Nums xs) (n : Nat) (hn : n ≤ 1000000000000000) (w : Int) (hw : 1 ≤ w) : m__law_draw_v1 [DR xs n, .fz (.int w)] = .ret (.fz (.int (drawU xs n % w))) [DR xs (n + 1), .fz (.int w)] := by
  unfold m__law_draw_v1
  refine (semOf_ (by rfl) (by rfl)).trans ?_
  have hx : ixN 2 1 = some 1 := rfl
  unfold s__law_draw_v1 DR drawU
  cases e : xs[n]? with
  | some x =>
    have hl : n < xs.length := (List.getElem?_eq_some_iff.mp e).1
    have hl' : (n : Int) < (xs.length : Int) := by omega
    have hg := (List.getElem?_eq_some_iff.mp e).2
    simp (disch := omega) [hx, hl', atI_nat, e, hg]
  | none =>
    have hl : ¬ (n : Int) < (xs.length : Int) := by have := List.getElem?_eq_none_iff.mp e; omega
    cases xs with
    | nil =>
      have e1 := m__law_mixed_ (1 + n) n (by omega) (by omega) (by omega) (by omega)
      have e2 := m__law_mixed_ (mixedV (1 + n) n) 5 (mixedV_lo _ _) (by have := mixedV_hi (1 + n) n; omega) (by omega) (by omega)
      have hl1 : ¬ (n : Int) < 0 := by omega
      simp (disch := omega) [hx, hl1, e1, e2]
    | cons x r =>
      obtain ⟨x1, x2⟩ := h x List.mem_cons_self
      have e1 := m__law_mixed_ (1 + n + 1009 * x) n (by omega) (by omega) (by omega) (by omega)
      have e2 := m__law_mixed_ (mixedV (1 + n + 1009 * x) n) 5 (mixedV_lo _ _) (by have := mixedV_hi (1 + n + 1009 * x) n; omega) (by omega) (by omega)
      have hl1 : ¬ (n : Int) < (r.length : Int) + 1 := by simpa using hl
      have hl2 : (0 : Int) < (r.length : Int) + 1 := by omega
      simp (disch := omega) [hx, hl1, hl2, e1, e2]
theorem m__law_size_ {xs : List Int} (h : Nums xs) (n : Nat) (hn : n ≤ 1000000000000) : ∃ s ∈ Szs, m__law_size [DR xs n] = .ret (.fz (.tuple [.int (s.1 : Nat), .int (s.2 : Nat)])) [DR xs (n + 1)] := by
  have hd := m__law_draw_v1_ h n (by omega) 9 (by decide)
  have r0 := Int.emod_nonneg (drawU xs n) (b := 9) (by omega)
  have r1 := Int.emod_lt_of_pos (drawU xs n) (b := 9) (by omega)
  obtain ⟨j, hj⟩ : ∃ j : Nat, drawU xs n % 9 = j := ⟨(drawU xs n % 9).toNat, by omega⟩
  have hj9 : j < 9 := by omega
  refine ⟨Szs.getD j (1, 1), ?_, ?_⟩
  · have : j < Szs.length := hj9
    rw [List.getD_eq_getElem?_getD, List.getElem?_eq_getElem this]
    exact List.getElem_mem this
  · unfold m__law_size
    refine (semOf_ (by rfl) (by rfl)).trans ?_
    rw [hj] at hd
    unfold s__law_size
    have hj' : j = 0 ∨ j = 1 ∨ j = 2 ∨ j = 3 ∨ j = 4 ∨ j = 5 ∨ j = 6 ∨ j = 7 ∨ j = 8 := by omega
    generalize DR xs n = d0 at *
    generalize DR xs (n + 1) = d1 at *
    rcases hj' with rfl | rfl | rfl | rfl | rfl | rfl | rfl | rfl | rfl <;> (simp [hd]; first | rfl | exact ⟨rfl, rfl⟩)
theorem m_check_grid_ {r c : Int} (h1 : 1 ≤ r) (h2 : r ≤ 5) (h3 : 1 ≤ c) (h4 : c ≤ 5) : m_check_grid [.fz (.int r), .fz (.int c)] = .ret (.fz .none) [.fz (.int r), .fz (.int c)] := by
  unfold m_check_grid
  refine (semOf_ (by rfl) (by rfl)).trans ?_
  unfold s_check_grid
  simp [m_check_number_, isNum, h1, h2, h3, h4]
theorem m_check_sets_ {r c m a : Int} (h1 : 1 ≤ r) (h2 : r ≤ 5) (h3 : 1 ≤ c) (h4 : c ≤ 5) (h5 : 1 ≤ m) (h6 : m ≤ 25) (h7 : 1 ≤ a) (h8 : a ≤ 33) : m_check_sets [.fz (.int r), .fz (.int c), .fz (.int m), .fz (.int a)] = .ret (.fz .none) [.fz (.int r), .fz (.int c), .fz (.int m), .fz (.int a)] := by
  unfold m_check_sets
  refine (semOf_ (by rfl) (by rfl)).trans ?_
  unfold s_check_sets
  simp [m_check_number_, isNum, h1, h2, h3, h4, h5, h6, h7, h8, m_check_grid_]
section
variable {s : Nat × Nat} {m : Nat} {a : Int}
theorem AS_4096 (hs : s ∈ Szs) (m : Nat) (a : Int) : (AS a m (grid s.1 s.2)).length ≤ 4096 := by
  have h1 := AS_len a _ (grid s.1 s.2) m (Nat.le_refl _)
  have h2 : 2 ^ (grid s.1 s.2).length ≤ 2 ^ 12 := Nat.pow_le_pow_right (by decide) (grid_facts s hs).2.2.2.1
  omega
theorem m_sets_of_ (hs : s ∈ Szs) (hm : m ≤ 12) (a : Int) : ∃ x : L, x.pd = .list ((AS a m (grid s.1 s.2)).map fmD) ∧ m_sets_of [.fz (.int (s.1 : Nat)), .fz (.int (s.2 : Nat)), .fz (.int (m : Nat)), .fz (.int a)] = .ret (.v x) [.fz (.int (s.1 : Nat)), .fz (.int (s.2 : Nat)), .fz (.int (m : Nat)), .fz (.int a)] := by
  obtain ⟨g1, g2, g3, g4, _⟩ := grid_facts s hs
  have hc := m_cells_of_ s hs
  obtain ⟨x, x1, x2⟩ := m_all_sets_ a 14 m (grid s.1 s.2) (by omega) (by omega) g2 (by omega) (by have := AS_4096 hs m a; omega)
  refine ⟨x, x1, ?_⟩
  unfold m_sets_of
  refine (semOf_ (by rfl) (by rfl)).trans ?_
  unfold s_sets_of
  have hp : L.pds (lsP (grid s.1 s.2)) = (grid s.1 s.2).map ptD := lsP_pds _
  have hf : PyData.list ((grid s.1 s.2).map ptD) = fmD (grid s.1 s.2) := rfl
  generalize grid s.1 s.2 = g at *
  simp [hc, hp, hf, x2]
theorem m_count_sets_ (hs : s ∈ Szs) (hm1 : 1 ≤ m) (hm : m ≤ 6) (ha : 1 ≤ a) (ha2 : a ≤ 33) : m_count_sets [.fz (.int (s.1 : Nat)), .fz (.int (s.2 : Nat)), .fz (.int (m : Nat)), .fz (.int a)] = .ret (.fz (.int ((AS a m (grid s.1 s.2)).length : Nat))) [.fz (.int (s.1 : Nat)), .fz (.int (s.2 : Nat)), .fz (.int (m : Nat)), .fz (.int a)] := by
  obtain ⟨g1, g2, g3, g4, g5, g6, g7, g8, g9⟩ := grid_facts s hs
  have k1 := m_check_sets_ (r := (s.1 : Nat)) (c := (s.2 : Nat)) (m := (m : Nat)) (a := a) (by omega) (by omega) (by omega) (by omega) (by omega) (by omega) ha ha2
  have k2 := m_check_ways_ s hs m hm
  obtain ⟨x, x1, x2⟩ := m_sets_of_ hs (show m ≤ 12 by omega) a
  unfold m_count_sets
  refine (semOf_ (by rfl) (by rfl)).trans ?_
  unfold s_count_sets
  have hfz : (M.v x).frz = .fz (.list ((AS a m (grid s.1 s.2)).map fmD)) := by rw [← x1]; rfl
  simp [k1, k2, x2, hfz]
theorem m_set_at_ (hs : s ∈ Szs) (hm1 : 1 ≤ m) (hm : m ≤ 6) (ha : 1 ≤ a) (ha2 : a ≤ 33) (k : Nat) : m_set_at [.fz (.int (s.1 : Nat)), .fz (.int (s.2 : Nat)), .fz (.int (m : Nat)), .fz (.int a), .fz (.int (k : Nat))] =
    .ret (.fz (match (AS a m (grid s.1 s.2))[k]? with
      | some t => fmD t
      | none => .none)) [.fz (.int (s.1 : Nat)), .fz (.int (s.2 : Nat)), .fz (.int (m : Nat)), .fz (.int a), .fz (.int (k : Nat))] := by
  obtain ⟨g1, g2, g3, g4, g5, g6, g7, g8, g9⟩ := grid_facts s hs
  have k1 := m_check_sets_ (r := (s.1 : Nat)) (c := (s.2 : Nat)) (m := (m : Nat)) (a := a) (by omega) (by omega) (by omega) (by omega) (by omega) (by omega) ha ha2
  have k2 := m_check_ways_ s hs m hm
  obtain ⟨x, x1, x2⟩ := m_sets_of_ hs (show m ≤ 12 by omega) a
  have k3 : m_check_place_v1 [.fz (.int (k : Nat))] = .ret (.fz .none) [.fz (.int (k : Nat))] := by
    unfold m_check_place_v1
    refine (semOf_ (by rfl) (by rfl)).trans ?_
    unfold s_check_place_v1
    have : ¬ (k : Int) < 0 := by omega
    simp [this, gIsa, PyData.isInt, PyData.isBool, truD]
  unfold m_set_at
  refine (semOf_ (by rfl) (by rfl)).trans ?_
  unfold s_set_at
  generalize AS a m (grid s.1 s.2) = ss at *
  cases x with
  | dic _ => cases x1
  | fz d =>
    cases x1
    cases e : ss[k]? with
    | some t =>
      have hl : (k : Int) < (ss.length : Int) := by have := (List.getElem?_eq_some_iff.mp e).1; omega
      simp [k1, k2, k3, x2, hl, gIx, atI_nat, e]
    | none =>
      have hl : ¬ (k : Int) < (ss.length : Int) := by have := List.getElem?_eq_none_iff.mp e; omega
      simp [k1, k2, k3, x2, hl]
  | lst ls =>
    have hp : L.pds ls = ss.map fmD := by
      have : PyData.list (L.pds ls) = PyData.list (ss.map fmD) := x1
      injection this
    cases e : ss[k]? with
    | some t =>
      have hl : (k : Int) < (ss.length : Int) := by have := (List.getElem?_eq_some_iff.mp e).1; omega
      simp [k1, k2, k3, x2, hp, hl, gIx, atI_nat, e]
    | none =>
      have hl : ¬ (k : Int) < (ss.length : Int) := by have := List.getElem?_eq_none_iff.mp e; omega
      simp [k1, k2, k3, x2, hp, hl]
end
end MX
namespace MX
open PySem PySem.Spec L2 FS FX
theorem m_is_cell_ {p : Cl} {r c : Int} (h1 : 0 ≤ p.1) (h2 : p.1 < r) (h3 : 0 ≤ p.2) (h4 : p.2 < c) : m_is_cell [.fz (ptD p), .fz (.int r), .fz (.int c)] = .ret (.fz (.bool true)) [.fz (ptD p), .fz (.int r), .fz (.int c)] := by
  unfold m_is_cell
  refine (semOf_ (by rfl) (by rfl)).trans ?_
  unfold s_is_cell
  have e1 : PyData.isTuple (ptD p) = true := rfl
  have e2 : gLen [ptD p] = some (.fz (.int 2)) := rfl
  have i1 : isNum (.int p.1) 0 (r - 1) = true := by unfold isNum; simp; omega
  have i2 : isNum (.int p.2) 0 (c - 1) = true := by unfold isNum; simp; omega
  have g0 := gIx_pt0 p
  have g1 := gIx_pt1 p
  generalize ptD p = pd at *
  simp [e1, e2, truD, m_is_number_, i1, i2, g0, g1]
theorem gGe_pt (p q : Cl) : gGe (ptD p) (ptD q) = some (.fz (.bool (!pl p q))) := by
  have h1 : okLt (tupI [p.1, p.2]) (tupI [q.1, q.2]) = true := okLt_tupI _ _
  show gBool2 okLt (fun a b => !PySem.W.dataLt a b) (tupI [p.1, p.2]) (tupI [q.1, q.2]) = _
  unfold gBool2
  rw [if_pos h1]
  show some (M.fz (.bool (!PySem.W.dataLt (tupI [p.1, p.2]) (tupI [q.1, q.2])))) = _
  rw [dataLt_tupI]
  congr 4
  unfold pl
  rw [Bool.eq_iff_iff]
  simp only [decide_eq_true_eq, lt_il, nil_il, and_false, or_false, Bool.or_eq_true, Bool.and_eq_true]
theorem m_check_cells_ {t : List Cl} {r c : Int} (h1 : 1 ≤ t.length) (h2 : t.length ≤ 25) (h3 : Asc t) (h4 : ∀ p ∈ t, 0 ≤ p.1 ∧ p.1 < r ∧ 0 ≤ p.2 ∧ p.2 < c) : m_check_cells [.fz (fmD t), .fz (.int r), .fz (.int c)] = .ret (.fz .none) [.fz (fmD t), .fz (.int r), .fz (.int c)] := by
  unfold m_check_cells
  refine (semOf_ (by rfl) (by rfl)).trans ?_
  unfold s_check_cells
  have e1 : PyData.isList (fmD t) = true := rfl
  have e2 : gLen [fmD t] = some (.fz (.int (t.length : Nat))) := by unfold fmD; simp
  have e3 : seqD (fmD t) = some (t.map ptD) := rfl
  have c1 := cLoop_flt (own := [3]) (G := gN 3) (T := (tNt (tTru (eCl m_is_cell (aV (eN 3) (aV (eN 1) (aV (eN 2) aN))))))) (E := eN 3)
    (δ := [some (.fz (fmD t)), some (.fz (.int r)), some (.fz (.int c)), none, none]) ptD (fun _ => false) (fun c => L.fz (ptD c)) t (fun p hp => by
      obtain ⟨a1, a2, a3, a4⟩ := h4 p hp
      have ea := m_is_cell_ a1 a2 a3 a4
      generalize ptD p = pc at *
      generalize fmD t = fl at *
      refine ⟨[some (.fz fl), some (.fz (.int r)), some (.fz (.int c)), some (.fz pc), none], [some (.fz fl), some (.fz (.int r)), some (.fz (.int c)), some (.fz pc), none], by simp, by simp [ea, truD], fun _ => by simp, fun h => nomatch h⟩)
  have c2 := cLoop_flt (own := [4]) (G := gN 4) (T := (tE (eB2 gGe (eB2 gIx (eN 0) (eB2 FS.gSub (eN 4) (eC (.int 1)))) (eB2 gIx (eN 0) (eN 4))))) (E := eN 4)
    (δ := [some (.fz (fmD t)), some (.fz (.int r)), some (.fz (.int c)), none, none]) (fun i : Nat => PyData.int (1 + (i : Int))) (fun _ => false) (fun i => L.fz (.int i)) (List.range (t.length - 1)) (fun i hi => by
      have hi := List.mem_range.mp hi
      have q1 := gIx_fm (l := t) (t := i) (by omega)
      have q2 := gIx_fm (l := t) (t := i + 1) (by omega)
      have q3 := gGe_pt (t.getD i (0, 0)) (t.getD (i + 1) (0, 0))
      have q4 : pl (t.getD i (0, 0)) (t.getD (i + 1) (0, 0)) = true := by
        have := List.pairwise_iff_getElem.mp h3 i (i + 1) (by omega) (by omega) (by omega)
        simpa [List.getD, List.getElem?_eq_getElem, show i < t.length by omega, show i + 1 < t.length by omega] using this
      have e5 : (1 : Int) + (i : Int) = ((i + 1 : Nat) : Int) := by omega
      have e6 : ((i + 1 : Nat) : Int) - 1 = (i : Int) := by omega
      rw [q4] at q3
      rw [e5]
      generalize hI : ((i + 1 : Nat) : Int) = I at *
      generalize ptD (t.getD i (0, 0)) = pa at *
      generalize ptD (t.getD (i + 1) (0, 0)) = pb at *
      generalize fmD t = fl at *
      refine ⟨[some (.fz fl), some (.fz (.int r)), some (.fz (.int c)), none, some (.fz (.int I))], [some (.fz fl), some (.fz (.int r)), some (.fz (.int c)), none, some (.fz (.int I))], by simp, by simp [e6, q1, q2, q3], fun _ => by simp, fun h => nomatch h⟩)
  have n1 : t.filter (fun _ => false) = [] := List.filter_eq_nil_iff.mpr fun _ _ => by simp
  have n2 : (List.range (t.length - 1)).filter (fun _ => false) = [] := List.filter_eq_nil_iff.mpr fun _ _ => by simp
  rw [n1] at c1
  rw [n2] at c2
  have hr : rangeD 1 (t.length - 1) = (List.range (t.length - 1)).map fun i : Nat => PyData.int (1 + (i : Int)) := rfl
  have hr2 : ((t.length : Int) - 1).toNat = t.length - 1 := by omega
  have hb : t.length ≤ big := by unfold big; omega
  have hb2 : t.length - 1 ≤ big := by unfold big; omega
  have l1 : (1 : Int) ≤ (t.length : Int) := by omega
  have l2 : (t.length : Int) ≤ 25 := by omega
  simp only [List.map_nil] at c1 c2
  generalize fmD t = fl at *
  have hp0 : L.pds [] = [] := rfl
  simp (disch := omega) [e1, e2, e3, l1, l2, c1, keepOk, hb, hb2, truD, hr2, rangeD_len, hr, c2, hp0]
end MX
namespace MX
open PySem PySem.Spec L2 FS FX
noncomputable def feS : SF := sIf (tTru (eLc [3] (iE (eSl (eN 0) oN (oE (eN 2)))) (gN 3) (tNt (tTru (eCl m_are_apart (aV (eB2 gIx (eN 0) (eN 2)) (aV (eN 3) (aV (eN 1) aN)))))) (eN 3)))
    (sRt (eC (.bool false)))
    sNl
def good (a : Int) (t : List Cl) (k : Nat) : Bool := (t.take k).all fun o => ap a (t.getD k (0, 0)) o
theorem fe_step (a : Int) (t : List Cl) (ht : cB t) (hl : t.length ≤ 1000) (k : Nat) (hk : k < t.length) :
    feS [some (.fz (fmD t)), some (.fz (.int a)), some (.fz (.int (k : Nat))), none] = if good a t k then .nx [some (.fz (fmD t)), some (.fz (.int a)), some (.fz (.int (k : Nat))), none] else .rt (.fz (.bool false)) [some (.fz (fmD t)), some (.fz (.int a)), some (.fz (.int (k : Nat))), none] := by
  have hbt : OnF (t.getD k (0, 0)) := (getD_on ht hk).1
  have hix := gIx_fm hk
  have hsl : gSl (fmD t) none (some (k : Int)) = some (.lst (lsP (t.take k))) := by
    have := gSl_lo (t.map ptD) k
    rw [← List.map_take, lsP_def] at this
    exact this
  have c1 := cLoop_flt (own := [3]) (G := gN 3) (T := (tNt (tTru (eCl m_are_apart (aV (eB2 gIx (eN 0) (eN 2)) (aV (eN 3) (aV (eN 1) aN))))))) (E := eN 3)
    (δ := [some (.fz (fmD t)), some (.fz (.int a)), some (.fz (.int (k : Nat))), none]) ptD (fun o => !ap a (t.getD k (0, 0)) o) (fun c => L.fz (ptD c)) (t.take k) (fun c hc => by
      have hco : OnF c := ht c (List.mem_of_mem_take hc)
      have ea := m_are_apart_ (a := a) hbt hco
      generalize fmD t = fl at *
      generalize ptD (t.getD k (0, 0)) = pt at *
      generalize ptD c = pc at *
      refine ⟨[some (.fz fl), some (.fz (.int a)), some (.fz (.int (k : Nat))), some (.fz pc)], [some (.fz fl), some (.fz (.int a)), some (.fz (.int (k : Nat))), some (.fz pc)], by simp, by simp [hix, ea, truD], fun _ => by simp, fun _ => ⟨_, by simp; rfl, by simp⟩⟩)
  have c1' : cLoop [3] (gN 3) (tNt (tTru (eCl m_are_apart (aV (eB2 gIx (eN 0) (eN 2)) (aV (eN 3) (aV (eN 1) aN)))))) (eN 3) ((t.take k).map ptD) [some (.fz (fmD t)), some (.fz (.int a)), some (.fz (.int (k : Nat))), none] = some (lsP ((t.take k).filter fun o => !ap a (t.getD k (0, 0)) o), _) := c1
  have hg : ((t.take k).filter fun o => !ap a (t.getD k (0, 0)) o).isEmpty = good a t k := by
    unfold good
    rw [Bool.eq_iff_iff, List.isEmpty_iff, List.filter_eq_nil_iff, List.all_eq_true]
    simp
  have hb : (t.take k).length ≤ big := by rw [List.length_take]; unfold big; omega
  generalize t.take k = tk at *
  generalize (tk.filter fun o => !ap a (t.getD k (0, 0)) o) = fl at *
  unfold feS
  have hmt : (fl.map ptD).isEmpty = good a t k := by rw [← hg]; cases fl <;> rfl
  generalize fmD t = F at *
  cases hgd : good a t k with
  | true =>
    rw [hgd] at hmt
    simp [hsl, lsP_pds, seqD, hb, c1', keepOk, truD, hmt]
  | false =>
    rw [hgd] at hmt
    simp [hsl, lsP_pds, seqD, hb, c1', keepOk, truD, hmt]
theorem fe_loop (a : Int) (t : List Cl) (ht : cB t) (hl : t.length ≤ 1000) : ∀ (js : List Nat) (v : Option M), (∀ j ∈ js, j < t.length) → ∃ v', sLoop (gN 2) feS (js.map fun j : Nat => PyData.int (j : Int)) [some (.fz (fmD t)), some (.fz (.int a)), v, none] =
    if js.all (good a t) then .nx [some (.fz (fmD t)), some (.fz (.int a)), v', none] else .rt (.fz (.bool false)) [some (.fz (fmD t)), some (.fz (.int a)), v', none]
  | [], v, _ => ⟨v, by simp⟩
  | j :: js, v, h => by
    have hs := fe_step a t ht hl j (h j List.mem_cons_self)
    obtain ⟨v', hv⟩ := fe_loop a t ht hl js (some (.fz (.int (j : Nat)))) fun i hi => h i (List.mem_cons_of_mem _ hi)
    generalize fmD t = F at *
    cases hg : good a t j with
    | true =>
      rw [hg] at hs
      refine ⟨v', ?_⟩
      rw [List.all_cons, hg, Bool.true_and, List.map_cons, ← hv]
      have hs' : feS [some (.fz F), some (.fz (.int a)), some (.fz (.int (j : Nat))), none] = .nx [some (.fz F), some (.fz (.int a)), some (.fz (.int (j : Nat))), none] := hs
      simp [hs']
    | false =>
      rw [hg] at hs
      refine ⟨some (.fz (.int (j : Nat))), ?_⟩
      have hs' : feS [some (.fz F), some (.fz (.int a)), some (.fz (.int (j : Nat))), none] = .rt (.fz (.bool false)) [some (.fz F), some (.fz (.int a)), some (.fz (.int (j : Nat))), none] := hs
      rw [List.all_cons, hg, Bool.false_and, List.map_cons]
      simp [hs']
def far (a : Int) (t : List Cl) : Bool := (List.range t.length).all (good a t)
theorem far_iff (a : Int) (t : List Cl) : far a t = true ↔ t.Pairwise fun p q => ap a p q = true := by
  unfold far good
  rw [List.pairwise_iff_getElem, List.all_eq_true]
  constructor
  · intro h i j hi hj hij
    have h1 := List.all_eq_true.mp (h j (List.mem_range.mpr hj)) t[i] (by
      rw [List.mem_iff_getElem]
      refine ⟨i, by rw [List.length_take]; omega, ?_⟩
      rw [List.getElem_take])
    rw [List.getD_eq_getElem?_getD, List.getElem?_eq_getElem hj] at h1
    rw [ap_comm]; exact h1
  · intro h k hk
    have hk := List.mem_range.mp hk
    refine List.all_eq_true.mpr fun o ho => ?_
    obtain ⟨i, hi, rfl⟩ := List.mem_iff_getElem.mp ho
    rw [List.length_take] at hi
    rw [List.getElem_take, List.getD_eq_getElem?_getD, List.getElem?_eq_getElem hk, ap_comm]
    exact h i k (by omega) hk (by omega)
theorem m_far_enough_ (a : Int) (t : List Cl) (ht : cB t) (hl : t.length ≤ 1000) : m_far_enough [.fz (fmD t), .fz (.int a)] = .ret (.fz (.bool (far a t))) [.fz (fmD t), .fz (.int a)] := by
  unfold m_far_enough
  refine (semOf_ (by rfl) (by rfl)).trans ?_
  obtain ⟨v', hv⟩ := fe_loop a t ht hl (List.range t.length) none fun j hj => List.mem_range.mp hj
  have hr : rangeD 0 t.length = (List.range t.length).map fun j : Nat => PyData.int (j : Int) := by unfold rangeD; simp
  have hgl : gLen [fmD t] = some (.fz (.int (t.length : Int))) := by unfold fmD; simp
  have hv' := hv
  rw [← hr] at hv'
  unfold feS at hv'
  have hrt : ((t.length : Int)).toNat = t.length := by omega
  unfold s_far_enough far
  generalize fmD t = F at *
  cases h : (List.range t.length).all (good a t) with
  | true =>
    rw [h] at hv'
    have hv2 := hv'.trans (if_pos rfl)
    clear hv hv'
    simp (disch := omega) [hgl, hrt, hv2]
  | false =>
    rw [h] at hv'
    have hv2 := hv'.trans (if_neg (by decide))
    clear hv hv'
    simp (disch := omega) [hgl, hrt, hv2]
theorem eqvAll_pts : ∀ a b : List Cl, PyData.eqvAll (a.map ptD) (b.map ptD) = decide (a = b)
  | [], [] => by simp [PyData.eqvAll]
  | [], y :: b => by simp [PyData.eqvAll]
  | x :: a, [] => by simp [PyData.eqvAll]
  | x :: a, y :: b => by
    simp only [List.map_cons, PyData.eqvAll, eqv_pt, eqvAll_pts a b]
    rw [Bool.eq_iff_iff]
    simp
theorem eqv_fm (a b : List Cl) : PyData.eqv (fmD a) (fmD b) = decide (a = b) := by
  unfold fmD
  simp only [PyData.eqv]
  exact eqvAll_pts a b
theorem okN_fm (n : Nat) (t : List Cl) : okN (n + 2) (fmD t) = true := by
  have := okNs_pts n t
  unfold fmD okN
  exact this
theorem okNs_fms (n : Nat) : ∀ ss : List (List Cl), okNs (n + 2) (ss.map fmD) = true
  | [] => by simp [okNs]
  | s :: r => by
    have h1 := okN_fm n s
    have h2 := okNs_fms n r
    simp [okNs, h1, h2]
theorem in_fms (t : List Cl) (ss : List (List Cl)) : gInL (fmD t) (.list (ss.map fmD)) = some (.fz (.bool (decide (t ∈ ss)))) := by
  have h1 : okIn (fmD t) (.list (ss.map fmD)) = true := by
    unfold okIn
    simp [okN_fm 10, okNs_fms 10]
  have h2 : isInD (fmD t) (.list (ss.map fmD)) = decide (t ∈ ss) := by
    unfold isInD
    rw [Bool.eq_iff_iff]
    simp only [List.any_eq_true, List.mem_map, decide_eq_true_eq]
    constructor
    · rintro ⟨_, ⟨s, hs, rfl⟩, h⟩
      rw [eqv_fm] at h
      have := of_decide_eq_true h
      subst this
      exact hs
    · intro h
      exact ⟨_, ⟨t, h, rfl⟩, by rw [eqv_fm]; simp⟩
  unfold gInL gBool2
  rw [if_pos h1, h2]
theorem place_fms (t : List Cl) (ss : List (List Cl)) (h : t ∈ ss) : ∃ j, SeqAt.dataPlace (ss.map fmD) (fmD t) = some j := by
  unfold SeqAt.dataPlace
  cases e : (ss.map fmD).findIdx? fun y => PyData.eqv y (fmD t) with
  | some j => exact ⟨j, rfl⟩
  | none =>
    have := List.findIdx?_eq_none_iff.mp e (fmD t) (List.mem_map.mpr ⟨t, h, rfl⟩)
    rw [eqv_fm] at this
    simp at this
theorem m_place_of_set_ {s : Nat × Nat} (hs : s ∈ Szs) {a : Int} (ha : 1 ≤ a) (ha2 : a ≤ 33) (t : List Cl) (h1 : 1 ≤ t.length) (h2 : t.length ≤ 6) (h3 : Asc t) (h4 : ∀ p ∈ t, p ∈ grid s.1 s.2) :
    ∃ d, (d = PyData.none ∨ ∃ j : Nat, d = .int j) ∧ m_place_of_set [.fz (.int (s.1 : Nat)), .fz (.int (s.2 : Nat)), .fz (.int a), .fz (fmD t)] = .ret (.fz d) [.fz (.int (s.1 : Nat)), .fz (.int (s.2 : Nat)), .fz (.int a), .fz (fmD t)] ∧
      (t ∉ AS a t.length (grid s.1 s.2) → d = .none) ∧ (t ∈ AS a t.length (grid s.1 s.2) → ∃ j : Nat, d = .int j ∧ SeqAt.dataPlace ((AS a t.length (grid s.1 s.2)).map fmD) (fmD t) = some j) := by
  obtain ⟨g1, g2, g3, g4, g5, g6, g7, g8, g9⟩ := grid_facts s hs
  have k1 := m_check_grid_ (r := (s.1 : Nat)) (c := (s.2 : Nat)) (by omega) (by omega) (by omega) (by omega)
  have k2 := m_check_ways_ s hs t.length h2
  have k3 := m_check_cells_ (r := (s.1 : Nat)) (c := (s.2 : Nat)) h1 (by omega) h3 (fun p hp => g5 p (h4 p hp))
  have k4 := m_far_enough_ a t (fun p hp => g2 p (h4 p hp)) (by omega)
  obtain ⟨x, x1, x2⟩ := m_sets_of_ hs (show t.length ≤ 12 by omega) a
  have hgl : gLen [fmD t] = some (.fz (.int (t.length : Nat))) := by unfold fmD; simp
  have hn : isNum (.int a) 1 33 = true := by unfold isNum; simp; omega
  have hin := AS_in a _ (grid s.1 s.2) t.length t (Nat.le_refl _) g1
  have ok1 : okNs 12 ((AS a t.length (grid s.1 s.2)).map fmD) = true := okNs_fms 10 _
  have ok2 : okN 12 (fmD t) = true := okN_fm 10 t
  cases hf : far a t with
  | false =>
    have hni : t ∉ AS a t.length (grid s.1 s.2) := fun h => by
      have := (far_iff a t).mpr (hin.mp h).2.2.2
      rw [hf] at this; cases this
    refine ⟨.none, .inl rfl, ?_, fun _ => rfl, fun h => absurd h hni⟩
    unfold m_place_of_set
    refine (semOf_ (by rfl) (by rfl)).trans ?_
    unfold s_place_of_set
    rw [hf] at k4
    generalize fmD t = F at *
    simp [k1, k2, k3, k4, hgl, m_check_number_, hn, truD]
  | true =>
    have hi : t ∈ AS a t.length (grid s.1 s.2) := hin.mpr ⟨rfl, h3, h4, (far_iff a t).mp hf⟩
    obtain ⟨j, hj⟩ := place_fms t _ hi
    refine ⟨.int j, .inr ⟨j, rfl⟩, ?_, fun h => absurd hi h, fun _ => ⟨j, rfl, hj⟩⟩
    unfold m_place_of_set
    refine (semOf_ (by rfl) (by rfl)).trans ?_
    unfold s_place_of_set
    rw [hf] at k4
    generalize (AS a t.length (grid s.1 s.2)).map fmD = A at *
    generalize fmD t = F at *
    simp [k1, k2, k3, k4, hgl, m_check_number_, hn, truD, x2, x1, ok1, ok2, hj]
end MX
namespace MX
open PySem PySem.Spec L2 FS FX
theorem insP_len (x : List Int) : ∀ l, (insP x l).length ≤ l.length + 1 ∧ 1 ≤ (insP x l).length
  | [] => by simp [insP]
  | y :: r => by
    have := insP_len x r
    unfold insP
    split
    · simp
    · split
      · simp
      · simp; omega
theorem ascP_len : ∀ l, (ascP l).length ≤ l.length
  | [] => Nat.le_refl _
  | x :: r => by
    have h1 := insP_len x (ascP r)
    have h2 := ascP_len r
    simp only [ascP, List.length_cons]
    omega
theorem ascP_pos {l : List (List Int)} (h : 1 ≤ l.length) : 1 ≤ (ascP l).length := by
  cases l with
  | nil => cases h
  | cons x r => exact (insP_len x (ascP r)).2
theorem back_pts : ∀ {ks : List (List Int)}, (∀ k ∈ ks, ∃ p : Cl, k = ptL p) → ∃ t : List Cl, ks = t.map ptL
  | [], _ => ⟨[], rfl⟩
  | k :: r, h => by
    obtain ⟨p, rfl⟩ := h k List.mem_cons_self
    obtain ⟨t, rfl⟩ := back_pts fun q hq => h q (List.mem_cons_of_mem _ hq)
    exact ⟨p :: t, rfl⟩
theorem ltP_pl (p q : Cl) : ltP (ptL p) (ptL q) = pl p q := by
  rw [Bool.eq_iff_iff]
  show ltP [p.1, p.2] [q.1, q.2] = true ↔ _
  rw [ltP_iff, pl_iff]
theorem sortSet_ (ps : List Cl) (h1 : 1 ≤ ps.length) (h2 : ps.length ≤ 60) (hb : ∀ p ∈ ps, 0 ≤ p.1 ∧ p.1 < 64 ∧ 0 ≤ p.2 ∧ p.2 < 64) : ∃ t : List Cl, gSortSet (fmD ps) = some (.lst (lsP t)) ∧ Asc t ∧ 1 ≤ t.length ∧ t.length ≤ ps.length ∧ ∀ p ∈ t, p ∈ ps := by
  have hm : ∀ k ∈ ascP (ps.map ptL), ∃ p ∈ ps, k = ptL p := fun k hk => by
    obtain ⟨p, hp, rfl⟩ := List.mem_map.mp (mem_ascP.mp hk)
    exact ⟨p, hp, rfl⟩
  have hok : ∀ k ∈ ps.map ptL, pairOk k = true := fun k hk => by
    obtain ⟨p, hp, rfl⟩ := List.mem_map.mp hk
    obtain ⟨a, b, c, d⟩ := hb p hp
    unfold pairOk ptL
    simp [a, b, c, d]
  obtain ⟨t, ht⟩ := back_pts (ks := ascP (ps.map ptL)) fun k hk => by obtain ⟨p, _, e⟩ := hm k hk; exact ⟨p, e⟩
  have hlen : (ascP (ps.map ptL)).length = t.length := by rw [ht, List.length_map]
  refine ⟨t, ?_, ?_, ?_, ?_, fun p hp => ?_⟩
  · unfold gSortSet fmD
    have hl : (ps.map ptD).length < 64 := by rw [List.length_map]; omega
    dsimp only
    rw [if_pos hl, tupIs_pts]
    dsimp only
    rw [if_pos (List.all_eq_true.mpr hok), ht, List.map_map]
    rfl
  · have := ascP_asc hok
    rw [ht, List.pairwise_map] at this
    exact this.imp fun {a b} h => by rw [← ltP_pl]; exact h
  · rw [← hlen]; exact ascP_pos (by rw [List.length_map]; exact h1)
  · rw [← hlen]
    have := ascP_len (ps.map ptL)
    rw [List.length_map] at this
    exact this
  · obtain ⟨q, hq, e⟩ := hm (ptL p) (by rw [ht]; exact List.mem_map.mpr ⟨p, hp, rfl⟩)
    rw [ptL_inj e]; exact hq
theorem cLoop_one {own : List Nat} {G : PD → Env' → Option Env'} {E : EF} {d : PD} {ds : List PD} {δ δ1 δ2 δ3 δ4 : Env'} {l : L} {ls : List L} (h2 : G d δ = some δ1) (h3 : E δ1 = .ok (.v l) δ3) (h4 : wipeE δ3 own = δ2) (h6 : cLoop own G tY E ds δ2 = some (ls, δ4)) :
    cLoop own G tY E (d :: ds) δ = some (l :: ls, δ4) := by
  have ht : tY δ1 = .ok true δ1 := rfl
  unfold cLoop
  rw [h2]; dsimp only; rw [ht]; dsimp only; rw [h3]; dsimp only; rw [h4, h6]; rfl
theorem gSl_l1 (ds : List PD) : gSl (.list ds) (some (-1)) none = some (.lst ((ds.drop (ds.length - 1)).map .fz)) := by
  show some (M.lst ((cutD ds (some (-1)) none).map .fz)) = _
  congr 3
  unfold cutD
  have e1 : HT.sIx ds.length 0 (some (-1)) = ds.length - 1 := by
    unfold HT.sIx
    dsimp only
    rw [if_pos (by decide)]; omega
  have e2 : HT.sIx ds.length ds.length none = ds.length := rfl
  rw [e1, e2]
  refine List.take_of_length_le ?_
  rw [List.length_drop]
  exact Nat.le_refl _
/-- the drawn cells -/
noncomputable def dcE : EF := (eB2 gIx (eCl m__law_cells (aV (eN 8) (aV (eN 9) aN))) (eCl m__law_draw_v1 (aIo 1 (aV (eB2 gMul (eN 8) (eN 9)) aN))))
theorem cells_drawn {xs : List Int} (hN : Nums xs) {s : Nat × Nat} (hs : s ∈ Szs) (x0 x2 x4 x5 x6 x7 x10 x11 x12 : Option M) : ∀ (r : Nat) (lo k : Nat), k + r ≤ 100000 → ∃ ps : List Cl, ps.length = r ∧ (∀ p ∈ ps, p ∈ grid s.1 s.2) ∧
    cLoop [3] (gN 3) tY dcE ((List.range' lo r).map fun i : Nat => PyData.int (i : Int)) [x0, some (DR xs k), x2, none, x4, x5, x6, x7, some (.fz (.int (s.1 : Nat))), some (.fz (.int (s.2 : Nat))), x10, x11, x12] =
      some (lsP ps, [x0, some (DR xs (k + r)), x2, none, x4, x5, x6, x7, some (.fz (.int (s.1 : Nat))), some (.fz (.int (s.2 : Nat))), x10, x11, x12]) := by
  intro r
  induction r with
  | zero => intro lo k _; exact ⟨[], rfl, (fun _ h => nomatch h), rfl⟩
  | succ r ih =>
    intro lo k hk
    obtain ⟨g1, g2, g3, g4, g5, g6, g7, g8, g9⟩ := grid_facts s hs
    obtain ⟨ps, p1, p2, p3⟩ := ih (lo + 1) (k + 1) (by omega)
    have hcl := m__law_cells_ s hs
    have hpos : 1 ≤ s.1 * s.2 := Nat.mul_pos (by omega) (by omega)
    have hw : (1 : Int) ≤ (s.1 : Int) * (s.2 : Int) := by exact_mod_cast hpos
    have hd := m__law_draw_v1_ hN k (by omega) ((s.1 : Int) * (s.2 : Int)) hw
    have r0 := Int.emod_nonneg (drawU xs k) (b := (s.1 : Int) * (s.2 : Int)) (by omega)
    have r1 := Int.emod_lt_of_pos (drawU xs k) (b := (s.1 : Int) * (s.2 : Int)) (by omega)
    obtain ⟨j, hj⟩ : ∃ j : Nat, drawU xs k % ((s.1 : Int) * (s.2 : Int)) = j := ⟨(drawU xs k % ((s.1 : Int) * (s.2 : Int))).toNat, by omega⟩
    rw [hj] at hd
    have hjl : j < (grid s.1 s.2).length := by
      rw [g3]
      have : (j : Int) < ((s.1 * s.2 : Nat) : Int) := by push_cast; omega
      exact_mod_cast this
    have hix := gIx_fm hjl
    have hm : (grid s.1 s.2).getD j (0, 0) ∈ grid s.1 s.2 := by
      rw [List.getD_eq_getElem?_getD, List.getElem?_eq_getElem hjl]; exact List.getElem_mem hjl
    refine ⟨(grid s.1 s.2).getD j (0, 0) :: ps, by simp [p1], fun p hp => ?_, ?_⟩
    · rcases List.mem_cons.mp hp with rfl | hp
      · exact hm
      · exact p2 p hp
    · have hsm : (s.1 : Int) ≤ 5 ∧ (s.2 : Int) ≤ 5 ∧ 1 ≤ (s.1 : Int) ∧ 1 ≤ (s.2 : Int) := by omega
      obtain ⟨q1, q2, q3, q4⟩ := hsm
      have hmul : gMul (.int (s.1 : Int)) (.int (s.2 : Int)) = some (.fz (.int ((s.1 : Int) * (s.2 : Int)))) := by
        simp (disch := omega)
      have eE : dcE [x0, some (DR xs k), x2, some (.fz (.int (lo : Int))), x4, x5, x6, x7, some (.fz (.int (s.1 : Nat))), some (.fz (.int (s.2 : Nat))), x10, x11, x12] =
          .ok (.fz (ptD ((grid s.1 s.2).getD j (0, 0)))) [x0, some (DR xs (k + 1)), x2, some (.fz (.int (lo : Int))), x4, x5, x6, x7, some (.fz (.int (s.1 : Nat))), some (.fz (.int (s.2 : Nat))), x10, x11, x12] := by
        unfold dcE
        generalize DR xs k = d0 at *
        generalize DR xs (k + 1) = d1 at *
        generalize fmD (grid s.1 s.2) = F at *
        generalize ptD ((grid s.1 s.2).getD j (0, 0)) = P at *
        simp only [eB2_, eCl_, aV_, eN_, aN_, aIo_]
        simp [hcl, hmul, hd, hix]
      have e2 : k + (r + 1) = (k + 1) + r := by omega
      rw [e2, List.range'_succ, List.map_cons]
      have hcons : lsP ((grid s.1 s.2).getD j (0, 0) :: ps) = L.fz (ptD ((grid s.1 s.2).getD j (0, 0))) :: lsP ps := rfl
      rw [hcons]
      refine cLoop_one (δ1 := [x0, some (DR xs k), x2, some (.fz (.int (lo : Int))), x4, x5, x6, x7, some (.fz (.int (s.1 : Nat))), some (.fz (.int (s.2 : Nat))), x10, x11, x12]) ?_ eE ?_ p3
      · generalize DR xs k = d0
        simp
      · generalize DR xs (k + 1) = d1
        generalize DR xs k = d0
        simp
end MX
namespace MX
open PySem PySem.Spec L2 FS FX
theorem ix6' (k : Int) : ∃ a : Int, 1 ≤ a ∧ a ≤ 33 ∧ atI [PyData.int 1, .int 2, .int 3, .int 4, .int 5, .int 8] (k % 6) = some (.int a) := by
  have r0 := Int.emod_nonneg k (b := 6) (by omega)
  have r1 := Int.emod_lt_of_pos k (b := 6) (by omega)
  generalize k % 6 = j at *
  have hj : j = 0 ∨ j = 1 ∨ j = 2 ∨ j = 3 ∨ j = 4 ∨ j = 5 := by omega
  rcases hj with rfl | rfl | rfl | rfl | rfl | rfl
  · exact ⟨1, by decide, by decide, rfl⟩
  · exact ⟨2, by decide, by decide, rfl⟩
  · exact ⟨3, by decide, by decide, rfl⟩
  · exact ⟨4, by decide, by decide, rfl⟩
  · exact ⟨5, by decide, by decide, rfl⟩
  · exact ⟨8, by decide, by decide, rfl⟩
theorem eqOk_pts (n : Nat) : ∀ t : List Cl, eqOks (n + 2) (t.map ptD) = true
  | [] => by simp [eqOks]
  | p :: r => by
    have := eqOk_pts n r
    have hp : eqOk (n + 2) (ptD p) = true := by unfold ptD; simp [eqOk, eqOks]
    simp [eqOks, hp, this]
theorem eqOk_fm (t : List Cl) (h : t.length ≤ 1000) : eqOk 6 (fmD t) = true := by
  have := eqOk_pts 3 t
  unfold fmD
  simp [eqOk, this]; omega
noncomputable def b5S : SF := (sIf (tNt (tTru (eCl (m__law_equal_v1 14) (aV (eCl m_set_at (aV (eN 8) (aV (eN 9) (aV (eN 10) (aV (eN 11) (aV (eN 3) aN)))))) (aV (eIf (tE (eB2 gLt (eN 3) (eDs gLen (aV (eN 2) aN)))) (eB2 gIx (eN 2) (eN 3)) (eC .none)) aN)))))
    (sRt (eC (.bool false)))
    sNl)
noncomputable def b7S : SF := (sSq (sAs 12 (eCl m__law_sets (aV (eN 8) (aV (eN 9) (aV (eDs gLen (aV (eN 5) aN)) (aV (eN 11) aN))))))
  (sIf (tNt (tTru (eCl (m__law_equal_v1 14) (aV (eCl m_place_of_set (aV (eN 8) (aV (eN 9) (aV (eN 11) (aV (eN 5) aN))))) (aV (eIf (tE (eB2 gInL (eN 5) (eN 12))) (eIdx (eN 12) (eN 5)) (eC .none)) aN)))))
    (sRt (eC (.bool false)))
    sNl))
theorem k75_5 (sc : M) (hnR : ∀ δ : Env', nR 0 (some (some sc)) δ = R.ok sc δ) (d1 : M) {s : Nat × Nat} (hs : s ∈ Szs) (m : Nat) (h1 : 1 ≤ m) (h2 : m ≤ 6) (a : Int) (ha : 1 ≤ a) (ha2 : a ≤ 33) (k : Nat) (v : Option M) :
    ∃ δ1, gN 3 (.int (k : Nat)) [some sc, some d1, some (.fz (.list ((AS a m (grid s.1 s.2)).map fmD))), v, none, none, none, none, some (.fz (.int (s.1 : Nat))), some (.fz (.int (s.2 : Nat))), some (.fz (.int (m : Nat))), some (.fz (.int a)), none] = some δ1 ∧
      b5S δ1 = .nx [some sc, some d1, some (.fz (.list ((AS a m (grid s.1 s.2)).map fmD))), some (.fz (.int (k : Nat))), none, none, none, none, some (.fz (.int (s.1 : Nat))), some (.fz (.int (s.2 : Nat))), some (.fz (.int (m : Nat))), some (.fz (.int a)), none] := by
  have hsa := m_set_at_ hs h1 h2 ha ha2 k
  have hlen : ∀ t ∈ AS a m (grid s.1 s.2), t.length ≤ 1000 := fun t ht => by
    obtain ⟨g1, _, _, g4, _⟩ := grid_facts s hs
    have := ((AS_in a _ (grid s.1 s.2) m t (Nat.le_refl _) g1).mp ht).1
    omega
  refine ⟨[some sc, some d1, some (.fz (.list ((AS a m (grid s.1 s.2)).map fmD))), some (.fz (.int (k : Nat))), none, none, none, none, some (.fz (.int (s.1 : Nat))), some (.fz (.int (s.2 : Nat))), some (.fz (.int (m : Nat))), some (.fz (.int a)), none], by simp, ?_⟩
  unfold b5S
  generalize AS a m (grid s.1 s.2) = S at *
  cases e : S[k]? with
  | some t =>
    have hl : (k : Int) < (S.length : Int) := by have := (List.getElem?_eq_some_iff.mp e).1; omega
    have hi : gIx (.list (S.map fmD)) (.int (k : Nat)) = some (.fz (fmD t)) := by
      unfold gIx
      simp only [atI_nat, List.getElem?_map, e]; rfl
    have hq := law_equal_same_v1 (d := fmD t) (e := fmD t) rfl (eqOk_fm t (hlen t (List.mem_of_getElem? e)))
    rw [e] at hsa
    simp [hsa, hl, hi, hq, truD]
  | none =>
    have hl : ¬ (k : Int) < (S.length : Int) := by have := List.getElem?_eq_none_iff.mp e; omega
    have hq := law_equal_same_v1 (d := PyData.none) (e := PyData.none) rfl (by simp [eqOk])
    rw [e] at hsa
    simp [hsa, hl, hq, truD]
theorem k75_7 (sc : M) (hnR : ∀ δ : Env', nR 0 (some (some sc)) δ = R.ok sc δ) (d1 : M) {s : Nat × Nat} (hs : s ∈ Szs) (x2 x3 x4 x10 : Option M) (a : Int) (ha : 1 ≤ a) (ha2 : a ≤ 33) (t : List Cl) (t1 : 1 ≤ t.length) (t2 : t.length ≤ 6) (t3 : Asc t) (t4 : ∀ p ∈ t, p ∈ grid s.1 s.2) (v w : Option M) :
    ∃ δ1 w', gN 5 (fmD t) [some sc, some d1, x2, x3, x4, v, none, none, some (.fz (.int (s.1 : Nat))), some (.fz (.int (s.2 : Nat))), x10, some (.fz (.int a)), w] = some δ1 ∧
      b7S δ1 = .nx [some sc, some d1, x2, x3, x4, some (.fz (fmD t)), none, none, some (.fz (.int (s.1 : Nat))), some (.fz (.int (s.2 : Nat))), x10, some (.fz (.int a)), w'] := by
  obtain ⟨d, hd, hp, h5, h6⟩ := m_place_of_set_ hs ha ha2 t t1 t2 t3 t4
  have hls := m__law_sets_ s hs t.length t1 (by omega) a
  have hin := in_fms t (AS a t.length (grid s.1 s.2))
  have hgl : gLen [fmD t] = some (.fz (.int (t.length : Nat))) := by unfold fmD; simp
  have ok1 : okNs 12 ((AS a t.length (grid s.1 s.2)).map fmD) = true := okNs_fms 10 _
  have ok2 : okN 12 (fmD t) = true := okN_fm 10 t
  have hq := law_equal_same_v1 (d := d) (e := d) rfl (by rcases hd with rfl | ⟨j, rfl⟩ <;> simp [eqOk])
  refine ⟨[some sc, some d1, x2, x3, x4, some (.fz (fmD t)), none, none, some (.fz (.int (s.1 : Nat))), some (.fz (.int (s.2 : Nat))), x10, some (.fz (.int a)), w], some (.fz (.list ((AS a t.length (grid s.1 s.2)).map fmD))), by generalize fmD t = F; simp, ?_⟩
  unfold b7S
  by_cases h : t ∈ AS a t.length (grid s.1 s.2)
  · obtain ⟨j, rfl, hj⟩ := h6 h
    rw [decide_eq_true h] at hin
    generalize (AS a t.length (grid s.1 s.2)).map fmD = A at *
    generalize fmD t = F at *
    clear h5 h6
    simp [hgl, hls, hp, hin, ok1, ok2, hj, hq, truD]
  · have hd0 := h5 h
    subst hd0
    rw [decide_eq_false h] at hin
    generalize (AS a t.length (grid s.1 s.2)).map fmD = A at *
    generalize fmD t = F at *
    clear h5 h6
    simp [hgl, hls, hp, hin, hq, truD]
theorem k75_8 (x0 x1 x2 x3 x4 x5 x8 x9 x10 x11 x12 : Option M) : ∃ v6 v7, (sFor (iE (eDs FS.gLst (aV (eC (.str (Str.ofString "count"))) (aV (eC (.str (Str.ofString "at"))) (aV (eC (.str (Str.ofString "place"))) aN))))) (gN 6)
    (sFor (iE (eDs FS.gLst (aV (eDs FS.gTup (aV (eC (.int 0)) (aV (eC (.int 3)) (aV (eC (.int 2)) (aV (eC (.int 1)) aN))))) (aV (eDs FS.gTup (aV (eC (.int 6)) (aV (eC (.int 3)) (aV (eC (.int 2)) (aV (eC (.int 1)) aN))))) (aV (eDs FS.gTup (aV (eC (.int 3)) (aV (eC (.int 0)) (aV (eC (.int 2)) (aV (eC (.int 1)) aN))))) (aV (eDs FS.gTup (aV (eC (.int 3)) (aV (eC .none) (aV (eC (.int 2)) (aV (eC (.int 1)) aN))))) (aV (eDs FS.gTup (aV (eC (.int 3)) (aV (eC (.int 3)) (aV (eC (.int 2)) (aV (eC (.int 0)) aN))))) (aV (eDs FS.gTup (aV (eC (.int 3)) (aV (eC (.int 3)) (aV (eC (.int 2)) (aV (eC (.int 34)) aN))))) (aV (eDs FS.gTup (aV (eC (.bool true)) (aV (eC (.int 3)) (aV (eC (.int 2)) (aV (eC (.int 1)) aN))))) aN))))))))) (gN 7)
    (sIf (tE (eB2 gNe (eCl m__law_refused_v14 (aV (eN 6) (aV (eB2 gIx (eN 7) (eC (.int 0))) (aV (eB2 gIx (eN 7) (eC (.int 1))) (aV (eB2 gIx (eN 7) (eC (.int 2))) (aV (eB2 gIx (eN 7) (eC (.int 3))) (aV (eIf (tE (eB2 gEq (eN 6) (eC (.str (Str.ofString "place"))))) (eDs FS.gLst (aV (eDs FS.gTup (aV (eC (.int 0)) (aV (eC (.int 0)) aN))) aN)) (eC (.int 0))) aN))))))) (eC (.str (Str.ofString "argument")))))
    (sRt (eC (.bool false)))
    sNl))) [x0, x1, x2, x3, x4, x5, none, none, x8, x9, x10, x11, x12] = .nx [x0, x1, x2, x3, x4, x5, v6, v7, x8, x9, x10, x11, x12] := ⟨some (.fz (.str (Str.ofString "place"))), some (.fz (.tuple [.bool true, .int 3, .int 2, .int 1])), by kernel_rfl⟩
theorem k75_9 (x0 x1 x2 x3 x4 x5 x6 x7 x8 x9 x10 x11 x12 : Option M) : ∃ v7, (sFor (iE (eDs FS.gLst (aV (eDs FS.gTup (aV (eC (.int 3)) (aV (eC (.int 3)) (aV (eC (.int 0)) (aV (eC (.int 1)) (aV (eC (.int 0)) aN)))))) (aV (eDs FS.gTup (aV (eC (.int 3)) (aV (eC (.int 3)) (aV (eC (.int 26)) (aV (eC (.int 1)) (aV (eC (.int 0)) aN)))))) (aV (eDs FS.gTup (aV (eC (.int 3)) (aV (eC (.int 3)) (aV (eC (.int 2)) (aV (eC (.int 1)) (aV (eU1 gNeg (eC (.int 1))) aN)))))) (aV (eDs FS.gTup (aV (eC (.int 3)) (aV (eC (.int 3)) (aV (eC (.int 2)) (aV (eC (.int 1)) (aV (eC .none) aN)))))) (aV (eDs FS.gTup (aV (eC (.int 3)) (aV (eC (.int 3)) (aV (eC .none) (aV (eC (.int 1)) (aV (eC (.int 0)) aN)))))) aN))))))) (gN 7)
    (sIf (tE (eB2 gNe (eCl m__law_refused_v14 (aV (eC (.str (Str.ofString "at"))) (aV (eB2 gIx (eN 7) (eC (.int 0))) (aV (eB2 gIx (eN 7) (eC (.int 1))) (aV (eB2 gIx (eN 7) (eC (.int 2))) (aV (eB2 gIx (eN 7) (eC (.int 3))) (aV (eB2 gIx (eN 7) (eC (.int 4))) aN))))))) (eC (.str (Str.ofString "argument")))))
    (sRt (eC (.bool false)))
    sNl)) [x0, x1, x2, x3, x4, x5, x6, x7, x8, x9, x10, x11, x12] = .nx [x0, x1, x2, x3, x4, x5, x6, v7, x8, x9, x10, x11, x12] := ⟨some (.fz (.tuple [.int 3, .int 3, .none, .int 1, .int 0])), by kernel_rfl⟩
theorem k75_10 (x0 x1 x2 x3 x4 x5 x6 x7 x8 x9 x10 x11 x12 : Option M) : ∃ v7, (sFor (iE (eDs FS.gLst (aV (eDs FS.gLst aN) (aV (eDs FS.gLst (aV (eDs FS.gTup (aV (eC (.int 0)) (aV (eC (.int 0)) aN))) (aV (eDs FS.gTup (aV (eC (.int 0)) (aV (eC (.int 0)) aN))) aN))) (aV (eDs FS.gLst (aV (eDs FS.gTup (aV (eC (.int 1)) (aV (eC (.int 0)) aN))) (aV (eDs FS.gTup (aV (eC (.int 0)) (aV (eC (.int 0)) aN))) aN))) (aV (eDs FS.gLst (aV (eDs FS.gTup (aV (eC (.int 3)) (aV (eC (.int 0)) aN))) aN)) (aV (eDs FS.gLst (aV (eDs FS.gLst (aV (eC (.int 0)) (aV (eC (.int 0)) aN))) aN)) (aV (eC .none) (aV (eDs FS.gTup (aV (eDs FS.gTup (aV (eC (.int 0)) (aV (eC (.int 0)) aN))) aN)) (aV (eDs FS.gLst (aV (eDs FS.gTup (aV (eC (.int 0)) (aV (eC (.int 0)) (aV (eC (.int 0)) aN)))) aN)) (aV (eDs FS.gLst (aV (eDs FS.gTup (aV (eC (.int 0)) (aV (eU1 gNeg (eC (.int 1))) aN))) aN)) aN))))))))))) (gN 7)
    (sIf (tE (eB2 gNe (eCl m__law_refused_v14 (aV (eC (.str (Str.ofString "place"))) (aV (eC (.int 3)) (aV (eC (.int 3)) (aV (eC (.int 1)) (aV (eC (.int 1)) (aV (eN 7) aN))))))) (eC (.str (Str.ofString "argument")))))
    (sRt (eC (.bool false)))
    sNl)) [x0, x1, x2, x3, x4, x5, x6, x7, x8, x9, x10, x11, x12] = .nx [x0, x1, x2, x3, x4, x5, x6, v7, x8, x9, x10, x11, x12] := ⟨some (.fz (.list [.tuple [.int 0, .int (-1)]])), by kernel_rfl⟩
theorem k75_11 (x0 x1 x2 x3 x4 x5 x6 x7 x8 x9 x10 x11 x12 : Option M) : (sRt (eAn (eB2 gEq (eCl m__law_refused_v14 (aV (eC (.str (Str.ofString "count"))) (aV (eC (.int 5)) (aV (eC (.int 5)) (aV (eC (.int 7)) (aV (eC (.int 33)) (aV (eC (.int 0)) aN))))))) (eC (.str (Str.ofString "large")))) (eAn (eB2 gEq (eCl m_count_sets (aV (eC (.int 5)) (aV (eC (.int 5)) (aV (eC (.int 6)) (aV (eC (.int 33)) aN))))) (eC (.int 0))) (eB2 gEq (eCl m__law_refused_v14 (aV (eC (.str (Str.ofString "at"))) (aV (eC (.int 5)) (aV (eC (.int 5)) (aV (eC (.int 7)) (aV (eC (.int 1)) (aV (eU1 gNeg (eC (.int 1))) aN))))))) (eC (.str (Str.ofString "argument"))))))) [x0, x1, x2, x3, x4, x5, x6, x7, x8, x9, x10, x11, x12] = .rt (.fz (.bool true)) [x0, x1, x2, x3, x4, x5, x6, x7, x8, x9, x10, x11, x12] := by kernel_rfl
end MX
namespace MX
open PySem PySem.Spec L2 FS FX
/-! ### sorted lists of points, the least of lists of points -/
theorem alike_pt (p q : Cl) : PySem.W.alike (ptD p) (ptD q) = true := alike_tupI [p.1, p.2] [q.1, q.2]
def srt (ps : List Cl) : List Cl := ps.mergeSort fun a b => PySem.W.dataLe false id (ptD a) (ptD b)
theorem srt_map (ps : List Cl) : sortD (ps.map ptD) = (srt ps).map ptD := by
  unfold sortD srt
  exact (List.map_mergeSort (r := fun a b => PySem.W.dataLe false id (ptD a) (ptD b)) (s := PySem.W.dataLe false id) (f := ptD) (fun a _ b _ => rfl)).symm
theorem srt_perm (ps : List Cl) : (srt ps).Perm ps := List.mergeSort_perm _ _
theorem gSorted_pts (ps : List Cl) : gSorted [fmD ps] = some (.lst (lsP (srt ps))) := by
  have h1 : sortB (ps.map ptD) = true := by
    unfold sortB
    rw [Bool.and_eq_true, Bool.or_eq_true]
    refine ⟨?_, .inl ?_⟩
    · rw [List.all_eq_true]
      intro d hd
      obtain ⟨p, _, rfl⟩ := List.mem_map.mp hd
      rw [List.all_eq_true]
      intro e he
      obtain ⟨q, _, rfl⟩ := List.mem_map.mp he
      exact alike_pt p q
    · rw [List.all_eq_true]
      intro d hd
      obtain ⟨p, _, rfl⟩ := List.mem_map.mp hd
      rfl
  have h2 : okNs 12 (ps.map ptD) = true := okNs_pts 11 ps
  show (if sortB (ps.map ptD) && okNs 12 (ps.map ptD) then some (M.lst ((sortD (ps.map ptD)).map .fz)) else none) = _
  rw [h1, h2, srt_map, lsP_def]; rfl
theorem alikeAll_pts : ∀ a b : List Cl, PySem.W.alikeAll (a.map ptD) (b.map ptD) = true
  | [], _ => by simp [PySem.W.alikeAll]
  | _ :: _, [] => by simp [PySem.W.alikeAll]
  | x :: a, y :: b => by
    rw [List.map_cons, List.map_cons, PySem.W.alikeAll, alike_pt, alikeAll_pts a b]; rfl
theorem alike_fm (a b : List Cl) : PySem.W.alike (fmD a) (fmD b) = true := by
  unfold fmD
  rw [PySem.W.alike]
  exact alikeAll_pts a b
theorem alikeB_fms (ss : List (List Cl)) : alikeB (ss.map fmD) = true := by
  unfold alikeB
  rw [List.all_eq_true]
  intro d hd
  obtain ⟨x, _, rfl⟩ := List.mem_map.mp hd
  rw [Bool.and_eq_true]
  refine ⟨?_, rfl⟩
  rw [List.all_eq_true]
  intro e he
  obtain ⟨y, _, rfl⟩ := List.mem_map.mp he
  exact alike_fm x y
abbrev OO := PyProof.Rows.listOrd PyProof.Rows.itemOrd
theorem toks_ne {x y : PD} (h : PySem.W.alike x y = true) (e : PySem.W.keyToks x = PySem.W.keyToks y) : PyData.eqv x y = true := by
  cases q : PyData.eqv x y with
  | true => rfl
  | false =>
    have h1 := (PySem.W.toks_eqv x y h).2 q [] [Sum.inl 0]
    rw [e, PySem.W.lex_pre] at h1
    have h2 : PyProof.Rows.lexLt PyProof.Rows.itemOrd (PySem.W.keyToks y) (PySem.W.keyToks y) = false := OO.irrefl _
    rw [h2] at h1
    have h3 : PyProof.Rows.lexLt PyProof.Rows.itemOrd [] [Sum.inl 0] = true := rfl
    rw [h3] at h1
    cases h1
theorem lt_anti {a b : List Cl} (h : PySem.W.dataLt (fmD a) (fmD b) = false) (h' : PySem.W.dataLt (fmD b) (fmD a) = false) : a = b := by
  have e : PySem.W.keyToks (fmD a) = PySem.W.keyToks (fmD b) := OO.total _ _ h h'
  have := toks_ne (alike_fm a b) e
  rw [eqv_fm] at this
  exact of_decide_eq_true this
def mnF (x : List Cl) (xs : List (List Cl)) : List Cl := xs.foldl (fun a y => if PySem.W.dataLt (fmD y) (fmD a) then y else a) x
theorem minD_fm (x : List Cl) (xs : List (List Cl)) : PySem.W.minD (fmD x) (xs.map fmD) = fmD (mnF x xs) := by
  unfold PySem.W.minD mnF
  induction xs generalizing x with
  | nil => rfl
  | cons y r ih =>
    simp only [List.map_cons, List.foldl_cons]
    by_cases h : PySem.W.dataLt (fmD y) (fmD x) = true
    · simp only [h, if_true]; exact ih y
    · simp only [h]; exact ih x
theorem gMin_fms (x : List Cl) (xs : List (List Cl)) : gMin [.list ((x :: xs).map fmD)] = some (.fz (fmD (mnF x xs))) := by
  show (if (alikeB ((x :: xs).map fmD) && okNs 12 ((x :: xs).map fmD)) = true then some (M.fz (PySem.W.minD (fmD x) (xs.map fmD))) else none) = _
  rw [alikeB_fms, okNs_fms 10, minD_fm]; rfl
theorem mnF_spec : ∀ (xs : List (List Cl)) (x : List Cl), mnF x xs ∈ x :: xs ∧ ∀ y ∈ x :: xs, PySem.W.dataLt (fmD y) (fmD (mnF x xs)) = false
  | [], x => ⟨List.mem_singleton.mpr rfl, fun y hy => by rw [List.mem_singleton.mp hy]; exact OO.irrefl _⟩
  | z :: xs, x => by
    by_cases h : PySem.W.dataLt (fmD z) (fmD x) = true
    · have e : mnF x (z :: xs) = mnF z xs := by unfold mnF; simp [h]
      obtain ⟨h1, h2⟩ := mnF_spec xs z
      rw [e]
      refine ⟨List.mem_cons_of_mem _ h1, fun y hy => ?_⟩
      rcases List.mem_cons.mp hy with rfl | hy
      · cases q : PySem.W.dataLt (fmD y) (fmD (mnF z xs)) with
        | false => rfl
        | true =>
          have := OO.trans _ _ _ h q
          rw [show OO.blt (PySem.W.keyToks (fmD z)) (PySem.W.keyToks (fmD (mnF z xs))) = false from h2 z List.mem_cons_self] at this
          cases this
      · exact h2 y hy
    · have e : mnF x (z :: xs) = mnF x xs := by unfold mnF; simp [h]
      obtain ⟨h1, h2⟩ := mnF_spec xs x
      rw [e]
      refine ⟨?_, fun y hy => ?_⟩
      · rcases List.mem_cons.mp h1 with h | h
        · rw [h]; exact List.mem_cons_self
        · exact List.mem_cons_of_mem _ (List.mem_cons_of_mem _ h)
      · rcases List.mem_cons.mp hy with rfl | hy
        · exact h2 y List.mem_cons_self
        · rcases List.mem_cons.mp hy with rfl | hy
          · cases q : PySem.W.dataLt (fmD y) (fmD (mnF x xs)) with
            | false => rfl
            | true =>
              rcases OO.negTrans _ (PySem.W.keyToks (fmD x)) _ q with q' | q'
              · exact absurd q' h
              · rw [show OO.blt (PySem.W.keyToks (fmD x)) (PySem.W.keyToks (fmD (mnF x xs))) = false from h2 x List.mem_cons_self] at q'
                cases q'
          · exact h2 y (List.mem_cons_of_mem _ hy)
theorem mnF_eq {x y : List Cl} {xs ys : List (List Cl)} (h : ∀ z, z ∈ x :: xs ↔ z ∈ y :: ys) : mnF x xs = mnF y ys := by
  obtain ⟨a1, a2⟩ := mnF_spec xs x
  obtain ⟨b1, b2⟩ := mnF_spec ys y
  exact lt_anti (b2 _ ((h _).mp a1)) (a2 _ ((h _).mpr b1))
theorem gEq_fm (a b : List Cl) : gEq (fmD a) (fmD b) = some (.fz (.bool (decide (a = b)))) := by
  have h : okEq (fmD a) (fmD b) = true := by unfold okEq; rw [okN_fm 10, okN_fm 10]; rfl
  unfold gEq gBool2
  rw [if_pos h, eqv_fm]
/-! ### the motions -/
def mot (r c : Int) (tu dn bk : Bool) (p : Cl) : Cl :=
  let q := ((if dn then r - 1 - p.1 else p.1), (if bk then c - 1 - p.2 else p.2))
  if tu then (q.2, q.1) else q
def ms4 (r c : Int) (tu : Bool) : List (Cl → Cl) := [mot r c tu false false, mot r c tu false true, mot r c tu true false, mot r c tu true true]
def Ms (r c : Nat) : List (Cl → Cl) := ms4 r c false ++ if r = c then ms4 r c true else []
def Ls (r c : Nat) (dn bk : Bool) : List (Cl → Cl) := mot r c false dn bk :: if r = c then [mot r c true dn bk] else []
def LMs (r c : Nat) : List (Cl → Cl) := Ls r c false false ++ Ls r c false true ++ Ls r c true false ++ Ls r c true true
def img (t : List Cl) (fs : List (Cl → Cl)) : List (List Cl) := fs.map fun f => srt (t.map f)
theorem ms_mem (r c : Nat) (f : Cl → Cl) : f ∈ Ms r c ↔ f ∈ LMs r c := by
  unfold Ms LMs Ls ms4
  by_cases h : r = c
  · simp only [if_pos h, List.mem_append, List.mem_cons, List.not_mem_nil, or_false]
    constructor <;> intro h <;> grind
  · simp only [if_neg h, List.mem_append, List.mem_cons, List.not_mem_nil, or_false]
    constructor <;> intro h <;> grind
theorem ms_count (r c : Nat) (p : List Cl → Bool) (t : List Cl) : ((img t (Ms r c)).filter p).length = ((img t (LMs r c)).filter p).length := by
  rw [← List.countP_eq_length_filter, ← List.countP_eq_length_filter]
  unfold img Ms LMs Ls ms4
  by_cases h : r = c
  · simp only [if_pos h, List.cons_append, List.nil_append, List.map_cons, List.map_nil, List.countP_cons, List.countP_nil]
    omega
  · simp only [if_neg h, List.cons_append, List.nil_append, List.append_nil, List.map_cons, List.map_nil, List.countP_cons, List.countP_nil]
def dctD (g : List Cl) (f : Cl → Cl) : PD := .dict (g.map fun p => (ptD p, ptD (f p)))
theorem m_motions_v1_ : ∀ s ∈ Szs, m_motions_v1 [.fz (.int (s.1 : Nat)), .fz (.int (s.2 : Nat))] = .ret (.v (.lst (lsD ((Ms s.1 s.2).map (dctD (grid s.1 s.2)))))) [.fz (.int (s.1 : Nat)), .fz (.int (s.2 : Nat))] := by
  intro s hs
  unfold Szs at hs
  simp only [List.mem_cons, List.not_mem_nil, or_false] at hs
  rcases hs with rfl | rfl | rfl | rfl | rfl | rfl | rfl | rfl | rfl <;> kernel_rfl
end MX
namespace MX
open PySem PySem.Spec L2 FS FX
section
variable {F G : EF} {δ : Env'} {l : L}
def dgK (a : PD) (r : R M) : R M := r.p fun b δ2 => match a with
  | .dict kvs => if isKd b || isKt b then (match getD' kvs b with
    | some d => .ok (.fz d) δ2
    | none => .bad) else .bad
  | _ => .bad
def dgR (G : EF) (r : R M) : R M := r.p fun a δ1 => dgK a (G δ1)
def dgM (o : Option PD) (δ : Env') : R M := match o with
  | some d => .ok (.fz d) δ
  | none => .bad
@[simp] theorem eDg_ : eDg F G δ = dgR G (F δ) := nr rfl
@[simp] theorem dgR_ok : dgR G (.ok (.v l) δ) = dgK l.pd (G δ) := nr rfl
@[simp] theorem dgK_ok {kvs : List (PD × PD)} : dgK (.dict kvs) (.ok (.v l) δ) = if isKd l.pd || isKt l.pd then dgM (getD' kvs l.pd) δ else .bad := nr rfl
@[simp] theorem dgM_ok {d : PD} : dgM (some d) δ = .ok (.fz d) δ := nr rfl
end
theorem isKt_pt (p : Cl) : isKt (ptD p) = true := rfl
theorem isKd_pt (p : Cl) : isKd (ptD p) = false := rfl
theorem keyT_pt (p q : Cl) : (keyT (ptD p) = keyT (ptD q)) ↔ p = q := by
  constructor
  · intro h
    have h1 : (some [Sum.inl p.1, Sum.inl p.2] : Option (List Key)) = some [Sum.inl q.1, Sum.inl q.2] := h
    injection h1 with h1
    injection h1 with h2 h3
    injection h3 with h3 _
    injection h2 with h2
    injection h3 with h3
    exact Prod.ext h2 h3
  · intro h; rw [h]
theorem get_pt {β : Type} (f : Cl → PD) (q : Cl) : ∀ g : List Cl, q ∈ g → getD' (g.map fun p => (ptD p, f p)) (ptD q) = some (f q)
  | [], h => by cases h
  | p :: g, h => by
    unfold getD'
    rw [if_neg (by rw [isKd_pt]; decide)]
    unfold getDk
    by_cases e : p = q
    · subst e
      rw [List.map_cons, List.find?_cons_of_pos (by simp)]; rfl
    · rw [List.map_cons, List.find?_cons_of_neg (by simp only [decide_eq_true_eq]; rw [keyT_pt]; exact e)]
      have := get_pt (β := β) f q g (by rcases List.mem_cons.mp h with h | h; exact absurd h.symm e; exact h)
      unfold getD' at this
      rw [if_neg (by rw [isKd_pt]; decide)] at this
      exact this
theorem m_images_ (g t : List Cl) (ht : ∀ p ∈ t, p ∈ g) (hl : t.length ≤ 1000) (fs : List (Cl → Cl)) (hf : fs.length ≤ 1000) : m_images [.fz (fmD t), .fz (.list (fs.map (dctD g)))] = .ret (.v (.lst (lsF (img t fs)))) [.fz (fmD t), .fz (.list (fs.map (dctD g)))] := by
  unfold m_images
  refine (semOf_ (by rfl) (by rfl)).trans ?_
  have hb : t.length ≤ big := by unfold big; omega
  have hb2 : fs.length ≤ big := by unfold big; omega
  have hsd : seqD (fmD t) = some (t.map ptD) := rfl
  have c1 := cLoop_all (own := [2]) (G := gN 2) (T := tY) (E := (eDs gSorted (aV (eLc [3] (iE (eN 0)) (gN 3) tY (eDg (eN 2) (eN 3))) aN)))
    (δ := [some (.fz (fmD t)), some (.fz (.list (fs.map (dctD g)))), none, none]) (dctD g) (fun f => L.lst (lsP (srt (t.map f)))) rfl fs (fun f _ => by
      have c2 := cLoop_all (own := [3]) (G := gN 3) (T := tY) (E := (eDg (eN 2) (eN 3)))
        (δ := [some (.fz (fmD t)), some (.fz (.list (fs.map (dctD g)))), some (.fz (dctD g f)), none]) ptD (fun p => L.fz (ptD (f p))) rfl t (fun p hp => by
          have hg := get_pt (β := Cl) (fun p => ptD (f p)) p g (ht p hp)
          generalize fs.map (dctD g) = FS' at *
          unfold dctD
          generalize (g.map fun p => (ptD p, ptD (f p))) = kv at *
          have k1 := isKt_pt p
          generalize ptD (f p) = pf at *
          generalize fmD t = FT at *
          generalize ptD p = pp at *
          refine ⟨[some (.fz FT), some (.fz (.list FS')), some (.fz (.dict kv)), some (.fz pp)], [some (.fz FT), some (.fz (.list FS')), some (.fz (.dict kv)), some (.fz pp)], by simp, by simp [k1, hg], by simp⟩)
      have c2' : cLoop [3] (gN 3) tY (eDg (eN 2) (eN 3)) (t.map ptD) [some (.fz (fmD t)), some (.fz (.list (fs.map (dctD g)))), some (.fz (dctD g f)), none] = some (lsP (t.map f), [some (.fz (fmD t)), some (.fz (.list (fs.map (dctD g)))), some (.fz (dctD g f)), none]) := by
        rw [c2]; unfold lsP; rw [List.map_map]; rfl
      have hgs : gSorted [.list (L.pds (lsP (t.map f)))] = some (.lst (lsP (srt (t.map f)))) := by rw [lsP_pds]; exact gSorted_pts _
      have hpd : (L.lst (lsP (t.map f))).pd = .list (L.pds (lsP (t.map f))) := rfl
      generalize lsP (srt (t.map f)) = out at *
      generalize lsP (t.map f) = inn at *
      generalize fs.map (dctD g) = FS' at *
      generalize dctD g f = df at *
      generalize fmD t = FT at *
      refine ⟨[some (.fz FT), some (.fz (.list FS')), some (.fz df), none], [some (.fz FT), some (.fz (.list FS')), some (.fz df), none], by simp, by simp [hsd, hb, keepOk, c2', hgs], by simp⟩)
  have hmm : (fs.map fun f => L.lst (lsP (srt (t.map f)))) = lsF (img t fs) := by unfold lsF img; rw [List.map_map]; rfl
  rw [hmm] at c1
  unfold s_images
  generalize lsF (img t fs) = out at *
  generalize hX : fs.map (dctD g) = FS' at *
  have hXl : FS'.length ≤ big := by rw [← hX, List.length_map]; exact hb2
  generalize fmD t = FT at *
  simp [seqD, hXl, keepOk, c1]
theorem Ms_len (r c : Nat) : 1 ≤ (Ms r c).length ∧ (Ms r c).length ≤ 8 := by
  unfold Ms ms4
  split <;> simp
def mi (s : Nat × Nat) (t : List Cl) (fs : List (Cl → Cl)) : List Cl := match img t fs with
  | [] => []
  | x :: xs => mnF x xs
theorem gMin_img (s : Nat × Nat) (t : List Cl) (fs : List (Cl → Cl)) (h : 1 ≤ fs.length) : gMin [.list ((img t fs).map fmD)] = some (.fz (fmD (mi s t fs))) := by
  unfold mi
  cases fs with
  | nil => cases h
  | cons f r => exact gMin_fms _ _
theorem mi_eq (s : Nat × Nat) (t : List Cl) : mi s t (Ms s.1 s.2) = mi s t (LMs s.1 s.2) := by
  have hm : ∀ z, z ∈ img t (Ms s.1 s.2) ↔ z ∈ img t (LMs s.1 s.2) := fun z => by
    unfold img
    rw [List.mem_map, List.mem_map]
    constructor
    · rintro ⟨f, hf, rfl⟩; exact ⟨f, (ms_mem _ _ f).mp hf, rfl⟩
    · rintro ⟨f, hf, rfl⟩; exact ⟨f, (ms_mem _ _ f).mpr hf, rfl⟩
  unfold mi
  cases e : img t (Ms s.1 s.2) with
  | nil =>
    cases e2 : img t (LMs s.1 s.2) with
    | nil => rfl
    | cons y ys => rw [e, e2] at hm; have := (hm y).mpr List.mem_cons_self; cases this
  | cons x xs =>
    cases e2 : img t (LMs s.1 s.2) with
    | nil => rw [e, e2] at hm; have := (hm x).mp List.mem_cons_self; cases this
    | cons y ys => rw [e, e2] at hm; exact mnF_eq hm
theorem cLoop_stp {own : List Nat} {G : PD → Env' → Option Env'} {T : BF} {E : EF} {d : PD} {ds : List PD} {δ δ1 δ2 δ3 δ' δ4 : Env'} {b : Bool} {l : L} {ls : List L} (h1 : G d δ = some δ1) (h2 : T δ1 = .ok b δ2) (h3 : wipeE δ2 own = δ') (h4 : E δ2 = .ok (.v l) δ3) (h5 : wipeE δ3 own = δ') (h6 : cLoop own G T E ds δ' = some (ls, δ4)) :
    cLoop own G T E (d :: ds) δ = some (if b then l :: ls else ls, δ4) := by
  unfold cLoop
  rw [h1]; dsimp only; rw [h2]
  cases b with
  | false => dsimp only; rw [h3, h6]; rfl
  | true => dsimp only; rw [h4]; dsimp only; rw [h5, h6]; rfl
def fst1 (s : Nat × Nat) (m : Nat) (a : Int) : List (List Cl) := (AS a m (grid s.1 s.2)).filter fun t => decide (t = mi s t (Ms s.1 s.2))
section
variable {s : Nat × Nat} {m : Nat} {a : Int}
theorem m_first_ones_ (hs : s ∈ Szs) (hm : m ≤ 12) (a : Int) : ∃ x : L, x.pd = .list ((fst1 s m a).map fmD) ∧ m_first_ones [.fz (.int (s.1 : Nat)), .fz (.int (s.2 : Nat)), .fz (.int (m : Nat)), .fz (.int a)] = .ret (.v x) [.fz (.int (s.1 : Nat)), .fz (.int (s.2 : Nat)), .fz (.int (m : Nat)), .fz (.int a)] := by
  obtain ⟨g1, g2, g3, g4, _⟩ := grid_facts s hs
  have hmo := m_motions_v1_ s hs
  obtain ⟨x, x1, x2⟩ := m_sets_of_ hs hm a
  have h96 := AS_4096 hs m a
  have hin := fun t => AS_in a _ (grid s.1 s.2) m t (Nat.le_refl _) g1
  obtain ⟨ml1, ml2⟩ := Ms_len s.1 s.2
  refine ⟨.lst ((fst1 s m a).map fun t => L.fz (fmD t)), ?_, ?_⟩
  · show PyData.list (L.pds ((fst1 s m a).map (L.fz ∘ fmD))) = _
    rw [pds_comp]
  unfold m_first_ones
  refine (semOf_ (by rfl) (by rfl)).trans ?_
  have cg : ∀ ts : List (List Cl), (∀ t ∈ ts, t ∈ AS a m (grid s.1 s.2)) → cLoop [5] (gN 5) (tE (eB2 gEq (eN 5) (eDs gMin (aV (eCl m_images (aV (eN 5) (aV (eN 4) aN))) aN)))) (eN 5) (ts.map fmD) [some (.fz (.int (s.1 : Nat))), some (.fz (.int (s.2 : Nat))), some (.fz (.int (m : Nat))), some (.fz (.int a)), some (.fz (.list ((Ms s.1 s.2).map (dctD (grid s.1 s.2))))), none] =
      some ((ts.filter fun t => decide (t = mi s t (Ms s.1 s.2))).map fun t => L.fz (fmD t), [some (.fz (.int (s.1 : Nat))), some (.fz (.int (s.2 : Nat))), some (.fz (.int (m : Nat))), some (.fz (.int a)), some (.fz (.list ((Ms s.1 s.2).map (dctD (grid s.1 s.2))))), none]) := fun ts hts =>
    cLoop_flt (own := [5]) (G := gN 5) (T := (tE (eB2 gEq (eN 5) (eDs gMin (aV (eCl m_images (aV (eN 5) (aV (eN 4) aN))) aN))))) (E := eN 5)
    (δ := [some (.fz (.int (s.1 : Nat))), some (.fz (.int (s.2 : Nat))), some (.fz (.int (m : Nat))), some (.fz (.int a)), some (.fz (.list ((Ms s.1 s.2).map (dctD (grid s.1 s.2))))), none]) fmD (fun t => decide (t = mi s t (Ms s.1 s.2))) (fun t => L.fz (fmD t)) ts (fun t ht => by
      obtain ⟨q1, q2, q3, q4⟩ := (hin t).mp (hts t ht)
      have hi := m_images_ (grid s.1 s.2) t q3 (by omega) (Ms s.1 s.2) (by omega)
      have hmn : gMin [.list (L.pds (lsF (img t (Ms s.1 s.2))))] = some (.fz (fmD (mi s t (Ms s.1 s.2)))) := by rw [lsF_pds]; exact gMin_img s t _ ml1
      have hq := gEq_fm t (mi s t (Ms s.1 s.2))
      generalize (Ms s.1 s.2).map (dctD (grid s.1 s.2)) = MD at *
      generalize lsF (img t (Ms s.1 s.2)) = LI at *
      generalize decide (t = mi s t (Ms s.1 s.2)) = b at *
      generalize fmD (mi s t (Ms s.1 s.2)) = MM at *
      generalize fmD t = FT at *
      have hw : wipeE [some (.fz (.int (s.1 : Nat))), some (.fz (.int (s.2 : Nat))), some (.fz (.int (m : Nat))), some (.fz (.int a)), some (.fz (.list MD)), some (.fz FT)] [5] = [some (.fz (.int (s.1 : Nat))), some (.fz (.int (s.2 : Nat))), some (.fz (.int (m : Nat))), some (.fz (.int a)), some (.fz (.list MD)), none] := by simp
      refine ⟨[some (.fz (.int (s.1 : Nat))), some (.fz (.int (s.2 : Nat))), some (.fz (.int (m : Nat))), some (.fz (.int a)), some (.fz (.list MD)), some (.fz FT)], [some (.fz (.int (s.1 : Nat))), some (.fz (.int (s.2 : Nat))), some (.fz (.int (m : Nat))), some (.fz (.int a)), some (.fz (.list MD)), some (.fz FT)], by simp, by simp [hi, hmn, hq], fun _ => hw, fun _ => ⟨[some (.fz (.int (s.1 : Nat))), some (.fz (.int (s.2 : Nat))), some (.fz (.int (m : Nat))), some (.fz (.int a)), some (.fz (.list MD)), some (.fz FT)], by simp, hw⟩⟩)
  have hpl : L.pds (lsD ((Ms s.1 s.2).map (dctD (grid s.1 s.2)))) = (Ms s.1 s.2).map (dctD (grid s.1 s.2)) := lsD_pds _
  have cc : ∃ v4 : Option M, cLoop [5] (gN 5) (tE (eB2 gEq (eN 5) (eDs gMin (aV (eCl m_images (aV (eN 5) (aV (eN 4) aN))) aN)))) (eN 5) ((AS a m (grid s.1 s.2)).map fmD) [some (.fz (.int (s.1 : Nat))), some (.fz (.int (s.2 : Nat))), some (.fz (.int (m : Nat))), some (.fz (.int a)), some (.v (.lst (lsD ((Ms s.1 s.2).map (dctD (grid s.1 s.2)))))), none] =
      some ((fst1 s m a).map fun t => L.fz (fmD t), [some (.fz (.int (s.1 : Nat))), some (.fz (.int (s.2 : Nat))), some (.fz (.int (m : Nat))), some (.fz (.int a)), v4, none]) := by
    unfold fst1
    generalize AS a m (grid s.1 s.2) = S at *
    cases S with
    | nil => exact ⟨_, rfl⟩
    | cons t r =>
      refine ⟨some (.fz (.list ((Ms s.1 s.2).map (dctD (grid s.1 s.2))))), ?_⟩
      obtain ⟨q1, q2, q3, q4⟩ := (hin t).mp List.mem_cons_self
      have hi := m_images_ (grid s.1 s.2) t q3 (by omega) (Ms s.1 s.2) (by omega)
      have hmn : gMin [.list (L.pds (lsF (img t (Ms s.1 s.2))))] = some (.fz (fmD (mi s t (Ms s.1 s.2)))) := by rw [lsF_pds]; exact gMin_img s t _ ml1
      have hq := gEq_fm t (mi s t (Ms s.1 s.2))
      have cr := cg r fun y hy => List.mem_cons_of_mem _ hy
      rw [List.map_cons, List.filter_cons]
      generalize (Ms s.1 s.2).map (dctD (grid s.1 s.2)) = MD at *
      generalize lsF (img t (Ms s.1 s.2)) = LI at *
      generalize decide (t = mi s t (Ms s.1 s.2)) = b at *
      generalize fmD (mi s t (Ms s.1 s.2)) = MM at *
      have hw : wipeE [some (.fz (.int (s.1 : Nat))), some (.fz (.int (s.2 : Nat))), some (.fz (.int (m : Nat))), some (.fz (.int a)), some (.fz (.list MD)), some (.fz (fmD t))] [5] = [some (.fz (.int (s.1 : Nat))), some (.fz (.int (s.2 : Nat))), some (.fz (.int (m : Nat))), some (.fz (.int a)), some (.fz (.list MD)), none] := by simp
      have hg : gN 5 (fmD t) [some (.fz (.int (s.1 : Nat))), some (.fz (.int (s.2 : Nat))), some (.fz (.int (m : Nat))), some (.fz (.int a)), some (.v (.lst (lsD MD))), none] = some [some (.fz (.int (s.1 : Nat))), some (.fz (.int (s.2 : Nat))), some (.fz (.int (m : Nat))), some (.fz (.int a)), some (.v (.lst (lsD MD))), some (.fz (fmD t))] := by
        generalize lsD MD = LD
        generalize fmD t = FT
        simp
      have ht : tE (eB2 gEq (eN 5) (eDs gMin (aV (eCl m_images (aV (eN 5) (aV (eN 4) aN))) aN))) [some (.fz (.int (s.1 : Nat))), some (.fz (.int (s.2 : Nat))), some (.fz (.int (m : Nat))), some (.fz (.int a)), some (.v (.lst (lsD MD))), some (.fz (fmD t))] = .ok b [some (.fz (.int (s.1 : Nat))), some (.fz (.int (s.2 : Nat))), some (.fz (.int (m : Nat))), some (.fz (.int a)), some (.fz (.list MD)), some (.fz (fmD t))] := by
        generalize lsD MD = LD at *
        generalize fmD t = FT at *
        simp [hpl, hi, hmn, hq]
      have hE : eN 5 [some (.fz (.int (s.1 : Nat))), some (.fz (.int (s.2 : Nat))), some (.fz (.int (m : Nat))), some (.fz (.int a)), some (.fz (.list MD)), some (.fz (fmD t))] = .ok (.fz (fmD t)) [some (.fz (.int (s.1 : Nat))), some (.fz (.int (s.2 : Nat))), some (.fz (.int (m : Nat))), some (.fz (.int a)), some (.fz (.list MD)), some (.fz (fmD t))] := by
        generalize fmD t = FT
        simp
      rw [cLoop_stp hg ht hw hE hw cr]
      cases b <;> rfl
  obtain ⟨δ4, c1'⟩ := cc
  unfold s_first_ones
  have hfz : (M.v x).frz = .fz (.list ((AS a m (grid s.1 s.2)).map fmD)) := by rw [← x1]; rfl
  have hbA : ((AS a m (grid s.1 s.2)).map fmD).length ≤ big := by rw [List.length_map]; unfold big; omega
  generalize (Ms s.1 s.2).map (dctD (grid s.1 s.2)) = MD at *
  generalize (AS a m (grid s.1 s.2)).map fmD = SD at *
  generalize ((fst1 s m a).map fun t => L.fz (fmD t)) = out at *
  generalize lsD MD = LD at *
  clear hin cg
  simp [hmo, x2, x1, seqD, hbA, keepOk, c1']
end
end MX
namespace MX
open PySem PySem.Spec L2 FS FX
section
variable {s : Nat × Nat} {m : Nat} {a : Int}
theorem fst1_le (hs : s ∈ Szs) (m : Nat) (a : Int) : (fst1 s m a).length ≤ 4096 := Nat.le_trans (List.length_filter_le _ _) (AS_4096 hs m a)
theorem m_count_unlike_ (hs : s ∈ Szs) (hm1 : 1 ≤ m) (hm : m ≤ 6) (ha : 1 ≤ a) (ha2 : a ≤ 33) : m_count_unlike [.fz (.int (s.1 : Nat)), .fz (.int (s.2 : Nat)), .fz (.int (m : Nat)), .fz (.int a)] = .ret (.fz (.int ((fst1 s m a).length : Nat))) [.fz (.int (s.1 : Nat)), .fz (.int (s.2 : Nat)), .fz (.int (m : Nat)), .fz (.int a)] := by
  obtain ⟨g1, g2, g3, g4, g5, g6, g7, g8, g9⟩ := grid_facts s hs
  have k1 := m_check_sets_ (r := (s.1 : Nat)) (c := (s.2 : Nat)) (m := (m : Nat)) (a := a) (by omega) (by omega) (by omega) (by omega) (by omega) (by omega) ha ha2
  have k2 := m_check_ways_ s hs m hm
  obtain ⟨x, x1, x2⟩ := m_first_ones_ hs (show m ≤ 12 by omega) a
  unfold m_count_unlike
  refine (semOf_ (by rfl) (by rfl)).trans ?_
  unfold s_count_unlike
  have hfz : (M.v x).frz = .fz (.list ((fst1 s m a).map fmD)) := by rw [← x1]; rfl
  simp [k1, k2, x2, hfz]
theorem m_unlike_at_ (hs : s ∈ Szs) (hm1 : 1 ≤ m) (hm : m ≤ 6) (ha : 1 ≤ a) (ha2 : a ≤ 33) (k : Nat) : m_unlike_at [.fz (.int (s.1 : Nat)), .fz (.int (s.2 : Nat)), .fz (.int (m : Nat)), .fz (.int a), .fz (.int (k : Nat))] =
    .ret (.fz (match (fst1 s m a)[k]? with
      | some t => fmD t
      | none => .none)) [.fz (.int (s.1 : Nat)), .fz (.int (s.2 : Nat)), .fz (.int (m : Nat)), .fz (.int a), .fz (.int (k : Nat))] := by
  obtain ⟨g1, g2, g3, g4, g5, g6, g7, g8, g9⟩ := grid_facts s hs
  have k1 := m_check_sets_ (r := (s.1 : Nat)) (c := (s.2 : Nat)) (m := (m : Nat)) (a := a) (by omega) (by omega) (by omega) (by omega) (by omega) (by omega) ha ha2
  have k2 := m_check_ways_ s hs m hm
  obtain ⟨x, x1, x2⟩ := m_first_ones_ hs (show m ≤ 12 by omega) a
  have k3 : m_check_place_v1 [.fz (.int (k : Nat))] = .ret (.fz .none) [.fz (.int (k : Nat))] := by
    unfold m_check_place_v1
    refine (semOf_ (by rfl) (by rfl)).trans ?_
    unfold s_check_place_v1
    have : ¬ (k : Int) < 0 := by omega
    simp [this, gIsa, PyData.isInt, PyData.isBool, truD]
  unfold m_unlike_at
  refine (semOf_ (by rfl) (by rfl)).trans ?_
  unfold s_unlike_at
  generalize fst1 s m a = ss at *
  cases x with
  | dic _ => cases x1
  | fz d =>
    cases x1
    cases e : ss[k]? with
    | some t =>
      have hl : (k : Int) < (ss.length : Int) := by have := (List.getElem?_eq_some_iff.mp e).1; omega
      simp [k1, k2, k3, x2, hl, gIx, atI_nat, e]
    | none =>
      have hl : ¬ (k : Int) < (ss.length : Int) := by have := List.getElem?_eq_none_iff.mp e; omega
      simp [k1, k2, k3, x2, hl]
  | lst ls =>
    have hp : L.pds ls = ss.map fmD := by
      have : PyData.list (L.pds ls) = PyData.list (ss.map fmD) := x1
      injection this
    cases e : ss[k]? with
    | some t =>
      have hl : (k : Int) < (ss.length : Int) := by have := (List.getElem?_eq_some_iff.mp e).1; omega
      simp [k1, k2, k3, x2, hp, hl, gIx, atI_nat, e]
    | none =>
      have hl : ¬ (k : Int) < (ss.length : Int) := by have := List.getElem?_eq_none_iff.mp e; omega
      simp [k1, k2, k3, x2, hp, hl]
def alk (s : Nat × Nat) (t : List Cl) : Nat := ((img t (Ms s.1 s.2)).filter fun u => decide (u = t)).length
theorem m_motions_of_ (hs : s ∈ Szs) (t : List Cl) (h1 : 1 ≤ t.length) (h2 : t.length ≤ 12) (h3 : Asc t) (h4 : ∀ p ∈ t, p ∈ grid s.1 s.2) : m_motions_of [.fz (.int (s.1 : Nat)), .fz (.int (s.2 : Nat)), .fz (fmD t)] = .ret (.fz (.int (alk s t : Nat))) [.fz (.int (s.1 : Nat)), .fz (.int (s.2 : Nat)), .fz (fmD t)] := by
  obtain ⟨g1, g2, g3, g4, g5, g6, g7, g8, g9⟩ := grid_facts s hs
  have k1 := m_check_grid_ (r := (s.1 : Nat)) (c := (s.2 : Nat)) (by omega) (by omega) (by omega) (by omega)
  have k3 := m_check_cells_ (r := (s.1 : Nat)) (c := (s.2 : Nat)) h1 (by omega) h3 (fun p hp => g5 p (h4 p hp))
  have hmo := m_motions_v1_ s hs
  obtain ⟨ml1, ml2⟩ := Ms_len s.1 s.2
  have hi := m_images_ (grid s.1 s.2) t h4 (by omega) (Ms s.1 s.2) (by omega)
  have c1 := cLoop_flt (own := [3]) (G := gN 3) (T := (tE (eB2 gEq (eN 3) (eN 2)))) (E := eN 3)
    (δ := [some (.fz (.int (s.1 : Nat))), some (.fz (.int (s.2 : Nat))), some (.fz (fmD t)), none]) fmD (fun u => decide (u = t)) (fun u => L.fz (fmD u)) (img t (Ms s.1 s.2)) (fun u _ => by
      have hq := gEq_fm u t
      generalize decide (u = t) = b at *
      generalize fmD u = FU at *
      generalize fmD t = FT at *
      have hw : wipeE [some (.fz (.int (s.1 : Nat))), some (.fz (.int (s.2 : Nat))), some (.fz FT), some (.fz FU)] [3] = [some (.fz (.int (s.1 : Nat))), some (.fz (.int (s.2 : Nat))), some (.fz FT), none] := by simp
      exact ⟨[some (.fz (.int (s.1 : Nat))), some (.fz (.int (s.2 : Nat))), some (.fz FT), some (.fz FU)], [some (.fz (.int (s.1 : Nat))), some (.fz (.int (s.2 : Nat))), some (.fz FT), some (.fz FU)], by simp, by simp [hq], fun _ => hw, fun _ => ⟨[some (.fz (.int (s.1 : Nat))), some (.fz (.int (s.2 : Nat))), some (.fz FT), some (.fz FU)], by simp, hw⟩⟩)
  unfold m_motions_of
  refine (semOf_ (by rfl) (by rfl)).trans ?_
  unfold s_motions_of
  have hpl : L.pds (lsD ((Ms s.1 s.2).map (dctD (grid s.1 s.2)))) = (Ms s.1 s.2).map (dctD (grid s.1 s.2)) := lsD_pds _
  have hpi : L.pds (lsF (img t (Ms s.1 s.2))) = (img t (Ms s.1 s.2)).map fmD := lsF_pds _
  have hil : (img t (Ms s.1 s.2)).length ≤ 8 := by unfold img; rw [List.length_map]; exact ml2
  have hbi : ((img t (Ms s.1 s.2)).map fmD).length ≤ big := by rw [List.length_map]; unfold big; omega
  have hal : (alk s t : Nat) = ((img t (Ms s.1 s.2)).filter fun u => decide (u = t)).length := rfl
  rw [hal]
  have hlast : gLen [.list (L.pds (((img t (Ms s.1 s.2)).filter fun u => decide (u = t)).map fun u => L.fz (fmD u)))] = some (.fz (.int (((img t (Ms s.1 s.2)).filter fun u => decide (u = t)).length : Nat))) := by
    have e : L.pds (((img t (Ms s.1 s.2)).filter fun u => decide (u = t)).map (L.fz ∘ fmD)) = _ := pds_comp _
    have e2 : (((img t (Ms s.1 s.2)).filter fun u => decide (u = t)).map fun u => L.fz (fmD u)) = ((img t (Ms s.1 s.2)).filter fun u => decide (u = t)).map (L.fz ∘ fmD) := rfl
    rw [e2, e]
    simp
  generalize (Ms s.1 s.2).map (dctD (grid s.1 s.2)) = MD at *
  generalize lsD MD = LD at *
  generalize lsF (img t (Ms s.1 s.2)) = LI at *
  generalize (((img t (Ms s.1 s.2)).filter fun u => decide (u = t)).map fun u => L.fz (fmD u)) = out at *
  generalize (img t (Ms s.1 s.2)).map fmD = ID at *
  generalize fmD t = FT at *
  simp [k1, k3, hmo, hpl, hi, hpi, seqD, hbi, keepOk, c1, hlast]
end
/-! ### the law's motions -/
noncomputable def lmB : SF := (sSq (sAs 6 (eLc [7] (iE (eN 2)) (gN 7) tY (eDs FS.gTup (aV (eIf (tE (eB2 gEq (eN 4) (eC (.int 1)))) (eB2 FS.gSub (eB2 FS.gSub (eN 0) (eC (.int 1))) (eB2 gIx (eN 7) (eC (.int 0)))) (eB2 gIx (eN 7) (eC (.int 0)))) (aV (eIf (tE (eB2 gEq (eN 5) (eC (.int 1)))) (eB2 FS.gSub (eB2 FS.gSub (eN 1) (eC (.int 1))) (eB2 gIx (eN 7) (eC (.int 1)))) (eB2 gIx (eN 7) (eC (.int 1)))) aN)))))
  (sSq (sApp 3 (eDs gSorted (aV (eN 6) aN)))
  (sIf (tE (eB2 gEq (eN 0) (eN 1)))
    (sApp 3 (eDs gSorted (aV (eLc [7] (iE (eN 6)) (gN 7) tY (eDs FS.gTup (aV (eB2 gIx (eN 7) (eC (.int 1))) (aV (eB2 gIx (eN 7) (eC (.int 0))) aN)))) aN)))
    sNl)))
def bI (b : Bool) : Int := if b then 1 else 0
theorem lm_body (r c : Nat) (t : List Cl) (hl : t.length ≤ 1000) (i j : Bool) (acc : List (List Cl)) (ha : acc.length ≤ 100) (v6 : Option M) : ∃ v6',
    lmB [some (.fz (.int (r : Nat))), some (.fz (.int (c : Nat))), some (.fz (fmD t)), some (.v (.lst (lsF acc))), some (.fz (.int (bI i))), some (.fz (.int (bI j))), v6, none] =
      .nx [some (.fz (.int (r : Nat))), some (.fz (.int (c : Nat))), some (.fz (fmD t)), some (.v (.lst (lsF (acc ++ img t (Ls r c i j))))), some (.fz (.int (bI i))), some (.fz (.int (bI j))), v6', none] := by
  have hsd : seqD (fmD t) = some (t.map ptD) := rfl
  have hb : t.length ≤ big := by unfold big; omega
  have c1 := cLoop_all (own := [7]) (G := gN 7) (T := tY) (E := (eDs FS.gTup (aV (eIf (tE (eB2 gEq (eN 4) (eC (.int 1)))) (eB2 FS.gSub (eB2 FS.gSub (eN 0) (eC (.int 1))) (eB2 gIx (eN 7) (eC (.int 0)))) (eB2 gIx (eN 7) (eC (.int 0)))) (aV (eIf (tE (eB2 gEq (eN 5) (eC (.int 1)))) (eB2 FS.gSub (eB2 FS.gSub (eN 1) (eC (.int 1))) (eB2 gIx (eN 7) (eC (.int 1)))) (eB2 gIx (eN 7) (eC (.int 1)))) aN))))
    (δ := [some (.fz (.int (r : Nat))), some (.fz (.int (c : Nat))), some (.fz (fmD t)), some (.v (.lst (lsF acc))), some (.fz (.int (bI i))), some (.fz (.int (bI j))), v6, none]) ptD (fun p => L.fz (ptD (mot r c false i j p))) rfl t (fun p hp => by
      have g0 := gIx_pt0 p
      have g1 := gIx_pt1 p
      have hout : PyData.tuple [.int (if i then (r : Int) - 1 - p.1 else p.1), .int (if j then (c : Int) - 1 - p.2 else p.2)] = ptD (mot r c false i j p) := rfl
      rw [← hout]
      generalize lsF acc = A at *
      generalize fmD t = FT at *
      generalize ptD p = pp at *
      refine ⟨[some (.fz (.int (r : Nat))), some (.fz (.int (c : Nat))), some (.fz FT), some (.v (.lst A)), some (.fz (.int (bI i))), some (.fz (.int (bI j))), v6, some (.fz pp)], [some (.fz (.int (r : Nat))), some (.fz (.int (c : Nat))), some (.fz FT), some (.v (.lst A)), some (.fz (.int (bI i))), some (.fz (.int (bI j))), v6, some (.fz pp)], by simp, ?_, by simp⟩
      cases i <;> cases j <;> simp [bI, g0, g1])
  have em : (t.map fun p => L.fz (ptD (mot r c false i j p))) = lsP (t.map (mot r c false i j)) := by unfold lsP; rw [List.map_map]; rfl
  have c1' := c1
  rw [em] at c1'
  have st1 : sAs 6 (eLc [7] (iE (eN 2)) (gN 7) tY (eDs FS.gTup (aV (eIf (tE (eB2 gEq (eN 4) (eC (.int 1)))) (eB2 FS.gSub (eB2 FS.gSub (eN 0) (eC (.int 1))) (eB2 gIx (eN 7) (eC (.int 0)))) (eB2 gIx (eN 7) (eC (.int 0)))) (aV (eIf (tE (eB2 gEq (eN 5) (eC (.int 1)))) (eB2 FS.gSub (eB2 FS.gSub (eN 1) (eC (.int 1))) (eB2 gIx (eN 7) (eC (.int 1)))) (eB2 gIx (eN 7) (eC (.int 1)))) aN)))) [some (.fz (.int (r : Nat))), some (.fz (.int (c : Nat))), some (.fz (fmD t)), some (.v (.lst (lsF acc))), some (.fz (.int (bI i))), some (.fz (.int (bI j))), v6, none] =
      .nx [some (.fz (.int (r : Nat))), some (.fz (.int (c : Nat))), some (.fz (fmD t)), some (.v (.lst (lsF acc))), some (.fz (.int (bI i))), some (.fz (.int (bI j))), some (.v (.lst (lsP (t.map (mot r c false i j))))), none] := by
    generalize lsF acc = A at *
    generalize lsP (t.map (mot r c false i j)) = out at *
    generalize fmD t = FT at *
    simp [hsd, hb, keepOk, c1']
  have hu : ∀ u : List Cl, PyData.list (L.pds (lsP u)) = fmD u := fun u => by rw [lsP_pds]; rfl
  have gs := gSorted_pts (t.map (mot r c false i j))
  have hlA : (lsF acc).length < big := by rw [lsF_len]; unfold big; omega
  have st2 : sApp 3 (eDs gSorted (aV (eN 6) aN)) [some (.fz (.int (r : Nat))), some (.fz (.int (c : Nat))), some (.fz (fmD t)), some (.v (.lst (lsF acc))), some (.fz (.int (bI i))), some (.fz (.int (bI j))), some (.v (.lst (lsP (t.map (mot r c false i j))))), none] =
      .nx [some (.fz (.int (r : Nat))), some (.fz (.int (c : Nat))), some (.fz (fmD t)), some (.v (.lst (lsF (acc ++ [srt (t.map (mot r c false i j))])))), some (.fz (.int (bI i))), some (.fz (.int (bI j))), some (.fz (fmD (t.map (mot r c false i j)))), none] := by
    have e : lsF (acc ++ [srt (t.map (mot r c false i j))]) = lsF acc ++ [L.lst (lsP (srt (t.map (mot r c false i j))))] := by rw [lsF_app]; rfl
    rw [e]
    have h0 := hu (t.map (mot r c false i j))
    generalize lsF acc = A at *
    generalize lsP (srt (t.map (mot r c false i j))) = so at *
    generalize lsP (t.map (mot r c false i j)) = out at *
    generalize fmD (t.map (mot r c false i j)) = FU at *
    generalize fmD t = FT at *
    simp [h0, gs, hlA]
  refine ⟨some (.fz (fmD (t.map (mot r c false i j)))), ?_⟩
  unfold lmB
  rw [sSq_, st1, sqR_nx, sSq_, st2, sqR_nx]
  by_cases hrc : r = c
  · subst hrc
    have hLs : img t (Ls r r i j) = [srt (t.map (mot r r false i j)), srt ((t.map (mot r r false i j)).map fun p => (p.2, p.1))] := by
      unfold img Ls
      rw [if_pos rfl, List.map_cons, List.map_cons, List.map_nil, List.map_map]
      congr 3
    have gs2 := gSorted_pts ((t.map (mot r r false i j)).map fun p => (p.2, p.1))
    have e : lsF (acc ++ img t (Ls r r i j)) = lsF (acc ++ [srt (t.map (mot r r false i j))]) ++ [L.lst (lsP (srt ((t.map (mot r r false i j)).map fun p => (p.2, p.1))))] := by
      rw [hLs, lsF_app, lsF_app, List.append_assoc]; rfl
    rw [e]
    have hul : (t.map (mot r r false i j)).length ≤ big := by rw [List.length_map]; exact hb
    have hlB : (lsF (acc ++ [srt (t.map (mot r r false i j))])).length < big := by rw [lsF_len]; simp; unfold big; omega
    generalize t.map (mot r r false i j) = u at *
    have hsu : seqD (fmD u) = some (u.map ptD) := rfl
    have c2 := cLoop_all (own := [7]) (G := gN 7) (T := tY) (E := (eDs FS.gTup (aV (eB2 gIx (eN 7) (eC (.int 1))) (aV (eB2 gIx (eN 7) (eC (.int 0))) aN))))
      (δ := [some (.fz (.int (r : Nat))), some (.fz (.int (r : Nat))), some (.fz (fmD t)), some (.v (.lst (lsF (acc ++ [srt u])))), some (.fz (.int (bI i))), some (.fz (.int (bI j))), some (.fz (fmD u)), none]) ptD (fun p => L.fz (ptD (p.2, p.1))) rfl u (fun p hp => by
        have g0 := gIx_pt0 p
        have g1 := gIx_pt1 p
        have hout : PyData.tuple [.int p.2, .int p.1] = ptD (p.2, p.1) := rfl
        rw [← hout]
        generalize lsF (acc ++ [srt u]) = A at *
        generalize fmD t = FT at *
        generalize fmD u = FU at *
        generalize ptD p = pp at *
        exact ⟨[some (.fz (.int (r : Nat))), some (.fz (.int (r : Nat))), some (.fz FT), some (.v (.lst A)), some (.fz (.int (bI i))), some (.fz (.int (bI j))), some (.fz FU), some (.fz pp)], [some (.fz (.int (r : Nat))), some (.fz (.int (r : Nat))), some (.fz FT), some (.v (.lst A)), some (.fz (.int (bI i))), some (.fz (.int (bI j))), some (.fz FU), some (.fz pp)], by simp, by simp [g0, g1], by simp⟩)
    have em2 : (u.map fun p => L.fz (ptD (p.2, p.1))) = lsP (u.map fun p => (p.2, p.1)) := by unfold lsP; rw [List.map_map]; rfl
    have c2' := c2
    rw [em2] at c2'
    have h0 := hu (u.map fun p => (p.2, p.1))
    clear c1 c1' c2 st1 st2 e hLs em em2
    generalize lsF (acc ++ [srt u]) = A at *
    generalize lsP (srt (u.map fun p => (p.2, p.1))) = so at *
    generalize lsP (u.map fun p => (p.2, p.1)) = out at *
    generalize fmD (u.map fun p => (p.2, p.1)) = FV at *
    generalize fmD t = FT at *
    generalize fmD u = FU at *
    simp [hsu, hul, keepOk, c2', h0, gs2, hlB]
  · have hLs : img t (Ls r c i j) = [srt (t.map (mot r c false i j))] := by
      unfold img Ls
      rw [if_neg hrc]; rfl
    rw [hLs]
    have hri : ¬ ((r : Int) = (c : Int)) := by omega
    clear c1 c1' st1 st2 em
    generalize lsF (acc ++ [srt (t.map (mot r c false i j))]) = A at *
    generalize fmD (t.map (mot r c false i j)) = FU at *
    generalize fmD t = FT at *
    simp [hri]
theorem m__law_motions_ (r c : Nat) (t : List Cl) (hl : t.length ≤ 1000) : m__law_motions [.fz (.int (r : Nat)), .fz (.int (c : Nat)), .fz (fmD t)] = .ret (.v (.lst (lsF (img t (LMs r c))))) [.fz (.int (r : Nat)), .fz (.int (c : Nat)), .fz (fmD t)] := by
  unfold m__law_motions
  refine (semOf_ (by rfl) (by rfl)).trans ?_
  have hLl : ∀ i j, (img t (Ls r c i j)).length ≤ 2 := fun i j => by
    unfold img Ls
    rw [List.length_map]
    split <;> simp
  obtain ⟨v1, h1⟩ := lm_body r c t hl false false [] (by simp) none
  obtain ⟨v2, h2⟩ := lm_body r c t hl false true (img t (Ls r c false false)) (by have := hLl false false; omega) v1
  obtain ⟨v3, h3⟩ := lm_body r c t hl true false (img t (Ls r c false false) ++ img t (Ls r c false true)) (by have := hLl false false; have := hLl false true; rw [List.length_append]; omega) v2
  obtain ⟨v4, h4⟩ := lm_body r c t hl true true (img t (Ls r c false false) ++ img t (Ls r c false true) ++ img t (Ls r c true false)) (by have := hLl false false; have := hLl false true; have := hLl true false; rw [List.length_append, List.length_append]; omega) v3
  have e : img t (LMs r c) = img t (Ls r c false false) ++ img t (Ls r c false true) ++ img t (Ls r c true false) ++ img t (Ls r c true true) := by
    unfold img LMs
    simp only [List.map_append]
  rw [e]
  rw [List.nil_append] at h1
  have hb0 : bI false = 0 := rfl
  have hb1 : bI true = 1 := rfl
  rw [hb0] at h1 h2 h3
  rw [hb1] at h2 h3 h4
  have hl0 : lsF [] = [] := rfl
  rw [hl0] at h1
  have hr2 : rangeD 0 2 = [.int 0, .int 1] := rfl
  have hrt : (2 : Int).toNat = 2 := rfl
  generalize lsF (img t (Ls r c false false)) = A1 at *
  generalize lsF (img t (Ls r c false false) ++ img t (Ls r c false true)) = A2 at *
  generalize lsF (img t (Ls r c false false) ++ img t (Ls r c false true) ++ img t (Ls r c true false)) = A3 at *
  generalize lsF (img t (Ls r c false false) ++ img t (Ls r c false true) ++ img t (Ls r c true false) ++ img t (Ls r c true true)) = A4 at *
  generalize fmD t = FT at *
  clear hLl e
  show frOf [] _ ((sSq (sAs 3 (eDs FS.gLst aN))
  (sSq (sFor (iR rng1 (aV (eC (.int 2)) aN)) (gN 4)
    (sFor (iR rng1 (aV (eC (.int 2)) aN)) (gN 5)
    lmB))
  (sRt (eMv 3)))) _) = _
  generalize lmB = B at *
  simp (disch := omega) [hr2, hrt, h1, h2, h3, h4]
end MX
namespace MX
open PySem PySem.Spec L2 FS FX
noncomputable def c5S : SF := (sIf (tNt (tTru (eCl (m__law_equal_v1 14) (aV (eCl m_unlike_at (aV (eN 7) (aV (eN 8) (aV (eN 9) (aV (eN 10) (aV (eN 3) aN)))))) (aV (eIf (tE (eB2 gLt (eN 3) (eDs gLen (aV (eN 2) aN)))) (eB2 gIx (eN 2) (eN 3)) (eC .none)) aN)))))
    (sRt (eC (.bool false)))
    sNl)
noncomputable def c7S : SF := (sIf (tNt (tTru (eCl (m__law_equal_v1 14) (aV (eCl m_motions_of (aV (eN 7) (aV (eN 8) (aV (eN 5) aN)))) (aV (eDs gLen (aV (eLc [11] (iE (eCl m__law_motions (aV (eN 7) (aV (eN 8) (aV (eN 5) aN))))) (gN 11) (tE (eB2 gEq (eN 11) (eN 5))) (eN 11)) aN)) aN)))))
    (sRt (eC (.bool false)))
    sNl)
noncomputable def dcE76 : EF := (eB2 gIx (eCl m__law_cells (aV (eN 7) (aV (eN 8) aN))) (eCl m__law_draw_v1 (aIo 1 (aV (eB2 gMul (eN 7) (eN 8)) aN))))
theorem k76_3 (sc d1 : M) {s : Nat × Nat} (hs : s ∈ Szs) (m : Nat) (h1 : 1 ≤ m) (h2 : m ≤ 6) (a : Int) :
    cLoop [4] (gN 4) (tE (eB2 gEq (eDs gMin (aV (eCl m__law_motions (aV (eN 7) (aV (eN 8) (aV (eN 4) aN)))) aN)) (eN 4))) (eN 4) ((AS a m (grid s.1 s.2)).map fmD) [some sc, some d1, none, none, none, none, none, some (.fz (.int (s.1 : Nat))), some (.fz (.int (s.2 : Nat))), some (.fz (.int (m : Nat))), some (.fz (.int a)), none] = some ((fst1 s m a).map fun t => L.fz (fmD t), [some sc, some d1, none, none, none, none, none, some (.fz (.int (s.1 : Nat))), some (.fz (.int (s.2 : Nat))), some (.fz (.int (m : Nat))), some (.fz (.int a)), none]) := by
  obtain ⟨g1, g2, g3, g4, _⟩ := grid_facts s hs
  have hin := fun t => AS_in a _ (grid s.1 s.2) m t (Nat.le_refl _) g1
  have c1 := cLoop_flt (own := [4]) (G := gN 4) (T := (tE (eB2 gEq (eDs gMin (aV (eCl m__law_motions (aV (eN 7) (aV (eN 8) (aV (eN 4) aN)))) aN)) (eN 4)))) (E := eN 4) (δ := [some sc, some d1, none, none, none, none, none, some (.fz (.int (s.1 : Nat))), some (.fz (.int (s.2 : Nat))), some (.fz (.int (m : Nat))), some (.fz (.int a)), none]) fmD (fun t => decide (t = mi s t (Ms s.1 s.2))) (fun t => L.fz (fmD t)) (AS a m (grid s.1 s.2)) (fun t ht => by
    obtain ⟨q1, q2, q3, q4⟩ := (hin t).mp ht
    have hi := m__law_motions_ s.1 s.2 t (by omega)
    have hll : 1 ≤ (LMs s.1 s.2).length := by unfold LMs Ls; simp
    have hmn : gMin [.list (L.pds (lsF (img t (LMs s.1 s.2))))] = some (.fz (fmD (mi s t (LMs s.1 s.2)))) := by rw [lsF_pds]; exact gMin_img s t _ hll
    have hq := gEq_fm (mi s t (LMs s.1 s.2)) t
    have hde : decide (mi s t (LMs s.1 s.2) = t) = decide (t = mi s t (Ms s.1 s.2)) := by
      rw [mi_eq, Bool.eq_iff_iff]; simp only [decide_eq_true_eq]; exact eq_comm
    rw [hde] at hq
    generalize lsF (img t (LMs s.1 s.2)) = LI at *
    generalize decide (t = mi s t (Ms s.1 s.2)) = b at *
    generalize fmD (mi s t (LMs s.1 s.2)) = MM at *
    generalize fmD t = FT at *
    have hw : wipeE [some sc, some d1, none, none, some (.fz FT), none, none, some (.fz (.int (s.1 : Nat))), some (.fz (.int (s.2 : Nat))), some (.fz (.int (m : Nat))), some (.fz (.int a)), none] [4] = [some sc, some d1, none, none, none, none, none, some (.fz (.int (s.1 : Nat))), some (.fz (.int (s.2 : Nat))), some (.fz (.int (m : Nat))), some (.fz (.int a)), none] := by simp
    refine ⟨[some sc, some d1, none, none, some (.fz FT), none, none, some (.fz (.int (s.1 : Nat))), some (.fz (.int (s.2 : Nat))), some (.fz (.int (m : Nat))), some (.fz (.int a)), none], [some sc, some d1, none, none, some (.fz FT), none, none, some (.fz (.int (s.1 : Nat))), some (.fz (.int (s.2 : Nat))), some (.fz (.int (m : Nat))), some (.fz (.int a)), none], by simp, by simp [hi, hmn, hq], fun _ => hw, fun _ => ⟨[some sc, some d1, none, none, some (.fz FT), none, none, some (.fz (.int (s.1 : Nat))), some (.fz (.int (s.2 : Nat))), some (.fz (.int (m : Nat))), some (.fz (.int a)), none], by simp, hw⟩⟩)
  exact c1
theorem k76_5 (sc d1 : M) {s : Nat × Nat} (hs : s ∈ Szs) (m : Nat) (h1 : 1 ≤ m) (h2 : m ≤ 6) (a : Int) (ha : 1 ≤ a) (ha2 : a ≤ 33) (k : Nat) (v : Option M) :
    ∃ δ1, gN 3 (.int (k : Nat)) [some sc, some d1, some (.fz (.list ((fst1 s m a).map fmD))), v, none, none, none, some (.fz (.int (s.1 : Nat))), some (.fz (.int (s.2 : Nat))), some (.fz (.int (m : Nat))), some (.fz (.int a)), none] = some δ1 ∧ c5S δ1 = .nx [some sc, some d1, some (.fz (.list ((fst1 s m a).map fmD))), some (.fz (.int (k : Nat))), none, none, none, some (.fz (.int (s.1 : Nat))), some (.fz (.int (s.2 : Nat))), some (.fz (.int (m : Nat))), some (.fz (.int a)), none] := by
  have hsa := m_unlike_at_ hs h1 h2 ha ha2 k
  have hlen : ∀ t ∈ fst1 s m a, t.length ≤ 1000 := fun t ht => by
    obtain ⟨g1, _, _, g4, _⟩ := grid_facts s hs
    have := ((AS_in a _ (grid s.1 s.2) m t (Nat.le_refl _) g1).mp (List.mem_filter.mp ht).1).1
    omega
  refine ⟨[some sc, some d1, some (.fz (.list ((fst1 s m a).map fmD))), some (.fz (.int (k : Nat))), none, none, none, some (.fz (.int (s.1 : Nat))), some (.fz (.int (s.2 : Nat))), some (.fz (.int (m : Nat))), some (.fz (.int a)), none], by simp, ?_⟩
  unfold c5S
  generalize fst1 s m a = S at *
  cases e : S[k]? with
  | some t =>
    have hl : (k : Int) < (S.length : Int) := by have := (List.getElem?_eq_some_iff.mp e).1; omega
    have hi : gIx (.list (S.map fmD)) (.int (k : Nat)) = some (.fz (fmD t)) := by
      unfold gIx
      simp only [atI_nat, List.getElem?_map, e]; rfl
    have hq := law_equal_same_v1 (d := fmD t) (e := fmD t) rfl (eqOk_fm t (hlen t (List.mem_of_getElem? e)))
    rw [e] at hsa
    simp [hsa, hl, hi, hq, truD]
  | none =>
    have hl : ¬ (k : Int) < (S.length : Int) := by have := List.getElem?_eq_none_iff.mp e; omega
    have hq := law_equal_same_v1 (d := PyData.none) (e := PyData.none) rfl (by simp [eqOk])
    rw [e] at hsa
    simp [hsa, hl, hq, truD]
theorem k76_7 (sc d1 : M) {s : Nat × Nat} (hs : s ∈ Szs) (x2 x3 x4 x9 x10 : Option M) (t : List Cl) (t1 : 1 ≤ t.length) (t2 : t.length ≤ 6) (t3 : Asc t) (t4 : ∀ p ∈ t, p ∈ grid s.1 s.2) (v : Option M) :
    ∃ δ1, gN 5 (fmD t) [some sc, some d1, x2, x3, x4, v, none, some (.fz (.int (s.1 : Nat))), some (.fz (.int (s.2 : Nat))), x9, x10, none] = some δ1 ∧ c7S δ1 = .nx [some sc, some d1, x2, x3, x4, some (.fz (fmD t)), none, some (.fz (.int (s.1 : Nat))), some (.fz (.int (s.2 : Nat))), x9, x10, none] := by
  have hmo := m_motions_of_ hs t t1 (by omega) t3 t4
  have hlm := m__law_motions_ s.1 s.2 t (by omega)
  have hq := law_equal_same_v1 (d := PyData.int (alk s t : Nat)) (e := PyData.int (alk s t : Nat)) rfl (by simp [eqOk])
  have hal : alk s t = ((img t (LMs s.1 s.2)).filter fun u => decide (u = t)).length := ms_count s.1 s.2 (fun u => decide (u = t)) t
  have c1 := cLoop_flt (own := [11]) (G := gN 11) (T := (tE (eB2 gEq (eN 11) (eN 5)))) (E := eN 11) (δ := [some sc, some d1, x2, x3, x4, some (.fz (fmD t)), none, some (.fz (.int (s.1 : Nat))), some (.fz (.int (s.2 : Nat))), x9, x10, none]) fmD (fun u => decide (u = t)) (fun u => L.fz (fmD u)) (img t (LMs s.1 s.2)) (fun u _ => by
    have hq := gEq_fm u t
    generalize decide (u = t) = b at *
    generalize fmD u = FU at *
    generalize fmD t = FT at *
    have hw : wipeE [some sc, some d1, x2, x3, x4, some (.fz FT), none, some (.fz (.int (s.1 : Nat))), some (.fz (.int (s.2 : Nat))), x9, x10, some (.fz FU)] [11] = [some sc, some d1, x2, x3, x4, some (.fz FT), none, some (.fz (.int (s.1 : Nat))), some (.fz (.int (s.2 : Nat))), x9, x10, none] := by simp
    exact ⟨[some sc, some d1, x2, x3, x4, some (.fz FT), none, some (.fz (.int (s.1 : Nat))), some (.fz (.int (s.2 : Nat))), x9, x10, some (.fz FU)], [some sc, some d1, x2, x3, x4, some (.fz FT), none, some (.fz (.int (s.1 : Nat))), some (.fz (.int (s.2 : Nat))), x9, x10, some (.fz FU)], by simp, by simp [hq], fun _ => hw, fun _ => ⟨[some sc, some d1, x2, x3, x4, some (.fz FT), none, some (.fz (.int (s.1 : Nat))), some (.fz (.int (s.2 : Nat))), x9, x10, some (.fz FU)], by simp, hw⟩⟩)
  have hpi : L.pds (lsF (img t (LMs s.1 s.2))) = (img t (LMs s.1 s.2)).map fmD := lsF_pds _
  have hbi : ((img t (LMs s.1 s.2)).map fmD).length ≤ big := by
    rw [List.length_map]; unfold img LMs Ls; rw [List.length_map]; unfold big; split <;> simp
  have hlast : gLen [.list (L.pds (((img t (LMs s.1 s.2)).filter fun u => decide (u = t)).map fun u => L.fz (fmD u)))] = some (.fz (.int (alk s t : Nat))) := by
    have e : L.pds (((img t (LMs s.1 s.2)).filter fun u => decide (u = t)).map (L.fz ∘ fmD)) = _ := pds_comp _
    have e2 : (((img t (LMs s.1 s.2)).filter fun u => decide (u = t)).map fun u => L.fz (fmD u)) = ((img t (LMs s.1 s.2)).filter fun u => decide (u = t)).map (L.fz ∘ fmD) := rfl
    rw [e2, e, hal]
    simp
  refine ⟨[some sc, some d1, x2, x3, x4, some (.fz (fmD t)), none, some (.fz (.int (s.1 : Nat))), some (.fz (.int (s.2 : Nat))), x9, x10, none], by generalize fmD t = FT; simp, ?_⟩
  unfold c7S
  generalize lsF (img t (LMs s.1 s.2)) = LI at *
  generalize (((img t (LMs s.1 s.2)).filter fun u => decide (u = t)).map fun u => L.fz (fmD u)) = out at *
  generalize (img t (LMs s.1 s.2)).map fmD = ID at *
  generalize fmD t = FT at *
  simp [hmo, hlm, hpi, seqD, hbi, keepOk, c1, hlast, hq, truD]
theorem cells_drawn76 {xs : List Int} (hN : Nums xs) {s : Nat × Nat} (hs : s ∈ Szs) (x0 x2 x4 x5 x6 x9 x10 x11 : Option M) : ∀ (r : Nat) (lo k : Nat), k + r ≤ 100000 → ∃ ps : List Cl, ps.length = r ∧ (∀ p ∈ ps, p ∈ grid s.1 s.2) ∧
    cLoop [3] (gN 3) tY dcE76 ((List.range' lo r).map fun i : Nat => PyData.int (i : Int)) [x0, some (DR xs k), x2, none, x4, x5, x6, some (.fz (.int (s.1 : Nat))), some (.fz (.int (s.2 : Nat))), x9, x10, x11] =
      some (lsP ps, [x0, some (DR xs (k + r)), x2, none, x4, x5, x6, some (.fz (.int (s.1 : Nat))), some (.fz (.int (s.2 : Nat))), x9, x10, x11]) := by
  intro r
  induction r with
  | zero => intro lo k _; exact ⟨[], rfl, (fun _ h => nomatch h), rfl⟩
  | succ r ih =>
    intro lo k hk
    obtain ⟨g1, g2, g3, g4, g5, g6, g7, g8, g9⟩ := grid_facts s hs
    obtain ⟨ps, p1, p2, p3⟩ := ih (lo + 1) (k + 1) (by omega)
    have hcl := m__law_cells_ s hs
    have hpos : 1 ≤ s.1 * s.2 := Nat.mul_pos (by omega) (by omega)
    have hw : (1 : Int) ≤ (s.1 : Int) * (s.2 : Int) := by exact_mod_cast hpos
    have hd := m__law_draw_v1_ hN k (by omega) ((s.1 : Int) * (s.2 : Int)) hw
    have r0 := Int.emod_nonneg (drawU xs k) (b := (s.1 : Int) * (s.2 : Int)) (by omega)
    have r1 := Int.emod_lt_of_pos (drawU xs k) (b := (s.1 : Int) * (s.2 : Int)) (by omega)
    obtain ⟨j, hj⟩ : ∃ j : Nat, drawU xs k % ((s.1 : Int) * (s.2 : Int)) = j := ⟨(drawU xs k % ((s.1 : Int) * (s.2 : Int))).toNat, by omega⟩
    rw [hj] at hd
    have hjl : j < (grid s.1 s.2).length := by
      rw [g3]
      have : (j : Int) < ((s.1 * s.2 : Nat) : Int) := by push_cast; omega
      exact_mod_cast this
    have hix := gIx_fm hjl
    have hm : (grid s.1 s.2).getD j (0, 0) ∈ grid s.1 s.2 := by
      rw [List.getD_eq_getElem?_getD, List.getElem?_eq_getElem hjl]; exact List.getElem_mem hjl
    refine ⟨(grid s.1 s.2).getD j (0, 0) :: ps, by simp [p1], fun p hp => ?_, ?_⟩
    · rcases List.mem_cons.mp hp with rfl | hp
      · exact hm
      · exact p2 p hp
    · have hsm : (s.1 : Int) ≤ 5 ∧ (s.2 : Int) ≤ 5 ∧ 1 ≤ (s.1 : Int) ∧ 1 ≤ (s.2 : Int) := by omega
      obtain ⟨q1, q2, q3, q4⟩ := hsm
      have hmul : gMul (.int (s.1 : Int)) (.int (s.2 : Int)) = some (.fz (.int ((s.1 : Int) * (s.2 : Int)))) := by
        simp (disch := omega)
      have eE : dcE76 [x0, some (DR xs k), x2, some (.fz (.int (lo : Int))), x4, x5, x6, some (.fz (.int (s.1 : Nat))), some (.fz (.int (s.2 : Nat))), x9, x10, x11] = .ok (.fz (ptD ((grid s.1 s.2).getD j (0, 0)))) [x0, some (DR xs (k + 1)), x2, some (.fz (.int (lo : Int))), x4, x5, x6, some (.fz (.int (s.1 : Nat))), some (.fz (.int (s.2 : Nat))), x9, x10, x11] := by
        unfold dcE76
        generalize DR xs k = d0 at *
        generalize DR xs (k + 1) = d1 at *
        generalize fmD (grid s.1 s.2) = F at *
        generalize ptD ((grid s.1 s.2).getD j (0, 0)) = P at *
        simp only [eB2_, eCl_, aV_, eN_, aN_, aIo_]
        simp [hcl, hmul, hd, hix]
      have e2 : k + (r + 1) = (k + 1) + r := by omega
      rw [e2, List.range'_succ, List.map_cons]
      have hcons : lsP ((grid s.1 s.2).getD j (0, 0) :: ps) = L.fz (ptD ((grid s.1 s.2).getD j (0, 0))) :: lsP ps := rfl
      rw [hcons]
      refine cLoop_one (δ1 := [x0, some (DR xs k), x2, some (.fz (.int (lo : Int))), x4, x5, x6, some (.fz (.int (s.1 : Nat))), some (.fz (.int (s.2 : Nat))), x9, x10, x11]) ?_ eE ?_ p3
      · generalize DR xs k = d0
        simp
      · generalize DR xs (k + 1) = d1
        generalize DR xs k = d0
        simp
theorem k76_8 (x0 x1 x2 x3 x4 x5 x9 x10 x11 : Option M) : ∀ s ∈ Szs, ∃ v6, (sFor (iE (eDs FS.gLst (aV (eDs FS.gLst aN) (aV (eDs FS.gLst (aV (eDs FS.gTup (aV (eC (.int 0)) (aV (eC (.int 0)) aN))) (aV (eDs FS.gTup (aV (eC (.int 0)) (aV (eC (.int 0)) aN))) aN))) (aV (eDs FS.gLst (aV (eDs FS.gTup (aV (eN 7) (aV (eC (.int 0)) aN))) aN)) (aV (eC .none) (aV (eDs FS.gLst (aV (eDs FS.gTup (aV (eC (.int 0)) (aV (eN 8) aN))) aN)) aN))))))) (gN 6)
    (sTr (sSq (sEx (eCl m_motions_of (aV (eN 7) (aV (eN 8) (aV (eN 6) aN)))))
  (sRt (eC (.bool false)))) (noExs [(2, sNl)]))) [x0, x1, x2, x3, x4, x5, none, some (.fz (.int (s.1 : Nat))), some (.fz (.int (s.2 : Nat))), x9, x10, x11] = .nx [x0, x1, x2, x3, x4, x5, v6, some (.fz (.int (s.1 : Nat))), some (.fz (.int (s.2 : Nat))), x9, x10, x11] := by
  intro s hs
  refine ⟨some (.fz (.list [.tuple [.int 0, .int (s.2 : Nat)]])), ?_⟩
  unfold Szs at hs
  simp only [List.mem_cons, List.not_mem_nil, or_false] at hs
  rcases hs with rfl | rfl | rfl | rfl | rfl | rfl | rfl | rfl | rfl <;> kernel_rfl
end MX
namespace MX
open PySem PySem.Spec L2 FS FX
/-- the first set -/
def hd1 (a : Int) : Nat → Nat → List Cl → Option (List Cl)
  | _, 0, _ => some []
  | 0, _ + 1, _ => none
  | _ + 1, _ + 1, [] => none
  | n + 1, m + 1, x :: r => match hd1 a n m (r.filter (ap a x)) with
    | some s => some (x :: s)
    | none => hd1 a n (m + 1) r
theorem hd1_eq (a : Int) : ∀ (n m : Nat) (l : List Cl), l.length ≤ n → hd1 a n m l = (AS a m l).head?
  | n, 0, l, _ => by rw [AS_0]; cases n <;> rfl
  | 0, m + 1, l, h => by
    have : l = [] := List.length_eq_zero_iff.mp (by omega)
    subst this
    rw [AS_nil]; rfl
  | n + 1, m + 1, [], _ => by rw [AS_nil]; rfl
  | n + 1, m + 1, x :: r, h => by
    simp only [List.length_cons] at h
    have h0 := List.length_filter_le (ap a x) r
    rw [AS_cons, hd1, hd1_eq a n m _ (by omega), hd1_eq a n (m + 1) r (by omega), List.head?_append, List.head?_map]
    cases (AS a m (r.filter (ap a x))).head? <;> simp
def tab77 : List ((Nat × Nat) × Nat × Nat × List Cl) := [
  ((1, 1), 1, 1, [(0, 0)]),
  ((1, 1), 2, 1, [(0, 0)]),
  ((1, 1), 3, 1, [(0, 0)]),
  ((1, 1), 4, 1, [(0, 0)]),
  ((1, 1), 5, 1, [(0, 0)]),
  ((1, 1), 8, 1, [(0, 0)]),
  ((1, 1), 33, 1, [(0, 0)]),
  ((1, 4), 1, 4, [(0, 0), (0, 1), (0, 2), (0, 3)]),
  ((1, 4), 2, 2, [(0, 0), (0, 2)]),
  ((1, 4), 3, 2, [(0, 0), (0, 2)]),
  ((1, 4), 4, 2, [(0, 0), (0, 2)]),
  ((1, 4), 5, 2, [(0, 0), (0, 3)]),
  ((1, 4), 8, 2, [(0, 0), (0, 3)]),
  ((1, 4), 33, 1, [(0, 0)]),
  ((2, 2), 1, 4, [(0, 0), (0, 1), (1, 0), (1, 1)]),
  ((2, 2), 2, 2, [(0, 0), (1, 1)]),
  ((2, 2), 3, 1, [(0, 0)]),
  ((2, 2), 4, 1, [(0, 0)]),
  ((2, 2), 5, 1, [(0, 0)]),
  ((2, 2), 8, 1, [(0, 0)]),
  ((2, 2), 33, 1, [(0, 0)]),
  ((2, 3), 1, 6, [(0, 0), (0, 1), (0, 2), (1, 0), (1, 1), (1, 2)]),
  ((2, 3), 2, 3, [(0, 0), (0, 2), (1, 1)]),
  ((2, 3), 3, 2, [(0, 0), (0, 2)]),
  ((2, 3), 4, 2, [(0, 0), (0, 2)]),
  ((2, 3), 5, 2, [(0, 0), (1, 2)]),
  ((2, 3), 8, 1, [(0, 0)]),
  ((2, 3), 33, 1, [(0, 0)]),
  ((3, 2), 1, 6, [(0, 0), (0, 1), (1, 0), (1, 1), (2, 0), (2, 1)]),
  ((3, 2), 2, 3, [(0, 0), (1, 1), (2, 0)]),
  ((3, 2), 3, 2, [(0, 0), (2, 0)]),
  ((3, 2), 4, 2, [(0, 0), (2, 0)]),
  ((3, 2), 5, 2, [(0, 0), (2, 1)]),
  ((3, 2), 8, 1, [(0, 0)]),
  ((3, 2), 33, 1, [(0, 0)]),
  ((3, 3), 1, 9, [(0, 0), (0, 1), (0, 2), (1, 0), (1, 1), (1, 2), (2, 0), (2, 1), (2, 2)]),
  ((3, 3), 2, 5, [(0, 0), (0, 2), (1, 1), (2, 0), (2, 2)]),
  ((3, 3), 3, 4, [(0, 0), (0, 2), (2, 0), (2, 2)]),
  ((3, 3), 4, 4, [(0, 0), (0, 2), (2, 0), (2, 2)]),
  ((3, 3), 5, 2, [(0, 0), (1, 2)]),
  ((3, 3), 8, 2, [(0, 0), (2, 2)]),
  ((3, 3), 33, 1, [(0, 0)]),
  ((1, 5), 1, 5, [(0, 0), (0, 1), (0, 2), (0, 3), (0, 4)]),
  ((1, 5), 2, 3, [(0, 0), (0, 2), (0, 4)]),
  ((1, 5), 3, 3, [(0, 0), (0, 2), (0, 4)]),
  ((1, 5), 4, 3, [(0, 0), (0, 2), (0, 4)]),
  ((1, 5), 5, 2, [(0, 0), (0, 3)]),
  ((1, 5), 8, 2, [(0, 0), (0, 3)]),
  ((1, 5), 33, 1, [(0, 0)]),
  ((4, 2), 1, 8, [(0, 0), (0, 1), (1, 0), (1, 1), (2, 0), (2, 1), (3, 0), (3, 1)]),
  ((4, 2), 2, 4, [(0, 0), (1, 1), (2, 0), (3, 1)]),
  ((4, 2), 3, 2, [(0, 0), (2, 0)]),
  ((4, 2), 4, 2, [(0, 0), (2, 0)]),
  ((4, 2), 5, 2, [(0, 0), (2, 1)]),
  ((4, 2), 8, 2, [(0, 0), (3, 0)]),
  ((4, 2), 33, 1, [(0, 0)]),
  ((3, 4), 1, 12, [(0, 0), (0, 1), (0, 2), (0, 3), (1, 0), (1, 1), (1, 2), (1, 3), (2, 0), (2, 1), (2, 2), (2, 3)]),
  ((3, 4), 2, 6, [(0, 0), (0, 2), (1, 1), (1, 3), (2, 0), (2, 2)]),
  ((3, 4), 3, 4, [(0, 0), (0, 2), (2, 0), (2, 2)]),
  ((3, 4), 4, 4, [(0, 0), (0, 2), (2, 0), (2, 2)]),
  ((3, 4), 5, 3, [(0, 0), (0, 3), (2, 1)]),
  ((3, 4), 8, 2, [(0, 0), (0, 3)]),
  ((3, 4), 33, 1, [(0, 0)])]
theorem tab77_hd : ∀ t ∈ tab77, (∀ m, m < t.2.2.1 → (hd1 t.2.1 12 (m + 1) (grid t.1.1 t.1.2)).isSome = true) ∧ hd1 t.2.1 12 t.2.2.1 (grid t.1.1 t.1.2) = some t.2.2.2 ∧ hd1 t.2.1 12 (t.2.2.1 + 1) (grid t.1.1 t.1.2) = none ∧ 1 ≤ t.2.2.1 ∧ t.2.2.1 ≤ 12 ∧ (t.2.1 = 1 → t.2.2.1 = t.1.1 * t.1.2 ∧ t.2.2.2 = grid t.1.1 t.1.2) ∧ 1 ≤ t.2.1 ∧ t.2.1 ≤ 33 := by decide +kernel
end MX
namespace MX
open PySem PySem.Spec L2 FS FX
theorem m_most_apart_ : ∀ t ∈ tab77, m_most_apart [.fz (.int (t.1.1 : Nat)), .fz (.int (t.1.2 : Nat)), .fz (.int (t.2.1 : Nat))] = .ret (.fz (.tuple [.int (t.2.2.1 : Nat), fmD t.2.2.2])) [.fz (.int (t.1.1 : Nat)), .fz (.int (t.1.2 : Nat)), .fz (.int (t.2.1 : Nat))] := by
  unfold tab77
  refine List.forall_mem_cons.mpr ⟨by kernel_rfl, ?_⟩
  refine List.forall_mem_cons.mpr ⟨by kernel_rfl, ?_⟩
  refine List.forall_mem_cons.mpr ⟨by kernel_rfl, ?_⟩
  refine List.forall_mem_cons.mpr ⟨by kernel_rfl, ?_⟩
  refine List.forall_mem_cons.mpr ⟨by kernel_rfl, ?_⟩
  refine List.forall_mem_cons.mpr ⟨by kernel_rfl, ?_⟩
  refine List.forall_mem_cons.mpr ⟨by kernel_rfl, ?_⟩
  refine List.forall_mem_cons.mpr ⟨by kernel_rfl, ?_⟩
  refine List.forall_mem_cons.mpr ⟨by kernel_rfl, ?_⟩
  refine List.forall_mem_cons.mpr ⟨by kernel_rfl, ?_⟩
  refine List.forall_mem_cons.mpr ⟨by kernel_rfl, ?_⟩
  refine List.forall_mem_cons.mpr ⟨by kernel_rfl, ?_⟩
  refine List.forall_mem_cons.mpr ⟨by kernel_rfl, ?_⟩
  refine List.forall_mem_cons.mpr ⟨by kernel_rfl, ?_⟩
  refine List.forall_mem_cons.mpr ⟨by kernel_rfl, ?_⟩
  refine List.forall_mem_cons.mpr ⟨by kernel_rfl, ?_⟩
  refine List.forall_mem_cons.mpr ⟨by kernel_rfl, ?_⟩
  refine List.forall_mem_cons.mpr ⟨by kernel_rfl, ?_⟩
  refine List.forall_mem_cons.mpr ⟨by kernel_rfl, ?_⟩
  refine List.forall_mem_cons.mpr ⟨by kernel_rfl, ?_⟩
  refine List.forall_mem_cons.mpr ⟨by kernel_rfl, ?_⟩
  refine List.forall_mem_cons.mpr ⟨by kernel_rfl, ?_⟩
  refine List.forall_mem_cons.mpr ⟨by kernel_rfl, ?_⟩
  refine List.forall_mem_cons.mpr ⟨by kernel_rfl, ?_⟩
  refine List.forall_mem_cons.mpr ⟨by kernel_rfl, ?_⟩
  refine List.forall_mem_cons.mpr ⟨by kernel_rfl, ?_⟩
  refine List.forall_mem_cons.mpr ⟨by kernel_rfl, ?_⟩
  refine List.forall_mem_cons.mpr ⟨by kernel_rfl, ?_⟩
  refine List.forall_mem_cons.mpr ⟨by kernel_rfl, ?_⟩
  refine List.forall_mem_cons.mpr ⟨by kernel_rfl, ?_⟩
  refine List.forall_mem_cons.mpr ⟨by kernel_rfl, ?_⟩
  refine List.forall_mem_cons.mpr ⟨by kernel_rfl, ?_⟩
  refine List.forall_mem_cons.mpr ⟨by kernel_rfl, ?_⟩
  refine List.forall_mem_cons.mpr ⟨by kernel_rfl, ?_⟩
  refine List.forall_mem_cons.mpr ⟨by kernel_rfl, ?_⟩
  refine List.forall_mem_cons.mpr ⟨by kernel_rfl, ?_⟩
  refine List.forall_mem_cons.mpr ⟨by kernel_rfl, ?_⟩
  refine List.forall_mem_cons.mpr ⟨by kernel_rfl, ?_⟩
  refine List.forall_mem_cons.mpr ⟨by kernel_rfl, ?_⟩
  refine List.forall_mem_cons.mpr ⟨by kernel_rfl, ?_⟩
  refine List.forall_mem_cons.mpr ⟨by kernel_rfl, ?_⟩
  refine List.forall_mem_cons.mpr ⟨by kernel_rfl, ?_⟩
  refine List.forall_mem_cons.mpr ⟨by kernel_rfl, ?_⟩
  refine List.forall_mem_cons.mpr ⟨by kernel_rfl, ?_⟩
  refine List.forall_mem_cons.mpr ⟨by kernel_rfl, ?_⟩
  refine List.forall_mem_cons.mpr ⟨by kernel_rfl, ?_⟩
  refine List.forall_mem_cons.mpr ⟨by kernel_rfl, ?_⟩
  refine List.forall_mem_cons.mpr ⟨by kernel_rfl, ?_⟩
  refine List.forall_mem_cons.mpr ⟨by kernel_rfl, ?_⟩
  refine List.forall_mem_cons.mpr ⟨by kernel_rfl, ?_⟩
  refine List.forall_mem_cons.mpr ⟨by kernel_rfl, ?_⟩
  refine List.forall_mem_cons.mpr ⟨by kernel_rfl, ?_⟩
  refine List.forall_mem_cons.mpr ⟨by kernel_rfl, ?_⟩
  refine List.forall_mem_cons.mpr ⟨by kernel_rfl, ?_⟩
  refine List.forall_mem_cons.mpr ⟨by kernel_rfl, ?_⟩
  refine List.forall_mem_cons.mpr ⟨by kernel_rfl, ?_⟩
  refine List.forall_mem_cons.mpr ⟨by kernel_rfl, ?_⟩
  refine List.forall_mem_cons.mpr ⟨by kernel_rfl, ?_⟩
  refine List.forall_mem_cons.mpr ⟨by kernel_rfl, ?_⟩
  refine List.forall_mem_cons.mpr ⟨by kernel_rfl, ?_⟩
  refine List.forall_mem_cons.mpr ⟨by kernel_rfl, ?_⟩
  refine List.forall_mem_cons.mpr ⟨by kernel_rfl, ?_⟩
  refine List.forall_mem_cons.mpr ⟨by kernel_rfl, ?_⟩
  exact fun _ h => nomatch h
end MX
namespace MX
open PySem PySem.Spec L2 FS FX
/-- nothing can be added with the cell c -/
def stf (a : Int) (t : List Cl) (c : Cl) : Bool := decide (c ∈ t) || !(t.all fun o => ap a c o)
def full (a : Int) (g t : List Cl) : Bool := far a t && g.all (stf a t)
/-- a loop that leaves with False at the first bad thing -/
theorem sLoop_allB {Gt : PD → Env' → Option Env'} {S : SF} (f : α → PD) (good : α → Bool) (E : Option M → Env') (st : α → Option M) :
    ∀ (js : List α) (v : Option M), (∀ j ∈ js, ∀ v, Gt (f j) (E v) = some (E (st j))) → (∀ j ∈ js, S (E (st j)) = if good j then .nx (E (st j)) else .rt (.fz (.bool false)) (E (st j))) →
    ∃ v', sLoop Gt S (js.map f) (E v) = if js.all good then .nx (E v') else .rt (.fz (.bool false)) (E v')
  | [], v, _, _ => ⟨v, by simp⟩
  | j :: js, v, h1, h2 => by
    obtain ⟨v', hv⟩ := sLoop_allB f good E st js (st j) (fun i hi => h1 i (List.mem_cons_of_mem _ hi)) fun i hi => h2 i (List.mem_cons_of_mem _ hi)
    have a1 := h1 j List.mem_cons_self v
    have a2 := h2 j List.mem_cons_self
    rw [List.map_cons, List.all_cons]
    cases hg : good j with
    | true =>
      rw [hg] at a2
      refine ⟨v', ?_⟩
      rw [Bool.true_and, ← hv, sLoop_cons, a1, loK_ok, a2]
      rfl
    | false =>
      rw [hg] at a2
      refine ⟨st j, ?_⟩
      rw [Bool.false_and, sLoop_cons, a1, loK_ok, a2]
      rfl
noncomputable def lfS1 : SF := (sIf (tE (eB2 gGt (eDs gLen (aV (eLc [6] (iE (eSl (eN 3) oN (oE (eN 4)))) (gN 6) (tE (eB2 gLt (eCl m__law_far_v2 (aV (eN 6) (aV (eB2 gIx (eN 3) (eN 4)) aN))) (eN 2))) (eN 6)) aN)) (eC (.int 0))))
    (sRt (eC (.bool false)))
    sNl)
noncomputable def lfS2 : SF := (sIf (tAn (tE (eB2 gNinL (eN 5) (eN 3))) (tE (eB2 gEq (eDs gLen (aV (eLc [6] (iE (eN 3)) (gN 6) (tE (eB2 gLt (eCl m__law_far_v2 (aV (eN 6) (aV (eN 5) aN))) (eN 2))) (eN 6)) aN)) (eC (.int 0)))))
    (sRt (eC (.bool false)))
    sNl)
noncomputable def ifS : SF := (sIf (tAn (tE (eB2 gNinL (eN 4) (eN 3))) (tE (eB2 gEq (eLc [5] (iE (eN 3)) (gN 5) (tNt (tTru (eCl m_are_apart (aV (eN 4) (aV (eN 5) (aV (eN 2) aN)))))) (eN 5)) (eDs FS.gLst aN))))
    (sRt (eC (.bool false)))
    sNl)
theorem nap (a : Int) (o c : Cl) : decide (dist2 o c < a) = !ap a c o := by
  unfold ap
  rw [dist2_comm c o, ← decide_not]
  by_cases h : dist2 o c < a
  · rw [decide_eq_true h, decide_eq_true (by omega)]
  · rw [decide_eq_false h, decide_eq_false (by omega)]
theorem flt_nil (p : Cl → Bool) (l : List Cl) : (l.filter fun o => !p o).isEmpty = l.all p := by
  rw [Bool.eq_iff_iff, List.isEmpty_iff, List.filter_eq_nil_iff, List.all_eq_true]
  simp
theorem lf1_step (a : Int) (t : List Cl) (ht : cB t) (hl : t.length ≤ 1000) (x0 x1 : Option M) (k : Nat) (hk : k < t.length) :
    lfS1 [x0, x1, some (.fz (.int a)), some (.fz (fmD t)), some (.fz (.int (k : Nat))), none, none] = if good a t k then .nx [x0, x1, some (.fz (.int a)), some (.fz (fmD t)), some (.fz (.int (k : Nat))), none, none] else .rt (.fz (.bool false)) [x0, x1, some (.fz (.int a)), some (.fz (fmD t)), some (.fz (.int (k : Nat))), none, none] := by
  have hbt : OnF (t.getD k (0, 0)) := (getD_on ht hk).1
  have hix := gIx_fm hk
  have hsl : gSl (fmD t) none (some (k : Int)) = some (.lst (lsP (t.take k))) := by
    have := gSl_lo (t.map ptD) k
    rw [← List.map_take, lsP_def] at this
    exact this
  have c1 := cLoop_flt (own := [6]) (G := gN 6) (T := (tE (eB2 gLt (eCl m__law_far_v2 (aV (eN 6) (aV (eB2 gIx (eN 3) (eN 4)) aN))) (eN 2)))) (E := eN 6)
    (δ := [x0, x1, some (.fz (.int a)), some (.fz (fmD t)), some (.fz (.int (k : Nat))), none, none]) ptD (fun o => !ap a (t.getD k (0, 0)) o) (fun c => L.fz (ptD c)) (t.take k) (fun c hc => by
      have hco : OnF c := ht c (List.mem_of_mem_take hc)
      have ea := m__law_far_v2_ hco hbt
      have hd := nap a c (t.getD k (0, 0))
      generalize fmD t = fl at *
      generalize ptD (t.getD k (0, 0)) = pt at *
      generalize ptD c = pc at *
      generalize dist2 c (t.getD k (0, 0)) = dd at *
      refine ⟨[x0, x1, some (.fz (.int a)), some (.fz fl), some (.fz (.int (k : Nat))), none, some (.fz pc)], [x0, x1, some (.fz (.int a)), some (.fz fl), some (.fz (.int (k : Nat))), none, some (.fz pc)], by simp, ?_, fun _ => by simp, fun _ => ⟨_, by simp; rfl, by simp⟩⟩
      rw [← hd]
      simp [hix, ea, truD])
  have c1' : cLoop [6] (gN 6) (tE (eB2 gLt (eCl m__law_far_v2 (aV (eN 6) (aV (eB2 gIx (eN 3) (eN 4)) aN))) (eN 2))) (eN 6) ((t.take k).map ptD) [x0, x1, some (.fz (.int a)), some (.fz (fmD t)), some (.fz (.int (k : Nat))), none, none] = some (lsP ((t.take k).filter fun o => !ap a (t.getD k (0, 0)) o), _) := c1
  have hg : ((t.take k).filter fun o => !ap a (t.getD k (0, 0)) o).isEmpty = good a t k := flt_nil _ _
  have hb : (t.take k).length ≤ big := by rw [List.length_take]; unfold big; omega
  have hb2 : ((t.take k).filter fun o => !ap a (t.getD k (0, 0)) o).length ≤ 1000 := by
    have := List.length_filter_le (fun o => !ap a (t.getD k (0, 0)) o) (t.take k)
    rw [List.length_take] at this
    omega
  generalize t.take k = tk at *
  generalize (tk.filter fun o => !ap a (t.getD k (0, 0)) o) = fl at *
  have hlen : gLen [.list (L.pds (lsP fl))] = some (.fz (.int (fl.length : Nat))) := by rw [lsP_pds]; simp
  have hz : decide ((0 : Int) < (fl.length : Int)) = !good a t k := by
    rw [← hg]; cases fl <;> simp
  unfold lfS1
  generalize lsP fl = FL at *
  generalize fmD t = F at *
  cases hgd : good a t k with
  | true =>
    rw [hgd] at hz
    simp at hz
    simp [hsl, lsP_pds, seqD, hb, c1', keepOk, hlen, hz]
  | false =>
    rw [hgd] at hz
    simp at hz
    simp [hsl, lsP_pds, seqD, hb, c1', keepOk, hlen, hz]
theorem eqD_nil (fl : List Cl) : gEq (.list (fl.map ptD)) (.list []) = some (.fz (.bool fl.isEmpty)) := by
  have h1 : okN 12 (.list (fl.map ptD)) = true := okN_fm 10 fl
  cases fl with
  | nil => rfl
  | cons x r => 
    simp only [List.map_cons] at h1 ⊢
    have h2 : okEq (.list (ptD x :: List.map ptD r)) (.list []) = true := by
      unfold okEq; rw [h1]; rfl
    simp [gEq, gBool2, h2, PyData.eqv, PyData.eqvAll]
theorem lf2_step (a : Int) (t : List Cl) (ht : cB t) (hl : t.length ≤ 1000) (x0 x1 x4 : Option M) (c : Cl) (hc : OnF c) :
    lfS2 [x0, x1, some (.fz (.int a)), some (.fz (fmD t)), x4, some (.fz (ptD c)), none] = if stf a t c then .nx [x0, x1, some (.fz (.int a)), some (.fz (fmD t)), x4, some (.fz (ptD c)), none] else .rt (.fz (.bool false)) [x0, x1, some (.fz (.int a)), some (.fz (fmD t)), x4, some (.fz (ptD c)), none] := by
  have c1 := cLoop_flt (own := [6]) (G := gN 6) (T := (tE (eB2 gLt (eCl m__law_far_v2 (aV (eN 6) (aV (eN 5) aN))) (eN 2)))) (E := eN 6)
    (δ := [x0, x1, some (.fz (.int a)), some (.fz (fmD t)), x4, some (.fz (ptD c)), none]) ptD (fun o => !ap a c o) (fun c => L.fz (ptD c)) t (fun o ho => by
      have hco : OnF o := ht o ho
      have ea := m__law_far_v2_ hco hc
      have hd := nap a o c
      generalize fmD t = fl at *
      generalize ptD c = pt at *
      generalize ptD o = pc at *
      generalize dist2 o c = dd at *
      refine ⟨[x0, x1, some (.fz (.int a)), some (.fz fl), x4, some (.fz pt), some (.fz pc)], [x0, x1, some (.fz (.int a)), some (.fz fl), x4, some (.fz pt), some (.fz pc)], by simp, ?_, fun _ => by simp, fun _ => ⟨_, by simp; rfl, by simp⟩⟩
      rw [← hd]
      simp [ea])
  have c1' : cLoop [6] (gN 6) (tE (eB2 gLt (eCl m__law_far_v2 (aV (eN 6) (aV (eN 5) aN))) (eN 2))) (eN 6) (t.map ptD) [x0, x1, some (.fz (.int a)), some (.fz (fmD t)), x4, some (.fz (ptD c)), none] = some (lsP (t.filter fun o => !ap a c o), _) := c1
  have hg : (t.filter fun o => !ap a c o).isEmpty = (t.all fun o => ap a c o) := flt_nil _ _
  have hb : t.length ≤ big := by unfold big; omega
  have hb2 : (t.filter fun o => !ap a c o).length ≤ 1000 := by
    have := List.length_filter_le (fun o => !ap a c o) t
    omega
  have hni : gNinL (ptD c) (fmD t) = some (.fz (.bool (!decide (c ∈ t)))) := gNin_pts c t
  have hsd : seqD (fmD t) = some (t.map ptD) := rfl
  have hst : stf a t c = (decide (c ∈ t) || !(t.filter fun o => !ap a c o).isEmpty) := by unfold stf; rw [hg]
  rw [hst]
  generalize (t.filter fun o => !ap a c o) = fl at *
  have hlen : gLen [.list (L.pds (lsP fl))] = some (.fz (.int (fl.length : Nat))) := by rw [lsP_pds]; simp
  have hz : decide ((fl.length : Int) = 0) = fl.isEmpty := by
    cases fl <;> simp
    omega
  unfold lfS2
  generalize lsP fl = FL at *
  generalize fmD t = F at *
  generalize ptD c = pc at *
  cases h1 : decide (c ∈ t) with
  | true =>
    rw [h1] at hni
    simp [hni]
  | false =>
    rw [h1] at hni
    cases h2 : fl.isEmpty <;> rw [h2] at hz <;> simp at hz <;> simp [hni, hsd, hb, c1', keepOk, hlen, hz]
theorem if_step (a : Int) (t : List Cl) (ht : cB t) (hl : t.length ≤ 1000) (x0 x1 : Option M) (c : Cl) (hc : OnF c) :
    ifS [x0, x1, some (.fz (.int a)), some (.fz (fmD t)), some (.fz (ptD c)), none] = if stf a t c then .nx [x0, x1, some (.fz (.int a)), some (.fz (fmD t)), some (.fz (ptD c)), none] else .rt (.fz (.bool false)) [x0, x1, some (.fz (.int a)), some (.fz (fmD t)), some (.fz (ptD c)), none] := by
  have c1 := cLoop_flt (own := [5]) (G := gN 5) (T := (tNt (tTru (eCl m_are_apart (aV (eN 4) (aV (eN 5) (aV (eN 2) aN))))))) (E := eN 5)
    (δ := [x0, x1, some (.fz (.int a)), some (.fz (fmD t)), some (.fz (ptD c)), none]) ptD (fun o => !ap a c o) (fun c => L.fz (ptD c)) t (fun o ho => by
      have hco : OnF o := ht o ho
      have ea := m_are_apart_ (a := a) hc hco
      generalize fmD t = fl at *
      generalize ptD c = pt at *
      generalize ptD o = pc at *
      refine ⟨[x0, x1, some (.fz (.int a)), some (.fz fl), some (.fz pt), some (.fz pc)], [x0, x1, some (.fz (.int a)), some (.fz fl), some (.fz pt), some (.fz pc)], by simp, by simp [ea, truD], fun _ => by simp, fun _ => ⟨_, by simp; rfl, by simp⟩⟩)
  have c1' : cLoop [5] (gN 5) (tNt (tTru (eCl m_are_apart (aV (eN 4) (aV (eN 5) (aV (eN 2) aN)))))) (eN 5) (t.map ptD) [x0, x1, some (.fz (.int a)), some (.fz (fmD t)), some (.fz (ptD c)), none] = some (lsP (t.filter fun o => !ap a c o), _) := c1
  have hg : (t.filter fun o => !ap a c o).isEmpty = (t.all fun o => ap a c o) := flt_nil _ _
  have hb : t.length ≤ big := by unfold big; omega
  have hni : gNinL (ptD c) (fmD t) = some (.fz (.bool (!decide (c ∈ t)))) := gNin_pts c t
  have hsd : seqD (fmD t) = some (t.map ptD) := rfl
  have hst : stf a t c = (decide (c ∈ t) || !(t.filter fun o => !ap a c o).isEmpty) := by unfold stf; rw [hg]
  rw [hst]
  generalize (t.filter fun o => !ap a c o) = fl at *
  have hq : gEq (.list (L.pds (lsP fl))) (.list []) = some (.fz (.bool fl.isEmpty)) := by rw [lsP_pds]; exact eqD_nil fl
  unfold ifS
  generalize lsP fl = FL at *
  generalize fmD t = F at *
  generalize ptD c = pc at *
  cases h1 : decide (c ∈ t) with
  | true =>
    rw [h1] at hni
    simp [hni]
  | false =>
    rw [h1] at hni
    cases h2 : fl.isEmpty <;> rw [h2] at hq <;> simp [hni, hsd, hb, c1', keepOk, hq]
theorem m__law_full_ {s : Nat × Nat} (hs : s ∈ Szs) (a : Int) (t : List Cl) (ht : cB t) (hl : t.length ≤ 1000) : m__law_full [.fz (.int (s.1 : Nat)), .fz (.int (s.2 : Nat)), .fz (.int a), .fz (fmD t)] = .ret (.fz (.bool (full a (grid s.1 s.2) t))) [.fz (.int (s.1 : Nat)), .fz (.int (s.2 : Nat)), .fz (.int a), .fz (fmD t)] := by
  obtain ⟨g1, g2, g3, g4, _⟩ := grid_facts s hs
  have hcl := m__law_cells_ s hs
  unfold m__law_full
  refine (semOf_ (by rfl) (by rfl)).trans ?_
  generalize grid s.1 s.2 = g at *
  have hr : rangeD 0 t.length = (List.range t.length).map fun j : Nat => PyData.int (j : Int) := by unfold rangeD; simp
  have hgl : gLen [fmD t] = some (.fz (.int (t.length : Int))) := by unfold fmD; simp
  have hrt : ((t.length : Int)).toNat = t.length := by omega
  have h1 := fun j (hj : j ∈ List.range t.length) => lf1_step a t ht hl (some (.fz (.int (s.1 : Nat)))) (some (.fz (.int (s.2 : Nat)))) j (List.mem_range.mp hj)
  have h2 := fun x4 c (hc : c ∈ g) => lf2_step a t ht hl (some (.fz (.int (s.1 : Nat)))) (some (.fz (.int (s.2 : Nat)))) x4 c (g2 c hc)
  have hsd : seqD (fmD g) = some (g.map ptD) := rfl
  have hfar : (List.range t.length).all (good a t) = far a t := rfl
  generalize fmD t = F at *
  obtain ⟨v1, l1⟩ := sLoop_allB (Gt := gN 4) (S := lfS1) (fun j : Nat => PyData.int (j : Int)) (good a t) (fun v => [some (.fz (.int (s.1 : Nat))), some (.fz (.int (s.2 : Nat))), some (.fz (.int a)), some (.fz F), v, none, none]) (fun j => some (.fz (.int (j : Nat)))) (List.range t.length) none (fun j _ v => by simp) h1
  rw [← hr, hfar] at l1
  obtain ⟨v2, l2⟩ := sLoop_allB (Gt := gN 5) (S := lfS2) ptD (stf a t) (fun v => [some (.fz (.int (s.1 : Nat))), some (.fz (.int (s.2 : Nat))), some (.fz (.int a)), some (.fz F), v1, v, none]) (fun c => some (.fz (ptD c))) g none (fun j _ v => by simp) (h2 v1)
  unfold full
  clear h1 h2
  generalize fmD g = G at *
  unfold lfS1 at l1
  unfold lfS2 at l2
  unfold s__law_full
  cases hf : far a t with
  | false =>
    rw [hf] at l1
    have l1' := l1.trans (if_neg (by decide))
    simp (disch := omega) [hgl, hrt, l1']
  | true =>
    rw [hf] at l1
    have l1' := l1.trans (if_pos rfl)
    cases hg : g.all (stf a t) with
    | false =>
      rw [hg] at l2
      have l2' := l2.trans (if_neg (by decide))
      simp (disch := omega) [hgl, hrt, l1', hcl, hsd, l2']
    | true =>
      rw [hg] at l2
      have l2' := l2.trans (if_pos rfl)
      simp (disch := omega) [hgl, hrt, l1', hcl, hsd, l2']
theorem m_is_full_ {s : Nat × Nat} (hs : s ∈ Szs) (a : Int) (a1 : 1 ≤ a) (a2 : a ≤ 33) (t : List Cl) (t1 : 1 ≤ t.length) (t2 : t.length ≤ 25) (t3 : Asc t) (t4 : ∀ p ∈ t, p ∈ grid s.1 s.2) : m_is_full [.fz (.int (s.1 : Nat)), .fz (.int (s.2 : Nat)), .fz (.int a), .fz (fmD t)] = .ret (.fz (.bool (full a (grid s.1 s.2) t))) [.fz (.int (s.1 : Nat)), .fz (.int (s.2 : Nat)), .fz (.int a), .fz (fmD t)] := by
  obtain ⟨g1, g2, g3, g4, g5, g6, g7, g8, g9⟩ := grid_facts s hs
  have hcl := m_cells_of_ s hs
  have hcg := m_check_grid_ (r := (s.1 : Int)) (c := (s.2 : Int)) (by omega) (by omega) (by omega) (by omega)
  have hcc := m_check_cells_ t1 t2 t3 fun p hp => g5 p (t4 p hp)
  have hcn := m_check_number_ (.int a) 1 33
  have hin : isNum (.int a) 1 33 = true := by simp [isNum, a1, a2]
  rw [if_pos hin] at hcn
  have ht : cB t := fun p hp => g2 p (t4 p hp)
  have hfe := m_far_enough_ a t ht (by omega)
  unfold m_is_full
  refine (semOf_ (by rfl) (by rfl)).trans ?_
  have h2 := fun c (hc : c ∈ grid s.1 s.2) => if_step a t ht (by omega) (some (.fz (.int (s.1 : Nat)))) (some (.fz (.int (s.2 : Nat)))) c (g2 c hc)
  generalize grid s.1 s.2 = g at *
  have hpd : L.pds (lsP g) = g.map ptD := lsP_pds g
  generalize fmD t = F at *
  obtain ⟨v2, l2⟩ := sLoop_allB (Gt := gN 4) (S := ifS) ptD (stf a t) (fun v => [some (.fz (.int (s.1 : Nat))), some (.fz (.int (s.2 : Nat))), some (.fz (.int a)), some (.fz F), v, none]) (fun c => some (.fz (ptD c))) g none (fun j _ v => by simp) h2
  clear h2
  generalize lsP g = LG at *
  unfold full
  unfold ifS at l2
  unfold s_is_full
  cases hf : far a t with
  | false =>
    rw [hf] at hfe
    simp [hcg, hcn, hcc, hfe, truD]
  | true =>
    rw [hf] at hfe
    cases hg : g.all (stf a t) with
    | false =>
      rw [hg] at l2
      have l2' := l2.trans (if_neg (by decide))
      simp [hcg, hcn, hcc, hfe, truD, hcl, seqD, hpd, l2']
    | true =>
      rw [hg] at l2
      have l2' := l2.trans (if_pos rfl)
      simp [hcg, hcn, hcc, hfe, truD, hcl, seqD, hpd, l2']
end MX
namespace MX
open PySem PySem.Spec L2 FS FX
theorem tab77_all : ∀ s ∈ Szs, ∀ a ∈ [1, 2, 3, 4, 5, 8, 33], ∃ t ∈ tab77, t.1 = s ∧ t.2.1 = a := by decide +kernel
theorem tab77_le : ∀ t ∈ tab77, t.1 ∈ Szs ∧ (t.2.1 ≠ 1 → t.2.2.1 ≤ 11) ∧ t.2.2.2 ≠ [] := by decide +kernel
theorem k77_8 (x0 x1 x3 x4 x5 x9 x10 x11 : Option M) : ∀ t ∈ tab77, ∃ v6, (sFor (iE (eDs FS.gLst (aV (eDs FS.gLst aN) (aV (eDs FS.gLst (aV (eDs FS.gTup (aV (eC (.int 0)) (aV (eC (.int 0)) aN))) (aV (eDs FS.gTup (aV (eC (.int 0)) (aV (eC (.int 0)) aN))) aN))) (aV (eC .none) (aV (eDs FS.gLst (aV (eDs FS.gTup (aV (eC (.int 9)) (aV (eC (.int 9)) aN))) aN)) aN)))))) (gN 6)
    (sTr (sSq (sEx (eCl m_is_full (aV (eN 7) (aV (eN 8) (aV (eN 2) (aV (eN 6) aN))))))
  (sRt (eC (.bool false)))) (noExs [(2, sNl)]))) [x0, x1, some (.fz (.int (t.2.1 : Nat))), x3, x4, x5, none, some (.fz (.int (t.1.1 : Nat))), some (.fz (.int (t.1.2 : Nat))), x9, x10, x11] = .nx [x0, x1, some (.fz (.int (t.2.1 : Nat))), x3, x4, x5, v6, some (.fz (.int (t.1.1 : Nat))), some (.fz (.int (t.1.2 : Nat))), x9, x10, x11] := by
  unfold tab77
  refine List.forall_mem_cons.mpr ⟨⟨some (.fz (.list [.tuple [.int 9, .int 9]])), by kernel_rfl⟩, ?_⟩
  refine List.forall_mem_cons.mpr ⟨⟨some (.fz (.list [.tuple [.int 9, .int 9]])), by kernel_rfl⟩, ?_⟩
  refine List.forall_mem_cons.mpr ⟨⟨some (.fz (.list [.tuple [.int 9, .int 9]])), by kernel_rfl⟩, ?_⟩
  refine List.forall_mem_cons.mpr ⟨⟨some (.fz (.list [.tuple [.int 9, .int 9]])), by kernel_rfl⟩, ?_⟩
  refine List.forall_mem_cons.mpr ⟨⟨some (.fz (.list [.tuple [.int 9, .int 9]])), by kernel_rfl⟩, ?_⟩
  refine List.forall_mem_cons.mpr ⟨⟨some (.fz (.list [.tuple [.int 9, .int 9]])), by kernel_rfl⟩, ?_⟩
  refine List.forall_mem_cons.mpr ⟨⟨some (.fz (.list [.tuple [.int 9, .int 9]])), by kernel_rfl⟩, ?_⟩
  refine List.forall_mem_cons.mpr ⟨⟨some (.fz (.list [.tuple [.int 9, .int 9]])), by kernel_rfl⟩, ?_⟩
  refine List.forall_mem_cons.mpr ⟨⟨some (.fz (.list [.tuple [.int 9, .int 9]])), by kernel_rfl⟩, ?_⟩
  refine List.forall_mem_cons.mpr ⟨⟨some (.fz (.list [.tuple [.int 9, .int 9]])), by kernel_rfl⟩, ?_⟩
  refine List.forall_mem_cons.mpr ⟨⟨some (.fz (.list [.tuple [.int 9, .int 9]])), by kernel_rfl⟩, ?_⟩
  refine List.forall_mem_cons.mpr ⟨⟨some (.fz (.list [.tuple [.int 9, .int 9]])), by kernel_rfl⟩, ?_⟩
  refine List.forall_mem_cons.mpr ⟨⟨some (.fz (.list [.tuple [.int 9, .int 9]])), by kernel_rfl⟩, ?_⟩
  refine List.forall_mem_cons.mpr ⟨⟨some (.fz (.list [.tuple [.int 9, .int 9]])), by kernel_rfl⟩, ?_⟩
  refine List.forall_mem_cons.mpr ⟨⟨some (.fz (.list [.tuple [.int 9, .int 9]])), by kernel_rfl⟩, ?_⟩
  refine List.forall_mem_cons.mpr ⟨⟨some (.fz (.list [.tuple [.int 9, .int 9]])), by kernel_rfl⟩, ?_⟩
  refine List.forall_mem_cons.mpr ⟨⟨some (.fz (.list [.tuple [.int 9, .int 9]])), by kernel_rfl⟩, ?_⟩
  refine List.forall_mem_cons.mpr ⟨⟨some (.fz (.list [.tuple [.int 9, .int 9]])), by kernel_rfl⟩, ?_⟩
  refine List.forall_mem_cons.mpr ⟨⟨some (.fz (.list [.tuple [.int 9, .int 9]])), by kernel_rfl⟩, ?_⟩
  refine List.forall_mem_cons.mpr ⟨⟨some (.fz (.list [.tuple [.int 9, .int 9]])), by kernel_rfl⟩, ?_⟩
  refine List.forall_mem_cons.mpr ⟨⟨some (.fz (.list [.tuple [.int 9, .int 9]])), by kernel_rfl⟩, ?_⟩
  refine List.forall_mem_cons.mpr ⟨⟨some (.fz (.list [.tuple [.int 9, .int 9]])), by kernel_rfl⟩, ?_⟩
  refine List.forall_mem_cons.mpr ⟨⟨some (.fz (.list [.tuple [.int 9, .int 9]])), by kernel_rfl⟩, ?_⟩
  refine List.forall_mem_cons.mpr ⟨⟨some (.fz (.list [.tuple [.int 9, .int 9]])), by kernel_rfl⟩, ?_⟩
  refine List.forall_mem_cons.mpr ⟨⟨some (.fz (.list [.tuple [.int 9, .int 9]])), by kernel_rfl⟩, ?_⟩
  refine List.forall_mem_cons.mpr ⟨⟨some (.fz (.list [.tuple [.int 9, .int 9]])), by kernel_rfl⟩, ?_⟩
  refine List.forall_mem_cons.mpr ⟨⟨some (.fz (.list [.tuple [.int 9, .int 9]])), by kernel_rfl⟩, ?_⟩
  refine List.forall_mem_cons.mpr ⟨⟨some (.fz (.list [.tuple [.int 9, .int 9]])), by kernel_rfl⟩, ?_⟩
  refine List.forall_mem_cons.mpr ⟨⟨some (.fz (.list [.tuple [.int 9, .int 9]])), by kernel_rfl⟩, ?_⟩
  refine List.forall_mem_cons.mpr ⟨⟨some (.fz (.list [.tuple [.int 9, .int 9]])), by kernel_rfl⟩, ?_⟩
  refine List.forall_mem_cons.mpr ⟨⟨some (.fz (.list [.tuple [.int 9, .int 9]])), by kernel_rfl⟩, ?_⟩
  refine List.forall_mem_cons.mpr ⟨⟨some (.fz (.list [.tuple [.int 9, .int 9]])), by kernel_rfl⟩, ?_⟩
  refine List.forall_mem_cons.mpr ⟨⟨some (.fz (.list [.tuple [.int 9, .int 9]])), by kernel_rfl⟩, ?_⟩
  refine List.forall_mem_cons.mpr ⟨⟨some (.fz (.list [.tuple [.int 9, .int 9]])), by kernel_rfl⟩, ?_⟩
  refine List.forall_mem_cons.mpr ⟨⟨some (.fz (.list [.tuple [.int 9, .int 9]])), by kernel_rfl⟩, ?_⟩
  refine List.forall_mem_cons.mpr ⟨⟨some (.fz (.list [.tuple [.int 9, .int 9]])), by kernel_rfl⟩, ?_⟩
  refine List.forall_mem_cons.mpr ⟨⟨some (.fz (.list [.tuple [.int 9, .int 9]])), by kernel_rfl⟩, ?_⟩
  refine List.forall_mem_cons.mpr ⟨⟨some (.fz (.list [.tuple [.int 9, .int 9]])), by kernel_rfl⟩, ?_⟩
  refine List.forall_mem_cons.mpr ⟨⟨some (.fz (.list [.tuple [.int 9, .int 9]])), by kernel_rfl⟩, ?_⟩
  refine List.forall_mem_cons.mpr ⟨⟨some (.fz (.list [.tuple [.int 9, .int 9]])), by kernel_rfl⟩, ?_⟩
  refine List.forall_mem_cons.mpr ⟨⟨some (.fz (.list [.tuple [.int 9, .int 9]])), by kernel_rfl⟩, ?_⟩
  refine List.forall_mem_cons.mpr ⟨⟨some (.fz (.list [.tuple [.int 9, .int 9]])), by kernel_rfl⟩, ?_⟩
  refine List.forall_mem_cons.mpr ⟨⟨some (.fz (.list [.tuple [.int 9, .int 9]])), by kernel_rfl⟩, ?_⟩
  refine List.forall_mem_cons.mpr ⟨⟨some (.fz (.list [.tuple [.int 9, .int 9]])), by kernel_rfl⟩, ?_⟩
  refine List.forall_mem_cons.mpr ⟨⟨some (.fz (.list [.tuple [.int 9, .int 9]])), by kernel_rfl⟩, ?_⟩
  refine List.forall_mem_cons.mpr ⟨⟨some (.fz (.list [.tuple [.int 9, .int 9]])), by kernel_rfl⟩, ?_⟩
  refine List.forall_mem_cons.mpr ⟨⟨some (.fz (.list [.tuple [.int 9, .int 9]])), by kernel_rfl⟩, ?_⟩
  refine List.forall_mem_cons.mpr ⟨⟨some (.fz (.list [.tuple [.int 9, .int 9]])), by kernel_rfl⟩, ?_⟩
  refine List.forall_mem_cons.mpr ⟨⟨some (.fz (.list [.tuple [.int 9, .int 9]])), by kernel_rfl⟩, ?_⟩
  refine List.forall_mem_cons.mpr ⟨⟨some (.fz (.list [.tuple [.int 9, .int 9]])), by kernel_rfl⟩, ?_⟩
  refine List.forall_mem_cons.mpr ⟨⟨some (.fz (.list [.tuple [.int 9, .int 9]])), by kernel_rfl⟩, ?_⟩
  refine List.forall_mem_cons.mpr ⟨⟨some (.fz (.list [.tuple [.int 9, .int 9]])), by kernel_rfl⟩, ?_⟩
  refine List.forall_mem_cons.mpr ⟨⟨some (.fz (.list [.tuple [.int 9, .int 9]])), by kernel_rfl⟩, ?_⟩
  refine List.forall_mem_cons.mpr ⟨⟨some (.fz (.list [.tuple [.int 9, .int 9]])), by kernel_rfl⟩, ?_⟩
  refine List.forall_mem_cons.mpr ⟨⟨some (.fz (.list [.tuple [.int 9, .int 9]])), by kernel_rfl⟩, ?_⟩
  refine List.forall_mem_cons.mpr ⟨⟨some (.fz (.list [.tuple [.int 9, .int 9]])), by kernel_rfl⟩, ?_⟩
  refine List.forall_mem_cons.mpr ⟨⟨some (.fz (.list [.tuple [.int 9, .int 9]])), by kernel_rfl⟩, ?_⟩
  refine List.forall_mem_cons.mpr ⟨⟨some (.fz (.list [.tuple [.int 9, .int 9]])), by kernel_rfl⟩, ?_⟩
  refine List.forall_mem_cons.mpr ⟨⟨some (.fz (.list [.tuple [.int 9, .int 9]])), by kernel_rfl⟩, ?_⟩
  refine List.forall_mem_cons.mpr ⟨⟨some (.fz (.list [.tuple [.int 9, .int 9]])), by kernel_rfl⟩, ?_⟩
  refine List.forall_mem_cons.mpr ⟨⟨some (.fz (.list [.tuple [.int 9, .int 9]])), by kernel_rfl⟩, ?_⟩
  refine List.forall_mem_cons.mpr ⟨⟨some (.fz (.list [.tuple [.int 9, .int 9]])), by kernel_rfl⟩, ?_⟩
  refine List.forall_mem_cons.mpr ⟨⟨some (.fz (.list [.tuple [.int 9, .int 9]])), by kernel_rfl⟩, ?_⟩
  exact fun _ h => nomatch h
noncomputable def w77A : BF := (tE (eB2 gGt (eDs gLen (aV (eN 10) aN)) (eC (.int 0))))
noncomputable def w77S : SF := (sSq (sAs 3 (eDs FS.gTup (aV (eN 9) (aV (eB2 gIx (eN 10) (eC (.int 0))) aN))))
  (sSq (sAs 9 (eB2 gAdd (eN 9) (eC (.int 1))))
  (sAs 10 (eCl m__law_sets (aV (eN 7) (aV (eN 8) (aV (eN 9) (aV (eN 2) aN))))))))
def bst (m : Nat) (b : List Cl) : M := .fz (.tuple [.int (m : Nat), fmD b])
theorem k77_w (x0 x1 x4 x5 x6 x11 : Option M) {s : Nat × Nat} (hs : s ∈ Szs) (a : Nat) (m : Nat) (hm : m ≤ 11) (b : List Cl)
    (h1 : ∀ i, i < m → (hd1 a 12 (i + 1) (grid s.1 s.2)).isSome = true) (h2 : hd1 a 12 m (grid s.1 s.2) = some b) (h3 : hd1 a 12 (m + 1) (grid s.1 s.2) = none) :
    ∀ (k i : Nat) (x3 : M), i + k = m + 1 → 1 ≤ i → (k = 0 → x3 = bst m b) →
    whileN w77A w77S (k + 1) [x0, x1, some (.fz (.int (a : Nat))), some x3, x4, x5, x6, some (.fz (.int (s.1 : Nat))), some (.fz (.int (s.2 : Nat))), some (.fz (.int (i : Nat))), some (.fz (.list ((AS a i (grid s.1 s.2)).map fmD))), x11] =
      some (.nx [x0, x1, some (.fz (.int (a : Nat))), some (bst m b), x4, x5, x6, some (.fz (.int (s.1 : Nat))), some (.fz (.int (s.2 : Nat))), some (.fz (.int ((m + 1 : Nat) : Int))), some (.fz (.list [])), x11]) := by
  obtain ⟨g1, g2, g3, g4, _⟩ := grid_facts s hs
  have e := fun i => hd1_eq a 12 i (grid s.1 s.2) g4
  have hls := fun i h1 h2 => m__law_sets_ s hs i h1 h2 a
  intro k
  induction k with
  | zero =>
    intro i x3 hi h1 hx
    have hi' : i = m + 1 := by omega
    subst hi'
    have e1 := e (m + 1)
    rw [h3] at e1
    have e2 : AS a (m + 1) (grid s.1 s.2) = [] := List.head?_eq_none_iff.mp e1.symm
    rw [e2, hx rfl]
    unfold whileN w77A
    simp
  | succ k ih =>
    intro i x3 hi hi1 hx
    have e1 := e i
    obtain ⟨q, hq⟩ : ∃ q, hd1 a 12 i (grid s.1 s.2) = some q := by
      have := h1 (i - 1) (by omega)
      rw [show i - 1 + 1 = i by omega] at this
      exact Option.isSome_iff_exists.mp this
    rw [hq] at e1
    obtain ⟨r, hr⟩ := List.head?_eq_some_iff.mp e1.symm
    have hih := ih (i + 1) (bst i q) (by omega) (by omega) (fun hk => by
      have : i = m := by omega
      subst this
      rw [h2] at hq
      rw [Option.some.inj hq])
    have hc := hls (i + 1) (by omega) (by omega)
    rw [hr]
    unfold whileN
    have hA : w77A [x0, x1, some (.fz (.int (a : Nat))), some x3, x4, x5, x6, some (.fz (.int (s.1 : Nat))), some (.fz (.int (s.2 : Nat))), some (.fz (.int (i : Nat))), some (.fz (.list ((q :: r).map fmD))), x11] = .ok true [x0, x1, some (.fz (.int (a : Nat))), some x3, x4, x5, x6, some (.fz (.int (s.1 : Nat))), some (.fz (.int (s.2 : Nat))), some (.fz (.int (i : Nat))), some (.fz (.list ((q :: r).map fmD))), x11] := by
      unfold w77A
      generalize fmD = F
      have : (0 : Int) < (r.length : Int) + 1 := by omega
      simp [this]
    have hS : w77S [x0, x1, some (.fz (.int (a : Nat))), some x3, x4, x5, x6, some (.fz (.int (s.1 : Nat))), some (.fz (.int (s.2 : Nat))), some (.fz (.int (i : Nat))), some (.fz (.list ((q :: r).map fmD))), x11] = .nx [x0, x1, some (.fz (.int (a : Nat))), some (bst i q), x4, x5, x6, some (.fz (.int (s.1 : Nat))), some (.fz (.int (s.2 : Nat))), some (.fz (.int ((i + 1 : Nat) : Int))), some (.fz (.list ((AS a (i + 1) (grid s.1 s.2)).map fmD))), x11] := by
      unfold w77S bst
      have e3 : ((i + 1 : Nat) : Int) = (i : Int) + 1 := by omega
      rw [e3] at hc ⊢
      rw [List.map_cons]
      have hix : gIx (.list (fmD q :: r.map fmD)) (.int 0) = some (.fz (fmD q)) := by
        rw [gIx_l, atI_0]; rfl
      generalize PyData.list ((AS a (i + 1) (grid s.1 s.2)).map fmD) = Y at *
      generalize PyData.list (fmD q :: r.map fmD) = Z at *
      generalize fmD q = fq at *
      simp (disch := omega) [hix, hc]
    rw [hA]
    dsimp only
    rw [hS]
    exact hih
end MX
namespace MX
open PySem PySem.Spec L2 FS FX
theorem ix7' (k : Int) : ∃ a : Nat, a ∈ [1, 2, 3, 4, 5, 8, 33] ∧ atI [PyData.int 1, .int 2, .int 3, .int 4, .int 5, .int 8, .int 33] (k % 7) = some (.int (a : Nat)) := by
  have h0 := Int.emod_nonneg k (b := 7) (by omega)
  have h1 := Int.emod_lt_of_pos k (b := 7) (by omega)
  have h : k % 7 = 0 ∨ k % 7 = 1 ∨ k % 7 = 2 ∨ k % 7 = 3 ∨ k % 7 = 4 ∨ k % 7 = 5 ∨ k % 7 = 6 := by omega
  rcases h with h | h | h | h | h | h | h <;> rw [h]
  · exact ⟨1, by decide, rfl⟩
  · exact ⟨2, by decide, rfl⟩
  · exact ⟨3, by decide, rfl⟩
  · exact ⟨4, by decide, rfl⟩
  · exact ⟨5, by decide, rfl⟩
  · exact ⟨8, by decide, rfl⟩
  · exact ⟨33, by decide, rfl⟩
theorem cells_drawn77 {xs : List Int} (hN : Nums xs) {s : Nat × Nat} (hs : s ∈ Szs) (x0 x2 x3 x4 x5 x6 x9 x10 : Option M) : ∀ (r : Nat) (lo k : Nat), k + r ≤ 100000 → ∃ ps : List Cl, ps.length = r ∧ (∀ p ∈ ps, p ∈ grid s.1 s.2) ∧
    cLoop [11] (gN 11) tY dcE76 ((List.range' lo r).map fun i : Nat => PyData.int (i : Int)) [x0, some (DR xs k), x2, x3, x4, x5, x6, some (.fz (.int (s.1 : Nat))), some (.fz (.int (s.2 : Nat))), x9, x10, none] =
      some (lsP ps, [x0, some (DR xs (k + r)), x2, x3, x4, x5, x6, some (.fz (.int (s.1 : Nat))), some (.fz (.int (s.2 : Nat))), x9, x10, none]) := by
  intro r
  induction r with
  | zero => intro lo k _; exact ⟨[], rfl, (fun _ h => nomatch h), rfl⟩
  | succ r ih =>
    intro lo k hk
    obtain ⟨g1, g2, g3, g4, g5, g6, g7, g8, g9⟩ := grid_facts s hs
    obtain ⟨ps, p1, p2, p3⟩ := ih (lo + 1) (k + 1) (by omega)
    have hcl := m__law_cells_ s hs
    have hpos : 1 ≤ s.1 * s.2 := Nat.mul_pos (by omega) (by omega)
    have hw : (1 : Int) ≤ (s.1 : Int) * (s.2 : Int) := by exact_mod_cast hpos
    have hd := m__law_draw_v1_ hN k (by omega) ((s.1 : Int) * (s.2 : Int)) hw
    have r0 := Int.emod_nonneg (drawU xs k) (b := (s.1 : Int) * (s.2 : Int)) (by omega)
    have r1 := Int.emod_lt_of_pos (drawU xs k) (b := (s.1 : Int) * (s.2 : Int)) (by omega)
    obtain ⟨j, hj⟩ : ∃ j : Nat, drawU xs k % ((s.1 : Int) * (s.2 : Int)) = j := ⟨(drawU xs k % ((s.1 : Int) * (s.2 : Int))).toNat, by omega⟩
    rw [hj] at hd
    have hjl : j < (grid s.1 s.2).length := by
      rw [g3]
      have : (j : Int) < ((s.1 * s.2 : Nat) : Int) := by push_cast; omega
      exact_mod_cast this
    have hix := gIx_fm hjl
    have hm : (grid s.1 s.2).getD j (0, 0) ∈ grid s.1 s.2 := by
      rw [List.getD_eq_getElem?_getD, List.getElem?_eq_getElem hjl]; exact List.getElem_mem hjl
    refine ⟨(grid s.1 s.2).getD j (0, 0) :: ps, by simp [p1], fun p hp => ?_, ?_⟩
    · rcases List.mem_cons.mp hp with rfl | hp
      · exact hm
      · exact p2 p hp
    · have hsm : (s.1 : Int) ≤ 5 ∧ (s.2 : Int) ≤ 5 ∧ 1 ≤ (s.1 : Int) ∧ 1 ≤ (s.2 : Int) := by omega
      obtain ⟨q1, q2, q3, q4⟩ := hsm
      have hmul : gMul (.int (s.1 : Int)) (.int (s.2 : Int)) = some (.fz (.int ((s.1 : Int) * (s.2 : Int)))) := by
        simp (disch := omega)
      have eE : dcE76 [x0, some (DR xs k), x2, x3, x4, x5, x6, some (.fz (.int (s.1 : Nat))), some (.fz (.int (s.2 : Nat))), x9, x10, some (.fz (.int (lo : Int)))] = .ok (.fz (ptD ((grid s.1 s.2).getD j (0, 0)))) [x0, some (DR xs (k + 1)), x2, x3, x4, x5, x6, some (.fz (.int (s.1 : Nat))), some (.fz (.int (s.2 : Nat))), x9, x10, some (.fz (.int (lo : Int)))] := by
        unfold dcE76
        generalize DR xs k = d0 at *
        generalize DR xs (k + 1) = d1 at *
        generalize fmD (grid s.1 s.2) = F at *
        generalize ptD ((grid s.1 s.2).getD j (0, 0)) = P at *
        simp only [eB2_, eCl_, aV_, eN_, aN_, aIo_]
        simp [hcl, hmul, hd, hix]
      have e2 : k + (r + 1) = (k + 1) + r := by omega
      rw [e2, List.range'_succ, List.map_cons]
      have hcons : lsP ((grid s.1 s.2).getD j (0, 0) :: ps) = L.fz (ptD ((grid s.1 s.2).getD j (0, 0))) :: lsP ps := rfl
      rw [hcons]
      refine cLoop_one (δ1 := [x0, some (DR xs k), x2, x3, x4, x5, x6, some (.fz (.int (s.1 : Nat))), some (.fz (.int (s.2 : Nat))), x9, x10, some (.fz (.int (lo : Int)))]) ?_ eE ?_ p3
      · generalize DR xs k = d0
        simp
      · generalize DR xs (k + 1) = d1
        generalize DR xs k = d0
        simp
noncomputable def c7S77 : SF := (sIf (tNt (tTru (eCl (m__law_equal_v1 14) (aV (eCl m_is_full (aV (eN 7) (aV (eN 8) (aV (eN 2) (aV (eN 5) aN))))) (aV (eCl m__law_full (aV (eN 7) (aV (eN 8) (aV (eN 2) (aV (eN 5) aN))))) aN)))))
    (sRt (eC (.bool false)))
    sNl)
theorem k77_7 (x0 x1 x3 x4 x6 x9 x10 x11 : Option M) {s : Nat × Nat} (hs : s ∈ Szs) (a : Nat) (a1 : 1 ≤ a) (a2 : a ≤ 33) (t : List Cl) (t1 : 1 ≤ t.length) (t2 : t.length ≤ 25) (t3 : Asc t) (t4 : ∀ p ∈ t, p ∈ grid s.1 s.2) :
    c7S77 [x0, x1, some (.fz (.int (a : Nat))), x3, x4, some (.fz (fmD t)), x6, some (.fz (.int (s.1 : Nat))), some (.fz (.int (s.2 : Nat))), x9, x10, x11] = .nx [x0, x1, some (.fz (.int (a : Nat))), x3, x4, some (.fz (fmD t)), x6, some (.fz (.int (s.1 : Nat))), some (.fz (.int (s.2 : Nat))), x9, x10, x11] := by
  obtain ⟨g1, g2, g3, g4, g5, g6, g7, g8, g9⟩ := grid_facts s hs
  have h1 := m_is_full_ hs (a : Int) (by omega) (by omega) t t1 t2 t3 t4
  have h2 := m__law_full_ hs (a : Int) t (fun p hp => g2 p (t4 p hp)) (by omega)
  have hq := law_equal_same_v1 (d := PyData.bool (full a (grid s.1 s.2) t)) (e := PyData.bool (full a (grid s.1 s.2) t)) rfl (by simp [eqOk])
  unfold c7S77
  generalize fmD t = F at *
  generalize full (a : Int) (grid s.1 s.2) t = fu at *
  simp [h1, h2, hq, truD]
theorem k77 (ns : List Int) (hl : ns.length ≤ 63) : ∃ δ', s_law_k77 (some (.fz (.list (ns.map .int))) :: List.replicate 11 none) = .rt (.fz (.bool true)) δ' := by
  obtain ⟨xs, hN, _, e0⟩ := m__law_numbers_ ns hl
  have dr : ∀ (k : Nat) (w : Int), k ≤ 1000000 → 1 ≤ w → m__law_draw_v1 [DR xs k, .fz (.int w)] = .ret (.fz (.int (drawU xs k % w))) [DR xs (k + 1), .fz (.int w)] := fun k w hk hw => m__law_draw_v1_ hN k (by omega) w hw
  generalize hsc : M.fz (.list (ns.map .int)) = sc at *
  have hfz : sc.frz = sc := by rw [← hsc]; rfl
  have hnR : ∀ δ : Env', nR 0 (some (some sc)) δ = R.ok sc δ := fun δ => by rw [← hsc]; rfl
  have s1 : (sAs 1 (eDs FS.gLst (aV (eCl m__law_numbers (aV (eN 0) aN)) (aV (eC (.int 0)) aN)))) (some sc :: List.replicate 11 none) = .nx [some sc, some (DR xs 0), none, none, none, none, none, none, none, none, none, none] := by
    simp [List.replicate, hnR, hfz, e0, lsI_pds]
    rfl
  obtain ⟨s, hs, hsz⟩ := m__law_size_ hN 0 (by omega)
  obtain ⟨g1, g2, g3, g4, g5, g6, g7, g8, g9⟩ := grid_facts s hs
  have s2 : (sAg (gUp [7, 8]) (eCl m__law_size (aIo 1 aN))) [some sc, some (DR xs 0), none, none, none, none, none, none, none, none, none, none] = .nx [some sc, some (DR xs 1), none, none, none, none, none, some (.fz (.int (s.1 : Nat))), some (.fz (.int (s.2 : Nat))), none, none, none] := by
    simp (disch := omega) [hsz]
  obtain ⟨a, ha, hia⟩ := ix7' (drawU xs 1)
  obtain ⟨tt, htt, ht1, ht2⟩ := tab77_all s hs a ha
  obtain ⟨w1, w2, w3⟩ := tab77_le tt htt
  obtain ⟨d1, d2, d3, d4, d5, d6, d7, d8⟩ := tab77_hd tt htt
  have hma := m_most_apart_ tt htt
  have h88 := fun x0 x1 x3 x4 x5 x9 x10 x11 => k77_8 x0 x1 x3 x4 x5 x9 x10 x11 tt htt
  obtain ⟨⟨r0, c0⟩, a0, mx, b⟩ := tt
  dsimp only at ht1 ht2 w1 w2 w3 d1 d2 d3 d4 d5 d6 d7 d8 hma h88
  subst ht2
  subst ht1
  generalize hs0 : (r0, c0) = s at *
  have hr0 : r0 = s.1 := by rw [← hs0]
  have hc0 : c0 = s.2 := by rw [← hs0]
  rw [hr0, hc0] at d1 d2 d3 d6 hma h88
  have hbg : b.length = mx ∧ Asc b ∧ ∀ p ∈ b, p ∈ grid s.1 s.2 := by
    have e := hd1_eq a0 12 mx (grid s.1 s.2) g4
    rw [d2] at e
    obtain ⟨b1, b2, b3, _⟩ := (AS_in a0 _ (grid s.1 s.2) mx b (Nat.le_refl _) g1).mp (List.mem_of_head? e.symm)
    exact ⟨b1, b2, b3⟩
  obtain ⟨b1, b2, b3⟩ := hbg
  have s3a : (sAs 2 (eB2 gIx (eDs FS.gLst (aV (eC (.int 1)) (aV (eC (.int 2)) (aV (eC (.int 3)) (aV (eC (.int 4)) (aV (eC (.int 5)) (aV (eC (.int 8)) (aV (eC (.int 33)) aN)))))))) (eCl m__law_draw_v1 (aIo 1 (aV (eC (.int 7)) aN))))) [some sc, some (DR xs 1), none, none, none, none, none, some (.fz (.int (s.1 : Nat))), some (.fz (.int (s.2 : Nat))), none, none, none] = .nx [some sc, some (DR xs 2), some (.fz (.int (a0 : Nat))), none, none, none, none, some (.fz (.int (s.1 : Nat))), some (.fz (.int (s.2 : Nat))), none, none, none] := by
    simp (disch := omega) [dr, hia]
  have hcl := m__law_cells_ s hs
  have hmul : gMul (.int (s.1 : Nat)) (.int (s.2 : Nat)) = some (.fz (.int ((s.1 * s.2 : Nat) : Int))) := by
    have hsm : (s.1 : Int) ≤ 5 ∧ (s.2 : Int) ≤ 5 ∧ 1 ≤ (s.1 : Int) ∧ 1 ≤ (s.2 : Int) := by omega
    obtain ⟨q1, q2, q3, q4⟩ := hsm
    rw [Int.natCast_mul]
    simp (disch := omega)
  have s3 : (sAs 3 (eDs FS.gTup (aV (eB2 gMul (eN 7) (eN 8)) (aV (eCl m__law_cells (aV (eN 7) (aV (eN 8) aN))) aN)))) [some sc, some (DR xs 2), some (.fz (.int (a0 : Nat))), none, none, none, none, some (.fz (.int (s.1 : Nat))), some (.fz (.int (s.2 : Nat))), none, none, none] = .nx [some sc, some (DR xs 2), some (.fz (.int (a0 : Nat))), some (bst (s.1 * s.2) (grid s.1 s.2)), none, none, none, some (.fz (.int (s.1 : Nat))), some (.fz (.int (s.2 : Nat))), none, none, none] := by
    unfold bst
    generalize fmD (grid s.1 s.2) = G at *
    generalize DR xs 2 = d2 at *
    simp [hmul, hcl]
  obtain ⟨y9, y10, s4⟩ : ∃ y9 y10, (sIf (tE (eB2 gGt (eN 2) (eC (.int 1))))
    (sSq (sAs 9 (eC (.int 1)))
  (sSq (sAs 10 (eCl m__law_sets (aV (eN 7) (aV (eN 8) (aV (eN 9) (aV (eN 2) aN))))))
  (sWh (tE (eB2 gGt (eDs gLen (aV (eN 10) aN)) (eC (.int 0))))
    (sSq (sAs 3 (eDs FS.gTup (aV (eN 9) (aV (eB2 gIx (eN 10) (eC (.int 0))) aN))))
  (sSq (sAs 9 (eB2 gAdd (eN 9) (eC (.int 1))))
  (sAs 10 (eCl m__law_sets (aV (eN 7) (aV (eN 8) (aV (eN 9) (aV (eN 2) aN)))))))))))
    sNl) [some sc, some (DR xs 2), some (.fz (.int (a0 : Nat))), some (bst (s.1 * s.2) (grid s.1 s.2)), none, none, none, some (.fz (.int (s.1 : Nat))), some (.fz (.int (s.2 : Nat))), none, none, none] = .nx [some sc, some (DR xs 2), some (.fz (.int (a0 : Nat))), some (bst mx b), none, none, none, some (.fz (.int (s.1 : Nat))), some (.fz (.int (s.2 : Nat))), y9, y10, none] := by
    by_cases h1 : a0 = 1
    · obtain ⟨q1, q2⟩ := d6 h1
      refine ⟨none, none, ?_⟩
      rw [q1, q2]
      have hlt : ¬ ((1 : Int) < (a0 : Int)) := by omega
      generalize bst (s.1 * s.2) (grid s.1 s.2) = B at *
      generalize DR xs 2 = d2 at *
      simp [hlt]
    · have hw := sWh_eq (k77_w (some sc) (some (DR xs 2)) none none none none hs a0 mx (w2 h1) b d1 d2 d3 mx 1 (bst (s.1 * s.2) (grid s.1 s.2)) (by omega) (by omega) (by omega))
      have h1s := m__law_sets_ s hs 1 (by omega) (by omega) (a0 : Int)
      refine ⟨some (.fz (.int ((mx + 1 : Nat) : Int))), some (.fz (.list [])), ?_⟩
      have hlt : (1 : Int) < (a0 : Int) := by omega
      unfold w77A w77S at hw
      have e1 : ((1 : Nat) : Int) = 1 := rfl
      rw [e1] at hw h1s
      generalize bst (s.1 * s.2) (grid s.1 s.2) = B at *
      generalize bst mx b = B2 at *
      generalize DR xs 2 = d2 at *
      generalize PyData.list ((AS a0 1 (grid s.1 s.2)).map fmD) = X at *
      generalize ((mx + 1 : Nat) : Int) = m1 at *
      simp [hlt, h1s, hw]
  have hq := law_equal_same_v1 (d := PyData.tuple [.int (mx : Nat), fmD b]) (e := PyData.tuple [.int (mx : Nat), fmD b]) rfl (by
    have h1 := eqOk_pts 2 b
    have h2 : eqOk 5 (fmD b) = true := by
      unfold fmD
      simp [eqOk, h1]; omega
    simp [eqOk, eqOks, h2])
  have hbst : bst mx b = .fz (.tuple [.int (mx : Nat), fmD b]) := rfl
  have s5 : (sIf (tNt (tTru (eCl (m__law_equal_v1 14) (aV (eCl m_most_apart (aV (eN 7) (aV (eN 8) (aV (eN 2) aN)))) (aV (eN 3) aN)))))
    (sRt (eC (.bool false)))
    sNl) [some sc, some (DR xs 2), some (.fz (.int (a0 : Nat))), some (bst mx b), none, none, none, some (.fz (.int (s.1 : Nat))), some (.fz (.int (s.2 : Nat))), y9, y10, none] = .nx [some sc, some (DR xs 2), some (.fz (.int (a0 : Nat))), some (bst mx b), none, none, none, some (.fz (.int (s.1 : Nat))), some (.fz (.int (s.2 : Nat))), y9, y10, none] := by
    rw [hbst]
    generalize PyData.tuple [.int (mx : Nat), fmD b] = T at *
    generalize DR xs 2 = d2 at *
    simp [hma, hq, truD]
  have r0' := Int.emod_nonneg (drawU xs 2) (b := 5) (by omega)
  have r1' := Int.emod_lt_of_pos (drawU xs 2) (b := 5) (by omega)
  obtain ⟨m, hm⟩ : ∃ m : Nat, 1 + drawU xs 2 % 5 = m := ⟨(1 + drawU xs 2 % 5).toNat, by omega⟩
  obtain ⟨ps, p1, p2, p3⟩ := cells_drawn77 hN hs (some sc) (some (.fz (.int (a0 : Nat)))) (some (bst mx b)) none none none y9 y10 m 0 3 (by omega)
  obtain ⟨t, t0, t1, t2, t3, t4⟩ := sortSet_ ps (by omega) (by omega) fun p hp => by
    obtain ⟨a1, a2, a3, a4⟩ := g5 p (p2 p hp)
    omega
  unfold dcE76 at p3
  have hr : rangeD 0 m = (List.range' 0 m).map fun i : Nat => PyData.int (i : Int) := by unfold rangeD; rw [List.range_eq_range']; simp
  rw [← hr] at p3
  have s6 : (sAs 4 (eU1 gSortSet (eLc [11] (iR rng1 (aV (eB2 gAdd (eC (.int 1)) (eCl m__law_draw_v1 (aIo 1 (aV (eC (.int 5)) aN)))) aN)) (gN 11) tY (eB2 gIx (eCl m__law_cells (aV (eN 7) (aV (eN 8) aN))) (eCl m__law_draw_v1 (aIo 1 (aV (eB2 gMul (eN 7) (eN 8)) aN))))))) [some sc, some (DR xs 2), some (.fz (.int (a0 : Nat))), some (bst mx b), none, none, none, some (.fz (.int (s.1 : Nat))), some (.fz (.int (s.2 : Nat))), y9, y10, none] = .nx [some sc, some (DR xs (3 + m)), some (.fz (.int (a0 : Nat))), some (bst mx b), some (.v (.lst (lsP t))), none, none, some (.fz (.int (s.1 : Nat))), some (.fz (.int (s.2 : Nat))), y9, y10, none] := by
    have hpl : PyData.list (L.pds (lsP ps)) = fmD ps := by rw [lsP_pds]; rfl
    have hrt : ((m : Int)).toNat = m := by omega
    have hb : m ≤ big := by unfold big; omega
    have hdr := dr 2 5 (by omega) (by omega)
    rw [show 2 + 1 = 3 from rfl] at hdr
    generalize lsP ps = PL at *
    generalize DR xs (3 + m) = d2 at *
    generalize DR xs 2 = d0 at *
    generalize DR xs 3 = d1 at *
    generalize bst mx b = B at *
    simp (disch := omega) [hdr, hm, hrt, rangeD_len, hb, keepOk, p3, hpl, t0]
  have tf : ∀ p ∈ t, p ∈ grid s.1 s.2 := fun p hp => p2 p (t4 p hp)
  obtain ⟨v5, s7⟩ : ∃ v5 : Option M, (sFor (iE (eDs FS.gLst (aV (eN 4) (aV (eB2 gIx (eN 3) (eC (.int 1))) (aV (eIf (tE (eB2 gGt (eB2 gIx (eN 3) (eC (.int 0))) (eC (.int 1)))) (eSl (eB2 gIx (eN 3) (eC (.int 1))) (oE (eC (.int 1))) oN) (eB2 gIx (eN 3) (eC (.int 1)))) aN))))) (gN 5)
    (sIf (tNt (tTru (eCl (m__law_equal_v1 14) (aV (eCl m_is_full (aV (eN 7) (aV (eN 8) (aV (eN 2) (aV (eN 5) aN))))) (aV (eCl m__law_full (aV (eN 7) (aV (eN 8) (aV (eN 2) (aV (eN 5) aN))))) aN)))))
    (sRt (eC (.bool false)))
    sNl)) [some sc, some (DR xs (3 + m)), some (.fz (.int (a0 : Nat))), some (bst mx b), some (.v (.lst (lsP t))), none, none, some (.fz (.int (s.1 : Nat))), some (.fz (.int (s.2 : Nat))), y9, y10, none] = .nx [some sc, some (DR xs (3 + m)), some (.fz (.int (a0 : Nat))), some (bst mx b), some (.fz (fmD t)), v5, none, some (.fz (.int (s.1 : Nat))), some (.fz (.int (s.2 : Nat))), y9, y10, none] := by
    have hpt : PyData.list (L.pds (lsP t)) = fmD t := by rw [lsP_pds]; rfl
    have hix0 : gIx (.tuple [.int (mx : Nat), fmD b]) (.int 0) = some (.fz (.int (mx : Nat))) := by rw [gIx_t, atI_0]; rfl
    have hix1 : gIx (.tuple [.int (mx : Nat), fmD b]) (.int 1) = some (.fz (fmD b)) := by rw [gIx_t, atI_1]; rfl
    have hlp : ∀ (b' : List Cl), 1 ≤ b'.length → b'.length ≤ 25 → Asc b' → (∀ p ∈ b', p ∈ grid s.1 s.2) → sLoop (gN 5) c7S77 [fmD t, fmD b, fmD b'] [some sc, some (DR xs (3 + m)), some (.fz (.int (a0 : Nat))), some (bst mx b), some (.fz (fmD t)), none, none, some (.fz (.int (s.1 : Nat))), some (.fz (.int (s.2 : Nat))), y9, y10, none] = .nx [some sc, some (DR xs (3 + m)), some (.fz (.int (a0 : Nat))), some (bst mx b), some (.fz (fmD t)), some (.fz (fmD b')), none, some (.fz (.int (s.1 : Nat))), some (.fz (.int (s.2 : Nat))), y9, y10, none] := by
      intro b' q1 q2 q3 q4
      have k := fun u h1 h2 h3 h4 => k77_7 (some sc) (some (DR xs (3 + m))) (some (bst mx b)) (some (.fz (fmD t))) none y9 y10 none hs a0 d7 d8 u h1 h2 h3 h4
      have k1 := k t t2 (by omega) t1 tf
      have k2 := k b (by omega) (by omega) b2 b3
      have k3 := k b' q1 q2 q3 q4
      generalize DR xs (3 + m) = dd at *
      generalize bst mx b = B at *
      generalize fmD t = F1 at *
      generalize fmD b = F2 at *
      generalize fmD b' = F3 at *
      simp [k1, k2, k3]
    by_cases h1 : 1 < mx
    · have hsl : gSl (fmD b) (some 1) none = some (.lst (lsP (b.drop 1))) := by
        have := gSl_hi (b.map ptD) 1
        rw [← List.map_drop, lsP_def] at this
        exact this
      have hl := hlp (b.drop 1) (by rw [List.length_drop]; omega) (by rw [List.length_drop]; omega) (List.Pairwise.sublist (List.drop_sublist 1 b) b2) (fun p hp => b3 p (List.mem_of_mem_drop hp))
      have hpb : PyData.list (L.pds (lsP (b.drop 1))) = fmD (b.drop 1) := by rw [lsP_pds]; rfl
      refine ⟨some (.fz (fmD (b.drop 1))), ?_⟩
      unfold c7S77 at hl
      unfold bst at hl ⊢
      have hlt : (1 : Int) < (mx : Int) := by omega
      generalize fmD (b.drop 1) = F3 at *
      generalize lsP (b.drop 1) = LB at *
      generalize lsP t = LT at *
      generalize fmD t = F1 at *
      generalize hT : PyData.tuple [.int (mx : Nat), fmD b] = T at *
      generalize fmD b = F2 at *
      generalize DR xs (3 + m) = dd at *
      simp [hpt, hix0, hix1, hlt, hsl, hpb, seqD, hl]
    · have hl := hlp b (by omega) (by omega) b2 b3
      refine ⟨some (.fz (fmD b)), ?_⟩
      unfold c7S77 at hl
      unfold bst at hl ⊢
      have hlt : ¬ (1 : Int) < (mx : Int) := by omega
      generalize lsP t = LT at *
      generalize fmD t = F1 at *
      generalize hT : PyData.tuple [.int (mx : Nat), fmD b] = T at *
      generalize fmD b = F2 at *
      generalize DR xs (3 + m) = dd at *
      simp [hpt, hix0, hix1, hlt, seqD, hl]
  obtain ⟨v6, s8⟩ := h88 (some sc) (some (DR xs (3 + m))) (some (bst mx b)) (some (.fz (fmD t))) v5 y9 y10 none
  refine ⟨[some sc, some (DR xs (3 + m)), some (.fz (.int (a0 : Nat))), some (bst mx b), some (.fz (fmD t)), v5, v6, some (.fz (.int (s.1 : Nat))), some (.fz (.int (s.2 : Nat))), y9, y10, none], ?_⟩
  unfold s_law_k77
  rw [sSq_, s1, sqR_nx, sSq_, s2, sqR_nx, sSq_, s3a, sqR_nx, sSq_, s3, sqR_nx, sSq_, s4, sqR_nx, sSq_, s5, sqR_nx, sSq_, s6, sqR_nx, sSq_, s7, sqR_nx, sSq_, s8, sqR_nx, sRt_, eC_, rtR_ok]
end MX
namespace K77
open PySem PySem.Spec PyProof.Rows L2 FS FX
def top (i : Nat) : Stmt := PySem.Challenge.pw_fieldshow_k77_whole_as_many_as_can_be.main.body.getD i (.Pass ⟨0, 0, 0, 0⟩)
def clsBody : Stmt → List Stmt
  | .ClassDef _ _ _ b _ _ _ _ _ _ _ => b
  | _ => []
abbrev t_is_number : Stmt := top 4
abbrev t_check_number : Stmt := top 5
abbrev t_check_grid : Stmt := top 7
abbrev t_is_cell : Stmt := top 8
abbrev t_check_cells : Stmt := top 9
abbrev t_are_apart : Stmt := top 10
abbrev t_cells_of : Stmt := top 11
abbrev t_far_enough : Stmt := top 12
abbrev t_Most_init : Stmt := (clsBody (top 13)).getD 0 (.Pass ⟨0, 0, 0, 0⟩)
abbrev t_Most_go_on : Stmt := (clsBody (top 13)).getD 1 (.Pass ⟨0, 0, 0, 0⟩)
abbrev t_most_apart : Stmt := top 14
abbrev t_is_full : Stmt := top 15
abbrev t__law_mixed : Stmt := top 17
abbrev t__law_numbers : Stmt := top 18
abbrev t__law_draw : Stmt := top 19
abbrev t__law_equal : Stmt := top 20
abbrev t__law_all_equal : Stmt := top 21
abbrev t__law_cells : Stmt := top 22
abbrev t__law_far : Stmt := top 23
abbrev t__law_sets : Stmt := top 24
abbrev t__law_motions : Stmt := top 25
abbrev t__law_size : Stmt := top 26
abbrev t__law_full : Stmt := top 27
abbrev t_law : Stmt := top 28
def exN : List Str := ["ShowError", "ShowError", "BadArgument", "ShowError", "ShowError", "ShowError", "ShowError", "ShowError", "ShowError", "ShowError", "ShowError", "ShowError", "ShowError", "ShowError", "ShowError", "Most", "ShowError", "ShowError", "ShowError", "ShowError"]
abbrev tbl (K : PySem.W.Frag) (i : Nat) : Addr := He.ga K (exN.getD i (Str.ofString "ShowError"))
structure Txt (K : PySem.W.Frag) (mg : Str → Option Value) : Prop where
  n_bool : mg (Str.ofString "bool") = none
  n_int : mg (Str.ofString "int") = none
  n_isinstance : mg (Str.ofString "isinstance") = none
  n_len : mg (Str.ofString "len") = none
  n_list : mg (Str.ofString "list") = none
  n_range : mg (Str.ofString "range") = none
  n_set : mg (Str.ofString "set") = none
  n_sorted : mg (Str.ofString "sorted") = none
  n_str : mg (Str.ofString "str") = none
  n_tuple : mg (Str.ofString "tuple") = none
  e_ShowError : ExcC K mg (Str.ofString "ShowError") (tbl K 0)
  e_BadArgument : ExcC K mg (Str.ofString "BadArgument") (tbl K 2)
  k_Most : Cls K (tbl K 15)
  a_Most_apart : NoAttr K (tbl K 15) (Str.ofString "apart")
  a_Most_best : NoAttr K (tbl K 15) (Str.ofString "best")
  sub_BadArgument : ∀ n, PySem.W.exmOne K (.ref (tbl K n)) (.ref (tbl K 2)) = some (subX n 2)
section
variable {P : Program} {w : World} {K : PySem.W.Frag} {mg : Str → Option Value} {base : Heap}
abbrev Fn (K : PySem.W.Frag) (x : Str) (st : Stmt) (f : Addr) (fd : FuncData) : Prop := FunD K x x (defArgs st) (defBody st) (defScope st) [] [] f fd
abbrev FnM (K : PySem.W.Frag) (x qual : Str) (st : Stmt) (f : Addr) (fd : FuncData) : Prop := FunD K x qual (defArgs st) (defBody st) (defScope st) [] [] f fd
theorem sc_is_number : FnScope ["value", "low", "high"] ["value", "low", "high"] (defScope t_is_number) := ⟨rfl, rfl, rfl, by decide +kernel, rfl, by decide +kernel, by decide +kernel⟩
theorem sc_check_number : FnScope ["value", "low", "high"] ["value", "low", "high"] (defScope t_check_number) := ⟨rfl, rfl, rfl, by decide +kernel, rfl, by decide +kernel, by decide +kernel⟩
theorem sc_check_grid : FnScope ["rows", "columns"] ["rows", "columns"] (defScope t_check_grid) := ⟨rfl, rfl, rfl, by decide +kernel, rfl, by decide +kernel, by decide +kernel⟩
theorem sc_is_cell : FnScope ["value", "rows", "columns"] ["value", "rows", "columns"] (defScope t_is_cell) := ⟨rfl, rfl, rfl, by decide +kernel, rfl, by decide +kernel, by decide +kernel⟩
theorem sc_check_cells : FnScope ["cells", "rows", "columns", "cell", "k"] ["cells", "rows", "columns"] (defScope t_check_cells) := ⟨rfl, rfl, rfl, by decide +kernel, rfl, by decide +kernel, by decide +kernel⟩
theorem sc_are_apart : FnScope ["one", "other", "apart"] ["one", "other", "apart"] (defScope t_are_apart) := ⟨rfl, rfl, rfl, by decide +kernel, rfl, by decide +kernel, by decide +kernel⟩
theorem sc_cells_of : FnScope ["rows", "columns", "i", "j"] ["rows", "columns"] (defScope t_cells_of) := ⟨rfl, rfl, rfl, by decide +kernel, rfl, by decide +kernel, by decide +kernel⟩
theorem sc_far_enough : FnScope ["cells", "apart", "k", "cell"] ["cells", "apart"] (defScope t_far_enough) := ⟨rfl, rfl, rfl, by decide +kernel, rfl, by decide +kernel, by decide +kernel⟩
theorem sc_Most_init : FnScope ["self", "rows", "columns", "apart"] ["self", "rows", "columns", "apart"] (defScope t_Most_init) := ⟨rfl, rfl, rfl, by decide +kernel, rfl, by decide +kernel, by decide +kernel⟩
theorem sc_Most_go_on : FnScope ["self", "chosen", "left", "near", "cell"] ["self", "chosen", "left"] (defScope t_Most_go_on) := ⟨rfl, rfl, rfl, by decide +kernel, rfl, by decide +kernel, by decide +kernel⟩
theorem sc_most_apart : FnScope ["rows", "columns", "apart", "best"] ["rows", "columns", "apart"] (defScope t_most_apart) := ⟨rfl, rfl, rfl, by decide +kernel, rfl, by decide +kernel, by decide +kernel⟩
theorem sc_is_full : FnScope ["rows", "columns", "apart", "cells", "cell", "other"] ["rows", "columns", "apart", "cells"] (defScope t_is_full) := ⟨rfl, rfl, rfl, by decide +kernel, rfl, by decide +kernel, by decide +kernel⟩
theorem sc__law_mixed : FnScope ["number", "k", "step"] ["number", "k"] (defScope t__law_mixed) := ⟨rfl, rfl, rfl, by decide +kernel, rfl, by decide +kernel, by decide +kernel⟩
theorem sc__law_numbers : FnScope ["script", "numbers", "cell", "rest", "k"] ["script"] (defScope t__law_numbers) := ⟨rfl, rfl, rfl, by decide +kernel, rfl, by decide +kernel, by decide +kernel⟩
theorem sc__law_draw : FnScope ["draws", "many", "at", "first"] ["draws", "many"] (defScope t__law_draw) := ⟨rfl, rfl, rfl, by decide +kernel, rfl, by decide +kernel, by decide +kernel⟩
theorem sc__law_equal : FnScope ["actual", "due"] ["actual", "due"] (defScope t__law_equal) := ⟨rfl, rfl, rfl, by decide +kernel, rfl, by decide +kernel, by decide +kernel⟩
theorem sc__law_all_equal : FnScope ["actual", "due", "k"] ["actual", "due"] (defScope t__law_all_equal) := ⟨rfl, rfl, rfl, by decide +kernel, rfl, by decide +kernel, by decide +kernel⟩
theorem sc__law_cells : FnScope ["rows", "columns", "found", "i", "j"] ["rows", "columns"] (defScope t__law_cells) := ⟨rfl, rfl, rfl, by decide +kernel, rfl, by decide +kernel, by decide +kernel⟩
theorem sc__law_far : FnScope ["one", "other"] ["one", "other"] (defScope t__law_far) := ⟨rfl, rfl, rfl, by decide +kernel, rfl, by decide +kernel, by decide +kernel⟩
theorem sc__law_sets : FnScope ["rows", "columns", "many", "apart", "found", "cells", "turn", "longer", "some", "cell", "one"] ["rows", "columns", "many", "apart"] (defScope t__law_sets) := ⟨rfl, rfl, rfl, by decide +kernel, rfl, by decide +kernel, by decide +kernel⟩
theorem sc__law_motions : FnScope ["rows", "columns", "cells", "found", "i", "j", "told", "cell"] ["rows", "columns", "cells"] (defScope t__law_motions) := ⟨rfl, rfl, rfl, by decide +kernel, rfl, by decide +kernel, by decide +kernel⟩
theorem sc__law_size : FnScope ["draws"] ["draws"] (defScope t__law_size) := ⟨rfl, rfl, rfl, by decide +kernel, rfl, by decide +kernel, by decide +kernel⟩
theorem sc__law_full : FnScope ["rows", "columns", "apart", "cells", "k", "cell", "one"] ["rows", "columns", "apart", "cells"] (defScope t__law_full) := ⟨rfl, rfl, rfl, by decide +kernel, rfl, by decide +kernel, by decide +kernel⟩
theorem sc_law : FnScope ["script", "draws", "apart", "best", "cells", "told", "bad", "rows", "columns", "many", "sets", "k"] ["script"] (defScope t_law) := ⟨rfl, rfl, rfl, by decide +kernel, rfl, by decide +kernel, by decide +kernel⟩
theorem ok_is_number (T : Txt K mg) {a : Addr} {fd : FuncData} (F : Fn K "is_number" t_is_number a fd) (g : mg "is_number" = some (.ref a))  :
    Cal P w K mg base (tbl K) (0 + 1) "is_number" ["value", "low", "high"] (semOf 3 3 [] s_is_number) :=
  ⟨a, fd, fn_D F sc_is_number [] s_is_number rfl fun cdv A outer s H vs E hr tk hp =>
    (db_one (ds_ret (de_and (de_isa isa_int rfl T.n_isinstance rfl T.n_int rfl (de_name (pv 0))) (de_and (de_not (de_isa isa_bool rfl T.n_isinstance rfl T.n_bool rfl (de_name (pv 0)))) (de_one (de_chain (op_gLe hr.units) (op_gLe hr.units) cmp_bool2 (de_name (pv 1)) (de_name (pv 0)) (de_name (pv 2)))))))), g, F.kp, F.bindsN fun _ _ _ _ _ _ us hl => match us, hl with | [_, _, _], _ => rfl⟩
theorem ok_check_number (T : Txt K mg) {a : Addr} {fd : FuncData} (F : Fn K "check_number" t_check_number a fd) (g : mg "check_number" = some (.ref a)) (c_is_number : Cal P w K mg base (tbl K) 1 "is_number" ["value", "low", "high"] m_is_number) :
    Cal P w K mg base (tbl K) (1 + 1) "check_number" ["value", "low", "high"] (semOf 3 3 [] s_check_number) :=
  ⟨a, fd, fn_D F sc_check_number [] s_check_number rfl fun cdv A outer s H vs E hr tk hp =>
    (db_one (ds_if (dt_not (dt_tru (de_call c_is_number tk hr rfl (da_val (de_name (pv 0)) (da_val (de_name (pv 1)) (da_val (de_name (pv 2)) da_nil))) (argN_val (argN_val (argN_val argN_nil))))))
      (db_one (ds_raise 2 rfl tk T.e_BadArgument rfl))
      db_nil)), g, F.kp, F.bindsN fun _ _ _ _ _ _ us hl => match us, hl with | [_, _, _], _ => rfl⟩
theorem ok_check_grid (T : Txt K mg) {a : Addr} {fd : FuncData} (F : Fn K "check_grid" t_check_grid a fd) (g : mg "check_grid" = some (.ref a)) (c_check_number : Cal P w K mg base (tbl K) 2 "check_number" ["value", "low", "high"] m_check_number) :
    Cal P w K mg base (tbl K) (2 + 1) "check_grid" ["rows", "columns"] (semOf 2 2 [] s_check_grid) :=
  ⟨a, fd, fn_D F sc_check_grid [] s_check_grid rfl fun cdv A outer s H vs E hr tk hp =>
    (db_cons (ds_expr (de_call c_check_number tk hr rfl (da_val (de_name (pv 0)) (da_val de_int (da_val de_int da_nil))) (argN_val (argN_val (argN_val argN_nil)))))
    (db_one (ds_expr (de_call c_check_number tk hr rfl (da_val (de_name (pv 1)) (da_val de_int (da_val de_int da_nil))) (argN_val (argN_val (argN_val argN_nil))))))), g, F.kp, F.bindsN fun _ _ _ _ _ _ us hl => match us, hl with | [_, _], _ => rfl⟩
theorem ok_is_cell (T : Txt K mg) {a : Addr} {fd : FuncData} (F : Fn K "is_cell" t_is_cell a fd) (g : mg "is_cell" = some (.ref a)) (c_is_number : Cal P w K mg base (tbl K) 1 "is_number" ["value", "low", "high"] m_is_number) :
    Cal P w K mg base (tbl K) (1 + 1) "is_cell" ["value", "rows", "columns"] (semOf 3 3 [] s_is_cell) :=
  ⟨a, fd, fn_D F sc_is_cell [] s_is_cell rfl fun cdv A outer s H vs E hr tk hp =>
    (db_cons (ds_if (dw_t (dw_or (dt_not (dt_tru (de_isa isa_tuple rfl T.n_isinstance rfl T.n_tuple rfl (de_name (pv 0))))) (dw_or1 (dt_cmp (op_gNe hr.units) (de_callB (cr_gLen) rfl T.n_len rfl (da_val (de_name (pv 0)) da_nil)) de_int (nomark _)))))
      (db_one (ds_ret de_bool))
      db_nil)
    (db_one (ds_ret (de_and (de_call c_is_number tk hr rfl (da_val (de_ix ix_gIx (de_name (pv 0)) de_int (fun _ _ => rfl)) (da_val de_int (da_val (de_bin op_gSub (de_name (pv 1)) de_int) da_nil))) (argN_val (argN_val (argN_val argN_nil)))) (de_one (de_call c_is_number tk hr rfl (da_val (de_ix ix_gIx (de_name (pv 0)) de_int (fun _ _ => rfl)) (da_val de_int (da_val (de_bin op_gSub (de_name (pv 2)) de_int) da_nil))) (argN_val (argN_val (argN_val argN_nil))))))))), g, F.kp, F.bindsN fun _ _ _ _ _ _ us hl => match us, hl with | [_, _, _], _ => rfl⟩
theorem ok_check_cells (T : Txt K mg) {a : Addr} {fd : FuncData} (F : Fn K "check_cells" t_check_cells a fd) (g : mg "check_cells" = some (.ref a)) (c_is_cell : Cal P w K mg base (tbl K) 2 "is_cell" ["value", "rows", "columns"] m_is_cell) :
    Cal P w K mg base (tbl K) (2 + 1) "check_cells" ["cells", "rows", "columns"] (semOf 5 3 [] s_check_cells) :=
  ⟨a, fd, fn_D F sc_check_cells [] s_check_cells rfl fun cdv A outer s H vs E hr tk hp =>
    (db_cons (ds_if (dw_t (dw_or (dt_not (dt_tru (de_isa isa_list rfl T.n_isinstance rfl T.n_list rfl (de_name (pv 0))))) (dw_or1 (dt_not (dt_chain (op_gLe hr.units) (op_gLe hr.units) cmp_bool2 de_int (de_callB (cr_gLen) rfl T.n_len rfl (da_val (de_name (pv 0)) da_nil)) de_int)))))
      (db_one (ds_raise 2 rfl tk T.e_BadArgument rfl))
      db_nil)
    (db_cons (ds_if (dt_tru (de_lc rfl sc_check_cells.nd (own := [("cell", 3)]) (di_seq (de_name (pv 0))) (blkOk_by (by kernel_rfl)) (fun _ _ _ _ _ => (dg_name (i := 3) sc_check_cells.nd rfl (Or.inl rfl) rfl)) (fun _ _ _ _ _ => dts_one (dt_not (dt_tru (de_call c_is_cell takes0 hr rfl (da_val (de_name (pv 3)) (da_val (de_name (pv 1)) (da_val (de_name (pv 2)) da_nil))) (argN_val (argN_val (argN_val argN_nil))))))) (fun _ _ _ _ _ => (de_name (pv 3)))))
      (db_one (ds_raise 2 rfl tk T.e_BadArgument rfl))
      db_nil)
    (db_one (ds_if (dt_tru (de_lc rfl sc_check_cells.nd (own := [("k", 4)]) (di_range2 rfl T.n_range (da_val de_int (da_val (de_callB (cr_gLen) rfl T.n_len rfl (da_val (de_name (pv 0)) da_nil)) da_nil))) (blkOk_by (by kernel_rfl)) (fun _ _ _ _ _ => (dg_name (i := 4) sc_check_cells.nd rfl (Or.inl rfl) rfl)) (fun _ _ _ _ _ => dts_one (dt_cmp (op_gGe hr.units) (de_ix ix_gIx (de_name (pv 0)) (de_bin op_gSub (de_name (pv 4)) de_int) (fun _ _ => rfl)) (de_ix ix_gIx (de_name (pv 0)) (de_name (pv 4)) (fun _ _ => rfl)) (nomark _))) (fun _ _ _ _ _ => (de_name (pv 4)))))
      (db_one (ds_raise 2 rfl tk T.e_BadArgument rfl))
      db_nil)))), g, F.kp, F.bindsN fun _ _ _ _ _ _ us hl => match us, hl with | [_, _, _], _ => rfl⟩
theorem ok_are_apart (T : Txt K mg) {a : Addr} {fd : FuncData} (F : Fn K "are_apart" t_are_apart a fd) (g : mg "are_apart" = some (.ref a))  :
    Cal P w K mg base (tbl K) (0 + 1) "are_apart" ["one", "other", "apart"] (semOf 3 3 [] s_are_apart) :=
  ⟨a, fd, fn_D F sc_are_apart [] s_are_apart rfl fun cdv A outer s H vs E hr tk hp =>
    (db_one (ds_ret (de_cmp (op_gGe hr.units) (de_bin op_gAdd (de_bin op_gMul (de_bin op_gSub (de_ix ix_gIx (de_name (pv 0)) de_int (fun _ _ => rfl)) (de_ix ix_gIx (de_name (pv 1)) de_int (fun _ _ => rfl))) (de_bin op_gSub (de_ix ix_gIx (de_name (pv 0)) de_int (fun _ _ => rfl)) (de_ix ix_gIx (de_name (pv 1)) de_int (fun _ _ => rfl)))) (de_bin op_gMul (de_bin op_gSub (de_ix ix_gIx (de_name (pv 0)) de_int (fun _ _ => rfl)) (de_ix ix_gIx (de_name (pv 1)) de_int (fun _ _ => rfl))) (de_bin op_gSub (de_ix ix_gIx (de_name (pv 0)) de_int (fun _ _ => rfl)) (de_ix ix_gIx (de_name (pv 1)) de_int (fun _ _ => rfl))))) (de_name (pv 2)) (nomark _)))), g, F.kp, F.bindsN fun _ _ _ _ _ _ us hl => match us, hl with | [_, _, _], _ => rfl⟩
theorem ok_cells_of (T : Txt K mg) {a : Addr} {fd : FuncData} (F : Fn K "cells_of" t_cells_of a fd) (g : mg "cells_of" = some (.ref a))  :
    Cal P w K mg base (tbl K) (0 + 1) "cells_of" ["rows", "columns"] (semOf 4 2 [] s_cells_of) :=
  ⟨a, fd, fn_D F sc_cells_of [] s_cells_of rfl fun cdv A outer s H vs E hr tk hp =>
    (db_one (ds_ret (de_lc2 (own := [("i", 2), ("j", 3)]) (own1 := [3]) rfl sc_cells_of.nd (di_range1 rfl T.n_range (da_val (de_name (pv 0)) da_nil)) (blkOk_by (by kernel_rfl)) (fun _ _ _ _ _ => (dg_name (i := 2) sc_cells_of.nd rfl (Or.inl rfl) rfl)) (fun _ _ _ _ _ => dts_nil) (fun _ _ _ _ _ => (di_range1 rfl T.n_range (da_val (de_name (pv 1)) da_nil))) (fun _ _ _ _ _ => (dg_name (i := 3) sc_cells_of.nd rfl (Or.inl rfl) rfl)) (fun _ _ _ _ _ => dts_nil) (fun _ _ _ _ _ => (de_tup (da_val (de_name (pv 2)) (da_val (de_name (pv 3)) da_nil))))))), g, F.kp, F.bindsN fun _ _ _ _ _ _ us hl => match us, hl with | [_, _], _ => rfl⟩
theorem ok_far_enough (T : Txt K mg) {a : Addr} {fd : FuncData} (F : Fn K "far_enough" t_far_enough a fd) (g : mg "far_enough" = some (.ref a)) (c_are_apart : Cal P w K mg base (tbl K) 1 "are_apart" ["one", "other", "apart"] m_are_apart) :
    Cal P w K mg base (tbl K) (1 + 1) "far_enough" ["cells", "apart"] (semOf 4 2 [] s_far_enough) :=
  ⟨a, fd, fn_D F sc_far_enough [] s_far_enough rfl fun cdv A outer s H vs E hr tk hp =>
    (db_cons (ds_for hp rfl (di_range1 rfl T.n_range (da_val (de_callB (cr_gLen) rfl T.n_len rfl (da_val (de_name (pv 0)) da_nil)) da_nil)) (dg_name (i := 2) sc_far_enough.nd rfl (Or.inr rfl) rfl)
      (db_one (ds_if (dt_tru (de_lc rfl sc_far_enough.nd (own := [("cell", 3)]) (di_seq (de_slice (de_name (pv 0)) do_none (do_some (de_name (pv 2))))) (blkOk_by (by kernel_rfl)) (fun _ _ _ _ _ => (dg_name (i := 3) sc_far_enough.nd rfl (Or.inl rfl) rfl)) (fun _ _ _ _ _ => dts_one (dt_not (dt_tru (de_call c_are_apart takes0 hr rfl (da_val (de_ix ix_gIx (de_name (pv 0)) (de_name (pv 2)) (fun _ _ => rfl)) (da_val (de_name (pv 3)) (da_val (de_name (pv 1)) da_nil))) (argN_val (argN_val (argN_val argN_nil))))))) (fun _ _ _ _ _ => (de_name (pv 3)))))
      (db_one (ds_ret de_bool))
      db_nil)))
    (db_one (ds_ret de_bool))), g, F.kp, F.bindsN fun _ _ _ _ _ _ us hl => match us, hl with | [_, _], _ => rfl⟩
theorem ok_Most_go_on {n : Nat} {r_Most_go_on : Sem} (T : Txt K mg) {a : Addr} {fd : FuncData} (F : FnM K "go_on" "Most.go_on" t_Most_go_on a fd) (g : Meth K (tbl K 15) "go_on" a) (c_Most_go_on : CalM P w K mg base (tbl K) (1 + n) 15 "go_on" ["self", "chosen", "left"] r_Most_go_on) (c_are_apart : Cal P w K mg base (tbl K) 1 "are_apart" ["one", "other", "apart"] m_are_apart) :
    CalM P w K mg base (tbl K) ((1 + n) + 1) 15 "go_on" ["self", "chosen", "left"] (semOf 5 3 [0] (s_Most_go_on r_Most_go_on)) :=
  ⟨a, fd, fn_D F sc_Most_go_on [0] (s_Most_go_on r_Most_go_on) rfl fun cdv A outer s H vs E hr tk hp =>
    (db_cons (ds_if (dt_peek (dt_cmp (op_gLe hr.units) (de_bin op_gAdd (de_callB (cr_gLen) rfl T.n_len rfl (da_val (de_name (pv 1)) da_nil)) (de_callB (cr_gLen) rfl T.n_len rfl (da_val (de_name (pv 2)) da_nil))) (de_callB (cr_gLen) rfl T.n_len rfl (da_val (de_fld (de_name (pv 0)) T.k_Most T.a_Most_best) da_nil)) (nomark _)))
      (db_one ds_retN)
      db_nil)
    (db_cons (ds_if (dt_not (dt_tru (de_name (pv 2))))
      (db_cons (ds_fset (i := 0) (de_name (pv 1)) (pv 0) T.k_Most T.a_Most_best)
    (db_one ds_retN))
      db_nil)
    (db_cons (ds_set (i := 3) sc_Most_go_on.nd rfl (Or.inr rfl) rfl (de_peekN (de_lc rfl sc_Most_go_on.nd (own := [("cell", 4)]) (di_seq (de_slice (de_name (pv 2)) (do_some de_int) do_none)) (blkOk_by (by kernel_rfl)) (fun _ _ _ _ _ => (dg_name (i := 4) sc_Most_go_on.nd rfl (Or.inl rfl) rfl)) (fun _ _ _ _ _ => dts_one (dt_not (dt_tru (de_call c_are_apart takes0 hr rfl (da_val (de_ix ix_gIx (de_name (pv 2)) de_int (fun _ _ => rfl)) (da_val (de_name (pv 4)) (da_val (de_fld (de_name (pv 0)) T.k_Most T.a_Most_apart) da_nil))) (argN_val (argN_val (argN_val argN_nil))))))) (fun _ _ _ _ _ => (de_name (pv 4))))))
    (db_cons (ds_expr (de_meth c_Most_go_on T.k_Most hr (pv 0) (da_val (de_bin op_gAdd (de_name (pv 1)) (de_list (da_val (de_ix ix_gIx (de_name (pv 2)) de_int (fun _ _ => rfl)) da_nil))) (da_val (de_lc rfl sc_Most_go_on.nd (own := [("cell", 4)]) (di_seq (de_slice (de_name (pv 2)) (do_some de_int) do_none)) (blkOk_by (by kernel_rfl)) (fun _ _ _ _ _ => (dg_name (i := 4) sc_Most_go_on.nd rfl (Or.inl rfl) rfl)) (fun _ _ _ _ _ => dts_one (dt_cmp (op_gNin hr.units) (de_name (pv 4)) (de_name (pv 3)) (by with_unfolding_all rfl))) (fun _ _ _ _ _ => (de_name (pv 4)))) da_nil)) (argN_io (argN_val (argN_val argN_nil)))))
    (db_one (ds_if (dt_tru (de_name (pv 3)))
      (db_one (ds_expr (de_meth c_Most_go_on T.k_Most hr (pv 0) (da_val (de_name (pv 1)) (da_val (de_slice (de_name (pv 2)) (do_some de_int) do_none) da_nil)) (argN_io (argN_val (argN_val argN_nil))))))
      db_nil)))))), g, F.bindsN fun _ _ _ _ _ _ us hl => match us, hl with | [_, _, _], _ => rfl⟩
theorem bad_Most_go_on {a : Addr} {fd : FuncData} (F : FnM K "go_on" "Most.go_on" t_Most_go_on a fd) (g : Meth K (tbl K 15) "go_on" a) (k : Nat) : CalM P w K mg base (tbl K) k 15 "go_on" ["self", "chosen", "left"] (fun _ => .bad) :=
  ⟨a, fd, fn_bad (tb := tbl K) (x := "go_on") (qual := "Most.go_on") (st := t_Most_go_on), g, F.bindsN fun _ _ _ _ _ _ us hl => match us, hl with | [_, _, _], _ => rfl⟩
theorem okR_Most_go_on (T : Txt K mg) {a_Most_go_on : Addr} {fd_Most_go_on : FuncData} (F_Most_go_on : FnM K "go_on" "Most.go_on" t_Most_go_on a_Most_go_on fd_Most_go_on) (g_Most_go_on : Meth K (tbl K 15) "go_on" a_Most_go_on) (c_are_apart : Cal P w K mg base (tbl K) 1 "are_apart" ["one", "other", "apart"] m_are_apart) : ∀ n : Nat, CalM P w K mg base (tbl K) (1 + n) 15 "go_on" ["self", "chosen", "left"] (m_Most_go_on n)
  | 0 => bad_Most_go_on F_Most_go_on g_Most_go_on _
  | n + 1 => by
    have c_Most_go_on := okR_Most_go_on T F_Most_go_on g_Most_go_on c_are_apart n
    exact ok_Most_go_on T F_Most_go_on g_Most_go_on c_Most_go_on c_are_apart
theorem ok_Most_init (T : Txt K mg) {a : Addr} {fd : FuncData} (F : FnM K "__init__" "Most.__init__" t_Most_init a fd) (g : Mk K (tbl K 15) a ∧ mg "Most" = some (.ref (tbl K 15))) (c_Most_go_on : CalM P w K mg base (tbl K) 16 15 "go_on" ["self", "chosen", "left"] (m_Most_go_on 14)) (c_cells_of : Cal P w K mg base (tbl K) 1 "cells_of" ["rows", "columns"] m_cells_of) :
    CalI P w K mg base (tbl K) (16 + 1) 15 "Most" ["self", "rows", "columns", "apart"] (semOf 4 4 [0] s_Most_init) :=
  ⟨a, fd, fn_D F sc_Most_init [0] s_Most_init rfl fun cdv A outer s H vs E hr tk hp =>
    (db_cons (ds_fset (i := 0) (de_name (pv 3)) (pv 0) T.k_Most T.a_Most_apart)
    (db_cons (ds_fset (i := 0) (de_list da_nil) (pv 0) T.k_Most T.a_Most_best)
    (db_one (ds_expr (de_meth c_Most_go_on T.k_Most hr (pv 0) (da_val (de_list da_nil) (da_val (de_call c_cells_of tk hr rfl (da_val (de_name (pv 1)) (da_val (de_name (pv 2)) da_nil)) (argN_val (argN_val argN_nil))) da_nil)) (argN_io (argN_val (argN_val argN_nil)))))))), g.1, g.2, F.bindsN fun _ _ _ _ _ _ us hl => match us, hl with | [_, _, _, _], _ => rfl⟩
theorem ok_most_apart (T : Txt K mg) {a : Addr} {fd : FuncData} (F : Fn K "most_apart" t_most_apart a fd) (g : mg "most_apart" = some (.ref a)) (c_check_grid : Cal P w K mg base (tbl K) 3 "check_grid" ["rows", "columns"] m_check_grid) (c_check_number : Cal P w K mg base (tbl K) 2 "check_number" ["value", "low", "high"] m_check_number) (c_Most_init : CalI P w K mg base (tbl K) 17 15 "Most" ["self", "rows", "columns", "apart"] m_Most_init) :
    Cal P w K mg base (tbl K) (18 + 1) "most_apart" ["rows", "columns", "apart"] (semOf 4 3 [] s_most_apart) :=
  ⟨a, fd, fn_D F sc_most_apart [] s_most_apart rfl fun cdv A outer s H vs E hr tk hp =>
    (db_cons (ds_expr (de_call c_check_grid tk hr rfl (da_val (de_name (pv 0)) (da_val (de_name (pv 1)) da_nil)) (argN_val (argN_val argN_nil))))
    (db_cons (ds_expr (de_call c_check_number tk hr rfl (da_val (de_name (pv 2)) (da_val de_int (da_val de_int da_nil))) (argN_val (argN_val (argN_val argN_nil)))))
    (db_cons (ds_set (i := 3) sc_most_apart.nd rfl (Or.inl rfl) rfl (de_fld (de_make c_Most_init hr rfl (da_val (de_name (pv 0)) (da_val (de_name (pv 1)) (da_val (de_name (pv 2)) da_nil))) (argN_val (argN_val (argN_val argN_nil)))) T.k_Most T.a_Most_best))
    (db_one (ds_ret (de_tup (da_val (de_callB (cr_gLen) rfl T.n_len rfl (da_val (de_name (pv 3)) da_nil)) (da_val (de_name (pv 3)) da_nil)))))))), g, F.kp, F.bindsN fun _ _ _ _ _ _ us hl => match us, hl with | [_, _, _], _ => rfl⟩
theorem ok_is_full (T : Txt K mg) {a : Addr} {fd : FuncData} (F : Fn K "is_full" t_is_full a fd) (g : mg "is_full" = some (.ref a)) (c_check_grid : Cal P w K mg base (tbl K) 3 "check_grid" ["rows", "columns"] m_check_grid) (c_check_number : Cal P w K mg base (tbl K) 2 "check_number" ["value", "low", "high"] m_check_number) (c_check_cells : Cal P w K mg base (tbl K) 3 "check_cells" ["cells", "rows", "columns"] m_check_cells) (c_cells_of : Cal P w K mg base (tbl K) 1 "cells_of" ["rows", "columns"] m_cells_of) (c_far_enough : Cal P w K mg base (tbl K) 2 "far_enough" ["cells", "apart"] m_far_enough) (c_are_apart : Cal P w K mg base (tbl K) 1 "are_apart" ["one", "other", "apart"] m_are_apart) :
    Cal P w K mg base (tbl K) (3 + 1) "is_full" ["rows", "columns", "apart", "cells"] (semOf 6 4 [] s_is_full) :=
  ⟨a, fd, fn_D F sc_is_full [] s_is_full rfl fun cdv A outer s H vs E hr tk hp =>
    (db_cons (ds_expr (de_call c_check_grid tk hr rfl (da_val (de_name (pv 0)) (da_val (de_name (pv 1)) da_nil)) (argN_val (argN_val argN_nil))))
    (db_cons (ds_expr (de_call c_check_number tk hr rfl (da_val (de_name (pv 2)) (da_val de_int (da_val de_int da_nil))) (argN_val (argN_val (argN_val argN_nil)))))
    (db_cons (ds_expr (de_call c_check_cells tk hr rfl (da_val (de_name (pv 3)) (da_val (de_name (pv 0)) (da_val (de_name (pv 1)) da_nil))) (argN_val (argN_val (argN_val argN_nil)))))
    (db_cons (ds_if (dt_not (dt_tru (de_call c_far_enough tk hr rfl (da_val (de_name (pv 3)) (da_val (de_name (pv 2)) da_nil)) (argN_val (argN_val argN_nil)))))
      (db_one (ds_ret de_bool))
      db_nil)
    (db_cons (ds_for hp rfl (di_seq (de_call c_cells_of tk hr rfl (da_val (de_name (pv 0)) (da_val (de_name (pv 1)) da_nil)) (argN_val (argN_val argN_nil)))) (dg_name (i := 4) sc_is_full.nd rfl (Or.inr rfl) rfl)
      (db_one (ds_if (dw_t (dw_and (dt_cmp (op_gNin hr.units) (de_name (pv 4)) (de_name (pv 3)) (by with_unfolding_all rfl)) (dw_and1 (dt_cmp (op_gEq hr.units) (de_lc rfl sc_is_full.nd (own := [("other", 5)]) (di_seq (de_name (pv 3))) (blkOk_by (by kernel_rfl)) (fun _ _ _ _ _ => (dg_name (i := 5) sc_is_full.nd rfl (Or.inl rfl) rfl)) (fun _ _ _ _ _ => dts_one (dt_not (dt_tru (de_call c_are_apart takes0 hr rfl (da_val (de_name (pv 4)) (da_val (de_name (pv 5)) (da_val (de_name (pv 2)) da_nil))) (argN_val (argN_val (argN_val argN_nil))))))) (fun _ _ _ _ _ => (de_name (pv 5)))) (de_list da_nil) (nomark _)))))
      (db_one (ds_ret de_bool))
      db_nil)))
    (db_one (ds_ret de_bool))))))), g, F.kp, F.bindsN fun _ _ _ _ _ _ us hl => match us, hl with | [_, _, _, _], _ => rfl⟩
theorem ok__law_mixed (T : Txt K mg) {a : Addr} {fd : FuncData} (F : Fn K "_law_mixed" t__law_mixed a fd) (g : mg "_law_mixed" = some (.ref a))  :
    Cal P w K mg base (tbl K) (0 + 1) "_law_mixed" ["number", "k"] (semOf 3 2 [] s__law_mixed) :=
  ⟨a, fd, fn_D F sc__law_mixed [] s__law_mixed rfl fun cdv A outer s H vs E hr tk hp =>
    (db_cons (ds_set (i := 2) sc__law_mixed.nd rfl (Or.inl rfl) rfl (de_bin op_gMod (de_bin op_gAdd (de_bin op_gAdd (de_bin op_gMul (de_name (pv 0)) de_int) (de_bin op_gMul (de_name (pv 1)) de_int)) de_int) de_int))
    (db_one (ds_ret (de_bin op_gMod (de_bin op_gAdd (de_bin op_gMul (de_name (pv 2)) (de_bin op_gAdd (de_bin op_gDiv (de_name (pv 2)) de_int) de_int)) (de_name (pv 1))) de_int)))), g, F.kp, F.bindsN fun _ _ _ _ _ _ us hl => match us, hl with | [_, _], _ => rfl⟩
theorem ok__law_numbers (T : Txt K mg) {a : Addr} {fd : FuncData} (F : Fn K "_law_numbers" t__law_numbers a fd) (g : mg "_law_numbers" = some (.ref a)) (c__law_mixed : Cal P w K mg base (tbl K) 1 "_law_mixed" ["number", "k"] m__law_mixed) :
    Cal P w K mg base (tbl K) (1 + 1) "_law_numbers" ["script"] (semOf 5 1 [] s__law_numbers) :=
  ⟨a, fd, fn_D F sc__law_numbers [] s__law_numbers rfl fun cdv A outer s H vs E hr tk hp =>
    (db_cons (ds_set (i := 1) sc__law_numbers.nd rfl (Or.inl rfl) rfl (de_list da_nil))
    (db_cons (ds_for hp rfl (di_seq (de_name (pv 0))) (dg_name (i := 2) sc__law_numbers.nd rfl (Or.inl rfl) rfl)
      (db_one (ds_if (dt_cmp (op_gGe hr.units) (de_name (pv 2)) (de_bin op_gPow de_int de_int) (nomark _))
      (db_cons (ds_set (i := 3) sc__law_numbers.nd rfl (Or.inl rfl) rfl (de_name (pv 2)))
    (db_one (ds_for hp rfl (di_range1 rfl T.n_range (da_val de_int da_nil)) (dg_name (i := 4) sc__law_numbers.nd rfl (Or.inl rfl) rfl)
      (db_one (ds_if (dt_cmp (op_gGt hr.units) (de_name (pv 3)) de_int (nomark _))
      (db_cons (ds_app (i := 1) (pv 1) (de_bin op_gMod (de_name (pv 3)) de_int))
    (db_one (ds_set (i := 3) sc__law_numbers.nd rfl (Or.inl rfl) rfl (de_bin op_gDiv (de_name (pv 3)) de_int))))
      db_nil)))))
      (db_cons (ds_app (i := 1) (pv 1) (de_bin op_gMod (de_name (pv 2)) de_int))
    (db_one (ds_for hp rfl (di_range1 rfl T.n_range (da_val de_int da_nil)) (dg_name (i := 4) sc__law_numbers.nd rfl (Or.inl rfl) rfl)
      (db_one (ds_app (i := 1) (pv 1) (de_bin op_gMod (de_call c__law_mixed tk hr rfl (da_val (de_call c__law_mixed tk hr rfl (da_val (de_bin op_gMod (de_name (pv 2)) de_int) (da_val (de_name (pv 4)) da_nil)) (argN_val (argN_val argN_nil))) (da_val (de_bin op_gAdd (de_name (pv 4)) de_int) da_nil)) (argN_val (argN_val argN_nil))) de_int)))))))))
    (db_one (ds_ret (de_move (pv 1)))))), g, F.kp, F.bindsN fun _ _ _ _ _ _ us hl => match us, hl with | [_], _ => rfl⟩
theorem ok__law_draw (T : Txt K mg) {a : Addr} {fd : FuncData} (F : Fn K "_law_draw" t__law_draw a fd) (g : mg "_law_draw" = some (.ref a)) (c__law_mixed : Cal P w K mg base (tbl K) 1 "_law_mixed" ["number", "k"] m__law_mixed) :
    Cal P w K mg base (tbl K) (1 + 1) "_law_draw" ["draws", "many"] (semOf 4 2 [0] s__law_draw_v1) :=
  ⟨a, fd, fn_D F sc__law_draw [0] s__law_draw_v1 rfl fun cdv A outer s H vs E hr tk hp =>
    (db_cons (ds_set (i := 2) sc__law_draw.nd rfl (Or.inl rfl) rfl (de_peek (de_ix ix_gIx (de_name (pv 0)) de_int (fun _ _ => rfl))))
    (db_cons (ds_store (i := 0) (de_bin op_gAdd (de_name (pv 2)) de_int) (pv 0) de_int)
    (db_cons (ds_if (dt_peek (dt_cmp (op_gLt hr.units) (de_name (pv 2)) (de_callB (cr_gLen) rfl T.n_len rfl (da_val (de_ix ix_gIx (de_name (pv 0)) de_int (fun _ _ => rfl)) da_nil)) (nomark _)))
      (db_one (ds_ret (de_peek (de_bin op_gMod (de_ix ix_gIx (de_ix ix_gIx (de_name (pv 0)) de_int (fun _ _ => rfl)) (de_name (pv 2)) (fun _ _ => rfl)) (de_name (pv 1))))))
      db_nil)
    (db_cons (ds_set (i := 3) sc__law_draw.nd rfl (Or.inl rfl) rfl (de_bin op_gAdd de_int (de_name (pv 2))))
    (db_cons (ds_if (dt_peek (dt_cmp (op_gGt hr.units) (de_callB (cr_gLen) rfl T.n_len rfl (da_val (de_ix ix_gIx (de_name (pv 0)) de_int (fun _ _ => rfl)) da_nil)) de_int (nomark _)))
      (db_one (ds_set (i := 3) sc__law_draw.nd rfl (Or.inl rfl) rfl (de_peek (de_bin op_gAdd (de_name (pv 3)) (de_bin op_gMul de_int (de_ix ix_gIx (de_ix ix_gIx (de_name (pv 0)) de_int (fun _ _ => rfl)) de_int (fun _ _ => rfl)))))))
      db_nil)
    (db_one (ds_ret (de_bin op_gMod (de_bin op_gDiv (de_call c__law_mixed tk hr rfl (da_val (de_call c__law_mixed tk hr rfl (da_val (de_name (pv 3)) (da_val (de_name (pv 2)) da_nil)) (argN_val (argN_val argN_nil))) (da_val de_int da_nil)) (argN_val (argN_val argN_nil))) de_int) (de_name (pv 1)))))))))), g, F.kp, F.bindsN fun _ _ _ _ _ _ us hl => match us, hl with | [_, _], _ => rfl⟩
theorem ok__law_equal {n : Nat} {r__law_equal : Sem} {r__law_all_equal : Sem} (T : Txt K mg) {a : Addr} {fd : FuncData} (F : Fn K "_law_equal" t__law_equal a fd) (g : mg "_law_equal" = some (.ref a)) (c__law_all_equal : Cal P w K mg base (tbl K) (0 + n) "_law_all_equal" ["actual", "due"] r__law_all_equal) :
    Cal P w K mg base (tbl K) ((0 + n) + 1) "_law_equal" ["actual", "due"] (semOf 2 2 [] (s__law_equal_v1 r__law_equal r__law_all_equal)) :=
  ⟨a, fd, fn_D F sc__law_equal [] (s__law_equal_v1 r__law_equal r__law_all_equal) rfl fun cdv A outer s H vs E hr tk hp =>
    (db_cons (ds_if (dt_tru (de_isa isa_list rfl T.n_isinstance rfl T.n_list rfl (de_name (pv 1))))
      (db_one (ds_ret (de_and (de_isa isa_list rfl T.n_isinstance rfl T.n_list rfl (de_name (pv 0))) (de_and (de_cmp (op_gEq hr.units) (de_callB (cr_gLen) rfl T.n_len rfl (da_val (de_name (pv 0)) da_nil)) (de_callB (cr_gLen) rfl T.n_len rfl (da_val (de_name (pv 1)) da_nil)) (nomark _)) (de_one (de_call c__law_all_equal tk hr rfl (da_val (de_name (pv 0)) (da_val (de_name (pv 1)) da_nil)) (argN_val (argN_val argN_nil))))))))
      db_nil)
    (db_cons (ds_if (dt_tru (de_isa isa_tuple rfl T.n_isinstance rfl T.n_tuple rfl (de_name (pv 1))))
      (db_one (ds_ret (de_and (de_isa isa_tuple rfl T.n_isinstance rfl T.n_tuple rfl (de_name (pv 0))) (de_and (de_cmp (op_gEq hr.units) (de_callB (cr_gLen) rfl T.n_len rfl (da_val (de_name (pv 0)) da_nil)) (de_callB (cr_gLen) rfl T.n_len rfl (da_val (de_name (pv 1)) da_nil)) (nomark _)) (de_one (de_call c__law_all_equal tk hr rfl (da_val (de_name (pv 0)) (da_val (de_name (pv 1)) da_nil)) (argN_val (argN_val argN_nil))))))))
      db_nil)
    (db_cons (ds_if (dt_tru (de_isa isa_bool rfl T.n_isinstance rfl T.n_bool rfl (de_name (pv 1))))
      (db_one (ds_ret (de_and (de_isa isa_bool rfl T.n_isinstance rfl T.n_bool rfl (de_name (pv 0))) (de_one (de_cmp (op_gEq hr.units) (de_name (pv 0)) (de_name (pv 1)) (nomark _))))))
      db_nil)
    (db_cons (ds_if (dt_tru (de_isa isa_int rfl T.n_isinstance rfl T.n_int rfl (de_name (pv 1))))
      (db_one (ds_ret (de_and (de_isa isa_int rfl T.n_isinstance rfl T.n_int rfl (de_name (pv 0))) (de_and (de_not (de_isa isa_bool rfl T.n_isinstance rfl T.n_bool rfl (de_name (pv 0)))) (de_one (de_cmp (op_gEq hr.units) (de_name (pv 0)) (de_name (pv 1)) (nomark _)))))))
      db_nil)
    (db_cons (ds_if (dt_tru (de_isa isa_str rfl T.n_isinstance rfl T.n_str rfl (de_name (pv 1))))
      (db_one (ds_ret (de_and (de_isa isa_str rfl T.n_isinstance rfl T.n_str rfl (de_name (pv 0))) (de_one (de_cmp (op_gEq hr.units) (de_name (pv 0)) (de_name (pv 1)) (nomark _))))))
      db_nil)
    (db_one (ds_ret (de_cmp op_gIs (de_name (pv 0)) de_none (nomark _))))))))), g, F.kp, F.bindsN fun _ _ _ _ _ _ us hl => match us, hl with | [_, _], _ => rfl⟩
theorem ok__law_all_equal {n : Nat} {r__law_equal : Sem} {r__law_all_equal : Sem} (T : Txt K mg) {a : Addr} {fd : FuncData} (F : Fn K "_law_all_equal" t__law_all_equal a fd) (g : mg "_law_all_equal" = some (.ref a)) (c__law_equal : Cal P w K mg base (tbl K) (0 + n) "_law_equal" ["actual", "due"] r__law_equal) :
    Cal P w K mg base (tbl K) ((0 + n) + 1) "_law_all_equal" ["actual", "due"] (semOf 3 2 [] (s__law_all_equal_v1 r__law_equal r__law_all_equal)) :=
  ⟨a, fd, fn_D F sc__law_all_equal [] (s__law_all_equal_v1 r__law_equal r__law_all_equal) rfl fun cdv A outer s H vs E hr tk hp =>
    (db_cons (ds_for hp rfl (di_range1 rfl T.n_range (da_val (de_callB (cr_gLen) rfl T.n_len rfl (da_val (de_name (pv 1)) da_nil)) da_nil)) (dg_name (i := 2) sc__law_all_equal.nd rfl (Or.inl rfl) rfl)
      (db_one (ds_if (dt_not (dt_tru (de_call c__law_equal tk hr rfl (da_val (de_ix ix_gIx (de_name (pv 0)) (de_name (pv 2)) (fun _ _ => rfl)) (da_val (de_ix ix_gIx (de_name (pv 1)) (de_name (pv 2)) (fun _ _ => rfl)) da_nil)) (argN_val (argN_val argN_nil)))))
      (db_one (ds_ret de_bool))
      db_nil)))
    (db_one (ds_ret de_bool))), g, F.kp, F.bindsN fun _ _ _ _ _ _ us hl => match us, hl with | [_, _], _ => rfl⟩
theorem bad__law_equal {a : Addr} {fd : FuncData} (F : Fn K "_law_equal" t__law_equal a fd) (g : mg "_law_equal" = some (.ref a)) (k : Nat) : Cal P w K mg base (tbl K) k "_law_equal" ["actual", "due"] (fun _ => .bad) :=
  ⟨a, fd, fn_bad (tb := tbl K) (x := "_law_equal") (qual := "_law_equal") (st := t__law_equal), g, F.kp, F.bindsN fun _ _ _ _ _ _ us hl => match us, hl with | [_, _], _ => rfl⟩
theorem bad__law_all_equal {a : Addr} {fd : FuncData} (F : Fn K "_law_all_equal" t__law_all_equal a fd) (g : mg "_law_all_equal" = some (.ref a)) (k : Nat) : Cal P w K mg base (tbl K) k "_law_all_equal" ["actual", "due"] (fun _ => .bad) :=
  ⟨a, fd, fn_bad (tb := tbl K) (x := "_law_all_equal") (qual := "_law_all_equal") (st := t__law_all_equal), g, F.kp, F.bindsN fun _ _ _ _ _ _ us hl => match us, hl with | [_, _], _ => rfl⟩
theorem okR__law_equal (T : Txt K mg) {a__law_equal : Addr} {fd__law_equal : FuncData} (F__law_equal : Fn K "_law_equal" t__law_equal a__law_equal fd__law_equal) (g__law_equal : mg "_law_equal" = some (.ref a__law_equal)) {a__law_all_equal : Addr} {fd__law_all_equal : FuncData} (F__law_all_equal : Fn K "_law_all_equal" t__law_all_equal a__law_all_equal fd__law_all_equal) (g__law_all_equal : mg "_law_all_equal" = some (.ref a__law_all_equal))  : ∀ n : Nat, Cal P w K mg base (tbl K) (0 + n) "_law_equal" ["actual", "due"] (m__law_equal_v1 n) ∧ Cal P w K mg base (tbl K) (0 + n) "_law_all_equal" ["actual", "due"] (m__law_all_equal_v1 n)
  | 0 => ⟨bad__law_equal F__law_equal g__law_equal _, bad__law_all_equal F__law_all_equal g__law_all_equal _⟩
  | n + 1 => by
    obtain ⟨c__law_equal, c__law_all_equal⟩ := okR__law_equal T F__law_equal g__law_equal F__law_all_equal g__law_all_equal  n
    exact ⟨ok__law_equal T F__law_equal g__law_equal c__law_all_equal, ok__law_all_equal T F__law_all_equal g__law_all_equal c__law_equal⟩
theorem ok__law_cells (T : Txt K mg) {a : Addr} {fd : FuncData} (F : Fn K "_law_cells" t__law_cells a fd) (g : mg "_law_cells" = some (.ref a))  :
    Cal P w K mg base (tbl K) (0 + 1) "_law_cells" ["rows", "columns"] (semOf 5 2 [] s__law_cells) :=
  ⟨a, fd, fn_D F sc__law_cells [] s__law_cells rfl fun cdv A outer s H vs E hr tk hp =>
    (db_cons (ds_set (i := 2) sc__law_cells.nd rfl (Or.inl rfl) rfl (de_list da_nil))
    (db_cons (ds_for hp rfl (di_range1 rfl T.n_range (da_val (de_name (pv 0)) da_nil)) (dg_name (i := 3) sc__law_cells.nd rfl (Or.inr rfl) rfl)
      (db_one (ds_set (i := 2) sc__law_cells.nd rfl (Or.inl rfl) rfl (de_bin op_gAdd (de_name (pv 2)) (de_lc rfl sc__law_cells.nd (own := [("j", 4)]) (di_range1 rfl T.n_range (da_val (de_name (pv 1)) da_nil)) (blkOk_by (by kernel_rfl)) (fun _ _ _ _ _ => (dg_name (i := 4) sc__law_cells.nd rfl (Or.inl rfl) rfl)) (fun _ _ _ _ _ => dts_nil) (fun _ _ _ _ _ => (de_tup (da_val (de_name (pv 3)) (da_val (de_name (pv 4)) da_nil)))))))))
    (db_one (ds_ret (de_name (pv 2)))))), g, F.kp, F.bindsN fun _ _ _ _ _ _ us hl => match us, hl with | [_, _], _ => rfl⟩
theorem ok__law_far (T : Txt K mg) {a : Addr} {fd : FuncData} (F : Fn K "_law_far" t__law_far a fd) (g : mg "_law_far" = some (.ref a))  :
    Cal P w K mg base (tbl K) (0 + 1) "_law_far" ["one", "other"] (semOf 2 2 [] s__law_far_v2) :=
  ⟨a, fd, fn_D F sc__law_far [] s__law_far_v2 rfl fun cdv A outer s H vs E hr tk hp =>
    (db_one (ds_ret (de_bin op_gAdd (de_bin op_gMul (de_bin op_gSub (de_ix ix_gIx (de_name (pv 0)) de_int (fun _ _ => rfl)) (de_ix ix_gIx (de_name (pv 1)) de_int (fun _ _ => rfl))) (de_bin op_gSub (de_ix ix_gIx (de_name (pv 0)) de_int (fun _ _ => rfl)) (de_ix ix_gIx (de_name (pv 1)) de_int (fun _ _ => rfl)))) (de_bin op_gMul (de_bin op_gSub (de_ix ix_gIx (de_name (pv 0)) de_int (fun _ _ => rfl)) (de_ix ix_gIx (de_name (pv 1)) de_int (fun _ _ => rfl))) (de_bin op_gSub (de_ix ix_gIx (de_name (pv 0)) de_int (fun _ _ => rfl)) (de_ix ix_gIx (de_name (pv 1)) de_int (fun _ _ => rfl))))))), g, F.kp, F.bindsN fun _ _ _ _ _ _ us hl => match us, hl with | [_, _], _ => rfl⟩
theorem ok__law_sets (T : Txt K mg) {a : Addr} {fd : FuncData} (F : Fn K "_law_sets" t__law_sets a fd) (g : mg "_law_sets" = some (.ref a)) (c__law_cells : Cal P w K mg base (tbl K) 1 "_law_cells" ["rows", "columns"] m__law_cells) (c__law_far : Cal P w K mg base (tbl K) 1 "_law_far" ["one", "other"] m__law_far_v2) :
    Cal P w K mg base (tbl K) (1 + 1) "_law_sets" ["rows", "columns", "many", "apart"] (semOf 11 4 [] s__law_sets) :=
  ⟨a, fd, fn_D F sc__law_sets [] s__law_sets rfl fun cdv A outer s H vs E hr tk hp =>
    (db_cons (ds_set (i := 4) sc__law_sets.nd rfl (Or.inl rfl) rfl (de_list (da_val (de_list da_nil) da_nil)))
    (db_cons (ds_set (i := 5) sc__law_sets.nd rfl (Or.inl rfl) rfl (de_call c__law_cells tk hr rfl (da_val (de_name (pv 0)) (da_val (de_name (pv 1)) da_nil)) (argN_val (argN_val argN_nil))))
    (db_cons (ds_for hp rfl (di_range1 rfl T.n_range (da_val (de_name (pv 2)) da_nil)) (dg_name (i := 6) sc__law_sets.nd rfl (Or.inl rfl) rfl)
      (db_cons (ds_set (i := 7) sc__law_sets.nd rfl (Or.inl rfl) rfl (de_list da_nil))
    (db_cons (ds_for hp rfl (di_seq (de_name (pv 4))) (dg_name (i := 8) sc__law_sets.nd rfl (Or.inl rfl) rfl)
      (db_one (ds_for hp rfl (di_seq (de_name (pv 5))) (dg_name (i := 9) sc__law_sets.nd rfl (Or.inr rfl) rfl)
      (db_one (ds_if (dw_t (dw_and (dw_t (dw_or (dt_cmp (op_gEq hr.units) (de_callB (cr_gLen) rfl T.n_len rfl (da_val (de_name (pv 8)) da_nil)) de_int (nomark _)) (dw_or1 (dt_cmp (op_gGt hr.units) (de_name (pv 9)) (de_ix ix_gIx (de_name (pv 8)) (de_un un_gNeg de_int) (fun _ _ => rfl)) (nomark _))))) (dw_and1 (dt_cmp (op_gEq hr.units) (de_callB (cr_gLen) rfl T.n_len rfl (da_val (de_lc rfl sc__law_sets.nd (own := [("one", 10)]) (di_seq (de_name (pv 8))) (blkOk_by (by kernel_rfl)) (fun _ _ _ _ _ => (dg_name (i := 10) sc__law_sets.nd rfl (Or.inl rfl) rfl)) (fun _ _ _ _ _ => dts_one (dt_cmp (op_gLt hr.units) (de_call c__law_far takes0 hr rfl (da_val (de_name (pv 10)) (da_val (de_name (pv 9)) da_nil)) (argN_val (argN_val argN_nil))) (de_name (pv 3)) (nomark _))) (fun _ _ _ _ _ => (de_name (pv 10)))) da_nil)) de_int (nomark _)))))
      (db_one (ds_app (i := 7) (pv 7) (de_bin op_gAdd (de_name (pv 8)) (de_list (da_val (de_name (pv 9)) da_nil)))))
      db_nil)))))
    (db_one (ds_set (i := 4) sc__law_sets.nd rfl (Or.inl rfl) rfl (de_name (pv 7)))))))
    (db_one (ds_ret (de_name (pv 4))))))), g, F.kp, F.bindsN fun _ _ _ _ _ _ us hl => match us, hl with | [_, _, _, _], _ => rfl⟩
theorem ok__law_motions (T : Txt K mg) {a : Addr} {fd : FuncData} (F : Fn K "_law_motions" t__law_motions a fd) (g : mg "_law_motions" = some (.ref a))  :
    Cal P w K mg base (tbl K) (0 + 1) "_law_motions" ["rows", "columns", "cells"] (semOf 8 3 [] s__law_motions) :=
  ⟨a, fd, fn_D F sc__law_motions [] s__law_motions rfl fun cdv A outer s H vs E hr tk hp =>
    (db_cons (ds_set (i := 3) sc__law_motions.nd rfl (Or.inl rfl) rfl (de_list da_nil))
    (db_cons (ds_for hp rfl (di_range1 rfl T.n_range (da_val de_int da_nil)) (dg_name (i := 4) sc__law_motions.nd rfl (Or.inr rfl) rfl)
      (db_one (ds_for hp rfl (di_range1 rfl T.n_range (da_val de_int da_nil)) (dg_name (i := 5) sc__law_motions.nd rfl (Or.inr rfl) rfl)
      (db_cons (ds_setLc (i := 6) rfl sc__law_motions.nd rfl rfl rfl (sw_true rfl rfl rfl (by kernel_rfl)) (own := [("cell", 7)]) (di_seq (de_name (pv 2))) (blkOk_by (by kernel_rfl)) (fun _ _ _ _ _ => (dg_name (i := 7) sc__law_motions.nd rfl (Or.inl rfl) rfl)) (fun _ _ _ _ _ => dts_nil) (fun _ _ _ _ _ => (de_tup (da_val (de_if (dt_cmp (op_gEq hr.units) (de_name (pv 4)) de_int (nomark _)) (de_bin op_gSub (de_bin op_gSub (de_name (pv 0)) de_int) (de_ix ix_gIx (de_name (pv 7)) de_int (fun _ _ => rfl))) (de_ix ix_gIx (de_name (pv 7)) de_int (fun _ _ => rfl))) (da_val (de_if (dt_cmp (op_gEq hr.units) (de_name (pv 5)) de_int (nomark _)) (de_bin op_gSub (de_bin op_gSub (de_name (pv 1)) de_int) (de_ix ix_gIx (de_name (pv 7)) de_int (fun _ _ => rfl))) (de_ix ix_gIx (de_name (pv 7)) de_int (fun _ _ => rfl))) da_nil)))))
    (db_cons (ds_app (i := 3) (pv 3) (de_callB (cr_gSorted hr.units) rfl T.n_sorted rfl (da_val (de_name (pv 6)) da_nil)))
    (db_one (ds_if (dt_cmp (op_gEq hr.units) (de_name (pv 0)) (de_name (pv 1)) (nomark _))
      (db_one (ds_app (i := 3) (pv 3) (de_callB (cr_gSorted hr.units) rfl T.n_sorted rfl (da_val (de_lc rfl sc__law_motions.nd (own := [("cell", 7)]) (di_seq (de_name (pv 6))) (blkOk_by (by kernel_rfl)) (fun _ _ _ _ _ => (dg_name (i := 7) sc__law_motions.nd rfl (Or.inl rfl) rfl)) (fun _ _ _ _ _ => dts_nil) (fun _ _ _ _ _ => (de_tup (da_val (de_ix ix_gIx (de_name (pv 7)) de_int (fun _ _ => rfl)) (da_val (de_ix ix_gIx (de_name (pv 7)) de_int (fun _ _ => rfl)) da_nil))))) da_nil))))
      db_nil)))))))
    (db_one (ds_ret (de_move (pv 3)))))), g, F.kp, F.bindsN fun _ _ _ _ _ _ us hl => match us, hl with | [_, _, _], _ => rfl⟩
theorem ok__law_size (T : Txt K mg) {a : Addr} {fd : FuncData} (F : Fn K "_law_size" t__law_size a fd) (g : mg "_law_size" = some (.ref a)) (c__law_draw : Cal P w K mg base (tbl K) 2 "_law_draw" ["draws", "many"] m__law_draw_v1) :
    Cal P w K mg base (tbl K) (2 + 1) "_law_size" ["draws"] (semOf 1 1 [0] s__law_size) :=
  ⟨a, fd, fn_D F sc__law_size [0] s__law_size rfl fun cdv A outer s H vs E hr tk hp =>
    (db_one (ds_ret (de_ix ix_gIx (de_list (da_val (de_tup (da_val de_int (da_val de_int da_nil))) (da_val (de_tup (da_val de_int (da_val de_int da_nil))) (da_val (de_tup (da_val de_int (da_val de_int da_nil))) (da_val (de_tup (da_val de_int (da_val de_int da_nil))) (da_val (de_tup (da_val de_int (da_val de_int da_nil))) (da_val (de_tup (da_val de_int (da_val de_int da_nil))) (da_val (de_tup (da_val de_int (da_val de_int da_nil))) (da_val (de_tup (da_val de_int (da_val de_int da_nil))) (da_val (de_tup (da_val de_int (da_val de_int da_nil))) da_nil)))))))))) (de_call c__law_draw tk hr rfl (da_io (pv 0) (da_val de_int da_nil)) (argN_io (argN_val argN_nil))) (fun _ _ => rfl)))), g, F.kp, F.bindsN fun _ _ _ _ _ _ us hl => match us, hl with | [_], _ => rfl⟩
theorem ok__law_full (T : Txt K mg) {a : Addr} {fd : FuncData} (F : Fn K "_law_full" t__law_full a fd) (g : mg "_law_full" = some (.ref a)) (c__law_cells : Cal P w K mg base (tbl K) 1 "_law_cells" ["rows", "columns"] m__law_cells) (c__law_far : Cal P w K mg base (tbl K) 1 "_law_far" ["one", "other"] m__law_far_v2) :
    Cal P w K mg base (tbl K) (1 + 1) "_law_full" ["rows", "columns", "apart", "cells"] (semOf 7 4 [] s__law_full) :=
  ⟨a, fd, fn_D F sc__law_full [] s__law_full rfl fun cdv A outer s H vs E hr tk hp =>
    (db_cons (ds_for hp rfl (di_range1 rfl T.n_range (da_val (de_callB (cr_gLen) rfl T.n_len rfl (da_val (de_name (pv 3)) da_nil)) da_nil)) (dg_name (i := 4) sc__law_full.nd rfl (Or.inr rfl) rfl)
      (db_one (ds_if (dt_cmp (op_gGt hr.units) (de_callB (cr_gLen) rfl T.n_len rfl (da_val (de_lc rfl sc__law_full.nd (own := [("one", 6)]) (di_seq (de_slice (de_name (pv 3)) do_none (do_some (de_name (pv 4))))) (blkOk_by (by kernel_rfl)) (fun _ _ _ _ _ => (dg_name (i := 6) sc__law_full.nd rfl (Or.inl rfl) rfl)) (fun _ _ _ _ _ => dts_one (dt_cmp (op_gLt hr.units) (de_call c__law_far takes0 hr rfl (da_val (de_name (pv 6)) (da_val (de_ix ix_gIx (de_name (pv 3)) (de_name (pv 4)) (fun _ _ => rfl)) da_nil)) (argN_val (argN_val argN_nil))) (de_name (pv 2)) (nomark _))) (fun _ _ _ _ _ => (de_name (pv 6)))) da_nil)) de_int (nomark _))
      (db_one (ds_ret de_bool))
      db_nil)))
    (db_cons (ds_for hp rfl (di_seq (de_call c__law_cells tk hr rfl (da_val (de_name (pv 0)) (da_val (de_name (pv 1)) da_nil)) (argN_val (argN_val argN_nil)))) (dg_name (i := 5) sc__law_full.nd rfl (Or.inr rfl) rfl)
      (db_one (ds_if (dw_t (dw_and (dt_cmp (op_gNin hr.units) (de_name (pv 5)) (de_name (pv 3)) (by with_unfolding_all rfl)) (dw_and1 (dt_cmp (op_gEq hr.units) (de_callB (cr_gLen) rfl T.n_len rfl (da_val (de_lc rfl sc__law_full.nd (own := [("one", 6)]) (di_seq (de_name (pv 3))) (blkOk_by (by kernel_rfl)) (fun _ _ _ _ _ => (dg_name (i := 6) sc__law_full.nd rfl (Or.inl rfl) rfl)) (fun _ _ _ _ _ => dts_one (dt_cmp (op_gLt hr.units) (de_call c__law_far takes0 hr rfl (da_val (de_name (pv 6)) (da_val (de_name (pv 5)) da_nil)) (argN_val (argN_val argN_nil))) (de_name (pv 2)) (nomark _))) (fun _ _ _ _ _ => (de_name (pv 6)))) da_nil)) de_int (nomark _)))))
      (db_one (ds_ret de_bool))
      db_nil)))
    (db_one (ds_ret de_bool)))), g, F.kp, F.bindsN fun _ _ _ _ _ _ us hl => match us, hl with | [_, _, _, _], _ => rfl⟩
theorem ok_law (T : Txt K mg) {a : Addr} {fd : FuncData} (F : Fn K "law" t_law a fd) (c__law_size : Cal P w K mg base (tbl K) 3 "_law_size" ["draws"] m__law_size) (c__law_numbers : Cal P w K mg base (tbl K) 2 "_law_numbers" ["script"] m__law_numbers) (c__law_draw : Cal P w K mg base (tbl K) 2 "_law_draw" ["draws", "many"] m__law_draw_v1) (c__law_cells : Cal P w K mg base (tbl K) 1 "_law_cells" ["rows", "columns"] m__law_cells) (c__law_sets : Cal P w K mg base (tbl K) 2 "_law_sets" ["rows", "columns", "many", "apart"] m__law_sets) (c__law_equal : Cal P w K mg base (tbl K) 15 "_law_equal" ["actual", "due"] (m__law_equal_v1 14)) (c_most_apart : Cal P w K mg base (tbl K) 19 "most_apart" ["rows", "columns", "apart"] m_most_apart) (c_is_full : Cal P w K mg base (tbl K) 4 "is_full" ["rows", "columns", "apart", "cells"] m_is_full) (c__law_full : Cal P w K mg base (tbl K) 2 "_law_full" ["rows", "columns", "apart", "cells"] m__law_full) (hS : ∀ ns : List Int, ns.length ≤ 63 → ∃ δ', FX.s_law_k77 (some (.fz (.list (ns.map .int))) :: List.replicate 11 none) = .rt (.fz (.bool true)) δ') :
    FnOk P w K mg base CX0 20 a fd ["script"] (spLaw K) :=
  fn_law (tb := tbl K) F sc_law FX.s_law_k77 hS fun cdv A outer s H vs E hr tk hp =>
    (db_cons (ds_set (i := 1) sc_law.nd rfl (Or.inr rfl) rfl (de_list (da_val (de_call c__law_numbers tk hr rfl (da_val (de_name (pv 0)) da_nil) (argN_val argN_nil)) (da_val de_int da_nil))))
    (db_cons (ds_asg (de_call c__law_size tk hr rfl (da_io (pv 1) da_nil) (argN_io argN_nil)) (dg_tup (is := [7, 8]) (n := 0) rfl (pgs_cons (pg_name (i := 7) sc_law.nd rfl (Or.inr rfl)) (pgs_cons (pg_name (i := 8) sc_law.nd rfl (Or.inr rfl)) pgs_nil)) rfl))
    (db_cons (ds_set (i := 2) sc_law.nd rfl (Or.inl rfl) rfl (de_ix ix_gIx (de_list (da_val de_int (da_val de_int (da_val de_int (da_val de_int (da_val de_int (da_val de_int (da_val de_int da_nil)))))))) (de_call c__law_draw tk hr rfl (da_io (pv 1) (da_val de_int da_nil)) (argN_io (argN_val argN_nil))) (fun _ _ => rfl)))
    (db_cons (ds_set (i := 3) sc_law.nd rfl (Or.inl rfl) rfl (de_tup (da_val (de_bin op_gMul (de_name (pv 7)) (de_name (pv 8))) (da_val (de_call c__law_cells tk hr rfl (da_val (de_name (pv 7)) (da_val (de_name (pv 8)) da_nil)) (argN_val (argN_val argN_nil))) da_nil))))
    (db_cons (ds_if (dt_cmp (op_gGt hr.units) (de_name (pv 2)) de_int (nomark _))
      (db_cons (ds_set (i := 9) sc_law.nd rfl (Or.inl rfl) rfl de_int)
    (db_cons (ds_set (i := 10) sc_law.nd rfl (Or.inl rfl) rfl (de_call c__law_sets tk hr rfl (da_val (de_name (pv 7)) (da_val (de_name (pv 8)) (da_val (de_name (pv 9)) (da_val (de_name (pv 2)) da_nil)))) (argN_val (argN_val (argN_val (argN_val argN_nil))))))
    (db_one (ds_while hp (dt_cmp (op_gGt hr.units) (de_callB (cr_gLen) rfl T.n_len rfl (da_val (de_name (pv 10)) da_nil)) de_int (nomark _))
      (db_cons (ds_set (i := 3) sc_law.nd rfl (Or.inl rfl) rfl (de_tup (da_val (de_name (pv 9)) (da_val (de_ix ix_gIx (de_name (pv 10)) de_int (fun _ _ => rfl)) da_nil))))
    (db_cons (ds_set (i := 9) sc_law.nd rfl (Or.inl rfl) rfl (de_bin op_gAdd (de_name (pv 9)) de_int))
    (db_one (ds_set (i := 10) sc_law.nd rfl (Or.inl rfl) rfl (de_call c__law_sets tk hr rfl (da_val (de_name (pv 7)) (da_val (de_name (pv 8)) (da_val (de_name (pv 9)) (da_val (de_name (pv 2)) da_nil)))) (argN_val (argN_val (argN_val (argN_val argN_nil)))))))))))))
      db_nil)
    (db_cons (ds_if (dt_not (dt_tru (de_call c__law_equal tk hr rfl (da_val (de_call c_most_apart tk hr rfl (da_val (de_name (pv 7)) (da_val (de_name (pv 8)) (da_val (de_name (pv 2)) da_nil))) (argN_val (argN_val (argN_val argN_nil)))) (da_val (de_name (pv 3)) da_nil)) (argN_val (argN_val argN_nil)))))
      (db_one (ds_ret de_bool))
      db_nil)
    (db_cons (ds_set (i := 4) sc_law.nd rfl (Or.inl rfl) rfl (de_sortSet rfl hr.units rfl T.n_sorted rfl T.n_set (de_lc rfl sc_law.nd (own := [("k", 11)]) (di_range1 rfl T.n_range (da_val (de_bin op_gAdd de_int (de_call c__law_draw tk hr rfl (da_io (pv 1) (da_val de_int da_nil)) (argN_io (argN_val argN_nil)))) da_nil)) (blkOk_by (by kernel_rfl)) (fun _ _ _ _ _ => (dg_name (i := 11) sc_law.nd rfl (Or.inl rfl) rfl)) (fun _ _ _ _ _ => dts_nil) (fun _ _ _ _ _ => (de_ix ix_gIx (de_call c__law_cells takes0 hr rfl (da_val (de_name (pv 7)) (da_val (de_name (pv 8)) da_nil)) (argN_val (argN_val argN_nil))) (de_call c__law_draw takes0 hr rfl (da_io (pv 1) (da_val (de_bin op_gMul (de_name (pv 7)) (de_name (pv 8))) da_nil)) (argN_io (argN_val argN_nil))) (fun _ _ => rfl))))))
    (db_cons (ds_for hp rfl (di_seq (de_list (da_val (de_name (pv 4)) (da_val (de_ix ix_gIx (de_name (pv 3)) de_int (fun _ _ => rfl)) (da_val (de_if (dt_cmp (op_gGt hr.units) (de_ix ix_gIx (de_name (pv 3)) de_int (fun _ _ => rfl)) de_int (nomark _)) (de_slice (de_ix ix_gIx (de_name (pv 3)) de_int (fun _ _ => rfl)) (do_some de_int) do_none) (de_ix ix_gIx (de_name (pv 3)) de_int (fun _ _ => rfl))) da_nil))))) (dg_name (i := 5) sc_law.nd rfl (Or.inl rfl) rfl)
      (db_one (ds_if (dt_not (dt_tru (de_call c__law_equal tk hr rfl (da_val (de_call c_is_full tk hr rfl (da_val (de_name (pv 7)) (da_val (de_name (pv 8)) (da_val (de_name (pv 2)) (da_val (de_name (pv 5)) da_nil)))) (argN_val (argN_val (argN_val (argN_val argN_nil))))) (da_val (de_call c__law_full tk hr rfl (da_val (de_name (pv 7)) (da_val (de_name (pv 8)) (da_val (de_name (pv 2)) (da_val (de_name (pv 5)) da_nil)))) (argN_val (argN_val (argN_val (argN_val argN_nil))))) da_nil)) (argN_val (argN_val argN_nil)))))
      (db_one (ds_ret de_bool))
      db_nil)))
    (db_cons (ds_for hp rfl (di_seq (de_list (da_val (de_list da_nil) (da_val (de_list (da_val (de_tup (da_val de_int (da_val de_int da_nil))) (da_val (de_tup (da_val de_int (da_val de_int da_nil))) da_nil))) (da_val de_none (da_val (de_list (da_val (de_tup (da_val de_int (da_val de_int da_nil))) da_nil)) da_nil)))))) (dg_name (i := 6) sc_law.nd rfl (Or.inl rfl) rfl)
      (db_one (ds_try (fun n q hq => (List.mem_cons.mp hq).elim (fun e => by rw [e]; exact T.sub_BadArgument n) fun hq => nomatch hq) rfl rfl tk (fun W pn xe tk hp => (db_cons (ds_expr (de_call c_is_full tk hr rfl (da_val (de_name (pv 7)) (da_val (de_name (pv 8)) (da_val (de_name (pv 2)) (da_val (de_name (pv 6)) da_nil)))) (argN_val (argN_val (argN_val (argN_val argN_nil))))))
    (db_one (ds_ret de_bool)))) (HdsD.cons (c := 2) (Names.exc T.e_BadArgument rfl) (fun a pn => (db_one ds_pass)) HdsD.nil))))
    (db_one (ds_ret de_bool)))))))))))
end
def fn : List He.DefD := [⟨("is_number", none), "is_number", "is_number", defArgs t_is_number, defBody t_is_number, defScope t_is_number, [], []⟩, ⟨("check_number", none), "check_number", "check_number", defArgs t_check_number, defBody t_check_number, defScope t_check_number, [], []⟩, ⟨("check_grid", none), "check_grid", "check_grid", defArgs t_check_grid, defBody t_check_grid, defScope t_check_grid, [], []⟩, ⟨("is_cell", none), "is_cell", "is_cell", defArgs t_is_cell, defBody t_is_cell, defScope t_is_cell, [], []⟩, ⟨("check_cells", none), "check_cells", "check_cells", defArgs t_check_cells, defBody t_check_cells, defScope t_check_cells, [], []⟩, ⟨("are_apart", none), "are_apart", "are_apart", defArgs t_are_apart, defBody t_are_apart, defScope t_are_apart, [], []⟩, ⟨("cells_of", none), "cells_of", "cells_of", defArgs t_cells_of, defBody t_cells_of, defScope t_cells_of, [], []⟩, ⟨("far_enough", none), "far_enough", "far_enough", defArgs t_far_enough, defBody t_far_enough, defScope t_far_enough, [], []⟩, ⟨("Most", some "__init__"), "__init__", "Most.__init__", defArgs t_Most_init, defBody t_Most_init, defScope t_Most_init, [], []⟩, ⟨("Most", some "go_on"), "go_on", "Most.go_on", defArgs t_Most_go_on, defBody t_Most_go_on, defScope t_Most_go_on, [], []⟩, ⟨("most_apart", none), "most_apart", "most_apart", defArgs t_most_apart, defBody t_most_apart, defScope t_most_apart, [], []⟩, ⟨("is_full", none), "is_full", "is_full", defArgs t_is_full, defBody t_is_full, defScope t_is_full, [], []⟩, ⟨("_law_mixed", none), "_law_mixed", "_law_mixed", defArgs t__law_mixed, defBody t__law_mixed, defScope t__law_mixed, [], []⟩, ⟨("_law_numbers", none), "_law_numbers", "_law_numbers", defArgs t__law_numbers, defBody t__law_numbers, defScope t__law_numbers, [], []⟩, ⟨("_law_draw", none), "_law_draw", "_law_draw", defArgs t__law_draw, defBody t__law_draw, defScope t__law_draw, [], []⟩, ⟨("_law_equal", none), "_law_equal", "_law_equal", defArgs t__law_equal, defBody t__law_equal, defScope t__law_equal, [], []⟩, ⟨("_law_all_equal", none), "_law_all_equal", "_law_all_equal", defArgs t__law_all_equal, defBody t__law_all_equal, defScope t__law_all_equal, [], []⟩, ⟨("_law_cells", none), "_law_cells", "_law_cells", defArgs t__law_cells, defBody t__law_cells, defScope t__law_cells, [], []⟩, ⟨("_law_far", none), "_law_far", "_law_far", defArgs t__law_far, defBody t__law_far, defScope t__law_far, [], []⟩, ⟨("_law_sets", none), "_law_sets", "_law_sets", defArgs t__law_sets, defBody t__law_sets, defScope t__law_sets, [], []⟩, ⟨("_law_motions", none), "_law_motions", "_law_motions", defArgs t__law_motions, defBody t__law_motions, defScope t__law_motions, [], []⟩, ⟨("_law_size", none), "_law_size", "_law_size", defArgs t__law_size, defBody t__law_size, defScope t__law_size, [], []⟩, ⟨("_law_full", none), "_law_full", "_law_full", defArgs t__law_full, defBody t__law_full, defScope t__law_full, [], []⟩, ⟨("law", none), "law", "law", defArgs t_law, defBody t_law, defScope t_law, [], []⟩]
def fa : List He.Fa := [.glo "is_number", .glo "check_number", .glo "check_grid", .glo "is_cell", .glo "check_cells", .glo "are_apart", .glo "cells_of", .glo "far_enough", .glo "most_apart", .glo "is_full", .glo "_law_mixed", .glo "_law_numbers", .glo "_law_draw", .glo "_law_equal", .glo "_law_all_equal", .glo "_law_cells", .glo "_law_far", .glo "_law_sets", .glo "_law_motions", .glo "_law_size", .glo "_law_full", .glo "law", .glo "Most", .cls "Most", .mkr "Most", .meth "Most" "go_on", .noat "Most" "apart", .noat "Most" "best", .free "bool", .free "int", .free "isinstance", .free "len", .free "list", .free "range", .free "set", .free "sorted", .free "str", .free "tuple", .exc "ShowError", .glo "ShowError", .exc "BadArgument", .glo "BadArgument", .exm "ShowError" "BadArgument" false, .exm "BadArgument" "BadArgument" true, .exm "Most" "BadArgument" false]
theorem txt {K : PySem.W.Frag} {h : Heap} {mg : Str → Option Value} (X : K.In h) (G : h.Ns mainGlobals mg) (c : He.SaysD fa fn K) : Txt K mg where
  n_bool := He.free_ok X G (c.fact 28 (f := .free "bool") rfl)
  n_int := He.free_ok X G (c.fact 29 (f := .free "int") rfl)
  n_isinstance := He.free_ok X G (c.fact 30 (f := .free "isinstance") rfl)
  n_len := He.free_ok X G (c.fact 31 (f := .free "len") rfl)
  n_list := He.free_ok X G (c.fact 32 (f := .free "list") rfl)
  n_range := He.free_ok X G (c.fact 33 (f := .free "range") rfl)
  n_set := He.free_ok X G (c.fact 34 (f := .free "set") rfl)
  n_sorted := He.free_ok X G (c.fact 35 (f := .free "sorted") rfl)
  n_str := He.free_ok X G (c.fact 36 (f := .free "str") rfl)
  n_tuple := He.free_ok X G (c.fact 37 (f := .free "tuple") rfl)
  e_ShowError := (fun ⟨a1, a2, a3, a4⟩ => ⟨a1, He.glo_ok X G (c.fact 39 (f := .glo "ShowError") rfl), a2, a3, a4⟩) (He.exc_ok (c.fact 38 (f := .exc "ShowError") rfl))
  e_BadArgument := (fun ⟨a1, a2, a3, a4⟩ => ⟨a1, He.glo_ok X G (c.fact 41 (f := .glo "BadArgument") rfl), a2, a3, a4⟩) (He.exc_ok (c.fact 40 (f := .exc "BadArgument") rfl))
  k_Most := He.cls_ok (c.fact 23 (f := .cls "Most") rfl)
  a_Most_apart := He.noat_ok (c.fact 26 (f := .noat "Most" "apart") rfl)
  a_Most_best := He.noat_ok (c.fact 27 (f := .noat "Most" "best") rfl)
  sub_BadArgument := fun n => match n with
    | 0 => He.exm_ok (c.fact 42 (f := .exm "ShowError" "BadArgument" false) rfl)
    | 1 => He.exm_ok (c.fact 42 (f := .exm "ShowError" "BadArgument" false) rfl)
    | 2 => He.exm_ok (c.fact 43 (f := .exm "BadArgument" "BadArgument" true) rfl)
    | 3 => He.exm_ok (c.fact 42 (f := .exm "ShowError" "BadArgument" false) rfl)
    | 4 => He.exm_ok (c.fact 42 (f := .exm "ShowError" "BadArgument" false) rfl)
    | 5 => He.exm_ok (c.fact 42 (f := .exm "ShowError" "BadArgument" false) rfl)
    | 6 => He.exm_ok (c.fact 42 (f := .exm "ShowError" "BadArgument" false) rfl)
    | 7 => He.exm_ok (c.fact 42 (f := .exm "ShowError" "BadArgument" false) rfl)
    | 8 => He.exm_ok (c.fact 42 (f := .exm "ShowError" "BadArgument" false) rfl)
    | 9 => He.exm_ok (c.fact 42 (f := .exm "ShowError" "BadArgument" false) rfl)
    | 10 => He.exm_ok (c.fact 42 (f := .exm "ShowError" "BadArgument" false) rfl)
    | 11 => He.exm_ok (c.fact 42 (f := .exm "ShowError" "BadArgument" false) rfl)
    | 12 => He.exm_ok (c.fact 42 (f := .exm "ShowError" "BadArgument" false) rfl)
    | 13 => He.exm_ok (c.fact 42 (f := .exm "ShowError" "BadArgument" false) rfl)
    | 14 => He.exm_ok (c.fact 42 (f := .exm "ShowError" "BadArgument" false) rfl)
    | 15 => He.exm_ok (c.fact 44 (f := .exm "Most" "BadArgument" false) rfl)
    | 16 => He.exm_ok (c.fact 42 (f := .exm "ShowError" "BadArgument" false) rfl)
    | 17 => He.exm_ok (c.fact 42 (f := .exm "ShowError" "BadArgument" false) rfl)
    | 18 => He.exm_ok (c.fact 42 (f := .exm "ShowError" "BadArgument" false) rfl)
    | 19 => He.exm_ok (c.fact 42 (f := .exm "ShowError" "BadArgument" false) rfl)
    | _ + 20 => He.exm_ok (c.fact 42 (f := .exm "ShowError" "BadArgument" false) rfl)
abbrev R : PySem.W.OpenRow := PySem.W.OpenLaw.row PySem.Challenge.rw_fieldshow_k77_whole_as_many_as_can_be
abbrev hk : PySem.W.Hook := He.hookD 4 fa fn
def ob (s : PySem.W.SharedT) : He.AlD := He.obsDG 4 fa fn (HandSHeadRun.getT s)
theorem ob_eq (s : PySem.W.SharedT) : ob s = hk.obs s.abs := He.obsDG_eq (HandSHeadRun.getT_eq s)
def loose : List Str := (["ShowError", "BadArgument", "is_number", "check_number", "check_grid", "is_cell", "check_cells", "are_apart", "cells_of", "far_enough", "Most", "most_apart", "is_full", "_law_mixed", "_law_numbers", "_law_draw", "_law_equal", "_law_all_equal", "_law_cells", "_law_far", "_law_sets", "_law_motions", "_law_size", "_law_full"] : List Str)
theorem run (w : World) : HandSHeadRun.RunEq R (PySem.W.view R.prog [28]) hk ob 20000 loose w := by
  intro os
  kernel_rfl
theorem facts (hS : ∀ ns : List Int, ns.length ≤ 63 → ∃ δ', FX.s_law_k77 (some (.fz (.list (ns.map .int))) :: List.replicate 11 none) = .rt (.fz (.bool true)) δ')
    {P : Program} {w : World} {K : PySem.W.Frag} {h : Heap} {mg : Str → Option Value} {f : Addr} (X : K.In h) (G : h.Ns mainGlobals mg) (hfa : mg ("law" : Str) = some (.ref f)) (c : He.SaysD fa fn K) :
    ∃ fd : FuncData, (∀ (s : Shared) (v : Value), BindsTo s fd ⟨[v], []⟩ [("script", v)]) ∧ ∀ base : Heap, K.In base → base.Ns mainGlobals mg → FnOk P w K mg base CX0 20 f fd ["script"] (spLaw K) := by
  have T := txt X G c
  obtain ⟨fd_is_number, F_is_number⟩ := c.def_ 0 (d := ⟨("is_number", none), "is_number", "is_number", defArgs t_is_number, defBody t_is_number, defScope t_is_number, [], []⟩) rfl
  have g_is_number := He.glo_ok X G (c.fact 0 (f := .glo "is_number") rfl)
  obtain ⟨fd_check_number, F_check_number⟩ := c.def_ 1 (d := ⟨("check_number", none), "check_number", "check_number", defArgs t_check_number, defBody t_check_number, defScope t_check_number, [], []⟩) rfl
  have g_check_number := He.glo_ok X G (c.fact 1 (f := .glo "check_number") rfl)
  obtain ⟨fd_check_grid, F_check_grid⟩ := c.def_ 2 (d := ⟨("check_grid", none), "check_grid", "check_grid", defArgs t_check_grid, defBody t_check_grid, defScope t_check_grid, [], []⟩) rfl
  have g_check_grid := He.glo_ok X G (c.fact 2 (f := .glo "check_grid") rfl)
  obtain ⟨fd_is_cell, F_is_cell⟩ := c.def_ 3 (d := ⟨("is_cell", none), "is_cell", "is_cell", defArgs t_is_cell, defBody t_is_cell, defScope t_is_cell, [], []⟩) rfl
  have g_is_cell := He.glo_ok X G (c.fact 3 (f := .glo "is_cell") rfl)
  obtain ⟨fd_check_cells, F_check_cells⟩ := c.def_ 4 (d := ⟨("check_cells", none), "check_cells", "check_cells", defArgs t_check_cells, defBody t_check_cells, defScope t_check_cells, [], []⟩) rfl
  have g_check_cells := He.glo_ok X G (c.fact 4 (f := .glo "check_cells") rfl)
  obtain ⟨fd_are_apart, F_are_apart⟩ := c.def_ 5 (d := ⟨("are_apart", none), "are_apart", "are_apart", defArgs t_are_apart, defBody t_are_apart, defScope t_are_apart, [], []⟩) rfl
  have g_are_apart := He.glo_ok X G (c.fact 5 (f := .glo "are_apart") rfl)
  obtain ⟨fd_cells_of, F_cells_of⟩ := c.def_ 6 (d := ⟨("cells_of", none), "cells_of", "cells_of", defArgs t_cells_of, defBody t_cells_of, defScope t_cells_of, [], []⟩) rfl
  have g_cells_of := He.glo_ok X G (c.fact 6 (f := .glo "cells_of") rfl)
  obtain ⟨fd_far_enough, F_far_enough⟩ := c.def_ 7 (d := ⟨("far_enough", none), "far_enough", "far_enough", defArgs t_far_enough, defBody t_far_enough, defScope t_far_enough, [], []⟩) rfl
  have g_far_enough := He.glo_ok X G (c.fact 7 (f := .glo "far_enough") rfl)
  obtain ⟨fd_Most_init, F_Most_init⟩ := c.def_ 8 (d := ⟨("Most", some "__init__"), "__init__", "Most.__init__", defArgs t_Most_init, defBody t_Most_init, defScope t_Most_init, [], []⟩) rfl
  have g_Most_init := And.intro (He.mkr_ok (c.fact 24 (f := .mkr "Most") rfl)) (He.glo_ok X G (c.fact 22 (f := .glo "Most") rfl))
  obtain ⟨fd_Most_go_on, F_Most_go_on⟩ := c.def_ 9 (d := ⟨("Most", some "go_on"), "go_on", "Most.go_on", defArgs t_Most_go_on, defBody t_Most_go_on, defScope t_Most_go_on, [], []⟩) rfl
  have g_Most_go_on := He.meth_ok (c.fact 25 (f := .meth "Most" "go_on") rfl)
  obtain ⟨fd_most_apart, F_most_apart⟩ := c.def_ 10 (d := ⟨("most_apart", none), "most_apart", "most_apart", defArgs t_most_apart, defBody t_most_apart, defScope t_most_apart, [], []⟩) rfl
  have g_most_apart := He.glo_ok X G (c.fact 8 (f := .glo "most_apart") rfl)
  obtain ⟨fd_is_full, F_is_full⟩ := c.def_ 11 (d := ⟨("is_full", none), "is_full", "is_full", defArgs t_is_full, defBody t_is_full, defScope t_is_full, [], []⟩) rfl
  have g_is_full := He.glo_ok X G (c.fact 9 (f := .glo "is_full") rfl)
  obtain ⟨fd__law_mixed, F__law_mixed⟩ := c.def_ 12 (d := ⟨("_law_mixed", none), "_law_mixed", "_law_mixed", defArgs t__law_mixed, defBody t__law_mixed, defScope t__law_mixed, [], []⟩) rfl
  have g__law_mixed := He.glo_ok X G (c.fact 10 (f := .glo "_law_mixed") rfl)
  obtain ⟨fd__law_numbers, F__law_numbers⟩ := c.def_ 13 (d := ⟨("_law_numbers", none), "_law_numbers", "_law_numbers", defArgs t__law_numbers, defBody t__law_numbers, defScope t__law_numbers, [], []⟩) rfl
  have g__law_numbers := He.glo_ok X G (c.fact 11 (f := .glo "_law_numbers") rfl)
  obtain ⟨fd__law_draw, F__law_draw⟩ := c.def_ 14 (d := ⟨("_law_draw", none), "_law_draw", "_law_draw", defArgs t__law_draw, defBody t__law_draw, defScope t__law_draw, [], []⟩) rfl
  have g__law_draw := He.glo_ok X G (c.fact 12 (f := .glo "_law_draw") rfl)
  obtain ⟨fd__law_equal, F__law_equal⟩ := c.def_ 15 (d := ⟨("_law_equal", none), "_law_equal", "_law_equal", defArgs t__law_equal, defBody t__law_equal, defScope t__law_equal, [], []⟩) rfl
  have g__law_equal := He.glo_ok X G (c.fact 13 (f := .glo "_law_equal") rfl)
  obtain ⟨fd__law_all_equal, F__law_all_equal⟩ := c.def_ 16 (d := ⟨("_law_all_equal", none), "_law_all_equal", "_law_all_equal", defArgs t__law_all_equal, defBody t__law_all_equal, defScope t__law_all_equal, [], []⟩) rfl
  have g__law_all_equal := He.glo_ok X G (c.fact 14 (f := .glo "_law_all_equal") rfl)
  obtain ⟨fd__law_cells, F__law_cells⟩ := c.def_ 17 (d := ⟨("_law_cells", none), "_law_cells", "_law_cells", defArgs t__law_cells, defBody t__law_cells, defScope t__law_cells, [], []⟩) rfl
  have g__law_cells := He.glo_ok X G (c.fact 15 (f := .glo "_law_cells") rfl)
  obtain ⟨fd__law_far, F__law_far⟩ := c.def_ 18 (d := ⟨("_law_far", none), "_law_far", "_law_far", defArgs t__law_far, defBody t__law_far, defScope t__law_far, [], []⟩) rfl
  have g__law_far := He.glo_ok X G (c.fact 16 (f := .glo "_law_far") rfl)
  obtain ⟨fd__law_sets, F__law_sets⟩ := c.def_ 19 (d := ⟨("_law_sets", none), "_law_sets", "_law_sets", defArgs t__law_sets, defBody t__law_sets, defScope t__law_sets, [], []⟩) rfl
  have g__law_sets := He.glo_ok X G (c.fact 17 (f := .glo "_law_sets") rfl)
  obtain ⟨fd__law_motions, F__law_motions⟩ := c.def_ 20 (d := ⟨("_law_motions", none), "_law_motions", "_law_motions", defArgs t__law_motions, defBody t__law_motions, defScope t__law_motions, [], []⟩) rfl
  have g__law_motions := He.glo_ok X G (c.fact 18 (f := .glo "_law_motions") rfl)
  obtain ⟨fd__law_size, F__law_size⟩ := c.def_ 21 (d := ⟨("_law_size", none), "_law_size", "_law_size", defArgs t__law_size, defBody t__law_size, defScope t__law_size, [], []⟩) rfl
  have g__law_size := He.glo_ok X G (c.fact 19 (f := .glo "_law_size") rfl)
  obtain ⟨fd__law_full, F__law_full⟩ := c.def_ 22 (d := ⟨("_law_full", none), "_law_full", "_law_full", defArgs t__law_full, defBody t__law_full, defScope t__law_full, [], []⟩) rfl
  have g__law_full := He.glo_ok X G (c.fact 20 (f := .glo "_law_full") rfl)
  obtain ⟨fd_law, F_law⟩ := c.def_ 23 (d := ⟨("law", none), "law", "law", defArgs t_law, defBody t_law, defScope t_law, [], []⟩) rfl
  have g_law := He.glo_ok X G (c.fact 21 (f := .glo "law") rfl)
  have e := hfa.symm.trans g_law
  cases e
  have b := FunD.bindsA (ps := ["script"]) F_law fun _ _ _ _ _ _ us hl => match us, hl with | [_], _ => rfl
  refine ⟨fd_law, fun s v => b s [v] rfl, fun base _ _ => ?_⟩
  have c_is_number : Cal P w K mg base (tbl K) 1 "is_number" ["value", "low", "high"] m_is_number := ok_is_number T F_is_number g_is_number 
  have c_check_number : Cal P w K mg base (tbl K) 2 "check_number" ["value", "low", "high"] m_check_number := ok_check_number T F_check_number g_check_number c_is_number
  have c_check_grid : Cal P w K mg base (tbl K) 3 "check_grid" ["rows", "columns"] m_check_grid := ok_check_grid T F_check_grid g_check_grid c_check_number
  have c_is_cell : Cal P w K mg base (tbl K) 2 "is_cell" ["value", "rows", "columns"] m_is_cell := ok_is_cell T F_is_cell g_is_cell c_is_number
  have c_check_cells : Cal P w K mg base (tbl K) 3 "check_cells" ["cells", "rows", "columns"] m_check_cells := ok_check_cells T F_check_cells g_check_cells c_is_cell
  have c_are_apart : Cal P w K mg base (tbl K) 1 "are_apart" ["one", "other", "apart"] m_are_apart := ok_are_apart T F_are_apart g_are_apart 
  have c_cells_of : Cal P w K mg base (tbl K) 1 "cells_of" ["rows", "columns"] m_cells_of := ok_cells_of T F_cells_of g_cells_of 
  have c_far_enough : Cal P w K mg base (tbl K) 2 "far_enough" ["cells", "apart"] m_far_enough := ok_far_enough T F_far_enough g_far_enough c_are_apart
  have c0_Most_go_on := okR_Most_go_on (P := P) (w := w) (base := base) T F_Most_go_on g_Most_go_on c_are_apart 14
  have c_Most_go_on : CalM P w K mg base (tbl K) 16 15 "go_on" ["self", "chosen", "left"] (m_Most_go_on 14) := CalM.mono c0_Most_go_on (by decide)
  have c_Most_init : CalI P w K mg base (tbl K) 17 15 "Most" ["self", "rows", "columns", "apart"] m_Most_init := ok_Most_init T F_Most_init g_Most_init c_Most_go_on c_cells_of
  have c_most_apart : Cal P w K mg base (tbl K) 19 "most_apart" ["rows", "columns", "apart"] m_most_apart := ok_most_apart T F_most_apart g_most_apart c_check_grid c_check_number c_Most_init
  have c_is_full : Cal P w K mg base (tbl K) 4 "is_full" ["rows", "columns", "apart", "cells"] m_is_full := ok_is_full T F_is_full g_is_full c_check_grid c_check_number c_check_cells c_cells_of c_far_enough c_are_apart
  have c__law_mixed : Cal P w K mg base (tbl K) 1 "_law_mixed" ["number", "k"] m__law_mixed := ok__law_mixed T F__law_mixed g__law_mixed 
  have c__law_numbers : Cal P w K mg base (tbl K) 2 "_law_numbers" ["script"] m__law_numbers := ok__law_numbers T F__law_numbers g__law_numbers c__law_mixed
  have c__law_draw : Cal P w K mg base (tbl K) 2 "_law_draw" ["draws", "many"] m__law_draw_v1 := ok__law_draw T F__law_draw g__law_draw c__law_mixed
  obtain ⟨c0__law_equal, c0__law_all_equal⟩ := okR__law_equal (P := P) (w := w) (base := base) T F__law_equal g__law_equal F__law_all_equal g__law_all_equal  14
  have c__law_equal : Cal P w K mg base (tbl K) 15 "_law_equal" ["actual", "due"] (m__law_equal_v1 14) := Cal.mono c0__law_equal (by decide)
  have c__law_all_equal : Cal P w K mg base (tbl K) 15 "_law_all_equal" ["actual", "due"] (m__law_all_equal_v1 14) := Cal.mono c0__law_all_equal (by decide)
  have c__law_cells : Cal P w K mg base (tbl K) 1 "_law_cells" ["rows", "columns"] m__law_cells := ok__law_cells T F__law_cells g__law_cells 
  have c__law_far : Cal P w K mg base (tbl K) 1 "_law_far" ["one", "other"] m__law_far_v2 := ok__law_far T F__law_far g__law_far 
  have c__law_sets : Cal P w K mg base (tbl K) 2 "_law_sets" ["rows", "columns", "many", "apart"] m__law_sets := ok__law_sets T F__law_sets g__law_sets c__law_cells c__law_far
  have c__law_motions : Cal P w K mg base (tbl K) 1 "_law_motions" ["rows", "columns", "cells"] m__law_motions := ok__law_motions T F__law_motions g__law_motions 
  have c__law_size : Cal P w K mg base (tbl K) 3 "_law_size" ["draws"] m__law_size := ok__law_size T F__law_size g__law_size c__law_draw
  have c__law_full : Cal P w K mg base (tbl K) 2 "_law_full" ["rows", "columns", "apart", "cells"] m__law_full := ok__law_full T F__law_full g__law_full c__law_cells c__law_far
  exact ok_law T F_law c__law_size c__law_numbers c__law_draw c__law_cells c__law_sets c__law_equal c_most_apart c_is_full c__law_full hS
end K77
open PySem PySem.W PySem.Calls PyProof.Rows in
theorem K77.holds_of (hS : ∀ ns : List Int, ns.length ≤ 63 → ∃ δ', FX.s_law_k77 (some (.fz (.list (ns.map .int))) :: List.replicate 11 none) = .rt (.fz (.bool true)) δ') : PySem.Challenge.rw_fieldshow_k77_whole_as_many_as_can_be.Holds := by
  w_on; o_law
  refine HandSHeadRun.head_any (r := OpenLaw.row PySem.Challenge.rw_fieldshow_k77_whole_as_many_as_can_be) (q := view (OpenLaw.row PySem.Challenge.rw_fieldshow_k77_whole_as_many_as_can_be).prog [28]) (H := K77.hk) (ob := K77.ob) (M := 20000) (loose := K77.loose) (d := HandSHeadRun.topDef (OpenLaw.row PySem.Challenge.rw_fieldshow_k77_whole_as_many_as_can_be).prog 28) (kwd := []) K77.ob_eq
    (by kernel_rfl) (fun s => by kernel_rfl) K77.run (by kernel_rfl) (by kernel_rfl) (by kernel_rfl) (by rfl) (by first | assumption | decide +kernel) (by decide +kernel) ⟨rfl, rfl, rfl, rfl, rfl, by decide +kernel⟩ ?hw ?hc
  case hw => w_witness2
  case hc =>
    refine L2.walk_ofE (l := PySem.Challenge.rw_fieldshow_k77_whole_as_many_as_can_be) (n := 63) (k := 20) (x := "script") (CX := L2.CX0) rfl (by decide) (by kernel_rfl) ⟨rfl, by decide, by decide⟩ ?F (fun _ _ _ _ z => z)
    intro w mg fa h Y G hmg0
    obtain ⟨K, KX, c⟩ := Y
    have hmg : mg ("law" : PySem.Str) = some (.ref fa) := by
      have e : (HandSHeadRun.topDef (OpenLaw.row PySem.Challenge.rw_fieldshow_k77_whole_as_many_as_can_be).prog 28).name = ("law" : PySem.Str) := by kernel_rfl
      rw [← e]
      exact hmg0
    obtain ⟨fd, hb, hF⟩ := K77.facts hS (P := (PySem.Challenge.rw_fieldshow_k77_whole_as_many_as_can_be).prog) (w := w) KX G hmg c
    exact ⟨K, fd, FS.spLaw K, KX, hb, fun H a ns hl _ hS => ⟨a, ns, rfl, hl, hS, fun _ => rfl⟩, hF⟩
theorem PySem.Challenge.cw_fieldshow_k77_whole_as_many_as_can_be_holds : PySem.Challenge.rw_fieldshow_k77_whole_as_many_as_can_be.Holds := by
  exact K77.holds_of MX.k77
