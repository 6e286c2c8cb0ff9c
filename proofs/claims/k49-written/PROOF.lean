import PyProof.Rows.All
import Wide.All
import OpenK.AllK
import Wide.FinOn
import HandS.ForMost
import HandS.Exc
import HandS.ExcInit
import HandS.ExcOwn
import HandS.TryOnly
import HandS.TryMany
import HandS.Wide
import HandS.TupAny
import PyProof.StrBlock2
import HandS.Text
import HandS.Deep
import HandS.IsInst
import HandS.Conv
import HandS.SortInts
import HandS.TupLen
import HandS.Iter
import KE.GoesEnum
import HandS.Comp
import HandS.Small
import HandS.ExcIs
import HandS.ExcField
import HandS.DictTup
import HandS.Rev
import HandS.TupLe
import HandS.TupSets
import HandS.SortOrd
import HandS.More
import HandS.Style
import HandS.RevTup
import PyProof.ListRange
import KE.KDictList
import KE.SortKeyHeap
import HandS.SetFor
import HandS.Strs
import HandS.RaiseMore
import HandS.WordsExc
import HandS.Ends
import HandS.HeadHook3
import PySem.Challenge.RW_yesterpost_k49_written
set_option Elab.async false
set_option linter.all false
set_option maxRecDepth 100000
set_option maxHeartbeats 4000000
/-! VM1: data trees, how the heap bears them, the relation of a frame. -/
namespace VM
open PySem L2

/-- data as a whole -/
inductive D where
  | non
  | bl (b : Bool)
  | int (i : Int)
  | str (s : Str)
  | tup (xs : List D)
  | ktup (xs : List D)
  | lst (xs : List D)
  | scr (ns : List Int)
  | dic (ks : List Key) (vs : List D)
  | dct (ks : List (List Key)) (vs : List D)
  | obj (C : Addr) (ns : List Str) (vs : List D)

/-- an answer: a value, an exception of an own class with its fields, or nothing that is told -/
inductive R (α : Type) where
  | ok (a : α)
  | exc (c : Str) (fs : List (Str × D))
  | bad

def R.bind {α β : Type} (x : R α) (f : α → R β) : R β := match x with
  | .ok a => f a
  | .exc c fs => .exc c fs
  | .bad => .bad
instance : Monad R where
  pure := R.ok
  bind := R.bind
theorem R.bind_ok {α β : Type} (a : α) (f : α → R β) : (R.ok a >>= f) = f a := rfl
theorem R.bind_exc {α β : Type} (c : Str) (fs : List (Str × D)) (f : α → R β) : ((R.exc c fs : R α) >>= f) = R.exc c fs := rfl
theorem R.bind_bad {α β : Type} (f : α → R β) : ((R.bad : R α) >>= f) = R.bad := rfl
theorem R.pure_ok {α : Type} (a : α) : (pure a : R α) = R.ok a := rfl

section
variable (K : PySem.W.Frag)
/-- a tuple, a list of the written part -/
def KT (a : Addr) (xs : List V) : Prop := ∃ (o : Obj) (its : Array Value) (n : Nat), K.lookup a = some o ∧ o.cls = .type "tuple" ∧ o.data = .seq its n ∧ its.size ≤ sizeLine ∧ Vals xs its.toList
def KL (a : Addr) (xs : List V) : Prop := ∃ (o : Obj) (its : Array Value) (n : Nat), K.lookup a = some o ∧ o.cls = .type "list" ∧ o.dict = none ∧ o.data = .seq its n ∧ its.size ≤ sizeLine ∧ Vals xs its.toList
variable (F : Addr → Prop) (H : Hp)
mutual
/-- v is d in the heap H; no list or dict of it stands at an address of F -/
def Rep : D → V → Prop
  | .non, v => v = .non
  | .bl b, v => v = .bl b
  | .int i, v => v = .int i
  | .str s, v => v = .str s
  | .tup ds, v => ∃ a vs, v = .ref a ∧ H a = some (.tup vs) ∧ Reps ds vs
  | .ktup ds, v => ∃ a vs, v = .ref a ∧ KT K a vs ∧ Reps ds vs
  | .lst ds, v => ∃ a vs, v = .ref a ∧ H a = some (.lst vs) ∧ ¬ F a ∧ Reps ds vs
  | .scr ns, v => ∃ a, v = .ref a ∧ ((∃ o, H a = some (.frz o (.lst (ns.map V.int)))) ∨ KL K a (ns.map V.int))
  | .dic ks ds, v => ∃ a kvs, v = .ref a ∧ Rd H a (.dK kvs) ∧ ¬ F a ∧ kvs.map (·.1) = ks ∧ Reps ds (kvs.map (·.2))
  | .dct ks ds, v => ∃ a kvs, v = .ref a ∧ Rd H a (.dT kvs) ∧ ¬ F a ∧ kvs.map (·.1) = ks ∧ Reps ds (kvs.map (·.2))
  | .obj C ns ds, v => ∃ a dx fs, v = .ref a ∧ H a = some (.ins C dx fs) ∧ ¬ F a ∧ fs.map (·.1) = ns ∧ Reps ds (fs.map (·.2))
def Reps : List D → List V → Prop
  | [], vs => vs = []
  | d :: ds, vs => ∃ v vs', vs = v :: vs' ∧ Rep d v ∧ Reps ds vs'
end
/-- a list or dict stands at a, whatever F says of a -/
def Top (a : Addr) : D → Prop
  | .lst ds => ∃ vs, H a = some (.lst vs) ∧ Reps K F H ds vs
  | .dic ks ds => ∃ kvs, H a = some (.dK kvs) ∧ kvs.map (·.1) = ks ∧ Reps K F H ds (kvs.map (·.2))
  | .dct ks ds => ∃ kvs, H a = some (.dT kvs) ∧ kvs.map (·.1) = ks ∧ Reps K F H ds (kvs.map (·.2))
  | _ => False
end

section
variable {K : PySem.W.Frag} {F F' : Addr → Prop} {H H' : Hp}
/-- what is kept from H to H': all that stands, but the lists and dicts of F -/
def Kp (F : Addr → Prop) (H H' : Hp) : Prop := ∀ a o, H a = some o → (F a → (∃ xs, o = .tup xs) ∨ ∃ ob u, o = .frz ob u) → H' a = some o
theorem Kp.of_same (s : Same H H') : Kp F H H' := fun a o e _ => s a o e
theorem sqT_kp {a : Addr} {xs : List V} (k : Kp F H H') (h : SqT K H a xs) : SqT K H' a xs := by
  rcases h with (h | ⟨o, h⟩) | h
  · exact .inl (.inl (k a _ h fun _ => .inl ⟨_, rfl⟩))
  · exact .inl (.inr ⟨o, k a _ h fun _ => .inr ⟨_, _, rfl⟩⟩)
  · exact .inr h
theorem rd_keep {a : Addr} {u : HO} (k : Kp F H H') (n : ¬ F a) (q : Rd H a u) : Rd H' a u := by
  rcases q with q | ⟨o, q⟩
  · exact .inl (k a _ q fun z => (n z).elim)
  · exact .inr ⟨o, k a _ q fun z => (n z).elim⟩
theorem rd_some {a : Addr} {u : HO} (q : Rd H a u) (y : H a = none) : False := by
  rcases q with q | ⟨o, q⟩
  · rw [q] at y; cases y
  · rw [q] at y; cases y
mutual
theorem Rep.mono (k : Kp F H H') (hf : ∀ a, F' a → F a ∨ H a = none) : ∀ (d : D) (v : V), Rep K F H d v → Rep K F' H' d v
  | .non, v, h => h
  | .bl b, v, h => h
  | .int i, v, h => h
  | .str s, v, h => h
  | .tup ds, v, h => by
    obtain ⟨a, vs, e, q, r⟩ := h
    exact ⟨a, vs, e, k a _ q fun _ => .inl ⟨_, rfl⟩, Reps.mono k hf ds vs r⟩
  | .ktup ds, v, h => by
    obtain ⟨a, vs, e, q, r⟩ := h
    exact ⟨a, vs, e, q, Reps.mono k hf ds vs r⟩
  | .lst ds, v, h => by
    obtain ⟨a, vs, e, q, n, r⟩ := h
    refine ⟨a, vs, e, k a _ q fun z => (n z).elim, fun z => ?_, Reps.mono k hf ds vs r⟩
    rcases hf a z with y | y
    · exact n y
    · rw [q] at y; cases y
  | .scr ns, v, h => by
    obtain ⟨a, e, q⟩ := h
    refine ⟨a, e, ?_⟩
    rcases q with ⟨o, q⟩ | q
    · exact .inl ⟨o, k a _ q fun _ => .inr ⟨_, _, rfl⟩⟩
    · exact .inr q
  | .dic ks ds, v, h => by
    obtain ⟨a, kvs, e, q, n, e2, r⟩ := h
    refine ⟨a, kvs, e, rd_keep k n q, fun z => ?_, e2, Reps.mono k hf ds _ r⟩
    rcases hf a z with y | y
    · exact n y
    · exact rd_some q y
  | .dct ks ds, v, h => by
    obtain ⟨a, kvs, e, q, n, e2, r⟩ := h
    refine ⟨a, kvs, e, rd_keep k n q, fun z => ?_, e2, Reps.mono k hf ds _ r⟩
    rcases hf a z with y | y
    · exact n y
    · exact rd_some q y
  | .obj C ns ds, v, h => by
    obtain ⟨a, dx, fs, e, q, n, e2, r⟩ := h
    refine ⟨a, dx, fs, e, k a _ q fun z => (n z).elim, fun z => ?_, e2, Reps.mono k hf ds _ r⟩
    rcases hf a z with y | y
    · exact n y
    · rw [q] at y; cases y
theorem Reps.mono (k : Kp F H H') (hf : ∀ a, F' a → F a ∨ H a = none) : ∀ (ds : List D) (vs : List V), Reps K F H ds vs → Reps K F' H' ds vs
  | [], vs, h => h
  | d :: ds, vs, h => by
    obtain ⟨v, vs', e, r, rs⟩ := h
    exact ⟨v, vs', e, Rep.mono k hf d v r, Reps.mono k hf ds vs' rs⟩
end
theorem Rep.same {d : D} {v : V} (s : Same H H') (h : Rep K F H d v) : Rep K F H' d v := Rep.mono (Kp.of_same s) (fun _ z => .inl z) d v h
theorem Reps.same {ds : List D} {vs : List V} (s : Same H H') (h : Reps K F H ds vs) : Reps K F H' ds vs := Reps.mono (Kp.of_same s) (fun _ z => .inl z) ds vs h
theorem Rep.less {d : D} {v : V} (hf : ∀ a, F' a → F a) (h : Rep K F H d v) : Rep K F' H d v := Rep.mono (Kp.of_same (Same.refl H)) (fun a z => .inl (hf a z)) d v h
theorem Reps.less {ds : List D} {vs : List V} (hf : ∀ a, F' a → F a) (h : Reps K F H ds vs) : Reps K F' H ds vs := Reps.mono (Kp.of_same (Same.refl H)) (fun a z => .inl (hf a z)) ds vs h
theorem Top.mono {a : Addr} {d : D} (k : Kp F H H') (hf : ∀ a, F' a → F a ∨ H a = none) (ha : ∀ o, H a = some o → H' a = some o) (h : Top K F H a d) : Top K F' H' a d := by
  cases d with
  | lst ds =>
    obtain ⟨vs, e, r⟩ := h
    exact ⟨vs, ha _ e, Reps.mono k hf ds vs r⟩
  | dic ks ds =>
    obtain ⟨kvs, e, e2, r⟩ := h
    exact ⟨kvs, ha _ e, e2, Reps.mono k hf ds _ r⟩
  | dct ks ds =>
    obtain ⟨kvs, e, e2, r⟩ := h
    exact ⟨kvs, ha _ e, e2, Reps.mono k hf ds _ r⟩
  | _ => exact (show False from h).elim
theorem Top.there {a : Addr} {d : D} (h : Top K F H a d) : ∃ o, H a = some o := by
  cases d with
  | lst ds => obtain ⟨vs, e, _⟩ := h; exact ⟨_, e⟩
  | dic ks ds => obtain ⟨vs, e, _⟩ := h; exact ⟨_, e⟩
  | dct ks ds => obtain ⟨vs, e, _⟩ := h; exact ⟨_, e⟩
  | _ => exact (show False from h).elim
theorem Top.rep {a : Addr} {d : D} (h : Top K F H a d) (n : ¬ F a) : Rep K F H d (.ref a) := by
  cases d with
  | lst ds => obtain ⟨vs, e, r⟩ := h; exact ⟨a, vs, rfl, e, n, r⟩
  | dic ks ds => obtain ⟨vs, e, e2, r⟩ := h; exact ⟨a, vs, rfl, .inl e, n, e2, r⟩
  | dct ks ds => obtain ⟨vs, e, e2, r⟩ := h; exact ⟨a, vs, rfl, .inl e, n, e2, r⟩
  | _ => exact (show False from h).elim

/-! ### data without lists and dicts -/
mutual
def imm : D → Bool
  | .non => true | .bl _ => true | .int _ => true | .str _ => true
  | .tup ds => imms ds | .ktup ds => imms ds
  | .lst _ => false | .scr _ => false | .dic _ _ => false | .dct _ _ => false | .obj _ _ _ => false
def imms : List D → Bool
  | [] => true
  | d :: ds => imm d && imms ds
end
mutual
theorem Rep.imm : ∀ (d : D) (v : V), VM.imm d = true → Rep K F H d v → Rep K F' H d v
  | .non, v, _, h => h
  | .bl b, v, _, h => h
  | .int i, v, _, h => h
  | .str s, v, _, h => h
  | .tup ds, v, m, h => by
    obtain ⟨a, vs, e, q, r⟩ := h
    exact ⟨a, vs, e, q, Reps.imms ds vs m r⟩
  | .ktup ds, v, m, h => by
    obtain ⟨a, vs, e, q, r⟩ := h
    exact ⟨a, vs, e, q, Reps.imms ds vs m r⟩
  | .lst ds, v, m, h => by cases m
  | .scr ns, v, m, h => by cases m
  | .dic ks ds, v, m, h => by cases m
  | .dct ks ds, v, m, h => by cases m
  | .obj C ns ds, v, m, h => by cases m
theorem Reps.imms : ∀ (ds : List D) (vs : List V), VM.imms ds = true → Reps K F H ds vs → Reps K F' H ds vs
  | [], vs, _, h => h
  | d :: ds, vs, m, h => by
    obtain ⟨v, vs', e, r, rs⟩ := h
    have m' : (VM.imm d && VM.imms ds) = true := m
    rw [Bool.and_eq_true] at m'
    exact ⟨v, vs', e, Rep.imm d v m'.1 r, Reps.imms ds vs' m'.2 rs⟩
end
theorem Reps.length : ∀ {ds : List D} {vs : List V}, Reps K F H ds vs → vs.length = ds.length
  | [], vs, h => by
    have e : vs = [] := h
    rw [e]; rfl
  | d :: ds, vs, h => by
    obtain ⟨v, vs', e, r, rs⟩ := h
    rw [e, List.length_cons, List.length_cons, Reps.length rs]
theorem Reps.get : ∀ {ds : List D} {vs : List V} {i : Nat} {d : D}, Reps K F H ds vs → ds[i]? = some d → ∃ v, vs[i]? = some v ∧ Rep K F H d v
  | [], vs, i, d, h, e => by simp at e
  | d0 :: ds, vs, 0, d, h, e => by
    obtain ⟨v, vs', e', r, rs⟩ := h
    simp at e; subst e; subst e'
    exact ⟨v, rfl, r⟩
  | d0 :: ds, vs, i + 1, d, h, e => by
    obtain ⟨v, vs', e', r, rs⟩ := h
    subst e'
    obtain ⟨u, hu, ru⟩ := Reps.get (i := i) (d := d) rs (by simpa using e)
    exact ⟨u, by simpa using hu, ru⟩
theorem Reps.getV : ∀ {ds : List D} {vs : List V} {i : Nat} {v : V}, Reps K F H ds vs → vs[i]? = some v → ∃ d, ds[i]? = some d ∧ Rep K F H d v
  | [], vs, i, v, h, e => by
    have e' : vs = [] := h
    subst e'; simp at e
  | d0 :: ds, vs, 0, v, h, e => by
    obtain ⟨v', vs', e', r, rs⟩ := h
    subst e'; simp at e; subst e
    exact ⟨d0, rfl, r⟩
  | d0 :: ds, vs, i + 1, v, h, e => by
    obtain ⟨v', vs', e', r, rs⟩ := h
    subst e'
    obtain ⟨u, hu, ru⟩ := Reps.getV (i := i) (v := v) rs (by simpa using e)
    exact ⟨u, by simpa using hu, ru⟩
theorem Reps.app : ∀ {ds es : List D} {vs ws : List V}, Reps K F H ds vs → Reps K F H es ws → Reps K F H (ds ++ es) (vs ++ ws)
  | [], es, vs, ws, h, h' => by
    have e : vs = [] := h
    subst e; exact h'
  | d :: ds, es, vs, ws, h, h' => by
    obtain ⟨v, vs', e, r, rs⟩ := h
    subst e
    exact ⟨v, vs' ++ ws, rfl, r, Reps.app rs h'⟩
theorem Reps.set : ∀ {ds : List D} {vs : List V} {i : Nat} {d : D} {v : V}, Reps K F H ds vs → Rep K F H d v → Reps K F H (ds.set i d) (vs.set i v)
  | [], vs, i, d, v, h, r => by
    have e : vs = [] := h
    subst e; exact rfl
  | d0 :: ds, vs, 0, d, v, h, r => by
    obtain ⟨v', vs', e, r', rs⟩ := h
    subst e
    exact ⟨v, vs', rfl, r, rs⟩
  | d0 :: ds, vs, i + 1, d, v, h, r => by
    obtain ⟨v', vs', e, r', rs⟩ := h
    subst e
    exact ⟨v', vs'.set i v, rfl, r', Reps.set rs r⟩
theorem Reps.take : ∀ {ds : List D} {vs : List V} (n : Nat), Reps K F H ds vs → Reps K F H (ds.take n) (vs.take n)
  | ds, vs, 0, h => by rw [List.take_zero, List.take_zero]; exact rfl
  | [], vs, n + 1, h => by
    have e : vs = [] := h
    subst e; exact rfl
  | d :: ds, vs, n + 1, h => by
    obtain ⟨v', vs', e, r', rs⟩ := h
    subst e
    exact ⟨v', vs'.take n, rfl, r', Reps.take n rs⟩
theorem Reps.drop : ∀ {ds : List D} {vs : List V} (n : Nat), Reps K F H ds vs → Reps K F H (ds.drop n) (vs.drop n)
  | ds, vs, 0, h => h
  | [], vs, n + 1, h => by
    have e : vs = [] := h
    subst e; exact rfl
  | d :: ds, vs, n + 1, h => by
    obtain ⟨v', vs', e, r', rs⟩ := h
    subst e
    exact Reps.drop n rs
theorem Reps.rev : ∀ {ds : List D} {vs : List V}, Reps K F H ds vs → Reps K F H ds.reverse vs.reverse
  | [], vs, h => by
    have e : vs = [] := h
    subst e; exact rfl
  | d :: ds, vs, h => by
    obtain ⟨v', vs', e, r', rs⟩ := h
    subst e
    rw [List.reverse_cons, List.reverse_cons]
    exact Reps.app (Reps.rev rs) ⟨v', [], rfl, r', rfl⟩
end

/-! ### the frame -/
/-- a def's slots: each unknown, or its data and whether it alone holds that list or dict -/
abbrev Rho := List (Option (D × Bool))
def OwnA (ρ : Rho) (σ : L2.St) (a : Addr) : Prop := ∃ (i : Nat) (d : D), ρ[i]? = some (some (d, true)) ∧ σ[i]? = some (some (V.ref a))
def Fb (S0 : Addr → Prop) (ρ : Rho) (σ : L2.St) (a : Addr) : Prop := S0 a ∨ OwnA ρ σ a
structure Rl (K : PySem.W.Frag) (S0 : Addr → Prop) (H0 : Hp) (ρ : Rho) (σ : L2.St) (H : Hp) : Prop where
  len : ρ.length = σ.length
  s0 : ∀ a, S0 a → ∃ o, H a = some o
  keep : Same H0 H
  clean : ∀ (i : Nat) (d : D), ρ[i]? = some (some (d, false)) → ∃ v, σ[i]? = some (some v) ∧ Rep K (Fb S0 ρ σ) H d v
  own : ∀ (i : Nat) (d : D), ρ[i]? = some (some (d, true)) → ∃ a, σ[i]? = some (some (V.ref a)) ∧ (H0 a = none ∧ ¬ S0 a) ∧ Top K (Fb S0 ρ σ) H a d
  sep : ∀ (i j : Nat) (d e : D) (a : Addr), ρ[i]? = some (some (d, true)) → ρ[j]? = some (some (e, true)) → σ[i]? = some (some (V.ref a)) → σ[j]? = some (some (V.ref a)) → i = j
/-- a step of statements: what none of the slots owned stays; what is owned now was owned or is new -/
structure Stp (ρ : Rho) (σ : L2.St) (H : Hp) (ρ' : Rho) (σ' : L2.St) (H' : Hp) : Prop where
  keep : ∀ a o, H a = some o → ¬ OwnA ρ σ a → H' a = some o
  own : ∀ a, OwnA ρ' σ' a → OwnA ρ σ a ∨ H a = none

section
variable {K : PySem.W.Frag} {S0 : Addr → Prop} {H0 H H' H'' : Hp} {ρ ρ' ρ'' : Rho} {σ σ' σ'' : L2.St}
theorem Stp.refl : Stp ρ σ H ρ σ H := ⟨fun _ _ e _ => e, fun _ h => .inl h⟩
theorem Stp.trans (a : Stp ρ σ H ρ' σ' H') (b : Stp ρ' σ' H' ρ'' σ'' H'') : Stp ρ σ H ρ'' σ'' H'' where
  keep := fun x o e n => b.keep x o (a.keep x o e n) fun z => (a.own x z).elim n fun y => by rw [e] at y; cases y
  own := fun x z => (b.own x z).elim (a.own x) fun y => by
    by_cases h : OwnA ρ σ x
    · exact .inl h
    · cases q : H x with
      | none => exact .inr rfl
      | some o => rw [a.keep x o q h] at y; cases y
theorem Stp.of_same (s : Same H H') : Stp ρ σ H ρ σ H' := ⟨fun a o e _ => s a o e, fun _ h => .inl h⟩
theorem Rl.s0H (r : Rl K S0 H0 ρ σ H) {a : Addr} (h : S0 a) : ∃ o, H a = some o := r.s0 a h
theorem Rl.s0S (r : Rl K S0 H0 ρ σ H) (s : Same H H') : ∀ a, S0 a → ∃ o, H' a = some o := fun a z => let ⟨o, e⟩ := r.s0 a z; ⟨o, s a o e⟩
theorem Rl.fbH (r : Rl K S0 H0 ρ σ H) {a : Addr} (h : Fb S0 ρ σ a) : ∃ o, H a = some o := by
  rcases h with h | ⟨i, d, e1, e2⟩
  · exact r.s0H h
  · obtain ⟨a', e3, _, t⟩ := r.own i d e1
    rw [e2] at e3
    cases e3
    exact t.there
theorem Rl.fresh (r : Rl K S0 H0 ρ σ H) {a : Addr} (h : H a = none) : ¬ Fb S0 ρ σ a := fun z => by
  obtain ⟨o, e⟩ := r.fbH z
  rw [h] at e; cases e
/-- expressions keep all -/
theorem Rl.same (r : Rl K S0 H0 ρ σ H) (s : Same H H') : Rl K S0 H0 ρ σ H' where
  len := r.len
  s0 := r.s0S s
  keep := r.keep.trans s
  clean := fun i d e => by
    obtain ⟨v, h1, h2⟩ := r.clean i d e
    exact ⟨v, h1, h2.same s⟩
  own := fun i d e => by
    obtain ⟨a, h1, h2, h3⟩ := r.own i d e
    exact ⟨a, h1, h2, h3.mono (Kp.of_same s) (fun _ z => .inl z) fun o => s a o⟩
  sep := r.sep
theorem Rl.set_len {i : Nat} {o : Option (D × Bool)} {v : Option V} (r : Rl K S0 H0 ρ σ H) : (ρ.set i o).length = (σ.set i v).length := by
  rw [List.length_set, List.length_set, r.len]
theorem ownA_set {i : Nat} {o : Option (D × Bool)} {v : Option V} {a : Addr} (h : OwnA (ρ.set i o) (σ.set i v) a) : (OwnA ρ σ a ∧ ∃ (j : Nat) (d : D), j ≠ i ∧ ρ[j]? = some (some (d, true)) ∧ σ[j]? = some (some (V.ref a))) ∨ ((∃ d : D, o = some (d, true)) ∧ v = some (V.ref a)) := by
  obtain ⟨j, d, e1, e2⟩ := h
  by_cases hj : i = j
  · subst hj
    refine .inr ?_
    rw [List.getElem?_set] at e1 e2
    rw [if_pos rfl] at e1 e2
    split at e1
    · split at e2
      · exact ⟨⟨d, by simpa using e1⟩, by simpa using e2⟩
      · cases e2
    · cases e1
  · rw [List.getElem?_set_ne hj] at e1 e2
    exact .inl ⟨⟨j, d, e1, e2⟩, j, d, fun z => hj z.symm, e1, e2⟩
/-- slot i gets clean data; the heap may have grown -/
theorem Rl.setC {i : Nat} {d : D} {v : V} (r : Rl K S0 H0 ρ σ H) (s : Same H H') (q : Rep K (Fb S0 ρ σ) H' d v) : Rl K S0 H0 (ρ.set i (some (d, false))) (σ.set i (some v)) H' := by
  have hf : ∀ a, Fb S0 (ρ.set i (some (d, false))) (σ.set i (some v)) a → Fb S0 ρ σ a := fun a z => by
    rcases z with z | z
    · exact .inl z
    · rcases ownA_set z with ⟨z, _⟩ | ⟨⟨d', e⟩, _⟩
      · exact .inr z
      · cases e
  have r' := r.same s
  refine ⟨r.set_len, r.s0S s, r.keep.trans s, fun j e h => ?_, fun j e h => ?_, fun j k e e' a h1 h2 h3 h4 => ?_⟩
  · by_cases hj : i = j
    · subst hj
      have hi : i < σ.length := by
        rw [← r.len]
        have := (List.getElem?_eq_some_iff.mp h).1
        rwa [List.length_set] at this
      rw [List.getElem?_set_self (by rw [r.len]; exact hi)] at h
      cases h
      exact ⟨v, List.getElem?_set_self hi, q.less hf⟩
    · rw [List.getElem?_set_ne hj] at h
      obtain ⟨u, h1, h2⟩ := r'.clean j e h
      exact ⟨u, by rw [List.getElem?_set_ne hj]; exact h1, h2.less hf⟩
  · by_cases hj : i = j
    · subst hj
      have hi : i < ρ.length := by
        have := (List.getElem?_eq_some_iff.mp h).1
        rwa [List.length_set] at this
      rw [List.getElem?_set_self hi] at h
      cases h
    · rw [List.getElem?_set_ne hj] at h
      obtain ⟨a, h1, h2, h3⟩ := r'.own j e h
      exact ⟨a, by rw [List.getElem?_set_ne hj]; exact h1, h2, h3.mono (Kp.of_same (Same.refl _)) (fun a z => .inl (hf a z)) fun _ z => z⟩
  · have ne : ∀ (m : Nat) (f : D), (ρ.set i (some (d, false)))[m]? = some (some (f, true)) → i ≠ m := fun m f h z => by
      subst z
      have hi : i < ρ.length := by
        have := (List.getElem?_eq_some_iff.mp h).1
        rwa [List.length_set] at this
      rw [List.getElem?_set_self hi] at h
      cases h
    have n1 := ne j e h1
    have n2 := ne k e' h2
    rw [List.getElem?_set_ne n1] at h1 h3
    rw [List.getElem?_set_ne n2] at h2 h4
    exact r.sep j k e e' a h1 h2 h3 h4
theorem stp_setC {i : Nat} {d : D} {v : V} (s : Same H H') : Stp ρ σ H (ρ.set i (some (d, false))) (σ.set i (some v)) H' where
  keep := fun a o e _ => s a o e
  own := fun a z => by
    rcases ownA_set z with ⟨z, _⟩ | ⟨⟨d', e⟩, _⟩
    · exact .inl z
    · cases e
/-- slot i gets a new list or dict of its own -/
theorem Rl.setO {i : Nat} {d : D} {a : Addr} (r : Rl K S0 H0 ρ σ H) (s : Same H H') (n : H a = none) (q : Top K (fun x => Fb S0 ρ σ x ∨ x = a) H' a d) : Rl K S0 H0 (ρ.set i (some (d, true))) (σ.set i (some (.ref a))) H' := by
  have hf : ∀ b, Fb S0 (ρ.set i (some (d, true))) (σ.set i (some (.ref a))) b → Fb S0 ρ σ b ∨ b = a := fun b z => by
    rcases z with z | z
    · exact .inl (.inl z)
    · rcases ownA_set z with ⟨z, _⟩ | ⟨_, e⟩
      · exact .inl (.inr z)
      · cases e; exact .inr rfl
  have hf2 : ∀ b, Fb S0 (ρ.set i (some (d, true))) (σ.set i (some (.ref a))) b → Fb S0 ρ σ b ∨ H b = none := fun b z => by
    rcases hf b z with y | y
    · exact .inl y
    · rw [y]; exact .inr n
  have n0 : H0 a = none := by
    cases e : H0 a with
    | none => rfl
    | some o => have := r.keep a o e; rw [n] at this; cases this
  have nS : ¬ S0 a := fun z => by
    obtain ⟨o, e⟩ := r.s0 a z
    rw [n] at e; cases e
  refine ⟨r.set_len, r.s0S s, r.keep.trans s, fun j e h => ?_, fun j e h => ?_, fun j k e e' b h1 h2 h3 h4 => ?_⟩
  · by_cases hj : i = j
    · subst hj
      have hi : i < ρ.length := by
        have := (List.getElem?_eq_some_iff.mp h).1
        rwa [List.length_set] at this
      rw [List.getElem?_set_self hi] at h
      cases h
    · rw [List.getElem?_set_ne hj] at h
      obtain ⟨u, h1, h2⟩ := r.clean j e h
      exact ⟨u, by rw [List.getElem?_set_ne hj]; exact h1, h2.mono (Kp.of_same s) hf2⟩
  · by_cases hj : i = j
    · subst hj
      have hi : i < σ.length := by
        rw [← r.len]
        have := (List.getElem?_eq_some_iff.mp h).1
        rwa [List.length_set] at this
      rw [List.getElem?_set_self (by rw [r.len]; exact hi)] at h
      cases h
      exact ⟨a, List.getElem?_set_self hi, ⟨n0, nS⟩, q.mono (Kp.of_same (Same.refl _)) (fun b z => .inl (hf b z)) fun _ z => z⟩
    · rw [List.getElem?_set_ne hj] at h
      obtain ⟨b, h1, h2, h3⟩ := r.own j e h
      exact ⟨b, by rw [List.getElem?_set_ne hj]; exact h1, h2, h3.mono (Kp.of_same s) hf2 fun o => s b o⟩
  · have old : ∀ (m : Nat) (f : D), i ≠ m → ρ[m]? = some (some (f, true)) → σ[m]? = some (some (.ref b)) → b ≠ a := fun m f _ g1 g2 z => by
      obtain ⟨b', g3, _, t⟩ := r.own m f g1
      rw [g2] at g3; cases g3
      obtain ⟨o, e⟩ := t.there
      rw [z, n] at e; cases e
    have self : (σ.set i (some (.ref a)))[i]? = some (some (.ref b)) → b = a := fun h => by
      rw [List.getElem?_set] at h
      rw [if_pos rfl] at h
      split at h
      · cases h; rfl
      · cases h
    by_cases hj : i = j
    · by_cases hk : i = k
      · rw [← hj, ← hk]
      · rw [← hj] at h3
        rw [List.getElem?_set_ne hk] at h2 h4
        exact absurd (self h3) (old k e' hk h2 h4)
    · rw [List.getElem?_set_ne hj] at h1 h3
      by_cases hk : i = k
      · rw [← hk] at h4
        exact absurd (self h4) (old j e hj h1 h3)
      · rw [List.getElem?_set_ne hk] at h2 h4
        exact r.sep j k e e' b h1 h2 h3 h4
theorem stp_setO {i : Nat} {d : D} {a : Addr} (s : Same H H') (n : H a = none) : Stp ρ σ H (ρ.set i (some (d, true))) (σ.set i (some (.ref a))) H' where
  keep := fun a o e _ => s a o e
  own := fun b z => by
    rcases ownA_set z with ⟨z, _⟩ | ⟨_, e⟩
    · exact .inl z
    · cases e; exact .inr n
/-- slot i is forgotten -/
theorem Rl.setN {i : Nat} (v : Option V) (r : Rl K S0 H0 ρ σ H) : Rl K S0 H0 (ρ.set i none) (σ.set i v) H := by
  have hf : ∀ b, Fb S0 (ρ.set i none) (σ.set i v) b → Fb S0 ρ σ b := fun b z => by
    rcases z with z | z
    · exact .inl z
    · rcases ownA_set z with ⟨z, _⟩ | ⟨⟨_, e⟩, _⟩
      · exact .inr z
      · cases e
  have ne : ∀ (m : Nat) (f : D) (b : Bool), (ρ.set i none)[m]? = some (some (f, b)) → i ≠ m := fun m f b h z => by
    subst z
    have hi : i < ρ.length := by
      have := (List.getElem?_eq_some_iff.mp h).1
      rwa [List.length_set] at this
    rw [List.getElem?_set_self hi] at h
    cases h
  refine ⟨r.set_len, r.s0, r.keep, fun j e h => ?_, fun j e h => ?_, fun j k e e' b h1 h2 h3 h4 => ?_⟩
  · have hj := ne j e _ h
    rw [List.getElem?_set_ne hj] at h
    obtain ⟨u, h1, h2⟩ := r.clean j e h
    exact ⟨u, by rw [List.getElem?_set_ne hj]; exact h1, h2.less hf⟩
  · have hj := ne j e _ h
    rw [List.getElem?_set_ne hj] at h
    obtain ⟨a, h1, h2, h3⟩ := r.own j e h
    exact ⟨a, by rw [List.getElem?_set_ne hj]; exact h1, h2, h3.mono (Kp.of_same (Same.refl _)) (fun a z => .inl (hf a z)) fun _ z => z⟩
  · have n1 := ne j e _ h1
    have n2 := ne k e' _ h2
    rw [List.getElem?_set_ne n1] at h1 h3
    rw [List.getElem?_set_ne n2] at h2 h4
    exact r.sep j k e e' b h1 h2 h3 h4
theorem stp_setN {i : Nat} (v : Option V) : Stp ρ σ H (ρ.set i none) (σ.set i v) H where
  keep := fun a o e _ => e
  own := fun b z => by
    rcases ownA_set z with ⟨z, _⟩ | ⟨⟨_, e⟩, _⟩
    · exact .inl z
    · cases e
/-- slot i no longer claims what it holds as its own alone -/
def frz1 (i : Nat) (ρ : Rho) : Rho := match ρ[i]? with
  | some (some (d, true)) => ρ.set i (some (d, false))
  | _ => ρ
theorem set_same {α : Type} {l : List α} {i : Nat} {x : α} (h : l[i]? = some x) : l.set i x = l := by
  apply List.ext_getElem?
  intro j
  by_cases e : i = j
  · subst e
    rw [List.getElem?_set_self (List.getElem?_eq_some_iff.mp h).1, h]
  · rw [List.getElem?_set_ne e]
theorem Rl.frz {i : Nat} (r : Rl K S0 H0 ρ σ H) : Rl K S0 H0 (frz1 i ρ) σ H ∧ Stp ρ σ H (frz1 i ρ) σ H := by
  unfold frz1
  split
  · rename_i d hd
    obtain ⟨a, h1, h2, h3⟩ := r.own i d hd
    have es : σ = σ.set i (some (.ref a)) := (set_same h1).symm
    have hi : i < ρ.length := (List.getElem?_eq_some_iff.mp hd).1
    have own' : ∀ b, OwnA (ρ.set i (some (d, false))) σ b → OwnA ρ σ b ∧ b ≠ a := fun b z => by
      rw [es] at z
      rcases ownA_set z with ⟨z, j, e, hj, e1, e2⟩ | ⟨⟨_, e⟩, _⟩
      · refine ⟨z, fun y => hj ?_⟩
        subst y
        exact r.sep j i e d b e1 hd e2 h1
      · cases e
    have hf : ∀ b, Fb S0 (ρ.set i (some (d, false))) σ b → Fb S0 ρ σ b := fun b z => z.elim .inl fun z => .inr (own' b z).1
    have na : ¬ Fb S0 (ρ.set i (some (d, false))) σ a := fun z => by
      rcases z with z | z
      · exact h2.2 z
      · exact (own' a z).2 rfl
    refine ⟨⟨by rw [List.length_set]; exact r.len, r.s0, r.keep, fun j e h => ?_, fun j e h => ?_, fun j k e e' b g1 g2 g3 g4 => ?_⟩, fun b o e _ => e, fun b z => .inl (own' b z).1⟩
    · by_cases hj : i = j
      · subst hj
        rw [List.getElem?_set_self hi] at h
        cases h
        exact ⟨_, h1, Top.rep (h3.mono (Kp.of_same (Same.refl _)) (fun b z => .inl (hf b z)) fun _ z => z) na⟩
      · rw [List.getElem?_set_ne hj] at h
        obtain ⟨u, h1, h2⟩ := r.clean j e h
        exact ⟨u, h1, h2.less hf⟩
    · by_cases hj : i = j
      · subst hj
        rw [List.getElem?_set_self hi] at h
        cases h
      · rw [List.getElem?_set_ne hj] at h
        obtain ⟨b, h1, h2, h3⟩ := r.own j e h
        exact ⟨b, h1, h2, h3.mono (Kp.of_same (Same.refl _)) (fun a z => .inl (hf a z)) fun _ z => z⟩
    · have ne : ∀ (m : Nat) (f : D), (ρ.set i (some (d, false)))[m]? = some (some (f, true)) → i ≠ m := fun m f h z => by
        subst z
        rw [List.getElem?_set_self hi] at h
        cases h
      have n1 := ne j e g1
      have n2 := ne k e' g2
      rw [List.getElem?_set_ne n1] at g1
      rw [List.getElem?_set_ne n2] at g2
      exact r.sep j k e e' b g1 g2 g3 g4
  · exact ⟨r, Stp.refl⟩
def frzs : List Nat → Rho → Rho
  | [], ρ => ρ
  | i :: is, ρ => frzs is (frz1 i ρ)
theorem Rl.frzs : ∀ (is : List Nat) {ρ : Rho}, Rl K S0 H0 ρ σ H → Rl K S0 H0 (frzs is ρ) σ H ∧ Stp ρ σ H (VM.frzs is ρ) σ H
  | [], ρ, r => ⟨r, Stp.refl⟩
  | i :: is, ρ, r => by
    obtain ⟨r1, s1⟩ := r.frz (i := i)
    obtain ⟨r2, s2⟩ := Rl.frzs is r1
    exact ⟨r2, s1.trans s2⟩
/-- slot i's own list or dict is changed in its place -/
theorem Rl.mut {i : Nat} {d d' : D} {a : Addr} {o : HO} (r : Rl K S0 H0 ρ σ H) (hi : ρ[i]? = some (some (d, true))) (ha : σ[i]? = some (some (V.ref a)))
    (nt : ∀ o, H a = some o → (∀ xs, o ≠ .tup xs) ∧ ∀ ob u, o ≠ .frz ob u) (q : Top K (Fb S0 ρ σ) (upd H a o) a d') : Rl K S0 H0 (ρ.set i (some (d', true))) σ (upd H a o) ∧ Stp ρ σ H (ρ.set i (some (d', true))) σ (upd H a o) := by
  obtain ⟨a', h1, h2, h3⟩ := r.own i d hi
  rw [ha] at h1; cases h1
  have hl : i < ρ.length := (List.getElem?_eq_some_iff.mp hi).1
  have oa : OwnA ρ σ a := ⟨i, d, hi, ha⟩
  have own' : ∀ b, OwnA (ρ.set i (some (d', true))) σ b → OwnA ρ σ b := fun b z => by
    obtain ⟨j, e, e1, e2⟩ := z
    by_cases hj : i = j
    · subst hj
      exact ⟨i, d, hi, e2⟩
    · rw [List.getElem?_set_ne hj] at e1
      exact ⟨j, e, e1, e2⟩
  have hf : ∀ b, Fb S0 (ρ.set i (some (d', true))) σ b → Fb S0 ρ σ b := fun b z => z.elim .inl fun z => .inr (own' b z)
  have kp : Kp (Fb S0 ρ σ) H (upd H a o) := fun b ob e c => by
    by_cases hb : b = a
    · subst hb
      have t := nt ob e
      rcases c (.inr oa) with ⟨xs, z⟩ | ⟨ob', u, z⟩
      · exact absurd z (t.1 xs)
      · exact absurd z (t.2 ob' u)
    · rw [upd_ne hb]; exact e
  refine ⟨⟨by rw [List.length_set]; exact r.len, fun b z => by
    by_cases hb : b = a
    · exact ⟨o, by rw [hb, upd_same]⟩
    · rw [upd_ne hb]; exact r.s0 b z, fun b ob e => ?_, fun j e h => ?_, fun j e h => ?_, fun j k e e' b g1 g2 g3 g4 => ?_⟩, fun b ob e n => ?_, fun b z => .inl (own' b z)⟩
  · have hb : b ≠ a := fun z => by rw [z, h2.1] at e; cases e
    rw [upd_ne hb]; exact r.keep b ob e
  · by_cases hj : i = j
    · subst hj
      rw [List.getElem?_set_self hl] at h
      cases h
    · rw [List.getElem?_set_ne hj] at h
      obtain ⟨u, h1, h2⟩ := r.clean j e h
      exact ⟨u, h1, h2.mono kp fun b z => .inl (hf b z)⟩
  · by_cases hj : i = j
    · subst hj
      rw [List.getElem?_set_self hl] at h
      cases h
      exact ⟨a, ha, h2, q.mono (Kp.of_same (Same.refl _)) (fun b z => .inl (hf b z)) fun _ z => z⟩
    · rw [List.getElem?_set_ne hj] at h
      obtain ⟨b, g1, g2, g3⟩ := r.own j e h
      have hb : b ≠ a := fun z => hj (r.sep i j d e a hi h ha (by rw [← z]; exact g1))
      exact ⟨b, g1, g2, g3.mono kp (fun b z => .inl (hf b z)) fun ob z => by rw [upd_ne hb]; exact z⟩
  · have fix : ∀ (m : Nat) (f : D), (ρ.set i (some (d', true)))[m]? = some (some (f, true)) → ∃ f', ρ[m]? = some (some (f', true)) := fun m f h => by
      by_cases hm : i = m
      · subst hm; exact ⟨d, hi⟩
      · rw [List.getElem?_set_ne hm] at h; exact ⟨f, h⟩
    obtain ⟨f1, g1⟩ := fix j e g1
    obtain ⟨f2, g2⟩ := fix k e' g2
    exact r.sep j k f1 f2 b g1 g2 g3 g4
  · have hb : b ≠ a := fun z => n (z ▸ oa)
    rw [upd_ne hb]; exact e
end
end VM
/-! VM2: expressions: what they answer over data, by the hand layer's rules. -/
namespace VM
open PySem L2

/-- an own exception as it flies: its class and its fields -/
def ExIs (K : PySem.W.Frag) (mg : Str → Option Value) (c : Str) (fs : List (Str × D)) (cls : Value) (dd : Option Addr) (H : Hp) : Prop :=
  ∃ C, mg c = some (.ref C) ∧ cls = .ref C ∧ ∃ (d : Addr) (vs : List (Str × V)), dd = some d ∧ H d = some (.xd vs) ∧ ∀ n x, fs.lookup n = some x → ∃ v, vs.lookup n = some v ∧ Rep K (fun _ => False) H x v

def Want {α γ : Type} (K : PySem.W.Frag) (mg : Str → Option Value) (W : WX) (σ : L2.St) (H : Hp) (Q : γ → Hp → Prop) (P : α → γ → Hp → Prop) : R α → Prop
  | .ok a => ∀ v H', Same H H' → P a v H' → Q v H'
  | .exc c fs => ∀ cls dd H', Same H H' → ExIs K mg c fs cls dd H' → W cls dd σ H'
  | .bad => False
section
variable {α β γ δ : Type} {K : PySem.W.Frag} {mg : Str → Option Value} {W : WX} {σ : L2.St} {H H1 : Hp} {Q : γ → Hp → Prop} {Q' : δ → Hp → Prop} {P : α → γ → Hp → Prop} {P' : α → δ → Hp → Prop} {x : R α}
theorem Want.later (s : Same H H1) (h : Want K mg W σ H Q P x) : Want K mg W σ H1 Q P x := by
  cases x with
  | ok a => exact fun v H' s' p => h v H' (s.trans s') p
  | exc c fs => exact fun cls dd H' s' p => h cls dd H' (s.trans s') p
  | bad => exact h
theorem Want.imp (h : Want K mg W σ H Q P x) (f : ∀ a v H', Same H H' → P' a v H' → (∀ (v' : γ) (H2 : Hp), Same H H2 → P a v' H2 → Q v' H2) → Q' v H') : Want K mg W σ H Q' P' x := by
  cases x with
  | ok a => exact fun v H' s p => f a v H' s p h
  | exc c fs => exact h
  | bad => exact h
/-- the first of two, then the rest -/
theorem Want.bind {f : α → R β} {P2 : β → γ → Hp → Prop} {P3 : α → δ → Hp → Prop} {Q3 : δ → Hp → Prop} (h : Want K mg W σ H Q P2 (x >>= f)) (k : ∀ a v H1, Same H H1 → P3 a v H1 → Want K mg W σ H1 Q P2 (f a) → Q3 v H1) : Want K mg W σ H Q3 P3 x := by
  cases x with
  | ok a => exact fun v H' s p => k a v H' s p (Want.later s h)
  | exc c fs => exact h
  | bad => exact h
theorem Want.map {f : α → β} {P2 : β → γ → Hp → Prop} (h : Want K mg W σ H Q P2 (x >>= fun a => pure (f a))) (k : ∀ a v H1, Same H H1 → P' a v H1 → (∀ v' : γ, P2 (f a) v' H1 → Q v' H1) → Q' v H1) : Want K mg W σ H Q' P' x :=
  Want.bind h fun a v H1 s p w => k a v H1 s p fun v' p' => w v' H1 (Same.refl _) p'
end

/-- what an expression hands on: data that no slot owns; where it is new, nothing else holds its top -/
def PF (K : PySem.W.Frag) (F : Addr → Prop) (H : Hp) (p : D × Bool) (v : V) (H' : Hp) : Prop :=
  Rep K F H' p.1 v ∧ (p.2 = true → ∃ a, v = .ref a ∧ H a = none ∧ Top K (fun x => F x ∨ x = a) H' a p.1)
/-- what is read: data, or a slot's own list or dict -/
def RepE (K : PySem.W.Frag) (F : Addr → Prop) (H : Hp) (d : D) (v : V) : Prop := Rep K F H d v ∨ ∃ a, v = .ref a ∧ Top K F H a d
/-- an argument: data, or (true) a slot's own list or dict -/
def PA' (K : PySem.W.Frag) (F O : Addr → Prop) (p : D × Bool) (v : V) (H' : Hp) : Prop :=
  if p.2 = true then ∃ a, v = .ref a ∧ O a ∧ Top K F H' a p.1 else Rep K F H' p.1 v

def isStar : Expr → Bool | .Starred .. => true | _ => false
theorem star_of {e : Expr} (h : isStar e = false) (es : List Expr) (env : PySem.Env) : starEach (e :: es) env = (false, eval e env) :: starEach es env := by
  cases e <;> first | rfl | cases h
/-- a reading answers as the function says -/
def SemF (X : Cx) (W : WX) (t : TE) (f : Rho → R (D × Bool)) : Prop := ∀ S0 H0 ρ σ H Q, Rl X.K S0 H0 ρ σ H → Want X.K X.mg W σ H Q (PF X.K (Fb S0 ρ σ) H) (f ρ) → t σ H Q
def SemA (X : Cx) (W : WX) (t : TE) (f : Rho → R (D × Bool)) : Prop := ∀ S0 H0 ρ σ H Q, Rl X.K S0 H0 ρ σ H → Want X.K X.mg W σ H Q (PA' X.K (Fb S0 ρ σ) (OwnA ρ σ)) (f ρ) → t σ H Q
structure SF (X : Cx) (W : WX) (e : Expr) (f : Rho → R (D × Bool)) : Prop where
  ns : isStar e = false
  ex : ∃ t, PE X e t ∧ SemF X W t f
structure SA (X : Cx) (W : WX) (e : Expr) (f : Rho → R (D × Bool)) : Prop where
  ns : isStar e = false
  ex : ∃ t, PE X e t ∧ SemA X W t f

/-! ### reading data -/
section
variable {K : PySem.W.Frag} {F : Addr → Prop} {H H' : Hp} {v : V}
theorem RepE.non (h : RepE K F H .non v) : v = .non := h.elim id fun ⟨_, _, t⟩ => t.elim
theorem RepE.bl {b : Bool} (h : RepE K F H (.bl b) v) : v = .bl b := h.elim id fun ⟨_, _, t⟩ => t.elim
theorem RepE.int {i : Int} (h : RepE K F H (.int i) v) : v = .int i := h.elim id fun ⟨_, _, t⟩ => t.elim
theorem RepE.str {z : Str} (h : RepE K F H (.str z) v) : v = .str z := h.elim id fun ⟨_, _, t⟩ => t.elim
theorem RepE.tup {ds : List D} (h : RepE K F H (.tup ds) v) : ∃ a vs, v = .ref a ∧ H a = some (.tup vs) ∧ Reps K F H ds vs := h.elim id fun ⟨_, _, t⟩ => t.elim
theorem RepE.ktup {ds : List D} (h : RepE K F H (.ktup ds) v) : ∃ a vs, v = .ref a ∧ SqT K H a vs ∧ Reps K F H ds vs := h.elim (fun ⟨a, vs, e, q, r⟩ => ⟨a, vs, e, .inr q, r⟩) fun ⟨_, _, t⟩ => t.elim
theorem RepE.lst {ds : List D} (h : RepE K F H (.lst ds) v) : ∃ a vs, v = .ref a ∧ H a = some (.lst vs) ∧ Reps K F H ds vs := by
  rcases h with ⟨a, vs, e, q, _, r⟩ | ⟨a, e, vs, q, r⟩
  · exact ⟨a, vs, e, q, r⟩
  · exact ⟨a, vs, e, q, r⟩
theorem RepE.dic {ks : List Key} {ds : List D} (h : RepE K F H (.dic ks ds) v) : ∃ a kvs, v = .ref a ∧ Rd H a (.dK kvs) ∧ kvs.map (·.1) = ks ∧ Reps K F H ds (kvs.map (·.2)) := by
  rcases h with ⟨a, vs, e, q, _, e2, r⟩ | ⟨a, e, vs, q, e2, r⟩
  · exact ⟨a, vs, e, q, e2, r⟩
  · exact ⟨a, vs, e, .inl q, e2, r⟩
theorem RepE.dct {ks : List (List Key)} {ds : List D} (h : RepE K F H (.dct ks ds) v) : ∃ a kvs, v = .ref a ∧ Rd H a (.dT kvs) ∧ kvs.map (·.1) = ks ∧ Reps K F H ds (kvs.map (·.2)) := by
  rcases h with ⟨a, vs, e, q, _, e2, r⟩ | ⟨a, e, vs, q, e2, r⟩
  · exact ⟨a, vs, e, q, e2, r⟩
  · exact ⟨a, vs, e, .inl q, e2, r⟩
theorem RepE.scr {ns : List Int} (h : RepE K F H (.scr ns) v) : ∃ a, v = .ref a ∧ SqL K H a (ns.map V.int) := by
  rcases h with ⟨a, e, q | q⟩ | ⟨_, _, t⟩
  · exact ⟨a, e, .inl (.inr q)⟩
  · exact ⟨a, e, .inr q⟩
  · exact t.elim
theorem RepE.same {d : D} (s : Same H H') (h : RepE K F H d v) : RepE K F H' d v := by
  rcases h with h | ⟨a, e, t⟩
  · exact .inl (h.same s)
  · exact .inr ⟨a, e, t.mono (Kp.of_same s) (fun _ z => .inl z) fun o => s a o⟩
theorem PA'.e {O : Addr → Prop} {p : D × Bool} (h : PA' K F O p v H) : RepE K F H p.1 v := by
  unfold PA' at h
  split at h
  · obtain ⟨a, e, _, t⟩ := h
    exact .inr ⟨a, e, t⟩
  · exact .inl h
theorem PA'.same {O : Addr → Prop} {p : D × Bool} (s : Same H H') (h : PA' K F O p v H) : PA' K F O p v H' := by
  unfold PA' at h ⊢
  split at h
  · rename_i q
    rw [if_pos q]
    obtain ⟨a, e, o, t⟩ := h
    exact ⟨a, e, o, t.mono (Kp.of_same s) (fun _ z => .inl z) fun o => s a o⟩
  · rename_i q
    rw [if_neg q]
    exact h.same s
theorem PF.of {H1 : Hp} {d : D} (h : Rep K F H1 d v) : PF K F H (d, false) v H1 := ⟨h, fun z => by cases z⟩
theorem same_upd {a : Addr} {o : HO} (n : H a = none) : Same H (upd H a o) := fun b u e => by
  rw [upd_ne (ne_of_none e n)]; exact e
/-- new data is laid -/
theorem PF.newL {H1 : Hp} {ds : List D} {vs : List V} {a : Addr} (hF : ∀ b, F b → ∃ o, H b = some o) (s : Same H H1) (n : H1 a = none) (r : Reps K F H1 ds vs) : PF K F H (.lst ds, true) (.ref a) (upd H1 a (.lst vs)) := by
  have nF : ¬ F a := fun z => by
    obtain ⟨o, e⟩ := hF a z
    have := s a o e
    rw [n] at this; cases this
  have r' : Reps K (fun x => F x ∨ x = a) (upd H1 a (.lst vs)) ds vs := Reps.mono (Kp.of_same (same_upd n)) (fun b z => z.elim .inl fun y => .inr (by rw [y]; exact n)) ds vs r
  exact ⟨⟨a, vs, rfl, upd_same, nF, r'.less fun _ z => .inl z⟩, fun _ => ⟨a, rfl, s.free n, vs, upd_same, r'⟩⟩
theorem PF.newT {H1 : Hp} {ds : List D} {vs : List V} {a : Addr} (n : H1 a = none) (r : Reps K F H1 ds vs) : PF K F H (.tup ds, false) (.ref a) (upd H1 a (.tup vs)) :=
  PF.of ⟨a, vs, rfl, upd_same, r.same (same_upd n)⟩
end

/-! ### operations by values -/
def WV (K : PySem.W.Frag) (F : Addr → Prop) (H : Hp) (Q : VK) : R (D × Bool) → Prop
  | .ok p => ∀ v H', Same H H' → PF K F H p v H' → Q v H'
  | _ => False
theorem WV.of_want {K : PySem.W.Frag} {mg : Str → Option Value} {W : WX} {σ : L2.St} {F : Addr → Prop} {H : Hp} {Q : VK} {r : R (D × Bool)} (ne : ∀ c fs, r ≠ .exc c fs) (h : Want K mg W σ H Q (PF K F H) r) : WV K F H Q r := by
  cases r with
  | ok p => exact h
  | exc c fs => exact absurd rfl (ne c fs)
  | bad => exact h
/-- g over data is what the reading r of values asks -/
def OpS (K : PySem.W.Frag) (r : R2) (g : D → D → R (D × Bool)) : Prop :=
  ∀ (F : Addr → Prop) (H : Hp) (x y : V) (dx dy : D) (Q : VK), (∀ a, F a → ∃ o, H a = some o) → RepE K F H dx x → RepE K F H dy y → WV K F H Q (g dx dy) → r x y H Q
/-- g raises nothing -/
def Plain2 (g : D → D → R (D × Bool)) : Prop := ∀ a b c fs, g a b ≠ .exc c fs

theorem PF.later {K : PySem.W.Frag} {F : Addr → Prop} {H H2 H' : Hp} {p : D × Bool} {v : V} (s : Same H H2) (h : PF K F H2 p v H') : PF K F H p v H' := ⟨h.1, fun z => by
  obtain ⟨a, e, n, t⟩ := h.2 z
  exact ⟨a, e, s.free n, t⟩⟩
theorem Want.pf {K : PySem.W.Frag} {mg : Str → Option Value} {W : WX} {σ : L2.St} {F : Addr → Prop} {H H2 H3 : Hp} {Q : VK} {r : R (D × Bool)} (s : Same H H2) (h : Want K mg W σ H3 Q (PF K F H) r) : Want K mg W σ H3 Q (PF K F H2) r :=
  h.imp fun a v H' s' p k => k v H' s' (p.later s)
section
variable {X : Cx} {W : WX} {a b c : Expr} {fa fb fc : Rho → R (D × Bool)} {pos : Pos}
def bA (fa : Rho → R (D × Bool)) : Rho → R (D × Bool) := fun ρ => do let p ← fa ρ; pure (p.1, false)
theorem SA.of (h : SF X W a fa) : SA X W a (bA fa) := by
  obtain ⟨t, p, h⟩ := h.ex
  refine ⟨‹SF X W a fa›.ns, t, p, fun S0 H0 ρ σ H Q r w => h S0 H0 ρ σ H Q r ?_⟩
  exact Want.map w fun p v H1 s q k => k v (by unfold PA'; rw [if_neg (by simp)]; exact q.1)
def bOp (g : D → D → R (D × Bool)) (fa fb : Rho → R (D × Bool)) : Rho → R (D × Bool) := fun ρ => do let x ← fa ρ; let y ← fb ρ; g x.1 y.1
/-- two arguments, then an operation -/
theorem sem_op {r : R2} {g : D → D → R (D × Bool)} {ta tb : TE} (hg : OpS X.K r g) (pl : Plain2 g) (ha : SemA X W ta fa) (hb : SemA X W tb fb) : SemF X W (tOp r ta tb) (bOp g fa fb) := by
  intro S0 H0 ρ σ H Q r w
  refine ha S0 H0 ρ σ H _ r (Want.bind w fun x v H1 s q w1 => ?_)
  refine hb S0 H0 ρ σ H1 _ (r.same s) (Want.bind w1 fun y u H2 s2 q2 w2 => ?_)
  exact hg (Fb S0 ρ σ) H2 v u x.1 y.1 Q (fun a z => (r.same (s.trans s2)).fbH z) (q.same s2).e q2.e (WV.of_want (pl x.1 y.1) (w2.pf (s.trans s2)))
theorem sf_op {op : Operator} {r : R2} {g : D → D → R (D × Bool)} (ho : OpR X (binaryOp op) r) (hg : OpS X.K r g) (pl : Plain2 g) (ha : SA X W a fa) (hb : SA X W b fb) : SF X W (.BinOp a op b pos) (bOp g fa fb) := by
  obtain ⟨ta, pa, ha⟩ := ha.ex
  obtain ⟨tb, pb, hb⟩ := hb.ex
  exact ⟨rfl, _, pe_op ho pa pb, sem_op hg pl ha hb⟩
theorem sf_cmp {op : CmpOp} {r : R2} {g : D → D → R (D × Bool)} (ho : OpR X (compareOp op) r) (hg : OpS X.K r g) (pl : Plain2 g) (ha : SA X W a fa) (hb : SA X W b fb) (hm : behindInMarks op b = false) : SF X W (.Compare a [op] [b] pos) (bOp g fa fb) := by
  obtain ⟨ta, pa, ha⟩ := ha.ex
  obtain ⟨tb, pb, hb⟩ := hb.ex
  exact ⟨rfl, _, pe_cmpR ho pa pb hm, sem_op hg pl ha hb⟩
theorem sf_ix {r : R2} {g : D → D → R (D × Bool)} (ho : IxR X r) (hg : OpS X.K r g) (pl : Plain2 g) (ha : SA X W a fa) (hb : SA X W b fb) (hs : PlainIx b) : SF X W (.Subscript a b pos) (bOp g fa fb) := by
  obtain ⟨ta, pa, ha⟩ := ha.ex
  obtain ⟨tb, pb, hb⟩ := hb.ex
  exact ⟨rfl, _, pe_ix ho pa pb hs, sem_op hg pl ha hb⟩
/-- tests -/
def PT' (b : Bool) (k : Bool) (_ : Hp) : Prop := k = b
structure ST (X : Cx) (W : WX) (e : Expr) (f : Rho → R Bool) : Prop where
  ex : ∃ t, PT X e t ∧ ∀ S0 H0 ρ σ H (Q : Bool → Hp → Prop), Rl X.K S0 H0 ρ σ H → Want X.K X.mg W σ H Q PT' (f ρ) → t σ H Q
def unB : D × Bool → R Bool
  | (.bl b, _) => .ok b
  | _ => .bad
def bT (f : Rho → R (D × Bool)) : Rho → R Bool := fun ρ => do let p ← f ρ; unB p
theorem tst_of {t : TE} (h : SemF X W t fa) (p : PT X a (tTest t)) : ST X W a (bT fa) := by
  refine ⟨_, p, fun S0 H0 ρ σ H Q r w => ?_⟩
  refine h S0 H0 ρ σ H _ r (Want.bind w fun x v H1 s q w1 => ?_)
  obtain ⟨d, b⟩ := x
  cases d with
  | bl c => exact ⟨c, RepE.bl (.inl q.1), w1 c H1 (Same.refl _) rfl⟩
  | _ => exact (show False from w1).elim
theorem st_cmp {op : CmpOp} {r : R2} {g : D → D → R (D × Bool)} (ho : OpR X (compareOp op) r) (hg : OpS X.K r g) (pl : Plain2 g) (ha : SA X W a fa) (hb : SA X W b fb) (hm : behindInMarks op b = false) : ST X W (.Compare a [op] [b] pos) (bT (bOp g fa fb)) := by
  obtain ⟨ta, pa, ha⟩ := ha.ex
  obtain ⟨tb, pb, hb⟩ := hb.ex
  exact tst_of (sem_op hg pl ha hb) (pt_cmpR ho pa pb hm)
/-- a op1 b op2 c -/
def bChain (g g' : D → D → R (D × Bool)) (fa fb fc : Rho → R (D × Bool)) : Rho → R (D × Bool) := fun ρ => do
  let x ← fa ρ
  let y ← fb ρ
  let p ← g x.1 y.1
  let k ← unB p
  if k = true then (do let z ← fc ρ; g' y.1 z.1) else pure (.bl false, false)
theorem sem_chain {r r' : R2} {g g' : D → D → R (D × Bool)} {ta tb tc : TE} (hg : OpS X.K r g) (pl : Plain2 g) (hg' : OpS X.K r' g') (pl' : Plain2 g') (ha : SemA X W ta fa) (hb : SemA X W tb fb) (hc : SemA X W tc fc) : SemF X W (tChain r r' ta tb tc) (bChain g g' fa fb fc) := by
  intro S0 H0 ρ σ H Q r w
  refine ha S0 H0 ρ σ H _ r (Want.bind w fun x v H1 s q w1 => ?_)
  refine hb S0 H0 ρ σ H1 _ (r.same s) (Want.bind w1 fun y u H2 s2 q2 w2 => ?_)
  have r2 := r.same (s.trans s2)
  refine hg (Fb S0 ρ σ) H2 v u x.1 y.1 _ (fun a z => r2.fbH z) (q.same s2).e q2.e ?_
  cases e : g x.1 y.1 with
  | exc c fs => exact absurd e (pl _ _ _ _)
  | bad => rw [e] at w2; exact w2
  | ok p =>
    rw [e] at w2
    intro z H3 s3 p3
    obtain ⟨d, fl⟩ := p
    cases d with
    | bl k =>
      refine ⟨k, RepE.bl (.inl p3.1), ?_⟩
      have w2' : Want X.K X.mg W σ H2 Q (PF X.K (Fb S0 ρ σ) H) (if k = true then (do let z ← fc ρ; g' y.1 z.1) else pure (.bl false, false)) := w2
      cases k with
      | false => exact w2' _ _ s3 (PF.of rfl)
      | true =>
        refine hc S0 H0 ρ σ H3 _ (r2.same s3) (Want.bind (Want.later s3 w2') fun z' v' H4 s4 q4 w4 => ?_)
        exact hg' (Fb S0 ρ σ) H4 u v' y.1 z'.1 Q (fun a z => (r2.same (s3.trans s4)).fbH z) (q2.same (s3.trans s4)).e q4.e (WV.of_want (pl' y.1 z'.1) (w4.pf ((s.trans s2).trans (s3.trans s4))))
    | _ => exact (show False from w2).elim
theorem sf_chain {op op' : CmpOp} {r r' : R2} {g g' : D → D → R (D × Bool)} (ho : OpR X (compareOp op) r) (hg : OpS X.K r g) (pl : Plain2 g) (ho' : OpR X (compareOp op') r') (hg' : OpS X.K r' g') (pl' : Plain2 g')
    (ha : SA X W a fa) (hb : SA X W b fb) (hc : SA X W c fc) (hm : lastMarks [op, op'] [b, c] = false) : SF X W (.Compare a [op, op'] [b, c] pos) (bChain g g' fa fb fc) := by
  obtain ⟨ta, pa, ha⟩ := ha.ex
  obtain ⟨tb, pb, hb⟩ := hb.ex
  obtain ⟨tc, pc, hc⟩ := hc.ex
  exact ⟨rfl, _, pe_chain ho ho' pa pb pc hm, sem_chain hg pl hg' pl' ha hb hc⟩
theorem st_chain {op op' : CmpOp} {r r' : R2} {g g' : D → D → R (D × Bool)} (ho : OpR X (compareOp op) r) (hg : OpS X.K r g) (pl : Plain2 g) (ho' : OpR X (compareOp op') r') (hg' : OpS X.K r' g') (pl' : Plain2 g')
    (ha : SA X W a fa) (hb : SA X W b fb) (hc : SA X W c fc) (hm : lastMarks [op, op'] [b, c] = false) : ST X W (.Compare a [op, op'] [b, c] pos) (bT (bChain g g' fa fb fc)) := by
  obtain ⟨ta, pa, ha⟩ := ha.ex
  obtain ⟨tb, pb, hb⟩ := hb.ex
  obtain ⟨tc, pc, hc⟩ := hc.ex
  exact tst_of (sem_chain hg pl hg' pl' ha hb hc) (pt_chain ho ho' pa pb pc hm)
/-- a value that is a truth, as a test -/
def plainT : Expr → Bool
  | .UnaryOp .Not _ _ => false | .BoolOp .. => false | .IfExp .. => false | .Compare .. => false
  | _ => true
theorem isTrue_pl {e : Expr} (h : plainT e = true) (env : PySem.Env) (whole : Sem Value) : isTrue e env whole = (do let v ← whole; standAt e.pos; holding [v] (truthy v)) := by
  cases e with
  | UnaryOp op x p => cases op <;> first | rfl | cases h
  | BoolOp => cases h
  | IfExp => cases h
  | Compare => cases h
  | _ => rfl
theorem st_val (ha : SF X W a fa) (h : plainT a = true) : ST X W a (bT fa) := by
  obtain ⟨ta, pa, ha⟩ := ha.ex
  exact tst_of ha (pt_val pa fun whole => isTrue_pl h _ _)
theorem st_not {f : Rho → R Bool} (h : ST X W a f) : ST X W (.UnaryOp .Not a pos) (fun ρ => do let b ← f ρ; pure (!b)) := by
  obtain ⟨t, p, h⟩ := h.ex
  refine ⟨_, pt_not p, fun S0 H0 ρ σ H Q r w => h S0 H0 ρ σ H _ r ?_⟩
  exact Want.map w fun b v H1 s q k => by
    have q' : v = b := q
    subst q'
    exact k _ rfl
structure SW (X : Cx) (W : WX) (e : Expr) (f : Rho → R Bool) : Prop where
  ex : ∃ t, PW X e t ∧ ∀ S0 H0 ρ σ H (Q : Bool → Hp → Prop), Rl X.K S0 H0 ρ σ H → Want X.K X.mg W σ H Q PT' (f ρ) → t σ H Q
theorem SW.st {f : Rho → R Bool} (h : SW X W a f) : ST X W a f := by
  obtain ⟨t, p, h⟩ := h.ex
  exact ⟨t, p.pt, h⟩
theorem sw_one {f : Rho → R Bool} (op : BoolOp) (h : ST X W a f) : SW X W (.BoolOp op [a] pos) f := by
  obtain ⟨t, p, h⟩ := h.ex
  cases op with
  | And => exact ⟨t, pw_and1 p, h⟩
  | Or => exact ⟨t, pw_or1 p, h⟩
def bAndT (f g : Rho → R Bool) : Rho → R Bool := fun ρ => do let b ← f ρ; if b = true then g ρ else pure false
def bOrT (f g : Rho → R Bool) : Rho → R Bool := fun ρ => do let b ← f ρ; if b = true then pure true else g ρ
theorem sw_and {rest : List Expr} {f g : Rho → R Bool} (h : ST X W a f) (k : SW X W (.BoolOp .And (b :: rest) pos) g) : SW X W (.BoolOp .And (a :: b :: rest) pos) (bAndT f g) := by
  obtain ⟨t, p, h⟩ := h.ex
  obtain ⟨u, q, k⟩ := k.ex
  refine ⟨_, pw_and p q, fun S0 H0 ρ σ H Q r w => h S0 H0 ρ σ H _ r (Want.bind w fun c v H1 s z w1 => ?_)⟩
  have z' : v = c := z
  subst z'
  cases v with
  | true => exact k S0 H0 ρ σ H1 Q (r.same s) w1
  | false => exact w1 false H1 (Same.refl _) rfl
theorem sw_or {rest : List Expr} {f g : Rho → R Bool} (h : ST X W a f) (k : SW X W (.BoolOp .Or (b :: rest) pos) g) : SW X W (.BoolOp .Or (a :: b :: rest) pos) (bOrT f g) := by
  obtain ⟨t, p, h⟩ := h.ex
  obtain ⟨u, q, k⟩ := k.ex
  refine ⟨_, pw_or p q, fun S0 H0 ρ σ H Q r w => h S0 H0 ρ σ H _ r (Want.bind w fun c v H1 s z w1 => ?_)⟩
  have z' : v = c := z
  subst z'
  cases v with
  | true => exact w1 true H1 (Same.refl _) rfl
  | false => exact k S0 H0 ρ σ H1 Q (r.same s) w1
/-- and, or, not as values -/
theorem sf_one (op : BoolOp) (h : SF X W a fa) : SF X W (.BoolOp op [a] pos) fa := by
  obtain ⟨t, p, h⟩ := h.ex
  exact ⟨rfl, t, pe_one p, h⟩
def bAndV (f g : Rho → R (D × Bool)) : Rho → R (D × Bool) := fun ρ => do let p ← f ρ; let b ← unB p; if b = true then g ρ else pure (.bl false, false)
def bOrV (f g : Rho → R (D × Bool)) : Rho → R (D × Bool) := fun ρ => do let p ← f ρ; let b ← unB p; if b = true then pure (.bl true, false) else g ρ
def bNotV (f : Rho → R (D × Bool)) : Rho → R (D × Bool) := fun ρ => do let p ← f ρ; let b ← unB p; pure (.bl (!b), false)
theorem sf_and {rest : List Expr} (h : SF X W a fa) (k : SF X W (.BoolOp .And (b :: rest) pos) fb) : SF X W (.BoolOp .And (a :: b :: rest) pos) (bAndV fa fb) := by
  obtain ⟨t, p, h⟩ := h.ex
  obtain ⟨u, q, k⟩ := k.ex
  refine ⟨rfl, _, pe_and p q, fun S0 H0 ρ σ H Q r w => h S0 H0 ρ σ H _ r (Want.bind w fun c v H1 s z w1 => ?_)⟩
  obtain ⟨d, fl⟩ := c
  cases d with
  | bl c =>
    refine ⟨c, RepE.bl (.inl z.1), ?_⟩
    cases c with
    | true => exact k S0 H0 ρ σ H1 Q (r.same s) (w1.pf s)
    | false => exact w1 _ H1 (Same.refl _) (PF.of rfl)
  | _ => exact (show False from w1).elim
theorem sf_or {rest : List Expr} (h : SF X W a fa) (k : SF X W (.BoolOp .Or (b :: rest) pos) fb) : SF X W (.BoolOp .Or (a :: b :: rest) pos) (bOrV fa fb) := by
  obtain ⟨t, p, h⟩ := h.ex
  obtain ⟨u, q, k⟩ := k.ex
  refine ⟨rfl, _, pe_or p q, fun S0 H0 ρ σ H Q r w => h S0 H0 ρ σ H _ r (Want.bind w fun c v H1 s z w1 => ?_)⟩
  obtain ⟨d, fl⟩ := c
  cases d with
  | bl c =>
    refine ⟨c, RepE.bl (.inl z.1), ?_⟩
    cases c with
    | true => exact w1 _ H1 (Same.refl _) (PF.of rfl)
    | false => exact k S0 H0 ρ σ H1 Q (r.same s) (w1.pf s)
  | _ => exact (show False from w1).elim
theorem sf_not (h : SF X W a fa) : SF X W (.UnaryOp .Not a pos) (bNotV fa) := by
  obtain ⟨t, p, h⟩ := h.ex
  refine ⟨rfl, _, pe_not p, fun S0 H0 ρ σ H Q r w => h S0 H0 ρ σ H _ r (Want.bind w fun c v H1 s z w1 => ?_)⟩
  obtain ⟨d, fl⟩ := c
  cases d with
  | bl c => exact ⟨c, RepE.bl (.inl z.1), w1 _ H1 (Same.refl _) (PF.of rfl)⟩
  | _ => exact (show False from w1).elim
def bIf (c : Rho → R Bool) (f g : Rho → R (D × Bool)) : Rho → R (D × Bool) := fun ρ => do let b ← c ρ; if b = true then f ρ else g ρ
theorem sf_if {f : Rho → R Bool} (hc : ST X W c f) (ha : SF X W a fa) (hb : SF X W b fb) : SF X W (.IfExp c a b pos) (bIf f fa fb) := by
  obtain ⟨t, p, h⟩ := hc.ex
  obtain ⟨u, q, k⟩ := ha.ex
  obtain ⟨u', q', k'⟩ := hb.ex
  refine ⟨rfl, _, pe_ifExp p q q', fun S0 H0 ρ σ H Q r w => h S0 H0 ρ σ H _ r (Want.bind w fun c v H1 s z w1 => ?_)⟩
  have z' : v = c := z
  subst z'
  cases v with
  | true => exact k S0 H0 ρ σ H1 Q (r.same s) (w1.pf s)
  | false => exact k' S0 H0 ρ σ H1 Q (r.same s) (w1.pf s)
/-- -a -/
def bUn (g : D → R (D × Bool)) (f : Rho → R (D × Bool)) : Rho → R (D × Bool) := fun ρ => do let p ← f ρ; g p.1
def dNeg : D → R (D × Bool)
  | .int i => .ok (.int (-i), false)
  | _ => .bad
theorem sf_neg (h : SF X W a fa) : SF X W (.UnaryOp .USub a pos) (bUn dNeg fa) := by
  obtain ⟨t, p, h⟩ := h.ex
  refine ⟨rfl, _, pe_un un_neg p, fun S0 H0 ρ σ H Q r w => h S0 H0 ρ σ H _ r (Want.bind w fun c v H1 s z w1 => ?_)⟩
  obtain ⟨d, fl⟩ := c
  cases d with
  | int i => exact ⟨i, RepE.int (.inl z.1), w1 _ H1 (Same.refl _) (PF.of rfl)⟩
  | _ => exact (show False from w1).elim
end

/-! ### the operators over data -/
def okB (b : Bool) : R (D × Bool) := .ok (.bl b, false)
def okI (i : Int) : R (D × Bool) := .ok (.int i, false)
def dAdd : D → D → R (D × Bool)
  | .int i, .int j => okI (i + j)
  | .str s, .str t => if s.length + t.length ≤ sizeLine then .ok (.str (s ++ t), false) else .bad
  | .lst xs, .lst ys => if xs.length + ys.length ≤ sizeLine then .ok (.lst (xs ++ ys), true) else .bad
  | .tup xs, .tup ys => if xs.length + ys.length ≤ sizeLine then .ok (.tup (xs ++ ys), false) else .bad
  | _, _ => .bad
def dSub : D → D → R (D × Bool)
  | .int i, .int j => okI (i - j)
  | _, _ => .bad
def mulOk (i j : Int) : Prop := i.natAbs.log2 + j.natAbs.log2 < 1000000
instance (i j : Int) : Decidable (mulOk i j) := inferInstanceAs (Decidable (_ < _))
def smulOk (x : Str) (n : Int) : Prop := 0 < n ∧ x.length * n.toNat ≤ 16777216 ∧ n < 16777216
instance (x : Str) (n : Int) : Decidable (smulOk x n) := inferInstanceAs (Decidable (_ ∧ _ ∧ _))
def repOk (n : Nat) (j : Int) : Prop := 0 ≤ j ∧ j < 16777216 ∧ n * j.toNat ≤ sizeLine
instance (n : Nat) (j : Int) : Decidable (repOk n j) := inferInstanceAs (Decidable (_ ∧ _ ∧ _))
def dMul : D → D → R (D × Bool)
  | .int i, .int j => if mulOk i j then okI (i * j) else .bad
  | .lst xs, .int j => if repOk xs.length j then .ok (.lst (List.replicate j.toNat xs).flatten, true) else .bad
  | .str s, .int j => if smulOk s j then .ok (.str (Txt.mul s j), false) else .bad
  | _, _ => .bad
def divOk (j : Int) : Prop := j ≠ 0 ∧ j.natAbs.log2 < 9000
instance (j : Int) : Decidable (divOk j) := inferInstanceAs (Decidable (_ ∧ _))
def pyDiv (i j : Int) : Int := if 0 < j then i / j else i.fdiv j
def pyMod (i j : Int) : Int := if 0 < j then i % j else i.fmod j
def dDiv : D → D → R (D × Bool)
  | .int i, .int j => if divOk j then okI (pyDiv i j) else .bad
  | _, _ => .bad
def dMod : D → D → R (D × Bool)
  | .int i, .int j => if j ≠ 0 then okI (pyMod i j) else .bad
  | _, _ => .bad
def powOk (i j : Int) : Prop := 0 ≤ j ∧ j ≤ 1000000 ∧ i.natAbs < 2 ^ 64
instance (i j : Int) : Decidable (powOk i j) := inferInstanceAs (Decidable (_ ∧ _ ∧ _))
def dPow : D → D → R (D × Bool)
  | .int i, .int j => if powOk i j then okI (i ^ j.toNat) else .bad
  | _, _ => .bad
end VM
/-! VM3: the operators' rules. -/
namespace VM
open PySem L2

/-! ### equality -/
mutual
def toP : D → Option PyData
  | .non => some .none
  | .bl b => some (.bool b)
  | .int i => some (.int i)
  | .str s => some (.str s)
  | .tup ds => (toPs ds).map PyData.tuple
  | .ktup ds => (toPs ds).map PyData.tuple
  | .lst ds => (toPs ds).map PyData.list
  | .scr _ => none | .dic _ _ => none | .dct _ _ => none | .obj _ _ _ => none
def toPs : List D → Option (List PyData)
  | [] => some []
  | d :: ds => match toP d, toPs ds with
    | some p, some ps => some (p :: ps)
    | _, _ => none
end
mutual
theorem toP_dp {K : PySem.W.Frag} {F : Addr → Prop} {H : Hp} : ∀ (d : D) (p : PyData) (v : V), toP d = some p → RepE K F H d v → Dp K H v p
  | .non, p, v, e, h => by
    cases e; rw [h.non]; exact .non
  | .bl b, p, v, e, h => by
    cases e; rw [h.bl]; exact .bl b
  | .int i, p, v, e, h => by
    cases e; rw [h.int]; exact .int i
  | .str s, p, v, e, h => by
    cases e; rw [h.str]; exact .str s
  | .tup ds, p, v, e, h => by
    obtain ⟨a, vs, ev, q, r⟩ := h.tup
    subst ev
    have e' : (toPs ds).map PyData.tuple = some p := e
    cases h2 : toPs ds with
    | none => rw [h2] at e'; cases e'
    | some ps =>
      rw [h2] at e'; cases e'
      exact .tup (SqT.of q) (toPs_dp ds ps vs h2 r)
  | .ktup ds, p, v, e, h => by
    obtain ⟨a, vs, ev, q, r⟩ := h.ktup
    subst ev
    have e' : (toPs ds).map PyData.tuple = some p := e
    cases h2 : toPs ds with
    | none => rw [h2] at e'; cases e'
    | some ps =>
      rw [h2] at e'; cases e'
      exact .tup q (toPs_dp ds ps vs h2 r)
  | .lst ds, p, v, e, h => by
    obtain ⟨a, vs, ev, q, r⟩ := h.lst
    subst ev
    have e' : (toPs ds).map PyData.list = some p := e
    cases h2 : toPs ds with
    | none => rw [h2] at e'; cases e'
    | some ps =>
      rw [h2] at e'; cases e'
      exact .lst (SqL.of q) (toPs_dp ds ps vs h2 r)
  | .scr _, p, v, e, h => by cases e
  | .dic _ _, p, v, e, h => by cases e
  | .dct _ _, p, v, e, h => by cases e
  | .obj _ _ _, p, v, e, h => by cases e
theorem toPs_dp {K : PySem.W.Frag} {F : Addr → Prop} {H : Hp} : ∀ (ds : List D) (ps : List PyData) (vs : List V), toPs ds = some ps → Reps K F H ds vs → DpAll K H vs ps
  | [], ps, vs, e, h => by
    have e' : vs = [] := h
    cases e; subst e'; exact .nil
  | d :: ds, ps, vs, e, h => by
    obtain ⟨v, vs', ev, r, rs⟩ := h
    subst ev
    unfold toPs at e
    split at e
    · rename_i p ps' h1 h2
      cases e
      exact .cons (toP_dp d p v h1 (.inl r)) (toPs_dp ds ps' vs' h2 rs)
    · cases e
end
/-- == of data -/
def scalD : D → D → Option Bool
  | .int i, .int j => some (decide (i = j))
  | .str s, .str t => some (decide (s = t))
  | .bl a, .bl b => some (decide (a = b))
  | .non, .non => some true
  | .non, .int _ => some false | .int _, .non => some false | .non, .str _ => some false | .str _, .non => some false | .non, .bl _ => some false | .bl _, .non => some false
  | .int _, .str _ => some false | .str _, .int _ => some false | .bl _, .str _ => some false | .str _, .bl _ => some false
  | _, _ => none
def deepD (a b : D) : Option Bool := match toP a, toP b with
  | some p, some q => if PySem.SeqAt.shaped p = true ∧ PySem.SeqAt.shaped q = true then some (PyData.eqv p q) else none
  | _, _ => none
def eqD (a b : D) : Option Bool := match scalD a b with
  | some r => some r
  | none => deepD a b
def dEq (a b : D) : R (D × Bool) := match eqD a b with
  | some r => okB r
  | none => .bad
def dNe (a b : D) : R (D × Bool) := match eqD a b with
  | some r => okB (!r)
  | none => .bad
def dCmp (p : Int → Int → Bool) (q : List Nat → List Nat → Bool) : D → D → R (D × Bool)
  | .int i, .int j => okB (p i j)
  | .str s, .str t => okB (q s.cps.toList t.cps.toList)
  | _, _ => .bad
def dLt := dCmp (fun i j => decide (i < j)) (fun s t => decide (s < t))
def dLe := dCmp (fun i j => decide (i ≤ j)) (fun s t => !decide (t < s))
def dGt := dCmp (fun i j => decide (j < i)) (fun s t => decide (t < s))
def dGe := dCmp (fun i j => decide (j ≤ i)) (fun s t => !decide (s < t))

section
variable {X : Cx}
/-! ### + -/
def rAddD (K : PySem.W.Frag) : R2 := fun x y H Q => (rI0 (fun i j => .int (i + j)) x y H Q ∨ (∃ i j, x = .str i ∧ y = .str j ∧ i.length + j.length ≤ sizeLine ∧ Q (.str (i ++ j)) H)) ∨ (rCat x y H Q ∨ rCatA K x y H Q)
theorem op_addD : OpR X (binaryOp .Add) (rAddD X.K) := OpR.or (OpR.or op_add op_add_str) (OpR.or op_cat op_catA)
theorem okI_v {K : PySem.W.Frag} {F : Addr → Prop} {H : Hp} {Q : VK} {i : Int} (w : WV K F H Q (okI i)) : Q (.int i) H := w (.int i) H (Same.refl _) ⟨rfl, fun z => by cases z⟩
theorem okB_v {K : PySem.W.Frag} {F : Addr → Prop} {H : Hp} {Q : VK} {i : Bool} (w : WV K F H Q (okB i)) : Q (.bl i) H := w (.bl i) H (Same.refl _) ⟨rfl, fun z => by cases z⟩
theorem okS_v {K : PySem.W.Frag} {F : Addr → Prop} {H : Hp} {Q : VK} {i : Str} (w : WV K F H Q (.ok (.str i, false))) : Q (.str i) H := w (.str i) H (Same.refl _) ⟨rfl, fun z => by cases z⟩
theorem opS_add {K : PySem.W.Frag} : OpS K (rAddD K) dAdd := by
  intro F H x y dx dy Q hF hx hy w
  unfold dAdd at w
  split at w
  · exact .inl (.inl ⟨_, _, hx.int, hy.int, okI_v w⟩)
  · split at w
    · rename_i hz
      exact .inl (.inr ⟨_, _, hx.str, hy.str, hz, okS_v w⟩)
    · exact w.elim
  · split at w
    · rename_i hz
      obtain ⟨a, vs, e1, q1, r1⟩ := hx.lst
      obtain ⟨b, us, e2, q2, r2⟩ := hy.lst
      refine .inr (.inl ⟨a, b, vs, us, e1, e2, q1, q2, by rw [r1.length, r2.length]; exact hz, fun p n => ?_⟩)
      exact w _ _ (same_upd n) (PF.newL hF (Same.refl _) n (r1.app r2))
    · exact w.elim
  · split at w
    · rename_i hz
      obtain ⟨a, vs, e1, q1, r1⟩ := hx.tup
      obtain ⟨b, us, e2, q2, r2⟩ := hy.tup
      refine .inr (.inr ⟨a, b, vs, us, e1, e2, SqT.of q1, SqT.of q2, by rw [r1.length, r2.length]; exact hz, fun z => ?_, fun z1 z2 => ?_, fun _ _ p n => ?_⟩)
      · refine w _ _ (Same.refl _) (PF.of ⟨b, us, rfl, q2, ?_⟩)
        have := Reps.app r1 r2
        rw [z] at this
        exact this
      · refine w _ _ (Same.refl _) (PF.of ⟨a, vs, rfl, q1, ?_⟩)
        have := Reps.app r1 r2
        rw [z2, List.append_nil] at this
        exact this
      · exact w _ _ (same_upd n) (PF.newT n (r1.app r2))
    · exact w.elim
  · exact w.elim
theorem pl_add : Plain2 dAdd := by
  intro a b c fs h
  unfold dAdd at h
  split at h <;> first | cases h | (split at h <;> cases h)
/-! ### - * // % ** -/
theorem opS_sub {K : PySem.W.Frag} : OpS K (rI0 fun i j => .int (i - j)) dSub := by
  intro F H x y dx dy Q hF hx hy w
  unfold dSub at w
  split at w
  · exact ⟨_, _, hx.int, hy.int, okI_v w⟩
  · exact w.elim
theorem pl_sub : Plain2 dSub := by
  intro a b c fs h
  unfold dSub at h
  split at h <;> cases h
def rMulD : R2 := fun x y H Q => rI CMulW (fun i j => .int (i * j)) x y H Q ∨ (∃ s j, x = .str s ∧ y = .int j ∧ smulOk s j ∧ Q (.str (Txt.mul s j)) H) ∨ rRep x y H Q
theorem op_smul : OpR X (binaryOp .Mult) (fun x y H Q => ∃ s j, x = .str s ∧ y = .int j ∧ smulOk s j ∧ Q (.str (Txt.mul s j)) H) := by
  intro pins s σ H x y v u Q I rx ry h
  obtain ⟨z, j, rfl, rfl, ⟨h0, h1, h2⟩, q⟩ := h
  obtain ⟨t, rfl⟩ := rx
  obtain ⟨t', rfl⟩ := ry
  refine PySem.SB.mul ⟨?_, fun _ _ => ?_, fun _ _ => ?_⟩ fun t' k => ⟨.str _, H, I.tok _, ⟨_, rfl⟩, q⟩
  · have e1 : decide (j < -(2 ^ 63 : Int)) = false := decide_eq_false (by omega)
    have e2 : decide (j ≥ 2 ^ 63) = false := decide_eq_false (by omega)
    rw [e1, e2]; rfl
  · obtain ⟨m, rfl⟩ := Int.eq_ofNat_of_zero_le (Int.le_of_lt h0)
    have hm : z.length * m ≤ 16777216 := h1
    rw [gt_iff_lt, Int.not_lt]
    refine Int.le_ediv_of_mul_le h0 ?_
    have : ((z.length * m : Nat) : Int) ≤ 16777216 := by omega
    rw [Int.natCast_mul] at this
    omega
  · unfold Builtin.Str.tooLong
    rw [decide_eq_false_iff_not]
    have e := sizeLine_eq
    omega
theorem op_mulD : OpR X (binaryOp .Mult) rMulD := OpR.or op_mulW (OpR.or op_smul op_rep)
theorem Reps.rep {K : PySem.W.Frag} {F : Addr → Prop} {H : Hp} {ds : List D} {vs : List V} (r : Reps K F H ds vs) : ∀ n : Nat, Reps K F H (List.replicate n ds).flatten (List.replicate n vs).flatten
  | 0 => rfl
  | n + 1 => by
    rw [List.replicate_succ, List.replicate_succ, List.flatten_cons, List.flatten_cons]
    exact r.app (Reps.rep r n)
theorem opS_mul {K : PySem.W.Frag} : OpS K rMulD dMul := by
  intro F H x y dx dy Q hF hx hy w
  unfold dMul at w
  split at w
  · split at w
    · rename_i h
      exact .inl ⟨_, _, hx.int, hy.int, h, okI_v w⟩
    · exact w.elim
  · split at w
    · rename_i h
      obtain ⟨h1, h2, h3⟩ := h
      obtain ⟨a, vs, e1, q1, r1⟩ := hx.lst
      exact .inr (.inr ⟨a, _, vs, e1, hy.int, q1, by omega, by omega, by rw [r1.length]; exact h3, fun p n => w _ _ (same_upd n) (PF.newL hF (Same.refl _) n (r1.rep _))⟩)
    · exact w.elim
  · split at w
    · rename_i h
      exact .inr (.inl ⟨_, _, hx.str, hy.int, h, okS_v w⟩)
    · exact w.elim
  · exact w.elim
theorem pl_mul : Plain2 dMul := by
  intro a b c fs h
  unfold dMul at h
  split at h <;> first | cases h | (split at h <;> cases h)
theorem op_divD : OpR X (binaryOp .FloorDiv) (rI (fun _ j => divOk j) fun i j => .int (pyDiv i j)) := opI fun i j _ _ _ _ _ hc q => by
  refine PyProof.Rows.floordiv_int hc.1 ?_ (.inl (PyProof.noPylong_of_log2 hc.2))
  unfold pyDiv at q
  split at q
  · rename_i h
    rw [Int.fdiv_eq_ediv_of_nonneg i (by omega)]; exact q
  · exact q
theorem opS_div {K : PySem.W.Frag} : OpS K (rI (fun _ j => divOk j) fun i j => .int (pyDiv i j)) dDiv := by
  intro F H x y dx dy Q hF hx hy w
  unfold dDiv at w
  split at w
  · split at w
    · rename_i h
      exact ⟨_, _, hx.int, hy.int, h, okI_v w⟩
    · exact w.elim
  · exact w.elim
theorem pl_div : Plain2 dDiv := by
  intro a b c fs h
  unfold dDiv at h
  split at h <;> first | cases h | (split at h <;> cases h)
theorem op_modD : OpR X (binaryOp .Mod) (rI (fun _ j => j ≠ 0) fun i j => .int (pyMod i j)) := opI fun i j _ _ _ _ _ hc q => by
  refine PyProof.Rows.mod_int' hc ?_
  unfold pyMod at q
  split at q
  · rename_i h
    rw [Int.fmod_eq_emod_of_nonneg i (by omega)]; exact q
  · exact q
theorem opS_mod {K : PySem.W.Frag} : OpS K (rI (fun _ j => j ≠ 0) fun i j => .int (pyMod i j)) dMod := by
  intro F H x y dx dy Q hF hx hy w
  unfold dMod at w
  split at w
  · split at w
    · rename_i h
      exact ⟨_, _, hx.int, hy.int, h, okI_v w⟩
    · exact w.elim
  · exact w.elim
theorem pl_mod : Plain2 dMod := by
  intro a b c fs h
  unfold dMod at h
  split at h <;> first | cases h | (split at h <;> cases h)
theorem opS_pow {K : PySem.W.Frag} : OpS K (rI CPow fun i j => .int (i ^ j.toNat)) dPow := by
  intro F H x y dx dy Q hF hx hy w
  unfold dPow at w
  split at w
  · split at w
    · rename_i h
      exact ⟨_, _, hx.int, hy.int, h, okI_v w⟩
    · exact w.elim
  · exact w.elim
theorem pl_pow : Plain2 dPow := by
  intro a b c fs h
  unfold dPow at h
  split at h <;> first | cases h | (split at h <;> cases h)
/-! ### == != < <= > >= -/
def rEqDD (K : PySem.W.Frag) : R2 := fun x y H Q => rEq x y H Q ∨ rEqD K x y H Q
def rNeDD (K : PySem.W.Frag) : R2 := fun x y H Q => rNe x y H Q ∨ rNeD K x y H Q
theorem op_eqDD (hu : X.A.units + 64 < cLine) : OpR X (compareOp .Eq) (rEqDD X.K) := OpR.or op_eq (op_eqD hu)
theorem op_neDD (hu : X.A.units + 64 < cLine) : OpR X (compareOp .NotEq) (rNeDD X.K) := OpR.or op_ne (op_neD hu)
theorem scalD_V {K : PySem.W.Frag} {F : Addr → Prop} {H : Hp} {x y : V} {dx dy : D} {r : Bool} (hx : RepE K F H dx x) (hy : RepE K F H dy y) (e : scalD dx dy = some r) : scal x y = true ∧ decide (x = y) = r := by
  unfold scalD at e
  split at e <;> cases e
  · rw [hx.int, hy.int]; exact ⟨rfl, by simp⟩
  · rw [hx.str, hy.str]; exact ⟨rfl, by simp⟩
  · rw [hx.bl, hy.bl]; exact ⟨rfl, by simp⟩
  · rw [hx.non, hy.non]; exact ⟨rfl, by simp⟩
  · rw [hx.non, hy.int]; exact ⟨rfl, by simp⟩
  · rw [hx.int, hy.non]; exact ⟨rfl, by simp⟩
  · rw [hx.non, hy.str]; exact ⟨rfl, by simp⟩
  · rw [hx.str, hy.non]; exact ⟨rfl, by simp⟩
  · rw [hx.non, hy.bl]; exact ⟨rfl, by simp⟩
  · rw [hx.bl, hy.non]; exact ⟨rfl, by simp⟩
  · rw [hx.int, hy.str]; exact ⟨rfl, by simp⟩
  · rw [hx.str, hy.int]; exact ⟨rfl, by simp⟩
  · rw [hx.bl, hy.str]; exact ⟨rfl, by simp⟩
  · rw [hx.str, hy.bl]; exact ⟨rfl, by simp⟩
theorem deepD_V {K : PySem.W.Frag} {F : Addr → Prop} {H : Hp} {x y : V} {dx dy : D} {r : Bool} (hx : RepE K F H dx x) (hy : RepE K F H dy y) (e : deepD dx dy = some r) :
    ∃ d e, Dp K H x d ∧ Dp K H y e ∧ PySem.SeqAt.shaped d = true ∧ PySem.SeqAt.shaped e = true ∧ PyData.eqv d e = r := by
  unfold deepD at e
  split at e
  · rename_i p q h1 h2
    split at e
    · rename_i hs
      cases e
      exact ⟨p, q, toP_dp _ _ _ h1 hx, toP_dp _ _ _ h2 hy, hs.1, hs.2, rfl⟩
    · cases e
  · cases e
theorem opS_eq {K : PySem.W.Frag} : OpS K (rEqDD K) dEq := by
  intro F H x y dx dy Q hF hx hy w
  unfold dEq eqD at w
  cases e : scalD dx dy with
  | some r =>
    rw [e] at w
    obtain ⟨h1, h2⟩ := scalD_V hx hy e
    refine .inl ⟨h1, ?_⟩
    rw [h2]; exact okB_v w
  | none =>
    rw [e] at w
    cases e2 : deepD dx dy with
    | some r =>
      rw [e2] at w
      obtain ⟨d, e, h1, h2, h3, h4, h5⟩ := deepD_V hx hy e2
      refine .inr ⟨d, e, h1, h2, h3, h4, ?_⟩
      rw [h5]; exact okB_v w
    | none => rw [e2] at w; exact w.elim
theorem opS_ne {K : PySem.W.Frag} : OpS K (rNeDD K) dNe := by
  intro F H x y dx dy Q hF hx hy w
  unfold dNe eqD at w
  cases e : scalD dx dy with
  | some r =>
    rw [e] at w
    obtain ⟨h1, h2⟩ := scalD_V hx hy e
    refine .inl ⟨h1, ?_⟩
    rw [h2]; exact okB_v w
  | none =>
    rw [e] at w
    cases e2 : deepD dx dy with
    | some r =>
      rw [e2] at w
      obtain ⟨d, e, h1, h2, h3, h4, h5⟩ := deepD_V hx hy e2
      refine .inr ⟨d, e, h1, h2, h3, h4, ?_⟩
      rw [h5]; exact okB_v w
    | none => rw [e2] at w; exact w.elim
theorem pl_eq : Plain2 dEq := by
  intro a b c fs h
  unfold dEq at h
  split at h <;> cases h
theorem pl_ne : Plain2 dNe := by
  intro a b c fs h
  unfold dNe at h
  split at h <;> cases h
def rCmpD (p : Int → Int → Bool) (q : List Nat → List Nat → Bool) : R2 := fun x y H Q => rI0 (fun i j => .bl (p i j)) x y H Q ∨ ∃ i j, x = .str i ∧ y = .str j ∧ Q (.bl (q i.cps.toList j.cps.toList)) H
theorem opS_cmp {K : PySem.W.Frag} {p : Int → Int → Bool} {q : List Nat → List Nat → Bool} : OpS K (rCmpD p q) (dCmp p q) := by
  intro F H x y dx dy Q hF hx hy w
  unfold dCmp at w
  split at w
  · exact .inl ⟨_, _, hx.int, hy.int, okB_v w⟩
  · exact .inr ⟨_, _, hx.str, hy.str, okB_v w⟩
  · exact w.elim
theorem pl_cmp {p : Int → Int → Bool} {q : List Nat → List Nat → Bool} : Plain2 (dCmp p q) := by
  intro a b c fs h
  unfold dCmp at h
  split at h <;> cases h
theorem op_ltD : OpR X (compareOp .Lt) (rCmpD (fun i j => decide (i < j)) (fun s t => decide (s < t))) := OpR.or op_lt op_lt_str
theorem op_leD : OpR X (compareOp .LtE) (rCmpD (fun i j => decide (i ≤ j)) (fun s t => !decide (t < s))) := OpR.or op_le op_le_str
theorem op_gtD : OpR X (compareOp .Gt) (rCmpD (fun i j => decide (j < i)) (fun s t => decide (t < s))) := OpR.or op_gt op_gt_str
theorem op_geD : OpR X (compareOp .GtE) (rCmpD (fun i j => decide (j ≤ i)) (fun s t => !decide (s < t))) := OpR.or op_ge op_ge_str
/-! ### is None -/
def dIs : D → D → R (D × Bool)
  | .non, .non => okB true
  | .bl _, .non => okB false | .int _, .non => okB false | .str _, .non => okB false | .tup _, .non => okB false | .lst _, .non => okB false | .dic _ _, .non => okB false
  | .bl a, .bl b => okB (decide (a = b))
  | _, _ => .bad
def dIsNot (a b : D) : R (D × Bool) := match dIs a b with
  | .ok (.bl r, _) => okB (!r)
  | _ => .bad
theorem is_V {K : PySem.W.Frag} {F : Addr → Prop} {H : Hp} {x y : V} {dx dy : D} {p : D × Bool} (hx : RepE K F H dx x) (hy : RepE K F H dy y) (e : dIs dx dy = .ok p) : (y = .non ∧ p = (.bl (decide (x = .non)), false)) ∨ ∃ a b, x = .bl a ∧ y = .bl b ∧ p = (.bl (decide (a = b)), false) := by
  unfold dIs at e
  split at e <;> first | cases e | skip
  · exact .inl ⟨hy.non, by rw [hx.non]; rfl⟩
  · exact .inl ⟨hy.non, by rw [hx.bl]; rfl⟩
  · exact .inl ⟨hy.non, by rw [hx.int]; rfl⟩
  · exact .inl ⟨hy.non, by rw [hx.str]; rfl⟩
  · obtain ⟨a, vs, e, _⟩ := hx.tup
    exact .inl ⟨hy.non, by rw [e]; rfl⟩
  · obtain ⟨a, vs, e, _⟩ := hx.lst
    exact .inl ⟨hy.non, by rw [e]; rfl⟩
  · obtain ⟨a, vs, e, _⟩ := hx.dic
    exact .inl ⟨hy.non, by rw [e]; rfl⟩
  · exact .inr ⟨_, _, hx.bl, hy.bl, rfl⟩
theorem opS_is {K : PySem.W.Frag} : OpS K (fun x y H Q => (y = .non ∧ Q (.bl (decide (x = .non))) H) ∨ ∃ a b, x = .bl a ∧ y = .bl b ∧ Q (.bl (decide (a = b))) H) dIs := by
  intro F H x y dx dy Q hF hx hy w
  cases e : dIs dx dy with
  | ok p =>
    rw [e] at w
    rcases is_V hx hy e with ⟨h1, h2⟩ | ⟨a, b, h1, h2, h3⟩
    · rw [h2] at w
      exact .inl ⟨h1, okB_v w⟩
    · rw [h3] at w
      exact .inr ⟨a, b, h1, h2, okB_v w⟩
  | exc c fs => rw [e] at w; exact w.elim
  | bad => rw [e] at w; exact w.elim
theorem opS_isNot {K : PySem.W.Frag} : OpS K (fun x y H Q => (y = .non ∧ Q (.bl (!decide (x = .non))) H) ∨ ∃ a b, x = .bl a ∧ y = .bl b ∧ Q (.bl (!decide (a = b))) H) dIsNot := by
  intro F H x y dx dy Q hF hx hy w
  unfold dIsNot at w
  cases e : dIs dx dy with
  | ok p =>
    rw [e] at w
    rcases is_V hx hy e with ⟨h1, h2⟩ | ⟨a, b, h1, h2, h3⟩
    · rw [h2] at w
      exact .inl ⟨h1, okB_v w⟩
    · rw [h3] at w
      exact .inr ⟨a, b, h1, h2, okB_v w⟩
  | exc c fs => rw [e] at w; exact w.elim
  | bad => rw [e] at w; exact w.elim
theorem pl_is : Plain2 dIs := by
  intro a b c fs h
  unfold dIs at h
  split at h <;> cases h
theorem pl_isNot : Plain2 dIsNot := by
  intro a b c fs h
  unfold dIsNot at h
  split at h <;> cases h
end
end VM
/-! VM4: membership, subscripts, names, displays, and or not. -/
namespace VM
open PySem L2

/-! ### keys -/
def keyD : D → Option Key
  | .int i => some (.inl i)
  | .str s => some (.inr s)
  | _ => none
def keyDs : List D → Option (List Key)
  | [] => some []
  | d :: ds => match keyD d, keyDs ds with
    | some k, some ks => some (k :: ks)
    | _, _ => none
def unkey : Key → D
  | .inl i => .int i
  | .inr s => .str s
theorem keyD_V {K : PySem.W.Frag} {F : Addr → Prop} {H : Hp} {d : D} {v : V} {k : Key} (h : RepE K F H d v) (e : keyD d = some k) : v = kV k := by
  unfold keyD at e
  split at e <;> cases e
  · exact h.int
  · exact h.str
theorem keyDs_V {K : PySem.W.Frag} {F : Addr → Prop} {H : Hp} : ∀ {ds : List D} {vs : List V} {ks : List Key}, Reps K F H ds vs → keyDs ds = some ks → vs = ks.map kV
  | [], vs, ks, h, e => by
    have e' : vs = [] := h
    cases e; exact e'
  | d :: ds, vs, ks, h, e => by
    obtain ⟨v, vs', ev, r, rs⟩ := h
    unfold keyDs at e
    split at e
    · rename_i k ks' h1 h2
      cases e
      rw [ev, keyD_V (.inl r) h1, keyDs_V rs h2]; rfl
    · cases e
/-- the value at a key -/
def lookK {κ : Type} [DecidableEq κ] : List κ → List D → κ → Option D
  | k :: ks, d :: ds, x => if k = x then some d else lookK ks ds x
  | _, _, _ => none
def putKs {κ : Type} [DecidableEq κ] : List κ → List D → κ → D → List κ × List D
  | k :: ks, d :: ds, x, y => if k = x then (k :: ks, y :: ds) else ((k :: (putKs ks ds x y).1), (d :: (putKs ks ds x y).2))
  | _, _, x, y => ([x], [y])
theorem lookK_V {κ : Type} [DecidableEq κ] {K : PySem.W.Frag} {F : Addr → Prop} {H : Hp} {x : κ} : ∀ {kvs : List (κ × V)} {ks : List κ} {ds : List D}, kvs.map (·.1) = ks → Reps K F H ds (kvs.map (·.2)) →
    (∀ d, lookK ks ds x = some d → ∃ v, valV kvs x = some v ∧ Rep K F H d v) ∧ (lookK ks ds x = none → valV kvs x = none)
  | [], ks, ds, e, r => by
    subst e
    refine ⟨fun d h => ?_, fun _ => rfl⟩
    cases ds <;> exact nomatch h
  | p :: kvs, ks, ds, e, r => by
    subst e
    cases ds with
    | nil => exact nomatch (show p.2 :: kvs.map (·.2) = [] from r)
    | cons d ds =>
      obtain ⟨v, vs', ev, r1, rs⟩ := r
      have ev1 : p.2 = v := (List.cons.inj ev).1
      have ev2 : kvs.map (·.2) = vs' := (List.cons.inj ev).2
      subst ev1; subst ev2
      obtain ⟨i1, i2⟩ := lookK_V (x := x) rfl rs
      show (∀ d', (if p.1 = x then some d else lookK (kvs.map (·.1)) ds x) = some d' → _) ∧ ((if p.1 = x then some d else lookK (kvs.map (·.1)) ds x) = none → _)
      by_cases h : p.1 = x
      · rw [if_pos h]
        refine ⟨fun d' q => ?_, fun q => by cases q⟩
        cases q
        exact ⟨p.2, valV_pos h, r1⟩
      · rw [if_neg h, valV_neg h]
        exact ⟨i1, i2⟩
theorem lookK_some {κ : Type} [DecidableEq κ] {K : PySem.W.Frag} {F : Addr → Prop} {H : Hp} {x : κ} {kvs : List (κ × V)} {ks : List κ} {ds : List D} (e : kvs.map (·.1) = ks) (r : Reps K F H ds (kvs.map (·.2))) : (valV kvs x).isSome = (lookK ks ds x).isSome := by
  obtain ⟨i1, i2⟩ := lookK_V (x := x) e r
  cases h : lookK ks ds x with
  | some d =>
    obtain ⟨v, hv, _⟩ := i1 d h
    rw [hv]; rfl
  | none => rw [i2 h]; rfl

/-! ### in -/
def flatD : D → Bool
  | .non => true | .bl _ => true | .int _ => true | .str _ => true
  | _ => false
def eqFl : D → D → Bool
  | .non, .non => true
  | .bl a, .bl b => a == b
  | .bl a, .int b => (if a then 1 else 0) == b
  | .int a, .bl b => a == (if b then 1 else 0)
  | .int a, .int b => a == b
  | .str a, .str b => a == b
  | _, _ => false
theorem flatD_V {K : PySem.W.Frag} {F : Addr → Prop} {H : Hp} {d : D} {v : V} (h : RepE K F H d v) (f : flatD d = true) : flatV v = true := by
  cases d with
  | non => rw [h.non]; rfl
  | bl b => rw [h.bl]; rfl
  | int i => rw [h.int]; rfl
  | str s => rw [h.str]; rfl
  | _ => cases f
theorem eqFl_V {K : PySem.W.Frag} {F : Addr → Prop} {H : Hp} {d e : D} {v u : V} (h : RepE K F H d v) (k : RepE K F H e u) (f : flatD d = true) (g : flatD e = true) : eqV v u = eqFl d e := by
  cases d with
  | non =>
    rw [h.non]
    cases e with
    | non => rw [k.non]; rfl
    | bl b => rw [k.bl]; rfl
    | int i => rw [k.int]; rfl
    | str s => rw [k.str]; rfl
    | _ => cases g
  | bl b =>
    rw [h.bl]
    cases e with
    | non => rw [k.non]; rfl
    | bl b => rw [k.bl]; rfl
    | int i => rw [k.int]; rfl
    | str s => rw [k.str]; rfl
    | _ => cases g
  | int i =>
    rw [h.int]
    cases e with
    | non => rw [k.non]; rfl
    | bl b => rw [k.bl]; rfl
    | int i => rw [k.int]; rfl
    | str s => rw [k.str]; rfl
    | _ => cases g
  | str s =>
    rw [h.str]
    cases e with
    | non => rw [k.non]; rfl
    | bl b => rw [k.bl]; rfl
    | int i => rw [k.int]; rfl
    | str s => rw [k.str]; rfl
    | _ => cases g
  | _ => cases f
theorem all_flat {K : PySem.W.Frag} {F : Addr → Prop} {H : Hp} : ∀ {ds : List D} {vs : List V}, Reps K F H ds vs → ds.all flatD = true → vs.all flatV = true
  | [], vs, r, _ => by rw [show vs = [] from r]; rfl
  | d :: ds, vs, r, h => by
    obtain ⟨v, vs', ev, r1, rs⟩ := r
    rw [List.all_cons, Bool.and_eq_true] at h
    rw [ev, List.all_cons, flatD_V (.inl r1) h.1, all_flat rs h.2]; rfl
theorem any_flat {K : PySem.W.Frag} {F : Addr → Prop} {H : Hp} {x : D} {u : V} (hx : RepE K F H x u) (fx : flatD x = true) : ∀ {ds : List D} {vs : List V}, Reps K F H ds vs → ds.all flatD = true → inV u vs = ds.any fun y => eqFl y x
  | [], vs, r, _ => by rw [show vs = [] from r]; rfl
  | d :: ds, vs, r, h => by
    obtain ⟨v, vs', ev, r1, rs⟩ := r
    rw [List.all_cons, Bool.and_eq_true] at h
    have ih := any_flat hx fx rs h.2
    unfold inV at ih ⊢
    rw [ev, List.any_cons, List.any_cons, eqFl_V (.inl r1) hx h.1 fx, ih]
def inD : D → D → Option Bool
  | .str s, .str t => match s.cps.toList with
    | [c] => some (decide (c ∈ t.cps.toList))
    | _ => none
  | x, .lst ys =>
    if flatD x = true ∧ ys.all flatD = true then some (ys.any fun y => eqFl y x)
    else match toP x, toPs ys with
      | some p, some ps => if PySem.SeqAt.shaped p = true ∧ PySem.SeqAt.shaped (.list ps) = true then some (ps.any fun z => PyData.eqv z p) else none
      | _, _ => none
  | x, .tup ys => if flatD x = true ∧ ys.all flatD = true then some (ys.any fun y => eqFl y x) else none
  | x, .ktup ys => if flatD x = true ∧ ys.all flatD = true then some (ys.any fun y => eqFl y x) else none
  | x, .dic ks vs => match keyD x with
    | some k => some (lookK ks vs k).isSome
    | none => none
  | .tup xs, .dct ks vs => match keyDs xs with
    | some k => some (lookK ks vs k).isSome
    | none => none
  | _, _ => none
def dIn (a b : D) : R (D × Bool) := match inD a b with
  | some r => okB r
  | none => .bad
def dNotIn (a b : D) : R (D × Bool) := match inD a b with
  | some r => okB (!r)
  | none => .bad
def rInDD (K : PySem.W.Frag) (neg : Bool) : R2 := fun x y H Q => ((∃ c z, x = V.str { cps := #[c] } ∧ y = V.str z ∧ Q (V.bl (if neg then !decide (c ∈ z.cps.toList) else decide (c ∈ z.cps.toList))) H) ∨ rIn K neg x y H Q) ∨
  ((∃ d ds, Dp K H x d ∧ Dp K H y (.list ds) ∧ PySem.SeqAt.shaped d = true ∧ PySem.SeqAt.shaped (.list ds) = true ∧ Q (.bl (if neg then !(ds.any fun z => PyData.eqv z d) else ds.any fun z => PyData.eqv z d)) H) ∨
   (∃ a o, y = .ref a ∧ DGet H a x o ∧ Q (.bl (if neg then !o.isSome else o.isSome)) H))
section
variable {X : Cx}
theorem op_inDict (hu : X.A.units + 1 < cLine) : OpR X (compareOp .In) (fun x y H Q => ∃ a o, y = .ref a ∧ DGet H a x o ∧ Q (.bl o.isSome) H) := by
  intro pins s σ H x y v u Q I rx ry h
  obtain ⟨a, o, rfl, g, q⟩ := h
  cases ry
  exact d_in hu I g rx fun s' I' => ⟨.bl _, H, I', rfl, q⟩
theorem op_notInDict (hu : X.A.units + 1 < cLine) : OpR X (compareOp .NotIn) (fun x y H Q => ∃ a o, y = .ref a ∧ DGet H a x o ∧ Q (.bl (!o.isSome)) H) := by
  intro pins s σ H x y v u Q I rx ry h
  obtain ⟨a, o, rfl, g, q⟩ := h
  cases ry
  exact d_notIn hu I g rx fun s' I' => ⟨.bl _, H, I', rfl, q⟩
theorem op_inDD (hu : X.A.units + 65 < cLine) : OpR X (compareOp .In) (rInDD X.K false) :=
  OpR.or (OpR.or op_in_sign op_in_seq) (OpR.or (op_inD hu) (op_inDict (by omega)))
theorem op_notInDD (hu : X.A.units + 65 < cLine) : OpR X (compareOp .NotIn) (rInDD X.K true) :=
  OpR.or (OpR.or op_notIn_sign op_notIn_seq) (OpR.or (op_notInD hu) (op_notInDict (by omega)))
end
theorem in_V {K : PySem.W.Frag} {F : Addr → Prop} {H : Hp} {x y : V} {dx dy : D} {r neg : Bool} {Q : VK} (hx : RepE K F H dx x) (hy : RepE K F H dy y) (e : inD dx dy = some r) (q : Q (.bl (if neg then !r else r)) H) : rInDD K neg x y H Q := by
  unfold inD at e
  split at e
  · split at e
    · rename_i s t _ c hc
      cases e
      refine .inl (.inl ⟨c, t, ?_, hy.str, q⟩)
      rw [hx.str]
      have : s.cps = #[c] := by
        apply Array.toList_inj.mp
        rw [hc]
      cases s with
      | mk cps => subst this; rfl
    · cases e
  · obtain ⟨a, vs, ev, hq, rs⟩ := hy.lst
    split at e
    · rename_i h
      cases e
      refine .inl (.inr ⟨a, vs, ev, .inl (SqL.of hq), flatD_V hx h.1, all_flat rs h.2, ?_⟩)
      rw [any_flat hx h.1 rs h.2]; exact q
    · split at e
      · rename_i p ps h1 h2
        split at e
        · rename_i hs
          cases e
          refine .inr (.inl ⟨p, ps, toP_dp _ _ _ h1 hx, ?_, hs.1, hs.2, q⟩)
          rw [ev]
          exact .lst (SqL.of hq) (toPs_dp _ _ _ h2 rs)
        · cases e
      · cases e
  · obtain ⟨a, vs, ev, hq, rs⟩ := hy.tup
    split at e
    · rename_i h
      cases e
      refine .inl (.inr ⟨a, vs, ev, .inr (SqT.of hq), flatD_V hx h.1, all_flat rs h.2, ?_⟩)
      rw [any_flat hx h.1 rs h.2]; exact q
    · cases e
  · obtain ⟨a, vs, ev, hq, rs⟩ := hy.ktup
    split at e
    · rename_i h
      cases e
      refine .inl (.inr ⟨a, vs, ev, .inr hq, flatD_V hx h.1, all_flat rs h.2, ?_⟩)
      rw [any_flat hx h.1 rs h.2]; exact q
    · cases e
  · obtain ⟨a, kvs, ev, hq, ek, rs⟩ := hy.dic
    split at e
    · rename_i k hk
      cases e
      refine .inr (.inr ⟨a, _, ev, .inl ⟨kvs, k, hq, keyD_V hx hk, rfl⟩, ?_⟩)
      rw [lookK_some ek rs]; exact q
    · cases e
  · obtain ⟨a, kvs, ev, hq, ek, rs⟩ := hy.dct
    split at e
    · rename_i k hk
      cases e
      obtain ⟨b, us, eb, hb, rb⟩ := hx.tup
      have ek2 := keyDs_V rb hk
      refine .inr (.inr ⟨a, _, ev, .inr ⟨kvs, k, b, hq, eb, by rw [hb, ek2], rfl⟩, ?_⟩)
      rw [lookK_some ek rs]; exact q
    · cases e
  · cases e
end VM
/-! VM5: subscripts, slices, names, displays, arguments, calls. -/
namespace VM
open PySem L2

/-! ### a[b] -/
theorem ixN_len {ds : List D} {vs : List V} (h : vs.length = ds.length) (i : Int) : ixN vs.length i = ixN ds.length i := by rw [h]
theorem Reps.atI {K : PySem.W.Frag} {F : Addr → Prop} {H : Hp} {ds : List D} {vs : List V} {i : Int} {d : D} (r : Reps K F H ds vs) (e : L2.atI ds i = some d) : ∃ v, L2.atI vs i = some v ∧ Rep K F H d v := by
  unfold L2.atI at e ⊢
  rw [ixN_len r.length]
  cases h : ixN ds.length i with
  | none => rw [h] at e; cases e
  | some j =>
    rw [h] at e
    exact r.get e
def dIx : D → D → R (D × Bool)
  | .lst xs, .int i => match L2.atI xs i with
    | some d => .ok (d, false)
    | none => .bad
  | .tup xs, .int i => match L2.atI xs i with
    | some d => .ok (d, false)
    | none => .bad
  | .ktup xs, .int i => match L2.atI xs i with
    | some d => .ok (d, false)
    | none => .bad
  | .scr ns, .int i => match L2.atI ns i with
    | some n => okI n
    | none => .bad
  | .str z, .int i => if z.length ≤ sizeLine then match L2.atI z.cps.toList i with
    | some c => .ok (.str ⟨#[c]⟩, false)
    | none => .bad
    else .bad
  | .dic ks vs, k => match keyD k with
    | some k => match lookK ks vs k with
      | some d => .ok (d, false)
      | none => .bad
    | none => .bad
  | .dct ks vs, .tup xs => match keyDs xs with
    | some k => match lookK ks vs k with
      | some d => .ok (d, false)
      | none => .bad
    | none => .bad
  | _, _ => .bad
def rIxDD (K : PySem.W.Frag) : R2 := fun x y H Q => rIx K x y H Q ∨ ∃ a v, x = .ref a ∧ DGet H a y (some v) ∧ Q v H
theorem ix_dict {X : Cx} (hu : X.A.units + 1 < cLine) : IxR X (fun x y H Q => ∃ a v, x = .ref a ∧ DGet H a y (some v) ∧ Q v H) := by
  intro value slice pins s σ H x y v u Q I rx ry h hs
  obtain ⟨a, z, rfl, g, q⟩ := h
  obtain rfl : v = Value.ref a := rx
  exact PyProof.Rows.tail_any (dict_typeIs I g) PySem.F.slot_dict_getitem.lookup (d_getItem hu I g ry fun w' s3 I3 rw' => ⟨z, H, I3, rw', q⟩) hs
theorem ix_dd {X : Cx} (hu : X.A.units + 1 < cLine) : IxR X (rIxDD X.K) := ix_seq.or (ix_dict hu)
theorem ok_v {K : PySem.W.Frag} {F : Addr → Prop} {H : Hp} {Q : VK} {d : D} {v : V} (h : Rep K F H d v) (w : WV K F H Q (.ok (d, false))) : Q v H := w v H (Same.refl _) (PF.of h)
theorem opS_ix {K : PySem.W.Frag} : OpS K (rIxDD K) dIx := by
  intro F H x y dx dy Q hF hx hy w
  unfold dIx at w
  split at w
  · split at w
    · rename_i h
      obtain ⟨a, vs, e, q, r⟩ := hx.lst
      obtain ⟨v, h1, h2⟩ := r.atI h
      exact .inl (.inl ⟨a, vs, _, v, e, hy.int, SqL.of q, h1, ok_v h2 w⟩)
    · exact w.elim
  · split at w
    · rename_i h
      obtain ⟨a, vs, e, q, r⟩ := hx.tup
      obtain ⟨v, h1, h2⟩ := r.atI h
      exact .inl (.inr (.inl ⟨a, vs, _, v, e, hy.int, SqT.of q, h1, ok_v h2 w⟩))
    · exact w.elim
  · split at w
    · rename_i h
      obtain ⟨a, vs, e, q, r⟩ := hx.ktup
      obtain ⟨v, h1, h2⟩ := r.atI h
      exact .inl (.inr (.inl ⟨a, vs, _, v, e, hy.int, q, h1, ok_v h2 w⟩))
    · exact w.elim
  · split at w
    · rename_i h
      obtain ⟨a, e, q⟩ := hx.scr
      refine .inl (.inl ⟨a, _, _, _, e, hy.int, q, ?_, okI_v w⟩)
      unfold L2.atI at h ⊢
      rw [List.length_map]
      cases h2 : ixN _ _ with
      | none => rw [h2] at h; cases h
      | some j =>
        rw [h2] at h
        show (List.map V.int _)[j]? = _
        rw [List.getElem?_map]
        have h' : _[j]? = some _ := h
        rw [h']; rfl
    · exact w.elim
  · split at w
    · rename_i hz
      split at w
      · rename_i h
        exact .inl (.inr (.inr ⟨_, _, _, hx.str, hy.int, hz, h, okS_v w⟩))
      · exact w.elim
    · exact w.elim
  · split at w
    · rename_i k hk
      split at w
      · rename_i h
        obtain ⟨a, kvs, e, q, e2, r⟩ := hx.dic
        obtain ⟨v, h1, h2⟩ := (lookK_V e2 r).1 _ h
        exact .inr ⟨a, v, e, .inl ⟨kvs, k, q, keyD_V hy hk, h1.symm⟩, ok_v h2 w⟩
      · exact w.elim
    · exact w.elim
  · split at w
    · rename_i k hk
      split at w
      · rename_i h
        obtain ⟨a, kvs, e, q, e2, r⟩ := hx.dct
        obtain ⟨b, us, eb, hb, rb⟩ := hy.tup
        obtain ⟨v, h1, h2⟩ := (lookK_V e2 r).1 _ h
        exact .inr ⟨a, v, e, .inr ⟨kvs, k, b, q, eb, by rw [hb, keyDs_V rb hk], h1.symm⟩, ok_v h2 w⟩
      · exact w.elim
    · exact w.elim
  · exact w.elim
theorem pl_ix : Plain2 dIx := by
  intro a b c fs h
  unfold dIx at h
  repeat' split at h
  all_goals cases h
def isSlice : Expr → Bool | .Slice .. => true | _ => false
theorem plainIx_of {b : Expr} (h : isSlice b = false) : PlainIx b := by
  cases b <;> first | (intro o i; rfl) | cases h

/-! ### slices -/
def cutD {α : Type} (xs : List α) (lo hi : Option Int) : List α := (xs.drop (HT.sIx xs.length 0 lo)).take (HT.sIx xs.length xs.length hi - HT.sIx xs.length 0 lo)
theorem Reps.cut {K : PySem.W.Frag} {F : Addr → Prop} {H : Hp} {ds : List D} {vs : List V} (r : Reps K F H ds vs) (lo hi : Option Int) : Reps K F H (cutD ds lo hi) (cutV vs lo hi) := by
  unfold cutD cutV
  rw [r.length]
  exact Reps.take _ (Reps.drop _ r)
def dSl (d : D) (lo hi : Option Int) : R (D × Bool) := match d with
  | .lst xs => .ok (.lst (cutD xs lo hi), true)
  | .tup xs => .ok (.tup (cutD xs lo hi), false)
  | .str z => if z.length ≤ sizeLine then .ok (.str (cutS z lo hi), false) else .bad
  | .scr ns => .ok (.lst ((cutD ns lo hi).map D.int), true)
  | _ => .bad
theorem cut_mapV (ns : List Int) (lo hi : Option Int) : cutV (ns.map V.int) lo hi = (cutD ns lo hi).map V.int := by
  unfold cutV cutD
  rw [List.length_map, List.map_take, List.map_drop]
theorem reps_cutI {K : PySem.W.Frag} {F : Addr → Prop} {H : Hp} : ∀ ns : List Int, Reps K F H (ns.map D.int) (ns.map V.int)
  | [] => rfl
  | _ :: ns => ⟨_, _, rfl, rfl, reps_cutI ns⟩
def rSlDD (K : PySem.W.Frag) : V → Option Int → Option Int → Hp → VK → Prop := fun x lo hi H Q => rSlL K x lo hi H Q ∨ (rSlA K x lo hi H Q ∨ rSlS x lo hi H Q)
theorem sl_dd {X : Cx} : SlR X (rSlDD X.K) := SlR.or sl_list (SlR.or sl_tupA sl_str)
structure SP' (X : Cx) (W : WX) (e : Option Expr) (f : Rho → R (Option Int)) : Prop where
  ex : ∃ t, PO X e t ∧ ∀ S0 H0 ρ σ H (Q : Option Int → Hp → Prop), Rl X.K S0 H0 ρ σ H → Want X.K X.mg W σ H Q (fun o v _ => v = o) (f ρ) → t σ H Q
section
variable {X : Cx} {W : WX} {a b c : Expr} {fa fb fc : Rho → R (D × Bool)} {pos p2 : Pos} {i : Nat} {x : Str}
def bNo : Rho → R (Option Int) := fun _ => .ok none
def unI : D × Bool → R Int
  | (.int i, _) => .ok i
  | _ => .bad
def bSome (f : Rho → R (D × Bool)) : Rho → R (Option Int) := fun ρ => do let p ← f ρ; let i ← unI p; pure (some i)
theorem sp_none : SP' X W none bNo := ⟨_, po_none, fun S0 H0 ρ σ H Q r w => w none H (Same.refl _) rfl⟩
theorem sp_some (h : SF X W a fa) : SP' X W (some a) (bSome fa) := by
  obtain ⟨t, p, h⟩ := h.ex
  refine ⟨_, po_some p, fun S0 H0 ρ σ H Q r w => h S0 H0 ρ σ H _ r (Want.bind w fun c v H1 s z w1 => ?_)⟩
  obtain ⟨d, fl⟩ := c
  cases d with
  | int i => exact ⟨i, RepE.int (.inl z.1), w1 _ H1 (Same.refl _) rfl⟩
  | _ => exact (show False from w1).elim
def bSl (fa : Rho → R (D × Bool)) (fl fh : Rho → R (Option Int)) : Rho → R (D × Bool) := fun ρ => do let p ← fa ρ; let lo ← fl ρ; let hi ← fh ρ; dSl p.1 lo hi
theorem sf_slice {lo hi : Option Expr} {fl fh : Rho → R (Option Int)} (ha : SA X W a fa) (hl : SP' X W lo fl) (hh : SP' X W hi fh) : SF X W (.Subscript a (.Slice lo hi none p2) pos) (bSl fa fl fh) := by
  obtain ⟨ta, pa, ha⟩ := ha.ex
  obtain ⟨tl, pl, hl⟩ := hl.ex
  obtain ⟨th, ph, hh⟩ := hh.ex
  refine ⟨rfl, _, pe_slice sl_dd pa pl ph, fun S0 H0 ρ σ H Q r w => ?_⟩
  refine ha S0 H0 ρ σ H _ r (Want.bind w fun p v H1 s q w1 => ?_)
  refine hl S0 H0 ρ σ H1 _ (r.same s) (Want.bind w1 fun lo lo' H2 s2 e2 w2 => ?_)
  refine hh S0 H0 ρ σ H2 _ (r.same (s.trans s2)) (Want.bind w2 fun hi hi' H3 s3 e3 w3 => ?_)
  subst e2; subst e3
  have r3 := r.same ((s.trans s2).trans s3)
  have q3 := (q.same (s2.trans s3)).e
  have w4 : Want X.K X.mg W σ H3 Q (PF X.K (Fb S0 ρ σ) H) (dSl p.1 lo' hi') := w3
  generalize p.1 = d at q3 w4
  unfold dSl at w4
  split at w4
  · obtain ⟨a, vs, e, h, rs⟩ := q3.lst
    refine .inl ⟨a, vs, e, SqL.of h, fun p n => w4 _ _ (same_upd n) ?_⟩
    exact PF.later ((s.trans s2).trans s3) (PF.newL (fun a z => r3.fbH z) (Same.refl _) n (rs.cut lo' hi'))
  · obtain ⟨a, vs, e, h, rs⟩ := q3.tup
    refine .inr (.inl ⟨a, vs, e, SqT.of h, fun z => w4 _ _ (Same.refl _) (PF.of ⟨a, vs, rfl, h, ?_⟩), fun _ p n => w4 _ _ (same_upd n) (PF.newT n (rs.cut lo' hi'))⟩)
    have := rs.cut lo' hi'
    unfold cutV at this
    rw [z.1, z.2] at this
    simpa using this
  · split at w4
    · rename_i hz
      exact .inr (.inr ⟨_, q3.str, hz, w4 _ _ (Same.refl _) (PF.of rfl)⟩)
    · exact w4.elim
  · obtain ⟨a, e, h⟩ := q3.scr
    refine .inl ⟨a, _, e, h, fun p n => ?_⟩
    rw [cut_mapV]
    exact w4 _ _ (same_upd n) (PF.later ((s.trans s2).trans s3) (PF.newL (fun a z => r3.fbH z) (Same.refl _) n (reps_cutI _)))
  · exact w4.elim

/-! ### names and constants -/
def bVar (i : Nat) : Rho → R (D × Bool) := fun ρ => match ρ[i]? with
  | some (some (d, false)) => .ok (d, false)
  | _ => .bad
def bVarA (i : Nat) : Rho → R (D × Bool) := fun ρ => match ρ[i]? with
  | some (some p) => .ok p
  | _ => .bad
theorem sf_var (hN : X.N[i]? = some x) (hv : Vis X.env.scope x) (hd : (x == ("__debug__" : Str)) = false) (hcd : (x == ("__classdict__" : Str)) = false) : SF X W (.Name x pos) (bVar i) := by
  refine ⟨rfl, _, pe_var hN hv hd hcd, fun S0 H0 ρ σ H Q r w => ?_⟩
  unfold bVar at w
  split at w
  · rename_i d h
    obtain ⟨v, h1, h2⟩ := r.clean i d h
    exact ⟨v, h1, w v H (Same.refl _) (PF.of h2)⟩
  · exact w.elim
theorem sa_var (hN : X.N[i]? = some x) (hv : Vis X.env.scope x) (hd : (x == ("__debug__" : Str)) = false) (hcd : (x == ("__classdict__" : Str)) = false) : SA X W (.Name x pos) (bVarA i) := by
  refine ⟨rfl, _, pe_var hN hv hd hcd, fun S0 H0 ρ σ H Q r w => ?_⟩
  unfold bVarA at w
  split at w
  · rename_i p h
    obtain ⟨d, b⟩ := p
    cases b with
    | false =>
      obtain ⟨v, h1, h2⟩ := r.clean i d h
      exact ⟨v, h1, w v H (Same.refl _) (by unfold PA'; rw [if_neg (by simp)]; exact h2)⟩
    | true =>
      obtain ⟨a, h1, h2, h3⟩ := r.own i d h
      exact ⟨_, h1, w _ H (Same.refl _) (by unfold PA'; rw [if_pos rfl]; exact ⟨a, rfl, ⟨i, d, h, h1⟩, h3⟩)⟩
  · exact w.elim
def bC (d : D) : Rho → R (D × Bool) := fun _ => .ok (d, false)
theorem sf_int {j : Int} {k : Nat} : SF X W (.Constant (.int j) k pos) (bC (.int j)) := ⟨rfl, _, pe_int, fun S0 H0 ρ σ H Q r w => w _ _ (Same.refl _) (PF.of rfl)⟩
theorem sf_bl {j : Bool} {k : Nat} : SF X W (.Constant (.bool j) k pos) (bC (.bl j)) := ⟨rfl, _, pe_bl, fun S0 H0 ρ σ H Q r w => w _ _ (Same.refl _) (PF.of rfl)⟩
theorem sf_non {k : Nat} : SF X W (.Constant .none k pos) (bC .non) := ⟨rfl, _, pe_non, fun S0 H0 ρ σ H Q r w => w _ _ (Same.refl _) (PF.of rfl)⟩
theorem sf_str {j : Str} {k : Nat} : SF X W (.Constant (.str j) k pos) (bC (.str j)) := ⟨rfl, _, pe_str, fun S0 H0 ρ σ H Q r w => w _ _ (Same.refl _) (PF.of rfl)⟩
/-- a module's constant -/
def GC (K : PySem.W.Frag) (mg : Str → Option Value) (x : Str) (d : D) : Prop := ∃ u v, mg x = some u ∧ RelV v u ∧ ∀ F H, Rep K F H d v
theorem sf_glob {d : D} (hg : Gl X x) (hm : GC X.K X.mg x d) (hd : (x == ("__debug__" : Str)) = false) : SF X W (.Name x pos) (bC d) := by
  obtain ⟨u, v, e, r, h⟩ := hm
  exact ⟨rfl, _, pe_glob hg e r hd, fun S0 H0 ρ σ H Q r w => w _ _ (Same.refl _) (PF.of (h _ _))⟩

/-! ### lists of expressions -/
structure SL (X : Cx) (W : WX) (es : List Expr) (f : Rho → R (List D)) : Prop where
  ex : ∃ t, PA X es t ∧ ∀ S0 H0 ρ σ H (Q : List V → Hp → Prop), Rl X.K S0 H0 ρ σ H → Want X.K X.mg W σ H Q (fun ds vs H' => Reps X.K (Fb S0 ρ σ) H' ds vs) (f ρ) → t σ H Q
def bNil : Rho → R (List D) := fun _ => .ok []
def bCons (f : Rho → R (D × Bool)) (g : Rho → R (List D)) : Rho → R (List D) := fun ρ => do let p ← f ρ; let ps ← g ρ; pure (p.1 :: ps)
theorem sl_nil : SL X W [] bNil := ⟨_, pa_nil, fun S0 H0 ρ σ H Q r w => w [] H (Same.refl _) rfl⟩
theorem sl_cons {es : List Expr} {g : Rho → R (List D)} (ha : SF X W a fa) (hr : SL X W es g) : SL X W (a :: es) (bCons fa g) := by
  have ns := ha.ns
  obtain ⟨t, p, h⟩ := ha.ex
  obtain ⟨u, q, k⟩ := hr.ex
  refine ⟨_, pa_cons p q (star_of ns _ _), fun S0 H0 ρ σ H Q r w => h S0 H0 ρ σ H _ r (Want.bind w fun c v H1 s z w1 => ?_)⟩
  refine k S0 H0 ρ σ H1 _ (r.same s) (Want.bind w1 fun ds vs H2 s2 z2 w2 => ?_)
  exact w2 _ _ (Same.refl _) ⟨v, vs, rfl, z.1.same s2, z2⟩
def bTup (f : Rho → R (List D)) : Rho → R (D × Bool) := fun ρ => do let ds ← f ρ; if ds.length ≤ sizeLine then pure (.tup ds, false) else .bad
def bLst (f : Rho → R (List D)) : Rho → R (D × Bool) := fun ρ => do let ds ← f ρ; if ds.length ≤ sizeLine then pure (.lst ds, true) else .bad
theorem sf_tup {es : List Expr} {f : Rho → R (List D)} {k : Nat} (h : SL X W es f) : SF X W (.Tuple es k pos) (bTup f) := by
  obtain ⟨t, p, h⟩ := h.ex
  refine ⟨rfl, _, pe_tup p, fun S0 H0 ρ σ H Q r w => h S0 H0 ρ σ H _ r (Want.bind w fun ds vs H1 s z w1 => ?_)⟩
  split at w1
  · rename_i hz
    exact ⟨by rw [z.length]; exact hz, fun p n => w1 _ _ (same_upd n) (PF.newT n z)⟩
  · exact w1.elim
theorem sf_lst {es : List Expr} {f : Rho → R (List D)} (h : SL X W es f) : SF X W (.List es pos) (bLst f) := by
  obtain ⟨t, p, h⟩ := h.ex
  refine ⟨rfl, _, pe_lst p, fun S0 H0 ρ σ H Q r w => h S0 H0 ρ σ H _ r (Want.bind w fun ds vs H1 s z w1 => ?_)⟩
  split at w1
  · rename_i hz
    exact ⟨by rw [z.length]; exact hz, fun p n => w1 _ _ (same_upd n) (PF.newL (fun a y => r.fbH y) s n z)⟩
  · exact w1.elim
/-- {} -/
theorem PF.newD {K : PySem.W.Frag} {F : Addr → Prop} {H : Hp} {a : Addr} (hF : ∀ b, F b → ∃ o, H b = some o) (n : H a = none) : PF K F H (.dic [] [], true) (.ref a) (upd H a (.dK [])) := by
  have nF : ¬ F a := fun z => by
    obtain ⟨o, e⟩ := hF a z
    rw [n] at e; cases e
  exact ⟨⟨a, [], rfl, .inl upd_same, nF, rfl, rfl⟩, fun _ => ⟨a, rfl, n, [], upd_same, rfl, rfl⟩⟩
theorem PF.newDT {K : PySem.W.Frag} {F : Addr → Prop} {H : Hp} {a : Addr} (hF : ∀ b, F b → ∃ o, H b = some o) (n : H a = none) : PF K F H (.dct [] [], true) (.ref a) (upd H a (.dT [])) := by
  have nF : ¬ F a := fun z => by
    obtain ⟨o, e⟩ := hF a z
    rw [n] at e; cases e
  exact ⟨⟨a, [], rfl, .inl upd_same, nF, rfl, rfl⟩, fun _ => ⟨a, rfl, n, [], upd_same, rfl, rfl⟩⟩
theorem sf_dic : SF X W (.Dict [] [] pos) (fun _ => .ok (.dic [] [], true)) := ⟨rfl, _, pe_dnewK, fun S0 H0 ρ σ H Q r w p n => w _ _ (same_upd n) (PF.newD (fun a z => r.fbH z) n)⟩
theorem sf_dct : SF X W (.Dict [] [] pos) (fun _ => .ok (.dct [] [], true)) := ⟨rfl, _, pe_dnewT, fun S0 H0 ρ σ H Q r w p n => w _ _ (same_upd n) (PF.newDT (fun a z => r.fbH z) n)⟩

/-! ### arguments -/
inductive PAs (K : PySem.W.Frag) (F O : Addr → Prop) (H : Hp) : List (D × Bool) → List V → Prop
  | nil : PAs K F O H [] []
  | cons {p : D × Bool} {ps : List (D × Bool)} {v : V} {vs : List V} : PA' K F O p v H → PAs K F O H ps vs → PAs K F O H (p :: ps) (v :: vs)
theorem PAs.same {K : PySem.W.Frag} {F O : Addr → Prop} {H H' : Hp} (s : Same H H') : ∀ {ps : List (D × Bool)} {vs : List V}, PAs K F O H ps vs → PAs K F O H' ps vs
  | _, _, .nil => .nil
  | _, _, .cons h t => .cons (h.same s) (PAs.same s t)
structure SX (X : Cx) (W : WX) (es : List Expr) (f : Rho → R (List (D × Bool))) : Prop where
  ns : es.all (fun e => !isStar e) = true
  len : ∀ ρ ps, f ρ = .ok ps → ps.length = es.length
  ex : ∃ t, PA X es t ∧ ∀ S0 H0 ρ σ H (Q : List V → Hp → Prop), Rl X.K S0 H0 ρ σ H → Want X.K X.mg W σ H Q (fun ps vs H' => PAs X.K (Fb S0 ρ σ) (OwnA ρ σ) H' ps vs) (f ρ) → t σ H Q
def xNil : Rho → R (List (D × Bool)) := fun _ => .ok []
def xCons (f : Rho → R (D × Bool)) (g : Rho → R (List (D × Bool))) : Rho → R (List (D × Bool)) := fun ρ => do let p ← f ρ; let ps ← g ρ; pure (p :: ps)
theorem sx_nil : SX X W [] xNil := ⟨rfl, fun ρ ps h => by cases h; rfl, _, pa_nil, fun S0 H0 ρ σ H Q r w => w [] H (Same.refl _) .nil⟩
theorem sx_cons {es : List Expr} {g : Rho → R (List (D × Bool))} (ha : SA X W a fa) (hr : SX X W es g) : SX X W (a :: es) (xCons fa g) := by
  have ns := ha.ns
  have nr := hr.ns
  have lr := hr.len
  obtain ⟨t, p, h⟩ := ha.ex
  obtain ⟨u, q, k⟩ := hr.ex
  refine ⟨by rw [List.all_cons, ns, nr]; rfl, fun ρ ps hh => ?_, _, pa_cons p q (star_of ns _ _), fun S0 H0 ρ σ H Q r w => h S0 H0 ρ σ H _ r (Want.bind w fun c v H1 s z w1 => ?_)⟩
  · unfold xCons at hh
    cases e1 : fa ρ with
    | ok p =>
      rw [e1] at hh
      cases e2 : g ρ with
      | ok ps' =>
        have hh' : (g ρ >>= fun ps => pure (p :: ps)) = R.ok ps := hh
        rw [e2] at hh'
        cases hh'
        rw [List.length_cons, List.length_cons, lr ρ ps' e2]
      | exc c fs => have hh' : (g ρ >>= fun ps => pure (p :: ps)) = R.ok ps := hh; rw [e2] at hh'; cases hh'
      | bad => have hh' : (g ρ >>= fun ps => pure (p :: ps)) = R.ok ps := hh; rw [e2] at hh'; cases hh'
    | exc c fs => rw [e1] at hh; cases hh
    | bad => rw [e1] at hh; cases hh
  refine k S0 H0 ρ σ H1 _ (r.same s) (Want.bind w1 fun ds vs H2 s2 z2 w2 => ?_)
  exact w2 _ _ (Same.refl _) (.cons (z.same s2) z2)
end
end VM
/-! VM6: calls of defs by their functions, and of built-ins. -/
namespace VM
open PySem L2

/-- what a def promises: the function m of its ar arguments' data -/
def spOf (K : PySem.W.Frag) (mg : Str → Option Value) (ar : Nat) (m : List D → R (D × Bool)) : Sp := fun vs H Q E => ∃ (S0 : Addr → Prop) (ds : List D), (∀ a, S0 a → ∃ o, H a = some o) ∧ Reps K S0 H ds vs ∧ ds.length = ar ∧
  match m ds with
  | .ok p => ∀ v H', Same H H' → PF K S0 H p v H' → Q v H'
  | .exc c fs => ∀ cls dd H', Same H H' → ExIs K mg c fs cls dd H' → E cls dd H'
  | .bad => False

def anyB (ps : List (D × Bool)) : Bool := ps.any (·.2)
def bCall (m : List D → R (D × Bool)) (f : Rho → R (List (D × Bool))) : Rho → R (D × Bool) := fun ρ => do
  let ps ← f ρ
  let p ← m (ps.map (·.1))
  if (anyB ps && !imm p.1) = true then .bad else pure p

theorem PAs.reps {K : PySem.W.Frag} {F O : Addr → Prop} {H : Hp} : ∀ {ps : List (D × Bool)} {vs : List V}, anyB ps = false → PAs K F O H ps vs → Reps K F H (ps.map (·.1)) vs
  | _, _, _, .nil => rfl
  | p :: ps, v :: vs, h, .cons r t => by
    unfold anyB at h
    rw [List.any_cons, Bool.or_eq_false_iff] at h
    refine ⟨v, vs, rfl, ?_, PAs.reps h.2 t⟩
    unfold PA' at r
    rw [h.1, if_neg (by simp)] at r
    exact r
/-- the arguments as they are, away from S0 alone -/
theorem PAs.reps0 {K : PySem.W.Frag} {S F O : Addr → Prop} {H : Hp} (hS : ∀ a, S a → F a) (hO : ∀ a, O a → ¬ S a) : ∀ {ps : List (D × Bool)} {vs : List V}, PAs K F O H ps vs → Reps K S H (ps.map (·.1)) vs
  | _, _, .nil => rfl
  | p :: ps, v :: vs, .cons r t => by
    refine ⟨v, vs, rfl, ?_, PAs.reps0 hS hO t⟩
    unfold PA' at r
    split at r
    · obtain ⟨a, e, o, tp⟩ := r
      rw [e]
      exact Top.rep (tp.mono (Kp.of_same (Same.refl _)) (fun b z => .inl (hS b z)) fun _ z => z) (hO a o)
    · exact r.less hS
theorem PAs.length {K : PySem.W.Frag} {F O : Addr → Prop} {H : Hp} : ∀ {ps : List (D × Bool)} {vs : List V}, PAs K F O H ps vs → vs.length = ps.length
  | _, _, .nil => rfl
  | _, _, .cons _ t => congrArg (· + 1) (PAs.length t)
theorem imm_top {K : PySem.W.Frag} {F : Addr → Prop} {H : Hp} {a : Addr} {d : D} (h : imm d = true) (t : Top K F H a d) : False := by
  cases d with
  | lst => cases h
  | dic => cases h
  | dct => cases h
  | _ => exact t

/-- a def that callers may call -/
structure FnAt (P : Program) (w : World) (K : PySem.W.Frag) (mg : Str → Option Value) (base : Heap) (k : Nat) (x : Str) (ar : Nat) (m : List D → R (D × Bool)) : Prop where
  ex : ∃ f fd ps, mg x = some (.ref f) ∧ PySem.W.keepIn K (.ref f) = true ∧ Binds K fd ps [] ∧ ps.length = ar ∧ FnOk P w K mg base (L2.CX P w) k f fd ps (spOf K mg ar m)

section
variable {X : Cx} {W : WX} {a b c e : Expr} {es : List Expr} {fa fb fc : Rho → R (D × Bool)} {f : Rho → R (List (D × Bool))} {pos p p2 : Pos} {i k ar : Nat} {x : Str} {m : List D → R (D × Bool)}
theorem noStarBack {es : List Expr} {env : PySem.Env} (h : es.all (fun e => !isStar e) = true) : (backTo pos (starEach es env)).any (·.1) = false := by
  induction es with
  | nil => rfl
  | cons e es ih =>
    rw [List.all_cons, Bool.and_eq_true] at h
    have h1 : isStar e = false := by simpa using h.1
    rw [star_of h1]
    show (false || (backTo pos (starEach es env)).any (·.1)) = false
    rw [ih h.2]; rfl
theorem sf_call (F : FnAt X.prog X.w X.K X.mg X.base k x ar m) (hr : Room k X.A) (tk : Takes X W) (hg : Gl X x) (hdb : (x == ("__debug__" : Str)) = false) (hf : SX X W (e :: es) f) (hl : (e :: es).length = ar) :
    SF X W (.Call (.Name x p) (e :: es) [] pos) (bCall m f) := by
  have ns := hf.ns
  have hfl := hf.len
  rw [List.all_cons, Bool.and_eq_true] at ns
  have n1 : isStar e = false := by simpa using ns.1
  obtain ⟨t, pa, hf⟩ := hf.ex
  obtain ⟨fn, fd, ps, hm, hk, hb, hps, F⟩ := F.ex
  refine ⟨rfl, _, pe_callS (E := WE W) F hr hg hm hk hb (fun σ => passAt tk σ) pa hdb (star_of n1 _ _) (noStarBack ns.2), fun S0 H0 ρ σ H Q r w => ?_⟩
  unfold bCall at w
  cases hfr : f ρ with
  | bad => rw [hfr] at w; exact w.elim
  | exc c fs =>
    refine hf S0 H0 ρ σ H _ r ?_
    rw [hfr] at w ⊢
    exact w
  | ok ps' =>
    refine hf S0 H0 ρ σ H _ r ?_
    rw [hfr] at w ⊢
    intro vs H1 s q
    have r1 := r.same s
    have w1 := Want.later s w
    have hlen : (ps'.map (·.1)).length = ar := by rw [List.length_map, hfl ρ ps' hfr]; exact hl
    by_cases hb : anyB ps' = true
    · refine ⟨S0, ps'.map (·.1), fun a z => r1.s0H z, q.reps0 (fun a z => .inl z) (fun a o z => ?_), hlen, ?_⟩
      · obtain ⟨i, d, e1, e2⟩ := o
        obtain ⟨a', e3, n0, _⟩ := r1.own i d e1
        rw [e2] at e3
        cases e3
        exact n0.2 z
      · have w2 : Want X.K X.mg W σ H1 Q (PF X.K (Fb S0 ρ σ) H) (m (ps'.map (·.1)) >>= fun p => if (anyB ps' && !imm p.1) = true then .bad else pure p) := w1
        cases hm' : m (ps'.map (·.1)) with
        | bad => rw [hm'] at w2; exact w2
        | exc c fs =>
          rw [hm'] at w2
          exact fun cls dd H' s' x => w2 cls dd H' s' x
        | ok p =>
          rw [hm'] at w2
          have w3 : Want X.K X.mg W σ H1 Q (PF X.K (Fb S0 ρ σ) H) (if (anyB ps' && !imm p.1) = true then .bad else pure p) := w2
          rw [hb] at w3
          intro v H' s' pf
          by_cases hi : imm p.1 = true
          · rw [hi] at w3
            exact w3 v H' s' ⟨Rep.imm _ _ hi pf.1, fun z => by
              obtain ⟨a, _, _, t⟩ := pf.2 z
              exact (imm_top hi t).elim⟩
          · have hi' : imm p.1 = false := by simpa using hi
            rw [hi'] at w3
            exact (show False from w3).elim
    · have hb' : anyB ps' = false := by simpa using hb
      refine ⟨Fb S0 ρ σ, ps'.map (·.1), fun a z => r1.fbH z, q.reps hb', hlen, ?_⟩
      have w2 : Want X.K X.mg W σ H1 Q (PF X.K (Fb S0 ρ σ) H) (m (ps'.map (·.1)) >>= fun p => if (anyB ps' && !imm p.1) = true then .bad else pure p) := w1
      rw [hb'] at w2
      cases hm' : m (ps'.map (·.1)) with
      | bad => rw [hm'] at w2; exact w2
      | exc c fs =>
        rw [hm'] at w2
        exact fun cls dd H' s' x => w2 cls dd H' s' x
      | ok p =>
        rw [hm'] at w2
        exact fun v H' s' pf => w2 v H' s' (pf.later s)
/-! ### built-ins -/
def REs (K : PySem.W.Frag) (F : Addr → Prop) (H : Hp) : List D → List V → Prop
  | [], vs => vs = []
  | d :: ds, vs => ∃ v vs', vs = v :: vs' ∧ RepE K F H d v ∧ REs K F H ds vs'
theorem PAs.res {K : PySem.W.Frag} {F O : Addr → Prop} {H : Hp} : ∀ {ps : List (D × Bool)} {vs : List V}, PAs K F O H ps vs → REs K F H (ps.map (·.1)) vs
  | _, _, .nil => rfl
  | _, _, .cons h t => ⟨_, _, rfl, h.e, PAs.res t⟩
def CallS (K : PySem.W.Frag) (r : List V → Hp → VK → Prop) (g : List D → R (D × Bool)) : Prop :=
  ∀ (F : Addr → Prop) (H : Hp) (vs : List V) (ds : List D) (Q : VK), (∀ a, F a → ∃ o, H a = some o) → REs K F H ds vs → WV K F H Q (g ds) → r vs H Q
def PlainN (g : List D → R (D × Bool)) : Prop := ∀ ds c fs, g ds ≠ .exc c fs
def bB (g : List D → R (D × Bool)) (f : Rho → R (List (D × Bool))) : Rho → R (D × Bool) := fun ρ => do let ps ← f ρ; g (ps.map (·.1))
theorem sem_B {r : List V → Hp → VK → Prop} {g : List D → R (D × Bool)} {t : TA} (hg : CallS X.K r g) (pl : PlainN g)
    (hf : ∀ S0 H0 ρ σ H (Q : List V → Hp → Prop), Rl X.K S0 H0 ρ σ H → Want X.K X.mg W σ H Q (fun ps vs H' => PAs X.K (Fb S0 ρ σ) (OwnA ρ σ) H' ps vs) (f ρ) → t σ H Q) : SemF X W (tCB r t) (bB g f) := by
  intro S0 H0 ρ σ H Q rl w
  refine hf S0 H0 ρ σ H _ rl (Want.bind w fun ps vs H1 s q w1 => ?_)
  exact hg (Fb S0 ρ σ) H1 vs _ Q (fun a z => (rl.same s).fbH z) q.res (WV.of_want (pl _) (w1.pf s))
theorem sf_callB {id : String} {r : List V → Hp → VK → Prop} {g : List D → R (D × Bool)} (hc : CallR X (.builtin id) r) (hg : CallS X.K r g) (pl : PlainN g) (gl : Gl X x) (hm : X.mg x = none) (hv : bootBuiltins x = some (.builtin id)) (hf : SX X W (e :: es) f)
    (hn : x ≠ "__name__") (hdb : (x == ("__debug__" : Str)) = false) : SF X W (.Call (.Name x p) (e :: es) [] pos) (bB g f) := by
  have ns := hf.ns
  rw [List.all_cons, Bool.and_eq_true] at ns
  have n1 : isStar e = false := by simpa using ns.1
  obtain ⟨t, pa, hf⟩ := hf.ex
  exact ⟨rfl, _, pe_callB hc gl hm hv pa hn hdb (star_of n1 _ _) (noStarBack ns.2), sem_B hg pl hf⟩
theorem sf_callTy {T : String} {r : List V → Hp → VK → Prop} {g : List D → R (D × Bool)} (hc : CallR X (.type T) r) (hg : CallS X.K r g) (pl : PlainN g) (gl : Gl X x) (hm : X.mg x = none) (hv : bootBuiltins x = some (.type T)) (hf : SX X W (e :: es) f)
    (hn : x ≠ "__name__") (hdb : (x == ("__debug__" : Str)) = false) : SF X W (.Call (.Name x p) (e :: es) [] pos) (bB g f) := by
  have ns := hf.ns
  rw [List.all_cons, Bool.and_eq_true] at ns
  have n1 : isStar e = false := by simpa using ns.1
  obtain ⟨t, pa, hf⟩ := hf.ex
  exact ⟨rfl, _, pe_callTy hc gl hm hv pa hn hdb (star_of n1 _ _) (noStarBack ns.2), sem_B hg pl hf⟩
end

/-! ### what the built-ins answer -/
theorem REs.one {K : PySem.W.Frag} {F : Addr → Prop} {H : Hp} {d : D} {vs : List V} (h : REs K F H [d] vs) : ∃ v, vs = [v] ∧ RepE K F H d v := by
  obtain ⟨v, vs', e, r, t⟩ := h
  have t' : vs' = [] := t
  subst t'
  exact ⟨v, e, r⟩
theorem REs.two {K : PySem.W.Frag} {F : Addr → Prop} {H : Hp} {d d' : D} {vs : List V} (h : REs K F H [d, d'] vs) : ∃ v u, vs = [v, u] ∧ RepE K F H d v ∧ RepE K F H d' u := by
  obtain ⟨v, vs', e, r, t⟩ := h
  obtain ⟨u, e', r'⟩ := REs.one t
  subst e'
  exact ⟨v, u, e, r, r'⟩
def gLen : List D → R (D × Bool)
  | [.lst xs] => okI xs.length
  | [.tup xs] => okI xs.length
  | [.ktup xs] => okI xs.length
  | [.scr xs] => okI xs.length
  | [.str z] => if z.length ≤ sizeLine then okI z.length else .bad
  | [.dct ks _] => okI ks.length
  | [.dic ks _] => okI ks.length
  | _ => .bad
/-- len of a dict, locked or not -/
def rLenK : List V → Hp → VK → Prop := fun xs H Q => ∃ (p : Addr), xs = [.ref p] ∧ ((∃ kvs : List (List Key × V), Rd H p (.dT kvs) ∧ Q (.int ((kvs.length : Nat) : Int)) H) ∨ ∃ kvs : List (Key × V), Rd H p (.dK kvs) ∧ Q (.int ((kvs.length : Nat) : Int)) H)
theorem call_len_dd {X : Cx} : CallR X (.builtin "len") rLenK := by
  intro pins s σ H xs us Q I r h
  obtain ⟨p, rfl, h⟩ := h
  obtain ⟨u, rfl, rx⟩ := vals1 r
  obtain rfl : u = .ref p := rx
  rcases h with ⟨kvs, hp, q⟩ | ⟨kvs, hp, q⟩
  · obtain ⟨z, hd, ys, rel, dd⟩ := dt_rd I.hok hp
    have hl : kvs.length = ys.length := Paired.length rel
    refine call_len_dictH hd dd (by rw [← hl]; rw [sizeLine_eq] at z; omega) ?_
    rw [← hl]
    exact ⟨.int ((kvs.length : Nat) : Int), H, I.tok _, ⟨_, rfl⟩, q⟩
  · exact d_len I hp fun t s' I' => ⟨.int ((kvs.length : Nat) : Int), H, I', ⟨_, rfl⟩, q⟩
def rLenD (K : PySem.W.Frag) : List V → Hp → VK → Prop := fun xs H Q => (∃ x n, xs = [x] ∧ LenV K x H n ∧ Q (.int n) H) ∨ rLenK xs H Q
theorem call_lenD' {X : Cx} : CallR X (.builtin "len") (rLenD X.K) := CallR.or call_len call_len_dd
theorem callS_len {K : PySem.W.Frag} : CallS K (rLenD K) gLen := by
  intro F H vs ds Q hF hr w
  unfold gLen at w
  split at w
  · obtain ⟨v, e, h⟩ := hr.one
    obtain ⟨a, us, e2, q, r⟩ := h.lst
    exact .inl ⟨v, _, e, by rw [e2]; exact .inl ⟨us, SqL.of q, rfl⟩, by rw [r.length]; exact okI_v w⟩
  · obtain ⟨v, e, h⟩ := hr.one
    obtain ⟨a, us, e2, q, r⟩ := h.tup
    exact .inl ⟨v, _, e, by rw [e2]; exact .inr ⟨us, SqT.of q, rfl⟩, by rw [r.length]; exact okI_v w⟩
  · obtain ⟨v, e, h⟩ := hr.one
    obtain ⟨a, us, e2, q, r⟩ := h.ktup
    exact .inl ⟨v, _, e, by rw [e2]; exact .inr ⟨us, q, rfl⟩, by rw [r.length]; exact okI_v w⟩
  · obtain ⟨v, e, h⟩ := hr.one
    obtain ⟨a, e2, q⟩ := h.scr
    exact .inl ⟨v, _, e, by rw [e2]; exact .inl ⟨_, q, rfl⟩, by rw [List.length_map]; exact okI_v w⟩
  · split at w
    · rename_i hz
      obtain ⟨v, e, h⟩ := hr.one
      exact .inl ⟨v, _, e, by rw [h.str]; exact ⟨hz, rfl⟩, okI_v w⟩
    · exact w.elim
  · obtain ⟨v, e, h⟩ := hr.one
    obtain ⟨a, kvs, e2, q, e3, r⟩ := h.dct
    refine .inr ⟨a, by rw [e, e2], .inl ⟨kvs, q, ?_⟩⟩
    have := okI_v w
    rw [← e3, List.length_map] at this
    exact this
  · obtain ⟨v, e, h⟩ := hr.one
    obtain ⟨a, kvs, e2, q, e3, r⟩ := h.dic
    refine .inr ⟨a, by rw [e, e2], .inr ⟨kvs, q, ?_⟩⟩
    have := okI_v w
    rw [← e3, List.length_map] at this
    exact this
  · exact w.elim
theorem pl_len : PlainN gLen := by
  intro ds c fs h
  unfold gLen at h
  repeat' split at h
  all_goals cases h
def gAbs : List D → R (D × Bool)
  | [.int i] => okI (if i < 0 then -i else i)
  | _ => .bad
theorem callS_abs {K : PySem.W.Frag} : CallS K (fun xs H Q => ∃ i, xs = [.int i] ∧ Q (.int (if i < 0 then -i else i)) H) gAbs := by
  intro F H vs ds Q hF hr w
  unfold gAbs at w
  split at w
  · obtain ⟨v, e, h⟩ := hr.one
    exact ⟨_, by rw [e, h.int], okI_v w⟩
  · exact w.elim
theorem pl_abs : PlainN gAbs := by
  intro ds c fs h
  unfold gAbs at h
  split at h <;> cases h
def gInt : List D → R (D × Bool)
  | [.int i] => okI i
  | [.bl b] => okI (if b = true then 1 else 0)
  | _ => .bad
theorem callS_int {K : PySem.W.Frag} : CallS K (fun xs H Q => (∃ i, xs = [V.int i] ∧ Q (.int i) H) ∨ ∃ k, xs = [V.bl k] ∧ Q (.int (if k then 1 else 0)) H) gInt := by
  intro F H vs ds Q hF hr w
  unfold gInt at w
  split at w
  · obtain ⟨v, e, h⟩ := hr.one
    exact .inl ⟨_, by rw [e, h.int], okI_v w⟩
  · obtain ⟨v, e, h⟩ := hr.one
    exact .inr ⟨_, by rw [e, h.bl], okI_v w⟩
  · exact w.elim
theorem pl_int : PlainN gInt := by
  intro ds c fs h
  unfold gInt at h
  split at h <;> cases h
def intsD : List D → Option (List Int)
  | [] => some []
  | .int i :: ds => (intsD ds).map (i :: ·)
  | _ :: _ => none
theorem intsD_V {K : PySem.W.Frag} {F : Addr → Prop} {H : Hp} : ∀ {ds : List D} {vs : List V} {ns : List Int}, Reps K F H ds vs → intsD ds = some ns → vs = ns.map V.int
  | [], vs, ns, r, e => by
    cases e
    exact r
  | d :: ds, vs, ns, r, e => by
    obtain ⟨v, vs', ev, r1, rs⟩ := r
    cases d with
    | int i =>
      have e' : (intsD ds).map (i :: ·) = some ns := e
      cases h : intsD ds with
      | none => rw [h] at e'; cases e'
      | some ms =>
        rw [h] at e'; cases e'
        rw [ev, RepE.int (.inl r1), intsD_V rs h]; rfl
    | _ => cases e
theorem reps_ints {K : PySem.W.Frag} {F : Addr → Prop} {H : Hp} : ∀ ns : List Int, Reps K F H (ns.map D.int) (ns.map V.int)
  | [] => rfl
  | n :: ns => ⟨_, _, rfl, rfl, reps_ints ns⟩
def intMin : List Int → Option Int
  | [] => none
  | n :: ns => match intMin ns with
    | none => some n
    | some m => some (if n ≤ m then n else m)
def intMax : List Int → Option Int
  | [] => none
  | n :: ns => match intMax ns with
    | none => some n
    | some m => some (if m ≤ n then n else m)
theorem intMin_le : ∀ {ns : List Int} {m : Int}, intMin ns = some m → m ∈ ns ∧ ∀ y ∈ ns, m ≤ y
  | [], m, h => by cases h
  | n :: ns, m, h => by
    unfold intMin at h
    split at h
    · rename_i e
      cases h
      cases ns with
      | nil => simp
      | cons n' ns' =>
        unfold intMin at e
        split at e <;> cases e
    · rename_i k e
      obtain ⟨h1, h2⟩ := intMin_le e
      cases h
      by_cases q : n ≤ k
      · rw [if_pos q]
        exact ⟨by simp, fun y hy => by
          rcases List.mem_cons.mp hy with rfl | hy
          · omega
          · have := h2 y hy; omega⟩
      · rw [if_neg q]
        exact ⟨List.mem_cons_of_mem _ h1, fun y hy => by
          rcases List.mem_cons.mp hy with rfl | hy
          · omega
          · exact h2 y hy⟩
theorem intMax_le : ∀ {ns : List Int} {m : Int}, intMax ns = some m → m ∈ ns ∧ ∀ y ∈ ns, y ≤ m
  | [], m, h => by cases h
  | n :: ns, m, h => by
    unfold intMax at h
    split at h
    · rename_i e
      cases h
      cases ns with
      | nil => simp
      | cons n' ns' =>
        unfold intMax at e
        split at e <;> cases e
    · rename_i k e
      obtain ⟨h1, h2⟩ := intMax_le e
      cases h
      by_cases q : k ≤ n
      · rw [if_pos q]
        exact ⟨by simp, fun y hy => by
          rcases List.mem_cons.mp hy with rfl | hy
          · omega
          · have := h2 y hy; omega⟩
      · rw [if_neg q]
        exact ⟨List.mem_cons_of_mem _ h1, fun y hy => by
          rcases List.mem_cons.mp hy with rfl | hy
          · omega
          · exact h2 y hy⟩
def gMin : List D → R (D × Bool)
  | [.int i, .int j] => okI (if j < i then j else i)
  | [.lst xs] => match intsD xs with
    | some ns => match intMin ns with
      | some m => okI m
      | none => .bad
    | none => .bad
  | _ => .bad
def gMax : List D → R (D × Bool)
  | [.int i, .int j] => okI (if j > i then j else i)
  | [.lst xs] => match intsD xs with
    | some ns => match intMax ns with
      | some m => okI m
      | none => .bad
    | none => .bad
  | _ => .bad
theorem callS_min {K : PySem.W.Frag} : CallS K (fun xs H Q => (∃ i j, xs = [V.int i, V.int j] ∧ Q (.int (if j < i then j else i)) H) ∨ rMin K xs H Q) gMin := by
  intro F H vs ds Q hF hr w
  unfold gMin at w
  split at w
  · obtain ⟨v, u, e, h, h'⟩ := hr.two
    exact .inl ⟨_, _, by rw [e, h.int, h'.int], okI_v w⟩
  · split at w
    · rename_i ns hn
      split at w
      · rename_i m hm
        obtain ⟨v, e, h⟩ := hr.one
        obtain ⟨a, us, e2, q, r⟩ := h.lst
        have eu := intsD_V r hn
        subst eu
        obtain ⟨h1, h2⟩ := intMin_le hm
        refine .inr ⟨a, ns, by rw [e, e2], SqL.of q, List.length_pos_of_mem h1, fun m' h3 h4 => ?_⟩
        have : m' = m := Int.le_antisymm (h4 m h1) (h2 m' h3)
        rw [this]
        exact okI_v w
      · exact w.elim
    · exact w.elim
  · exact w.elim
theorem callS_max {K : PySem.W.Frag} : CallS K (fun xs H Q => (∃ i j, xs = [V.int i, V.int j] ∧ Q (.int (if j > i then j else i)) H) ∨ rMax K xs H Q) gMax := by
  intro F H vs ds Q hF hr w
  unfold gMax at w
  split at w
  · obtain ⟨v, u, e, h, h'⟩ := hr.two
    exact .inl ⟨_, _, by rw [e, h.int, h'.int], okI_v w⟩
  · split at w
    · rename_i ns hn
      split at w
      · rename_i m hm
        obtain ⟨v, e, h⟩ := hr.one
        obtain ⟨a, us, e2, q, r⟩ := h.lst
        have eu := intsD_V r hn
        subst eu
        obtain ⟨h1, h2⟩ := intMax_le hm
        refine .inr ⟨a, ns, by rw [e, e2], SqL.of q, List.length_pos_of_mem h1, fun m' h3 h4 => ?_⟩
        have : m' = m := Int.le_antisymm (h2 m' h3) (h4 m h1)
        rw [this]
        exact okI_v w
      · exact w.elim
    · exact w.elim
  · exact w.elim
theorem pl_min : PlainN gMin := by
  intro ds c fs h
  unfold gMin at h
  repeat' split at h
  all_goals cases h
theorem pl_max : PlainN gMax := by
  intro ds c fs h
  unfold gMax at h
  repeat' split at h
  all_goals cases h
def gSum : List D → R (D × Bool)
  | [.lst xs] => match intsD xs with
    | some ns => okI ns.sum
    | none => .bad
  | _ => .bad
theorem callS_sum {K : PySem.W.Frag} : CallS K (rSum K) gSum := by
  intro F H vs ds Q hF hr w
  unfold gSum at w
  split at w
  · split at w
    · rename_i ns hn
      obtain ⟨v, e, h⟩ := hr.one
      obtain ⟨a, us, e2, q, r⟩ := h.lst
      have eu := intsD_V r hn
      subst eu
      exact ⟨a, ns, by rw [e, e2], SqL.of q, okI_v w⟩
    · exact w.elim
  · exact w.elim
theorem pl_sum : PlainN gSum := by
  intro ds c fs h
  unfold gSum at h
  repeat' split at h
  all_goals cases h
def blsD : List D → Option (List Bool)
  | [] => some []
  | .bl i :: ds => (blsD ds).map (i :: ·)
  | _ :: _ => none
theorem blsD_V {K : PySem.W.Frag} {F : Addr → Prop} {H : Hp} : ∀ {ds : List D} {vs : List V} {ns : List Bool}, Reps K F H ds vs → blsD ds = some ns → vs = ns.map V.bl
  | [], vs, ns, r, e => by
    cases e
    exact r
  | d :: ds, vs, ns, r, e => by
    obtain ⟨v, vs', ev, r1, rs⟩ := r
    cases d with
    | bl i =>
      have e' : (blsD ds).map (i :: ·) = some ns := e
      cases h : blsD ds with
      | none => rw [h] at e'; cases e'
      | some ms =>
        rw [h] at e'; cases e'
        rw [ev, RepE.bl (.inl r1), blsD_V rs h]; rfl
    | _ => cases e
def gAll : List D → R (D × Bool)
  | [.lst xs] => match blsD xs with
    | some ns => okB (ns.all id)
    | none => .bad
  | _ => .bad
def gAny : List D → R (D × Bool)
  | [.lst xs] => match blsD xs with
    | some ns => okB (ns.any id)
    | none => .bad
  | _ => .bad
theorem callS_all {K : PySem.W.Frag} : CallS K (rAll K) gAll := by
  intro F H vs ds Q hF hr w
  unfold gAll at w
  split at w
  · split at w
    · rename_i ns hn
      obtain ⟨v, e, h⟩ := hr.one
      obtain ⟨a, us, e2, q, r⟩ := h.lst
      have eu := blsD_V r hn
      subst eu
      exact ⟨a, ns, by rw [e, e2], SqL.of q, okB_v w⟩
    · exact w.elim
  · exact w.elim
theorem callS_any {K : PySem.W.Frag} : CallS K (rAny K) gAny := by
  intro F H vs ds Q hF hr w
  unfold gAny at w
  split at w
  · split at w
    · rename_i ns hn
      obtain ⟨v, e, h⟩ := hr.one
      obtain ⟨a, us, e2, q, r⟩ := h.lst
      have eu := blsD_V r hn
      subst eu
      exact ⟨a, ns, by rw [e, e2], SqL.of q, okB_v w⟩
    · exact w.elim
  · exact w.elim
theorem pl_all : PlainN gAll := by
  intro ds c fs h
  unfold gAll at h
  repeat' split at h
  all_goals cases h
theorem pl_any : PlainN gAny := by
  intro ds c fs h
  unfold gAny at h
  repeat' split at h
  all_goals cases h
/-- tuple(x), list(x) -/
def gTuple : List D → R (D × Bool)
  | [.lst xs] => .ok (.tup xs, false)
  | [.tup xs] => .ok (.tup xs, false)
  | _ => .bad
def gList : List D → R (D × Bool)
  | [.lst xs] => .ok (.lst xs, true)
  | [.tup xs] => .ok (.lst xs, true)
  | [.ktup xs] => .ok (.lst xs, true)
  | [.dic ks _] => .ok (.lst (ks.map unkey), true)
  | _ => .bad
theorem callS_tuple {K : PySem.W.Frag} : CallS K (fun xs H Q => ∃ p ys, xs = [V.ref p] ∧ ((SqL K H p ys ∧ ∀ l, H l = none → Q (.ref l) (upd H l (.tup ys))) ∨ (SqT K H p ys ∧ Q (.ref p) H))) gTuple := by
  intro F H vs ds Q hF hr w
  unfold gTuple at w
  split at w
  · obtain ⟨v, e, h⟩ := hr.one
    obtain ⟨a, us, e2, q, r⟩ := h.lst
    exact ⟨a, us, by rw [e, e2], .inl ⟨SqL.of q, fun l n => w _ _ (same_upd n) (PF.newT n r)⟩⟩
  · obtain ⟨v, e, h⟩ := hr.one
    obtain ⟨a, us, e2, q, r⟩ := h.tup
    exact ⟨a, us, by rw [e, e2], .inr ⟨SqT.of q, w _ _ (Same.refl _) (PF.of ⟨a, us, rfl, q, r⟩)⟩⟩
  · exact w.elim
theorem pl_tuple : PlainN gTuple := by
  intro ds c fs h
  unfold gTuple at h
  split at h <;> cases h
theorem reps_keys {K : PySem.W.Frag} {F : Addr → Prop} {H : Hp} : ∀ ks : List Key, Reps K F H (ks.map unkey) (ks.map kV)
  | [] => rfl
  | .inl i :: ks => ⟨_, _, rfl, rfl, reps_keys ks⟩
  | .inr i :: ks => ⟨_, _, rfl, rfl, reps_keys ks⟩
theorem callS_list {K : PySem.W.Frag} : CallS K (fun xs H Q => (∃ p ys, xs = [V.ref p] ∧ (SqL K H p ys ∨ SqT K H p ys) ∧ ∀ l, H l = none → Q (.ref l) (upd H l (.lst ys))) ∨ ∃ (a : Addr) (kvs : List (Key × V)), xs = [V.ref a] ∧ Rd H a (.dK kvs) ∧ ∀ p, H p = none → Q (.ref p) (upd H p (.lst (kvs.map fun kv => kV kv.1)))) gList := by
  intro F H vs ds Q hF hr w
  unfold gList at w
  split at w
  · obtain ⟨v, e, h⟩ := hr.one
    obtain ⟨a, us, e2, q, r⟩ := h.lst
    exact .inl ⟨a, us, by rw [e, e2], .inl (SqL.of q), fun l n => w _ _ (same_upd n) (PF.newL hF (Same.refl _) n r)⟩
  · obtain ⟨v, e, h⟩ := hr.one
    obtain ⟨a, us, e2, q, r⟩ := h.tup
    exact .inl ⟨a, us, by rw [e, e2], .inr (SqT.of q), fun l n => w _ _ (same_upd n) (PF.newL hF (Same.refl _) n r)⟩
  · obtain ⟨v, e, h⟩ := hr.one
    obtain ⟨a, us, e2, q, r⟩ := h.ktup
    exact .inl ⟨a, us, by rw [e, e2], .inr q, fun l n => w _ _ (same_upd n) (PF.newL hF (Same.refl _) n r)⟩
  · obtain ⟨v, e, h⟩ := hr.one
    obtain ⟨a, kvs, e2, q, e3, r⟩ := h.dic
    refine .inr ⟨a, kvs, by rw [e, e2], q, fun l n => w _ _ (same_upd n) ?_⟩
    have := PF.newL (K := K) hF (Same.refl _) n (reps_keys (K := K) (F := F) (H := H) (kvs.map (·.1)))
    rw [List.map_map] at this
    rw [← e3]
    rw [List.map_map] at this ⊢
    exact this
  · exact w.elim
theorem pl_list : PlainN gList := by
  intro ds c fs h
  unfold gList at h
  split at h <;> cases h
/-- sorted(xs) of ints -/
def sortI (ns : List Int) : List Int := ns.mergeSort fun a b => decide (a ≤ b)
theorem sortI_of {ns ns' : List Int} (p : ns'.Perm ns) (o : ns'.Pairwise (· ≤ ·)) : ns' = sortI ns := by
  refine List.Perm.eq_of_pairwise (le := fun a b : Int => a ≤ b) (fun a b _ _ h1 h2 => Int.le_antisymm h1 h2) o ?_ (p.trans (List.mergeSort_perm _ _).symm)
  have := List.pairwise_mergeSort (le := fun a b : Int => decide (a ≤ b)) (fun a b c h1 h2 => by simp at *; omega) (fun a b => by simp; omega) ns
  exact this.imp fun h => by simpa using h
def gSorted : List D → R (D × Bool)
  | [.lst xs] => match intsD xs with
    | some ns => .ok (.lst ((sortI ns).map D.int), true)
    | none => .bad
  | _ => .bad
theorem callS_sorted {K : PySem.W.Frag} : CallS K (rSortedI K) gSorted := by
  intro F H vs ds Q hF hr w
  unfold gSorted at w
  split at w
  · split at w
    · rename_i ns hn
      obtain ⟨v, e, h⟩ := hr.one
      obtain ⟨a, us, e2, q, r⟩ := h.lst
      have eu := intsD_V r hn
      subst eu
      refine ⟨a, ns, by rw [e, e2], SqL.of q, fun ns' p h1 h2 n => ?_⟩
      rw [sortI_of h1 h2]
      exact w _ _ (same_upd n) (PF.newL hF (Same.refl _) n (reps_ints _))
    · exact w.elim
  · exact w.elim
theorem pl_sorted : PlainN gSorted := by
  intro ds c fs h
  unfold gSorted at h
  repeat' split at h
  all_goals cases h
/-- str(i) -/
def gStr : List D → R (D × Bool)
  | [.int i] => if i.natAbs.log2 < 1920 then .ok (.str (toString i), false) else .bad
  | [.str s] => .ok (.str s, false)
  | _ => .bad
end VM
/-! VM7: statements. -/
namespace VM
open PySem L2

inductive Fl where
  | next (ρ : Rho)
  | ret (p : D × Bool)
  | brk (ρ : Rho)
  | cont (ρ : Rho)
  | exc (ρ : Rho) (c : Str) (fs : List (Str × D))
  | bad

def WantS (K : PySem.W.Frag) (mg : Str → Option Value) (W : WX) (S0 : Addr → Prop) (H0 : Hp) (ρ : Rho) (σ : L2.St) (H : Hp) (Dd : Ends) : Fl → Prop
  | .next ρ' => ∀ σ' H', Rl K S0 H0 ρ' σ' H' → Stp ρ σ H ρ' σ' H' → Dd.nx σ' H'
  | .brk ρ' => ∀ σ' H', Rl K S0 H0 ρ' σ' H' → Stp ρ σ H ρ' σ' H' → Dd.bk σ' H'
  | .cont ρ' => ∀ σ' H', Rl K S0 H0 ρ' σ' H' → Stp ρ σ H ρ' σ' H' → Dd.ct σ' H'
  | .ret p => ∀ v H', Same H0 H' → PF K S0 H0 p v H' → Dd.rt v H'
  | .exc ρ' c fs => ∀ cls dd σ' H', Rl K S0 H0 ρ' σ' H' → Stp ρ σ H ρ' σ' H' → ExIs K mg c fs cls dd H' → W cls dd σ' H'
  | .bad => False

def SemS (X : Cx) (W : WX) (t : TS) (g : Rho → Fl) : Prop := ∀ S0 H0 ρ σ H Dd, Rl X.K S0 H0 ρ σ H → WantS X.K X.mg W S0 H0 ρ σ H Dd (g ρ) → t Dd σ H
structure SS (X : Cx) (W : WX) (st : Stmt) (g : Rho → Fl) : Prop where
  ex : ∃ t, PS X st t ∧ SemS X W t g
structure SSs (X : Cx) (W : WX) (st : List Stmt) (g : Rho → Fl) : Prop where
  ex : ∃ t, PSs X st t ∧ SemS X W t g

section
variable {K : PySem.W.Frag} {mg : Str → Option Value} {W : WX} {S0 : Addr → Prop} {H0 H H1 : Hp} {ρ ρ1 : Rho} {σ σ1 : L2.St} {Dd : Ends} {r : Fl}
theorem WantS.step (s : Stp ρ σ H ρ1 σ1 H1) (h : WantS K mg W S0 H0 ρ σ H Dd r) : WantS K mg W S0 H0 ρ1 σ1 H1 Dd r := by
  cases r with
  | next ρ' => exact fun σ' H' a b => h σ' H' a (s.trans b)
  | brk ρ' => exact fun σ' H' a b => h σ' H' a (s.trans b)
  | cont ρ' => exact fun σ' H' a b => h σ' H' a (s.trans b)
  | ret p => exact h
  | exc ρ' c fs => exact fun cls dd σ' H' a b => h cls dd σ' H' a (s.trans b)
  | bad => exact h
end
/-- one, then the rest -/
def Fl.andThen (f : Fl) (g : Rho → Fl) : Fl := match f with
  | .next ρ => g ρ
  | r => r
def sSeq (f g : Rho → Fl) : Rho → Fl := fun ρ => (f ρ).andThen g
def sNop : Rho → Fl := .next
/-- an expression, then what its value does -/
def R.fl {α : Type} (x : R α) (ρ : Rho) (k : α → Fl) : Fl := match x with
  | .ok a => k a
  | .exc c fs => .exc ρ c fs
  | .bad => .bad
theorem fl_want {α γ : Type} {K : PySem.W.Frag} {mg : Str → Option Value} {W : WX} {S0 : Addr → Prop} {H0 H : Hp} {ρ : Rho} {σ : L2.St} {Dd : Ends} {x : R α} {k : α → Fl} {P : α → γ → Hp → Prop} {Q : γ → Hp → Prop} (rl : Rl K S0 H0 ρ σ H)
    (w : WantS K mg W S0 H0 ρ σ H Dd (x.fl ρ k)) (h : ∀ a v H1, Same H H1 → P a v H1 → WantS K mg W S0 H0 ρ σ H Dd (k a) → Q v H1) : Want K mg W σ H Q P x := by
  cases x with
  | ok a => exact fun v H' s p => h a v H' s p w
  | exc c fs => exact fun cls dd H' s e => w cls dd σ H' (rl.same s) (Stp.of_same s) e
  | bad => exact w
section
variable {X : Cx} {W : WX} {st : Stmt} {sts : List Stmt} {e e1 e2 : Expr} {f g : Rho → Fl} {fe fe1 fe2 : Rho → R (D × Bool)} {pos p p2 : Pos} {i j : Nat} {x y : Str}
theorem ss_nil : SSs X W [] sNop := ⟨_, pss_nil, fun S0 H0 ρ σ H Dd r w => w σ H r Stp.refl⟩
theorem ss_cons (h : SS X W st f) (k : SSs X W sts g) : SSs X W (st :: sts) (sSeq f g) := by
  obtain ⟨t, p, h⟩ := h.ex
  obtain ⟨u, q, k⟩ := k.ex
  refine ⟨_, pss_cons p q, fun S0 H0 ρ σ H Dd r w => h S0 H0 ρ σ H _ r ?_⟩
  unfold sSeq at w
  cases hf : f ρ with
  | next ρ' =>
    rw [hf] at w
    exact fun σ' H' a b => k S0 H0 ρ' σ' H' Dd a (WantS.step b w)
  | brk ρ' => rw [hf] at w; exact w
  | cont ρ' => rw [hf] at w; exact w
  | ret p => rw [hf] at w; exact w
  | exc ρ' c fs => rw [hf] at w; exact w
  | bad => rw [hf] at w; exact w
theorem ss_one (h : SS X W st f) : SSs X W [st] f := by
  obtain ⟨t, p, h⟩ := h.ex
  exact ⟨_, pss_one p, h⟩
theorem ss_pass : SS X W (.Pass pos) sNop := ⟨_, ps_pass, fun S0 H0 ρ σ H Dd r w => w σ H r Stp.refl⟩
theorem ss_cont : SS X W (.Continue pos) .cont := ⟨_, ps_continue, fun S0 H0 ρ σ H Dd r w => w σ H r Stp.refl⟩
theorem ss_brk : SS X W (.Break pos) .brk := ⟨_, ps_break, fun S0 H0 ρ σ H Dd r w => w σ H r Stp.refl⟩
/-- slots let go of what is theirs alone, first -/
def sFrz (is : List Nat) (f : Rho → Fl) : Rho → Fl := fun ρ => f (frzs is ρ)
theorem ss_frz (is : List Nat) (h : SS X W st f) : SS X W st (sFrz is f) := by
  obtain ⟨t, p, h⟩ := h.ex
  refine ⟨_, p, fun S0 H0 ρ σ H Dd r w => ?_⟩
  obtain ⟨r1, s1⟩ := r.frzs is
  exact h S0 H0 _ σ H Dd r1 (WantS.step s1 w)
/-! ### x = e -/
def isComp : Expr → Bool | .ListComp .. => true | .SetComp .. => true | .DictComp .. => true | _ => false
theorem swapsWith_pl {e : Expr} (h : isComp e = false) (t : Option Expr) (l : Nat) (env : PySem.Env) : swapsWith e t l env = pure false := by
  cases e <;> first | rfl | cases h
def sSet (i : Nat) (m : Bool) (fe : Rho → R (D × Bool)) : Rho → Fl := fun ρ => (fe ρ).fl ρ fun q => .next (ρ.set i (some (q.1, q.2 && m)))
theorem set_sem {m : Bool} {t : TE} (h : SemF X W t fe) : SemS X W (tAsg t (gName i)) (sSet i m fe) := by
  intro S0 H0 ρ σ H Dd r w
  refine h S0 H0 ρ σ H _ r (fl_want r w fun q v H1 s pf w1 => ?_)
  obtain ⟨d, b⟩ := q
  cases hb : b && m with
  | false =>
    have w1' : WantS X.K X.mg W S0 H0 ρ σ H Dd (.next (ρ.set i (some (d, b && m)))) := w1
    rw [hb] at w1'
    exact w1' _ _ (r.setC s pf.1) (stp_setC s)
  | true =>
    have w1' : WantS X.K X.mg W S0 H0 ρ σ H Dd (.next (ρ.set i (some (d, b && m)))) := w1
    rw [hb] at w1'
    rw [Bool.and_eq_true] at hb
    obtain ⟨a, ev, n, tp⟩ := pf.2 hb.1
    subst ev
    exact w1' _ _ (r.setO s n tp) (stp_setO s n)
theorem ss_set {m : Bool} (hN : X.N.Nodup) (hi : X.N[i]? = some x) (hx : Loc X.env.scope x) (he : SF X W e fe) (hc : isComp e = false) (hf : X.fn x = true ∨ X.env.scope.names.lookup x = some .local) : SS X W (.Assign [.Name x p2] e pos) (sSet i m fe) := by
  obtain ⟨t, q, h⟩ := he.ex
  exact ⟨_, ps_set hN hi hx q (swapsWith_pl hc _ _ _) hf, set_sem h⟩
/-! ### return -/
def frzAll (ρ : Rho) : Rho := ρ.map fun o => o.map fun q => (q.1, false)
theorem frzAll_get {ρ : Rho} {i : Nat} {d : D} {b : Bool} (h : (frzAll ρ)[i]? = some (some (d, b))) : b = false ∧ ∃ b', ρ[i]? = some (some (d, b')) := by
  unfold frzAll at h
  rw [List.getElem?_map] at h
  cases e : ρ[i]? with
  | none => rw [e] at h; cases h
  | some o =>
    rw [e] at h
    cases o with
    | none => cases h
    | some q =>
      have h' : some (some (q.1, false)) = some (some (d, b)) := h
      cases h'
      exact ⟨rfl, q.2, rfl⟩
theorem Rl.frzAll {K : PySem.W.Frag} {S0 : Addr → Prop} {H0 H : Hp} {ρ : Rho} {σ : L2.St} (r : Rl K S0 H0 ρ σ H) : Rl K S0 H0 (frzAll ρ) σ H ∧ ∀ a, ¬ OwnA (VM.frzAll ρ) σ a := by
  have no : ∀ a, ¬ OwnA (VM.frzAll ρ) σ a := fun a ⟨i, d, e1, _⟩ => by
    have := (frzAll_get e1).1
    cases this
  have hf : ∀ a, Fb S0 (VM.frzAll ρ) σ a → Fb S0 ρ σ a := fun a z => z.elim .inl fun z => (no a z).elim
  refine ⟨⟨by unfold VM.frzAll; rw [List.length_map]; exact r.len, r.s0, r.keep, fun i d e => ?_, fun i d e => ?_, fun i j d e a e1 => ?_⟩, no⟩
  · obtain ⟨_, b, e'⟩ := frzAll_get e
    cases b with
    | false =>
      obtain ⟨v, h1, h2⟩ := r.clean i d e'
      exact ⟨v, h1, h2.less hf⟩
    | true =>
      obtain ⟨a, h1, h2, h3⟩ := r.own i d e'
      refine ⟨_, h1, Top.rep (h3.mono (Kp.of_same (Same.refl _)) (fun b z => .inl (hf b z)) fun _ z => z) fun z => ?_⟩
      rcases z with z | z
      · exact h2.2 z
      · exact no a z
  · have := (frzAll_get e).1
    cases this
  · have := (frzAll_get e1).1
    cases this
def sRet (fe : Rho → R (D × Bool)) : Rho → Fl := fun ρ => (fe (frzAll ρ)).fl ρ .ret
theorem ss_ret (he : SF X W e fe) : SS X W (.Return (some e) pos) (sRet fe) := by
  obtain ⟨t, q, h⟩ := he.ex
  refine ⟨_, ps_ret q, fun S0 H0 ρ σ H Dd r w => ?_⟩
  obtain ⟨r1, no⟩ := r.frzAll
  have hs : ∀ a, S0 a → Fb S0 (frzAll ρ) σ a := fun a z => .inl z
  refine h S0 H0 _ σ H _ r1 (fl_want r w fun q v H1 s pf w1 => ?_)
  refine w1 v H1 (r.keep.trans s) ⟨pf.1.less hs, fun z => ?_⟩
  obtain ⟨a, ev, n, tp⟩ := pf.2 z
  exact ⟨a, ev, r.keep.free n, tp.mono (Kp.of_same (Same.refl _)) (fun b z => .inl (z.elim (fun z => .inl (.inl z)) .inr)) fun _ z => z⟩
theorem ss_retN : SS X W (.Return none pos) (fun _ => .ret (.non, false)) := ⟨_, ps_retN, fun S0 H0 ρ σ H Dd r w => w _ _ r.keep (PF.of rfl)⟩
/-- return x -/
def sRetV (i : Nat) : Rho → Fl := fun ρ => match ρ[i]? with
  | some (some q) => .ret q
  | _ => .bad
theorem ss_retV (hN : X.N[i]? = some x) (hv : Vis X.env.scope x) (hd : (x == ("__debug__" : Str)) = false) (hcd : (x == ("__classdict__" : Str)) = false) : SS X W (.Return (some (.Name x p2)) pos) (sRetV i) := by
  refine ⟨_, ps_ret (pe_var hN hv hd hcd), fun S0 H0 ρ σ H Dd r w => ?_⟩
  unfold sRetV at w
  split at w
  · rename_i q h
    obtain ⟨d, b⟩ := q
    cases b with
    | false =>
      obtain ⟨v, h1, h2⟩ := r.clean i d h
      exact ⟨v, h1, w v H r.keep (PF.of (h2.less fun a z => .inl z))⟩
    | true =>
      obtain ⟨a, h1, h2, h3⟩ := r.own i d h
      have hs : ∀ b, (S0 b ∨ b = a) → Fb S0 ρ σ b := fun b z => z.elim .inl fun z => by rw [z]; exact .inr ⟨i, d, h, h1⟩
      have t : Top X.K (fun b => S0 b ∨ b = a) H a d := h3.mono (Kp.of_same (Same.refl _)) (fun b z => .inl (hs b z)) fun _ z => z
      exact ⟨_, h1, w _ H r.keep ⟨Top.rep (t.mono (Kp.of_same (Same.refl _)) (fun b z => .inl (.inl z)) fun _ z => z) h2.2, fun _ => ⟨a, rfl, h2.1, t⟩⟩⟩
  · exact w.elim
/-! ### if, while -/
def sIf (c : Rho → R Bool) (f g : Rho → Fl) : Rho → Fl := fun ρ => (c ρ).fl ρ fun b => if b = true then f ρ else g ρ
theorem ss_if {c : Expr} {a b : List Stmt} {fc : Rho → R Bool} (hc : ST X W c fc) (ha : SSs X W a f) (hb : SSs X W b g) : SS X W (.If c a b pos) (sIf fc f g) := by
  obtain ⟨t, p, h⟩ := hc.ex
  obtain ⟨u, q, k⟩ := ha.ex
  obtain ⟨u', q', k'⟩ := hb.ex
  refine ⟨_, ps_if p q q', fun S0 H0 ρ σ H Dd r w => h S0 H0 ρ σ H _ r (fl_want r w fun b v H1 s z w1 => ?_)⟩
  have z' : v = b := z
  subst z'
  have w2 := WantS.step (Stp.of_same s) w1
  cases v with
  | true => exact k S0 H0 ρ σ H1 Dd (r.same s) w2
  | false => exact k' S0 H0 ρ σ H1 Dd (r.same s) w2
def whileL (c : Rho → R Bool) (f : Rho → Fl) : Nat → Rho → Fl
  | 0, _ => .bad
  | n + 1, ρ => (c ρ).fl ρ fun b => if b = true then (match f ρ with
    | .next ρ' => whileL c f n ρ'
    | .cont ρ' => whileL c f n ρ'
    | .brk ρ' => .next ρ'
    | r => r) else .next ρ
/-- more turns than any loop here takes -/
def fuel : Nat := 2 ^ 64
def sWhile (c : Rho → R Bool) (f : Rho → Fl) : Rho → Fl := whileL c f fuel
theorem ss_while {c : Expr} {body : List Stmt} {fc : Rho → R Bool} (hp : PassesOwn (model X.prog X.w) X.A X.env X.xe) (hc : ST X W c fc) (hb : SSs X W body f) : SS X W (.While c body [] pos) (sWhile fc f) := by
  obtain ⟨t, p, h⟩ := hc.ex
  obtain ⟨u, q, k⟩ := hb.ex
  refine ⟨_, ps_while hp p q, fun S0 H0 ρ σ H Dd r w => ?_⟩
  refine ⟨fun n σ' H' => ∃ ρ', Rl X.K S0 H0 ρ' σ' H' ∧ WantS X.K X.mg W S0 H0 ρ' σ' H' Dd (whileL fc f n ρ'), ⟨fuel, ρ, r, w⟩, fun n σ1 H1 ⟨ρ1, r1, w1⟩ => ?_⟩
  cases n with
  | zero => exact (show False from w1).elim
  | succ n =>
    refine h S0 H0 ρ1 σ1 H1 _ r1 (fl_want r1 w1 fun b v H2 s z w2 => ?_)
    have z' : v = b := z
    subst z'
    have r2 := r1.same s
    have w3 := WantS.step (Stp.of_same s) w2
    cases v with
    | false => exact w3 _ _ r2 Stp.refl
    | true =>
      refine ⟨fun σ' H' => ∃ ρ', Rl X.K S0 H0 ρ' σ' H' ∧ WantS X.K X.mg W S0 H0 ρ' σ' H' Dd (whileL fc f n ρ'), fun σ' H' hh => ⟨n, Nat.lt_succ_self n, hh⟩, k S0 H0 ρ1 σ1 H2 _ r2 ?_⟩
      have w4 : WantS X.K X.mg W S0 H0 ρ1 σ1 H2 Dd (match f ρ1 with
        | .next ρ' => whileL fc f n ρ'
        | .cont ρ' => whileL fc f n ρ'
        | .brk ρ' => .next ρ'
        | r => r) := w3
      cases hf : f ρ1 with
      | next ρ' => rw [hf] at w4; exact fun σ' H' a b => ⟨ρ', a, WantS.step b w4⟩
      | cont ρ' => rw [hf] at w4; exact fun σ' H' a b => ⟨ρ', a, WantS.step b w4⟩
      | brk ρ' => rw [hf] at w4; exact fun σ' H' a b => w4 σ' H' a b
      | ret p => rw [hf] at w4; exact w4
      | exc ρ' c fs => rw [hf] at w4; exact w4
      | bad => rw [hf] at w4; exact w4.elim
/-! ### e (its value is let go) -/
def sDrop (fe : Rho → R (D × Bool)) : Rho → Fl := fun ρ => (fe ρ).fl ρ fun _ => .next ρ
theorem ss_drop (he : SF X W e fe) (hc : isComp e = false) : SS X W (.Expr e pos) (sDrop fe) := by
  obtain ⟨t, q, h⟩ := he.ex
  refine ⟨_, ps_expr q (swapsWith_pl hc _ _ _), fun S0 H0 ρ σ H Dd r w => h S0 H0 ρ σ H _ r (fl_want r w fun q v H1 s pf w1 => ?_)⟩
  exact w1 _ _ (r.same s) (Stp.of_same s)
/-! ### a, b = e, e' (two names of the def) -/
theorem swapped_two {x y : Str} {px py pt pt2 : Pos} {kt k2 : Nat} {a b : Expr} {env : PySem.Env} (hk : env.blockKind = .function) (hx : env.scope.names.lookup x = some .local) (hy : env.scope.names.lookup y = some .local) (hl : (py.line == px.line) = true) (hn : x ≠ y)
    (h1 : foldedForSure 8 a = false ∨ foldedForSure 8 b = false) (h2 : constantsAlone 8 a = false ∨ constantsAlone 8 b = false) (sa : isStar a = false) (sb : isStar b = false) :
    swappedStores [.Tuple [.Name x px, .Name y py] kt pt] (.Tuple [a, b] k2 pt2) env = pure (some [x, y]) := by
  have e2 : [a, b].all (foldedForSure 8) = false := by
    rcases h1 with h | h <;> simp [h]
  have e3 : [a, b].all (constantsAlone 8) = false := by
    rcases h2 with h | h <;> simp [h]
  have kx : env.kindOf x = some .local := hx
  have ky : env.kindOf y = some .local := hy
  have bk : env.blockKind = .function := hk
  have hl' : py.line = px.line := by simpa using hl
  have ne : (y == x) = false := by simpa using fun z : y = x => hn z.symm
  unfold swappedStores
  simp only [List.length_cons, List.length_nil, bk, e2, e3, List.filterMap_cons, List.filterMap_nil, kx, ky, List.head?_cons, Option.map_some, Option.getD_some, Expr.pos, hl', BEq.rfl, Bool.and_self, if_true, List.eraseDups_cons, List.filter_cons, List.filter_nil, List.eraseDups_nil]
  rw [if_neg (by decide), if_neg (by cases a <;> first | exact Bool.noConfusion (show true = false from sa) | (cases b <;> first | exact Bool.false_ne_true | exact Bool.noConfusion (show true = false from sb))), if_neg (by simp [ne, List.eraseDups_cons]), if_neg Bool.false_ne_true, if_neg Bool.false_ne_true]
def sPar (i j : Nat) (f1 f2 : Rho → R (D × Bool)) : Rho → Fl := fun ρ => (do let p ← f1 ρ; let q ← f2 ρ; pure (p.1, q.1)).fl ρ fun q => .next ((ρ.set i (some (q.1, false))).set j (some (q.2, false)))
theorem ss_par {pt pt2 px py : Pos} {kt k2 : Nat} (hc : X.calm = true) (hk : X.env.blockKind = .function) (hN : X.N.Nodup) (hi : X.N[i]? = some x) (hj : X.N[j]? = some y) (hij : i ≠ j)
    (hx : X.env.scope.names.lookup x = some .local) (hy : X.env.scope.names.lookup y = some .local) (hl : (py.line == px.line) = true) (hn : x ≠ y)
    (h1 : foldedForSure 8 e1 = false ∨ foldedForSure 8 e2 = false) (h2 : constantsAlone 8 e1 = false ∨ constantsAlone 8 e2 = false) (ha : SF X W e1 fe1) (hb : SF X W e2 fe2) :
    SS X W (.Assign [.Tuple [.Name x px, .Name y py] kt pt] (.Tuple [e1, e2] k2 pt2) pos) (sPar i j fe1 fe2) := by
  have n1 := ha.ns
  have n2 := hb.ns
  obtain ⟨t, q, h⟩ := ha.ex
  obtain ⟨u, q', k⟩ := hb.ex
  refine ⟨_, ps_par hc hN hi hj hij hx hy (pa_cons q (pa_cons q' pa_nil (star_of n2 _ _)) (star_of n1 _ _)) (swapped_two hk hx hy hl hn h1 h2 n1 n2), fun S0 H0 ρ σ H Dd r w => ?_⟩
  unfold sPar at w
  have w0 := fl_want (γ := V) (P := fun (_ : D × D) _ _ => True) (Q := fun _ _ => True) r w
  refine h S0 H0 ρ σ H _ r ?_
  cases e1 : fe1 ρ with
  | bad => rw [e1] at w; exact w
  | exc c fs =>
    rw [e1] at w
    exact fun cls dd H' s e => w cls dd σ H' (r.same s) (Stp.of_same s) e
  | ok p =>
    rw [e1] at w
    intro v H1 s pf
    have r1 := r.same s
    refine k S0 H0 ρ σ H1 _ r1 ?_
    cases e2 : fe2 ρ with
    | bad =>
      have w' : WantS X.K X.mg W S0 H0 ρ σ H Dd ((fe2 ρ >>= fun q => pure (p.1, q.1)).fl ρ fun q => .next ((ρ.set i (some (q.1, false))).set j (some (q.2, false)))) := w
      rw [e2] at w'; exact w'
    | exc c fs =>
      have w' : WantS X.K X.mg W S0 H0 ρ σ H Dd ((fe2 ρ >>= fun q => pure (p.1, q.1)).fl ρ fun q => .next ((ρ.set i (some (q.1, false))).set j (some (q.2, false)))) := w
      rw [e2] at w'
      exact fun cls dd H' s' e => w' cls dd σ H' (r1.same s') (Stp.of_same (s.trans s')) e
    | ok p2 =>
      have w' : WantS X.K X.mg W S0 H0 ρ σ H Dd ((fe2 ρ >>= fun q => pure (p.1, q.1)).fl ρ fun q => .next ((ρ.set i (some (q.1, false))).set j (some (q.2, false)))) := w
      rw [e2] at w'
      intro v2 H2 s2 pf2
      refine ⟨v, v2, rfl, ?_⟩
      have r2 := r1.setC (i := i) s2 (pf.1.same s2)
      have t2 : Stp ρ σ H1 (ρ.set i (some (p.1, false))) (σ.set i (some v)) H2 := stp_setC s2
      have less : ∀ a, Fb S0 (ρ.set i (some (p.1, false))) (σ.set i (some v)) a → Fb S0 ρ σ a := fun a z => z.elim .inl fun z => by
        rcases ownA_set z with ⟨z, _⟩ | ⟨⟨d', e⟩, _⟩
        · exact .inr z
        · cases e
      have r3 := r2.setC (i := j) (Same.refl _) (pf2.1.less less)
      exact w' _ _ r3 ((Stp.of_same s).trans (t2.trans (stp_setC (Same.refl _))))
/-! ### targets -/
theorem wipe_set_in {σ : L2.St} {i : Nat} {o : Option V} : ∀ {vs : List Nat}, i ∈ vs → wipe (σ.set i o) vs = wipe σ vs
  | v :: vs, h => by
    show (wipe (σ.set i o) vs).set v none = (wipe σ vs).set v none
    by_cases e : i = v
    · subst e
      by_cases h2 : i ∈ vs
      · rw [wipe_set_in h2]
      · have : ∀ (τ : L2.St) (ws : List Nat), i ∉ ws → (wipe (τ.set i o) ws).set i none = (wipe τ ws).set i none := by
          intro τ ws
          induction ws with
          | nil => intro _; show (τ.set i o).set i none = τ.set i none; rw [List.set_set]
          | cons w ws ih =>
            intro hw
            have hw1 : i ≠ w := fun z => hw (by rw [z]; exact List.mem_cons_self)
            have hw2 : i ∉ ws := fun z => hw (List.mem_cons_of_mem _ z)
            show ((wipe (τ.set i o) ws).set w none).set i none = ((wipe τ ws).set w none).set i none
            rw [List.set_comm _ _ (Ne.symm hw1), ih hw2, List.set_comm _ _ hw1]
        exact this σ vs h2
    · have h2 : i ∈ vs := (List.mem_cons.mp h).elim (fun z => absurd z e) id
      rw [wipe_set_in h2]
/-- what a target does with data; ix: the slots that it writes -/
structure SG (X : Cx) (tg : Expr) (ix : List Nat) (g : D → Rho → R Rho) : Prop where
  kp : ∀ d ρ ρ', g d ρ = .ok ρ' → ∀ i, i ∉ ix → ρ'[i]? = ρ[i]?
  pl : ∀ d ρ c fs, g d ρ ≠ .exc c fs
  ex : ∃ t, PG X tg t ∧ ∀ S0 H0 ρ σ H v d (Q : L2.St → Hp → Prop), Rl X.K S0 H0 ρ σ H → Rep X.K (Fb S0 ρ σ) H d v →
    (∃ ρ', g d ρ = .ok ρ' ∧ ∀ σ', Rl X.K S0 H0 ρ' σ' H → Stp ρ σ H ρ' σ' H → (∀ vs, (∀ i ∈ ix, i ∈ vs) → wipe σ' vs = wipe σ vs) → Q σ' H) → t v σ H Q
def gN (i : Nat) : D → Rho → R Rho := fun d ρ => .ok (ρ.set i (some (d, false)))
theorem sg_name (hN : X.N.Nodup) (hi : X.N[i]? = some x) (hx : Loc X.env.scope x) (hf : X.fn x = true ∨ X.env.scope.names.lookup x = some .local) : SG X (.Name x pos) [i] (gN i) :=
  ⟨fun d ρ ρ' e j hj => by
    cases e
    exact List.getElem?_set_ne (fun z => hj (by rw [z]; exact List.mem_cons_self)), fun _ _ _ _ h => (by cases h), _, pg_name hN hi hx hf, fun S0 H0 ρ σ H v d Q r h ⟨ρ', e, k⟩ => by
    cases e
    exact k _ (r.setC (Same.refl _) h) (stp_setC (Same.refl _)) fun vs hv => wipe_set_in (hv i (by simp))⟩
structure SGs (X : Cx) (tgs : List Expr) (ix : List Nat) (g : List D → Rho → R Rho) : Prop where
  kp : ∀ ds ρ ρ', g ds ρ = .ok ρ' → ∀ i, i ∉ ix → ρ'[i]? = ρ[i]?
  pl : ∀ ds ρ c fs, g ds ρ ≠ .exc c fs
  ns : tgs.all (fun e => !isStar e) = true
  len : ∀ ds ρ ρ', g ds ρ = .ok ρ' → ds.length = tgs.length
  ex : ∃ t, PGs X tgs t ∧ ∀ S0 H0 ρ σ H vs ds (Q : L2.St → Hp → Prop), Rl X.K S0 H0 ρ σ H → Reps X.K (Fb S0 ρ σ) H ds vs →
    (∃ ρ', g ds ρ = .ok ρ' ∧ ∀ σ', Rl X.K S0 H0 ρ' σ' H → Stp ρ σ H ρ' σ' H → (∀ vs, (∀ i ∈ ix, i ∈ vs) → wipe σ' vs = wipe σ vs) → Q σ' H) → t vs σ H Q
def gNil : List D → Rho → R Rho
  | [], ρ => .ok ρ
  | _, _ => .bad
def gCons (g : D → Rho → R Rho) (gs : List D → Rho → R Rho) : List D → Rho → R Rho
  | d :: ds, ρ => do let ρ' ← g d ρ; gs ds ρ'
  | [], _ => .bad
theorem sgs_nil : SGs X [] [] gNil := by
  refine ⟨fun ds ρ ρ' h => ?_, fun d _ _ _ h => (by cases d <;> cases h), rfl, fun ds ρ ρ' h => ?_, _, pgs_nil, fun S0 H0 ρ σ H vs ds Q r h ⟨ρ', e, k⟩ => ?_⟩
  · cases ds with
    | nil => cases h; exact fun _ _ => rfl
    | cons d ds => cases h
  · cases ds with
    | nil => rfl
    | cons d ds => cases h
  · cases ds with
    | nil => cases e; exact ⟨h, k _ r Stp.refl fun _ _ => rfl⟩
    | cons d ds => cases e
theorem assignEach_cons {tg : Expr} {tgs : List Expr} {env : PySem.Env} (h : isStar tg = false) : assignEach (tg :: tgs) env = (false, assign tg env) :: assignEach tgs env := by
  cases tg <;> first | rfl | exact Bool.noConfusion (show true = false from h)
theorem gN_pl : ∀ d ρ c fs, gN i d ρ ≠ .exc c fs := fun _ _ _ _ h => by cases h
theorem gNil_pl : ∀ d ρ c fs, gNil d ρ ≠ .exc c fs := fun d _ _ _ h => by cases d <;> cases h
theorem gCons_pl {g : D → Rho → R Rho} {gs : List D → Rho → R Rho} (h : ∀ d ρ c fs, g d ρ ≠ .exc c fs) (k : ∀ d ρ c fs, gs d ρ ≠ .exc c fs) : ∀ d ρ c fs, VM.gCons g gs d ρ ≠ .exc c fs := fun d ρ c fs z => by
  cases d with
  | nil => cases z
  | cons d ds =>
    have z' : (g d ρ >>= fun ρ' => gs ds ρ') = R.exc c fs := z
    cases e1 : g d ρ with
    | ok ρ1 => rw [e1] at z'; exact k _ _ _ _ z'
    | exc c' fs' => exact h _ _ _ _ e1
    | bad => rw [e1] at z'; cases z'
theorem sgs_cons {tg : Expr} {tgs : List Expr} {ix iy : List Nat} {g : D → Rho → R Rho} {gs : List D → Rho → R Rho} (ns : isStar tg = false) (h : SG X tg ix g) (k : SGs X tgs iy gs) : SGs X (tg :: tgs) (ix ++ iy) (VM.gCons g gs) := by
  have hkp := h.kp
  have kkp := k.kp
  have hpl := h.pl
  have kpl := k.pl
  obtain ⟨t, p, h⟩ := h.ex
  have nk := k.ns
  have lk := k.len
  obtain ⟨u, q, k⟩ := k.ex
  refine ⟨fun ds ρ ρ' hh i hi => ?_, gCons_pl hpl kpl, by rw [List.all_cons, ns, nk]; rfl, fun ds ρ ρ' hh => ?_, _, pgs_cons p q (by rw [assignEach_cons ns]; rfl), fun S0 H0 ρ σ H vs ds Q r hr ⟨ρ', e, kk⟩ => ?_⟩
  · cases ds with
    | nil => cases hh
    | cons d ds =>
      have hh' : (g d ρ >>= fun ρ' => gs ds ρ') = R.ok ρ' := hh
      cases e1 : g d ρ with
      | ok ρ1 =>
        rw [e1] at hh'
        exact (kkp ds ρ1 ρ' hh' i fun z => hi (List.mem_append_right _ z)).trans (hkp d ρ ρ1 e1 i fun z => hi (List.mem_append_left _ z))
      | exc c fs => rw [e1] at hh'; cases hh'
      | bad => rw [e1] at hh'; cases hh'
  · cases ds with
    | nil => cases hh
    | cons d ds =>
      have hh' : (g d ρ >>= fun ρ' => gs ds ρ') = R.ok ρ' := hh
      cases e1 : g d ρ with
      | ok ρ1 => rw [e1] at hh'; rw [List.length_cons, List.length_cons, lk ds ρ1 ρ' hh']
      | exc c fs => rw [e1] at hh'; cases hh'
      | bad => rw [e1] at hh'; cases hh'
  · cases ds with
    | nil => cases e
    | cons d ds =>
      obtain ⟨v, vs', ev, r1, rs⟩ := hr
      subst ev
      have e' : (g d ρ >>= fun ρ' => gs ds ρ') = R.ok ρ' := e
      cases e1 : g d ρ with
      | ok ρ1 =>
        rw [e1] at e'
        refine ⟨v, vs', rfl, h S0 H0 ρ σ H v d _ r r1 ⟨ρ1, e1, fun σ1 rl1 s1 w1 => ?_⟩⟩
        refine k S0 H0 ρ1 σ1 H vs' ds Q rl1 (Reps.mono (Kp.of_same (Same.refl _)) (fun a z => ?_) ds vs' rs) ⟨ρ', e', fun σ2 rl2 s2 w2 => kk σ2 rl2 (s1.trans s2) fun vs hv =>
          (w2 vs fun i hi => hv i (List.mem_append_right _ hi)).trans (w1 vs fun i hi => hv i (List.mem_append_left _ hi))⟩
        rcases z with z | z
        · exact .inl (.inl z)
        · rcases s1.own a z with y | y
          · exact .inl (.inr y)
          · exact .inr y
      | exc c fs => rw [e1] at e'; cases e'
      | bad => rw [e1] at e'; cases e'
def gT (gs : List D → Rho → R Rho) : D → Rho → R Rho
  | .tup ds, ρ => gs ds ρ
  | .lst ds, ρ => gs ds ρ
  | .ktup ds, ρ => gs ds ρ
  | _, _ => .bad
theorem each_len {tgs : List Expr} {env : PySem.Env} : (assignEach tgs env).length = tgs.length := by
  induction tgs with
  | nil => rfl
  | cons e es ih => cases e <;> (show (assignEach es env).length + 1 = _; rw [ih]; rfl)
theorem each_star {tgs : List Expr} {env : PySem.Env} (h : tgs.all (fun e => !isStar e) = true) : (assignEach tgs env).findIdx? (·.1) = none := by
  rw [List.findIdx?_eq_none_iff]
  intro z hz
  induction tgs with
  | nil => cases hz
  | cons e es ih =>
    rw [List.all_cons, Bool.and_eq_true] at h
    have h1 : isStar e = false := by simpa using h.1
    rw [assignEach_cons h1] at hz
    rcases List.mem_cons.mp hz with rfl | hz
    · rfl
    · exact ih h.2 hz
theorem gT_pl {gs : List D → Rho → R Rho} (k : ∀ d ρ c fs, gs d ρ ≠ .exc c fs) : ∀ d ρ c fs, gT gs d ρ ≠ .exc c fs := fun d ρ c fs z => by
  unfold gT at z
  split at z
  · exact k _ _ _ _ z
  · exact k _ _ _ _ z
  · exact k _ _ _ _ z
  · cases z
theorem pg_or {tg : Expr} {t u : TG} (h : PG X tg t) (k : PG X tg u) : PG X tg (fun v σ H Q => t v σ H Q ∨ u v σ H Q) := ⟨fun pins s σ H v w Q I r z => z.elim (h.run pins s σ H v w Q I r) (k.run pins s σ H v w Q I r)⟩
theorem sg_tup {tgs : List Expr} {ix : List Nat} {gs : List D → Rho → R Rho} {k : Nat} (hc : X.calm = true) (h : SGs X tgs ix gs) : SG X (.Tuple tgs k pos) ix (gT gs) := by
  have ns := h.ns
  have lk := h.len
  have hkp := h.kp
  have hpl := h.pl
  obtain ⟨t, p, h⟩ := h.ex
  refine ⟨fun d ρ ρ' e i hi => ?_, gT_pl hpl, _, pg_or (pg_tup hc p each_len (each_star ns)) (pg_lst hc p each_len (each_star ns)), fun S0 H0 ρ σ H v d Q r hr ⟨ρ', e, kk⟩ => ?_⟩
  · unfold gT at e
    split at e
    · exact hkp _ _ _ e i hi
    · exact hkp _ _ _ e i hi
    · exact hkp _ _ _ e i hi
    · cases e
  unfold gT at e
  split at e
  · obtain ⟨a, vs, ev, q, rs⟩ := RepE.tup (.inl hr)
    exact .inl ⟨a, vs, ev, SqT.of q, by rw [rs.length]; exact lk _ _ _ e, h S0 H0 ρ σ H vs _ Q r rs ⟨ρ', e, kk⟩⟩
  · obtain ⟨a, vs, ev, q, rs⟩ := RepE.lst (.inl hr)
    exact .inr ⟨a, vs, ev, SqL.of q, by rw [rs.length]; exact lk _ _ _ e, h S0 H0 ρ σ H vs _ Q r rs ⟨ρ', e, kk⟩⟩
  · obtain ⟨a, vs, ev, q, rs⟩ := RepE.ktup (.inl hr)
    exact .inl ⟨a, vs, ev, q, by rw [rs.length]; exact lk _ _ _ e, h S0 H0 ρ σ H vs _ Q r rs ⟨ρ', e, kk⟩⟩
  · cases e
/-- (a, b) = e, e a tuple -/
def sAsg (g : D → Rho → R Rho) (fe : Rho → R (D × Bool)) : Rho → Fl := fun ρ => (fe ρ).fl ρ fun q => (g q.1 ρ).fl ρ .next
theorem swapsSole_pl {e tg : Expr} (h : isComp e = false) (l : Nat) (env : PySem.Env) : swapsWithSole [tg] e l env = pure false := swapsWith_pl h _ _ _
def isTup : Expr → Bool | .Tuple .. => true | _ => false
theorem swappedStores_no {e : Expr} {tgs : List Expr} {env : PySem.Env} (h : isTup e = false) : swappedStores tgs e env = pure none := by
  unfold swappedStores
  cases tgs with
  | nil => rfl
  | cons t ts =>
    cases ts with
    | nil => cases t <;> cases e <;> first | rfl | exact Bool.noConfusion (show true = false from h)
    | cons t2 ts => cases t <;> rfl
theorem ss_asg {tg : Expr} {ix : List Nat} {g : D → Rho → R Rho} (hg : SG X tg ix g) (ns : isStar tg = false) (he : SF X W e fe) (hc : isComp e = false) (ht : isTup e = false) : SS X W (.Assign [tg] e pos) (sAsg g fe) := by
  have gp := hg.pl
  obtain ⟨t, p, h⟩ := he.ex
  obtain ⟨u, q, k⟩ := hg.ex
  refine ⟨_, ps_asg p q (swapsSole_pl hc _ _) (swappedStores_no ht) (by rw [assignEach_cons ns]; rfl), fun S0 H0 ρ σ H Dd r w => h S0 H0 ρ σ H _ r (fl_want r w fun z v H1 s pf w1 => ?_)⟩
  cases hg' : g z.1 ρ with
  | ok ρ' =>
    have w2 : WantS X.K X.mg W S0 H0 ρ σ H Dd ((g z.1 ρ).fl ρ .next) := w1
    rw [hg'] at w2
    exact k S0 H0 ρ σ H1 v z.1 _ (r.same s) pf.1 ⟨ρ', hg', fun σ' rl st _ => w2 σ' H1 rl ((Stp.of_same s).trans st)⟩
  | exc c fs => exact absurd hg' (gp _ _ _ _)
  | bad =>
    have w2 : WantS X.K X.mg W S0 H0 ρ σ H Dd ((g z.1 ρ).fl ρ .next) := w1
    rw [hg'] at w2
    exact w2.elim
end
end VM
/-! VM8: what loops walk: enumerate and zip of lists, tuples and texts in any mix. -/
namespace VM
open PySem
open Sem (wp)
theorem meets_enumerate_newB1 {v : Value} {o : Obj} {H : Heap → Prop} (B : Begins v o H) :
    Meets (Builtin.«enumerate.__new__» ⟨[.type "enumerate", v], []⟩) (fun _ R s => H s.heap ∧
      R (.ok (.ret (.ref (s.heap.push o).objs.size))) { s with heap := (s.heap.push o).push { cls := .type "enumerate", data := .fields #[.none, .bool false, .ref s.heap.objs.size, rawInt 0, .none, .none] } }) :=
  .of_wp fun prog w A R s h => by
    obtain ⟨hp, g, d, tk, os⟩ := s; obtain ⟨h1, h⟩ := h
    have hsub := sub_enumerate
    have q1 : ∀ {A' : Around} {E : Value → Shared → Prop} {Q : Value → Shared → Prop}, Q (.ref hp.objs.size) ⟨hp.push o, g, d, tk, os⟩ → wpAny (model prog w) A' (pyIter v) Q E ⟨hp, g, d, tk, os⟩ :=
      fun q => B.iter prog w _ _ ⟨hp, g, d, tk, os⟩ _ h1 q
    wp_walk using q1
    refine wpAny_stack_any fun st => wpAny_pure ?_
    split
    · rename_i c _ _ _ _ _
      cases (c == Value.type "enumerate")
      · wp_walk using q1
        exact ⟨_, rfl, h⟩
      · wp_walk using q1
        exact ⟨_, rfl, h⟩
    · wp_walk using q1
      exact ⟨_, rfl, h⟩
theorem enum1_begins {prog : Program} {w : World} {A : Around} {E : Value → Shared → Prop} {s : Shared} {v : Value} {o : Obj} {H : Heap → Prop} {Q : Value → Shared → Prop} (B : Begins v o H) (h1 : H s.heap)
    (h : ∀ h', IsEnum h' (s.heap.objs.size + 1) s.heap.objs.size 0 .none → h'.get? s.heap.objs.size = some o → h'.objs.size = s.heap.objs.size + 2 →
      (∀ b o, s.heap.get? b = some o → h'.get? b = some o) → Q (.ref (s.heap.objs.size + 1)) { s with heap := h' }) :
    wpAny (model prog w) A (call (.type "enumerate") [v]) Q E s := by
  refine callType_new F.called_enumerate (by decide) (F.typeCall_enumerate_1 _) (F.newCall_enumerate_1 _) (fun obj => F.args_object_init_2 obj _) F.entry_enumerate_new
    (meets_enumerate_newB1 B) ⟨h1, ?_⟩
  have hz : (s.heap.push o).objs.size = s.heap.objs.size + 1 := Heap.size_push ..
  show _ ∧ _
  rw [hz]
  have he : IsEnum ((s.heap.push o).push { cls := .type "enumerate", data := .fields #[.none, .bool false, .ref s.heap.objs.size, rawInt 0, .none, .none] }) (s.heap.objs.size + 1) s.heap.objs.size 0 .none := by
    have := Heap.get?_push_size (s.heap.push o) (o := { cls := .type "enumerate", data := .fields #[.none, .bool false, .ref s.heap.objs.size, rawInt 0, .none, .none] }) rfl
    rw [hz] at this; exact this
  refine ⟨⟨_, he, rfl⟩, h _ he (Heap.get?_push_of_some _ (Heap.get?_push_size _ B.free)) (by rw [Heap.size_push, hz]) fun b o x => Heap.get?_push_of_some _ (Heap.get?_push_of_some _ x)⟩
end VM

namespace VM
open PySem L2

/-- what is walked -/
inductive Src where
  | L (a : Addr) | T (a : Addr) | S (x : Str) (t : Tok)
def signs (x : Str) : List V := x.cps.toList.map fun c => V.str ⟨#[c]⟩
def SrcOk (K : PySem.W.Frag) (H : Hp) : Src → List V → Prop
  | .L a, xs => SqL K H a xs
  | .T a, xs => SqT K H a xs
  | .S x _, xs => xs = signs x
def Src.val : Src → Value
  | .L a => .ref a
  | .T a => .ref a
  | .S x t => .str x t
def Src.it : Src → Addr → Nat → Heap → Prop
  | .L a, it, i, h => h.IsListIter it a i
  | .T a, it, i, h => h.IsTupleIter it a i
  | .S x t, it, i, h => h.IsStrIter it (strIterType x) x t i
def Src.obj : Src → Obj
  | .L a => { cls := .type "list_iterator", data := .fields #[.ref a, .int 0 0] }
  | .T a => { cls := .type "tuple_iterator", data := .fields #[.ref a, .int 0 0] }
  | .S x t => { cls := .type (strIterType x), data := .fields #[.str x t, .int 0 0] }
def Src.ne : Src → Addr → Prop
  | .L a, it => a ≠ it
  | .T a, it => a ≠ it
  | .S _ _, _ => True
def Src.fp : Src → List Addr
  | .L a => [a]
  | .T a => [a]
  | .S _ _ => []
theorem Src.it_live {S : Src} {it : Addr} {i : Nat} {h : Heap} (s : S.it it i h) : ∃ o, h.get? it = some o ∧ ∀ v, o.data ≠ .cell v := by
  cases S with
  | L a => obtain ⟨o, e, _, d⟩ := s; exact ⟨o, e, fun v z => by rw [d] at z; cases z⟩
  | T a => obtain ⟨o, e, _, d⟩ := s; exact ⟨o, e, fun v z => by rw [d] at z; cases z⟩
  | S x t => obtain ⟨o, e, _, d⟩ := s; exact ⟨o, e, fun v z => by rw [d] at z; cases z⟩
theorem Src.it_at {S : Src} {it : Addr} {i : Nat} {h h' : Heap} (s : S.it it i h) (k : ∀ o, h.get? it = some o → h'.get? it = some o) : S.it it i h' := by
  cases S with
  | L a => exact Heap.IsListIter.at s k
  | T a => exact Heap.IsTupleIter.at s k
  | S x t => obtain ⟨o, e, r⟩ := s; exact ⟨o, k o e, r⟩
theorem Src.obj_it {S : Src} {it : Addr} {h : Heap} (e : h.get? it = some S.obj) : S.it it 0 h := by
  cases S with
  | L a => exact ⟨_, e, rfl, rfl⟩
  | T a => exact ⟨_, e, rfl, rfl⟩
  | S x t => exact ⟨_, e, rfl, rfl⟩
/-- what an iterator over it draws, as the source stands -/
structure SrcD (P : Program) (w : World) (A : Around) (S : Src) (xs : List V) (h : Heap) (it : Addr) : Prop where
  ex : ∃ (Pd : Nat → Value → Prop) (pres : Heap → Prop), Draws P w A it (it :: S.fp) xs.length Pd (fun i h => S.it it i h ∧ pres h) ∧ pres h ∧ (∀ h h', pres h → (∀ b ∈ S.fp, ∀ o, h.get? b = some o → h'.get? b = some o) → pres h') ∧
    ∀ i v, Pd i v → ∃ x, xs[i]? = some x ∧ RelV x v
theorem vals_back : ∀ {xs : List V} {us : List Value}, Vals xs us → ∀ {i : Nat} {v : Value}, us[i]? = some v → ∃ x, xs[i]? = some x ∧ RelV x v
  | _, _, .nil, i, v, e => by simp at e
  | _, _, .cons r t, 0, v, e => by
    simp at e; subst e
    exact ⟨_, rfl, r⟩
  | _, _, .cons r t, i + 1, v, e => by
    obtain ⟨x, h1, h2⟩ := vals_back t (i := i) (v := v) (by simpa using e)
    exact ⟨x, by simpa using h1, h2⟩
theorem src_draws {X : Cx} {pins : List (Addr × Obj)} {σ : L2.St} {H : Hp} {s : Shared} {S : Src} {xs : List V} {A : Around} (I : Inv X pins σ H s) (ok : SrcOk X.K H S xs) {it : Addr} (ne : S.ne it) (hh : A.handled = none) : SrcD X.prog X.w A S xs s.heap it := by
  cases S with
  | L a =>
    obtain ⟨its, rv, p, hz⟩ := I.list ok
    have D := Draws.list (prog := X.prog) (w := X.w) hh it a ne its.toArray
    have e : its.toArray.size = xs.length := by rw [List.size_toArray, rv.length]
    rw [e] at D
    exact ⟨fun i v => its.toArray[i]? = some v, fun h => h.IsList a its.toArray, D, p.isList, fun h h' x k => x.at fun o e => k a (by simp [Src.fp]) o e, fun i v e => vals_back rv (by simpa using e)⟩
  | T a =>
    obtain ⟨its, rv, p, hz⟩ := I.tuple ok
    have D := Draws.tuple (prog := X.prog) (w := X.w) hh it a ne its.toArray
    have e : its.toArray.size = xs.length := by rw [List.size_toArray, rv.length]
    rw [e] at D
    exact ⟨fun i v => its.toArray[i]? = some v, fun h => h.IsTuple a its.toArray, D, p, fun h h' x k => x.at fun o e => k a (by simp [Src.fp]) o e, fun i v e => vals_back rv (by simpa using e)⟩
  | S x t =>
    have D := Draws.text (prog := X.prog) (w := X.w) hh it x t
    have ok' : xs = signs x := ok
    have e : x.cps.size = xs.length := by rw [ok']; unfold signs; rw [List.length_map, Array.length_toList]
    rw [e] at D
    refine ⟨_, fun _ => True, ⟨fun i h z => D.live i h z.1, fun i h h' z k => ⟨D.frame i h h' z.1 k, True.intro⟩, fun i s Q E hi z q => D.item i s Q E hi z.1 fun x h' tk a b c => q x h' tk a ⟨b, True.intro⟩ c, fun s Q E z q => D.done s Q E z.1 q⟩, True.intro, fun _ _ _ _ => True.intro, fun i v hv => ?_⟩
    obtain ⟨c, u, h1, h2⟩ := hv
    refine ⟨.str ⟨#[c]⟩, ?_, ⟨u, h2⟩⟩
    rw [ok']
    unfold signs
    rw [List.getElem?_map, Array.getElem?_toList, h1]; rfl

/-! ### enumerate -/
def JEnum (K : PySem.W.Frag) (S : Src) : It :=
  ⟨fun i H => ∃ xs, SrcOk K H S xs ∧ i < xs.length, fun i H v H' => ∃ T x, v = .ref T ∧ H T = none ∧ H' = upd H T (.tup [.int (i : Nat), x]) ∧ ∀ xs, SrcOk K H S xs → xs[i]? = some x, fun i H => ∃ xs, SrcOk K H S xs ∧ xs.length = i⟩
theorem srcOk_inj {X : Cx} {pins : List (Addr × Obj)} {σ : L2.St} {H : Hp} {s : Shared} (I : Inv X pins σ H s) {S : Src} {xs ys : List V} (h : SrcOk X.K H S xs) (k : SrcOk X.K H S ys) : xs = ys := by
  cases S with
  | L a => exact I.list_inj h k
  | T a => exact I.tuple_inj h k
  | S x t => exact (show xs = signs x from h).trans (show ys = signs x from k).symm
theorem turn_enumS {P : Program} {w : World} {K : PySem.W.Frag} {elts : List Expr} {kk : Nat} {tpos : Pos} (S : Src) (e it : Addr) (sn : S.ne it) (se : S.ne e) (hei : e ≠ it) :
    Turn P w K (.Tuple elts kk tpos) (JEnum K S) [e, it] e (fun i h => (∃ old, IsEnum h e it (0 + ((i : Nat) : Int)) old) ∧ S.it it i h) where
  mem := by simp
  obj := fun i h st b hb => by
    obtain ⟨⟨old, he⟩, hs⟩ := st
    have e' : b = e ∨ b = it := by simpa using hb
    rcases e' with z | z
    · rw [z]; exact ⟨_, he, fun v q => nomatch q⟩
    · rw [z]; exact (Src.it_live hs)
  keep := fun i h h' st k => let ⟨⟨old, he⟩, hs⟩ := st; ⟨⟨old, k e (by simp) _ he⟩, Src.it_at hs fun o q => k it (by simp) o q⟩
  item := by
    intro X hP hw hK hc i pins s σ H E I hf st hg
    subst hP hw hK
    obtain ⟨xs, ok, hi⟩ := hg
    obtain ⟨Pd, pres, D, hp, hpk, hd⟩ := (src_draws (A := X.A.in1) I ok sn (I.ok.hd hc)).ex
    have nef : e ∉ it :: S.fp := by
      cases S with
      | L a => simp [Src.fp]; exact ⟨hei, fun z => se z.symm⟩
      | T a => simp [Src.fp]; exact ⟨hei, fun z => se z.symm⟩
      | S x t => simp [Src.fp]; exact hei
    have Wk := WalksT.enumFrom (prog := X.prog) (w := X.w) (A := X.A) 0 D e hei nef (List.mem_cons_self ..)
    have stE : e < s.heap.objs.size := by obtain ⟨⟨old, he⟩, _⟩ := st; exact Heap.lt_size he
    have stI : it < s.heap.objs.size := by obtain ⟨_, hs⟩ := st; obtain ⟨o, q, _⟩ := (Src.it_live hs); exact Heap.lt_size q
    refine Wk.item i s _ _ hi ⟨st.1, st.2, hp⟩ fun T vals h' tk hv hT htup mid hk => ?_
    refine ⟨_, rfl, Wk.go elts kk tpos i T { s with heap := h', toks := tk } _ _ mid fun h'' st'' hk'' => ?_⟩
    obtain ⟨t, x0, hx0, ev⟩ := hv
    obtain ⟨x, hx, rx⟩ := hd i x0 hx0
    subst ev
    have nT : T ∉ [e, it] := Wk.apart i T h' mid
    have htup2 : h''.IsTuple T #[.int (0 + (i : Int)) t, x0] := htup.at fun o q => hk'' T o nT q
    have new : ObjOk X.prog X.w (upd H T (.tup [.int (i : Nat), x])) h'' T (.tup [.int (i : Nat), x]) :=
      ⟨by show 2 ≤ sizeLine; decide, [.int (0 + (i : Int)) t, x0], .cons ⟨t, by rw [Int.zero_add]⟩ (.cons rx .nil), htup2⟩
    have I1 : Inv X pins σ (upd H T (.tup [.int (i : Nat), x])) { s with heap := h'', toks := tk } :=
      I.turnedNew (ch := [e, it]) (fun b ob hb q => hk'' b ob hb (hk b ob hb q)) hf hT new
    refine ⟨.ref T, _, I1, rfl, ⟨T, x, rfl, I.hok.fresh hT, rfl, fun ys hy => by rw [srcOk_inj I hy ok]; exact hx⟩, ⟨st''.1, st''.2.1⟩, fun b hb => ?_⟩
    have hb' : b < s.heap.objs.size := by
      have e' : b = e ∨ b = it := by simpa using hb
      rcases e' with z | z
      · rw [z]; exact stE
      · rw [z]; exact stI
    rw [upd_ne (Nat.ne_of_lt (Nat.lt_of_lt_of_le hb' hT))]
    exact (hf b hb).1
  done := by
    intro X hP hw hK hc i pins s σ H E I hf st hg
    subst hP hw hK
    obtain ⟨xs, ok, hi⟩ := hg
    obtain ⟨Pd, pres, D, hp, hpk, hd⟩ := (src_draws (A := X.A.in1) I ok sn (I.ok.hd hc)).ex
    have nef : e ∉ it :: S.fp := by
      cases S with
      | L a => simp [Src.fp]; exact ⟨hei, fun z => se z.symm⟩
      | T a => simp [Src.fp]; exact ⟨hei, fun z => se z.symm⟩
      | S x t => simp [Src.fp]; exact hei
    have Wk := WalksT.enumFrom (prog := X.prog) (w := X.w) (A := X.A) 0 D e hei nef (List.mem_cons_self ..)
    subst hi
    exact Wk.done s _ _ ⟨st.1, st.2, hp⟩ fun h' tk hk => ⟨rfl, I.turnedL (t' := tk) (ch := [e, it]) (fun c o hb q => hk c o hb q) hf⟩
  self := fun A i s Q E st h => let ⟨⟨_, he⟩, _⟩ := st; wpAny_pyIter_enum he h

/-! ### zip -/
def JZip (K : PySem.W.Frag) (S S2 : Src) : It :=
  ⟨fun i H => ∃ xs ys, SrcOk K H S xs ∧ SrcOk K H S2 ys ∧ i < min xs.length ys.length, fun i H v H' => ∃ T x y, v = .ref T ∧ H T = none ∧ H' = upd H T (.tup [x, y]) ∧ (∀ xs, SrcOk K H S xs → xs[i]? = some x) ∧ ∀ ys, SrcOk K H S2 ys → ys[i]? = some y,
   fun i H => ∃ xs ys, SrcOk K H S xs ∧ SrcOk K H S2 ys ∧ min xs.length ys.length = i⟩
theorem sep_of {N : Nat} {S S2 : Src} (h1 : ∀ b ∈ S.fp, b < N) (h2 : ∀ b ∈ S2.fp, b < N) : ZipSep2 (N + 4) (N + 2) (N + 3) N (N + 1) (N :: S.fp) ((N + 1) :: S2.fp) := zip_sep2 h1 h2
theorem turn_zipS {P : Program} {w : World} {K : PySem.W.Frag} {elts : List Expr} {kk : Nat} {tpos : Pos} (S S2 : Src) (z TI TO i1 i2 : Addr) (Sp : ZipSep2 z TI TO i1 i2 (i1 :: S.fp) (i2 :: S2.fp)) (n1 : S.ne i1) (n2 : S2.ne i2) :
    Turn P w K (.Tuple elts kk tpos) (JZip K S S2) [z, TI, TO, i1, i2] z (fun i h => IsZip h z TI TO .none ∧ IsTupOf2 h TI (.ref i1) (.ref i2) ∧ (∃ a1 a2, IsTupOf2 h TO a1 a2) ∧ S.it i1 i h ∧ S2.it i2 i h) where
  mem := by simp
  obj := fun i h st c hc => by
    obtain ⟨hz, hTI, ⟨x, y, hTO⟩, h1, h2⟩ := st
    have e' : c = z ∨ c = TI ∨ c = TO ∨ c = i1 ∨ c = i2 := by simpa using hc
    rcases e' with q | q | q | q | q
    · rw [q]; exact ⟨_, hz, fun v q => nomatch q⟩
    · rw [q]; exact ⟨_, hTI, fun v q => nomatch q⟩
    · rw [q]; exact ⟨_, hTO, fun v q => nomatch q⟩
    · rw [q]; exact (Src.it_live h1)
    · rw [q]; exact (Src.it_live h2)
  keep := fun i h h' st k => by
    obtain ⟨hz, hTI, ⟨x, y, hTO⟩, h1, h2⟩ := st
    exact ⟨k z (by simp) _ hz, k TI (by simp) _ hTI, ⟨x, y, k TO (by simp) _ hTO⟩, Src.it_at h1 fun o q => k i1 (by simp) o q, Src.it_at h2 fun o q => k i2 (by simp) o q⟩
  item := by
    intro X hP hw hK hc i pins s σ H E I hf st hg
    subst hP hw hK
    obtain ⟨hz, hTI, hTO, h1, h2⟩ := st
    obtain ⟨xs, ys, ok, ok2, hi⟩ := hg
    obtain ⟨Pd, pres, D, hp, hpk, hd⟩ := (src_draws (A := X.A.in1) I ok n1 (I.ok.hd hc)).ex
    obtain ⟨Pd2, pres2, D2, hp2, hpk2, hd2⟩ := (src_draws (A := X.A.in1) I ok2 n2 (I.ok.hd hc)).ex
    have Wk := WalksT.zipD2 (prog := X.prog) (w := X.w) (A := X.A) Sp D D2
    refine Wk.item i s _ _ hi ⟨hz, hTI, hTO, ⟨h1, hp⟩, ⟨h2, hp2⟩⟩ fun T vals h' tk hv hT htup mid hk => ?_
    refine ⟨_, rfl, Wk.go elts kk tpos i T { s with heap := h', toks := tk } _ _ mid fun h'' st'' hk'' => ?_⟩
    obtain ⟨x0, y0, hx0, hy0, ev⟩ := hv
    obtain ⟨x, hx, rx⟩ := hd i x0 hx0
    obtain ⟨y, hy, ry⟩ := hd2 i y0 hy0
    subst ev
    have nT : T ∉ [z, TO, i1, i2] := Wk.apart i T h' mid
    have htup2 : h''.IsTuple T #[x0, y0] := htup.at fun o q => hk'' T o nT q
    have new : ObjOk X.prog X.w (upd H T (.tup [x, y])) h'' T (.tup [x, y]) := ⟨by show 2 ≤ sizeLine; decide, [x0, y0], .cons rx (.cons ry .nil), htup2⟩
    have sub : ∀ {b : Addr}, b ∉ [z, TI, TO, i1, i2] → b ∉ [z, TO, i1, i2] := fun {b} hb hm => hb (by
      have e' : b = z ∨ b = TO ∨ b = i1 ∨ b = i2 := by simpa using hm
      rcases e' with q | q | q | q <;> simp [q])
    have I1 : Inv X pins σ (upd H T (.tup [x, y])) { s with heap := h'', toks := tk } :=
      I.turnedNew (ch := [z, TI, TO, i1, i2]) (fun b ob hb q => hk'' b ob (sub hb) (hk b ob (sub hb) q)) hf hT new
    refine ⟨.ref T, _, I1, rfl, ⟨T, x, y, rfl, I.hok.fresh hT, rfl, fun l hl => by rw [srcOk_inj I hl ok]; exact hx, fun l hl => by rw [srcOk_inj I hl ok2]; exact hy⟩, ⟨st''.1, st''.2.1, st''.2.2.1, st''.2.2.2.1.1, st''.2.2.2.2.1⟩, fun c hcm => ?_⟩
    have hlt : c < s.heap.objs.size := by
      have e' : c = z ∨ c = TI ∨ c = TO ∨ c = i1 ∨ c = i2 := by simpa using hcm
      rcases e' with q | q | q | q | q
      · rw [q]; exact Heap.lt_size hz
      · rw [q]; exact Heap.lt_size hTI
      · rw [q]; obtain ⟨_, _, r⟩ := hTO; exact Heap.lt_size r
      · rw [q]; obtain ⟨_, e1, _⟩ := (Src.it_live h1); exact Heap.lt_size e1
      · rw [q]; obtain ⟨_, e1, _⟩ := (Src.it_live h2); exact Heap.lt_size e1
    rw [upd_ne (Nat.ne_of_lt (Nat.lt_of_lt_of_le hlt hT))]
    exact (hf c hcm).1
  done := by
    intro X hP hw hK hc i pins s σ H E I hf st hg
    subst hP hw hK
    obtain ⟨hz, hTI, hTO, h1, h2⟩ := st
    obtain ⟨xs, ys, ok, ok2, hi⟩ := hg
    obtain ⟨Pd, pres, D, hp, hpk, hd⟩ := (src_draws (A := X.A.in1) I ok n1 (I.ok.hd hc)).ex
    obtain ⟨Pd2, pres2, D2, hp2, hpk2, hd2⟩ := (src_draws (A := X.A.in1) I ok2 n2 (I.ok.hd hc)).ex
    have Wk := WalksT.zipD2 (prog := X.prog) (w := X.w) (A := X.A) Sp D D2
    subst hi
    have sub : ∀ {b : Addr}, b ∉ [z, TI, TO, i1, i2] → b ∉ [z, TO, i1, i2] := fun {b} hb hm => hb (by
      have e' : b = z ∨ b = TO ∨ b = i1 ∨ b = i2 := by simpa using hm
      rcases e' with q | q | q | q <;> simp [q])
    exact Wk.done s _ _ ⟨hz, hTI, hTO, ⟨h1, hp⟩, ⟨h2, hp2⟩⟩ fun h' tk hk => ⟨rfl, I.turnedL (t' := tk) (ch := [z, TI, TO, i1, i2]) (fun c o hb q => hk c o (sub hb) q) hf⟩
  self := fun A i s Q E st h => wpAny_pyIter_zip st.1 h

/-! ### how they begin -/
theorem src_begins {X : Cx} {pins : List (Addr × Obj)} {σ : L2.St} {H : Hp} {s : Shared} {S : Src} {xs : List V} (I : Inv X pins σ H s) (ok : SrcOk X.K H S xs) : ∃ Hh : Heap → Prop, Begins S.val S.obj Hh ∧ Hh s.heap ∧ ∀ b ∈ S.fp, b < s.heap.objs.size := by
  cases S with
  | L a =>
    obtain ⟨its, rv, p, hz⟩ := I.list ok
    exact ⟨_, begins_list a its.toArray, p.isList, fun b hb => by
      have : b = a := by simpa [Src.fp] using hb
      rw [this]; exact p.lt⟩
  | T a =>
    obtain ⟨its, rv, p, hz⟩ := I.tuple ok
    exact ⟨_, begins_tuple a its.toArray, p, fun b hb => by
      have : b = a := by simpa [Src.fp] using hb
      rw [this]; exact p.lt⟩
  | S x t => exact ⟨_, begins_text x t, True.intro, fun b hb => by simp [Src.fp] at hb⟩
theorem src_ne {S : Src} {N b : Nat} (h : ∀ b ∈ S.fp, b < N) (hb : N ≤ b) : S.ne b := by
  cases S with
  | L a => exact Nat.ne_of_lt (Nat.lt_of_lt_of_le (h a (by simp [Src.fp])) hb)
  | T a => exact Nat.ne_of_lt (Nat.lt_of_lt_of_le (h a (by simp [Src.fp])) hb)
  | S x t => exact True.intro
/-- a value that may be walked, by what it is -/
def SrcV (K : PySem.W.Frag) (H : Hp) (v : V) (u : Value) (S : Src) (xs : List V) : Prop := S.val = u ∧ SrcOk K H S xs
def srcOf (K : PySem.W.Frag) (H : Hp) (v : V) (xs : List V) (k : (Value → Src) → Prop) : Prop :=
  (∃ a, v = .ref a ∧ SqL K H a xs ∧ k fun _ => .L a) ∨ (∃ a, v = .ref a ∧ SqT K H a xs ∧ k fun _ => .T a) ∨ (∃ x, v = .str x ∧ xs = signs x ∧ k fun u => match u with | .str _ t => .S x t | _ => .S x 0)
theorem srcOf_at {K : PySem.W.Frag} {H : Hp} {v : V} {xs : List V} {k : (Value → Src) → Prop} (h : srcOf K H v xs k) : ∃ f, k f ∧ ∀ u, RelV v u → (f u).val = u ∧ SrcOk K H (f u) xs := by
  rcases h with ⟨a, e, q, r⟩ | ⟨a, e, q, r⟩ | ⟨x, e, q, r⟩
  · exact ⟨_, r, fun u ru => by subst e; exact ⟨(show u = .ref a from ru).symm, q⟩⟩
  · exact ⟨_, r, fun u ru => by subst e; exact ⟨(show u = .ref a from ru).symm, q⟩⟩
  · exact ⟨_, r, fun u ru => by
      subst e
      obtain ⟨t, rfl⟩ := (show ∃ t, u = Value.str x t from ru)
      exact ⟨rfl, q⟩⟩
section
variable {X : Cx} {e e2 : Expr} {ta : TA} {p pos tpos : Pos} {elts : List Expr} {kk : Nat}
def iEnumS (K : PySem.W.Frag) (ta : TA) : TI := fun σ H R => ta σ H fun vs H1 => ∃ v xs, vs = [v] ∧ srcOf K H1 v xs fun f => ∀ u, R (JEnum K (f u)) H1
theorem pi_enumS (hg : Gl X "enumerate") (hm : X.mg "enumerate" = none) (ha : PA X [e] ta) (ns : isStar e = false) :
    PI X (.Tuple elts kk tpos) (.Call (.Name "enumerate" p) [e] [] pos) (iEnumS X.K ta) := by
  refine ⟨fun pins s σ H R I h => ?_⟩
  refine PyProof.Rows.Call_ (ld_blt I hg hm PyProof.Rows.boot_enumerate (PyProof.Rows.callWith_type1 (thn (ha.run pos pins s σ H _ I h) fun us s1 ⟨vs, H1, I1, r1, q1⟩ => ?_) (star_of ns _ _) rfl))
  obtain ⟨v, xs, ex, hq⟩ := q1
  subst ex
  obtain ⟨f, q, hf⟩ := srcOf_at hq
  cases r1 with
  | cons r rr =>
    cases rr
    obtain ⟨ev, ok⟩ := hf _ r
    rw [← ev]
    obtain ⟨Hh, B, hh, hlt⟩ := src_begins I1 ok
    have B0 := B
    refine enum1_begins B hh fun h' he hit hsz hk => wpAny_pyIter_enum he ?_
    have I2 : Inv X pins σ H1 { s1 with heap := h' } := I1.kept (t' := s1.toks) hk
    refine ⟨s1.heap.objs.size + 1, [s1.heap.objs.size + 1, s1.heap.objs.size], _, _, H1, rfl, I2, turn_enumS _ (s1.heap.objs.size + 1) s1.heap.objs.size (src_ne hlt (Nat.le_refl _)) (src_ne hlt (Nat.le_succ _)) (Nat.succ_ne_self _), ⟨⟨.none, he⟩, Src.obj_it hit⟩, fun b hb => ?_, q _⟩
    have e' : b = s1.heap.objs.size + 1 ∨ b = s1.heap.objs.size := by simpa using hb
    have hle : s1.heap.objs.size ≤ b := by
      rcases e' with z | z
      · rw [z]; exact Nat.le_add_right _ _
      · rw [z]; exact Nat.le_refl _
    exact I1.fpOk hle (I1.hok.fresh hle)
def iZipS (K : PySem.W.Frag) (ta : TA) : TI := fun σ H R => ta σ H fun vs H1 => ∃ v v2 xs, vs = [v, v2] ∧ srcOf K H1 v xs fun f => ∃ ys, srcOf K H1 v2 ys fun g => ∀ u u2, R (JZip K (f u) (g u2)) H1
theorem pi_zipS (hg : Gl X "zip") (hm : X.mg "zip" = none) (ha : PA X [e, e2] ta) (ns : isStar e = false) (ns2 : isStar e2 = false) :
    PI X (.Tuple elts kk tpos) (.Call (.Name "zip" p) [e, e2] [] pos) (iZipS X.K ta) := by
  refine ⟨fun pins s σ H R I h => ?_⟩
  refine PyProof.Rows.Call_ (ld_blt I hg hm PyProof.Rows.boot_zip (PyProof.Rows.callWith_type1 (thn (ha.run pos pins s σ H _ I h) fun us s1 ⟨vs, H1, I1, r1, q1⟩ => ?_) (star_of ns _ _) (by rw [star_of ns2]; rfl)))
  obtain ⟨v, v2, xs, ex, hq⟩ := q1
  subst ex
  obtain ⟨f, ⟨ys, hq2⟩, hf⟩ := srcOf_at hq
  obtain ⟨g, q, hg⟩ := srcOf_at hq2
  cases r1 with
  | cons r rr =>
    cases rr with
    | cons r' rr =>
      cases rr
      obtain ⟨ev, ok⟩ := hf _ r
      obtain ⟨ev2, ok2⟩ := hg _ r'
      rw [← ev, ← ev2]
      obtain ⟨Hh, B, hh, hlt⟩ := src_begins I1 ok
      obtain ⟨Hh2, B2, hh2, hlt2⟩ := src_begins I1 ok2
      refine zip_begins2 B B2 hh hh2 fun h' hz hTI hTO ho1 ho2 hsz hk => wpAny_pyIter_zip hz ?_
      have I2 : Inv X pins σ H1 { s1 with heap := h' } := I1.kept (t' := s1.toks) hk
      refine ⟨s1.heap.objs.size + 4, [s1.heap.objs.size + 4, s1.heap.objs.size + 2, s1.heap.objs.size + 3, s1.heap.objs.size, s1.heap.objs.size + 1], _, _, H1, rfl, I2,
        turn_zipS _ _ _ _ _ _ _ (sep_of hlt hlt2) (src_ne hlt (Nat.le_refl _)) (src_ne hlt2 (Nat.le_succ _)), ⟨hz, hTI, ⟨_, _, hTO⟩, Src.obj_it ho1, Src.obj_it ho2⟩, fun b hb => ?_, q _ _⟩
      have hle : s1.heap.objs.size ≤ b := by
        have e' : b = s1.heap.objs.size + 4 ∨ b = s1.heap.objs.size + 2 ∨ b = s1.heap.objs.size + 3 ∨ b = s1.heap.objs.size ∨ b = s1.heap.objs.size + 1 := by simpa using hb
        rcases e' with z | z | z | z | z
        · rw [z]; exact Nat.le_add_right _ _
        · rw [z]; exact Nat.le_add_right _ _
        · rw [z]; exact Nat.le_add_right _ _
        · rw [z]; exact Nat.le_refl _
        · rw [z]; exact Nat.le_add_right _ _
      exact I1.fpOk hle (I1.hok.fresh hle)
end
end VM
/-! VM9: for and list comprehensions. -/
namespace VM
open PySem L2

/-- a walk over the data ds, while what stood in H1 (but the slots' own) stands -/
structure IW (K : PySem.W.Frag) (F O : Addr → Prop) (H1 : Hp) (ds : List D) (J : It) : Prop where
  go : ∀ i H', i < ds.length → Kp O H1 H' → J.go i H'
  stop : ∀ H', Kp O H1 H' → J.stop ds.length H'
  yld : ∀ i H' x H'', i < ds.length → Kp O H1 H' → J.yld i H' x H'' → Same H' H'' ∧ ∃ d, ds[i]? = some d ∧ ∀ F' : Addr → Prop, (∀ a, F' a → F a ∨ H1 a = none) → Rep K F' H'' d x
structure SI (X : Cx) (W : WX) (tg iter : Expr) (f : Rho → R (List D)) : Prop where
  ns : ∀ (env : PySem.Env) (x : Value), foldedSetIterable iter env x = pure x
  ex : ∃ wi, PI X tg iter wi ∧ ∀ S0 H0 ρ σ H (Rr : It → Hp → Prop), Rl X.K S0 H0 ρ σ H → Want X.K X.mg W σ H Rr (fun ds J H1 => IW X.K (Fb S0 ρ σ) (OwnA ρ σ) H1 ds J) (f ρ) → wi σ H Rr
theorem Stp.kp {K : PySem.W.Frag} {S0 : Addr → Prop} {H0 H H' : Hp} {ρ ρ' : Rho} {σ σ' : L2.St} (r : Rl K S0 H0 ρ σ H) (s : Stp ρ σ H ρ' σ' H') : Kp (OwnA ρ σ) H H' := fun a o e c => by
  by_cases h : OwnA ρ σ a
  · obtain ⟨i, d, e1, e2⟩ := id h
    obtain ⟨a', e3, _, t⟩ := r.own i d e1
    rw [e2] at e3; cases e3
    rcases c h with ⟨xs, z⟩ | ⟨ob, u, z⟩
    · subst z
      cases d with
      | lst ds => obtain ⟨vs, q, _⟩ := t; rw [e] at q; cases q
      | dic ks ds => obtain ⟨vs, q, _⟩ := t; rw [e] at q; cases q
      | dct ks ds => obtain ⟨vs, q, _⟩ := t; rw [e] at q; cases q
      | _ => exact (show False from t).elim
    · subst z
      cases d with
      | lst ds => obtain ⟨vs, q, _⟩ := t; rw [e] at q; cases q
      | dic ks ds => obtain ⟨vs, q, _⟩ := t; rw [e] at q; cases q
      | dct ks ds => obtain ⟨vs, q, _⟩ := t; rw [e] at q; cases q
      | _ => exact (show False from t).elim
  · exact s.keep a o e h
theorem Kp.less {F F' : Addr → Prop} {H H' : Hp} (h : ∀ a, F a → F' a) (k : Kp F H H') : Kp F' H H' := fun a o e c => k a o e fun z => c (h a z)

/-! ### lists, tuples, texts -/
def isSet : Expr → Bool | .Set .. => true | _ => false
theorem folded_pl {e : Expr} (h : isSet e = false) (env : PySem.Env) (x : Value) : foldedSetIterable e env x = pure x := by
  cases e <;> first | rfl | exact Bool.noConfusion (show true = false from h)
def itD : D → R (List D)
  | .lst xs => .ok xs
  | .tup xs => .ok xs
  | .ktup xs => .ok xs
  | .scr ns => .ok (ns.map D.int)
  | .str z => .ok (z.cps.toList.map fun c => D.str ⟨#[c]⟩)
  | _ => .bad
def iAny (K : PySem.W.Frag) (tl : TE) : TI := fun σ H R => tl σ H fun x H1 => ((∃ a, x = .ref a ∧ (∃ xs, SqL K H1 a xs) ∧ R (Itl K a) H1) ∨ ∃ a, x = .ref a ∧ (∃ xs, SqT K H1 a xs) ∧ R (Itt K a) H1) ∨ ∃ z, x = .str z ∧ R (Its z) H1
theorem pi_any {X : Cx} {tg l : Expr} {tl : TE} (hl : PE X l tl) : PI X tg l (iAny X.K tl) := by
  refine ⟨fun pins s σ H R I h => ?_⟩
  refine thn (hl.run pins s σ H _ I h) fun v s1 ⟨x, H1, I1, r1, q1⟩ => ?_
  rcases q1 with (⟨a, e, ⟨xs, hq⟩, q⟩ | ⟨a, e, ⟨xs, hq⟩, q⟩) | ⟨z, e, q⟩
  · subst e
    cases r1
    obtain ⟨its, rv, p, hz⟩ := I1.list hq
    refine wpAny_pyIter_list p.isList ?_
    refine ⟨s1.heap.objs.size, [s1.heap.objs.size], _, _, H1, rfl, I1.kept (t' := s1.toks) fun b o e => Heap.get?_push_of_some _ e, turn_list a _, ⟨_, Heap.get?_push_size _ rfl, rfl, rfl⟩, fun b hb => ?_, q⟩
    have e : b = s1.heap.objs.size := by simpa using hb
    subst e
    exact I1.fpOk (Nat.le_refl _) (I1.hok.fresh (Nat.le_refl _))
  · subst e
    cases r1
    obtain ⟨its, rv, p, hz⟩ := I1.tuple hq
    refine wpAny_pyIter_tuple (show s1.heap.IsTuple a its.toArray from p) ?_
    refine ⟨s1.heap.objs.size, [s1.heap.objs.size], _, _, H1, rfl, I1.kept (t' := s1.toks) fun b o e => Heap.get?_push_of_some _ e, turn_tuple a _, ⟨_, Heap.get?_push_size _ rfl, rfl, rfl⟩, fun b hb => ?_, q⟩
    have e : b = s1.heap.objs.size := by simpa using hb
    subst e
    exact I1.fpOk (Nat.le_refl _) (I1.hok.fresh (Nat.le_refl _))
  · subst e
    obtain ⟨t, rfl⟩ := r1
    cases ha : z.cps.all (· < 128)
    · exact wpAny_pyIter_wide ha (pi_one (tk := s1.toks) I1 _ (turn_str _ z t "str_iterator" (.inr rfl)) ⟨_, Heap.get?_push_size _ rfl, rfl, rfl⟩ q)
    · exact wpAny_pyIter_ascii ha (pi_one (tk := s1.toks) I1 _ (turn_str _ z t "str_ascii_iterator" (.inl rfl)) ⟨_, Heap.get?_push_size _ rfl, rfl, rfl⟩ q)
theorem sqL_kp {K : PySem.W.Frag} {H H' : Hp} {O : Addr → Prop} {a : Addr} {xs : List V} (k : Kp O H H') (n : ¬ O a) (h : SqL K H a xs) : SqL K H' a xs := by
  rcases h with (h | ⟨o, h⟩) | h
  · exact .inl (.inl (k a _ h fun z => (n z).elim))
  · exact .inl (.inr ⟨o, k a _ h fun _ => .inr ⟨_, _, rfl⟩⟩)
  · exact .inr h
section
variable {K : PySem.W.Frag} {F O : Addr → Prop} {H1 : Hp} {a : Addr} {ds : List D} {vs : List V}
theorem iw_list (hO : ∀ a, O a → F a) (q : H1 a = some (.lst vs)) (n : ¬ F a) (r : Reps K F H1 ds vs) : IW K F O H1 ds (Itl K a) where
  go := fun i H' hi k => by
    have e := r.length
    exact ⟨vs, vs[i]'(by omega), SqL.of (k a _ q fun z => (n (hO a z)).elim), by simp [e, hi]⟩
  stop := fun H' k => ⟨vs, SqL.of (k a _ q fun z => (n (hO a z)).elim), by rw [r.length]; exact Nat.le_refl _⟩
  yld := fun i H' x H'' hi k y => by
    obtain ⟨e, y⟩ := y
    subst e
    have hx := y vs (SqL.of (k a _ q fun z => (n (hO a z)).elim))
    obtain ⟨d, h1, h2⟩ := r.getV hx
    exact ⟨Same.refl _, d, h1, fun F' hF' => h2.mono (k.less hO) hF'⟩
theorem iw_tup (hO : ∀ a, O a → F a) (q : SqT K H1 a vs) (r : Reps K F H1 ds vs) : IW K F O H1 ds (Itt K a) where
  go := fun i H' hi k => by
    have e := r.length
    exact ⟨vs, vs[i]'(by omega), sqT_kp k q, by simp [e, hi]⟩
  stop := fun H' k => ⟨vs, sqT_kp k q, by rw [r.length]; exact Nat.le_refl _⟩
  yld := fun i H' x H'' hi k y => by
    obtain ⟨e, y⟩ := y
    subst e
    have hx := y vs (sqT_kp k q)
    obtain ⟨d, h1, h2⟩ := r.getV hx
    exact ⟨Same.refl _, d, h1, fun F' hF' => h2.mono (k.less hO) hF'⟩
theorem iw_scr {ns : List Int} (q : (∃ o, H1 a = some (.frz o (.lst (ns.map V.int)))) ∨ KL K a (ns.map V.int)) : IW K F O H1 (ns.map D.int) (Itl K a) := by
  have st : ∀ H', Kp O H1 H' → SqL K H' a (ns.map V.int) := fun H' k => by
    rcases q with ⟨o, q⟩ | q
    · exact .inl (.inr ⟨o, k a _ q fun _ => .inr ⟨_, _, rfl⟩⟩)
    · exact .inr q
  refine ⟨fun i H' hi k => ?_, fun H' k => ⟨_, st H' k, by simp⟩, fun i H' x H'' hi k y => ?_⟩
  · rw [List.length_map] at hi
    exact ⟨_, V.int ns[i], st H' k, by simp [hi]⟩
  · obtain ⟨e, y⟩ := y
    subst e
    have hx := y _ (st _ k)
    rw [List.getElem?_map] at hx ⊢
    cases h : ns[i]? with
    | none => rw [h] at hx; cases hx
    | some n =>
      rw [h] at hx
      cases hx
      exact ⟨Same.refl _, .int n, rfl, fun F' _ => rfl⟩
theorem iw_str {z : Str} : IW K F O H1 (z.cps.toList.map fun c => D.str ⟨#[c]⟩) (Its z) := by
  refine ⟨fun i H' hi k => ?_, fun H' k => ?_, fun i H' x H'' hi k y => ?_⟩
  · rw [List.length_map, Array.length_toList] at hi
    exact hi
  · show z.cps.size ≤ _
    rw [List.length_map, Array.length_toList]
    exact Nat.le_refl _
  · obtain ⟨e, c, hc, ex⟩ := y
    subst e
    refine ⟨Same.refl _, .str ⟨#[c]⟩, ?_, fun F' _ => ex⟩
    rw [List.getElem?_map, Array.getElem?_toList, hc]; rfl
theorem iw_range {lo : Int} {n : Nat} : IW K F O H1 ((List.range n).map fun i => D.int (lo + (i : Nat))) (Itr lo n) := by
  refine ⟨fun i H' hi k => ?_, fun H' k => ?_, fun i H' x H'' hi k y => ?_⟩
  · rw [List.length_map, List.length_range] at hi
    exact hi
  · show n ≤ _
    rw [List.length_map, List.length_range]
    exact Nat.le_refl _
  · rw [List.length_map, List.length_range] at hi
    obtain ⟨e, ex⟩ := y
    subst e
    refine ⟨Same.refl _, .int (lo + (i : Nat)), ?_, fun F' _ => ex⟩
    rw [List.getElem?_map, List.getElem?_range hi]; rfl
end
section
variable {X : Cx} {W : WX} {tg iter e e1 e2 elt : Expr} {fe fa fb : Rho → R (D × Bool)} {pos p tpos : Pos} {i : Nat} {x : Str}
def bIt (fe : Rho → R (D × Bool)) : Rho → R (List D) := fun ρ => do let p ← fe ρ; itD p.1
theorem si_any (he : SF X W e fe) (hs : isSet e = false) : SI X W tg e (bIt fe) := by
  obtain ⟨t, p, h⟩ := he.ex
  refine ⟨folded_pl hs, _, pi_any p, fun S0 H0 ρ σ H Rr r w => h S0 H0 ρ σ H _ r (Want.bind w fun q v H1 s pf w1 => ?_)⟩
  obtain ⟨d, b⟩ := q
  have hO : ∀ a, OwnA ρ σ a → Fb S0 ρ σ a := fun a z => .inr z
  have pf1 : Rep X.K (Fb S0 ρ σ) H1 d v := pf.1
  cases d with
  | lst ds =>
    obtain ⟨a, vs, e, q, n, rs⟩ := pf1
    exact .inl (.inl ⟨a, e, ⟨vs, SqL.of q⟩, w1 _ _ (Same.refl _) (iw_list hO q n rs)⟩)
  | tup ds =>
    obtain ⟨a, vs, e, q, rs⟩ := pf1
    exact .inl (.inr ⟨a, e, ⟨vs, SqT.of q⟩, w1 _ _ (Same.refl _) (iw_tup hO (SqT.of q) rs)⟩)
  | ktup ds =>
    obtain ⟨a, vs, e, q, rs⟩ := RepE.ktup (.inl pf1)
    exact .inl (.inr ⟨a, e, ⟨vs, q⟩, w1 _ _ (Same.refl _) (iw_tup hO q rs)⟩)
  | scr ns =>
    obtain ⟨a, e, q⟩ := pf1
    refine .inl (.inl ⟨a, e, ⟨ns.map V.int, ?_⟩, w1 _ _ (Same.refl _) (iw_scr q)⟩)
    rcases q with ⟨o, q⟩ | q
    · exact .inl (.inr ⟨o, q⟩)
    · exact .inr q
  | str z => exact .inr ⟨z, pf1, w1 _ _ (Same.refl _) iw_str⟩
  | _ => exact (show False from w1).elim
/-! ### range -/
def rngL (lo hi : Int) : List D := (List.range (hi - lo).toNat).map fun i => D.int (lo + (i : Nat))
/-- below 2 ^ 61 in size, told by the logarithm: the kernel never counts down from the bound -/
def smI (j : Int) : Bool := decide (j.natAbs.log2 < 61)
theorem smI_of {j : Int} (h : j.natAbs < 2 ^ 61) : smI j = true := by
  unfold smI
  rw [decide_eq_true_eq]
  by_cases h0 : j.natAbs = 0
  · rw [h0]; decide
  · exact (Nat.log2_lt h0).mpr h
theorem smI_ok {j : Int} (h : smI j = true) : -(2 ^ 62) ≤ j ∧ j < 2 ^ 62 := by
  unfold smI at h
  rw [decide_eq_true_eq] at h
  by_cases h0 : j.natAbs = 0
  · omega
  · have := (Nat.log2_lt h0).mp h
    omega
def rngD : List D → R (List D)
  | [.int j] => if smI j = true then .ok (rngL 0 j) else .bad
  | [.int i, .int j] => if smI i = true ∧ smI j = true then .ok (rngL i j) else .bad
  | _ => .bad
def bRng (f : Rho → R (List (D × Bool))) : Rho → R (List D) := fun ρ => do let ps ← f ρ; rngD (ps.map (·.1))
theorem si_range1 {f : Rho → R (List (D × Bool))} (hg : Gl X "range") (hm : X.mg "range" = none) (hf : SX X W [e] f) : SI X W tg (.Call (.Name "range" p) [e] [] pos) (bRng f) := by
  have ns : isStar e = false := by simpa using hf.ns
  have len := hf.len
  obtain ⟨t, pa, hf⟩ := hf.ex
  refine ⟨fun _ _ => rfl, _, pi_range1 hg hm pa (star_of ns _ _), fun S0 H0 ρ σ H Rr r w => ?_⟩
  unfold bRng at w
  cases hfr : f ρ with
  | bad => rw [hfr] at w; exact w.elim
  | exc c fs =>
    refine hf S0 H0 ρ σ H _ r ?_
    rw [hfr] at w ⊢
    exact w
  | ok ps =>
    refine hf S0 H0 ρ σ H _ r ?_
    rw [hfr] at w ⊢
    intro vs H1 s q
    have w1 : Want X.K X.mg W σ H1 Rr (fun ds J H1 => IW X.K (Fb S0 ρ σ) (OwnA ρ σ) H1 ds J) (rngD (ps.map (·.1))) := Want.later s w
    have hl := len ρ ps hfr
    cases ps with
    | nil => simp at hl
    | cons p1 ps =>
      cases ps with
      | cons p2 ps => simp at hl
      | nil =>
        obtain ⟨d, b⟩ := p1
        obtain ⟨v, e, h⟩ := REs.one q.res
        cases d with
        | int j =>
          have w2 : Want X.K X.mg W σ H1 Rr (fun ds J H1 => IW X.K (Fb S0 ρ σ) (OwnA ρ σ) H1 ds J) (if smI j = true then .ok (rngL 0 j) else .bad) := w1
          by_cases hj : smI j = true
          · rw [if_pos hj] at w2
            refine ⟨j, by rw [e, h.int], (smI_ok hj).1, (smI_ok hj).2, w2 _ _ (Same.refl _) ?_⟩
            have := iw_range (K := X.K) (F := Fb S0 ρ σ) (O := OwnA ρ σ) (H1 := H1) (lo := 0) (n := j.toNat)
            unfold rngL
            rw [Int.sub_zero]
            exact this
          · rw [if_neg hj] at w2; exact w2.elim
        | _ => exact (show False from w1).elim
theorem si_range2 {f : Rho → R (List (D × Bool))} (hg : Gl X "range") (hm : X.mg "range" = none) (hf : SX X W [e1, e2] f) : SI X W tg (.Call (.Name "range" p) [e1, e2] [] pos) (bRng f) := by
  have ns := hf.ns
  rw [List.all_cons, List.all_cons, Bool.and_eq_true, Bool.and_eq_true] at ns
  have n1 : isStar e1 = false := by simpa using ns.1
  have n2 : isStar e2 = false := by simpa using ns.2.1
  have len := hf.len
  obtain ⟨t, pa, hf⟩ := hf.ex
  refine ⟨fun _ _ => rfl, _, pi_range2 hg hm pa (by rw [star_of n1, star_of n2]; rfl) (by rw [star_of n2]; rfl), fun S0 H0 ρ σ H Rr r w => ?_⟩
  unfold bRng at w
  cases hfr : f ρ with
  | bad => rw [hfr] at w; exact w.elim
  | exc c fs =>
    refine hf S0 H0 ρ σ H _ r ?_
    rw [hfr] at w ⊢
    exact w
  | ok ps =>
    refine hf S0 H0 ρ σ H _ r ?_
    rw [hfr] at w ⊢
    intro vs H1 s q
    have w1 : Want X.K X.mg W σ H1 Rr (fun ds J H1 => IW X.K (Fb S0 ρ σ) (OwnA ρ σ) H1 ds J) (rngD (ps.map (·.1))) := Want.later s w
    have hl := len ρ ps hfr
    match ps, hl, q, w1 with
    | [(d1, b1), (d2, b2)], _, q, w1 =>
      have q' : REs X.K (Fb S0 ρ σ) H1 [d1, d2] vs := q.res
      obtain ⟨v, u, e, h, h'⟩ := REs.two q'
      cases d1 with
      | int i =>
        cases d2 with
        | int j =>
          have w2 : Want X.K X.mg W σ H1 Rr (fun ds J H1 => IW X.K (Fb S0 ρ σ) (OwnA ρ σ) H1 ds J) (if smI i = true ∧ smI j = true then .ok (rngL i j) else .bad) := w1
          by_cases hj : smI i = true ∧ smI j = true
          · rw [if_pos hj] at w2
            exact ⟨i, j, by rw [e, h.int, h'.int], ⟨(smI_ok hj.1).1, (smI_ok hj.1).2, (smI_ok hj.2).1, (smI_ok hj.2).2⟩, w2 _ _ (Same.refl _) iw_range⟩
          · rw [if_neg hj] at w2; exact w2.elim
        | _ => exact (show False from w1).elim
      | _ => exact (show False from w1).elim
/-! ### enumerate, zip -/
def enumL : Nat → List D → List D
  | _, [] => []
  | k, d :: ds => .tup [.int (k : Nat), d] :: enumL (k + 1) ds
theorem enumL_length : ∀ (k : Nat) (ds : List D), (enumL k ds).length = ds.length
  | _, [] => rfl
  | k, d :: ds => by show (enumL (k + 1) ds).length + 1 = _; rw [enumL_length]; rfl
theorem enumL_get : ∀ (k : Nat) (ds : List D) (i : Nat), (enumL k ds)[i]? = ds[i]?.map fun d => .tup [.int ((k + i : Nat) : Int), d]
  | _, [], i => by simp [enumL]
  | k, d :: ds, 0 => by simp [enumL]
  | k, d :: ds, i + 1 => by
    have h := enumL_get (k + 1) ds i
    show (enumL (k + 1) ds)[i]? = _
    rw [h, show k + 1 + i = k + (i + 1) by omega]
    simp
def zipL (xs ys : List D) : List D := List.zipWith (fun a b => .tup [a, b]) xs ys
/-- how data is a source of a walk -/
theorem srcOf_rep {K : PySem.W.Frag} {F O : Addr → Prop} {H : Hp} {d : D} {v : V} {ds : List D} {k : (Value → Src) → Prop} (hO : ∀ a, O a → F a) (h : Rep K F H d v) (e : itD d = .ok ds)
    (q : ∀ f xs, (∀ u H', Kp O H H' → SrcOk K H' (f u) xs) → Reps K F H ds xs → k f) : ∃ xs, srcOf K H v xs k ∧ xs.length = ds.length := by
  cases d with
  | lst xs =>
    cases e
    obtain ⟨a, vs, ev, q1, n, rs⟩ := h
    exact ⟨vs, .inl ⟨a, ev, SqL.of q1, q _ vs (fun u H' kp => SqL.of (kp a _ q1 fun z => (n (hO a z)).elim)) rs⟩, rs.length⟩
  | tup xs =>
    cases e
    obtain ⟨a, vs, ev, q1, rs⟩ := h
    exact ⟨vs, .inr (.inl ⟨a, ev, SqT.of q1, q _ vs (fun u H' kp => sqT_kp kp (SqT.of q1)) rs⟩), rs.length⟩
  | ktup xs =>
    cases e
    obtain ⟨a, vs, ev, q1, rs⟩ := RepE.ktup (.inl h)
    exact ⟨vs, .inr (.inl ⟨a, ev, q1, q _ vs (fun u H' kp => sqT_kp kp q1) rs⟩), rs.length⟩
  | scr ns =>
    cases e
    obtain ⟨a, ev, q1⟩ := h
    have st : ∀ H', Kp O H H' → SqL K H' a (ns.map V.int) := fun H' kp => by
      rcases q1 with ⟨o, q1⟩ | q1
      · exact .inl (.inr ⟨o, kp a _ q1 fun _ => .inr ⟨_, _, rfl⟩⟩)
      · exact .inr q1
    exact ⟨ns.map V.int, .inl ⟨a, ev, st H (Kp.of_same (Same.refl _)), q _ _ (fun u H' kp => st H' kp) (reps_ints ns)⟩, by simp⟩
  | str z =>
    cases e
    have rs : Reps K F H (z.cps.toList.map fun c => D.str ⟨#[c]⟩) (signs z) := by
      unfold signs
      generalize z.cps.toList = l
      induction l with
      | nil => exact rfl
      | cons c l ih => exact ⟨_, _, rfl, rfl, ih⟩
    exact ⟨signs z, .inr (.inr ⟨z, h, rfl, q _ _ (fun u H' kp => by
      show SrcOk K H' (match u with | .str _ t => .S z t | _ => .S z 0) (signs z)
      split <;> exact rfl) rs⟩), rs.length⟩
  | _ => cases e
def bEnum (fe : Rho → R (D × Bool)) : Rho → R (List D) := fun ρ => do let p ← fe ρ; let ds ← itD p.1; pure (enumL 0 ds)
theorem iw_enum {K : PySem.W.Frag} {F O : Addr → Prop} {H1 : Hp} {S : Src} {xs : List V} {ds : List D} (hO : ∀ a, O a → F a) (ok : ∀ H', Kp O H1 H' → SrcOk K H' S xs) (r : Reps K F H1 ds xs) : IW K F O H1 (enumL 0 ds) (JEnum K S) := by
  have hl := r.length
  refine ⟨fun i H' hi k => ⟨xs, ok H' k, ?_⟩, fun H' k => ⟨xs, ok H' k, by rw [enumL_length, hl]⟩, fun i H' x H'' hi k y => ?_⟩
  · rw [enumL_length] at hi; omega
  · obtain ⟨T, z, ev, n, eh, hz⟩ := y
    subst ev; subst eh
    obtain ⟨d, h1, h2⟩ := r.getV (hz xs (ok H' k))
    refine ⟨same_upd n, .tup [.int (i : Nat), d], ?_, fun F' hF' => ⟨T, _, rfl, upd_same, ?_⟩⟩
    · rw [enumL_get, h1, Nat.zero_add]; rfl
    · exact ⟨_, _, rfl, rfl, _, _, rfl, (h2.mono (k.less hO) hF').same (same_upd n), rfl⟩
theorem si_enum {elts : List Expr} {kk : Nat} (hg : Gl X "enumerate") (hm : X.mg "enumerate" = none) (he : SF X W e fe) : SI X W (.Tuple elts kk tpos) (.Call (.Name "enumerate" p) [e] [] pos) (bEnum fe) := by
  have ns := he.ns
  obtain ⟨t, pe, h⟩ := he.ex
  refine ⟨fun _ _ => rfl, _, pi_enumS hg hm (pa_cons pe pa_nil (star_of ns _ _)) ns, fun S0 H0 ρ σ H Rr r w => h S0 H0 ρ σ H _ r (Want.bind w fun q v H1 s pf w1 => ?_)⟩
  cases hd : itD q.1 with
  | bad => rw [hd] at w1; exact w1.elim
  | exc c fs => have := hd; unfold itD at this; split at this <;> cases this
  | ok ds =>
    rw [hd] at w1
    have w2 : Want X.K X.mg W σ H1 Rr (fun ds J H1 => IW X.K (Fb S0 ρ σ) (OwnA ρ σ) H1 ds J) (.ok (enumL 0 ds)) := w1
    have hO : ∀ a, OwnA ρ σ a → Fb S0 ρ σ a := fun a z => .inr z
    obtain ⟨xs, hs, _⟩ := srcOf_rep (O := OwnA ρ σ) (k := fun f => ∀ u, Rr (JEnum X.K (f u)) H1) hO pf.1 hd fun f xs ok rs u => w2 _ _ (Same.refl _) (iw_enum hO (fun H' k => ok u H' k) rs)
    exact ⟨v, xs, rfl, hs⟩
def bZip (fa fb : Rho → R (D × Bool)) : Rho → R (List D) := fun ρ => do let p ← fa ρ; let q ← fb ρ; let xs ← itD p.1; let ys ← itD q.1; pure (zipL xs ys)
theorem iw_zip {K : PySem.W.Frag} {F O : Addr → Prop} {H1 : Hp} {S S2 : Src} {xs ys : List V} {ds es : List D} (hO : ∀ a, O a → F a) (ok : ∀ H', Kp O H1 H' → SrcOk K H' S xs) (ok2 : ∀ H', Kp O H1 H' → SrcOk K H' S2 ys) (r : Reps K F H1 ds xs) (r2 : Reps K F H1 es ys) :
    IW K F O H1 (zipL ds es) (JZip K S S2) := by
  have hl := r.length
  have hl2 := r2.length
  have zl : (zipL ds es).length = min xs.length ys.length := by unfold zipL; rw [List.length_zipWith, hl, hl2]
  refine ⟨fun i H' hi k => ⟨xs, ys, ok H' k, ok2 H' k, by omega⟩, fun H' k => ⟨xs, ys, ok H' k, ok2 H' k, zl.symm⟩, fun i H' x H'' hi k y => ?_⟩
  obtain ⟨T, z, z2, ev, n, eh, hz, hz2⟩ := y
  subst ev; subst eh
  obtain ⟨d, h1, h2⟩ := r.getV (hz xs (ok H' k))
  obtain ⟨d2, g1, g2⟩ := r2.getV (hz2 ys (ok2 H' k))
  refine ⟨same_upd n, .tup [d, d2], ?_, fun F' hF' => ⟨T, _, rfl, upd_same, ?_⟩⟩
  · unfold zipL
    rw [List.getElem?_zipWith, h1, g1]
  · exact ⟨_, _, rfl, (h2.mono (k.less hO) hF').same (same_upd n), _, _, rfl, (g2.mono (k.less hO) hF').same (same_upd n), rfl⟩
theorem itD_pl (d : D) (c : Str) (fs : List (Str × D)) : itD d ≠ .exc c fs := by
  intro h
  unfold itD at h
  split at h <;> cases h
theorem si_zip {elts : List Expr} {kk : Nat} (hg : Gl X "zip") (hm : X.mg "zip" = none) (ha : SF X W e1 fa) (hb : SF X W e2 fb) : SI X W (.Tuple elts kk tpos) (.Call (.Name "zip" p) [e1, e2] [] pos) (bZip fa fb) := by
  have ns := ha.ns
  have ns2 := hb.ns
  obtain ⟨t, pe, h⟩ := ha.ex
  obtain ⟨u, pe2, h'⟩ := hb.ex
  refine ⟨fun _ _ => rfl, _, pi_zipS hg hm (pa_cons pe (pa_cons pe2 pa_nil (star_of ns2 _ _)) (star_of ns _ _)) ns ns2, fun S0 H0 ρ σ H Rr r w => h S0 H0 ρ σ H _ r (Want.bind w fun q v H1 s pf w1 => ?_)⟩
  refine h' S0 H0 ρ σ H1 _ (r.same s) (Want.bind w1 fun q2 v2 H2 s2 pf2 w2 => ?_)
  cases hd : itD q.1 with
  | bad => rw [hd] at w2; exact w2.elim
  | exc c fs => exact absurd hd (itD_pl _ _ _)
  | ok ds =>
    rw [hd] at w2
    have w3 : Want X.K X.mg W σ H2 Rr (fun ds J H1 => IW X.K (Fb S0 ρ σ) (OwnA ρ σ) H1 ds J) (do let ys ← itD q2.1; pure (zipL ds ys)) := w2
    cases hd2 : itD q2.1 with
    | bad => rw [hd2] at w3; exact w3.elim
    | exc c fs => exact absurd hd2 (itD_pl _ _ _)
    | ok es =>
      rw [hd2] at w3
      have w4 : Want X.K X.mg W σ H2 Rr (fun ds J H1 => IW X.K (Fb S0 ρ σ) (OwnA ρ σ) H1 ds J) (.ok (zipL ds es)) := w3
      have hO : ∀ a, OwnA ρ σ a → Fb S0 ρ σ a := fun a z => .inr z
      obtain ⟨xs, hs, _⟩ := srcOf_rep (O := OwnA ρ σ) (k := fun f => ∃ ys, srcOf X.K H2 v2 ys fun g => ∀ u u2, Rr (JZip X.K (f u) (g u2)) H2) hO (pf.1.same s2) hd fun f xs ok rs => by
          obtain ⟨ys', hs3, _⟩ := srcOf_rep (O := OwnA ρ σ) (k := fun g => ∀ u u2, Rr (JZip X.K (f u) (g u2)) H2) hO pf2.1 hd2 fun g ys ok2 rs2 u u2 => w4 _ _ (Same.refl _) (iw_zip hO (fun H' k => ok u H' k) (fun H' k => ok2 u2 H' k) rs rs2)
          exact ⟨ys', hs3⟩
      exact ⟨v, v2, xs, rfl, hs⟩
end
end VM
/-! VM10: for and list comprehensions. -/
namespace VM
open PySem L2

/-! ### for -/
def forL (g : D → Rho → R Rho) (f : Rho → Fl) : List D → Rho → Fl
  | [], ρ => .next ρ
  | d :: ds, ρ => (g d ρ).fl ρ fun ρ1 => match f ρ1 with
    | .next ρ2 => forL g f ds ρ2
    | .cont ρ2 => forL g f ds ρ2
    | .brk ρ2 => .next ρ2
    | r => r
def sFor (fi : Rho → R (List D)) (g : D → Rho → R Rho) (f : Rho → Fl) : Rho → Fl := fun ρ => (fi ρ).fl ρ fun ds => forL g f ds ρ
section
variable {X : Cx} {W : WX} {tg iter e elt : Expr} {body : List Stmt} {fi : Rho → R (List D)} {g : D → Rho → R Rho} {f : Rho → Fl} {fe : Rho → R (D × Bool)} {fc : Rho → R Bool} {pos p2 : Pos} {ix : List Nat} {x : Str} {i : Nat}
theorem for_at {wi : TI} {tg' : TG} {tb : TS} (gpl : ∀ d ρ c fs, g d ρ ≠ .exc c fs)
    (hg : ∀ S0 H0 ρ σ H v d (Q : L2.St → Hp → Prop), Rl X.K S0 H0 ρ σ H → Rep X.K (Fb S0 ρ σ) H d v → (∃ ρ', g d ρ = .ok ρ' ∧ ∀ σ', Rl X.K S0 H0 ρ' σ' H → Stp ρ σ H ρ' σ' H → (∀ vs, (∀ i ∈ ix, i ∈ vs) → wipe σ' vs = wipe σ vs) → Q σ' H) → tg' v σ H Q)
    (hb : SemS X W tb f) {S0 : Addr → Prop} {H0 : Hp} {ρ : Rho} {σ : L2.St} {H : Hp} {Dd : Ends} (r : Rl X.K S0 H0 ρ σ H)
    (hi : ∀ (Rr : It → Hp → Prop), Want X.K X.mg W σ H Rr (fun ds J H1 => IW X.K (Fb S0 ρ σ) (OwnA ρ σ) H1 ds J) (fi ρ) → wi σ H Rr) (w : WantS X.K X.mg W S0 H0 ρ σ H Dd (sFor fi g f ρ)) : tFor wi tg' tb Dd σ H := by
  refine hi _ (fl_want r w fun ds J H1 s iw w1 => ?_)
  have w2 := WantS.step (Stp.of_same s) w1
  have r1 := r.same s
  refine ⟨fun i m σ' H' => m + i = ds.length ∧ ∃ ρ', Rl X.K S0 H0 ρ' σ' H' ∧ Stp ρ σ H1 ρ' σ' H' ∧ WantS X.K X.mg W S0 H0 ρ' σ' H' Dd (forL g f (ds.drop i) ρ'), ⟨ds.length, by omega, ρ, r1, Stp.refl, by rw [List.drop_zero]; exact w2⟩, ?_⟩
  rintro i m σ' H' ⟨hm, ρ', rl, st, ww⟩
  have kp : Kp (OwnA ρ σ) H1 H' := st.kp r1
  by_cases hlt : i < ds.length
  · refine .inr ⟨iw.go i H' hlt kp, fun σ2 H2 => (m - 1) + (i + 1) = ds.length ∧ ∃ ρ2, Rl X.K S0 H0 ρ2 σ2 H2 ∧ Stp ρ σ H1 ρ2 σ2 H2 ∧ WantS X.K X.mg W S0 H0 ρ2 σ2 H2 Dd (forL g f (ds.drop (i + 1)) ρ2), fun σ2 H2 z => ⟨m - 1, by omega, z⟩, fun x H2 y => ?_⟩
    obtain ⟨s2, d, hd, hr⟩ := iw.yld i H' x H2 hlt kp y
    have hr2 := hr (Fb S0 ρ' σ') fun a z => z.elim (fun z => .inl (.inl z)) fun z => (st.own a z).elim (fun z => .inl (.inr z)) .inr
    have hdrop : ds.drop i = d :: ds.drop (i + 1) := by
      rw [List.drop_eq_getElem_cons hlt]
      rw [List.getElem?_eq_getElem hlt] at hd
      cases hd; rfl
    rw [hdrop] at ww
    have ww1 : WantS X.K X.mg W S0 H0 ρ' σ' H' Dd ((g d ρ').fl ρ' fun ρ1 => match f ρ1 with
      | .next ρ2 => forL g f (ds.drop (i + 1)) ρ2
      | .cont ρ2 => forL g f (ds.drop (i + 1)) ρ2
      | .brk ρ2 => .next ρ2
      | r => r) := ww
    cases eg : g d ρ' with
    | bad => rw [eg] at ww1; exact ww1.elim
    | exc c fs => exact absurd eg (gpl _ _ _ _)
    | ok ρ1 =>
      rw [eg] at ww1
      refine hg S0 H0 ρ' σ' H2 x d _ (rl.same s2) hr2 ⟨ρ1, eg, fun σ1 rl1 st1 _ => hb S0 H0 ρ1 σ1 H2 _ rl1 ?_⟩
      have stA : Stp ρ' σ' H' ρ1 σ1 H2 := (Stp.of_same s2).trans st1
      have stB : Stp ρ σ H1 ρ1 σ1 H2 := st.trans stA
      have ww2 := WantS.step stA ww1
      have ww3 : WantS X.K X.mg W S0 H0 ρ1 σ1 H2 Dd (match f ρ1 with
        | .next ρ2 => forL g f (ds.drop (i + 1)) ρ2
        | .cont ρ2 => forL g f (ds.drop (i + 1)) ρ2
        | .brk ρ2 => .next ρ2
        | r => r) := ww2
      cases ef : f ρ1 with
      | next ρ2 =>
        rw [ef] at ww3
        exact fun σ3 H3 rl3 st3 => ⟨by omega, ρ2, rl3, stB.trans st3, WantS.step st3 ww3⟩
      | cont ρ2 =>
        rw [ef] at ww3
        exact fun σ3 H3 rl3 st3 => ⟨by omega, ρ2, rl3, stB.trans st3, WantS.step st3 ww3⟩
      | brk ρ2 => rw [ef] at ww3; exact ww3
      | ret p => rw [ef] at ww3; exact ww3
      | exc ρ2 c fs => rw [ef] at ww3; exact ww3
      | bad => rw [ef] at ww3; exact ww3
  · have hi : i = ds.length := by omega
    subst hi
    refine .inl ⟨iw.stop H' kp, ?_⟩
    rw [List.drop_length] at ww
    exact ww σ' H' rl Stp.refl
theorem ss_for (hp : PassesOwn (model X.prog X.w) X.A X.env X.xe) (hc : X.calm = true) (hi : SI X W tg iter fi) (hg : SG X tg ix g) (hb : SSs X W body f) : SS X W (.For tg iter body [] pos) (sFor fi g f) := by
  have ns := hi.ns
  obtain ⟨wi, pi, hi⟩ := hi.ex
  have gpl := hg.pl
  obtain ⟨tg', pg, hg⟩ := hg.ex
  obtain ⟨tb, pb, hb⟩ := hb.ex
  exact ⟨_, ps_for hp hc pi pg pb (ns _), fun S0 H0 ρ σ H Dd r w => for_at gpl hg hb r (fun Rr => hi S0 H0 ρ σ H Rr r) w⟩
/-! ### one shape for all contexts -/
def tOf (K : PySem.W.Frag) (mg : Str → Option Value) (W : WX) (f : Rho → R (D × Bool)) : TE := fun σ H Q => ∃ S0 H0 ρ, Rl K S0 H0 ρ σ H ∧ Want K mg W σ H Q (PF K (Fb S0 ρ σ) H) (f ρ)
theorem SF.pe (h : SF X W e fe) : PE X e (tOf X.K X.mg W fe) := by
  obtain ⟨t, p, h⟩ := h.ex
  exact ⟨fun pins s σ H Q I ⟨S0, H0, ρ, r, w⟩ => p.run pins s σ H Q I (h S0 H0 ρ σ H Q r w)⟩
def ttOf (K : PySem.W.Frag) (mg : Str → Option Value) (W : WX) (f : Rho → R Bool) : TT := fun σ H Q => ∃ S0 H0 ρ, Rl K S0 H0 ρ σ H ∧ Want K mg W σ H Q PT' (f ρ)
theorem ST.pt (h : ST X W e fc) : PT X e (ttOf X.K X.mg W fc) := by
  obtain ⟨t, p, h⟩ := h.ex
  exact ⟨fun pins s σ H Q I ⟨S0, H0, ρ, r, w⟩ => p.run pins s σ H Q I (h S0 H0 ρ σ H Q r w)⟩
/-- a clause's tests -/
structure STs (X : Cx) (W : WX) (ifs : List Expr) (f : Rho → R Bool) : Prop where
  pts : PTs X ifs (ttOf X.K X.mg W f)
def cYes : Rho → R Bool := fun _ => .ok true
theorem sts_nil : STs X W [] cYes := ⟨⟨fun pins s σ H Q I ⟨S0, H0, ρ, r, w⟩ => pts_nil.run pins s σ H Q I (w true H (Same.refl _) rfl)⟩⟩
theorem sts_one (h : ST X W e fc) : STs X W [e] fc := ⟨pts_one h.pt⟩
def gOf (K : PySem.W.Frag) (ix : List Nat) (g : D → Rho → R Rho) : TG := fun v σ H Q => ∃ S0 H0 ρ d ρ', Rl K S0 H0 ρ σ H ∧ Rep K (Fb S0 ρ σ) H d v ∧ g d ρ = .ok ρ' ∧ ∀ σ', Rl K S0 H0 ρ' σ' H → Stp ρ σ H ρ' σ' H → (∀ vs, (∀ i ∈ ix, i ∈ vs) → wipe σ' vs = wipe σ vs) → Q σ' H
theorem SG.pg (h : SG X tg ix g) : PG X tg (gOf X.K ix g) := by
  obtain ⟨t, p, h⟩ := h.ex
  exact ⟨fun pins s σ H v u Q I rv ⟨S0, H0, ρ, d, ρ', r, hr, eg, k⟩ => p.run pins s σ H v u Q I rv (h S0 H0 ρ σ H v d Q r hr ⟨ρ', eg, k⟩)⟩
/-! ### the block's frame -/
def wipeR (ρ : Rho) : List Nat → Rho
  | [] => ρ
  | v :: vs => (wipeR ρ vs).set v none
theorem wipeR_length {ρ : Rho} : ∀ vs, (wipeR ρ vs).length = ρ.length
  | [] => rfl
  | v :: vs => by show ((wipeR ρ vs).set v none).length = _; rw [List.length_set, wipeR_length]
theorem wipeR_some {ρ : Rho} {i : Nat} {q : D × Bool} : ∀ {vs : List Nat}, (wipeR ρ vs)[i]? = some (some q) → ρ[i]? = some (some q) ∧ i ∉ vs
  | [], h => ⟨h, by simp⟩
  | v :: vs, h => by
    have h' : ((wipeR ρ vs).set v none)[i]? = some (some q) := h
    by_cases hi : v = i
    · subst hi
      by_cases hv : v < (wipeR ρ vs).length
      · rw [List.getElem?_set_self hv] at h'; cases h'
      · rw [List.getElem?_eq_none (by simpa using hv)] at h'; cases h'
    · rw [List.getElem?_set_ne hi] at h'
      obtain ⟨a, b⟩ := wipeR_some h'
      exact ⟨a, fun z => (List.mem_cons.mp z).elim (fun z => hi z.symm) b⟩
theorem wipe_wipe (σ : L2.St) (vs : List Nat) : wipe (wipe σ vs) vs = wipe σ vs := by
  have : ∀ ws : List Nat, (∀ i ∈ ws, i ∈ vs) → wipe (wipe σ ws) vs = wipe σ vs := by
    intro ws
    induction ws with
    | nil => intro _; rfl
    | cons w ws ih =>
      intro h
      show wipe ((wipe σ ws).set w none) vs = _
      rw [wipe_set_in (h w List.mem_cons_self)]
      exact ih fun i hi => h i (List.mem_cons_of_mem _ hi)
  exact this vs fun _ h => h
section
variable {K : PySem.W.Frag} {S0 : Addr → Prop} {H0 H H1 H' : Hp} {ρ : Rho} {σ : L2.St} {a Dn : Addr} {vs : List Nat}
theorem ownA_wipe (h : OwnA (wipeR ρ vs) (wipe σ vs) a) : OwnA ρ σ a ∧ ∃ (i : Nat) (d : D), i ∉ vs ∧ (wipeR ρ vs)[i]? = some (some (d, true)) ∧ σ[i]? = some (some (V.ref a)) := by
  obtain ⟨i, d, e1, e2⟩ := h
  obtain ⟨q1, q2⟩ := wipeR_some e1
  obtain ⟨q3, _⟩ := wipe_some e2
  exact ⟨⟨i, d, q1, q3⟩, i, d, q2, e1, q3⟩
/-- what the block may not touch: all that the frame may not, the frame's own, the new list -/
def SB (S0 : Addr → Prop) (ρ : Rho) (σ : L2.St) (vs : List Nat) (Dn : Addr) : Addr → Prop := fun a => (Fb S0 ρ σ a ∨ a = Dn) ∧ ¬ OwnA (wipeR ρ vs) (wipe σ vs) a
theorem fb_blk : Fb (SB S0 ρ σ vs Dn) (wipeR ρ vs) (wipe σ vs) a ↔ Fb S0 ρ σ a ∨ a = Dn := by
  constructor
  · intro h
    rcases h with h | h
    · exact h.1
    · exact .inl (.inr (ownA_wipe h).1)
  · intro h
    by_cases o : OwnA (wipeR ρ vs) (wipe σ vs) a
    · exact .inr o
    · exact .inl ⟨h, o⟩
theorem blk_rl {o : HO} (r : Rl K S0 H0 ρ σ H1) (n : H1 Dn = none) (s : Same H1 H) (hD : H Dn = some o) : Rl K (SB S0 ρ σ vs Dn) (fun _ => none) (wipeR ρ vs) (wipe σ vs) H where
  len := by rw [wipeR_length, wipe_length]; exact r.len
  s0 := fun a h => by
    rcases h.1 with h | h
    · obtain ⟨o, e⟩ := r.fbH h
      exact ⟨o, s a o e⟩
    · rw [h]; exact ⟨_, hD⟩
  keep := fun a o h => by cases h
  clean := fun i d e => by
    obtain ⟨e1, hi⟩ := wipeR_some e
    obtain ⟨v, h1, h2⟩ := r.clean i d e1
    refine ⟨v, by rw [wipe_out hi]; exact h1, h2.mono (Kp.of_same s) fun a z => ?_⟩
    rcases fb_blk.mp z with z | z
    · exact .inl z
    · rw [z]; exact .inr n
  own := fun i d e => by
    obtain ⟨e1, hi⟩ := wipeR_some e
    obtain ⟨a, h1, h2, h3⟩ := r.own i d e1
    have h1' : (wipe σ vs)[i]? = some (some (V.ref a)) := by rw [wipe_out hi]; exact h1
    refine ⟨a, h1', ⟨rfl, fun z => z.2 ⟨i, d, e, h1'⟩⟩, h3.mono (Kp.of_same s) (fun b z => ?_) (s a)⟩
    rcases fb_blk.mp z with z | z
    · exact .inl z
    · rw [z]; exact .inr n
  sep := fun i j d e a h1 h2 h3 h4 => by
    obtain ⟨q1, _⟩ := wipeR_some h1
    obtain ⟨q2, _⟩ := wipeR_some h2
    exact r.sep i j d e a q1 q2 (wipe_some h3).1 (wipe_some h4).1
end
/-! ### [elt for tg in iter if c] -/
def compL (g : D → Rho → R Rho) (c : Rho → R Bool) (fe : Rho → R (D × Bool)) : List D → Rho → R (List D)
  | [], _ => .ok []
  | d :: ds, ρ => do
    let ρ1 ← g d ρ
    let b ← c ρ1
    if b = true then (do let p ← fe ρ1; let r ← compL g c fe ds ρ; pure (p.1 :: r)) else compL g c fe ds ρ
def bComp (vs : List Nat) (fi : Rho → R (List D)) (g : D → Rho → R Rho) (c : Rho → R Bool) (fe : Rho → R (D × Bool)) : Rho → R (D × Bool) := fun ρ => do
  let ds ← fi ρ
  match compL g c fe ds (wipeR ρ vs) with
  | .ok out => if out.length ≤ sizeLine then .ok (.lst out, true) else .bad
  | _ => .bad
def W0 : WX := fun _ _ _ _ => False
theorem R.bind_eq_ok {α β : Type} {x : R α} {f : α → R β} {b : β} (h : (x >>= f) = R.ok b) : ∃ a, x = .ok a ∧ f a = .ok b := by
  cases x with
  | ok a => exact ⟨a, rfl, h⟩
  | exc c fs => cases h
  | bad => cases h
theorem lc_at {wi : TI} {vs : List Nat} (hiv : ∀ i ∈ ix, i ∈ vs) (gkp : ∀ d ρ ρ', g d ρ = .ok ρ' → ∀ i, i ∉ ix → ρ'[i]? = ρ[i]?) {S0 : Addr → Prop} {H0 : Hp} {ρ : Rho} {σ : L2.St} {H : Hp} {Q : VK} (r : Rl X.K S0 H0 ρ σ H)
    (hi : ∀ (Rr : It → Hp → Prop), Want X.K X.mg W σ H Rr (fun ds J H1 => IW X.K (Fb S0 ρ σ) (OwnA ρ σ) H1 ds J) (fi ρ) → wi σ H Rr) (w : Want X.K X.mg W σ H Q (PF X.K (Fb S0 ρ σ) H) (bComp vs fi g fc fe ρ)) :
    tLc wi (gOf X.K ix g) (ttOf X.K X.mg W0 fc) (tOf X.K X.mg W0 fe) vs σ H Q := by
  refine hi _ (Want.bind w fun ds J H1 s iw w1 => fun Dn n1 => ?_)
  have r1 := r.same s
  have n0 : H Dn = none := by
    cases e : H Dn with
    | none => rfl
    | some o => rw [s _ _ e] at n1; cases n1
  cases ec : compL g fc fe ds (wipeR ρ vs) with
  | bad =>
    have w2 : Want X.K X.mg W σ H1 Q (PF X.K (Fb S0 ρ σ) H) (match compL g fc fe ds (wipeR ρ vs) with
      | .ok out => if out.length ≤ sizeLine then .ok (.lst out, true) else .bad
      | _ => .bad) := w1
    rw [ec] at w2; exact w2.elim
  | exc c fs =>
    have w2 : Want X.K X.mg W σ H1 Q (PF X.K (Fb S0 ρ σ) H) (match compL g fc fe ds (wipeR ρ vs) with
      | .ok out => if out.length ≤ sizeLine then .ok (.lst out, true) else .bad
      | _ => .bad) := w1
    rw [ec] at w2; exact w2.elim
  | ok out =>
    have w2 : Want X.K X.mg W σ H1 Q (PF X.K (Fb S0 ρ σ) H) (match compL g fc fe ds (wipeR ρ vs) with
      | .ok out => if out.length ≤ sizeLine then .ok (.lst out, true) else .bad
      | _ => .bad) := w1
    rw [ec] at w2
    have w3 : Want X.K X.mg W σ H1 Q (PF X.K (Fb S0 ρ σ) H) (if out.length ≤ sizeLine then .ok (.lst out, true) else .bad) := w2
    by_cases hsz : out.length ≤ sizeLine
    · rw [if_pos hsz] at w3
      let FD : Addr → Prop := fun a => Fb S0 ρ σ a ∨ a = Dn
      refine ⟨fun i m H' => m + i = ds.length ∧ ∃ acc accD, H' Dn = some (.lst acc) ∧ Reps X.K FD H' accD acc ∧ Same H1 H' ∧ ∃ rest, compL g fc fe (ds.drop i) (wipeR ρ vs) = .ok rest ∧ accD ++ rest = out,
        ⟨ds.length, by omega, [], [], upd_same, rfl, same_upd n1, out, by rw [List.drop_zero]; exact ec, rfl⟩, ?_⟩
      rintro i m H' ⟨hm, acc, accD, hD, ra, s1, rest, erest, eout⟩
      have kp : Kp (OwnA ρ σ) H1 H' := Kp.of_same s1
      by_cases hlt : i < ds.length
      · refine .inr ⟨iw.go i H' hlt kp, fun H' => (m - 1) + (i + 1) = ds.length ∧ ∃ acc accD, H' Dn = some (.lst acc) ∧ Reps X.K FD H' accD acc ∧ Same H1 H' ∧ ∃ rest, compL g fc fe (ds.drop (i + 1)) (wipeR ρ vs) = .ok rest ∧ accD ++ rest = out, fun H2 z => ⟨m - 1, by omega, z⟩, fun x H2 y => ?_⟩
        obtain ⟨s2, d, hd, hr⟩ := iw.yld i H' x H2 hlt kp y
        have hdrop : ds.drop i = d :: ds.drop (i + 1) := by
          rw [List.drop_eq_getElem_cons hlt]
          rw [List.getElem?_eq_getElem hlt] at hd
          cases hd; rfl
        rw [hdrop] at erest
        have e0 : (g d (wipeR ρ vs) >>= fun ρ1 => fc ρ1 >>= fun b => if b = true then (fe ρ1 >>= fun p => compL g fc fe (ds.drop (i + 1)) (wipeR ρ vs) >>= fun r => pure (p.1 :: r)) else compL g fc fe (ds.drop (i + 1)) (wipeR ρ vs)) = R.ok rest := erest
        obtain ⟨ρ1, eg, e1⟩ := R.bind_eq_ok e0
        obtain ⟨b, eb, e2⟩ := R.bind_eq_ok e1
        have hD2 := s2 _ _ hD
        have s12 : Same H1 H2 := s1.trans s2
        have rb : Rl X.K (SB S0 ρ σ vs Dn) (fun _ => none) (wipeR ρ vs) (wipe σ vs) H2 := blk_rl r1 n1 s12 hD2
        have hr2 := hr (Fb (SB S0 ρ σ vs Dn) (wipeR ρ vs) (wipe σ vs)) fun a z => (fb_blk.mp z).elim .inl fun z => by rw [z]; exact .inr n1
        refine ⟨_, _, _, d, ρ1, rb, hr2, eg, fun σ2 rl2 st2 hw => ?_⟩
        have hw1 : wipe σ2 vs = wipe σ vs := (hw vs hiv).trans (wipe_wipe σ vs)
        -- what the frame owned, the block owns or may not touch
        have fbk : ∀ a, FD a → Fb (SB S0 ρ σ vs Dn) ρ1 σ2 a := fun a z => by
          rcases fb_blk.mpr z with z | z
          · exact .inl z
          · obtain ⟨_, j, d', hj, q1, q2⟩ := ownA_wipe z
            refine .inr ⟨j, d', ?_, ?_⟩
            · rw [gkp d _ _ eg j fun z => hj (hiv j z)]; exact q1
            · rw [← wipe_out (σ := σ2) hj, hw1, wipe_out hj]; exact q2
        refine ⟨hw1, _, _, ρ1, rl2, ?_⟩
        rw [eb]
        intro b' H3 s3 hb'
        have hb2 : b' = b := hb'
        subst hb2
        have hD3 := s3 _ _ hD2
        have s13 : Same H1 H3 := s12.trans s3
        cases b' with
        | false =>
          have e3 : compL g fc fe (ds.drop (i + 1)) (wipeR ρ vs) = .ok rest := e2
          exact ⟨by omega, acc, accD, hD3, (ra.same s2).same s3, s13, rest, e3, eout⟩
        | true =>
          have e3 : (fe ρ1 >>= fun p => compL g fc fe (ds.drop (i + 1)) (wipeR ρ vs) >>= fun r => pure (p.1 :: r)) = R.ok rest := e2
          obtain ⟨p, ep, e4⟩ := R.bind_eq_ok e3
          obtain ⟨rest', er, e5⟩ := R.bind_eq_ok e4
          have e6 : p.1 :: rest' = rest := by cases e5; rfl
          subst e6
          have hlen : acc.length + 1 + rest'.length = out.length := by
            rw [← eout, List.length_append, List.length_cons, ra.length]; omega
          show tOf X.K X.mg W0 fe σ2 H3 _
          refine ⟨_, _, ρ1, rl2.same s3, ?_⟩
          rw [ep]
          intro v H4 s4 pf
          have hD4 := s4 _ _ hD3
          refine ⟨acc, hD4, by omega, by omega, acc ++ [v], accD ++ [p.1], upd_same, ?_, fun a o e => ?_, rest', er, by rw [List.append_assoc]; exact eout⟩
          · have kD : Kp FD H4 (upd H4 Dn (.lst (acc ++ [v]))) := fun a o e c => by
              by_cases h : a = Dn
              · subst h
                rw [hD4] at e; cases e
                rcases c (.inr rfl) with ⟨xs, z⟩ | ⟨ob, u, z⟩ <;> cases z
              · rw [upd_ne h]; exact e
            refine Reps.app (Reps.mono kD (fun a z => .inl z) _ _ (((ra.same s2).same s3).same s4)) ⟨v, [], rfl, ?_, rfl⟩
            have q1 : Rep X.K FD H4 p.1 v := pf.1.less fbk
            exact q1.mono kD fun a z => .inl z
          · by_cases h : a = Dn
            · subst h; rw [n1] at e; cases e
            · rw [upd_ne h]; exact s4 _ _ (s13 _ _ e)
      · have hi : i = ds.length := by omega
        subst hi
        refine .inl ⟨iw.stop H' kp, ?_⟩
        rw [List.drop_length] at erest
        cases erest
        rw [List.append_nil] at eout
        subst eout
        have nF : ¬ Fb S0 ρ σ Dn := r1.fresh n1
        refine w3 _ H' s1 ⟨⟨Dn, acc, rfl, hD, nF, ra.less fun a z => .inl z⟩, fun _ => ⟨Dn, rfl, n0, acc, hD, ra⟩⟩
    · rw [if_neg hsz] at w3; exact w3.elim
theorem sem_lc {wi : TI} {vs : List Nat} (hiv : ∀ i ∈ ix, i ∈ vs) (gkp : ∀ d ρ ρ', g d ρ = .ok ρ' → ∀ i, i ∉ ix → ρ'[i]? = ρ[i]?)
    (hi : ∀ S0 H0 ρ σ H (Rr : It → Hp → Prop), Rl X.K S0 H0 ρ σ H → Want X.K X.mg W σ H Rr (fun ds J H1 => IW X.K (Fb S0 ρ σ) (OwnA ρ σ) H1 ds J) (fi ρ) → wi σ H Rr) :
    SemF X W (tLc wi (gOf X.K ix g) (ttOf X.K X.mg W0 fc) (tOf X.K X.mg W0 fe) vs) (bComp vs fi g fc fe) := fun S0 H0 ρ σ H Q r w => lc_at hiv gkp r (fun Rr => hi S0 H0 ρ σ H Rr r) w
section
variable {scope : Scope} {own : List (Str × Nat)} {spos : Pos} {y : Str}
theorem sf_lc {ifs : List Expr} (hc : X.calm = true) (hN : X.N.Nodup) (hi : SI X W tg iter fi) (ok : BlkOk X.N X.env.scope scope own) (hiv : ∀ i ∈ ix, i ∈ own.map (·.2))
    (hg : ∀ (s : Shared) (H : Hp) (C : Addr) (cl : List (Str × Addr)) (fp : List Addr), SG (X.blk s H scope (compEnvC scope cl C X.env) fp) tg ix g)
    (ht : ∀ (s : Shared) (H : Hp) (C : Addr) (cl : List (Str × Addr)) (fp : List Addr), STs (X.blk s H scope (compEnvC scope cl C X.env) fp) W0 ifs fc)
    (he : ∀ (s : Shared) (H : Hp) (C : Addr) (cl : List (Str × Addr)) (fp : List Addr), SF (X.blk s H scope (compEnvC scope cl C X.env) fp) W0 elt fe)
    (gkp : ∀ d ρ ρ', g d ρ = .ok ρ' → ∀ i, i ∉ ix → ρ'[i]? = ρ[i]?) : SF X W (.ListComp elt [⟨tg, iter, ifs, 0⟩] scope pos) (bComp (own.map (·.2)) fi g fc fe) := by
  have ns := hi.ns
  obtain ⟨wi, pi, hi⟩ := hi.ex
  exact ⟨rfl, _, pe_lc hc hN pi ok (fun s H C cl fp => (hg s H C cl fp).pg) (fun s H C cl fp => (ht s H C cl fp).pts) (fun s H C cl fp => (he s H C cl fp).pe) (ns _), sem_lc hiv gkp hi⟩
/-- x = [..], all on one line -/
theorem ss_setLc {ifs : List Expr} {m : Bool} (hc : X.calm = true) (hN : X.N.Nodup) (hy : X.N[i]? = some y) (hyl : X.env.scope.names.lookup y = some .local)
    (hsw : swapsWith (.ListComp elt [⟨tg, iter, ifs, 0⟩] scope pos) (some (.Name y p2)) spos.line X.env = pure true) (hi : SI X W tg iter fi) (ok : BlkOk X.N X.env.scope scope own) (hiv : ∀ i ∈ ix, i ∈ own.map (·.2))
    (hg : ∀ (s : Shared) (H : Hp) (C : Addr) (cl : List (Str × Addr)) (fp : List Addr), SG (X.blk s H scope (compEnvC scope cl C X.env) fp) tg ix g)
    (ht : ∀ (s : Shared) (H : Hp) (C : Addr) (cl : List (Str × Addr)) (fp : List Addr), STs (X.blk s H scope (compEnvC scope cl C X.env) fp) W0 ifs fc)
    (he : ∀ (s : Shared) (H : Hp) (C : Addr) (cl : List (Str × Addr)) (fp : List Addr), SF (X.blk s H scope (compEnvC scope cl C X.env) fp) W0 elt fe)
    (gkp : ∀ d ρ ρ', g d ρ = .ok ρ' → ∀ i, i ∉ ix → ρ'[i]? = ρ[i]?) : SS X W (.Assign [.Name y p2] (.ListComp elt [⟨tg, iter, ifs, 0⟩] scope pos) spos) (sSet i m (bComp (own.map (·.2)) fi g fc fe)) := by
  have ns := hi.ns
  obtain ⟨wi, pi, hi⟩ := hi.ex
  exact ⟨_, ps_setLc hc hN hy hyl hsw pi ok (fun s H C cl fp => (hg s H C cl fp).pg) (fun s H C cl fp => (ht s H C cl fp).pts) (fun s H C cl fp => (he s H C cl fp).pe) (ns _), set_sem (sem_lc hiv gkp hi)⟩
end
end
end VM
/-! VM11: a slot's own list or dict is changed in its place. -/
namespace VM
open PySem L2
section
variable {K : PySem.W.Frag} {S0 : Addr → Prop} {H0 H H1 : Hp} {ρ : Rho} {σ : L2.St} {i : Nat} {a : Addr}
theorem kp_own {o : HO} (h : Fb S0 ρ σ a) (nt : ∀ o, H a = some o → (∀ xs, o ≠ .tup xs) ∧ ∀ ob u, o ≠ .frz ob u) : Kp (Fb S0 ρ σ) H (upd H a o) := fun b o' e c => by
  by_cases hb : b = a
  · subst hb
    rcases c h with ⟨xs, z⟩ | ⟨ob, u, z⟩
    · exact absurd z ((nt _ e).1 xs)
    · exact absurd z ((nt _ e).2 ob u)
  · rw [upd_ne hb]; exact e
/-- slot i's own list, rewritten -/
theorem Rl.mutL {ds ds' : List D} {xs xs' : List V} (r : Rl K S0 H0 ρ σ H) (hi : ρ[i]? = some (some (.lst ds, true))) (ha : σ[i]? = some (some (V.ref a))) (hx : H a = some (.lst xs)) (q : Reps K (Fb S0 ρ σ) H ds' xs') :
    Rl K S0 H0 (ρ.set i (some (.lst ds', true))) σ (upd H a (.lst xs')) ∧ Stp ρ σ H (ρ.set i (some (.lst ds', true))) σ (upd H a (.lst xs')) := by
  have nt : ∀ o, H a = some o → (∀ xs, o ≠ .tup xs) ∧ ∀ ob u, o ≠ .frz ob u := fun o e => by
    rw [hx] at e; cases e
    exact ⟨fun _ z => (by cases z), fun _ _ z => (by cases z)⟩
  exact r.mut hi ha nt ⟨xs', upd_same, Reps.mono (kp_own (.inr ⟨i, _, hi, ha⟩) nt) (fun _ z => .inl z) _ _ q⟩
theorem Rl.mutK {ks ks' : List Key} {ds ds' : List D} {kvs kvs' : List (Key × V)} (r : Rl K S0 H0 ρ σ H) (hi : ρ[i]? = some (some (.dic ks ds, true))) (ha : σ[i]? = some (some (V.ref a))) (hx : H a = some (.dK kvs)) (ek : kvs'.map (·.1) = ks') (q : Reps K (Fb S0 ρ σ) H ds' (kvs'.map (·.2))) :
    Rl K S0 H0 (ρ.set i (some (.dic ks' ds', true))) σ (upd H a (.dK kvs')) ∧ Stp ρ σ H (ρ.set i (some (.dic ks' ds', true))) σ (upd H a (.dK kvs')) := by
  have nt : ∀ o, H a = some o → (∀ xs, o ≠ .tup xs) ∧ ∀ ob u, o ≠ .frz ob u := fun o e => by
    rw [hx] at e; cases e
    exact ⟨fun _ z => (by cases z), fun _ _ z => (by cases z)⟩
  exact r.mut hi ha nt ⟨kvs', upd_same, ek, Reps.mono (kp_own (.inr ⟨i, _, hi, ha⟩) nt) (fun _ z => .inl z) _ _ q⟩
theorem Rl.mutT {ks ks' : List (List Key)} {ds ds' : List D} {kvs kvs' : List (List Key × V)} (r : Rl K S0 H0 ρ σ H) (hi : ρ[i]? = some (some (.dct ks ds, true))) (ha : σ[i]? = some (some (V.ref a))) (hx : H a = some (.dT kvs)) (ek : kvs'.map (·.1) = ks') (q : Reps K (Fb S0 ρ σ) H ds' (kvs'.map (·.2))) :
    Rl K S0 H0 (ρ.set i (some (.dct ks' ds', true))) σ (upd H a (.dT kvs')) ∧ Stp ρ σ H (ρ.set i (some (.dct ks' ds', true))) σ (upd H a (.dT kvs')) := by
  have nt : ∀ o, H a = some o → (∀ xs, o ≠ .tup xs) ∧ ∀ ob u, o ≠ .frz ob u := fun o e => by
    rw [hx] at e; cases e
    exact ⟨fun _ z => (by cases z), fun _ _ z => (by cases z)⟩
  exact r.mut hi ha nt ⟨kvs', upd_same, ek, Reps.mono (kp_own (.inr ⟨i, _, hi, ha⟩) nt) (fun _ z => .inl z) _ _ q⟩
end
section
variable {X : Cx} {W : WX} {e e1 e2 : Expr} {es : List Expr} {f : Rho → R (List (D × Bool))} {fe fe1 fe2 : Rho → R (D × Bool)} {pos p p2 tpos apos cpos : Pos} {i : Nat} {x : Str}
theorem starEach_ns {es : List Expr} {env : PySem.Env} (h : es.all (fun e => !isStar e) = true) : ∀ z ∈ starEach es env, z.1 = false := by
  induction es with
  | nil => intro z hz; cases hz
  | cons e es ih =>
    rw [List.all_cons, Bool.and_eq_true] at h
    have h1 : isStar e = false := by simpa using h.1
    intro z hz
    rw [star_of h1] at hz
    rcases List.mem_cons.mp hz with rfl | hz
    · rfl
    · exact ih h.2 z hz
theorem few_of {es : List Expr} {env : PySem.Env} {cpos : Pos} (h : es.all (fun e => !isStar e) = true) (hl : es.length < 30) : ((backTo cpos (starEach es env)).all (fun x => !x.1) && (backToKw cpos (keywordEach [] env)).all (fun x => x.1.isSome)
      && decide (es.length + ([] : List Keyword).length + (if ([] : List Keyword).isEmpty then 0 else 1) < 30)) = true := by
  have e1 : (backTo cpos (starEach es env)).all (fun x => !x.1) = true := by
    rw [List.all_eq_true]
    intro z hz
    unfold backTo at hz
    obtain ⟨y, hy, rfl⟩ := List.mem_map.mp hz
    have := starEach_ns (env := env) h y hy
    simp [this]
  rw [e1]
  simp [keywordEach, backToKw, hl]
theorem base_of {x : Str} {p : Pos} {name : Str} {env : PySem.Env} : attributeBase (.Name x p) name env (eval (.Name x p) env) = eval (.Name x p) env := rfl
/-- x.append(e) -/
def sApp (i : Nat) (fe : Rho → R (D × Bool)) : Rho → Fl := fun ρ => match ρ[i]? with
  | some (some (.lst ds, true)) => (fe ρ).fl ρ fun q => if ds.length < sizeLine then .next (ρ.set i (some (.lst (ds ++ [q.1]), true))) else .bad
  | _ => .bad
theorem own_lst {K : PySem.W.Frag} {S0 : Addr → Prop} {H0 H H1 : Hp} {ρ : Rho} {σ : L2.St} {ds : List D} (r : Rl K S0 H0 ρ σ H) (s : Same H H1) (hi : ρ[i]? = some (some (.lst ds, true))) : ∃ a xs, σ[i]? = some (some (V.ref a)) ∧ H1 a = some (.lst xs) ∧ Reps K (Fb S0 ρ σ) H1 ds xs := by
  obtain ⟨a, h1, _, xs, h2, h3⟩ := r.own i _ hi
  exact ⟨a, xs, h1, s _ _ h2, h3.same s⟩
theorem ss_app (hN : X.N[i]? = some x) (hv : Vis X.env.scope x) (hd : (x == ("__debug__" : Str)) = false) (hcd : (x == ("__classdict__" : Str)) = false) (he : SF X W e fe) (hline : (apos.endLine == cpos.line) = true) :
    SS X W (.Expr (.Call (.Attribute (.Name x p) "append" apos) [e] [] cpos) pos) (sApp i fe) := by
  have ns := he.ns
  obtain ⟨t, q, h⟩ := he.ex
  have hse : ∀ env, starEach [e] env = (false, eval e env) :: starEach [] env := fun env => star_of ns _ _
  refine ⟨_, ps_expr (pe_bm PySem.F.plainAttrs_list PySem.F.slot_list_append PySem.F.type_list_append mt_append (pe_var hN hv hd hcd) (pa_cons q pa_nil (hse _)) rfl
    (few_of (by simp [ns]) (by simp)) hline (hse _) rfl) rfl, fun S0 H0 ρ σ H Dd r w => ?_⟩
  unfold sApp at w
  split at w
  · rename_i ds hi
    obtain ⟨a, xs, ha, hx, rs⟩ := own_lst r (Same.refl _) hi
    refine ⟨_, ha, .inl ⟨rfl, xs, SqL.of hx⟩, h S0 H0 ρ σ H _ r (fl_want r w fun q v H1 s pf w1 => ?_)⟩
    have w2 : WantS X.K X.mg W S0 H0 ρ σ H Dd (if ds.length < sizeLine then .next (ρ.set i (some (.lst (ds ++ [q.1]), true))) else .bad) := w1
    by_cases hl : ds.length < sizeLine
    · rw [if_pos hl] at w2
      have hx1 := s _ _ hx
      refine ⟨a, xs, v, rfl, rfl, hx1, by rw [rs.length]; exact hl, ?_⟩
      obtain ⟨r2, s2⟩ := (r.same s).mutL hi ha hx1 (Reps.app (es := [q.1]) (ws := [v]) (rs.same s) ⟨v, [], rfl, pf.1, rfl⟩)
      exact w2 σ _ r2 ((Stp.of_same s).trans s2)
    · rw [if_neg hl] at w2; exact w2.elim
  · exact w.elim
/-! ### x[e1] = e2 -/
def putM {κ : Type} [DecidableEq κ] (ks : List κ) (ds : List D) (x : κ) (y : D) : List κ × List D :=
  if (ks.any fun k => decide (k = x)) = true then (ks, List.zipWith (fun k d => if k = x then y else d) ks ds) else (ks ++ [x], ds ++ [y])
theorem putM_V {κ : Type} [DecidableEq κ] {K : PySem.W.Frag} {F : Addr → Prop} {H : Hp} {x : κ} {y : D} {v : V} {kvs : List (κ × V)} {ks : List κ} {ds : List D} (e : kvs.map (·.1) = ks) (r : Reps K F H ds (kvs.map (·.2))) (hy : Rep K F H y v) :
    (putK kvs x v).map (·.1) = (putM ks ds x y).1 ∧ Reps K F H (putM ks ds x y).2 ((putK kvs x v).map (·.2)) := by
  subst e
  have ea : ((kvs.map (·.1)).any fun k => decide (k = x)) = kvs.any fun kv => decide (kv.1 = x) := by rw [List.any_map]; rfl
  unfold putM putK
  rw [ea]
  by_cases h : (kvs.any fun kv => decide (kv.1 = x)) = true
  · rw [if_pos h, if_pos h]
    clear h ea
    induction kvs generalizing ds with
    | nil =>
      cases ds with
      | nil => exact ⟨rfl, rfl⟩
      | cons d ds => obtain ⟨_, _, e, _⟩ := r; cases e
    | cons p kvs ih =>
      cases ds with
      | nil => exact nomatch (show p.2 :: kvs.map (·.2) = [] from r)
      | cons d ds =>
        obtain ⟨u, us, eu, r1, rs⟩ := r
        have eu1 : p.2 = u := (List.cons.inj eu).1
        have eu2 : kvs.map (·.2) = us := (List.cons.inj eu).2
        subst eu1; subst eu2
        obtain ⟨i1, i2⟩ := ih rs
        by_cases hk : p.1 = x
        · refine ⟨?_, ?_⟩
          · show (if p.1 = x then (p.1, v) else p).1 :: _ = p.1 :: _
            rw [if_pos hk]
            exact congrArg (p.1 :: ·) i1
          · refine ⟨v, _, ?_, ?_, i2⟩
            · show (if p.1 = x then (p.1, v) else p).2 :: _ = _
              rw [if_pos hk]
            · show Rep K F H (if p.1 = x then y else d) v
              rw [if_pos hk]; exact hy
        · refine ⟨?_, ?_⟩
          · show (if p.1 = x then (p.1, v) else p).1 :: _ = p.1 :: _
            rw [if_neg hk]
            exact congrArg (p.1 :: ·) i1
          · refine ⟨p.2, _, ?_, ?_, i2⟩
            · show (if p.1 = x then (p.1, v) else p).2 :: _ = _
              rw [if_neg hk]
            · show Rep K F H (if p.1 = x then y else d) p.2
              rw [if_neg hk]; exact r1
  · rw [if_neg h, if_neg h]
    refine ⟨by rw [List.map_append]; rfl, ?_⟩
    rw [List.map_append]
    exact Reps.app r ⟨v, [], rfl, hy, rfl⟩
def rSetX : TSet := fun o i v H Q => rSetL o i v H Q ∨ rSetD o i v H Q
theorem set_any (hu : X.A.units + 1 < cLine) : PSet X rSetX := by
  intro pins s σ H o i v ov iv u Q I ro ri rv h
  rcases h with h | h
  · exact set_list pins s σ H o i v ov iv u Q I ro ri rv h
  · exact set_dict hu pins s σ H o i v ov iv u Q I ro ri rv h
def putD (d k v : D) : Option D := match d with
  | .lst ds => match k with
    | .int j => (ixN ds.length j).map fun n => .lst (ds.set n v)
    | _ => none
  | .dic ks ds => match keyD k with
    | some k => if ks.length < sizeLine then some (.dic (putM ks ds k v).1 (putM ks ds k v).2) else none
    | none => none
  | .dct ks ds => match k with
    | .tup xs => match keyDs xs with
      | some k => if ks.length < sizeLine then some (.dct (putM ks ds k v).1 (putM ks ds k v).2) else none
      | none => none
    | _ => none
  | _ => none
def sPut (i : Nat) (fk fe : Rho → R (D × Bool)) : Rho → Fl := fun ρ => (fe ρ).fl ρ fun q => match ρ[i]? with
  | some (some (d, true)) => (fk ρ).fl ρ fun k => match putD d k.1 q.1 with
    | some d' => .next (ρ.set i (some (d', true)))
    | none => .bad
  | _ => .bad
theorem ss_put (hu : X.A.units + 1 < cLine) (hN : X.N[i]? = some x) (hv : Vis X.env.scope x) (hd : (x == ("__debug__" : Str)) = false) (hcd : (x == ("__classdict__" : Str)) = false) (hk : SF X W e1 fe1) (he : SF X W e2 fe2) (hc : isComp e2 = false) (hsl : isSlice e1 = false)
    (ha : ∀ v, assign (.Subscript (.Name x p) e1 tpos) X.env v = (do
      let ov ← holding [v] (eval (.Name x p) X.env)
      let iv ← holding [v, ov] (eval e1 X.env)
      standAt tpos
      holding [v, ov, iv] (setItem ov iv v)
      release [v, ov, iv] [])) : SS X W (.Assign [.Subscript (.Name x p) e1 tpos] e2 pos) (sPut i fe1 fe2) := by
  have ns := he.ns
  obtain ⟨t, q, h⟩ := he.ex
  obtain ⟨u, q', h'⟩ := hk.ex
  refine ⟨_, ps_asg q (pg_sub (pe_var hN hv hd hcd) q' (set_any hu) ha) (swapsSole_pl hc _ _) ?_ rfl, fun S0 H0 ρ σ H Dd r w => h S0 H0 ρ σ H _ r (fl_want r w fun z v H1 s pf w1 => ?_)⟩
  · show swappedStores [Expr.Subscript _ _ _] e2 X.env = pure none
    unfold swappedStores
    rfl
  have w2 : WantS X.K X.mg W S0 H0 ρ σ H Dd (match ρ[i]? with
    | some (some (d, true)) => (fe1 ρ).fl ρ fun k => match putD d k.1 z.1 with
      | some d' => .next (ρ.set i (some (d', true)))
      | none => .bad
    | _ => .bad) := w1
  split at w2
  · rename_i d hi
    have r1 := r.same s
    obtain ⟨a, ha1, _, tp⟩ := r1.own i d hi
    refine ⟨_, ha1, h' S0 H0 ρ σ H1 _ r1 (fl_want r1 (WantS.step (Stp.of_same s) w2) fun k kv H2 s2 pf2 w3 => ?_)⟩
    have w4 : WantS X.K X.mg W S0 H0 ρ σ H1 Dd (match putD d k.1 z.1 with
      | some d' => .next (ρ.set i (some (d', true)))
      | none => .bad) := w3
    have r2 := r1.same s2
    have hz : Rep X.K (Fb S0 ρ σ) H2 z.1 v := pf.1.same s2
    have hkk : RepE X.K (Fb S0 ρ σ) H2 k.1 kv := .inl pf2.1
    cases ep : putD d k.1 z.1 with
    | none => rw [ep] at w4; exact w4.elim
    | some d' =>
      rw [ep] at w4
      have fin : ∀ {H3}, Rl X.K S0 H0 (ρ.set i (some (d', true))) σ H3 ∧ Stp ρ σ H2 (ρ.set i (some (d', true))) σ H3 → Dd.nx σ H3 := fun ⟨a, b⟩ => w4 _ _ a ((Stp.of_same s2).trans b)
      unfold putD at ep
      split at ep
      · rename_i ds
        split at ep
        · rename_i j ek
          rw [ek] at hkk
          obtain ⟨xs, hx, rs⟩ := tp
          have hx2 := s2 _ _ hx
          have rs2 := rs.same s2
          cases en : ixN ds.length j with
          | none => rw [en] at ep; cases ep
          | some n =>
            rw [en] at ep
            cases ep
            exact .inl ⟨a, xs, j, n, rfl, hkk.int, hx2, by rw [rs2.length]; exact en, fin (r2.mutL hi ha1 hx2 (rs2.set hz))⟩
        · cases ep
      · rename_i ks ds
        split at ep
        · rename_i key ek
          obtain ⟨kvs, hx, ekk, rs⟩ := tp
          have hx2 := s2 _ _ hx
          have rs2 := rs.same s2
          by_cases hl : ks.length < sizeLine
          · rw [if_pos hl] at ep
            cases ep
            obtain ⟨m1, m2⟩ := putM_V (x := key) ekk rs2 hz
            have hlk : kvs.length < sizeLine := by rw [← ekk, List.length_map] at hl; exact hl
            have hkv := keyD_V hkk ek
            exact .inr ⟨a, _, rfl, .inl ⟨kvs, key, hx2, hkv, hlk, rfl⟩, fin (r2.mutK hi ha1 hx2 m1 m2)⟩
          · rw [if_neg hl] at ep; cases ep
        · cases ep
      · rename_i ks ds
        split at ep
        · rename_i xs ek
          split at ep
          · rename_i key ekey
            obtain ⟨kvs, hx, ekk, rs⟩ := tp
            have hx2 := s2 _ _ hx
            have rs2 := rs.same s2
            by_cases hl : ks.length < sizeLine
            · rw [if_pos hl] at ep
              cases ep
              obtain ⟨m1, m2⟩ := putM_V (x := key) ekk rs2 hz
              have hlk : kvs.length < sizeLine := by rw [← ekk, List.length_map] at hl; exact hl
              rw [ek] at hkk
              obtain ⟨b, vs, eb, hb, rb⟩ := hkk.tup
              have ev := keyDs_V rb ekey
              subst ev
              exact .inr ⟨a, _, rfl, .inr ⟨kvs, key, b, hx2, eb, hb, hlk, rfl⟩, fin (r2.mutT hi ha1 hx2 m1 m2)⟩
            · rw [if_neg hl] at ep; cases ep
          · cases ep
        · cases ep
      · cases ep
  · exact w2.elim
end
end VM
/-! VM12: isinstance; exceptions of own classes: raise, try. -/
namespace VM
open PySem L2
/-! ### isinstance(x, T) -/
def tyD : D → String
  | .non => "NoneType" | .bl _ => "bool" | .int _ => "int" | .str _ => "str" | .tup _ => "tuple" | .ktup _ => "tuple" | .lst _ => "list" | .scr _ => "list" | .dic _ _ => "dict" | .dct _ _ => "dict" | .obj _ _ _ => "object"
def isO : D → Bool
  | .obj _ _ _ => true
  | .dic _ _ => true
  | .dct _ _ => true
  | _ => false
def isTy (a T : String) : Bool := a == T || (a == "bool" && T == "int")
theorem kitB_ok : (["NoneType", "bool", "int", "str", "tuple", "list", "dict"].all fun a => ["bool", "int", "str", "tuple", "list"].all fun T => kitB a T == some (isTy a T)) = true := by decide +kernel
theorem kitB_at {d : D} {T : String} (ho : isO d = false) (h : (["bool", "int", "str", "tuple", "list"].contains T) = true) : kitB (tyD d) T = some (isTy (tyD d) T) := by
  have hd : tyD d ∈ ["NoneType", "bool", "int", "str", "tuple", "list", "dict"] := by cases d <;> first | (simp [tyD]; done) | cases ho
  have h1 := List.all_eq_true.mp kitB_ok _ hd
  have h2 := List.all_eq_true.mp h1 T (by simpa using h)
  simpa using h2
theorem tyX_of {K : PySem.W.Frag} {F : Addr → Prop} {H : Hp} {d : D} {v : V} (ho : isO d = false) (h : RepE K F H d v) : TyX K H v (.type (tyD d)) := by
  cases d with
  | non => rw [h.non]; exact .base .non
  | bl b => rw [h.bl]; exact .base (.bl b)
  | int i => rw [h.int]; exact .base (.int i)
  | str s => rw [h.str]; exact .base (.str s)
  | tup ds => obtain ⟨a, vs, e, q, _⟩ := h.tup; rw [e]; exact .base (.tup q)
  | lst ds => obtain ⟨a, vs, e, q, _⟩ := h.lst; rw [e]; exact .base (.lst q)
  | dic ks ds => cases ho
  | dct ks ds => cases ho
  | obj C ns ds => cases ho
  | ktup ds =>
    rcases h with ⟨a, vs, e, ⟨o, its, n, k1, k2, _⟩, _⟩ | ⟨_, _, t⟩
    · rw [e]; exact .kTuple k1 k2
    · exact t.elim
  | scr ns =>
    rcases h with ⟨a, e, ⟨o, q⟩ | ⟨o, its, n, k1, k2, _⟩⟩ | ⟨_, _, t⟩
    · rw [e]; exact .base (.frz q)
    · rw [e]; exact .kList k1 k2
    · exact t.elim
def bIsi (T : String) (fa : Rho → R (D × Bool)) : Rho → R (D × Bool) := fun ρ => do let p ← fa ρ; if isO p.1 = true then .bad else pure (.bl (isTy (tyD p.1) T), false)
section
variable {X : Cx} {W : WX} {e e1 e2 : Expr} {es : List Expr} {f : Rho → R (List (D × Bool))} {fe fa fe1 fe2 : Rho → R (D × Bool)} {pos p p2 p3 tpos apos cpos : Pos} {i k : Nat} {x : Str}
theorem sf_isi {T : String} {y : Str} (hT : (["bool", "int", "str", "tuple", "list"].contains T) = true) (gl : Gl X "isinstance") (hm : X.mg "isinstance" = none) (gy : Gl X y) (hy : X.mg y = none) (hv : bootBuiltins y = some (.type T)) (hn : y ≠ "__name__") (hd : (y == ("__debug__" : Str)) = false)
    (he : SA X W e fe) : SF X W (.Call (.Name "isinstance" p) [e, .Name y p2] [] pos) (bIsi T fe) := by
  have ns := he.ns
  obtain ⟨t, q, h⟩ := he.ex
  have h2 : PE X (.Name y p2) (tC (.ty T)) := pe_bltn gy hy hv rfl hn hd
  refine ⟨rfl, _, pe_callB (id := "isinstance") call_isi gl hm (by first | rfl | decide +kernel) (pa_cons q (pa_cons h2 pa_nil rfl) (star_of ns _ _)) (by decide) (by decide) (star_of ns _ _) (by first | rfl | simp [starEach, backTo]), fun S0 H0 ρ σ H Q r w => ?_⟩
  refine h S0 H0 ρ σ H _ r (Want.bind w fun z v H1 s pa w1 => ?_)
  have w2 : Want X.K X.mg W σ H1 Q (PF X.K (Fb S0 ρ σ) H) (if isO z.1 = true then .bad else pure (.bl (isTy (tyD z.1) T), false)) := w1
  cases ho : isO z.1 with
  | true => rw [ho] at w2; exact w2.elim
  | false =>
    rw [ho] at w2
    exact ⟨v, _, _, _, isTy (tyD z.1) T, rfl, .ty T, tyX_of ho pa.e, kit_ty (kitB_at ho hT), w2 _ _ (Same.refl _) (PF.of rfl)⟩
/-! ### making and raising -/
/-- HouseError's __init__(self, why) -/
def spHE (K : PySem.W.Frag) (fld : Str) : Sp := fun vs H Q _ => ∃ (a C : Addr) (y : V), vs = [.ref a, y] ∧ OexC K C ∧ PySem.W.findIn K (.ref C) fld = some none ∧ H a = some (exo a C none) ∧
  ∀ dx, H dx = none → dx ≠ a → Q .non (upd (upd H dx (exd dx [(fld, y)])) a (exo a C (some dx)))
/-- the field that takes the argument; fields of written texts -/
abbrev XF := Str × List (Str × Str)
def XF.vs (x : XF) (y : V) : List (Str × V) := (x.1, y) :: x.2.map fun q => (q.1, V.str q.2)
def XF.ds (x : XF) (y : D) : List (Str × D) := (x.1, y) :: x.2.map fun q => (q.1, D.str q.2)
/-- an __init__(self, y) that lays these fields -/
def spEX (K : PySem.W.Frag) (x : XF) : Sp := fun vs H Q _ => ∃ (a C : Addr) (y : V), vs = [.ref a, y] ∧ OexC K C ∧ PySem.W.findIn K (.ref C) x.1 = some none ∧ (∀ q ∈ x.2, PySem.W.findIn K (.ref C) q.1 = some none) ∧ H a = some (exo a C none) ∧
  ∀ dx H', H dx = none → dx ≠ a → H' a = some (exo a C (some dx)) → H' dx = some (exd dx (x.vs y)) → (∀ b, b ≠ a → b ≠ dx → H' b = H b) → Q .non H'
/-- an own exception class that is made from one value -/
structure ExAt (P : Program) (w : World) (K : PySem.W.Frag) (mg : Str → Option Value) (base : Heap) (k : Nat) (x : Str) (fld : XF) : Prop where
  ex : ∃ C fI fd ps, mg x = some (.ref C) ∧ OexC K C ∧ PySem.W.findIn K (.ref C) "__init__" = some (some (.ref fI)) ∧ PySem.W.typeIn K (.ref fI) = some (.type "function") ∧ Binds K fd ps [] ∧ PySem.W.findIn K (.ref C) fld.1 = some none ∧ (∀ q ∈ fld.2, PySem.W.findIn K (.ref C) q.1 = some none) ∧
    FnOk P w K mg base (L2.CX P w) k fI fd ps (spEX K fld)
def sRaise (x : Str) (fld : XF) (fe : Rho → R (D × Bool)) : Rho → Fl := fun ρ => (fe ρ).fl ρ fun q => .exc ρ x (fld.ds q.1)
theorem Rep.none {K : PySem.W.Frag} {F : Addr → Prop} {H : Hp} {d : D} {v : V} (h : Rep K F H d v) : Rep K (fun _ => False) H d v := h.less fun _ z => z.elim
theorem XF.look {K : PySem.W.Frag} {H : Hp} {x : XF} {y : V} {d : D} (h : Rep K (fun _ => False) H d y) {n : Str} {z : D} (e : (x.ds d).lookup n = some z) : ∃ v, (x.vs y).lookup n = some v ∧ Rep K (fun _ => False) H z v := by
  unfold XF.ds at e
  unfold XF.vs
  rw [List.lookup_cons] at e ⊢
  cases hb : n == x.1 with
  | true =>
    rw [hb] at e
    cases e
    exact ⟨y, rfl, h⟩
  | false =>
    rw [hb] at e
    have go : ∀ l : List (Str × Str), (l.map fun q => (q.1, D.str q.2)).lookup n = some z → ∃ v, (l.map fun q => (q.1, V.str q.2)).lookup n = some v ∧ Rep K (fun _ => False) H z v := by
      intro l
      induction l with
      | nil => intro e; cases e
      | cons q l ih =>
        intro e
        rw [List.map_cons, List.lookup_cons] at e ⊢
        cases hq : n == q.1 with
        | true =>
          rw [hq] at e
          cases e
          exact ⟨_, rfl, rfl⟩
        | false => rw [hq] at e; exact ih e
    exact go _ e
theorem ss_raise {fld : XF} (hc : X.calm = true) (tk : Takes X W) (F : ExAt X.prog X.w X.K X.mg X.base k x fld) (hr : Room (k + 1) X.A) (hg : Gl X x) (hdb : (x == ("__debug__" : Str)) = false) (he : SF X W e fe) :
    SS X W (.Raise (some (.Call (.Name x p) [e] [] p2)) none pos) (sRaise x fld fe) := by
  have ns := he.ns
  obtain ⟨t, q, h⟩ := he.ex
  obtain ⟨C, fI, fd, ps, hm, T, iC, tI, hb, hfld, hfl2, F⟩ := F.ex
  refine ⟨_, ps_raise hc tk (pmk_oex T iC tI F hr hb .nil ?_ hg hm (pa_cons q pa_nil (star_of ns _ _)) hdb (star_of ns _ _) rfl), fun S0 H0 ρ σ H Dd r w => ?_⟩
  · rintro pins σ H s u s' I ⟨a, B, H', cls, d, _, _, _, _, _, _, _, z⟩
    exact z.elim
  refine h S0 H0 ρ σ H _ r (fl_want r w fun q v H1 s pf w1 => ?_)
  refine ⟨by simp, fun a na => ⟨a, C, v, rfl, T, hfld, hfl2, upd_same, fun dx H2 ndx hne e1 e2 e3 => ?_⟩⟩
  rw [upd_ne hne] at ndx
  refine ⟨rfl, dx, fld.vs v, e1, e2, ndx, ?_⟩
  have e4 : Same H1 (upd (del H2 a) dx (.xd (fld.vs v))) := fun b o hb => by
    have b1 : b ≠ dx := fun z => by rw [z, ndx] at hb; cases hb
    have b2 : b ≠ a := fun z => by rw [z, na] at hb; cases hb
    rw [upd_ne b1, del_ne b2, e3 b b2 b1, upd_ne b2]
    exact hb
  exact w1 _ _ _ _ (r.same (s.trans e4)) (Stp.of_same (s.trans e4)) ⟨C, hm, rfl, dx, _, rfl, upd_same, fun n z hz => XF.look ((Rep.none pf.1).same e4) hz⟩
/-! ### try: body, except C: suite -/
def tsOf (K : PySem.W.Frag) (mg : Str → Option Value) (W : WX) (f : Rho → Fl) : TS := fun Dd σ H => ∃ S0 H0 ρ, Rl K S0 H0 ρ σ H ∧ WantS K mg W S0 H0 ρ σ H Dd (f ρ)
theorem SSs.pss {st : List Stmt} {g : Rho → Fl} (h : SSs X W st g) : PSs X st (tsOf X.K X.mg W g) := by
  obtain ⟨t, p, h⟩ := h.ex
  exact ⟨fun pins s σ H Dd I ⟨S0, H0, ρ, r, w⟩ => p.run pins s σ H Dd I (h S0 H0 ρ σ H Dd r w)⟩
def Fl.calm : Fl → Fl
  | .exc _ _ _ => .bad
  | r => r
theorem WantS.calm {K : PySem.W.Frag} {mg : Str → Option Value} {W W' : WX} {S0 : Addr → Prop} {H0 H : Hp} {ρ : Rho} {σ : L2.St} {Dd : Ends} {r : Fl} (w : WantS K mg W S0 H0 ρ σ H Dd r.calm) : WantS K mg W' S0 H0 ρ σ H Dd r := by
  cases r <;> first | exact w | exact (show False from w).elim
/-- which classes a clause catches -/
def sTry (sub : Str → Option Bool) (f h : Rho → Fl) : Rho → Fl := fun ρ => match f ρ with
  | .exc ρ' c fs => match sub c with
    | some true => (h ρ').calm
    | some false => .exc ρ' c fs
    | none => .bad
  | r => r
/-- what the written part says of a clause's class -/
def Sub (K : PySem.W.Frag) (mg : Str → Option Value) (cv : Value) (sub : Str → Option Bool) : Prop := ∀ c C b, mg c = some (.ref C) → sub c = some b → PySem.W.exmOne K (.ref C) cv = some b
theorem ss_try {body suite : List Stmt} {b₀ : Stmt} {cv : Value} {sub : Str → Option Bool} {g h : Rho → Fl} (hs : X.stack = X.env :: X.outer) (hf : X.env.frame = some X.env.locals) (hc : Names X x cv) (tk : Takes X W) (hsub : Sub X.K X.mg cv sub)
    (hb : ∀ (W : WX) (pn : List (Addr × Obj)) (xe : Value → Shared → Prop), Takes (X.tr pn xe) W → PassesOwn (model X.prog X.w) X.A X.env xe → SSs (X.tr pn xe) W body g)
    (hsu : ∀ (a : Addr) (oe : Obj) (pn : List (Addr × Obj)), SSs (X.suite a ((a, oe) :: pn)) W0 (b₀ :: suite) h) : SS X W (.Try body [.ExceptHandler (some (.Name x p)) none (b₀ :: suite) p2] [] [] pos) (sTry sub g h) := by
  refine ⟨_, ps_try_only (tb := fun W => tsOf X.K X.mg W g) (ts := fun _ _ _ => tsOf X.K X.mg W0 h) hs hf hc tk (fun W pn xe t q => (hb W pn xe t q).pss) (fun a oe cls d pn _ _ => (hsu a oe pn).pss), fun S0 H0 ρ σ H Dd r w => ⟨S0, H0, ρ, r, ?_⟩⟩
  unfold sTry at w
  cases hg : g ρ with
  | next ρ' => rw [hg] at w; exact w
  | brk ρ' => rw [hg] at w; exact w
  | cont ρ' => rw [hg] at w; exact w
  | ret p => rw [hg] at w; exact w
  | bad => rw [hg] at w; exact w
  | exc ρ' c fs =>
    rw [hg] at w
    intro cls dd σ' H' rl st ex
    obtain ⟨C, hC, ecls, _⟩ := id ex
    have w1 : WantS X.K X.mg W S0 H0 ρ σ H Dd (match sub c with
      | some true => (h ρ').calm
      | some false => .exc ρ' c fs
      | none => .bad) := w
    cases hsb : sub c with
    | none => rw [hsb] at w1; exact w1.elim
    | some b =>
      rw [hsb] at w1
      refine ⟨b, by rw [ecls]; exact hsub c C b hC hsb, fun e a na => ?_, fun e => ?_⟩
      · subst e
        exact ⟨S0, H0, ρ', rl, (WantS.step st w1).calm⟩
      · subst e
        exact w1 cls dd σ' H' rl st ex
end
/-! ### except C as e -/
section
open PySem.W PySem.Calls PyProof.Rows
variable {prog : Program} {w : World} {A : Around} {E : Value → Shared → Prop} {s : Shared} {K : PySem.W.Frag} {x C : Addr} {ox : Obj} {od : Option Obj}
theorem found_cls (hc : (clsIn K C).isSome = true) (ha : findIn K (.ref C) "__class__" = some (some (.builtin "object.__class__"))) (hg : specialIn K (.builtin "object.__class__") "__get__" = some (some (.builtin "getset_descriptor.__get__"))) (ht : takesIn K (.builtin "object.__class__") = some true) :
    findObj K C od "__class__" = some (.bind (.builtin "getset_descriptor.__get__") (.builtin "object.__class__")) := by
  obtain ⟨cd, hc⟩ := Option.isSome_iff_exists.mp hc
  simp [findObj, hc, ha, hg, ht]
theorem cls_of_exc {Q : Option Value → Shared → Prop} (c : ExcC K C) (X : K.In s.heap) (I : InstAt s.heap x ox C od) (h : Q (some (.ref C)) { s with toks := s.toks + 1 }) : wpAny (model prog w) A (getAttr? (.ref x) "__class__") Q E s := by
  have hf : findObj K C od "__class__" = _ := found_cls (by obtain ⟨cd, hc, _⟩ := any_some c.hd; rw [hc]; rfl) c.ha c.hn c.ht
  obtain ⟨hp, g, d, t, os⟩ := s
  have L0 := I.type (M := model prog w)
  have L1 := looks_findIn (M := model prog w) X c.hg
  have L2 := looks_findIn (M := model prog w) X c.hk
  have L3 := looks_find (M := model prog w) X I hf
  have sub : Looks (model prog w) hp (isInstance (.ref x) (.type "BaseException")) true := L0.andThen (looks_subIn X c.hs)
  have n1 : (onTheHeap (Value.ref C) && Value.builtin "BaseException.__getattribute__" == Value.builtin "object.__getattribute__") = false := by
    rw [show (Value.builtin "BaseException.__getattribute__" == Value.builtin "object.__getattribute__") = false by decide +kernel]; rfl
  unfold getAttr? getAttrBy? getAttrBy
  refine wpAny_bind (wpAny_mkText (wpAny_bind (wpAny_attempt (wpAny_holding (wpAny_bind (L0.at (wpAny_bind (L1.at ?_))))))))
  show wpAny _ _ (if (onTheHeap (Value.ref C) && Value.builtin "BaseException.__getattribute__" == Value.builtin "object.__getattribute__") = true then _ else _) _ _ _
  rw [n1, if_neg Bool.false_ne_true]
  unfold getAttrByItsOwn hookBefore
  refine wpAny_bind ?_
  rw [if_pos (show onTheHeap (Value.ref C) = true from rfl)]
  refine L2.at (wpAny_bind (wpAny_attempt (wpAny_holding ?_)))
  unfold callGetattribute
  rw [show (false && onTheHeap (Value.builtin "BaseException.__getattribute__")) = false from rfl, if_neg Bool.false_ne_true]
  unfold boundAndCalled
  rw [PySem.F.excAttr_ValueError.ga.bind (.ref x)]
  refine wpAny_bind (wpAny_pure ?_)
  show wpAny _ _ (call (.builtin "BaseException.__getattribute__") [.ref x, .str "__class__" t]) _ _ _
  refine wpAny_call (codeAny_call_builtin PySem.F.excAttr_ValueError.ga.plain PySem.F.entry_bexc_ga ?_)
  refine @check_slot (model prog w) _ _ ⟨hp, g, d, t + 1, os⟩ "BaseException.__getattribute__" "BaseException" "__getattribute__" (.ref x) [.str "__class__" t] [] _ (by decide +kernel) (by decide +kernel) sub (PySem.F.args_bexc_ga (.ref x) (.str "__class__" t)) ?_
  unfold Builtin.«object.__getattribute__»
  refine wpAny_bind (wpAny_of_eq (a := ((Value.ref x : Value), [Value.str "__class__" t])) (by first | rfl | (simp only [slotArgs]; rfl)) ?_)
  refine wpAny_bind (wpAny_pure (wpAny_bind (L0.at (wpAny_bind (L3.at ?_)))))
  show wpAny _ _ (holding [Value.builtin "object.__class__"] (call (.builtin "getset_descriptor.__get__") [.builtin "object.__class__", .ref x, .ref C]) >>= ret) _ _ _
  refine wpAny_bind (wpAny_holding (wpAny_call (class_get (s := ⟨hp, g, d, t + 1, os⟩) (ox := ox) (od := od) X I c.hm ?_)))
  refine wpAny_pure ?_
  show wpAny _ _ (handedOut (.ref C)) _ _ _
  rw [handedOut_of (v := .ref C) rfl]
  first
    | exact wpAny_pure (wpAny_pure h)
    | exact wpAny_pure h
    | exact wpAny_pure (wpAny_bind (wpAny_pure (wpAny_pure h)))
theorem kit_exc (c : ExcC K C) : KitX K (.ref x) (.ref C) (fun h => InstAt h x ox C od) := by
  obtain ⟨cd, hc, _⟩ := any_some c.hd
  unfold clsIn at hc
  split at hc
  · rename_i c' d' cd' sl' ho
    refine ⟨fun _ _ _ I => I.type, fun _ _ X _ A' Q' E' s' k q => ?_, fun h tp dd its n sl X htp => ?_, fun X I k => cls_of_exc c X I k⟩
    · unfold isType loadHead
      exact wpAny_bind (wpAny_loadPart (k _ _ (X _ _ ho)) (wpAny_pure q))
    · refine Bool.eq_false_iff.mpr fun q => ?_
      have e : C = tp := Value.ref.inj (beq_iff_eq.mp q)
      subst e
      cases (X _ _ ho).symm.trans htp
  · cases hc
end
/-- isinstance(e, c), e the exception that the suite holds, its dict at d -/
def rIsD (K : PySem.W.Frag) (C d a : Addr) : List V → Hp → VK → Prop := fun xs H Q => ∃ (c : V) (cv : Value) (b : Bool) (fs : List (Str × V)), xs = [.ref a, c] ∧ ClsV c cv ∧ H d = some (.xd fs) ∧ PySem.W.kitOne K (.ref C) cv = some b ∧ Q (.bl b) H
theorem call_isD {X : Cx} {a C d : Addr} {oe : Obj} {pn : List (Addr × Obj)} (c : ExcC X.K C) (hz : Zc (.ref C) (some d) oe) (hf : ∃ vs, oe.data = .fields vs) : CallR (X.suite a ((a, oe) :: pn)) (.builtin "isinstance") (rIsD X.K C d a) := by
  intro pins s σ H xs us Q I r h
  obtain ⟨cl, cv, b, fs, rfl, hcv, hx, e, q⟩ := h
  obtain ⟨u1, u2, rfl, r1, r2⟩ := Vals.two r
  have ec := hcv.eq r2
  subst ec
  cases r1
  obtain ⟨hget, _⟩ := I.pin (a, oe) (List.mem_append.mpr (.inl List.mem_cons_self))
  obtain ⟨vs, hv⟩ := hf
  have ho : ObjOk X.prog X.w H s.heap d (.xd fs) := I.hok d _ hx
  obtain ⟨mA, hns, _⟩ := ho
  obtain ⟨od, hod, _⟩ := lookIn_ns hns
  have J : PySem.W.InstAt s.heap a oe C (some od) := ⟨hget, hz.1, by unfold PySem.W.notCls; rw [hv] <;> rfl, by rw [hz.2]; exact hod⟩
  exact PySem.W.kia_one (kit_exc c) I.kIn J e (fun z => nomatch z) fun tk => ⟨.bl b, H, I.kept (t' := tk) fun _ _ z => z, rfl, q⟩
end VM
/-! VM13: except C as e. -/
namespace VM
open PySem L2
/-- in a suite: slot i is the exception at a, of the class cls, its dict at d -/
structure SE (X : Cx) (i : Nat) (a : Addr) (cls : Value) (d : Option Addr) (e : Expr) (g : Str → List (Str × D) → Rho → R (D × Bool)) : Prop where
  ns : isStar e = false
  ex : ∃ t, PE X e t ∧ ∀ S0 H0 ρ σ H Q c fs, Rl X.K S0 H0 ρ σ H → σ[i]? = some (some (.ref a)) → ExIs X.K X.mg c fs cls d H → Want X.K X.mg W0 σ H Q (PF X.K (Fb S0 ρ σ) H) (g c fs ρ) → t σ H Q
structure SLE (X : Cx) (i : Nat) (a : Addr) (cls : Value) (d : Option Addr) (es : List Expr) (g : Str → List (Str × D) → Rho → R (List D)) : Prop where
  ex : ∃ t, PA X es t ∧ ∀ S0 H0 ρ σ H (Q : List V → Hp → Prop) c fs, Rl X.K S0 H0 ρ σ H → σ[i]? = some (some (.ref a)) → ExIs X.K X.mg c fs cls d H → Want X.K X.mg W0 σ H Q (fun ds vs H' => Reps X.K (Fb S0 ρ σ) H' ds vs) (g c fs ρ) → t σ H Q
theorem ExIs.same {K : PySem.W.Frag} {mg : Str → Option Value} {c : Str} {fs : List (Str × D)} {cls : Value} {dd : Option Addr} {H H' : Hp} (h : ExIs K mg c fs cls dd H) (s : Same H H') : ExIs K mg c fs cls dd H' := by
  obtain ⟨C, h1, h2, d, vs, h3, h4, h5⟩ := h
  refine ⟨C, h1, h2, d, vs, h3, s _ _ h4, fun n x hx => ?_⟩
  obtain ⟨v, l, r⟩ := h5 n x hx
  exact ⟨v, l, r.same s⟩
section
variable {X : Cx} {i j : Nat} {a : Addr} {cls : Value} {d : Option Addr} {e e1 e2 : Expr} {es : List Expr} {f : Rho → R (D × Bool)} {g g' : Str → List (Str × D) → Rho → R (D × Bool)} {gl : Str → List (Str × D) → Rho → R (List D)} {pos p p2 p3 tpos apos cpos : Pos} {x y : Str}
theorem SE.of (h : SF X W0 e f) : SE X i a cls d e (fun _ _ => f) := by
  obtain ⟨t, p, k⟩ := h.ex
  exact ⟨h.ns, t, p, fun S0 H0 ρ σ H Q c fs r _ _ w => k S0 H0 ρ σ H Q r w⟩
theorem sle_nil : SLE X i a cls d [] (fun _ _ _ => .ok []) := ⟨_, pa_nil, fun S0 H0 ρ σ H Q c fs r _ _ w => w [] H (Same.refl _) rfl⟩
def eCons (g : Str → List (Str × D) → Rho → R (D × Bool)) (gl : Str → List (Str × D) → Rho → R (List D)) : Str → List (Str × D) → Rho → R (List D) := fun c fs ρ => do let p ← g c fs ρ; let ps ← gl c fs ρ; pure (p.1 :: ps)
theorem sle_cons (ha : SE X i a cls d e g) (hr : SLE X i a cls d es gl) : SLE X i a cls d (e :: es) (eCons g gl) := by
  have ns := ha.ns
  obtain ⟨t, p, h⟩ := ha.ex
  obtain ⟨u, q, k⟩ := hr.ex
  refine ⟨_, pa_cons p q (star_of ns _ _), fun S0 H0 ρ σ H Q c fs r hi ex w => ?_⟩
  refine h S0 H0 ρ σ H _ c fs r hi ex (Want.bind w fun z v H1 s pf w1 => ?_)
  refine k S0 H0 ρ σ H1 _ c fs (r.same s) hi (ex.same s) (Want.bind w1 fun zs vs H2 s2 rs w2 => ?_)
  exact w2 _ _ (Same.refl _) ⟨v, vs, rfl, pf.1.same s2, rs⟩
def eTup (gl : Str → List (Str × D) → Rho → R (List D)) : Str → List (Str × D) → Rho → R (D × Bool) := fun c fs => bTup (gl c fs)
def eLst (gl : Str → List (Str × D) → Rho → R (List D)) : Str → List (Str × D) → Rho → R (D × Bool) := fun c fs => bLst (gl c fs)
theorem se_tup {k : Nat} (h : SLE X i a cls d es gl) : SE X i a cls d (.Tuple es k pos) (eTup gl) := by
  obtain ⟨t, p, h⟩ := h.ex
  refine ⟨rfl, _, pe_tup p, fun S0 H0 ρ σ H Q c fs r hi ex w => h S0 H0 ρ σ H _ c fs r hi ex (Want.bind w fun ds vs H1 s z w1 => ?_)⟩
  split at w1
  · rename_i hz
    exact ⟨by rw [z.length]; exact hz, fun p n => w1 _ _ (same_upd n) (PF.newT n z)⟩
  · exact w1.elim
theorem se_lst (h : SLE X i a cls d es gl) : SE X i a cls d (.List es pos) (eLst gl) := by
  obtain ⟨t, p, h⟩ := h.ex
  refine ⟨rfl, _, pe_lst p, fun S0 H0 ρ σ H Q c fs r hi ex w => h S0 H0 ρ σ H _ c fs r hi ex (Want.bind w fun ds vs H1 s z w1 => ?_)⟩
  split at w1
  · rename_i hz
    exact ⟨by rw [z.length]; exact hz, fun p n => w1 _ _ (same_upd n) (PF.newL (fun a y => r.fbH y) s n z)⟩
  · exact w1.elim
theorem se_one (op : BoolOp) (h : SE X i a cls d e g) : SE X i a cls d (.BoolOp op [e] pos) g := by
  obtain ⟨t, p, h⟩ := h.ex
  exact ⟨rfl, _, pe_one p, h⟩
theorem se_and {rest : List Expr} (h : SE X i a cls d e g) (k : SE X i a cls d (.BoolOp .And (e1 :: rest) pos) g') : SE X i a cls d (.BoolOp .And (e :: e1 :: rest) pos) (fun c fs => bAndV (g c fs) (g' c fs)) := by
  obtain ⟨t, p, h⟩ := h.ex
  obtain ⟨u, q, k⟩ := k.ex
  refine ⟨rfl, _, pe_and p q, fun S0 H0 ρ σ H Q c fs r hi ex w => h S0 H0 ρ σ H _ c fs r hi ex (Want.bind w fun b v H1 s z w1 => ?_)⟩
  obtain ⟨d', fl⟩ := b
  cases d' with
  | bl b =>
    refine ⟨b, RepE.bl (.inl z.1), ?_⟩
    cases b with
    | true => exact k S0 H0 ρ σ H1 Q c fs (r.same s) hi (ex.same s) (w1.pf s)
    | false => exact w1 _ H1 (Same.refl _) (PF.of rfl)
  | _ => exact (show False from w1).elim
theorem se_op {op : Operator} {r : R2} {q : D → D → R (D × Bool)} (ho : OpR X (binaryOp op) r) (hq : OpS X.K r q) (pl : Plain2 q) (h : SE X i a cls d e g) (k : SE X i a cls d e1 g') : SE X i a cls d (.BinOp e op e1 pos) (fun c fs => bOp q (g c fs) (g' c fs)) := by
  obtain ⟨t, p, h⟩ := h.ex
  obtain ⟨u, p', k⟩ := k.ex
  refine ⟨rfl, _, pe_op ho p p', fun S0 H0 ρ σ H Q c fs r hi ex w => h S0 H0 ρ σ H _ c fs r hi ex (Want.bind w fun x v H1 s pf w1 => ?_)⟩
  refine k S0 H0 ρ σ H1 _ c fs (r.same s) hi (ex.same s) (Want.bind w1 fun y u H2 s2 pf2 w2 => ?_)
  exact hq (Fb S0 ρ σ) H2 v u x.1 y.1 Q (fun a z => (r.same (s.trans s2)).fbH z) (.inl (pf.1.same s2)) (.inl pf2.1) (WV.of_want (pl x.1 y.1) (w2.pf (s.trans s2)))
/-- the classes that an isinstance of the caught exception tells apart -/
def Kit (K : PySem.W.Frag) (mg : Str → Option Value) (cv : Value) (kt : Str → Option Bool) : Prop := ∀ c C b, mg c = some (.ref C) → kt c = some b → PySem.W.kitOne K (.ref C) cv = some b
def eIs (kt : Str → Option Bool) : Str → List (Str × D) → Rho → R (D × Bool) := fun c _ _ => match kt c with
  | some b => .ok (.bl b, false)
  | none => .bad
theorem se_is {X0 : Cx} {oe : Obj} {pn : List (Addr × Obj)} {n : Str} {kt : Str → Option Bool} {cv : Value} {vc : V} (hX : X = X0.suite a ((a, oe) :: pn)) (ok : ∀ c C, X.mg c = some (.ref C) → cls = .ref C → kt c ≠ none → ExcC X.K C) (hz : Zc cls d oe) (hf : ∃ vs, oe.data = .fields vs) (hk : Kit X.K X.mg cv kt)
    (gl : Gl X "isinstance") (hm : X.mg "isinstance" = none) (hN : X.N[i]? = some x) (hv : Vis X.env.scope x) (hd : (x == ("__debug__" : Str)) = false) (hcd : (x == ("__classdict__" : Str)) = false)
    (hc : PE X (.Name n p2) (tC vc)) (hcv : ClsV vc cv) : SE X i a cls d (.Call (.Name "isinstance" p) [.Name x p3, .Name n p2] [] pos) (eIs kt) := by
  refine ⟨rfl, fun σ H Q => ∃ (C : Addr) (dd : Addr), cls = .ref C ∧ d = some dd ∧ ExcC X.K C ∧ tCB (rIsD X.K C dd a) (tCons (tVar i) (tCons (tC vc) tNil)) σ H Q, ⟨fun pins s σ H Q I ⟨C, dd, e1, e2, ec, h⟩ => ?_⟩, fun S0 H0 ρ σ H Q c fs r hi ex w => ?_⟩
  · subst e1; subst e2; subst hX
    exact (pe_callB (id := "isinstance") (call_isD ec hz hf) gl hm (by first | rfl | decide +kernel) (pa_cons (pe_var hN hv hd hcd) (pa_cons hc pa_nil rfl) rfl) (by decide) (by decide) rfl (by first | rfl | simp [starEach, backTo])).run pins s σ H Q I h
  · obtain ⟨C, h1, h2, dd, vs, h3, h4, h5⟩ := ex
    unfold eIs at w
    cases hkc : kt c with
    | none => rw [hkc] at w; exact w.elim
    | some b =>
      rw [hkc] at w
      exact ⟨C, dd, h2, h3, ok c C h1 h2 (by rw [hkc]; exact fun z => nomatch z), _, hi, _, _, b, vs, rfl, hcv, h4, hk c C b h1 hkc, w _ _ (Same.refl _) (PF.of rfl)⟩
/-- e.f -/
def eFld (n : Str) : Str → List (Str × D) → Rho → R (D × Bool) := fun _ fs _ => match fs.lookup n with
  | some v => if imm v = true then .ok (v, false) else .bad
  | none => .bad
theorem se_fld {X0 : Cx} {oe : Obj} {pn : List (Addr × Obj)} {n : Str} (hX : X = X0.suite a ((a, oe) :: pn)) (ok : ∀ C, cls = .ref C → XfC X.K C ∧ PySem.W.findIn X.K (.ref C) n = some none) (hz : Zc cls d oe) (hf : ∃ vs, oe.data = .fields vs)
    (hN : X.N[i]? = some x) (hv : Vis X.env.scope x) (hd : (x == ("__debug__" : Str)) = false) (hcd : (x == ("__classdict__" : Str)) = false) : SE X i a cls d (.Attribute (.Name x p3) n pos) (eFld n) := by
  refine ⟨rfl, fun σ H Q => ∃ C, cls = .ref C ∧ tXf a cls d C n (tVar i) σ H Q, ⟨fun pins s σ H Q I ⟨C, e1, h⟩ => ?_⟩, fun S0 H0 ρ σ H Q c fs r hi ex w => ?_⟩
  · obtain ⟨T, hno⟩ := ok C e1
    subst hX
    exact (pe_xf T hno hz hf (pe_var hN hv hd hcd) rfl).run pins s σ H Q I h
  · obtain ⟨C, h1, h2, dd, vs, h3, h4, h5⟩ := ex
    unfold eFld at w
    cases hl : fs.lookup n with
    | none => rw [hl] at w; exact w.elim
    | some v =>
      rw [hl] at w
      have w1 : Want X.K X.mg W0 σ H Q (PF X.K (Fb S0 ρ σ) H) (if imm v = true then .ok (v, false) else .bad) := w
      by_cases hi' : imm v = true
      · rw [if_pos hi'] at w1
        obtain ⟨u, l, ru⟩ := h5 n v hl
        exact ⟨C, h2, _, hi, rfl, h2, dd, vs, u, h3, h4, l, w1 _ _ (Same.refl _) (PF.of (Rep.imm _ _ hi' ru))⟩
      · rw [if_neg hi'] at w1; exact w1.elim
/-! ### the suite -/
structure SSE (X : Cx) (i : Nat) (a : Addr) (cls : Value) (d : Option Addr) (st : List Stmt) (h : Str → List (Str × D) → Rho → Fl) : Prop where
  ex : ∃ t, PSs X st t ∧ ∀ S0 H0 ρ σ H Dd c fs, Rl X.K S0 H0 ρ σ H → σ[i]? = some (some (.ref a)) → ExIs X.K X.mg c fs cls d H → WantS X.K X.mg W0 S0 H0 ρ σ H Dd (h c fs ρ) → t Dd σ H
def eNop : Str → List (Str × D) → Rho → Fl := fun _ _ => .next
def eRet (f : Rho → Fl) : Str → List (Str × D) → Rho → Fl := fun _ _ => f
theorem sse_nil : SSE X i a cls d [] eNop := ⟨_, pss_nil, fun S0 H0 ρ σ H Dd c fs r _ _ w => w σ H r Stp.refl⟩
theorem sse_of {st : List Stmt} {f : Rho → Fl} (h : SSs X W0 st f) : SSE X i a cls d st (eRet f) := by
  obtain ⟨t, p, k⟩ := h.ex
  exact ⟨t, p, fun S0 H0 ρ σ H Dd c fs r _ _ w => k S0 H0 ρ σ H Dd r w⟩
def eSet (j : Nat) (m : Bool) (g : Str → List (Str × D) → Rho → R (D × Bool)) (h : Str → List (Str × D) → Rho → Fl) : Str → List (Str × D) → Rho → Fl := fun c fs => sSeq (sSet j m (g c fs)) (h c fs)
theorem set_get {σ : L2.St} {i j : Nat} {v u : Option V} (h : σ[i]? = some u) (ne : j ≠ i) : (σ.set j v)[i]? = some u := by rw [List.getElem?_set_ne ne]; exact h
theorem sse_set {st : List Stmt} {m : Bool} {h : Str → List (Str × D) → Rho → Fl} (hN : X.N.Nodup) (hj : X.N[j]? = some x) (hx : Loc X.env.scope x) (he : SE X i a cls d e g) (hc : isComp e = false) (hf : X.fn x = true ∨ X.env.scope.names.lookup x = some .local) (ne : j ≠ i) (hr : SSE X i a cls d st h) :
    SSE X i a cls d (.Assign [.Name x p2] e pos :: st) (eSet j m g h) := by
  obtain ⟨t, q, k⟩ := he.ex
  obtain ⟨u, q', k'⟩ := hr.ex
  refine ⟨_, pss_cons (ps_set hN hj hx q (swapsWith_pl hc _ _ _) hf) q', fun S0 H0 ρ σ H Dd c fs r hi ex w => ?_⟩
  have w0 : WantS X.K X.mg W0 S0 H0 ρ σ H Dd (((g c fs ρ).fl ρ fun q => .next (ρ.set j (some (q.1, q.2 && m)))).andThen (h c fs)) := w
  cases hg : g c fs ρ with
  | bad => rw [hg] at w0; exact w0.elim
  | exc c' fs' =>
    rw [hg] at w0
    refine k S0 H0 ρ σ H _ c fs r hi ex ?_
    rw [hg]
    exact fun cls dd H' s e => w0 cls dd σ H' (r.same s) (Stp.of_same s) e
  | ok z =>
    rw [hg] at w0
    have w1 : WantS X.K X.mg W0 S0 H0 ρ σ H Dd (h c fs (ρ.set j (some (z.1, z.2 && m)))) := w0
    refine k S0 H0 ρ σ H _ c fs r hi ex ?_
    rw [hg]
    intro v H1 s pf
    obtain ⟨dz, bz⟩ := z
    have ex1 := ex.same s
    cases hb : bz && m with
    | false =>
      have w2 : WantS X.K X.mg W0 S0 H0 ρ σ H Dd (h c fs (ρ.set j (some (dz, bz && m)))) := w1
      rw [hb] at w2
      exact k' S0 H0 _ _ H1 Dd c fs (r.setC s pf.1) (set_get hi ne) ex1 (WantS.step (stp_setC s) w2)
    | true =>
      have w2 : WantS X.K X.mg W0 S0 H0 ρ σ H Dd (h c fs (ρ.set j (some (dz, bz && m)))) := w1
      rw [hb] at w2
      rw [Bool.and_eq_true] at hb
      obtain ⟨b, ev, n, tp⟩ := pf.2 hb.1
      subst ev
      exact k' S0 H0 _ _ H1 Dd c fs (r.setO s n tp) (set_get hi ne) ex1 (WantS.step (stp_setO s n) w2)
/-! ### try: body, except C as e: suite -/
def tsE (K : PySem.W.Frag) (mg : Str → Option Value) (i : Nat) (a : Addr) (cls : Value) (d : Option Addr) (h : Str → List (Str × D) → Rho → Fl) : TS := fun Dd σ H => ∃ S0 H0 ρ c fs, Rl K S0 H0 ρ σ H ∧ σ[i]? = some (some (.ref a)) ∧ ExIs K mg c fs cls d H ∧ WantS K mg W0 S0 H0 ρ σ H Dd (h c fs ρ)
theorem SSE.pss {st : List Stmt} {h : Str → List (Str × D) → Rho → Fl} (k : SSE X i a cls d st h) : PSs X st (tsE X.K X.mg i a cls d h) := by
  obtain ⟨t, p, k⟩ := k.ex
  exact ⟨fun pins s σ H Dd I ⟨S0, H0, ρ, c, fs, r, hi, ex, w⟩ => p.run pins s σ H Dd I (k S0 H0 ρ σ H Dd c fs r hi ex w)⟩
/-- the slot of the caught exception is forgotten -/
def Fl.drop (i : Nat) : Fl → Fl
  | .next ρ => .next (ρ.set i none)
  | .brk ρ => .brk (ρ.set i none)
  | .cont ρ => .cont (ρ.set i none)
  | .ret p => .ret p
  | .exc _ _ _ => .bad
  | .bad => .bad
def sTryE (sub : Str → Option Bool) (i : Nat) (f : Rho → Fl) (h : Str → List (Str × D) → Rho → Fl) : Rho → Fl := fun ρ => match f ρ with
  | .exc ρ' c fs => match sub c with
    | some true => if i < ρ'.length then (h c fs (ρ'.set i none)).drop i else .bad
    | some false => .exc ρ' c fs
    | none => .bad
  | r => r
theorem WantS.drop {K : PySem.W.Frag} {mg : Str → Option Value} {W : WX} {S0 : Addr → Prop} {H0 H : Hp} {ρ : Rho} {σ : L2.St} {Dd : Ends} {r : Fl} (w : WantS K mg W S0 H0 ρ σ H Dd (r.drop i)) :
    WantS K mg W0 S0 H0 ρ σ H { nx := fun σ' H' => Dd.nx (σ'.set i none) H', rt := Dd.rt, bk := fun σ' H' => Dd.bk (σ'.set i none) H', ct := fun σ' H' => Dd.ct (σ'.set i none) H' } r := by
  cases r with
  | next ρ' => exact fun σ' H' rl st => w _ _ (rl.setN none) (st.trans (stp_setN none))
  | brk ρ' => exact fun σ' H' rl st => w _ _ (rl.setN none) (st.trans (stp_setN none))
  | cont ρ' => exact fun σ' H' rl st => w _ _ (rl.setN none) (st.trans (stp_setN none))
  | ret p => exact w
  | exc ρ' c fs => exact (show False from w).elim
  | bad => exact w
end
section
variable {X : Cx} {W : WX} {i : Nat} {x n : Str} {pos p p2 : Pos}
theorem ss_tryE {body suite : List Stmt} {b₀ : Stmt} {cv : Value} {sub : Str → Option Bool} {g : Rho → Fl} {h : Str → List (Str × D) → Rho → Fl} (hs : X.stack = X.env :: X.outer) (hf : X.env.frame = some X.env.locals) (hN : X.N.Nodup) (hi : X.N[i]? = some n) (hln : X.env.kindOf n = some .local)
    (hc : Names X x cv) (tk : Takes X W) (hsub : Sub X.K X.mg cv sub)
    (hb : ∀ (W : WX) (pn : List (Addr × Obj)) (xe : Value → Shared → Prop), Takes (X.tr pn xe) W → PassesOwn (model X.prog X.w) X.A X.env xe → SSs (X.tr pn xe) W body g)
    (hsu : ∀ (a : Addr) (oe : Obj) (cls : Value) (d : Option Addr) (pn : List (Addr × Obj)), Zc cls d oe → (∃ vs, oe.data = .fields vs) → SSE (X.suite a ((a, oe) :: pn)) i a cls d (b₀ :: suite) h) :
    SS X W (.Try body [.ExceptHandler (some (.Name x p)) (some n) (b₀ :: suite) p2] [] [] pos) (sTryE sub i g h) := by
  refine ⟨_, ps_try_as (tb := fun W => tsOf X.K X.mg W g) (ts := fun a cls d => tsE X.K X.mg i a cls d h) hs hf hN hi hln hc tk (fun W pn xe t q => (hb W pn xe t q).pss) (fun a oe cls d pn hz hf => (hsu a oe cls d pn hz hf).pss), fun S0 H0 ρ σ H Dd r w => ⟨S0, H0, ρ, r, ?_⟩⟩
  unfold sTryE at w
  cases hg : g ρ with
  | next ρ' => rw [hg] at w; exact w
  | brk ρ' => rw [hg] at w; exact w
  | cont ρ' => rw [hg] at w; exact w
  | ret p => rw [hg] at w; exact w
  | bad => rw [hg] at w; exact w
  | exc ρ' c fs =>
    rw [hg] at w
    intro cls dd σ' H' rl st ex
    obtain ⟨C, hC, ecls, _⟩ := id ex
    have w1 : WantS X.K X.mg W S0 H0 ρ σ H Dd (match sub c with
      | some true => if i < ρ'.length then (h c fs (ρ'.set i none)).drop i else .bad
      | some false => .exc ρ' c fs
      | none => .bad) := w
    cases hsb : sub c with
    | none => rw [hsb] at w1; exact w1.elim
    | some b =>
      rw [hsb] at w1
      refine ⟨b, by rw [ecls]; exact hsub c C b hC hsb, fun e a na => ?_, fun e => ?_⟩
      · subst e
        have w2 : WantS X.K X.mg W S0 H0 ρ σ H Dd (if i < ρ'.length then (h c fs (ρ'.set i none)).drop i else .bad) := w1
        by_cases hl : i < ρ'.length
        · rw [if_pos hl] at w2
          refine ⟨S0, H0, ρ'.set i none, c, fs, rl.setN _, ?_, ex, (WantS.step (st.trans (stp_setN _)) w2).drop⟩
          rw [List.getElem?_set_self (by rw [← rl.len]; exact hl)]
        · rw [if_neg hl] at w2; exact w2.elim
      · subst e
        exact w1 cls dd σ' H' rl st ex
end
end VM
/-! VMa: displays of dicts, methods that change nothing. -/
namespace VM
open PySem L2
/-! ### {k: v, ..} -/
theorem Rl.addS {K : PySem.W.Frag} {S0 : Addr → Prop} {H0 H : Hp} {ρ : Rho} {σ : L2.St} {p : Addr} {o : HO} (r : Rl K S0 H0 ρ σ H) (n : H p = none) : Rl K (fun a => S0 a ∨ a = p) H0 ρ σ (upd H p o) where
  len := r.len
  s0 := fun a h => by
    rcases h with h | h
    · obtain ⟨o', e⟩ := r.s0 a h
      exact ⟨o', same_upd n a o' e⟩
    · rw [h]; exact ⟨o, upd_same⟩
  keep := r.keep.trans (same_upd n)
  clean := fun i d e => by
    obtain ⟨v, h1, h2⟩ := r.clean i d e
    refine ⟨v, h1, h2.mono (Kp.of_same (same_upd n)) fun a z => ?_⟩
    rcases z with (z | z) | z
    · exact .inl (.inl z)
    · rw [z]; exact .inr n
    · exact .inl (.inr z)
  own := fun i d e => by
    obtain ⟨a, h1, h2, h3⟩ := r.own i d e
    refine ⟨a, h1, ⟨h2.1, fun z => ?_⟩, h3.mono (Kp.of_same (same_upd n)) (fun b z => ?_) (same_upd n a)⟩
    · rcases z with z | z
      · exact h2.2 z
      · obtain ⟨o', e'⟩ := h3.there
        rw [z, n] at e'; cases e'
    · rcases z with (z | z) | z
      · exact .inl (.inl z)
      · rw [z]; exact .inr n
      · exact .inl (.inr z)
  sep := r.sep
structure SPs (X : Cx) (W : WX) (pos : Pos) (keys : List (Option Expr)) (values : List Expr) (f : Rho → R (List (D × D))) : Prop where
  ex : ∃ trs, PPs X pos keys values trs ∧ ∀ S0 H0 ρ σ H (Q : List (V × V) → Hp → Prop), Rl X.K S0 H0 ρ σ H →
    Want X.K X.mg W σ H Q (fun ps vs H' => Reps X.K (Fb S0 ρ σ) H' (ps.map (·.1)) (vs.map (·.1)) ∧ Reps X.K (Fb S0 ρ σ) H' (ps.map (·.2)) (vs.map (·.2))) (f ρ) → tPairs trs σ H Q
def pNil : Rho → R (List (D × D)) := fun _ => .ok []
def pCons (fk fv : Rho → R (D × Bool)) (f : Rho → R (List (D × D))) : Rho → R (List (D × D)) := fun ρ => do let k ← fk ρ; let v ← fv ρ; let ps ← f ρ; pure ((k.1, v.1) :: ps)
section
variable {X : Cx} {W : WX} {pos p p2 apos cpos : Pos} {k v o e e1 e2 : Expr} {ks : List (Option Expr)} {vs : List Expr} {fk fv fo fe fe1 fe2 : Rho → R (D × Bool)} {f : Rho → R (List (D × D))}
theorem sps_nil : SPs X W pos [] [] pNil := ⟨[], pps_nil, fun S0 H0 ρ σ H Q r w => w [] H (Same.refl _) ⟨rfl, rfl⟩⟩
theorem sps_cons (hk : SF X W k fk) (hv : SF X W v fv) (h : SPs X W pos ks vs f) : SPs X W pos (some k :: ks) (v :: vs) (pCons fk fv f) := by
  obtain ⟨tk, pk, hk⟩ := hk.ex
  obtain ⟨tv, pv, hv⟩ := hv.ex
  obtain ⟨trs, pp, h⟩ := h.ex
  refine ⟨(tk, tv) :: trs, pps_cons pk pv pp, fun S0 H0 ρ σ H Q r w => ?_⟩
  refine hk S0 H0 ρ σ H _ r (Want.bind w fun a x H1 s1 p1 w1 => ?_)
  refine hv S0 H0 ρ σ H1 _ (r.same s1) (Want.bind w1 fun b y H2 s2 p2 w2 => ?_)
  refine h S0 H0 ρ σ H2 _ (r.same (s1.trans s2)) (Want.bind w2 fun ps vs H3 s3 p3 w3 => ?_)
  exact w3 _ _ (Same.refl _) ⟨⟨x, _, rfl, p1.1.same (s2.trans s3), p3.1⟩, ⟨y, _, rfl, p2.1.same s3, p3.2⟩⟩
def keyPs : List (D × D) → Option (List (Key × D))
  | [] => some []
  | (k, d) :: r => match keyD k, keyPs r with
    | some k, some l => some ((k, d) :: l)
    | _, _ => none
def mrg : List Key → List D → List (Key × D) → List Key × List D
  | ks, ds, [] => (ks, ds)
  | ks, ds, (k, d) :: r => mrg (putM ks ds k d).1 (putM ks ds k d).2 r
def bDisp (f : Rho → R (List (D × D))) : Rho → R (D × Bool) := fun ρ => do
  let ps ← f ρ
  match keyPs ps with
  | some l => if l.length ≤ 15 then .ok (.dic (mrg [] [] l).1 (mrg [] [] l).2, true) else .bad
  | none => .bad
theorem keyPs_V {K : PySem.W.Frag} {F : Addr → Prop} {H : Hp} : ∀ {ps : List (D × D)} {vs : List (V × V)} {l : List (Key × D)}, keyPs ps = some l → Reps K F H (ps.map (·.1)) (vs.map (·.1)) → Reps K F H (ps.map (·.2)) (vs.map (·.2)) →
    ∃ kvs : List (Key × V), vs = kvs.map (fun kv => (kV kv.1, kv.2)) ∧ kvs.map (·.1) = l.map (·.1) ∧ Reps K F H (l.map (·.2)) (kvs.map (·.2))
  | [], vs, l, e, h1, h2 => by
    cases e
    have hv : vs = [] := by
      cases vs with
      | nil => rfl
      | cons z zs => exact nomatch (show z.1 :: zs.map (·.1) = [] from h1)
    subst hv
    exact ⟨[], rfl, rfl, rfl⟩
  | (k, d) :: ps, vs, l, e, h1, h2 => by
    unfold keyPs at e
    split at e
    · rename_i k' l' ek el
      cases e
      cases vs with
      | nil => obtain ⟨_, _, z, _⟩ := h1; cases z
      | cons z zs =>
        obtain ⟨a, as, ea, ra, rs⟩ := h1
        obtain ⟨b, bs, eb, rb, rbs⟩ := h2
        cases ea; cases eb
        obtain ⟨kvs, e1, e2, e3⟩ := keyPs_V el rs rbs
        subst e1
        have ka := keyD_V (.inl ra) ek
        refine ⟨(k', z.2) :: kvs, ?_, ?_, ?_⟩
        · rw [List.map_cons, ← ka]
        · rw [List.map_cons, List.map_cons, e2]
        · exact ⟨z.2, _, rfl, rb, e3⟩
    · cases e
theorem mrg_V {K : PySem.W.Frag} {F : Addr → Prop} {H : Hp} : ∀ {l : List (Key × D)} {more kvs : List (Key × V)} {ks : List Key} {ds : List D}, more.map (·.1) = l.map (·.1) → Reps K F H (l.map (·.2)) (more.map (·.2)) → kvs.map (·.1) = ks → Reps K F H ds (kvs.map (·.2)) →
    (mergeK kvs more).map (·.1) = (mrg ks ds l).1 ∧ Reps K F H (mrg ks ds l).2 ((mergeK kvs more).map (·.2))
  | [], more, kvs, ks, ds, e, r, e2, r2 => by
    have hm : more = [] := by
      cases more with
      | nil => rfl
      | cons a as => cases e
    subst hm
    exact ⟨e2, r2⟩
  | (k, d) :: l, more, kvs, ks, ds, e, r, e2, r2 => by
    cases more with
    | nil => cases e
    | cons a as =>
      have ea : a.1 = k := (List.cons.inj e).1
      have eas : as.map (·.1) = l.map (·.1) := (List.cons.inj e).2
      obtain ⟨v, vs', ev, rv, rvs⟩ := r
      have ev1 : a.2 = v := (List.cons.inj ev).1
      have ev2 : as.map (·.2) = vs' := (List.cons.inj ev).2
      subst ev1; subst ev2; subst ea
      obtain ⟨m1, m2⟩ := putM_V (x := a.1) e2 r2 rv
      have := mrg_V (l := l) (more := as) eas rvs m1 m2
      exact this
theorem sf_disp {keys : List (Option Expr)} {values : List Expr} (h : SPs X W pos keys values f) (hall : keys.all (·.isSome) = true) (hl : keys.length = values.length) (h0 : keys ≠ []) (h15 : keys.length ≤ 15) : SF X W (.Dict keys values pos) (bDisp f) := by
  obtain ⟨trs, pp, h⟩ := h.ex
  refine ⟨rfl, _, pe_disp pp hall hl h0 h15, fun S0 H0 ρ σ H Q r w p n => ?_⟩
  have r1 := r.addS (o := .dK []) n
  have sp := same_upd (o := .dK []) n
  refine h (fun a => S0 a ∨ a = p) H0 ρ σ _ _ r1 ?_
  unfold bDisp at w
  cases hf : f ρ with
  | bad => rw [hf] at w; exact w.elim
  | exc c fs =>
    rw [hf] at w
    exact fun cls dd H' s e => w cls dd H' (sp.trans s) e
  | ok ps =>
    rw [hf] at w
    intro vs H2 s2 pr
    have hp : H2 p = some (.dK []) := s2 _ _ upd_same
    have w3 : Want X.K X.mg W σ H Q (PF X.K (Fb S0 ρ σ) H) (match keyPs ps with
      | some l => if l.length ≤ 15 then .ok (.dic (mrg [] [] l).1 (mrg [] [] l).2, true) else .bad
      | none => .bad) := w
    cases hk : keyPs ps with
    | none => rw [hk] at w3; exact w3.elim
    | some l =>
      rw [hk] at w3
      have w4 : Want X.K X.mg W σ H Q (PF X.K (Fb S0 ρ σ) H) (if l.length ≤ 15 then .ok (.dic (mrg [] [] l).1 (mrg [] [] l).2, true) else .bad) := w3
      by_cases hl15 : l.length ≤ 15
      · rw [if_pos hl15] at w4
        obtain ⟨kvs, e1, e2, e3⟩ := keyPs_V hk pr.1 pr.2
        subst e1
        have el : kvs.length = l.length := by
          have := congrArg List.length e2
          rwa [List.length_map, List.length_map] at this
        refine ⟨hp, kvs, rfl, by omega, ?_⟩
        have kD : Kp (fun a => Fb S0 ρ σ a ∨ a = p) H2 (upd H2 p (.dK (mergeK [] kvs))) := fun a o e c => by
          by_cases ha : a = p
          · subst ha
            rw [hp] at e; cases e
            rcases c (.inr rfl) with ⟨xs, z⟩ | ⟨ob, u, z⟩ <;> cases z
          · rw [upd_ne ha]; exact e
        have lessF : ∀ a, Fb S0 ρ σ a ∨ a = p → Fb (fun a => S0 a ∨ a = p) ρ σ a := fun a z => z.elim (fun z => z.elim (fun z => .inl (.inl z)) .inr) fun z => .inl (.inr z)
        have e3' : Reps X.K (fun a => Fb S0 ρ σ a ∨ a = p) (upd H2 p (.dK (mergeK [] kvs))) (l.map (·.2)) (kvs.map (·.2)) := Reps.mono kD (fun a z => .inl z) _ _ (Reps.less lessF e3)
        obtain ⟨m1, m2⟩ := mrg_V (kvs := []) (ks := []) (ds := []) e2 e3' rfl rfl
        have nF : ¬ Fb S0 ρ σ p := r.fresh n
        have sH : Same H (upd H2 p (.dK (mergeK [] kvs))) := fun b o e => by
          have hb : b ≠ p := fun z => by rw [z, n] at e; cases e
          rw [upd_ne hb]
          exact s2 _ _ (sp _ _ e)
        exact w4 _ _ sH ⟨⟨p, _, rfl, .inl upd_same, nF, m1, m2.less fun a z => .inl z⟩, fun _ => ⟨p, rfl, n, _, upd_same, m1, m2⟩⟩
      · rw [if_neg hl15] at w4; exact w4.elim
/-! ### d.get(k, x) -/
def getD' (d k x : D) : Option D := match d with
  | .dic ks ds => match keyD k with
    | some k => some ((lookK ks ds k).getD x)
    | none => none
  | .dct ks ds => match k with
    | .tup xs => match keyDs xs with
      | some k => some ((lookK ks ds k).getD x)
      | none => none
    | _ => none
  | _ => none
def isDi : D → Bool
  | .dic _ _ => true | .dct _ _ => true
  | _ => false
def bGet (fo fk fx : Rho → R (D × Bool)) : Rho → R (D × Bool) := fun ρ => do
  let o ← fo ρ
  if isDi o.1 = true then (do
    let k ← fk ρ
    let x ← fx ρ
    match getD' o.1 k.1 x.1 with
    | some d => .ok (d, false)
    | none => .bad) else .bad
theorem isDi_V {K : PySem.W.Frag} {F : Addr → Prop} {H : Hp} {d : D} {v : V} (h : RepE K F H d v) (e : isDi d = true) : ∃ a, v = .ref a ∧ IsD H a := by
  cases d with
  | dic ks ds => obtain ⟨a, kvs, ev, q, _⟩ := h.dic; exact ⟨a, ev, .inl ⟨kvs, q⟩⟩
  | dct ks ds => obtain ⟨a, kvs, ev, q, _⟩ := h.dct; exact ⟨a, ev, .inr ⟨kvs, q⟩⟩
  | _ => cases e
theorem get_V {K : PySem.W.Frag} {F : Addr → Prop} {H : Hp} {d k x r : D} {a : Addr} {kv xv : V} (hd : RepE K F H d (.ref a)) (hk : RepE K F H k kv) (hx : Rep K F H x xv) (e : getD' d k x = some r) : ∃ o, DGet H a kv o ∧ Rep K F H r (o.getD xv) := by
  have fin : ∀ {κ : Type} [DecidableEq κ] {kvs : List (κ × V)} {ks : List κ} {ds : List D} {key : κ}, kvs.map (·.1) = ks → Reps K F H ds (kvs.map (·.2)) → Rep K F H ((lookK ks ds key).getD x) ((valV kvs key).getD xv) := fun {κ _ kvs ks ds key} e1 e2 => by
    obtain ⟨h1, h2⟩ := lookK_V (x := key) e1 e2
    cases hl : lookK ks ds key with
    | none => rw [h2 hl]; exact hx
    | some d =>
      obtain ⟨v, l, rv⟩ := h1 d hl
      rw [l]; exact rv
  unfold getD' at e
  split at e
  · split at e
    · rename_i key ek
      cases e
      obtain ⟨b, kvs, ev, q, e1, e2⟩ := hd.dic
      cases ev
      have := keyD_V hk ek
      exact ⟨_, .inl ⟨kvs, key, q, this, rfl⟩, fin e1 e2⟩
    · cases e
  · split at e
    · split at e
      · rename_i xs key ek
        cases e
        obtain ⟨b, kvs, ev, q, e1, e2⟩ := hd.dct
        cases ev
        obtain ⟨c, vs, ec, hc, rs⟩ := hk.tup
        have := keyDs_V rs ek
        subst this
        exact ⟨_, .inr ⟨kvs, key, c, q, ec, hc, rfl⟩, fin e1 e2⟩
      · cases e
    · cases e
  · cases e
theorem sf_get (hu : X.A.units + 1 < cLine) (ho : SA X W o fo) (h1 : SA X W e1 fe1) (h2 : SF X W e2 fe2) (hb : attributeBase o "get" X.env (eval o X.env) = eval o X.env) (hline : (apos.endLine == cpos.line) = true) :
    SF X W (.Call (.Attribute o "get" apos) [e1, e2] [] cpos) (bGet fo fe1 fe2) := by
  have n1 := h1.ns
  have n2 := h2.ns
  obtain ⟨t, p, h⟩ := ho.ex
  obtain ⟨t1, p1, h1⟩ := h1.ex
  obtain ⟨t2, p2, h2⟩ := h2.ex
  have tr : backTo cpos (starEach [e1, e2] X.env) = [(false, eval e1 X.env), (false, eval e2 X.env)] := by
    rw [star_of n1, star_of n2]
    rfl
  refine ⟨rfl, _, pe_dget2 hu p p1 p2 ⟨hb, few_of (by simp [n1, n2]) (by simp), hline, tr⟩, fun S0 H0 ρ σ H Q r w => ?_⟩
  refine h S0 H0 ρ σ H _ r (Want.bind w fun d x Ha sa pa wa => ?_)
  by_cases hi : isDi d.1 = true
  · rw [if_pos hi] at wa
    obtain ⟨a, ex, id'⟩ := isDi_V pa.e hi
    refine ⟨a, ex, id', h1 S0 H0 ρ σ Ha _ (r.same sa) (Want.bind wa fun k y Hb sb pb wb => ?_)⟩
    refine h2 S0 H0 ρ σ Hb _ (r.same (sa.trans sb)) (Want.bind wb fun x' z Hc sc pc wc => ?_)
    have wd : Want X.K X.mg W σ Hc Q (PF X.K (Fb S0 ρ σ) H) (match getD' d.1 k.1 x'.1 with
      | some d => .ok (d, false)
      | none => .bad) := wc
    cases hg : getD' d.1 k.1 x'.1 with
    | none => rw [hg] at wd; exact wd.elim
    | some q =>
      rw [hg] at wd
      have pd := (pa.same (sb.trans sc)).e
      rw [ex] at pd
      obtain ⟨oo, g1, g2⟩ := get_V pd (pb.same sc).e pc.1 hg
      exact ⟨oo, g1, wd _ _ (Same.refl _) (PF.of g2)⟩
  · rw [if_neg hi] at wa; exact wa.elim
/-! ### o.index(e) -/
def ixD {α : Type} (p : α → Bool) : List α → Option Nat
  | [] => none
  | x :: xs => if p x = true then some 0 else (ixD p xs).map (· + 1)
theorem ixD_ok {α : Type} {p : α → Bool} : ∀ {xs : List α} {j : Nat}, ixD p xs = some j → (∃ x, xs[j]? = some x ∧ p x = true) ∧ ∀ (m : Nat) (z : α), m < j → xs[m]? = some z → p z = false
  | [], j, h => by cases h
  | x :: xs, j, h => by
    unfold ixD at h
    by_cases hp : p x = true
    · rw [if_pos hp] at h
      cases h
      exact ⟨⟨x, rfl, hp⟩, fun m z hm => by omega⟩
    · rw [if_neg hp] at h
      cases e : ixD p xs with
      | none => rw [e] at h; cases h
      | some i =>
        rw [e] at h
        have ej : i + 1 = j := Option.some.inj h
        subst ej
        obtain ⟨⟨y, h1, h2⟩, h3⟩ := ixD_ok e
        refine ⟨⟨y, h1, h2⟩, fun m z hm hz => ?_⟩
        cases m with
        | zero =>
          have ez : x = z := Option.some.inj hz
          subst ez
          simpa using hp
        | succ m => exact h3 m z (by omega) hz
def indexD (l x : D) : Option Nat := match l with
  | .lst ys => if flatD x = true ∧ ys.all flatD = true then ixD (fun y => eqFl y x) ys
    else match toP x, toPs ys with
      | some p, some ps => if PySem.SeqAt.shaped p = true ∧ PySem.SeqAt.shaped (.list ps) = true then ixD (fun z => PyData.eqv z p) ps else none
      | _, _ => none
  | _ => none
def isLi : D → Bool
  | .lst _ => true
  | _ => false
def bIndex (fo fx : Rho → R (D × Bool)) : Rho → R (D × Bool) := fun ρ => do
  let o ← fo ρ
  if isLi o.1 = true then (do
    let x ← fx ρ
    match indexD o.1 x.1 with
    | some j => .ok (.int (j : Nat), false)
    | none => .bad) else .bad
theorem sf_index (hu : X.A.units + 65 < cLine) (ho : SA X W o fo) (h1 : SA X W e1 fe1) (hb : attributeBase o "index" X.env (eval o X.env) = eval o X.env) (hline : (apos.endLine == cpos.line) = true) :
    SF X W (.Call (.Attribute o "index" apos) [e1] [] cpos) (bIndex fo fe1) := by
  have n1 := h1.ns
  obtain ⟨t, p, h⟩ := ho.ex
  obtain ⟨t1, p1, h1⟩ := h1.ex
  have hse : ∀ env, starEach [e1] env = (false, eval e1 env) :: starEach [] env := fun env => star_of n1 _ _
  refine ⟨rfl, _, pe_bm PySem.F.plainAttrs_list PySem.F.slot_list_index PySem.F.type_list_index (MtR.or mt_index (mt_indexD hu)) p (pa_cons p1 pa_nil (hse _)) hb (few_of (by simp [n1]) (by simp)) hline (hse _) rfl, fun S0 H0 ρ σ H Q r w => ?_⟩
  refine h S0 H0 ρ σ H _ r (Want.bind w fun d x Ha sa pa wa => ?_)
  by_cases hi : isLi d.1 = true
  · rw [if_pos hi] at wa
    obtain ⟨dd, fl⟩ := d
    cases dd with
    | lst ys =>
      have pe : RepE X.K (Fb S0 ρ σ) Ha (.lst ys) x := pa.e
      obtain ⟨a, vs, ex, hq, _⟩ := pe.lst
      refine ⟨by rw [ex]; exact .inl ⟨rfl, vs, SqL.of hq⟩, h1 S0 H0 ρ σ Ha _ (r.same sa) (Want.bind wa fun k y Hb sb pb wb => ?_)⟩
      have wd : Want X.K X.mg W σ Hb Q (PF X.K (Fb S0 ρ σ) H) (match indexD (.lst ys) k.1 with
        | some j => .ok (.int (j : Nat), false)
        | none => .bad) := wb
      have pe2 : RepE X.K (Fb S0 ρ σ) Hb (.lst ys) x := (pa.same sb).e
      obtain ⟨a', vs', ex', hq', rs⟩ := pe2.lst
      cases hg : indexD (.lst ys) k.1 with
      | none => rw [hg] at wd; exact wd.elim
      | some j =>
        rw [hg] at wd
        have q : Q (.int (j : Nat)) Hb := wd _ _ (Same.refl _) (PF.of rfl)
        have hk := pb.e
        unfold indexD at hg
        dsimp only at hg
        by_cases hfl : flatD k.1 = true ∧ ys.all flatD = true
        · rw [if_pos hfl] at hg
          obtain ⟨⟨z, h2, h3⟩, h4⟩ := ixD_ok hg
          obtain ⟨v, hv, rv⟩ := rs.get h2
          have fz := List.all_eq_true.mp hfl.2 z (List.mem_of_getElem? h2)
          refine .inl ⟨a', vs', y, j, v, ex', rfl, SqL.of hq', flatD_V hk hfl.1, all_flat rs hfl.2, hv, ?_, fun m z' hm hz' => ?_, q⟩
          · rw [eqFl_V (.inl rv) hk fz hfl.1]; exact h3
          · obtain ⟨d', hd', rd'⟩ := rs.getV hz'
            have fd' := List.all_eq_true.mp hfl.2 d' (List.mem_of_getElem? hd')
            rw [eqFl_V (.inl rd') hk fd' hfl.1]; exact h4 m d' hm hd'
        · rw [if_neg hfl] at hg
          split at hg
          · rename_i pp ps e1' e2'
            split at hg
            · rename_i hs
              obtain ⟨⟨z, h2, h3⟩, h4⟩ := ixD_ok hg
              refine .inr ⟨a', y, pp, ps, j, z, ex', rfl, .lst (SqL.of hq') (toPs_dp _ _ _ e2' rs), toP_dp _ _ _ e1' hk, hs.2, hs.1, h2, h3, h4, q⟩
            · cases hg
          · cases hg
    | _ => cases hi
  · rw [if_neg hi] at wa; exact wa.elim
/-! ### what an attribute's base is -/
def plainBase : Expr → Bool
  | .Call .. => false
  | _ => true
theorem base_pl {o : Expr} {n : Str} {env : PySem.Env} (h : plainBase o = true) : attributeBase o n env (eval o env) = eval o env := by
  cases o <;> first | rfl | exact Bool.noConfusion (show false = true from h)
/-! ### reversed -/
def revD : D → R (List D)
  | .lst xs => .ok xs.reverse
  | .tup xs => .ok xs.reverse
  | .ktup xs => .ok xs.reverse
  | _ => .bad
def bRev (fe : Rho → R (D × Bool)) : Rho → R (List D) := fun ρ => do let p ← fe ρ; revD p.1
theorem rev_get {α : Type} {xs : List α} {i : Nat} (h : i < xs.length) : xs.reverse[i]? = xs[xs.length - 1 - i]? := by
  rw [List.getElem?_reverse h]
theorem si_rev {tg : Expr} (hg : Gl X "reversed") (hm : X.mg "reversed" = none) (he : SF X W e fe) : SI X W tg (.Call (.Name "reversed" p) [e] [] pos) (bRev fe) := by
  have ns := he.ns
  obtain ⟨t, pe, h⟩ := he.ex
  refine ⟨fun _ _ => rfl, _, RT.pi_revA hg hm pe (star_of ns _ _), fun S0 H0 ρ σ H Rr r w => h S0 H0 ρ σ H _ r (Want.bind w fun q v H1 s pf w1 => ?_)⟩
  obtain ⟨d, b⟩ := q
  have hO : ∀ a, OwnA ρ σ a → Fb S0 ρ σ a := fun a z => .inr z
  have pf1 : Rep X.K (Fb S0 ρ σ) H1 d v := pf.1
  cases d with
  | lst ds =>
    obtain ⟨a, vs, e, q, n, rs⟩ := pf1
    have hl := rs.length
    have st : ∀ H', Kp (OwnA ρ σ) H1 H' → SqL X.K H' a vs := fun H' k => SqL.of (k a _ q fun z => (n (hO a z)).elim)
    refine ⟨a, vs, e, .inl ⟨SqL.of q, w1 _ _ (Same.refl _) ⟨fun i H' hi k => ?_, fun H' k => ?_, fun i H' x H'' hi k y => ?_⟩⟩⟩
    · rw [List.length_reverse] at hi
      exact ⟨by omega, vs, vs[vs.length - 1 - i]'(by omega), st H' k, List.getElem?_eq_getElem (by omega)⟩
    · show vs.length ≤ _
      rw [List.length_reverse, hl]; exact Nat.le_refl _
    · rw [List.length_reverse] at hi
      obtain ⟨e', y⟩ := y
      subst e'
      have hx := y vs (st _ k)
      obtain ⟨d, h1, h2⟩ := rs.getV hx
      exact ⟨Same.refl _, d, by rw [rev_get hi, ← hl]; exact h1, fun F' hF' => h2.mono (k.less hO) hF'⟩
  | tup ds =>
    obtain ⟨a, vs, e, q, rs⟩ := pf1
    have hl := rs.length
    have st : ∀ H', Kp (OwnA ρ σ) H1 H' → SqT X.K H' a vs := fun H' k => sqT_kp k (SqT.of q)
    refine ⟨a, vs, e, .inr ⟨SqT.of q, w1 _ _ (Same.refl _) ⟨fun i H' hi k => ?_, fun H' k => ?_, fun i H' x H'' hi k y => ?_⟩⟩⟩
    · rw [List.length_reverse] at hi
      exact ⟨by omega, vs, vs[vs.length - 1 - i]'(by omega), st H' k, List.getElem?_eq_getElem (by omega)⟩
    · show vs.length ≤ _
      rw [List.length_reverse, hl]; exact Nat.le_refl _
    · rw [List.length_reverse] at hi
      obtain ⟨e', y⟩ := y
      subst e'
      have hx := y vs (st _ k)
      obtain ⟨d, h1, h2⟩ := rs.getV hx
      exact ⟨Same.refl _, d, by rw [rev_get hi, ← hl]; exact h1, fun F' hF' => h2.mono (k.less hO) hF'⟩
  | ktup ds =>
    obtain ⟨a, vs, e, q, rs⟩ := RepE.ktup (.inl pf1)
    have hl := rs.length
    have st : ∀ H', Kp (OwnA ρ σ) H1 H' → SqT X.K H' a vs := fun H' k => sqT_kp k q
    refine ⟨a, vs, e, .inr ⟨q, w1 _ _ (Same.refl _) ⟨fun i H' hi k => ?_, fun H' k => ?_, fun i H' x H'' hi k y => ?_⟩⟩⟩
    · rw [List.length_reverse] at hi
      exact ⟨by omega, vs, vs[vs.length - 1 - i]'(by omega), st H' k, List.getElem?_eq_getElem (by omega)⟩
    · show vs.length ≤ _
      rw [List.length_reverse, hl]; exact Nat.le_refl _
    · rw [List.length_reverse] at hi
      obtain ⟨e', y⟩ := y
      subst e'
      have hx := y vs (st _ k)
      obtain ⟨d, h1, h2⟩ := rs.getV hx
      exact ⟨Same.refl _, d, by rw [rev_get hi, ← hl]; exact h1, fun F' hF' => h2.mono (k.less hO) hF'⟩
  | _ => exact (show False from w1).elim
end
end VM
/-! VMb: sorted of a tuple. -/
namespace VM
open PySem L2
section
open PyProof.Rows PySem.Spec SrtO Calls
variable {prog : Program} {w : World} {A : Around} {E : Value → Shared → Prop} {s : Shared}
/-- the items of a tuple, in a new list -/
theorem gather_tup {l : Addr} {vs : List Value} {Q : List Value → Shared → Prop} (hl : s.heap.IsTuple l vs.toArray) (hz : vs.length ≤ sizeLine)
    (h : Q vs { s with heap := (s.heap.push (seqObj "list" #[] 0)).update s.heap.objs.size (Obj.mapSeq (· ++ vs.toArray)) }) : wpAny (model prog w) A (collect (.ref l)) Q E s := by
  obtain ⟨o, ho, hc, n, hd⟩ := id hl
  have ho2 : (s.heap.push (seqObj "list" #[] 0)).get? l = some o := Heap.get?_push_of_some _ ho
  have hnew : (s.heap.push (seqObj "list" #[] 0)).get? s.heap.objs.size = some (seqObj "list" #[] 0) := Heap.get?_push_size _ rfl
  unfold collect
  refine wpAny_bind (wpAny_runValue (codeAny_builtin entry_proto_collect' ?_)); show wpAny _ _ (do again (.builtin "list.__iadd__" ⟨[← newList [], .ref l], []⟩)) _ _ s
  refine wpAny_bind (wpAny_newList (wpAny_pure ⟨Code.quiet_builtin _ (by decide +kernel), codeAny_builtin entry_list_iadd' ?_⟩)); show wpAny _ _ (Builtin.List.listExtendWith (.ref s.heap.objs.size) (.ref l) (.ref s.heap.objs.size)) _ _ { s with heap := s.heap.push (seqObj "list" #[] 0) }
  unfold Builtin.List.listExtendWith
  refine wpAny_bind (wpAny_typeOf (T := "tuple") ⟨o, ho2, hc⟩ ?_)
  have tt : (Value.type "tuple" == Value.type "tuple") = true := rfl
  rw [if_pos (by rw [tt]; simp)]
  refine wpAny_bind (listItems_at ho2 hd (wpAny_bind (listItems_at (xs := #[]) (n := 0) hnew rfl ?_)))
  rw [if_neg (by simp)]
  refine wpAny_bind (listUpdate_at (xs := #[]) (n := 0) hnew rfl (wpAny_pure ?_) (Nat.zero_le _) (by show (#[] ++ vs.toArray).size ≤ sizeLine + 1; simp only [Array.size_append, List.size_toArray, List.length_nil]; omega))
  show wpAny (model prog w) A (do
    let o ← load s.heap.objs.size
    match o.data with | .seq xs _ => pure xs.toList | _ => unsupported "internal:collect") Q E { s with heap := (s.heap.push (seqObj "list" #[] 0)).update s.heap.objs.size (Obj.mapSeq (· ++ vs.toArray)) }
  refine wpAny_bind (wpAny_load (get?_update_seq hnew _) ?_)
  have e : ((#[] : Array Value) ++ vs.toArray).toList = vs := by simp
  show wpAny _ _ (pure ((#[] : Array Value) ++ vs.toArray).toList) Q E _
  rw [e]; exact wpAny_pure h
theorem order_tup {l : Addr} {vs : List Value} {ltv : Value → Value → Bool} {Q : Value → Shared → Prop} (O : Swo ltv) (hl : s.heap.IsTuple l vs.toArray) (hz : vs.length ≤ sizeLine)
    (hS : 2 ≤ vs.length → ∀ (h₁ : Heap) (a : Addr), h₁.get? a = some (seqObj "list" vs.toArray 0) → (∀ b o, s.heap.get? b = some o → b ≠ a ∧ h₁.get? b = some o) → SortableO prog w A.in1.in1 { s with heap := h₁ } a vs ltv)
    (h : ∀ out : List Value, Srtd ltv out → Stb ltv out vs → Q (.ref (s.heap.objs.size + 1)) { s with heap := sortedAll s.heap vs out.toArray }) :
    wpAny (model prog w) A (call (.builtin "sorted") [.ref l]) Q E s := by
  let G : Heap := (s.heap.push (seqObj "list" #[] 0)).update s.heap.objs.size (Obj.mapSeq (· ++ vs.toArray))
  have gs : G.objs.size = s.heap.objs.size + 1 := by show (Heap.update _ _ _).objs.size = _; rw [Heap.size_update, size_push']
  have hL : (G.push (seqObj "list" vs.toArray 0)).get? (s.heap.objs.size + 1) = some (seqObj "list" vs.toArray 0) := by rw [← gs]; exact Heap.get?_push_size _ rfl
  have kp : ∀ b o, s.heap.get? b = some o → b ≠ s.heap.objs.size + 1 ∧ (G.push (seqObj "list" vs.toArray 0)).get? b = some o := fun b o q => by
    have lt : b < s.heap.objs.size := Heap.lt_size q
    refine ⟨Nat.ne_of_lt (Nat.lt_succ_of_lt lt), Heap.get?_push_of_some _ ?_⟩
    show (Heap.update _ _ _).get? b = _
    rw [Heap.get?_update_ne _ _ _ _ (Nat.ne_of_lt lt)]; exact Heap.get?_push_of_some _ q
  refine call_function_entry kind_sorted plain_sorted entry_sorted (args_sorted1 _) ?_
  unfold Builtin.«sorted»
  refine wpAny_bind (m := checkCount "sorted" 1 1 _) (wpAny_pure (wpAny_bind (gather_tup hl hz (wpAny_bind (wpAny_newList ?_ hz)))))
  show wpAny _ _ _ _ _ { s with heap := G.push (seqObj "list" vs.toArray 0) }
  rw [show ((s.heap.push (seqObj "list" #[] 0)).update s.heap.objs.size (Obj.mapSeq (· ++ vs.toArray))).objs.size = s.heap.objs.size + 1 from gs]
  exact wpAny_bind (wpAny_holding (wpAny_call_entry slot_list_sort ⟨_, hL, rfl⟩ entry_list_sort (list_sort_ord O hL hz (fun h2 => hS h2 _ _ hL kp) fun out hs hb => ⟨_, rfl, wpAny_pure ⟨_, rfl, h out hs hb⟩⟩) (args_list_sort _)))
end
/-- sorted(t), t a tuple of ints -/
def rSortedA (K : PySem.W.Frag) : List V → Hp → VK → Prop := fun vs H Q => ∃ (a : Addr) (ns : List Int), vs = [V.ref a] ∧ SqT K H a (ns.map V.int) ∧
  ∀ (ns' : List Int) (p : Addr), ns'.Perm ns → ns'.Pairwise (· ≤ ·) → H p = none → Q (.ref p) (upd H p (.lst (ns'.map V.int)))
theorem cr_sortedA {X : Cx} : CallR X (.builtin "sorted") (rSortedA X.K) := by
  intro pins s σ H vs us Q I r h
  obtain ⟨a, ns, rfl, hs, q⟩ := h
  obtain ⟨its, rv, hl, hz⟩ := I.tuple hs
  obtain ⟨u, rfl, ru⟩ := Vals.one r
  cases ru
  have hi := rv.ints
  refine order_tup SrtO.swo_int hl (by rw [← rv.length]; exact hz) (fun h2 _ a' _ _ => SrtO.ints_sortable hi h2) fun out h1 h2 => ?_
  obtain ⟨k1, k2, k3⟩ := SrtO.ints_out hi h1 h2
  obtain ⟨ep, he⟩ := PyProof.Rows.sortedAll_at s.heap its out.toArray
  have hlen : ((out.map SrtO.iv).map V.int).length ≤ sizeLine := by rw [List.length_map, k2.length_eq]; rw [List.length_map] at hz; exact hz
  have old : ∀ b o, s.heap.get? b = some o → (PyProof.Rows.sortedAll s.heap its out.toArray).get? b = some o := fun _ _ => PyProof.Rows.sortedAll_old
  have laid := I.laid (t' := s.toks) old (Nat.le_succ _) (o := .lst ((out.map SrtO.iv).map V.int)) ⟨hlen, out, ep, vals_of_ints k1, he⟩
  exact ⟨.ref _, upd H (s.heap.objs.size + 1) (.lst ((out.map SrtO.iv).map V.int)), laid, rfl, q _ _ k2 k3 (I.hok.fresh (Nat.le_succ _))⟩
/-! ### pairs of tuples of ints -/
abbrev Pk := List Int × List Int
def ltL : List Int → List Int → Bool
  | [], [] => false
  | [], _ :: _ => true
  | _ :: _, [] => false
  | x :: xs, y :: ys => if x = y then ltL xs ys else decide (x < y)
theorem ltL_asym : ∀ xs ys, ltL xs ys = true → ltL ys xs = false
  | [], [], h => by cases h
  | [], _ :: _, _ => rfl
  | _ :: _, [], h => by cases h
  | x :: xs, y :: ys, h => by
    unfold ltL at h ⊢
    by_cases c : x = y
    · rw [if_pos c] at h
      rw [if_pos c.symm]
      exact ltL_asym xs ys h
    · rw [if_neg c] at h
      rw [if_neg fun z => c z.symm]
      have := of_decide_eq_true h
      exact decide_eq_false (by omega)
theorem ltL_tr : ∀ xs ys zs, ltL ys xs = false → ltL zs ys = false → ltL zs xs = false
  | [], _, [], _, _ => rfl
  | [], _, _ :: _, _, _ => rfl
  | _ :: _, [], _, h, _ => by cases h
  | _ :: _, _ :: _, [], _, h => by cases h
  | x :: xs, y :: ys, z :: zs, h1, h2 => by
    unfold ltL at h1 h2 ⊢
    by_cases c : y = x
    · rw [if_pos c] at h1
      by_cases d : z = y
      · rw [if_pos d] at h2
        rw [if_pos (d.trans c)]
        exact ltL_tr xs ys zs h1 h2
      · rw [if_neg d] at h2
        rw [if_neg fun e => d (e.trans c.symm)]
        have := of_decide_eq_false h2
        exact decide_eq_false (by omega)
    · rw [if_neg c] at h1
      have a := of_decide_eq_false h1
      by_cases d : z = y
      · rw [if_neg fun e => c (d.symm.trans e)]
        exact decide_eq_false (by omega)
      · rw [if_neg d] at h2
        have b := of_decide_eq_false h2
        rw [if_neg (by omega)]
        exact decide_eq_false (by omega)
theorem ltL_eq : ∀ xs ys, ltL xs ys = false → ltL ys xs = false → xs = ys
  | [], [], _, _ => rfl
  | [], _ :: _, h, _ => by cases h
  | _ :: _, [], _, h => by cases h
  | x :: xs, y :: ys, h1, h2 => by
    unfold ltL at h1 h2
    by_cases c : x = y
    · rw [if_pos c] at h1
      rw [if_pos c.symm] at h2
      rw [c, ltL_eq xs ys h1 h2]
    · rw [if_neg c] at h1
      rw [if_neg fun z => c z.symm] at h2
      have := of_decide_eq_false h1
      have := of_decide_eq_false h2
      omega
theorem ltL_irr (xs : List Int) : ltL xs xs = false := by
  cases h : ltL xs xs with
  | false => rfl
  | true => rw [ltL_asym xs xs h] at h; cases h
def ltPk (p q : Pk) : Bool := if p.1 = q.1 then ltL p.2 q.2 else ltL p.1 q.1
def lePk (p q : Pk) : Bool := !ltPk q p
theorem ltPk_asym (p q : Pk) (h : ltPk p q = true) : ltPk q p = false := by
  unfold ltPk at h ⊢
  by_cases c : p.1 = q.1
  · rw [if_pos c] at h
    rw [if_pos c.symm]
    exact ltL_asym _ _ h
  · rw [if_neg c] at h
    rw [if_neg fun z => c z.symm]
    exact ltL_asym _ _ h
theorem ltPk_tr (p q r : Pk) (h1 : ltPk q p = false) (h2 : ltPk r q = false) : ltPk r p = false := by
  unfold ltPk at h1 h2 ⊢
  by_cases c : q.1 = p.1
  · rw [if_pos c] at h1
    by_cases d : r.1 = q.1
    · rw [if_pos d] at h2
      rw [if_pos (d.trans c)]
      exact ltL_tr _ _ _ h1 h2
    · rw [if_neg d] at h2
      rw [if_neg fun e => d (e.trans c.symm), ← c]
      exact h2
  · rw [if_neg c] at h1
    by_cases d : r.1 = q.1
    · rw [if_neg fun e => c (d.symm.trans e), d]
      exact h1
    · rw [if_neg d] at h2
      by_cases e : r.1 = p.1
      · rw [e] at h2
        exact absurd (ltL_eq _ _ h1 h2) c
      · rw [if_neg e]
        exact ltL_tr _ _ _ h1 h2
theorem ltPk_eq (p q : Pk) (h1 : ltPk p q = false) (h2 : ltPk q p = false) : p = q := by
  unfold ltPk at h1 h2
  by_cases c : p.1 = q.1
  · rw [if_pos c] at h1
    rw [if_pos c.symm] at h2
    exact Prod.ext c (ltL_eq _ _ h1 h2)
  · rw [if_neg c] at h1
    rw [if_neg fun z => c z.symm] at h2
    exact absurd (ltL_eq _ _ h1 h2) c
/-- a sorted list with the same keys is the one -/
theorem sortPk_of {ks ks' : List Pk} (p : ks'.Perm ks) (o : ks'.Pairwise fun a b => ltPk b a = false) : ks' = ks.mergeSort lePk := by
  refine List.Perm.eq_of_pairwise (le := fun a b : Pk => ltPk b a = false) (fun a b _ _ h1 h2 => ltPk_eq a b h2 h1) o ?_ (p.trans (List.mergeSort_perm _ _).symm)
  have := List.pairwise_mergeSort (le := lePk) (fun a b c h1 h2 => by
    unfold lePk at *
    rw [Bool.not_eq_true'] at *
    exact ltPk_tr a b c h1 h2) (fun a b => by
    unfold lePk
    cases h : ltPk b a with
    | false => rfl
    | true => rw [ltPk_asym _ _ h]; rfl) ks
  exact this.imp fun h => by unfold lePk at h; rwa [Bool.not_eq_true'] at h
theorem lex_lt (ns ms : List Int) : ∀ (k i : Nat), i + k = min ns.length ms.length → Ob.lexAt (fun j => decide (ns.getD j 0 = ms.getD j 0)) (fun j => decide (ns.getD j 0 < ms.getD j 0)) (decide (ns.length < ms.length)) i k = ltL (ns.drop i) (ms.drop i)
  | 0, i, h => by
    rw [Ob.lexAt_zero]
    by_cases c : ns.length ≤ i
    · rw [List.drop_of_length_le c]
      by_cases d : ms.length ≤ i
      · rw [List.drop_of_length_le d, decide_eq_false (by omega)]; rfl
      · rw [List.drop_eq_getElem_cons (by omega), decide_eq_true (by omega)]; rfl
    · rw [List.drop_of_length_le (l := ms) (by omega), List.drop_eq_getElem_cons (by omega), decide_eq_false (by omega)]; rfl
  | k + 1, i, h => by
    have h1 : i < ns.length := by omega
    have h2 : i < ms.length := by omega
    have g1 : ns.getD i 0 = ns[i] := by rw [List.getD_eq_getElem?_getD, List.getElem?_eq_getElem h1]; rfl
    have g2 : ms.getD i 0 = ms[i] := by rw [List.getD_eq_getElem?_getD, List.getElem?_eq_getElem h2]; rfl
    rw [Ob.lexAt_succ, lex_lt ns ms k (i + 1) (by omega), List.drop_eq_getElem_cons h1, List.drop_eq_getElem_cons h2]
    rw [g1, g2]
    show _ = if ns[i] = ms[i] then _ else _
    by_cases c : ns[i] = ms[i]
    · rw [if_pos (decide_eq_true c), if_pos c]
    · rw [if_neg (by rw [decide_eq_false c]; decide), if_neg c]
section
open PyProof.Rows PySem.Spec PySem.SeqAt
variable {A : Around} {s : Shared}
theorem tup_ints {h : Heap} {v : Value} {ns : List Int} (x : TS.TupInts h v ns) : ∃ a its, v = .ref a ∧ h.IsTuple a its ∧ its.size = ns.length ∧ ∀ j (h1 : j < its.size), ∃ t, its[j] = .int (ns.getD j 0) t := by
  obtain ⟨a, its, rfl, hT, i⟩ := x
  refine ⟨a, its, rfl, hT, by rw [← i.length, Array.length_toList], fun j h1 => ?_⟩
  exact PyProof.Rows.IntsAre.int_at i _ _ (by simp [h1])
theorem tup_eqAt {x y : Value} {ns ms : List Int} (hx : TS.TupInts s.heap x ns) (hy : TS.TupInts s.heap y ms) (hu : A.units < cLine) : EqAt A s x y (decide (ns = ms)) := by
  have ix := hx.ints
  have iy := hy.ints
  obtain ⟨a, its, rfl, h1, n1, g1⟩ := tup_ints hx
  obtain ⟨b, its2, rfl, h2, n2, g2⟩ := tup_ints hy
  by_cases c : a = b
  · subst c
    rw [← ix, ← iy, decide_eq_true rfl]
    exact EqAt.same _
  · have R := RcAt.tuples (A := A) (s := s) (e := fun j => ns.getD j 0 == ms.getD j 0) h1 h2 hu fun j j1 j2 => by
      obtain ⟨t, e⟩ := g1 j j1
      obtain ⟨t', e'⟩ := g2 j j2
      rw [e, e']
      exact EqAt.int_int _ _ _ _
    have ev : ((List.range (min its.size its2.size)).all (fun j => ns.getD j 0 == ms.getD j 0) && its.size == its2.size) = decide (ns = ms) := by
      rw [n1, n2, Bool.eq_iff_iff, Bool.and_eq_true, List.all_eq_true, decide_eq_true_iff, beq_iff_eq]
      constructor
      · rintro ⟨p, q⟩
        refine List.ext_getElem q fun j j1 j2 => ?_
        have := p j (List.mem_range.mpr (by omega))
        rw [beq_iff_eq, List.getD_eq_getElem?_getD, List.getD_eq_getElem?_getD, List.getElem?_eq_getElem j1, List.getElem?_eq_getElem j2] at this
        exact this
      · rintro rfl
        exact ⟨fun j _ => beq_self_eq_true _, rfl⟩
    rw [ev] at R
    exact EqAt.of_refs c R
theorem tup_lt {x y : Value} {ns ms : List Int} (hx : TS.TupInts s.heap x ns) (hy : TS.TupInts s.heap y ms) (hu : A.units < cLine) : Ob.RcOp .Lt A s x y (ltL ns ms) := by
  obtain ⟨a, its, rfl, h1, n1, g1⟩ := tup_ints hx
  obtain ⟨b, its2, rfl, h2, n2, g2⟩ := tup_ints hy
  have R := Ob.RcOp.tuples_lt (A := A) (s := s) (e := fun j => decide (ns.getD j 0 = ms.getD j 0)) (r := fun j => decide (ns.getD j 0 < ms.getD j 0)) h1 h2 hu (fun j j1 j2 => by
    obtain ⟨t, e⟩ := g1 j j1
    obtain ⟨t', e'⟩ := g2 j j2
    rw [e, e']
    have z : (ns.getD j 0 == ms.getD j 0) = decide (ns.getD j 0 = ms.getD j 0) := by
      by_cases q : ns.getD j 0 = ms.getD j 0
      · rw [decide_eq_true q]; exact beq_iff_eq.mpr q
      · rw [decide_eq_false q]; exact beq_eq_false_iff_ne.mpr q
    rw [← z]
    exact EqAt.int_int _ _ _ _) (fun j j1 j2 _ => by
    obtain ⟨t, e⟩ := g1 j j1
    obtain ⟨t', e'⟩ := g2 j j2
    rw [e, e']
    exact Ob.RcOp.lt_int _ _ _ _)
  rw [n1, n2, lex_lt ns ms _ 0 (by omega), List.drop_zero, List.drop_zero] at R
  exact R
/-- a pair of tuples of ints -/
def IsPk (h : Heap) (v : Value) (k : Pk) : Prop := ∃ a o n x y, v = .ref a ∧ h.get? a = some o ∧ o.cls = .type "tuple" ∧ o.data = .seq #[x, y] n ∧ TS.TupInts h x k.1 ∧ TS.TupInts h y k.2
def pkAt (h : Heap) (v : Value) : Pk := match v with
  | .ref a => match h.get? a with
    | some o => match o.data with
      | .seq xs _ => (TS.intsOf h (xs.toList.getD 0 .none), TS.intsOf h (xs.toList.getD 1 .none))
      | _ => ([], [])
    | none => ([], [])
  | _ => ([], [])
theorem IsPk.at {h : Heap} {v : Value} {k : Pk} (x : IsPk h v k) : pkAt h v = k := by
  obtain ⟨a, o, n, u, w, rfl, ho, hc, hd, h1, h2⟩ := x
  unfold pkAt
  simp only [ho, hd]
  show (TS.intsOf h u, TS.intsOf h w) = k
  rw [h1.ints, h2.ints]
theorem IsPk.keeps {h h' : Heap} {v : Value} {k : Pk} (x : IsPk h v k) (q : ∀ b o, h.get? b = some o → o.cls = .type "tuple" → h'.get? b = some o) : IsPk h' v k := by
  obtain ⟨a, o, n, u, w, rfl, ho, hc, hd, h1, h2⟩ := x
  exact ⟨a, o, n, u, w, rfl, q _ _ ho hc, hc, hd, h1.keeps q, h2.keeps q⟩
variable {prog : Program} {w : World} {E : Value → Shared → Prop}
theorem pk_swo (k : Value → Pk) : SrtO.Swo fun v u => ltPk (k v) (k u) := ⟨fun x y h => ltPk_asym _ _ h, fun x y z h1 h2 => ltPk_tr _ _ _ h1 h2⟩
theorem pk_cmp {vs : List Value} {k : Value → Pk} (hu : A.units < cLine) (hp : ∀ v ∈ vs, IsPk s.heap v (k v)) : SrtO.Cmp prog w A s (tuples' false) (fun p => p.1 ∈ vs) (SrtO.lt2 fun v u => ltPk (k v) (k u)) := by
  intro p q hm hm'
  have h1 := hp _ hm
  have h2 := hp _ hm'
  show wpAny (model prog w) A (keyLt' (tuples' false) p.1 q.1) (fun r s' => s' = s ∧ r = ltPk (k p.1) (k q.1)) (fun _ _ => False) s
  generalize k p.1 = kp at h1 ⊢
  generalize k q.1 = kq at h2 ⊢
  obtain ⟨a, o, n, x, y, e, ho, hc, hd, x1, y1⟩ := h1
  obtain ⟨a', o', n', x', y', e', ho', hc', hd', x2, y2⟩ := h2
  rw [e, e']
  unfold ltPk
  refine PySem.W.kat_lt ho hd ho' hd' ?_
  show PySem.W.KatLex prog w A false (decide (2 < 2)) _ [(x, x'), (y, y')] 0 s
  refine PySem.W.kat_cons (tup_eqAt x1 x2 hu prog w _ _ ?_)
  refine PySem.W.kat_go (fun e1 => ?_) (fun e1 => ?_)
  · have e1 := of_decide_eq_true e1
    rw [if_pos e1]
    refine PySem.W.kat_yes (PySem.W.kat_cons (tup_eqAt y1 y2 hu prog w _ _ ?_))
    refine PySem.W.kat_go (fun e2 => ?_) (fun e2 => ?_)
    · have e2 := of_decide_eq_true e2
      rw [e2, ltL_irr]
      exact PySem.W.kat_yes (PySem.W.kat_nil ⟨rfl, rfl⟩)
    · exact PySem.W.kat_no (PySem.W.kat_one _ _ (tup_lt y1 y2 hu prog w _ _ ⟨rfl, rfl⟩))
  · have e1 := of_decide_eq_false e1
    rw [if_neg e1]
    exact PySem.W.kat_no (PySem.W.kat_one _ _ (tup_lt x1 x2 hu prog w _ _ ⟨rfl, rfl⟩))
theorem pk_firsts {h : Heap} : ∀ vs : List Value, (∀ v ∈ vs, ∃ k, IsPk h v k) → ∃ fs, PySem.W.KatTups h vs fs ∧ fs.length = vs.length ∧ ∀ f ∈ fs, ∃ b ob, f = Value.ref b ∧ h.get? b = some ob ∧ ob.cls = .type "tuple"
  | [], _ => ⟨[], PySem.W.KatTups.nil, rfl, fun f hf => by simp at hf⟩
  | v :: vs, x => by
    obtain ⟨fs, k, hl, hi⟩ := pk_firsts vs fun u hu => x u (List.mem_cons_of_mem _ hu)
    obtain ⟨kk, a, o, n, u, w, rfl, ho, hc, hd, ⟨b, its, eu, ⟨ob, hb, hbc, _⟩, _⟩, _⟩ := x v List.mem_cons_self
    refine ⟨u :: fs, PySem.W.KatTups.cons ho hc hd rfl k, by simp [hl], fun f hf => ?_⟩
    rcases List.mem_cons.mp hf with rfl | hf
    · exact ⟨b, ob, eu, hb, hbc⟩
    · exact hi f hf
theorem pk_sortable {a : Addr} {vs : List Value} {k : Value → Pk} (hu : A.units < cLine) (h0 : 0 < vs.length) (hp : ∀ v ∈ vs, IsPk s.heap v (k v)) (ha : ∀ o, s.heap.get? a = some o → o.cls ≠ .type "tuple") : SrtO.SortableO prog w A s a vs fun v u => ltPk (k v) (k u) := by
  intro h' keep
  have hp' : ∀ v ∈ vs, IsPk h' v (k v) := fun v hm => (hp v hm).keeps fun b o e c => keep b o (fun z => by subst z; exact ha o e c) e
  obtain ⟨fs, h1, h2, h3⟩ := pk_firsts vs fun v hm => ⟨_, hp' v hm⟩
  refine ⟨tuples' false, fun Q E hq => ?_, pk_cmp hu hp'⟩
  refine PySem.W.kat_kind (T := .type "tuple") h1 (by omega) (fun f hm => ?_) (by rfl) ?_
  · obtain ⟨b, ob, rfl, hb, hc⟩ := h3 f hm
    rw [← hc]
    exact (PySem.W.Looks.ld hb).andThen .now
  · have e : (Value.type "tuple" != Value.type "tuple") = false := by first | decide +kernel | rfl | decide
    rw [e]
    exact hq
end
section
open PyProof.Rows PySem.Spec
/-- the value is a pair of tuples of ints -/
def PkV (K : PySem.W.Frag) (H : Hp) (x : V) (k : Pk) : Prop := ∃ t a b, x = .ref t ∧ SqT K H t [V.ref a, V.ref b] ∧ SqT K H a (k.1.map V.int) ∧ SqT K H b (k.2.map V.int)
/-- sorted(xs), xs a list of pairs of tuples of ints -/
def rSortedQ (K : PySem.W.Frag) : List V → Hp → VK → Prop := fun vs H Q => ∃ (a : Addr) (zs : List (V × Pk)), vs = [V.ref a] ∧ SqL K H a (zs.map (·.1)) ∧ (∀ z ∈ zs, PkV K H z.1 z.2) ∧
  ∀ (zs' : List (V × Pk)) (p : Addr), zs'.Perm zs → zs'.Pairwise (fun x y => ltPk y.2 x.2 = false) → H p = none → Q (.ref p) (upd H p (.lst (zs'.map (·.1))))
theorem pk_raw {X : Cx} {pins : List (Addr × Obj)} {σ : L2.St} {H : Hp} {s : Shared} (I : Inv X pins σ H s) {x : V} {k : Pk} (h : PkV X.K H x k) : ∃ t, x = .ref t ∧ IsPk s.heap (.ref t) k := by
  obtain ⟨t, a, b, rfl, h1, h2, h3⟩ := h
  obtain ⟨its, rv, ⟨o, ho, hc, n, hd⟩, _⟩ := I.tuple h1
  obtain ⟨u1, u2, rfl, r1, r2⟩ := vals2 rv
  cases r1
  cases r2
  exact ⟨t, rfl, t, o, n, _, _, rfl, ho, hc, hd, tupI_raw I h2, tupI_raw I h3⟩
theorem pk_back {h : Heap} : ∀ {zs : List (V × Pk)} {us : List Value}, Vals (zs.map (·.1)) us → (∀ z ∈ zs, ∃ t, z.1 = V.ref t ∧ IsPk h (.ref t) z.2) → us.map (fun v => (bkV v, pkAt h v)) = zs ∧ (∀ u ∈ us, ∃ a, u = Value.ref a) ∧ ∀ u ∈ us, IsPk h u (pkAt h u)
  | [], _, .nil, _ => ⟨rfl, fun u hu => absurd hu (by simp), fun u hu => absurd hu (by simp)⟩
  | z :: zs, u :: us, .cons r t, q => by
    obtain ⟨a, e, p⟩ := q z List.mem_cons_self
    obtain ⟨h1, h2, h3⟩ := pk_back t fun y hy => q y (List.mem_cons_of_mem _ hy)
    have r : RelV z.1 u := r
    rw [e] at r
    cases r
    have pa := p.at
    refine ⟨?_, fun u hu => ?_, fun u hu => ?_⟩
    · rw [List.map_cons, h1, pa]
      congr 1
      exact Prod.ext e.symm rfl
    · rcases List.mem_cons.mp hu with rfl | hu
      · exact ⟨a, rfl⟩
      · exact h2 u hu
    · rcases List.mem_cons.mp hu with rfl | hu
      · rw [pa]; exact p
      · exact h3 u hu
theorem cr_sortedQ {X : Cx} (hu : X.A.units + 65 < cLine) : CallR X (.builtin "sorted") (rSortedQ X.K) := by
  intro pins s σ H vs us Q I r h
  obtain ⟨a, zs, rfl, hs, hz, q⟩ := h
  obtain ⟨its, rv, hl, hzl⟩ := I.list hs
  rw [Vals.ref1 r]
  obtain ⟨e1, e2, e3⟩ := pk_back (h := s.heap) rv fun z hm => pk_raw I (hz z hm)
  refine SrtO.sorted_ord (pk_swo (pkAt s.heap)) hl.isList (by rw [← rv.length]; exact hzl) (fun h2 h₁ a' ha kk => ?_) fun out h1 h2 => ?_
  · refine pk_sortable (s := { s with heap := h₁ }) (by show X.A.units + 1 + 1 < cLine; omega) (by omega) (fun v hm => (e3 v hm).keeps fun b o e _ => (kk b o e).2) fun o e => ?_
    have e' : some o = some (seqObj "list" its.toArray.toList.toArray 0) := e.symm.trans (by simpa using ha)
    cases e'
    intro c
    exact absurd (Value.type.inj c) (by decide)
  · obtain ⟨ep, he⟩ := PyProof.Rows.sortedAll_at s.heap its out.toArray
    have pm := h2.perm
    have h3 : ∀ u ∈ out, ∃ a, u = Value.ref a := fun u hm => e2 u (pm.mem_iff.mp hm)
    have p2 : (out.map fun v => (bkV v, pkAt s.heap v)).Perm zs := by
      rw [← e1]
      exact pm.map _
    have ef : (out.map fun v => (bkV v, pkAt s.heap v)).map (·.1) = out.map bkV := by rw [List.map_map]; rfl
    have hlen : (out.map bkV).length ≤ sizeLine := by
      rw [List.length_map, pm.length_eq, ← rv.length]
      exact hzl
    have hq := q _ (s.heap.objs.size + 1) p2 (by rw [List.pairwise_map]; exact h1) (I.hok.fresh (Nat.le_succ _))
    rw [ef] at hq
    exact ⟨.ref _, upd H (s.heap.objs.size + 1) (.lst (out.map bkV)), I.laid (t' := s.toks) (fun _ _ => PyProof.Rows.sortedAll_old) (Nat.le_succ _) ⟨hlen, out, ep, bkV_vals h3, he⟩, rfl, hq⟩
end
def prD (k : Pk) : D := .tup [.tup (k.1.map .int), .tup (k.2.map .int)]
def prOf : D → Option Pk
  | .tup [.tup a, .tup b] => match intsD a with
    | some x => match intsD b with
      | some y => some (x, y)
      | none => none
    | none => none
  | _ => none
def prsD : List D → Option (List Pk)
  | [] => some []
  | d :: ds => match prOf d with
    | some k => match prsD ds with
      | some ks => some (k :: ks)
      | none => none
    | none => none
def gSorted2 : List D → R (D × Bool)
  | [.lst xs] => match intsD xs with
    | some ns => .ok (.lst ((sortI ns).map D.int), true)
    | none => match prsD xs with
      | some ks => .ok (.lst ((ks.mergeSort lePk).map prD), true)
      | none => .bad
  | [.tup xs] => match intsD xs with
    | some ns => .ok (.lst ((sortI ns).map D.int), true)
    | none => .bad
  | _ => .bad
theorem gsorted2_i {xs : List D} {ns : List Int} (h : intsD xs = some ns) : gSorted2 [.lst xs] = .ok (.lst ((sortI ns).map D.int), true) := by
  show (match intsD xs with
    | some ns => R.ok (D.lst ((sortI ns).map D.int), true)
    | none => match prsD xs with
      | some ks => .ok (.lst ((ks.mergeSort lePk).map prD), true)
      | none => .bad) = _
  rw [h]
theorem intsD_eq : ∀ {xs : List D} {ns : List Int}, intsD xs = some ns → xs = ns.map .int
  | [], ns, h => by cases h; rfl
  | x :: xs, ns, h => by
    cases x with
    | int i =>
      have h' : (intsD xs).map (i :: ·) = some ns := h
      cases q : intsD xs with
      | none => rw [q] at h'; cases h'
      | some ms =>
        rw [q] at h'
        cases h'
        rw [intsD_eq q]; rfl
    | _ => cases h
section
variable {K : PySem.W.Frag} {F : Addr → Prop} {H : Hp}
theorem pk_rep {d : D} {k : Pk} {v : V} (r : Rep K F H d v) (e : prOf d = some k) : PkV K H v k ∧ d = prD k := by
  unfold prOf at e
  split at e
  · rename_i a b
    split at e
    · rename_i x hx
      split at e
      · rename_i y hy
        cases e
        obtain ⟨t, us, rfl, q, rs⟩ := RepE.tup (.inl r)
        obtain ⟨v1, us1, rfl, r1, rs⟩ := rs
        obtain ⟨v2, us2, rfl, r2, rs⟩ := rs
        cases rs
        obtain ⟨a1, w1, rfl, q1, s1⟩ := RepE.tup (.inl r1)
        obtain ⟨a2, w2, rfl, q2, s2⟩ := RepE.tup (.inl r2)
        have e1 := intsD_V s1 hx
        have e2 := intsD_V s2 hy
        subst e1 e2
        refine ⟨⟨t, a1, a2, rfl, SqT.of q, SqT.of q1, SqT.of q2⟩, ?_⟩
        unfold prD
        rw [intsD_eq hx, intsD_eq hy]
      · cases e
    · cases e
  · cases e
theorem pk_reps : ∀ {ds : List D} {vs : List V} {ks : List Pk}, Reps K F H ds vs → prsD ds = some ks → ∃ zs : List (V × Pk), zs.map (·.1) = vs ∧ zs.map (·.2) = ks ∧ ∀ z ∈ zs, PkV K H z.1 z.2 ∧ Rep K F H (prD z.2) z.1
  | [], vs, ks, r, h => by
    cases h
    exact ⟨[], r.symm, rfl, fun z hz => by cases hz⟩
  | d :: ds, vs, ks, r, h => by
    obtain ⟨v, vs', rfl, r1, rs⟩ := r
    unfold prsD at h
    split at h
    · rename_i k hk
      split at h
      · rename_i ks' hks
        cases h
        obtain ⟨zs, e1, e2, h3⟩ := pk_reps rs hks
        obtain ⟨p1, p2⟩ := pk_rep r1 hk
        refine ⟨(v, k) :: zs, by rw [List.map_cons, e1], by rw [List.map_cons, e2], fun z hz => ?_⟩
        rcases List.mem_cons.mp hz with rfl | hz
        · exact ⟨p1, by rw [p2] at r1; exact r1⟩
        · exact h3 z hz
      · cases h
    · cases h
theorem reps_pk : ∀ {zs : List (V × Pk)}, (∀ z ∈ zs, Rep K F H (prD z.2) z.1) → Reps K F H ((zs.map (·.2)).map prD) (zs.map (·.1))
  | [], _ => rfl
  | z :: zs, h => ⟨_, _, rfl, h z List.mem_cons_self, reps_pk fun x hx => h x (List.mem_cons_of_mem _ hx)⟩
end
theorem callS_sorted2 {K : PySem.W.Frag} : CallS K (fun vs H Q => (rSortedI K vs H Q ∨ rSortedA K vs H Q) ∨ rSortedQ K vs H Q) gSorted2 := by
  intro F H vs ds Q hF hr w
  unfold gSorted2 at w
  split at w
  · rename_i xs
    split at w
    · rename_i ns hn
      refine .inl (.inl (callS_sorted F H vs _ Q hF hr ?_))
      show WV K F H Q (match intsD xs with
        | some ns => .ok (.lst ((sortI ns).map D.int), true)
        | none => .bad)
      rw [hn]
      exact w
    · split at w
      · rename_i ks hk
        obtain ⟨v, e, h⟩ := hr.one
        obtain ⟨a, us, e2, q, r⟩ := h.lst
        obtain ⟨zs, z1, z2, z3⟩ := pk_reps r hk
        refine .inr ⟨a, zs, by rw [e, e2], by rw [z1]; exact SqL.of q, fun z hz => (z3 z hz).1, fun zs' p pm pw n => ?_⟩
        have ek : zs'.map (·.2) = ks.mergeSort lePk := sortPk_of (by rw [← z2]; exact pm.map _) (by rw [List.pairwise_map]; exact pw)
        rw [← ek] at w
        exact w _ _ (same_upd n) (PF.newL hF (Same.refl _) n (reps_pk fun z hz => (z3 z (pm.mem_iff.mp hz)).2))
      · exact w.elim
  · split at w
    · rename_i ns hn
      obtain ⟨v, e, h⟩ := hr.one
      obtain ⟨a, us, e2, q, r⟩ := h.tup
      have eu := intsD_V r hn
      subst eu
      refine .inl (.inr ⟨a, ns, by rw [e, e2], SqT.of q, fun ns' p h1 h2 n => ?_⟩)
      rw [sortI_of h1 h2]
      exact w _ _ (same_upd n) (PF.newL hF (Same.refl _) n (reps_ints _))
    · exact w.elim
  · exact w.elim
theorem pl_sorted2 : PlainN gSorted2 := by
  intro ds c fs h
  unfold gSorted2 at h
  repeat' split at h
  all_goals cases h
end VM
/-! VMc: a written dict of texts; xs[::-1]. -/
namespace VM
open PySem L2
/-! ### a written dict -/
def entTab (e : DictEntry) : Option (Str × Str) := match e.key, e.val with
  | .str x _, .str y _ => some (x, y)
  | _, _ => none
def KdAt (K : PySem.W.Frag) (w : World) (mg : Str → Option Value) (x : Str) (t : List (Str × Str)) : Prop := ∃ (a : Addr) (es : Array DictEntry) (n : Nat), mg x = some (.ref a) ∧ KDict K w a es n ∧ es.toList.map entTab = t.map some
theorem kd_find {z : Str} : ∀ {l : List DictEntry} {t : List (Str × Str)}, l.map entTab = t.map some → (match t.lookup z with
    | some y => ∃ e tk, l.find? (·.key.isStr z) = some e ∧ e.val = .str y tk
    | none => l.find? (·.key.isStr z) = none) ∧ l.any (·.refKey) = false
  | [], [], _ => ⟨rfl, rfl⟩
  | [], _ :: _, h => by cases h
  | _ :: _, [], h => by cases h
  | e :: l, q :: t, h => by
    rw [List.map_cons, List.map_cons] at h
    injection h with h1 h2
    obtain ⟨i1, i2⟩ := kd_find (z := z) h2
    unfold entTab at h1
    split at h1
    · rename_i x tx y ty ex ey
      have h3 := Option.some.inj h1
      subst h3
      have ek : e.key.isStr z = (x == z) := by rw [ex]; rfl
      have er : e.refKey = false := by unfold DictEntry.refKey; rw [ex]
      refine ⟨?_, by rw [List.any_cons, er, i2]; rfl⟩
      rw [List.lookup_cons, List.find?_cons, ek]
      by_cases hb : x = z
      · have h5 : (z == x) = true := by rw [hb]; exact beq_self_eq_true z
        have h6 : (x == z) = true := by rw [hb]; exact beq_self_eq_true z
        rw [h5, h6]
        exact ⟨e, ty, rfl, ey⟩
      · have h5 : (z == x) = false := beq_eq_false_iff_ne.mpr fun q => hb q.symm
        have h6 : (x == z) = false := beq_eq_false_iff_ne.mpr hb
        rw [h5, h6]
        exact i1
    · cases h1
theorem kd_look {K : PySem.W.Frag} {w : World} {a : Addr} {es : Array DictEntry} {n : Nat} {t : List (Str × Str)} (k : KDict K w a es n) (h : es.toList.map entTab = t.map some) (z : Str) : match t.lookup z with
    | some y => ∃ tk, PySem.W.nsIn K a z = some (some (.str y tk))
    | none => PySem.W.nsIn K a z = some none := by
  obtain ⟨h1, h2⟩ := kd_find (z := z) h
  have e : PySem.W.nsIn K a z = (match es.toList.find? (·.key.isStr z) with
    | some e => some (some e.val)
    | none => if es.toList.any (·.refKey) then none else some none) := by unfold PySem.W.nsIn; simp only [k.at_]; rfl
  rw [e]
  cases hl : t.lookup z with
  | some y =>
    rw [hl] at h1
    obtain ⟨e, tk, h3, h4⟩ := h1
    exact ⟨tk, by simp only [h3, h4]⟩
  | none =>
    rw [hl] at h1
    have h3 : es.toList.find? (·.key.isStr z) = none := h1
    simp only [h3, h2]
    rfl
def kIn (neg : Bool) (t : List (Str × Str)) : D → R (D × Bool)
  | .str z => .ok (.bl (if neg then !(t.lookup z).isSome else (t.lookup z).isSome), false)
  | _ => .bad
def kIx (t : List (Str × Str)) : D → R (D × Bool)
  | .str z => match t.lookup z with
    | some y => .ok (.str y, false)
    | none => .bad
  | _ => .bad
def bKIn (neg : Bool) (t : List (Str × Str)) (fa : Rho → R (D × Bool)) : Rho → R (D × Bool) := fun ρ => do let p ← fa ρ; kIn neg t p.1
def bKIx (t : List (Str × Str)) (fa : Rho → R (D × Bool)) : Rho → R (D × Bool) := fun ρ => do let p ← fa ρ; kIx t p.1
section
variable {X : Cx} {W : WX} {a : Expr} {fa : Rho → R (D × Bool)} {x : Str} {p pos : Pos} {t : List (Str × Str)}
theorem sem_kin (k : KdAt X.K X.w X.mg x t) (hg : Gl X x) (hd : (x == ("__debug__" : Str)) = false) (ha : SA X W a fa) : ∃ (r : R2) (te tb : TE), OpR X (compareOp .In) r ∧ PE X a te ∧ PE X (.Name x p) tb ∧ SemF X W (tOp r te tb) (bKIn false t fa) := by
  obtain ⟨d, es, n, hm, kd, ht⟩ := k
  obtain ⟨ta, pa, ha⟩ := ha.ex
  refine ⟨_, _, _, op_in_kd kd, pa, pe_glob (v := .ref d) hg hm rfl hd, fun S0 H0 ρ σ H Q r w => ?_⟩
  refine ha S0 H0 ρ σ H _ r (Want.bind w fun q v H1 s pa w1 => ?_)
  have pe := pa.e
  generalize q.1 = d1 at pe w1
  unfold kIn at w1
  split at w1
  · rename_i z
    have lk := kd_look kd ht z
    cases hl : t.lookup z with
    | some y =>
      rw [hl] at lk w1
      obtain ⟨tk, e⟩ := lk
      exact ⟨z, _, pe.str, rfl, e, w1 _ _ (Same.refl _) (PF.of rfl)⟩
    | none =>
      rw [hl] at lk w1
      exact ⟨z, _, pe.str, rfl, lk, w1 _ _ (Same.refl _) (PF.of rfl)⟩
  · exact w1.elim
theorem sf_kin (k : KdAt X.K X.w X.mg x t) (hg : Gl X x) (hd : (x == ("__debug__" : Str)) = false) (ha : SA X W a fa) : SF X W (.Compare a [.In] [.Name x p] pos) (bKIn false t fa) := by
  obtain ⟨r, te, tb, o, pa, pb, sm⟩ := sem_kin (p := p) k hg hd ha
  exact ⟨rfl, _, pe_cmpR o pa pb rfl, sm⟩
theorem st_kin (k : KdAt X.K X.w X.mg x t) (hg : Gl X x) (hd : (x == ("__debug__" : Str)) = false) (ha : SA X W a fa) : ST X W (.Compare a [.In] [.Name x p] pos) (bT (bKIn false t fa)) := by
  obtain ⟨r, te, tb, o, pa, pb, sm⟩ := sem_kin (p := p) k hg hd ha
  exact tst_of sm (pt_cmpR o pa pb rfl)
theorem sem_knin (k : KdAt X.K X.w X.mg x t) (hg : Gl X x) (hd : (x == ("__debug__" : Str)) = false) (ha : SA X W a fa) : ∃ (r : R2) (te tb : TE), OpR X (compareOp .NotIn) r ∧ PE X a te ∧ PE X (.Name x p) tb ∧ SemF X W (tOp r te tb) (bKIn true t fa) := by
  obtain ⟨d, es, n, hm, kd, ht⟩ := k
  obtain ⟨ta, pa, ha⟩ := ha.ex
  refine ⟨_, _, _, op_notIn_kd kd, pa, pe_glob (v := .ref d) hg hm rfl hd, fun S0 H0 ρ σ H Q r w => ?_⟩
  refine ha S0 H0 ρ σ H _ r (Want.bind w fun q v H1 s pa w1 => ?_)
  have pe := pa.e
  generalize q.1 = d1 at pe w1
  unfold kIn at w1
  split at w1
  · rename_i z
    have lk := kd_look kd ht z
    cases hl : t.lookup z with
    | some y =>
      rw [hl] at lk w1
      obtain ⟨tk, e⟩ := lk
      exact ⟨z, _, pe.str, rfl, e, w1 _ _ (Same.refl _) (PF.of rfl)⟩
    | none =>
      rw [hl] at lk w1
      exact ⟨z, _, pe.str, rfl, lk, w1 _ _ (Same.refl _) (PF.of rfl)⟩
  · exact w1.elim
theorem sf_knin (k : KdAt X.K X.w X.mg x t) (hg : Gl X x) (hd : (x == ("__debug__" : Str)) = false) (ha : SA X W a fa) : SF X W (.Compare a [.NotIn] [.Name x p] pos) (bKIn true t fa) := by
  obtain ⟨r, te, tb, o, pa, pb, sm⟩ := sem_knin (p := p) k hg hd ha
  exact ⟨rfl, _, pe_cmpR o pa pb rfl, sm⟩
theorem st_knin (k : KdAt X.K X.w X.mg x t) (hg : Gl X x) (hd : (x == ("__debug__" : Str)) = false) (ha : SA X W a fa) : ST X W (.Compare a [.NotIn] [.Name x p] pos) (bT (bKIn true t fa)) := by
  obtain ⟨r, te, tb, o, pa, pb, sm⟩ := sem_knin (p := p) k hg hd ha
  exact tst_of sm (pt_cmpR o pa pb rfl)
theorem sf_kix (k : KdAt X.K X.w X.mg x t) (hg : Gl X x) (hd : (x == ("__debug__" : Str)) = false) (ha : SA X W a fa) (hs : PlainIx a) : SF X W (.Subscript (.Name x p) a pos) (bKIx t fa) := by
  obtain ⟨d, es, n, hm, kd, ht⟩ := k
  obtain ⟨ta, pa, ha⟩ := ha.ex
  refine ⟨rfl, _, pe_ix ix_kdict (pe_glob (v := .ref d) hg hm rfl hd) pa hs, fun S0 H0 ρ σ H Q r w => ?_⟩
  refine ha S0 H0 ρ σ H _ r (Want.bind w fun q v H1 s pa w1 => ?_)
  have pe := pa.e
  generalize q.1 = d1 at pe w1
  unfold kIx at w1
  split at w1
  · rename_i z
    have lk := kd_look kd ht z
    cases hl : t.lookup z with
    | some y =>
      rw [hl] at lk w1
      obtain ⟨tk, e⟩ := lk
      exact ⟨d, z, .str y, rfl, pe.str, ⟨es, n, _, kd.at_, kd.lit, e, ⟨tk, rfl⟩⟩, w1 _ _ (Same.refl _) (PF.of rfl)⟩
    | none =>
      rw [hl] at w1
      exact w1.elim
  · exact w1.elim
end
/-! ### xs[::-1] -/
def gRevL : D → R (D × Bool)
  | .lst ds => .ok (.lst ds.reverse, true)
  | _ => .bad
def bRevL (fe : Rho → R (D × Bool)) : Rho → R (D × Bool) := fun ρ => do let p ← fe ρ; gRevL p.1
section
variable {X : Cx} {W : WX} {e : Expr} {fe : Rho → R (D × Bool)} {k : Nat} {p1 p2 p3 pos : Pos}
theorem sf_revL (he : SA X W e fe) : SF X W (.Subscript e (.Slice none none (some (.UnaryOp .USub (.Constant (.int 1) k p1) p2)) p3) pos) (bRevL fe) := by
  obtain ⟨t, q, h⟩ := he.ex
  refine ⟨rfl, _, pe_revL q, fun S0 H0 ρ σ H Q r w => ?_⟩
  refine h S0 H0 ρ σ H _ r (Want.bind w fun z v H1 s pa w1 => ?_)
  have pe := pa.e
  generalize z.1 = d at pe w1
  unfold gRevL at w1
  split at w1
  · obtain ⟨a, vs, ev, hh, rs⟩ := pe.lst
    refine ⟨a, vs, ev, SqL.of hh, fun p n => w1 _ _ (same_upd n) ?_⟩
    exact PF.later s (PF.newL (fun a z => (r.same s).fbH z) (Same.refl _) n rs.rev)
  · exact w1.elim
end
end VM
/-! VMd: list(reversed(a list)). -/
namespace VM
open PySem PySem.Spec PySem.Calls PyProof.Rows L2
section
variable {prog : Program} {w : World} {A : Around} {E : Value → Shared → Prop} {s : Shared}
theorem ext_rev {R : Result → Shared → Prop} {it l S : Addr} {items : Array Value} {res : Value} {c₀ : Nat} (hh : A.handled = none) (hit : s.heap.IsRevIter it l ((items.size : Int) - 1)) (hl : s.heap.IsList l items) (hne : l ≠ it) (hn : items.size ≤ sizeLine)
    (hS : s.heap.get? S = some { cls := .type "list", data := .seq #[] c₀ }) (hSi : S ≠ it) (hSl : S ≠ l)
    (hR : ∀ (h' : Heap) (tk : Nat) (acc : Array Value) (c' : Nat), (∀ b o, b ≠ S → b ≠ it → s.heap.get? b = some o → h'.get? b = some o) → h'.get? S = some { cls := .type "list", dict := none, data := .seq acc c', slots := #[] } →
      ItemsOf (fun i v => items[items.size - 1 - i]? = some v) acc items.size → R (.ok (.ret res)) { s with heap := h', toks := tk }) :
    wpAny (model prog w) A.in1 (Builtin.List.listExtendWith (.ref S) (.ref it) res) (fun fin s' => match fin with | .done f => R (.ok f) s' | .again c' => c'.quiet = true ∧ codeAny (model prog w) A c' R s') (fun e s' => R (.error e) s') s := by
  have W := (Walks.listRev (prog := prog) (w := w) (A := A.in1) hh it l hne items).toS
  have hSf : S ∉ [it, l] := by
    simp only [List.mem_cons, List.not_mem_nil, or_false, not_or]; exact ⟨hSi, hSl⟩
  have hT : s.TypeIs (.ref it) "list_reverseiterator" := hit.typeIs
  have h1 : Builtin.List.listSameRef (.ref S) (.ref it) = false := by simp [Builtin.List.listSameRef, hSi]
  unfold Builtin.List.listExtendWith; refine wpAny_bind (wpAny_typeOf hT ?_)
  rw [if_neg (by rw [h1]; decide)]; refine wpAny_bind (wpAny_pyIter_revIter (s := s) hit ?_)
  refine wpAny_bind (wpAny_holding ?_); unfold Builtin.List.listLengthHint
  refine wpAny_bind (wpAny_specialOf hT RT.nolen_lri ?_)
  show wpAny _ A.in1 (specialOf (Value.ref it) (Str.ofString "__length_hint__") >>= _) _ _ s
  refine wpAny_bind (wpAny_specialOf hT RT.hint_lri ?_)
  generalize hid : ("list_reverseiterator.__length_hint__" : String) = id0; wp_delta
  rw [show splitId id0 = some ("list_reverseiterator", "__length_hint__") from by subst hid; decide +kernel]; subst hid
  refine wpAny_bind (wpAny_isInstance (b := true) hT (by rw [isSubtype_type]; kernel_rfl) ?_); refine wpAny_pure ?_
  rw [if_neg (by decide)]
  have e0 : ((items.size : Nat) : Int) - 1 - ((0 : Nat) : Int) = (items.size : Int) - 1 := by omega
  refine wpAny_pure ⟨plainId_quiet F.plain_extend_loop _, codeAny_extend_loopS W hn S hSf res items.size 0 _ _ _ rfl (Nat.zero_le _) ⟨Nat.zero_le _, by rw [e0]; exact hit, hl⟩ hS (ItemsOf.nil _) fun s' acc' c' hm hS' hacc => ?_⟩
  rw [Moved.eq_with hm]
  refine hR s'.heap s'.toks acc' c' (fun b o hb hb2 e => hm.heap b o (fun hmem => ?_) e) hS' hacc
  rcases List.mem_cons.mp hmem with e' | hmem
  · exact hb e'
  · exact hb2 (List.mem_singleton.mp hmem)
theorem call_list_rev {Q : Value → Shared → Prop} {it l : Addr} {items : Array Value} (hh : A.handled = none) (hit : s.heap.IsRevIter it l ((items.size : Int) - 1)) (hl : s.heap.IsList l items) (hne : l ≠ it) (hn : items.size ≤ sizeLine)
    (hQ : ∀ (h' : Heap) (tk : Nat) (acc : Array Value) (c' : Nat), (∀ b o, b ≠ it → s.heap.get? b = some o → h'.get? b = some o) → h'.get? s.heap.objs.size = some { cls := .type "list", dict := none, data := .seq acc c', slots := #[] } →
      ItemsOf (fun i v => items[items.size - 1 - i]? = some v) acc items.size → Q (.ref s.heap.objs.size) { s with heap := h', toks := tk }) :
    wpAny (model prog w) A (call (.type "list") [.ref it]) Q E s := by
  obtain ⟨oi, hoi, _⟩ := id hit
  obtain ⟨ol, hol, _⟩ := id hl
  refine callType_codes (Q₁ := fun obj s₁ => obj = .ref s.heap.objs.size ∧ s₁ = { s with heap := s.heap.push { cls := .type "list", data := .seq #[] } }) F.called_list (F.typeCall_list_1 _) F.entry_list_init (code_list_new _ ⟨rfl, rfl⟩) fun obj s₁ h₁ => ?_
  obtain ⟨rfl, rfl⟩ := h₁
  have hS : (s.heap.push { cls := .type "list", data := .seq #[] }).get? s.heap.objs.size = some { cls := .type "list", data := .seq #[] } := Heap.get?_push_size _ rfl
  have hSi : s.heap.objs.size ≠ it := Nat.ne_of_gt (Heap.lt_size hoi)
  have hSl : s.heap.objs.size ≠ l := Nat.ne_of_gt (Heap.lt_size hol)
  refine ⟨⟨_, hS, rfl⟩, F.args_list_init_2 _ _, ?_⟩
  show wpAny _ _ (do let old ← Builtin.List.listItems (.ref s.heap.objs.size); Builtin.List.listUpdate (.ref s.heap.objs.size) (fun _ => #[]); letGo old.toList.reverse; Builtin.List.listExtendWith (.ref s.heap.objs.size) (.ref it) .none) _ _ _
  refine wpAny_bind ?_; unfold Builtin.List.listItems
  refine wpAny_bind (wpAny_seqItems hS rfl (wpAny_pure ?_))
  show wpAny _ _ (updateSeq s.heap.objs.size (fun _ => #[]) >>= fun _ => letGo (#[] : Array Value).toList.reverse >>= fun _ => Builtin.List.listExtendWith (.ref s.heap.objs.size) (.ref it) .none) _ _ _
  refine wpAny_bind (wpAny_updateSeq hS rfl ?_)
  have hS₂ := Heap.get?_update_self (Obj.mapSeq (fun _ => (#[] : Array Value))) hS rfl
  have oth : ∀ b o, b ≠ s.heap.objs.size → (s.heap.push { cls := .type "list", data := .seq #[] }).get? b = some o → ((s.heap.push { cls := .type "list", data := .seq #[] }).update s.heap.objs.size (Obj.mapSeq (fun _ => (#[] : Array Value)))).get? b = some o :=
    fun b o hb e => (Heap.get?_update_other _ _ (Ne.symm hb)).trans e
  refine wpAny_bind (wpAny_letGo ?_)
  have hit' := (hit.at fun o e => oth _ _ (Ne.symm hSi) (Heap.get?_push_of_some _ e))
  have hl' : (Heap.update (s.heap.push { cls := .type "list", data := .seq #[] }) s.heap.objs.size (Obj.mapSeq (fun _ => (#[] : Array Value)))).IsList l items := by
    obtain ⟨o, ho, r⟩ := hl
    exact ⟨o, oth _ _ (Ne.symm hSl) (Heap.get?_push_of_some _ ho), r⟩
  refine ext_rev hh hit' hl' hne hn hS₂ hSi hSl fun h' tk acc' c' hk hS' hacc => ?_
  exact ⟨rfl, hQ h' tk acc' c' (fun b o hb e => hk b o (Nat.ne_of_lt (Heap.lt_size e)) hb (oth b o (Nat.ne_of_lt (Heap.lt_size e)) (Heap.get?_push_of_some _ e))) hS' hacc⟩
end
/-- list(reversed(x)), x a list: a new list -/
def tLstRev (K : PySem.W.Frag) (te : TE) : TE := fun σ H Q => te σ H fun v H1 => ∃ (a : Addr) (xs : List V), v = .ref a ∧ SqL K H1 a xs ∧ ∀ q, H1 q = none → Q (.ref q) (upd H1 q (.lst xs.reverse))
section
variable {X : Cx}
theorem pe_lstRev {e : Expr} {te : TE} {p p2 pos pos2 : Pos} (hc : X.calm = true) (hg : Gl X "list") (hm : X.mg "list" = none) (hg2 : Gl X "reversed") (hm2 : X.mg "reversed" = none) (he : PE X e te)
    (hs : starEach [e] X.env = (false, eval e X.env) :: starEach [] X.env) (hs2 : starEach [.Call (.Name "reversed" p2) [e] [] pos2] X.env = (false, eval (.Call (.Name "reversed" p2) [e] [] pos2) X.env) :: starEach [] X.env) :
    PE X (.Call (.Name "list" p) [.Call (.Name "reversed" p2) [e] [] pos2] [] pos) (tLstRev X.K te) := by
  refine ⟨fun pins s σ H Q I h => ?_⟩
  refine Call_ (ld_blt I hg hm (by decide +kernel : bootBuiltins "list" = some (.type "list")) (PyProof.Rows.callWith_type1 (args_cons (Call_ (ld_blt I hg2 hm2 PyProof.Rows.boot_reversed (PyProof.Rows.callWith_type1 (args_cons (thn (he.run pins s σ H _ I h) fun u s1 ⟨v, H1, I1, r1, q1⟩ => args_nil ?_) hs) hs rfl))) hs2) hs2 rfl))
  obtain ⟨a, xs, ev, hq, q⟩ := q1; subst ev
  obtain rfl : u = Value.ref a := r1
  obtain ⟨its, rv, p', hz⟩ := I1.list hq; refine call_reversed_list p'.isList (args_nil ?_)
  have hl := p'.isList; obtain ⟨ol, hol, _⟩ := id hl
  have hne : a ≠ s1.heap.objs.size := Nat.ne_of_lt (Heap.lt_size hol)
  have hn : its.toArray.size ≤ sizeLine := by rw [List.size_toArray, ← rv.length]; exact hz
  refine call_list_rev (s := { s1 with heap := s1.heap.push (revObj a ((its.toArray.size : Int) - 1)) }) (I1.ok.hd hc) ⟨_, Heap.get?_push_size _ rfl, rfl, rfl⟩ (hl.push _) hne hn fun h' tk acc c' hk hS hi => ?_
  have kk : ∀ b o, s1.heap.get? b = some o → h'.get? b = some o := fun b o e => hk b o (Nat.ne_of_lt (Heap.lt_size e)) (Heap.get?_push_of_some _ e)
  have le : s1.heap.objs.size ≤ (s1.heap.push (revObj a ((its.toArray.size : Int) - 1))).objs.size := by simp [Heap.push]
  refine ⟨.ref _, upd H1 _ (.lst xs.reverse), I1.laid (t' := tk) kk le (show ObjOk X.prog X.w _ _ _ (.lst xs.reverse) from ⟨by rw [List.length_reverse]; exact hz, acc.toList, c', RT.vals_rev rv hi, ?_⟩), rfl, q _ (I1.hok.fresh le)⟩
  rw [Array.toArray_toList]; exact hS
end
def gLRev : D → R (D × Bool)
  | .lst ds => .ok (.lst ds.reverse, true)
  | _ => .bad
def bLRev (fe : Rho → R (D × Bool)) : Rho → R (D × Bool) := fun ρ => do let p ← fe ρ; gLRev p.1
section
variable {X : Cx} {W : WX} {e : Expr} {fe : Rho → R (D × Bool)} {p p2 pos pos2 : Pos}
theorem sf_lrev (hc : X.calm = true) (hg : Gl X "list") (hm : X.mg "list" = none) (hg2 : Gl X "reversed") (hm2 : X.mg "reversed" = none) (he : SA X W e fe) : SF X W (.Call (.Name "list" p) [.Call (.Name "reversed" p2) [e] [] pos2] [] pos) (bLRev fe) := by
  have ns := he.ns
  obtain ⟨t, q, h⟩ := he.ex
  refine ⟨rfl, _, pe_lstRev hc hg hm hg2 hm2 q (star_of ns _ _) (star_of rfl _ _), fun S0 H0 ρ σ H Q r w => ?_⟩
  refine h S0 H0 ρ σ H _ r (Want.bind w fun z v H1 s pa w1 => ?_)
  have pe := pa.e
  generalize z.1 = d at pe w1
  unfold gLRev at w1
  split at w1
  · obtain ⟨a, vs, ev, hh, rs⟩ := pe.lst
    refine ⟨a, vs, ev, SqL.of hh, fun p n => w1 _ _ (same_upd n) ?_⟩
    exact PF.later s (PF.newL (fun a z => (r.same s).fbH z) (Same.refl _) n rs.rev)
  · exact w1.elim
end
end VM
/-! VMe: insert, extend, clear on own lists. -/
namespace VM
open PySem L2
def sIns (i : Nat) (fk fe : Rho → R (D × Bool)) : Rho → Fl := fun ρ => match ρ[i]? with
  | some (some (.lst ds, true)) => (do let k ← fk ρ; let q ← fe ρ; pure (k, q)).fl ρ fun z => match z.1.1 with
    | .int j => if (0 ≤ j ∧ smI j = true) ∧ ds.length < sizeLine then .next (ρ.set i (some (.lst (ds.take j.toNat ++ [z.2.1] ++ ds.drop j.toNat), true))) else .bad
    | _ => .bad
  | _ => .bad
def sExt (i : Nat) (fe : Rho → R (D × Bool)) : Rho → Fl := fun ρ => match ρ[i]? with
  | some (some (.lst ds, true)) => (fe ρ).fl ρ fun q => match q.1 with
    | .lst es => if ds.length + es.length ≤ sizeLine then .next (ρ.set i (some (.lst (ds ++ es), true))) else .bad
    | _ => .bad
  | _ => .bad
def sClr (i : Nat) : Rho → Fl := fun ρ => match ρ[i]? with
  | some (some (.lst _, true)) => .next (ρ.set i (some (.lst [], true)))
  | _ => .bad
section
variable {X : Cx} {W : WX} {e e1 e2 : Expr} {fe fe1 fe2 : Rho → R (D × Bool)} {pos p apos cpos : Pos} {i : Nat} {x : Str}
theorem ss_clr (hN : X.N[i]? = some x) (hv : Vis X.env.scope x) (hd : (x == ("__debug__" : Str)) = false) (hcd : (x == ("__classdict__" : Str)) = false) (hline : (apos.endLine == cpos.line) = true) :
    SS X W (.Expr (.Call (.Attribute (.Name x p) "clear" apos) [] [] cpos) pos) (sClr i) := by
  refine ⟨_, ps_expr (pe_bm0 PySem.F.plainAttrs_list PySem.F.slot_list_clear PySem.F.type_list_clear mt_clear (pe_var hN hv hd hcd) rfl hline) rfl, fun S0 H0 ρ σ H Dd r w => ?_⟩
  unfold sClr at w
  split at w
  · rename_i ds hi
    obtain ⟨a, xs, ha, hx, rs⟩ := own_lst r (Same.refl _) hi
    refine ⟨_, ha, .inl ⟨rfl, xs, SqL.of hx⟩, a, xs, rfl, rfl, hx, ?_⟩
    obtain ⟨r2, s2⟩ := r.mutL (ds' := []) hi ha hx rfl
    exact w σ _ r2 s2
  · exact w.elim
theorem ss_ext (hN : X.N[i]? = some x) (hv : Vis X.env.scope x) (hd : (x == ("__debug__" : Str)) = false) (hcd : (x == ("__classdict__" : Str)) = false) (he : SF X W e fe) (hline : (apos.endLine == cpos.line) = true) :
    SS X W (.Expr (.Call (.Attribute (.Name x p) "extend" apos) [e] [] cpos) pos) (sExt i fe) := by
  have ns := he.ns
  obtain ⟨t, q, h⟩ := he.ex
  have hse : ∀ env, starEach [e] env = (false, eval e env) :: starEach [] env := fun env => star_of ns _ _
  refine ⟨_, ps_expr (pe_bm PySem.F.plainAttrs_list PySem.F.slot_list_extend PySem.F.type_list_extend mt_extend (pe_var hN hv hd hcd) (pa_cons q pa_nil (hse _)) rfl (few_of (by simp [ns]) (by simp)) hline (hse _) rfl) rfl, fun S0 H0 ρ σ H Dd r w => ?_⟩
  unfold sExt at w
  split at w
  · rename_i ds hi
    obtain ⟨a, xs, ha, hx, rs⟩ := own_lst r (Same.refl _) hi
    refine ⟨_, ha, .inl ⟨rfl, xs, SqL.of hx⟩, h S0 H0 ρ σ H _ r (fl_want r w fun q v H1 s pf w1 => ?_)⟩
    obtain ⟨d, b⟩ := q
    have pf1 : Rep X.K (Fb S0 ρ σ) H1 d v := pf.1
    cases d with
    | lst es =>
      obtain ⟨b2, zs, ev, hz, _, rz⟩ := pf1
      have w2 : WantS X.K X.mg W S0 H0 ρ σ H Dd (if ds.length + es.length ≤ sizeLine then .next (ρ.set i (some (.lst (ds ++ es), true))) else .bad) := w1
      by_cases hl : ds.length + es.length ≤ sizeLine
      · rw [if_pos hl] at w2
        have hx1 := s _ _ hx
        refine ⟨a, b2, xs, zs, rfl, by rw [ev], hx1, hz, by rw [rs.length, rz.length]; exact hl, ?_⟩
        obtain ⟨r2, s2⟩ := (r.same s).mutL hi ha hx1 (Reps.app (rs.same s) rz)
        exact w2 σ _ r2 ((Stp.of_same s).trans s2)
      · rw [if_neg hl] at w2; exact w2.elim
    | _ => exact (show False from w1).elim
  · exact w.elim
theorem ss_ins (hN : X.N[i]? = some x) (hv : Vis X.env.scope x) (hd : (x == ("__debug__" : Str)) = false) (hcd : (x == ("__classdict__" : Str)) = false) (hk : SF X W e1 fe1) (he : SF X W e2 fe2) (hline : (apos.endLine == cpos.line) = true) :
    SS X W (.Expr (.Call (.Attribute (.Name x p) "insert" apos) [e1, e2] [] cpos) pos) (sIns i fe1 fe2) := by
  have n1 := hk.ns
  have n2 := he.ns
  obtain ⟨t1, q1, h1⟩ := hk.ex
  obtain ⟨t2, q2, h2⟩ := he.ex
  have hs1 : ∀ env, starEach [e1, e2] env = (false, eval e1 env) :: starEach [e2] env := fun env => star_of n1 _ _
  have hs2 : ∀ env, starEach [e2] env = (false, eval e2 env) :: starEach [] env := fun env => star_of n2 _ _
  refine ⟨_, ps_expr (pe_bm PySem.F.plainAttrs_list PySem.F.slot_list_insert PySem.F.type_list_insert mt_insert (pe_var hN hv hd hcd) (pa_cons q1 (pa_cons q2 pa_nil (hs2 _)) (hs1 _)) rfl (few_of (by simp [n1, n2]) (by simp)) hline (hs1 _) (by rw [hs2]; rfl)) rfl, fun S0 H0 ρ σ H Dd r w => ?_⟩
  unfold sIns at w
  split at w
  · rename_i ds hi
    obtain ⟨a, xs, ha, hx, rs⟩ := own_lst r (Same.refl _) hi
    refine ⟨_, ha, .inl ⟨rfl, xs, SqL.of hx⟩, ?_⟩
    cases hf1 : fe1 ρ with
    | bad => rw [hf1] at w; exact w.elim
    | exc c fs =>
      rw [hf1] at w
      refine h1 S0 H0 ρ σ H _ r ?_
      rw [hf1]
      exact fun cls dd H' s ex => w cls dd σ H' (r.same s) (Stp.of_same s) ex
    | ok k =>
      rw [hf1] at w
      refine h1 S0 H0 ρ σ H _ r ?_
      rw [hf1]
      intro v1 H1 s1 pf1
      cases hf2 : fe2 ρ with
      | bad => rw [hf2] at w; exact w.elim
      | exc c fs =>
        rw [hf2] at w
        refine h2 S0 H0 ρ σ H1 _ (r.same s1) ?_
        rw [hf2]
        exact fun cls dd H' s ex => w cls dd σ H' (r.same (s1.trans s)) (Stp.of_same (s1.trans s)) ex
      | ok q =>
        rw [hf2] at w
        refine h2 S0 H0 ρ σ H1 _ (r.same s1) ?_
        rw [hf2]
        intro v2 H2 s2 pf2
        obtain ⟨d, b⟩ := k
        have p1 : Rep X.K (Fb S0 ρ σ) H1 d v1 := pf1.1
        cases d with
        | int j =>
          have w2 : WantS X.K X.mg W S0 H0 ρ σ H Dd (if (0 ≤ j ∧ smI j = true) ∧ ds.length < sizeLine then .next (ρ.set i (some (.lst (ds.take j.toNat ++ [q.1] ++ ds.drop j.toNat), true))) else .bad) := w
          by_cases hl : (0 ≤ j ∧ smI j = true) ∧ ds.length < sizeLine
          · rw [if_pos hl] at w2
            have s12 := s1.trans s2
            have hx1 := s12 _ _ hx
            have ev : v1 = .int j := p1
            have jb := smI_ok hl.1.2
            refine ⟨a, xs, j, v2, rfl, by rw [ev], hx1, by rw [rs.length]; exact hl.2, hl.1.1, by omega, ?_⟩
            have rs' := rs.same s12
            obtain ⟨r2, s3⟩ := (r.same s12).mutL hi ha hx1 (Reps.app (Reps.app (rs'.take j.toNat) (es := [q.1]) (ws := [v2]) ⟨v2, [], rfl, pf2.1, rfl⟩) (rs'.drop j.toNat))
            exact w2 σ _ r2 ((Stp.of_same s12).trans s3)
          · rw [if_neg hl] at w2; exact w2.elim
        | _ => exact (show False from w).elim
  · exact w.elim
end
end VM
/-! VMf: instances: fields, methods that change nothing. -/
namespace VM
open PySem L2
theorem RepE.obj {K : PySem.W.Frag} {F : Addr → Prop} {H : Hp} {C : Addr} {ns : List Str} {ds : List D} {v : V} (h : RepE K F H (.obj C ns ds) v) : ∃ a dx fs, v = .ref a ∧ H a = some (.ins C dx fs) ∧ fs.map (·.1) = ns ∧ Reps K F H ds (fs.map (·.2)) := by
  rcases h with ⟨a, dx, fs, e, q, _, e2, r⟩ | ⟨_, _, t⟩
  · exact ⟨a, dx, fs, e, q, e2, r⟩
  · exact t.elim
theorem fld_at {K : PySem.W.Frag} {F : Addr → Prop} {H : Hp} {f : Str} {d : D} : ∀ {fs : List (Str × V)} {ds : List D}, Reps K F H ds (fs.map (·.2)) → ((fs.map (·.1)).zip ds).lookup f = some d → ∃ v, fs.lookup f = some v ∧ Rep K F H d v
  | [], _, _, h => by cases h
  | (n, v) :: fs, [], r, h => by cases h
  | (n, v) :: fs, e :: ds, r, h => by
    obtain ⟨u, us, eu, r1, r2⟩ := r
    have e1 : v = u := (List.cons.inj eu).1
    have e2 : fs.map (·.2) = us := (List.cons.inj eu).2
    subst e1; subst e2
    have h' : ((n, e) :: (fs.map (·.1)).zip ds).lookup f = some d := h
    rw [List.lookup_cons] at h' ⊢
    cases hb : f == n with
    | true =>
      rw [hb] at h'
      cases h'
      exact ⟨v, rfl, r1⟩
    | false =>
      rw [hb] at h'
      exact fld_at r2 h'
theorem fld_none {f : Str} : ∀ {fs : List (Str × V)}, (fs.map (·.1)).contains f = false → fs.lookup f = none
  | [], _ => rfl
  | (n, v) :: fs, h => by
    rw [List.map_cons, List.contains_cons, Bool.or_eq_false_iff] at h
    rw [List.lookup_cons, h.1]
    exact fld_none h.2
theorem mcall {o : Expr} {m : Str} {apos cpos : Pos} {es : List Expr} {env : PySem.Env} (hb : attributeBase o m env (eval o env) = eval o env) (hs : es.all (fun e => !isStar e) = true) (hl : es.length < 30) (hline : (apos.endLine == cpos.line) = true) :
    eval (.Call (.Attribute o m apos) es [] cpos) env = (do
      let ov ← eval o env
      standAt apos.atName
      let (f, first) ← holding [ov] (getMethod ov m (do return (← importBound o env).getD true))
      callWith cpos f first (backTo cpos (starEach es env)) (backToKw cpos (keywordEach [] env))) := by
  have hform : methodCallForm (es.length + ([] : List Keyword).length) (backTo cpos (starEach es env)) (backToKw cpos (keywordEach [] env)) = true := few_of hs hl
  have hpos : methodCallPos true o env apos cpos = pure cpos := by unfold methodCallPos; simp [hline]
  rw [arm_eval_Call, hb]
  unfold methodCall
  rw [hform]
  simp only [hpos, calleeOf, if_true]
  rfl
def bFld (i : Nat) (C : Addr) (f : Str) : Rho → R (D × Bool) := fun ρ => match ρ[i]? with
  | some (some (.obj C' ns ds, false)) => if C' = C then (match (ns.zip ds).lookup f with
    | some d => .ok (d, false)
    | none => .bad) else .bad
  | _ => .bad
/-- a method that may be called -/
structure MetAt (P : Program) (w : World) (K : PySem.W.Frag) (mg : Str → Option Value) (base : Heap) (k : Nat) (C : Addr) (m : Str) (ar : Nat) (g : List D → R (D × Bool)) : Prop where
  ex : ∃ f fd ps, Meth K C m f ∧ Cls K C ∧ Binds K fd ps [] ∧ ps.length = ar ∧ FnOk P w K mg base (L2.CX P w) k f fd ps (spOf K mg ar g)
def metR (g : List D → R (D × Bool)) (ds : List D) : R (D × Bool) := match g ds with
  | .ok p => if imm p.1 = true then .ok p else .bad
  | _ => .bad
def bMeth (i : Nat) (C : Addr) (m : Str) (g : List D → R (D × Bool)) (fx : Rho → R (List (D × Bool))) : Rho → R (D × Bool) := fun ρ => match ρ[i]? with
  | some (some (.obj C' ns ds, false)) => if C' = C ∧ ns.contains m = false then (do let ps ← fx ρ; metR g (.obj C' ns ds :: ps.map (·.1))) else .bad
  | _ => .bad
section
variable {X : Cx} {W : WX} {e : Expr} {es : List Expr} {fx : Rho → R (List (D × Bool))} {pos p apos cpos : Pos} {i k ar : Nat} {x f m : Str} {C : Addr} {g : List D → R (D × Bool)}
theorem sf_fld (hN : X.N[i]? = some x) (hv : Vis X.env.scope x) (hd : (x == ("__debug__" : Str)) = false) (hcd : (x == ("__classdict__" : Str)) = false) (c : Cls X.K C) (hn : NoAttr X.K C f) :
    SF X W (.Attribute (.Name x p) f pos) (bFld i C f) := by
  refine ⟨rfl, _, pe_fld (pe_var hN hv hd hcd) rfl, fun S0 H0 ρ σ H Q r w => ?_⟩
  unfold bFld at w
  split at w
  · rename_i C' ns ds hi
    by_cases hc : C' = C
    · rw [if_pos hc] at w
      subst hc
      obtain ⟨v, hσ, a, dx, fs, ev, q, _, e2, rs⟩ := r.clean i _ hi
      subst e2
      split at w
      · rename_i d hl
        obtain ⟨u, h1, h2⟩ := fld_at rs hl
        exact ⟨v, hσ, a, _, dx, fs, u, ev, q, c, hn, h1, w u H (Same.refl _) (PF.of h2)⟩
      · exact w.elim
    · rw [if_neg hc] at w; exact w.elim
  · exact w.elim
theorem sf_meth (hN : X.N[i]? = some x) (hv : Vis X.env.scope x) (hd : (x == ("__debug__" : Str)) = false) (hcd : (x == ("__classdict__" : Str)) = false) (M : MetAt X.prog X.w X.K X.mg X.base k C m ar g) (hr : Room k X.A) (hf : SX X W (e :: es) fx) (hl : (e :: es).length + 1 = ar) (hfew : (e :: es).length < 30) (hline : (apos.endLine == pos.line) = true) :
    SF X W (.Call (.Attribute (.Name x p) m apos) (e :: es) [] pos) (bMeth i C m g fx) := by
  have ns := hf.ns
  have hfl := hf.len
  rw [List.all_cons, Bool.and_eq_true] at ns
  have n1 : isStar e = false := by simpa using ns.1
  obtain ⟨t, pa, hf⟩ := hf.ex
  obtain ⟨fn, fd, ps, hm, hc, hb, hps, F⟩ := M.ex
  refine ⟨rfl, _, pe_meth (E := fun _ _ _ => False) (pe_var hN hv hd hcd) hc hm F hr hb .nil ?_ pa (star_of n1 _ _) (noStarBack ns.2) (mcall rfl (by rw [List.all_cons, ns.1, ns.2]; rfl) hfew hline), fun S0 H0 ρ σ H Q r w => ?_⟩
  · rintro pins σ H s u s' I ⟨_, _, _, _, _, _, _, _, _, _, _, _, z⟩
    exact z.elim
  unfold bMeth at w
  split at w
  · rename_i C' ns ds hi
    by_cases hc' : C' = C ∧ ns.contains m = false
    · rw [if_pos hc'] at w
      obtain ⟨hc1, hc2⟩ := hc'
      subst hc1
      obtain ⟨v, hσ, rv⟩ := r.clean i _ hi
      obtain ⟨a, dx, fs, ev, q, nf, e2, rs⟩ := id rv
      subst e2
      refine ⟨v, hσ, a, dx, fs, ev, q, fld_none hc2, ?_⟩
      cases hfr : fx ρ with
      | bad => rw [hfr] at w; exact w.elim
      | exc c fs' =>
        refine hf S0 H0 ρ σ H _ r ?_
        rw [hfr] at w ⊢
        exact w
      | ok ps' =>
        refine hf S0 H0 ρ σ H _ r ?_
        rw [hfr] at w ⊢
        intro vs H1 s q1
        have r1 := r.same s
        have w1 : Want X.K X.mg W σ H1 Q (PF X.K (Fb S0 ρ σ) H) (metR g (.obj C' (fs.map (·.1)) ds :: ps'.map (·.1))) := Want.later s w
        have hlen : (ps'.map (·.1)).length = (e :: es).length := by rw [List.length_map, hfl ρ ps' hfr]
        refine ⟨S0, .obj C' (fs.map (·.1)) ds :: ps'.map (·.1), fun a z => r1.s0H z, ?_, by rw [List.length_cons, hlen]; exact hl, ?_⟩
        · rw [List.append_nil]
          refine ⟨v, vs, rfl, (rv.same s).less fun a z => .inl z, q1.reps0 (fun a z => .inl z) (fun a o z => ?_)⟩
          obtain ⟨i, d, e1, e2⟩ := o
          obtain ⟨a', e3, n0, _⟩ := r1.own i d e1
          rw [e2] at e3
          cases e3
          exact n0.2 z
        · unfold metR at w1
          cases hg : g (.obj C' (fs.map (·.1)) ds :: ps'.map (·.1)) with
          | bad => rw [hg] at w1; exact w1.elim
          | exc c fs' => rw [hg] at w1; exact w1.elim
          | ok p =>
            rw [hg] at w1
            have w2 : Want X.K X.mg W σ H1 Q (PF X.K (Fb S0 ρ σ) H) (if imm p.1 = true then .ok p else .bad) := w1
            by_cases him : imm p.1 = true
            · rw [if_pos him] at w2
              intro v' H' s' pf
              exact w2 v' H' s' ⟨Rep.imm _ _ him pf.1, fun z => by
                obtain ⟨a, _, _, t⟩ := pf.2 z
                exact (imm_top him t).elim⟩
            · rw [if_neg him] at w2; exact w2.elim
    · rw [if_neg hc'] at w; exact w.elim
  · exact w.elim
theorem sf_meth0 (hN : X.N[i]? = some x) (hv : Vis X.env.scope x) (hd : (x == ("__debug__" : Str)) = false) (hcd : (x == ("__classdict__" : Str)) = false) (M : MetAt X.prog X.w X.K X.mg X.base k C m 1 g) (hr : Room k X.A) (hline : (apos.endLine == pos.line) = true) :
    SF X W (.Call (.Attribute (.Name x p) m apos) [] [] pos) (bMeth i C m g xNil) := by
  obtain ⟨fn, fd, ps, hm, hc, hb, hps, F⟩ := M.ex
  have pm := pe_meth0 (X := X) (E := fun _ _ _ => False) (pe_var (pos := p) hN hv hd hcd) hc hm F hr hb .nil (by
    rintro pins σ H s u s' I ⟨_, _, _, _, _, _, _, _, _, _, _, _, z⟩
    exact z.elim) (mcall (cpos := pos) (apos := apos) (es := []) rfl rfl (by simp) hline)
  refine ⟨rfl, _, pm, fun S0 H0 ρ σ H Q r w => ?_⟩
  unfold bMeth at w
  split at w
  · rename_i C' ns ds hi
    by_cases hc' : C' = C ∧ ns.contains m = false
    · rw [if_pos hc'] at w
      obtain ⟨hc1, hc2⟩ := hc'
      subst hc1
      obtain ⟨v, hσ, rv⟩ := r.clean i _ hi
      obtain ⟨a, dx, fs, ev, q, nf, e2, rs⟩ := id rv
      subst e2
      refine ⟨v, hσ, a, dx, fs, ev, q, fld_none hc2, ?_⟩
      have w1 : Want X.K X.mg W σ H Q (PF X.K (Fb S0 ρ σ) H) (metR g [.obj C' (fs.map (·.1)) ds]) := w
      refine ⟨S0, [.obj C' (fs.map (·.1)) ds], fun a z => r.s0H z, ⟨v, [], rfl, rv.less fun a z => .inl z, rfl⟩, rfl, ?_⟩
      unfold metR at w1
      cases hg : g [.obj C' (fs.map (·.1)) ds] with
      | bad => rw [hg] at w1; exact w1.elim
      | exc c fs' => rw [hg] at w1; exact w1.elim
      | ok p =>
        rw [hg] at w1
        have w2 : Want X.K X.mg W σ H Q (PF X.K (Fb S0 ρ σ) H) (if imm p.1 = true then .ok p else .bad) := w1
        by_cases him : imm p.1 = true
        · rw [if_pos him] at w2
          intro v' H' s' pf
          exact w2 v' H' s' ⟨Rep.imm _ _ him pf.1, fun z => by
            obtain ⟨a, _, _, t⟩ := pf.2 z
            exact (imm_top him t).elim⟩
        · rw [if_neg him] at w2; exact w2.elim
    · rw [if_neg hc'] at w; exact w.elim
  · exact w.elim
end
end VM
/-! VMk: dicts that are walked: they are locked as long. -/
namespace VM
open PySem L2
def isDk : HO → Bool | .dK _ => true | .dT _ => true | _ => false
/-- two heaps alike, but that dicts are locked in one of them -/
def LkEq (H H' : Hp) : Prop := ∀ a, H a = H' a ∨ ∃ o u, isDk u = true ∧ ((H a = some u ∧ H' a = some (.frz o u)) ∨ (H a = some (.frz o u) ∧ H' a = some u))
section
variable {K : PySem.W.Frag} {F : Addr → Prop} {H H' : Hp}
theorem LkEq.get (l : LkEq H H') {a : Addr} {u : HO} (h : H a = some u) (n : isDk u = false) (n2 : ∀ o v, u = .frz o v → isDk v = false) : H' a = some u := by
  rcases l a with e | ⟨o, v, hv, ⟨e1, e2⟩ | ⟨e1, e2⟩⟩
  · rw [← e]; exact h
  · rw [h] at e1; cases e1; rw [hv] at n; cases n
  · rw [h] at e1; cases e1
    have := n2 o v rfl
    rw [hv] at this; cases this
theorem LkEq.rd (l : LkEq H H') {a : Addr} {u : HO} (hu : isDk u = true) (h : Rd H a u) : Rd H' a u := by
  rcases l a with e | ⟨o, v, hv, ⟨e1, e2⟩ | ⟨e1, e2⟩⟩
  · unfold Rd; rw [← e]; exact h
  · rcases h with h | ⟨o2, h⟩
    · rw [h] at e1; cases e1; exact .inr ⟨o, e2⟩
    · rw [h] at e1; cases e1; cases hv
  · rcases h with h | ⟨o2, h⟩
    · rw [h] at e1; cases e1; cases hu
    · rw [h] at e1; cases e1; exact .inl e2
mutual
theorem Rep.lk (l : LkEq H H') : ∀ (d : D) (v : V), Rep K F H d v → Rep K F H' d v
  | .non, v, h => h
  | .bl b, v, h => h
  | .int i, v, h => h
  | .str s, v, h => h
  | .tup ds, v, h => by
    obtain ⟨a, vs, e, q, r⟩ := h
    exact ⟨a, vs, e, l.get q rfl (fun _ _ z => by cases z), Reps.lk l ds vs r⟩
  | .ktup ds, v, h => by
    obtain ⟨a, vs, e, q, r⟩ := h
    exact ⟨a, vs, e, q, Reps.lk l ds vs r⟩
  | .lst ds, v, h => by
    obtain ⟨a, vs, e, q, n, r⟩ := h
    exact ⟨a, vs, e, l.get q rfl (fun _ _ z => by cases z), n, Reps.lk l ds vs r⟩
  | .scr ns, v, h => by
    obtain ⟨a, e, q⟩ := h
    refine ⟨a, e, ?_⟩
    rcases q with ⟨o, q⟩ | q
    · exact .inl ⟨o, l.get q rfl (fun _ _ z => by cases z; rfl)⟩
    · exact .inr q
  | .dic ks ds, v, h => by
    obtain ⟨a, kvs, e, q, n, e2, r⟩ := h
    exact ⟨a, kvs, e, l.rd rfl q, n, e2, Reps.lk l ds _ r⟩
  | .dct ks ds, v, h => by
    obtain ⟨a, kvs, e, q, n, e2, r⟩ := h
    exact ⟨a, kvs, e, l.rd rfl q, n, e2, Reps.lk l ds _ r⟩
  | .obj C ns ds, v, h => by
    obtain ⟨a, dx, fs, e, q, n, e2, r⟩ := h
    exact ⟨a, dx, fs, e, l.get q rfl (fun _ _ z => by cases z), n, e2, Reps.lk l ds _ r⟩
theorem Reps.lk (l : LkEq H H') : ∀ (ds : List D) (vs : List V), Reps K F H ds vs → Reps K F H' ds vs
  | [], vs, h => h
  | d :: ds, vs, h => by
    obtain ⟨v, vs', e, r, rs⟩ := h
    exact ⟨v, vs', e, Rep.lk l d v r, Reps.lk l ds vs' rs⟩
end
theorem Top.lk (l : LkEq H H') {a : Addr} {d : D} (e : H a = H' a) (h : Top K F H a d) : Top K F H' a d := by
  cases d with
  | lst ds => obtain ⟨vs, q, r⟩ := h; exact ⟨vs, by rw [← e]; exact q, Reps.lk l _ _ r⟩
  | dic ks ds => obtain ⟨vs, q, q2, r⟩ := h; exact ⟨vs, by rw [← e]; exact q, q2, Reps.lk l _ _ r⟩
  | dct ks ds => obtain ⟨vs, q, q2, r⟩ := h; exact ⟨vs, by rw [← e]; exact q, q2, Reps.lk l _ _ r⟩
  | _ => exact (show False from h).elim
end
/-- the dict at d is locked -/
theorem lk_at {H : Hp} {d : Addr} {u : HO} {od : Obj} (h : H d = some u) (hu : isDk u = true) : LkEq H (upd H d (.frz od u)) := fun a => by
  by_cases e : a = d
  · subst e; exact .inr ⟨od, u, hu, .inl ⟨h, upd_same⟩⟩
  · exact .inl (upd_ne e).symm
theorem lk_un {H : Hp} {d : Addr} {u : HO} {od : Obj} (h : H d = some (.frz od u)) (hu : isDk u = true) : LkEq H (upd H d u) := fun a => by
  by_cases e : a = d
  · subst e; exact .inr ⟨od, u, hu, .inr ⟨h, upd_same⟩⟩
  · exact .inl (upd_ne e).symm
def less1 (H0 : Hp) (d : Addr) : Hp := fun a => if a = d then none else H0 a
section
variable {K : PySem.W.Frag} {S0 : Addr → Prop} {H0 H H1 : Hp} {ρ ρ' : Rho} {σ σ' : L2.St} {d : Addr} {u : HO} {od : Obj}
theorem Rl.lock (r : Rl K S0 H0 ρ σ H) (h : H d = some u) (hu : isDk u = true) (n : ¬ OwnA ρ σ d) : Rl K S0 (less1 H0 d) ρ σ (upd H d (.frz od u)) where
  len := r.len
  s0 := fun a z => by
    obtain ⟨o, e⟩ := r.s0 a z
    by_cases q : a = d
    · exact ⟨_, by rw [q, upd_same]⟩
    · exact ⟨o, by rw [upd_ne q]; exact e⟩
  keep := fun a o e => by
    unfold less1 at e
    split at e
    · cases e
    · rename_i q
      rw [upd_ne q]; exact r.keep a o e
  clean := fun i x e => by
    obtain ⟨v, h1, h2⟩ := r.clean i x e
    exact ⟨v, h1, Rep.lk (lk_at h hu) _ _ h2⟩
  own := fun i x e => by
    obtain ⟨a, h1, ⟨h2, h3⟩, h4⟩ := r.own i x e
    have q : a ≠ d := fun z => n ⟨i, x, e, by rw [← z]; exact h1⟩
    exact ⟨a, h1, ⟨by unfold less1; rw [if_neg q]; exact h2, h3⟩, Top.lk (lk_at h hu) (upd_ne q).symm h4⟩
  sep := r.sep
theorem top_frz {F : Addr → Prop} {a : Addr} {x : D} (t : Top K F H a x) (h : H a = some (.frz od u)) : False := by
  cases x with
  | lst ds => obtain ⟨vs, q, _⟩ := t; rw [q] at h; cases h
  | dic ks ds => obtain ⟨vs, q, _⟩ := t; rw [q] at h; cases h
  | dct ks ds => obtain ⟨vs, q, _⟩ := t; rw [q] at h; cases h
  | _ => exact t
theorem Rl.unlock (r : Rl K S0 (less1 H0 d) ρ σ H1) (h : H1 d = some (.frz od u)) (hu : isDk u = true) (h0 : ∀ o, H0 d = some o → o = u) : Rl K S0 H0 ρ σ (upd H1 d u) where
  len := r.len
  s0 := fun a z => by
    obtain ⟨o, e⟩ := r.s0 a z
    by_cases q : a = d
    · exact ⟨_, by rw [q, upd_same]⟩
    · exact ⟨o, by rw [upd_ne q]; exact e⟩
  keep := fun a o e => by
    by_cases q : a = d
    · rw [q] at e
      rw [q, upd_same, h0 o e]
    · rw [upd_ne q]
      exact r.keep a o (by unfold less1; rw [if_neg q]; exact e)
  clean := fun i x e => by
    obtain ⟨v, h1, h2⟩ := r.clean i x e
    exact ⟨v, h1, Rep.lk (lk_un h hu) _ _ h2⟩
  own := fun i x e => by
    obtain ⟨a, h1, ⟨h2, h3⟩, h4⟩ := r.own i x e
    have q : a ≠ d := fun z => by rw [z] at h4; exact top_frz h4 h
    refine ⟨a, h1, ⟨?_, h3⟩, Top.lk (lk_un h hu) (upd_ne q).symm h4⟩
    unfold less1 at h2
    rw [if_neg q] at h2
    exact h2
  sep := r.sep
end
/-! ### what is walked -/
def itK : D → R (List D)
  | .dic ks _ => .ok (ks.map unkey)
  | _ => .bad
def itV : D → R (List D)
  | .dic _ vs => .ok vs
  | _ => .bad
def itI : D → R (List D)
  | .dic ks vs => .ok (List.zipWith (fun k v => .tup [unkey k, v]) ks vs)
  | _ => .bad
section
variable {K : PySem.W.Frag} {F O : Addr → Prop} {H1 : Hp} {d : Addr} {od : Obj} {kvs : List (Key × V)} {ks : List Key} {ds : List D}
theorem stay_frz {H' : Hp} {a : Addr} {u : HO} (k : Kp O H1 H') (q : H1 a = some (.frz od u)) : H' a = some (.frz od u) := k a _ q fun _ => .inr ⟨_, _, rfl⟩
theorem iw_keys (q : H1 d = some (.frz od (.dK kvs))) (e : kvs.map (·.1) = ks) : IW K F O H1 (ks.map unkey) (Itk d od kvs) := by
  subst e
  refine ⟨fun i H' hi k => ⟨stay_frz k q, by simpa using hi⟩, fun H' k => ⟨stay_frz k q, by simp⟩, fun i H' x H'' hi k y => ?_⟩
  obtain ⟨eh, k1, v1, h1, ex⟩ := y
  subst eh; subst ex
  refine ⟨Same.refl _, unkey k1, by simp [h1], fun F' _ => ?_⟩
  cases k1 with
  | inl i => exact rfl
  | inr s => exact rfl
theorem iw_vals (hO : ∀ a, O a → F a) (q : H1 d = some (.frz od (.dK kvs))) (r : Reps K F H1 ds (kvs.map (·.2))) : IW K F O H1 ds (Itd d od kvs) := by
  have hl : kvs.length = ds.length := by rw [← r.length, List.length_map]
  refine ⟨fun i H' hi k => ⟨stay_frz k q, by omega⟩, fun H' k => ⟨stay_frz k q, by omega⟩, fun i H' x H'' hi k y => ?_⟩
  obtain ⟨eh, k1, h1⟩ := y
  subst eh
  obtain ⟨d1, h2, h3⟩ := r.getV (i := i) (v := x) (by simp [h1])
  exact ⟨Same.refl _, d1, h2, fun F' hF' => h3.mono (k.less hO) hF'⟩
theorem iw_items (hO : ∀ a, O a → F a) (q : H1 d = some (.frz od (.dK kvs))) (e : kvs.map (·.1) = ks) (r : Reps K F H1 ds (kvs.map (·.2))) : IW K F O H1 (List.zipWith (fun k v => .tup [unkey k, v]) ks ds) (Iti d od kvs) := by
  subst e
  have hl : kvs.length = ds.length := by rw [← r.length, List.length_map]
  have zl : (List.zipWith (fun k v => D.tup [unkey k, v]) (kvs.map (·.1)) ds).length = kvs.length := by simp [hl]
  refine ⟨fun i H' hi k => ⟨stay_frz k q, by omega⟩, fun H' k => ⟨stay_frz k q, by omega⟩, fun i H' x H'' hi k y => ?_⟩
  obtain ⟨T, k1, v1, h1, ex, n, eh⟩ := y
  subst eh; subst ex
  obtain ⟨d1, h2, h3⟩ := r.getV (i := i) (v := v1) (by simp [h1])
  refine ⟨same_upd n, .tup [unkey k1, d1], by rw [List.getElem?_zipWith]; simp [h1, h2], fun F' hF' => ⟨T, _, rfl, upd_same, ?_⟩⟩
  refine ⟨_, _, rfl, ?_, _, _, rfl, (h3.mono (k.less hO) hF').same (same_upd n), rfl⟩
  cases k1 with
  | inl i => exact rfl
  | inr s => exact rfl
end
/-! ### an expression that tells the same dict wherever it stands -/
def LkAt (d : Addr) (H HL : Hp) : Prop := HL = H ∨ ∃ od u, H d = some u ∧ isDk u = true ∧ HL = upd H d (.frz od u)
structure SD (X : Cx) (W : WX) (e : Expr) (f : Rho → R (D × Bool)) : Prop where
  pl : ∀ ρ c fs, f ρ ≠ .exc c fs
  ex : ∃ t, PE X e t ∧ ∀ S0 H0 ρ σ H ks vs b, Rl X.K S0 H0 ρ σ H → f ρ = .ok (.dic ks vs, b) → ∃ d, Rep X.K (Fb S0 ρ σ) H (.dic ks vs) (.ref d) ∧ ∀ HL Q, LkAt d H HL → Q (V.ref d) HL → t σ HL Q
section
variable {X : Cx} {W : WX} {tg iter e elt : Expr} {body : List Stmt} {g : D → Rho → R Rho} {fd fe : Rho → R (D × Bool)} {fc : Rho → R Bool} {fs : Rho → Fl} {pos p p2 apos cpos : Pos} {ix : List Nat} {x f : Str} {i : Nat} {C : Addr}
theorem sd_var (hN : X.N[i]? = some x) (hv : Vis X.env.scope x) (hd : (x == ("__debug__" : Str)) = false) (hcd : (x == ("__classdict__" : Str)) = false) : SD X W (.Name x p) (bVar i) := by
  refine ⟨fun ρ c fs h => ?_, _, pe_var hN hv hd hcd, fun S0 H0 ρ σ H ks vs b r h => ?_⟩
  · unfold bVar at h
    split at h <;> cases h
  · unfold bVar at h
    split at h
    · rename_i d hi
      cases h
      obtain ⟨v, h1, h2⟩ := r.clean i _ hi
      obtain ⟨a, kvs, ev, _⟩ := id h2
      subst ev
      exact ⟨a, h2, fun HL Q _ q => ⟨_, h1, q⟩⟩
    · cases h
theorem sd_fld (hN : X.N[i]? = some x) (hv : Vis X.env.scope x) (hd : (x == ("__debug__" : Str)) = false) (hcd : (x == ("__classdict__" : Str)) = false) (c : Cls X.K C) (hn : NoAttr X.K C f) : SD X W (.Attribute (.Name x p) f pos) (bFld i C f) := by
  refine ⟨fun ρ c fs h => ?_, _, pe_fld (pe_var hN hv hd hcd) rfl, fun S0 H0 ρ σ H ks vs b r h => ?_⟩
  · unfold bFld at h
    repeat' split at h
    all_goals cases h
  · unfold bFld at h
    split at h
    · rename_i C' ns ds hi
      by_cases hc : C' = C
      · rw [if_pos hc] at h
        subst hc
        obtain ⟨v, hσ, a, dx, fs, ev, q, _, e2, rs⟩ := r.clean i _ hi
        subst e2
        split at h
        · rename_i d hl
          cases h
          obtain ⟨u, h1, h2⟩ := fld_at rs hl
          obtain ⟨b, kvs, eu, qd, _⟩ := id h2
          subst eu
          refine ⟨b, h2, fun HL Q l qq => ⟨v, hσ, a, _, dx, fs, _, ev, ?_, c, hn, h1, qq⟩⟩
          rcases l with l | ⟨od, u, hu, hk, l⟩
          · rw [l]; exact q
          · have hne : a ≠ b := fun z => by
              rw [z] at q
              rw [q] at hu; cases hu; cases hk
            rw [l, upd_ne hne]; exact q
        · cases h
      · rw [if_neg hc] at h; cases h
    · cases h
/-! ### comprehensions over dicts -/
def bW (it : D → R (List D)) (fd : Rho → R (D × Bool)) : Rho → R (List D) := fun ρ => do let p ← fd ρ; it p.1
/-- a way of walking a dict: keys, values, items -/
structure DW (it : D → R (List D)) (K : PySem.W.Frag) (J : Addr → Obj → List (Key × V) → It) (l : List Key → List D → List D) : Prop where
  it : ∀ d, it d = (match d with | .dic ks vs => R.ok (l ks vs) | _ => .bad)
  iw : ∀ (F O : Addr → Prop) (H1 : Hp) (d : Addr) (od : Obj) (kvs : List (Key × V)) (ks : List Key) (ds : List D), (∀ a, O a → F a) → H1 d = some (.frz od (.dK kvs)) → kvs.map (·.1) = ks → Reps K F H1 ds (kvs.map (·.2)) → IW K F O H1 (l ks ds) (J d od kvs)
theorem dw_keys {K : PySem.W.Frag} : DW itK K Itk fun ks _ => ks.map unkey := ⟨fun d => by cases d <;> rfl, fun F O H1 d od kvs ks ds _ q e _ => iw_keys q e⟩
theorem dw_vals {K : PySem.W.Frag} : DW itV K Itd fun _ vs => vs := ⟨fun d => by cases d <;> rfl, fun F O H1 d od kvs ks ds hO q _ r => iw_vals hO q r⟩
theorem dw_items {K : PySem.W.Frag} : DW itI K Iti fun ks vs => List.zipWith (fun k v => .tup [unkey k, v]) ks vs := ⟨fun d => by cases d <;> rfl, fun F O H1 d od kvs ks ds hO q e r => iw_items hO q e r⟩
theorem PF.unlock {K : PySem.W.Frag} {F : Addr → Prop} {H HL H' : Hp} {d : Addr} {u : HO} {od : Obj} {p : D × Bool} {v : V} (hu : isDk u = true) (hl : HL = upd H d (.frz od u)) (h' : H' d = some (.frz od u)) (q : PF K F HL p v H') : PF K F H p v (upd H' d u) := by
  refine ⟨Rep.lk (lk_un h' hu) _ _ q.1, fun z => ?_⟩
  obtain ⟨a, ev, n, t⟩ := q.2 z
  have hne : a ≠ d := fun z => by rw [z] at t; exact top_frz t h'
  refine ⟨a, ev, ?_, Top.lk (lk_un h' hu) (upd_ne hne).symm t⟩
  rw [hl, upd_ne hne] at n
  exact n
theorem same_unlock {H H' : Hp} {d : Addr} {u : HO} {od : Obj} (h : H d = some u) (s : Same (upd H d (.frz od u)) H') : Same H (upd H' d u) := fun a o e => by
  by_cases q : a = d
  · rw [q] at e ⊢
    rw [upd_same, ← h, e]
  · rw [upd_ne q]
    exact s a o (by rw [upd_ne q]; exact e)
theorem pe_or2 {e : Expr} {t u : TE} (h : PE X e t) (k : PE X e u) : PE X e (fun σ H Q => t σ H Q ∨ u σ H Q) := ⟨fun pins s σ H Q I z => z.elim (h.run pins s σ H Q I) (k.run pins s σ H Q I)⟩
theorem ps_or2 {st : Stmt} {t u : TS} (h : PS X st t) (k : PS X st u) : PS X st (fun Dd σ H => t Dd σ H ∨ u Dd σ H) := ⟨fun pins s σ H Dd I z => z.elim (h.run pins s σ H Dd I) (k.run pins s σ H Dd I)⟩
section
variable {scope : Scope} {own : List (Str × Nat)} {it : D → R (List D)} {J : Addr → Obj → List (Key × V) → It} {l : List Key → List D → List D}
theorem lcW_sem {td : TE} {wi : TI} {vs : List Nat} (dw : DW it X.K J l) (hpl : ∀ ρ c fs, fd ρ ≠ .exc c fs)
    (htd : ∀ S0 H0 ρ σ H ks vs b, Rl X.K S0 H0 ρ σ H → fd ρ = .ok (.dic ks vs, b) → ∃ d, Rep X.K (Fb S0 ρ σ) H (.dic ks vs) (.ref d) ∧ ∀ HL Q, LkAt d H HL → Q (V.ref d) HL → td σ HL Q)
    (hwi : ∀ σ HL Rr d od kvs, HL d = some (.frz od (.dK kvs)) → (∀ Q, Q (V.ref d) HL → td σ HL Q) → Rr (J d od kvs) HL → wi σ HL Rr)
    (hiv : ∀ i ∈ ix, i ∈ vs) (gkp : ∀ d ρ ρ', g d ρ = .ok ρ' → ∀ i, i ∉ ix → ρ'[i]? = ρ[i]?) :
    SemF X W (fun σ H Q => tLockE (tLc wi (gOf X.K ix g) (ttOf X.K X.mg W0 fc) (tOf X.K X.mg W0 fe) vs) σ H Q ∨ tLc wi (gOf X.K ix g) (ttOf X.K X.mg W0 fc) (tOf X.K X.mg W0 fe) vs σ H Q) (bComp vs (bW it fd) g fc fe) := by
  intro S0 H0 ρ σ H Q r w
  have hO : ∀ a, OwnA ρ σ a → Fb S0 ρ σ a := fun a z => .inr z
  have bad : ∀ {α : Type} {x : R α} {y : α}, (bW it fd ρ = .bad) → False := fun {α x y} e => by
    unfold bComp at w
    rw [e] at w
    exact w
  cases hf : fd ρ with
  | bad => exact (bad (α := Unit) (x := .bad) (y := ()) (by unfold bW; rw [hf]; rfl)).elim
  | exc c fs => exact absurd hf (hpl _ _ _)
  | ok p =>
    obtain ⟨d0, b⟩ := p
    have hit := dw.it d0
    have hbw : bW it fd ρ = it d0 := by unfold bW; rw [hf]; rfl
    cases d0 with
    | dic ks dvs =>
      have hbw2 : bW it fd ρ = .ok (l ks dvs) := hbw.trans hit
      obtain ⟨d, hrep, hst⟩ := htd S0 H0 ρ σ H ks dvs b r hf
      obtain ⟨d', kvs, ed, hd, nF, ek, rs⟩ := id hrep
      cases ed
      have wok : ∀ {HL : Hp} {Rr : It → Hp → Prop} {od : Obj}, HL d = some (.frz od (.dK kvs)) → Reps X.K (Fb S0 ρ σ) HL dvs (kvs.map (·.2)) → LkAt d H HL → Want X.K X.mg W σ HL Rr (fun ds J H1 => IW X.K (Fb S0 ρ σ) (OwnA ρ σ) H1 ds J) (bW it fd ρ) → wi σ HL Rr := fun {HL Rr od} e r2 lk wn => by
        rw [hbw2] at wn
        exact hwi σ HL Rr d od kvs e (fun Q q => hst HL Q lk q) (wn _ _ (Same.refl _) (dw.iw _ _ _ _ _ _ _ _ hO e ek r2))
      rcases hd with hd | ⟨od, hd⟩
      · refine .inl ⟨d, .dK kvs, hd, True.intro, fun od => ?_⟩
        have lk : LkEq H (upd H d (.frz od (.dK kvs))) := lk_at hd rfl
        have rL := r.lock (od := od) hd rfl fun z => nF (.inr z)
        refine lc_at hiv gkp rL (fun Rr wn => wok upd_same (Reps.lk lk _ _ rs) (.inr ⟨od, _, hd, rfl, rfl⟩) wn) ?_
        cases hb : bComp vs (bW it fd) g fc fe ρ with
        | bad => rw [hb] at w; exact w
        | exc c fs =>
          exfalso
          have hb' : (match compL g fc fe (l ks dvs) (wipeR ρ vs) with
            | .ok out => if out.length ≤ sizeLine then R.ok (D.lst out, true) else .bad
            | _ => .bad) = R.exc c fs := by
            unfold bComp at hb
            rw [hbw2] at hb
            exact hb
          split at hb'
          · split at hb' <;> cases hb'
          · cases hb'
        | ok q =>
          rw [hb] at w
          intro v H' s pf
          have h' : H' d = some (.frz od (.dK kvs)) := s _ _ upd_same
          exact ⟨h', w v _ (same_unlock hd s) (PF.unlock rfl rfl h' pf)⟩
      · exact .inr (lc_at hiv gkp r (fun Rr wn => wok hd rs (.inl rfl) wn) w)
    | _ => exact (bad (α := Unit) (x := .bad) (y := ()) (hbw.trans hit)).elim
theorem sf_lcK {ifs : List Expr} (hc : X.calm = true) (hN : X.N.Nodup) (sd : SD X W e fd) (hs : isSet e = false) (ok : BlkOk X.N X.env.scope scope own) (hiv : ∀ i ∈ ix, i ∈ own.map (·.2))
    (hg : ∀ (s : Shared) (H : Hp) (C : Addr) (cl : List (Str × Addr)) (fp : List Addr), SG (X.blk s H scope (compEnvC scope cl C X.env) fp) tg ix g)
    (ht : ∀ (s : Shared) (H : Hp) (C : Addr) (cl : List (Str × Addr)) (fp : List Addr), STs (X.blk s H scope (compEnvC scope cl C X.env) fp) W0 ifs fc)
    (he : ∀ (s : Shared) (H : Hp) (C : Addr) (cl : List (Str × Addr)) (fp : List Addr), SF (X.blk s H scope (compEnvC scope cl C X.env) fp) W0 elt fe)
    (gkp : ∀ d ρ ρ', g d ρ = .ok ρ' → ∀ i, i ∉ ix → ρ'[i]? = ρ[i]?) : SF X W (.ListComp elt [⟨tg, e, ifs, 0⟩] scope pos) (bComp (own.map (·.2)) (bW itK fd) g fc fe) := by
  obtain ⟨td, pd, htd⟩ := sd.ex
  have pl := pe_lc (pos := pos) (g := gOf X.K ix g) (tt := ttOf X.K X.mg W0 fc) (te := tOf X.K X.mg W0 fe) hc hN (pi_keys (tg := tg) pd) ok (fun s H C cl fp => (hg s H C cl fp).pg) (fun s H C cl fp => (ht s H C cl fp).pts) (fun s H C cl fp => (he s H C cl fp).pe) (folded_pl hs _)
  exact ⟨rfl, _, pe_or2 (pe_lock pl) pl, lcW_sem dw_keys sd.pl htd (fun σ HL Rr d od kvs h k q => k _ ⟨d, od, rfl, .inl ⟨kvs, h, q⟩⟩) hiv gkp⟩
theorem sf_lcV {ifs : List Expr} (hc : X.calm = true) (hN : X.N.Nodup) (sd : SD X W e fd) (hbase : attributeBase e "values" X.env (eval e X.env) = eval e X.env) (hline : (apos.endLine == cpos.line) = true) (ok : BlkOk X.N X.env.scope scope own) (hiv : ∀ i ∈ ix, i ∈ own.map (·.2))
    (hg : ∀ (s : Shared) (H : Hp) (C : Addr) (cl : List (Str × Addr)) (fp : List Addr), SG (X.blk s H scope (compEnvC scope cl C X.env) fp) tg ix g)
    (ht : ∀ (s : Shared) (H : Hp) (C : Addr) (cl : List (Str × Addr)) (fp : List Addr), STs (X.blk s H scope (compEnvC scope cl C X.env) fp) W0 ifs fc)
    (he : ∀ (s : Shared) (H : Hp) (C : Addr) (cl : List (Str × Addr)) (fp : List Addr), SF (X.blk s H scope (compEnvC scope cl C X.env) fp) W0 elt fe)
    (gkp : ∀ d ρ ρ', g d ρ = .ok ρ' → ∀ i, i ∉ ix → ρ'[i]? = ρ[i]?) : SF X W (.ListComp elt [⟨tg, .Call (.Attribute e "values" apos) [] [] cpos, ifs, 0⟩] scope pos) (bComp (own.map (·.2)) (bW itV fd) g fc fe) := by
  obtain ⟨td, pd, htd⟩ := sd.ex
  have pl := pe_lc (pos := pos) (g := gOf X.K ix g) (tt := ttOf X.K X.mg W0 fc) (te := tOf X.K X.mg W0 fe) hc hN (pi_values (tg := tg) pd hbase hline) ok (fun s H C cl fp => (hg s H C cl fp).pg) (fun s H C cl fp => (ht s H C cl fp).pts) (fun s H C cl fp => (he s H C cl fp).pe) (folded_pl rfl _)
  exact ⟨rfl, _, pe_or2 (pe_lock pl) pl, lcW_sem dw_vals sd.pl htd (fun σ HL Rr d od kvs h k q => k _ ⟨d, od, kvs, rfl, h, q⟩) hiv gkp⟩
end
end
end VM
/-! VMn: tuple(d.values()), list(d.values()), sorted(xs, key=min). -/
namespace VM
open PySem L2
/-! ### tuple(view) -/
section
open PySem.Spec PyProof.Rows PySem.W
variable {prog : Program} {w : World} {A : Around} {E : Value → Shared → Prop} {s : Shared} {r d : Addr} {n : Nat} {P : Nat → Value → Prop} {OK : Heap → Prop}
theorem collect_src {T : String} {Q : List Value → Shared → Prop} (K : KdlSrc prog w T r d n P OK) (hh : A.handled = none) (hok : OK s.heap) (hlen : n ≤ sizeLine)
    (hQ : ∀ (h' : Heap) (tk : Nat) (acc : Array Value), (∀ b o, s.heap.get? b = some o → h'.get? b = some o) → ItemsOf P acc n → Q acc.toList { s with heap := h', toks := tk }) :
    wpAny (model prog w) A (collect (.ref r)) Q E s := by
  have hlt := K.there _ hok
  unfold collect
  refine wpAny_bind (wpAny_runValue (codeAny_builtin F.entry_proto_collect ?_))
  rw [Around.under_plainId F.plain_proto_collect _]
  show wpAny _ A.in1 (newList [] >>= fun l => again (.builtin "list.__iadd__" ⟨[l, .ref r], []⟩)) _ _ s
  refine wpAny_bind (wpAny_newObj_type ?_)
  refine wpAny_pure ⟨plainId_quiet F.plain_list_iadd _, codeAny_builtin F.entry_list_iadd ?_⟩
  rw [Around.under_plainId F.plain_list_iadd _]
  show wpAny _ A.in1 (Builtin.List.listExtendWith (.ref s.heap.objs.size) (.ref r) (.ref s.heap.objs.size)) _ _ _
  have hS : (s.heap.push { cls := .type "list", data := .seq ([] : List Value).toArray }).get? s.heap.objs.size = some { cls := .type "list", data := .seq #[] 0 } := Heap.get?_push_size _ rfl
  refine wpAny_mono (kdl_extend (A := A) (R := fun rr s' => rr = .ok (.ret (.ref s.heap.objs.size)) ∧ ∃ (h' : Heap) (tk : Nat) (acc : Array Value) (c' : Nat), s' = { s with heap := h', toks := tk } ∧
      (∀ b o, s.heap.get? b = some o → h'.get? b = some o) ∧ h'.get? s.heap.objs.size = some { cls := .type "list", dict := none, data := .seq acc c', slots := #[] } ∧ ItemsOf P acc n)
    (s := { s with heap := s.heap.push { cls := .type "list", data := .seq ([] : List Value).toArray } }) K hh (K.keep _ _ hok fun b _ o e => Heap.get?_push_of_some _ e) _ (Nat.ne_of_gt hlt.1) (Nat.ne_of_gt hlt.2) _ 0 hS
    (fun h' tk acc c' hk e hi => ⟨rfl, h', tk, acc, c', rfl, fun b o q => hk b o (Nat.ne_of_lt (Heap.lt_size q)) (Heap.get?_push_of_some _ q), e, hi⟩) hlen) (fun fin s' h => ?_) (fun e s' h => ?_)
  · cases fin with
    | done f =>
      obtain ⟨e, h', tk, acc, c', rfl, hk, hS', hi⟩ := h
      cases e
      show wpAny _ A (load s.heap.objs.size >>= _) _ _ _
      exact wpAny_bind (wpAny_load hS' (wpAny_pure (hQ h' tk acc hk hi)))
    | again c' =>
      refine ⟨h.1, codeAny_mono h.2 fun rr s'' hr' => ?_⟩
      obtain ⟨rfl, h', tk, acc, c', rfl, hk, hS', hi⟩ := hr'
      show wpAny _ A (load s.heap.objs.size >>= _) _ _ _
      exact wpAny_bind (wpAny_load hS' (wpAny_pure (hQ h' tk acc hk hi)))
  · exact absurd h.1 (by simp)
theorem code_tuple_new_vals {Q₁ : Value → Shared → Prop} (K : KdlSrc prog w "dict_values" r d n P OK) (hh : A.handled = none) (hok : OK s.heap) (hlen : n ≤ sizeLine)
    (h : ∀ (h' : Heap) (tk : Nat) (acc : Array Value), (∀ b o, s.heap.get? b = some o → h'.get? b = some o) → ItemsOf P acc n →
      Q₁ (.ref h'.objs.size) { s with heap := h'.push { cls := .type "tuple", data := .seq acc }, toks := tk }) :
    codeAny (model prog w) A (.call (.builtin "tuple.__new__") ⟨[.type "tuple", .ref r], []⟩) (wants Q₁ E) s := by
  refine codeAny_of_tree ?_
  show wpAny _ A.in1 (do checkBuiltinCall "tuple.__new__" ⟨[.type "tuple", .ref r], []⟩; again (.builtin "tuple.__new__" ⟨[.type "tuple", .ref r], []⟩)) _ _ s
  refine wpAny_bind (wpAny_of_eq (F.newCall_tuple_1 _) (wpAny_pure ⟨plainId_quiet F.plain_tuple_new _, codeAny_builtin F.entry_tuple_new ?_⟩))
  rw [Around.under_plainId F.plain_tuple_new _]
  have hsub := sub_tuple_self
  have hinit := init_tuple_lookup
  have hmh := madeHere_tuple
  have hTI : s.TypeIs (.ref r) "dict_values" := K.type _ hok
  have hh1 : A.in1.handled = none := hh
  wp_walk using wpAny_typeOf hTI, collect_src (A := A.in1) K hh1 hok hlen
  intro h' tk acc hk hacc
  show wpAny _ _ (Builtin.Tuple.tupleExact acc.toList.toArray >>= fun v => ret v) _ _ _
  unfold Builtin.Tuple.tupleExact
  refine wpAny_bind (wpAny_newObj_type ?_ (by show acc.toList.toArray.size ≤ sizeLine; simp only [Array.toArray_toList]; rw [hacc.1]; exact hlen))
  refine wpAny_pure ?_
  have e : acc.toList.toArray = acc := by simp
  rw [e]
  exact h h' tk acc hk hacc
theorem call_tuple_vals {Q : Value → Shared → Prop} (K : KdlSrc prog w "dict_values" r d n P OK) (hh : A.handled = none) (hok : OK s.heap) (hlen : n ≤ sizeLine)
    (hQ : ∀ (h' : Heap) (tk : Nat) (acc : Array Value), (∀ b o, s.heap.get? b = some o → h'.get? b = some o) → ItemsOf P acc n →
      Q (.ref h'.objs.size) { s with heap := h'.push { cls := .type "tuple", data := .seq acc }, toks := tk }) :
    wpAny (model prog w) A (call (.type "tuple") [.ref r]) Q E s := by
  refine callType_codes (Q₁ := fun obj s₁ => s₁.TypeIs obj "tuple" ∧ Q obj s₁) F.called_tuple (F.typeCall_tuple_1 _) F.entry_object_init
    (code_tuple_new_vals (A := A.in1) K hh hok hlen fun h' tk acc hk hacc => ⟨⟨_, Heap.get?_push_size _ rfl, rfl⟩, hQ h' tk acc hk hacc⟩) fun obj s₁ h₁ => ?_
  exact ⟨h₁.1, F.args_object_init_2 obj _, object_init_meets F.called_tuple.init.lookup F.called_tuple.made (by decide) prog w A.in1 _ s₁ ⟨h₁.1, rfl, h₁.2⟩⟩
end
/-! ### d.values() in a call -/
def tVals (k : List V → Addr → Hp → VK → Prop) (td : TE) : TE := fun σ H Q => td σ H fun x H1 => ∃ a kvs, x = V.ref a ∧ Rd H1 a (.dK kvs) ∧ k (kvs.map (·.2)) a H1 Q
def kNewL (vs : List V) (_ : Addr) (H : Hp) (Q : VK) : Prop := ∀ p, H p = none → Q (.ref p) (upd H p (.lst vs))
def kNewT (vs : List V) (_ : Addr) (H : Hp) (Q : VK) : Prop := ∀ p, H p = none → Q (.ref p) (upd H p (.tup vs))
section
open PySem.Spec PyProof.Rows PySem.W
variable {X : Cx} {o : Expr} {p pos apos mpos : Pos} {td : TE}
theorem eval_values {pins : List (Addr × Obj)} {s : Shared} {σ : L2.St} {H : Hp} {Q : Value → Shared → Prop} {k : List V → Addr → Hp → Prop} (hd : PE X o td) (I : Inv X pins σ H s)
    (hbase : attributeBase o "values" X.env (eval o X.env) = eval o X.env) (hline : (apos.endLine == mpos.line) = true)
    (h : td σ H fun x H1 => ∃ a kvs, x = V.ref a ∧ Rd H1 a (.dK kvs) ∧ k (kvs.map (·.2)) a H1)
    (q : ∀ s1 H1 a (kvs : List (Key × V)) (vs : List (Key × Value)) ep, Inv X pins σ H1 s1 → k (kvs.map (·.2)) a H1 → KV kvs vs → s1.heap.DictAt (mixKind X.prog X.w) a vs ep → kvs.length ≤ sizeLine → Q (.ref s1.heap.objs.size) { s1 with heap := s1.heap.push { cls := .type "dict_values", data := .fields #[.ref a] } }) :
    wpAny (model X.prog X.w) X.A (eval (Expr.Call (.Attribute o "values" apos) [] [] mpos) X.env) Q X.xe s := by
  refine wpAny_Call_method0_late hbase hline (thn (hd.run pins s σ H _ I h) fun v s1 ⟨x, H1, I1, r1, a, kvs, ex, ha, q1⟩ => ?_)
  subst ex
  obtain rfl : v = Value.ref a := r1
  obtain ⟨hz, hsys, vs, rel, dof⟩ := dk_rd I1.hok ha
  obtain ⟨ep, dat⟩ := dof.dictAt
  have dat' := dat
  obtain ⟨ob, es, ho, ex, hdat, hko, hpr, hnd⟩ := dat'
  refine ⟨"dict", "dict.values", F.plainAttrs_dict, F.slot_dict_values, F.type_dict_values, ⟨ob, ho, ex.1⟩, fun b e => ?_, Calls.callWith_builtin rfl (PySem.evalArgs_none ?_)⟩
  · cases e
    exact ⟨ob, ho, ex.2.1⟩
  exact call_meetsIn F.slot_dict_values ⟨ob, ho, ex.1⟩ F.entry_dict_values (F.args_dict_values_1 _) (meets_dict_values (mixKind X.prog X.w) a hsys) ⟨⟨vs, dof⟩, q s1 H1 a kvs vs ep I1 q1 rel dat hz⟩
theorem vals_items {kvs : List (Key × V)} {vs : List (Key × Value)} {acc : Array Value} (rel : KV kvs vs) (hi : ItemsOf (fun i v => ∃ k, vs[i]? = some (k, v)) acc vs.length) : Vals (kvs.map (·.2)) acc.toList := by
  have hl : kvs.length = vs.length := Paired.length rel
  have el : acc.toList.length = acc.size := by simp
  refine vals_of_at (by rw [List.length_map, el, hi.1, hl]) fun j x u h1 h2 => ?_
  obtain ⟨k, hk⟩ := hi.2 j u (by rw [← Array.getElem?_toList]; exact h2)
  obtain ⟨y, g1, g2⟩ := KV.at' rel hk
  rw [List.getElem?_map, g1] at h1
  cases h1
  exact g2
theorem pe_listVals (hc : X.calm = true) (hg : Gl X "list") (hm : X.mg "list" = none) (hd : PE X o td) (hbase : attributeBase o "values" X.env (eval o X.env) = eval o X.env) (hline : (apos.endLine == mpos.line) = true) :
    PE X (.Call (.Name "list" p) [.Call (.Attribute o "values" apos) [] [] mpos] [] pos) (tVals kNewL td) := by
  refine ⟨fun pins s σ H Q I h => ?_⟩
  refine Call_ (ld_blt I hg hm boot_list (PyProof.Rows.callWith_type1 (args_cons (eval_values (k := fun vs a H1 => kNewL vs a H1 Q) hd I hbase hline h fun s1 H1 a kvs vs ep I1 q rel dat hz => args_nil ?_) rfl) rfl))
  have hl : kvs.length = vs.length := Paired.length rel
  have k1 : ∀ b u, s1.heap.get? b = some u → (s1.heap.push { cls := .type "dict_values", data := .fields #[.ref a] }).get? b = some u := fun b u e => Heap.get?_push_of_some _ e
  have I2 : Inv X pins σ H1 { s1 with heap := s1.heap.push { cls := .type "dict_values", data := .fields #[.ref a] } } := I1.kept (t' := s1.toks) k1
  refine kdl_call (s := { s1 with heap := s1.heap.push { cls := .type "dict_values", data := .fields #[.ref a] } }) (kdl_values (knd := mixKind X.prog X.w) (kvs := vs) (ep := ep)) (I1.ok.hd hc) ⟨⟨_, Heap.get?_push_size _ rfl, rfl, rfl⟩, dat.keep k1⟩ (by rw [← hl]; exact hz) fun h' tk acc c' hk hS hacc => ?_
  have hzl : (kvs.map (·.2)).length ≤ sizeLine := by rw [List.length_map]; exact hz
  exact ⟨.ref _, upd H1 _ (.lst (kvs.map (·.2))), I2.laid (t' := tk) hk (Nat.le_refl _) (show ObjOk X.prog X.w _ _ _ (.lst (kvs.map (·.2))) from ⟨hzl, acc.toList, c', vals_items rel hacc, by rw [Array.toArray_toList]; exact hS⟩), rfl, q _ (I2.hok.fresh (Nat.le_refl _))⟩
theorem pe_tupVals (hc : X.calm = true) (hg : Gl X "tuple") (hm : X.mg "tuple" = none) (hd : PE X o td) (hbase : attributeBase o "values" X.env (eval o X.env) = eval o X.env) (hline : (apos.endLine == mpos.line) = true) :
    PE X (.Call (.Name "tuple" p) [.Call (.Attribute o "values" apos) [] [] mpos] [] pos) (tVals kNewT td) := by
  refine ⟨fun pins s σ H Q I h => ?_⟩
  refine Call_ (ld_blt I hg hm boot_tuple (PyProof.Rows.callWith_type1 (args_cons (eval_values (k := fun vs a H1 => kNewT vs a H1 Q) hd I hbase hline h fun s1 H1 a kvs vs ep I1 q rel dat hz => args_nil ?_) rfl) rfl))
  have hl : kvs.length = vs.length := Paired.length rel
  have k1 : ∀ b u, s1.heap.get? b = some u → (s1.heap.push { cls := .type "dict_values", data := .fields #[.ref a] }).get? b = some u := fun b u e => Heap.get?_push_of_some _ e
  have I2 : Inv X pins σ H1 { s1 with heap := s1.heap.push { cls := .type "dict_values", data := .fields #[.ref a] } } := I1.kept (t' := s1.toks) k1
  refine call_tuple_vals (s := { s1 with heap := s1.heap.push { cls := .type "dict_values", data := .fields #[.ref a] } }) (kdl_values (knd := mixKind X.prog X.w) (kvs := vs) (ep := ep)) (I1.ok.hd hc) ⟨⟨_, Heap.get?_push_size _ rfl, rfl, rfl⟩, dat.keep k1⟩ (by rw [← hl]; exact hz) fun h' tk acc hk hacc => ?_
  have hzl : (kvs.map (·.2)).length ≤ sizeLine := by rw [List.length_map]; exact hz
  have I3 : Inv X pins σ H1 { s1 with heap := h', toks := tk } := I2.kept hk
  exact ⟨.ref h'.objs.size, upd H1 h'.objs.size (.tup (kvs.map (·.2))), I3.laid (t' := tk) (fun b o e => Heap.get?_push_of_some _ e) (Nat.le_refl _) (show ObjOk X.prog X.w _ _ _ (.tup (kvs.map (·.2))) from ⟨hzl, acc.toList, vals_items rel hacc, by rw [Array.toArray_toList]; exact IsTup.new _ _⟩), rfl, q _ (I3.hok.fresh (Nat.le_refl _))⟩
end
/-! ### the functions -/
def gVals (tup : Bool) : D → R (D × Bool)
  | .dic _ vs => if tup = true then .ok (.tup vs, false) else .ok (.lst vs, true)
  | _ => .bad
def bVals (tup : Bool) (f : Rho → R (D × Bool)) : Rho → R (D × Bool) := fun ρ => do let x ← f ρ; gVals tup x.1
section
variable {X : Cx} {W : WX} {o : Expr} {fo : Rho → R (D × Bool)} {p pos apos mpos : Pos}
theorem sf_tupVals (hc : X.calm = true) (hg : Gl X "tuple") (hm : X.mg "tuple" = none) (ho : SA X W o fo) (hb : attributeBase o "values" X.env (eval o X.env) = eval o X.env) (hline : (apos.endLine == mpos.line) = true) :
    SF X W (.Call (.Name "tuple" p) [.Call (.Attribute o "values" apos) [] [] mpos] [] pos) (bVals true fo) := by
  obtain ⟨t, pe, h⟩ := ho.ex
  refine ⟨rfl, _, pe_tupVals hc hg hm pe hb hline, fun S0 H0 ρ σ H Q r w => ?_⟩
  refine h S0 H0 ρ σ H _ r (Want.bind w fun d x Ha sa pa wa => ?_)
  obtain ⟨dd, fl⟩ := d
  cases dd with
  | dic ks ds =>
    have pe : RepE X.K (Fb S0 ρ σ) Ha (.dic ks ds) x := pa.e
    obtain ⟨a, kvs, ex, hq, e2, rs⟩ := pe.dic
    exact ⟨a, kvs, ex, hq, fun q n => wa _ _ (same_upd n) (PF.newT n rs)⟩
  | _ => exact wa.elim
theorem sf_lstVals (hc : X.calm = true) (hg : Gl X "list") (hm : X.mg "list" = none) (ho : SA X W o fo) (hb : attributeBase o "values" X.env (eval o X.env) = eval o X.env) (hline : (apos.endLine == mpos.line) = true) :
    SF X W (.Call (.Name "list" p) [.Call (.Attribute o "values" apos) [] [] mpos] [] pos) (bVals false fo) := by
  obtain ⟨t, pe, h⟩ := ho.ex
  refine ⟨rfl, _, pe_listVals hc hg hm pe hb hline, fun S0 H0 ρ σ H Q r w => ?_⟩
  refine h S0 H0 ρ σ H _ r (Want.bind w fun d x Ha sa pa wa => ?_)
  obtain ⟨dd, fl⟩ := d
  cases dd with
  | dic ks ds =>
    have pe : RepE X.K (Fb S0 ρ σ) Ha (.dic ks ds) x := pa.e
    obtain ⟨a, kvs, ex, hq, e2, rs⟩ := pe.dic
    exact ⟨a, kvs, ex, hq, fun q n => wa _ _ (same_upd n) (PF.newL (fun a z => r.fbH z) sa n rs)⟩
  | _ => exact wa.elim
end
/-! ### sorted(xs, key=min) -/
section
open PySem.Spec PyProof.Rows PySem.W
theorem each_of_vals {α : Type} : ∀ {zs : List (V × α)} {its : List Value}, Vals (zs.map (·.1)) its → EachIs (fun v (z : V × α) => RelV z.1 v) its zs
  | [], _, h => by
    generalize e : ([] : List (V × α)).map (·.1) = l at h
    cases h
    · exact .nil
    · cases e
  | z :: zs, _, h => by
    generalize e : (z :: zs).map (·.1) = l at h
    cases h with
    | nil => cases e
    | cons r t =>
      cases e
      exact .cons r (each_of_vals t)
theorem vals_of_each {α : Type} : ∀ {zs : List (V × α)} {its : List Value}, EachIs (fun v (z : V × α) => RelV z.1 v) its zs → Vals (zs.map (·.1)) its
  | _, _, .nil => .nil
  | _, _, .cons r t => .cons r (vals_of_each t)
def zLe (a b : V × Int) : Bool := decide (a.2 ≤ b.2)
/-- the key of a list of ints: its least -/
def MinOf (K : PySem.W.Frag) (H : Hp) (z : V × Int) : Prop := ∃ (b : Addr) (ns : List Int), z.1 = V.ref b ∧ SqL K H b (ns.map V.int) ∧ 0 < ns.length ∧ z.2 ∈ ns ∧ ∀ n ∈ ns, z.2 ≤ n
def tSortMin (K : PySem.W.Frag) (te : TE) : TE := fun σ H Q => te σ H fun x H1 => ∃ (a : Addr) (zs : List (V × Int)), x = V.ref a ∧ SqL K H1 a (zs.map (·.1)) ∧ (∀ z ∈ zs, MinOf K H1 z) ∧ ∀ p, H1 p = none → Q (.ref p) (upd H1 p (.lst ((zs.mergeSort zLe).map (·.1))))
variable {X : Cx} {e : Expr} {p p2 pos kpos : Pos} {te : TE}
theorem pe_sortMin (hc : X.calm = true) (hu : X.A.units + 65 < cLine) (hg : Gl X "sorted") (hm : X.mg "sorted" = none) (hg2 : Gl X "min") (hm2 : X.mg "min" = none) (ha : PE X e te) (ns : isStar e = false) :
    PE X (.Call (.Name "sorted" p) [e] [⟨some "key", .Name "min" p2, kpos⟩] pos) (tSortMin X.K te) := by
  have na := star_of ns [] X.env
  refine ⟨fun pins s σ H Q I h => ?_⟩
  refine wpAny_Call_Name_kw (ld_blt I hg hm boot_sorted ?_)
  refine PyProof.Rows.callWith_kw (args_cons (thn (ha.run pins s σ H _ I h) fun v s1 ⟨x, H1, I1, r1, a, zs, ex, hs, hz, q⟩ => args_nil ?_) na) (by rw [na]; rfl) (by rw [na]; rfl)
  subst ex
  obtain rfl : v = Value.ref a := r1
  show wpAny _ _ (evalAll [do let v ← eval (.Name "min" p2) X.env; standAt pos; pure v]) _ _ s1
  refine wpAny_evalAll_cons (wpAny_bind (ld_blt I1 hg2 hm2 boot_min (wpAny_bind (wpAny_standAt (wpAny_pure (wpAny_evalAll_nil ?_))))))
  obtain ⟨its, rv, hl, hzl⟩ := I1.list hs
  have ee := each_of_vals rv
  have hlen : zs.length ≤ sizeLine := by rw [List.length_map] at hzl; exact hzl
  refine sorted_key_data (b := false) (kw := [(Str.ofString "key", .builtin "min")]) (fun z : V × Int => PyData.int z.2) hl.isList (EachIs.of_zip (R := fun v (z : V × Int) => RelV z.1 v) ee.length ee.zip) (AllAlike.of fun _ _ => by simp [alike]) (Sortable.others fun _ => ⟨by simp, by simp⟩) hlen (fun z _ => ?_) (ksk_s1 _ _) (fun _ => ksk_l1 _ _) (fun _ => ksk_t4 _ _) (fun v z hv hz0 h tk kp => ?_) fun out c h' tk kp hn hD hol eo => ?_
  · have hd : (PyData.int z.2).depth = 0 := by simp [PyData.depth]
    omega
  · obtain ⟨b, ns, e1, hb, h0, hmem, hle⟩ := hz z hz0
    obtain ⟨its2, rv2, hl2, _⟩ := I1.list hb
    rw [e1] at hv
    obtain rfl : v = Value.ref b := hv
    obtain ⟨o, ho, hr⟩ := hl2.isList
    refine min_raw (s := { s1 with heap := h, toks := tk }) (I1.ok.hd hc) ⟨o, kp b o ho, hr⟩ rv2.ints h0 fun h2 tk2 m t' hk hm1 hm2 => ?_
    have em : m = z.2 := Int.le_antisymm (hm2 _ hmem) (hle _ hm1)
    subst em
    exact ⟨h2, tk2, rfl, hk, .int _ _⟩
  · rw [dataLe_int] at eo
    have rv' : Vals ((zs.mergeSort zLe).map (·.1)) out := vals_of_each eo
    have hl' : ((zs.mergeSort zLe).map (·.1)).length ≤ sizeLine := by rw [List.length_map, List.length_mergeSort]; exact hlen
    exact ⟨.ref _, upd H1 (s1.heap.objs.size + 1) (.lst ((zs.mergeSort zLe).map (·.1))), I1.laid (t' := tk) kp (Nat.le_succ _) ⟨hl', out, c, rv', hD⟩, rfl, q _ (I1.hok.fresh (Nat.le_succ _))⟩
end
def lminD : D → Option Int
  | .lst xs => match intsD xs with
    | some ns => intMin ns
    | none => none
  | _ => none
def lmD (d : D) : Int := (lminD d).getD 0
def lmLe (a b : D) : Bool := decide (lmD a ≤ lmD b)
def gSortMin : D → R (D × Bool)
  | .lst xs => if xs.all (fun d => (lminD d).isSome) = true then .ok (.lst (xs.mergeSort lmLe), true) else .bad
  | _ => .bad
def bSortMin (f : Rho → R (D × Bool)) : Rho → R (D × Bool) := fun ρ => do let x ← f ρ; gSortMin x.1
section
variable {K : PySem.W.Frag} {F : Addr → Prop} {H : Hp}
theorem reps_zip : ∀ {ws : List (V × D)}, (∀ w ∈ ws, Rep K F H w.2 w.1) → Reps K F H (ws.map (·.2)) (ws.map (·.1))
  | [], _ => rfl
  | w :: ws, h => ⟨_, _, rfl, h w List.mem_cons_self, reps_zip fun x hx => h x (List.mem_cons_of_mem _ hx)⟩
theorem zip_reps : ∀ {ds : List D} {vs : List V}, Reps K F H ds vs → ∃ ws : List (V × D), ds = ws.map (·.2) ∧ vs = ws.map (·.1) ∧ ∀ w ∈ ws, Rep K F H w.2 w.1
  | [], vs, r => ⟨[], rfl, r, fun w h => by cases h⟩
  | d :: ds, vs, r => by
    obtain ⟨v, vs', e, r1, rs⟩ := r
    obtain ⟨ws, e1, e2, h⟩ := zip_reps rs
    exact ⟨(v, d) :: ws, by rw [e1]; rfl, by rw [e, e2]; rfl, fun w hw => (List.mem_cons.mp hw).elim (fun z => by rw [z]; exact r1) (h w)⟩
theorem min_of {d : D} {v : V} {m : Int} (r : Rep K F H d v) (e : lminD d = some m) : MinOf K H (v, m) := by
  cases d with
  | lst xs =>
    obtain ⟨a, us, ev, hq, nf, rs⟩ := r
    unfold lminD at e
    dsimp only at e
    cases hi : intsD xs with
    | none => rw [hi] at e; cases e
    | some ns =>
      rw [hi] at e
      obtain ⟨m1, m2⟩ := intMin_le e
      have eu := intsD_V rs hi
      subst eu
      exact ⟨a, ns, ev, SqL.of hq, List.length_pos_of_mem m1, m1, m2⟩
  | _ => cases e
variable {X : Cx} {W : WX} {o : Expr} {fo : Rho → R (D × Bool)} {p p2 pos kpos : Pos}
theorem sf_sortMin (hc : X.calm = true) (hu : X.A.units + 65 < cLine) (hg : Gl X "sorted") (hm : X.mg "sorted" = none) (hg2 : Gl X "min") (hm2 : X.mg "min" = none) (ho : SA X W o fo) :
    SF X W (.Call (.Name "sorted" p) [o] [⟨some "key", .Name "min" p2, kpos⟩] pos) (bSortMin fo) := by
  have ns := ho.ns
  obtain ⟨t, pe, h⟩ := ho.ex
  refine ⟨rfl, _, pe_sortMin hc hu hg hm hg2 hm2 pe ns, fun S0 H0 ρ σ H Q r w => ?_⟩
  refine h S0 H0 ρ σ H _ r (Want.bind w fun d x Ha sa pa wa => ?_)
  obtain ⟨dd, fl⟩ := d
  cases dd with
  | lst ds =>
    have pe : RepE X.K (Fb S0 ρ σ) Ha (.lst ds) x := pa.e
    obtain ⟨a, vs, ex, hq, rs⟩ := pe.lst
    by_cases ha : ds.all (fun d => (lminD d).isSome) = true
    · have ew : gSortMin (.lst ds) = .ok (.lst (ds.mergeSort lmLe), true) := by
        show (if ds.all (fun d => (lminD d).isSome) = true then _ else _) = _
        rw [if_pos ha]
      have wa' : Want X.K X.mg W σ Ha Q (PF X.K (Fb S0 ρ σ) H) (gSortMin (.lst ds)) := wa
      rw [ew] at wa'
      obtain ⟨ws, e1, e2, hw⟩ := zip_reps rs
      have key : ∀ w ∈ ws, MinOf X.K Ha (w.1, lmD w.2) := fun w hw' => by
        have := List.all_eq_true.mp ha w.2 (by rw [e1]; exact List.mem_map.mpr ⟨w, hw', rfl⟩)
        obtain ⟨m, em⟩ := Option.isSome_iff_exists.mp this
        unfold lmD
        rw [em]
        exact min_of (hw w hw') em
      have ez : (ws.map fun w => (w.1, lmD w.2)).map (·.1) = vs := by rw [List.map_map, e2]; rfl
      refine ⟨a, ws.map fun w => (w.1, lmD w.2), ex, by rw [ez]; exact SqL.of hq, fun z hz => ?_, fun q n => ?_⟩
      · obtain ⟨w, hw', rfl⟩ := List.mem_map.mp hz
        exact key w hw'
      · have s1 : (ws.mergeSort fun a b => lmLe a.2 b.2).map (fun w => (w.1, lmD w.2)) = (ws.map fun w => (w.1, lmD w.2)).mergeSort zLe := List.map_mergeSort fun a _ b _ => rfl
        have s2 : (ws.mergeSort fun a b => lmLe a.2 b.2).map (·.2) = ds.mergeSort lmLe := by rw [e1]; exact List.map_mergeSort fun a _ b _ => rfl
        rw [← s1, List.map_map]
        have rr := reps_zip (ws := ws.mergeSort fun a b => lmLe a.2 b.2) fun w hw' => hw w (List.mem_mergeSort.mp hw')
        rw [s2] at rr
        exact wa' _ _ (same_upd n) (PF.newL (fun a z => r.fbH z) sa n rr)
    · have ew : gSortMin (.lst ds) = .bad := by
        show (if ds.all (fun d => (lminD d).isSome) = true then _ else _) = _
        rw [if_neg ha]
      have wa' : Want X.K X.mg W σ Ha Q (PF X.K (Fb S0 ρ σ) H) (gSortMin (.lst ds)) := wa
      rw [ew] at wa'
      exact wa'.elim
  | _ => exact wa.elim
end
/-! ### list(range(n)) -/
def gLRng : D → R (D × Bool)
  | .int j => if smI j = true ∧ decide (j ≤ 16000000) = true then .ok (.lst (rngL 0 j), true) else .bad
  | _ => .bad
def bLRng (f : Rho → R (D × Bool)) : Rho → R (D × Bool) := fun ρ => do let x ← f ρ; gLRng x.1
section
variable {K : PySem.W.Frag} {F : Addr → Prop} {H : Hp}
theorem reps_rg (lo : Int) : ∀ l : List Nat, Reps K F H (l.map fun i => D.int (lo + (i : Nat))) (l.map fun i => V.int (lo + (i : Nat)))
  | [] => rfl
  | _ :: l => ⟨_, _, rfl, rfl, reps_rg lo l⟩
variable {X : Cx} {W : WX} {o : Expr} {fo : Rho → R (D × Bool)} {p p2 pos pos2 : Pos}
theorem sf_lrng (hc : X.calm = true) (hg : Gl X "list") (hm : X.mg "list" = none) (hg2 : Gl X "range") (hm2 : X.mg "range" = none) (ho : SA X W o fo) :
    SF X W (.Call (.Name "list" p) [.Call (.Name "range" p2) [o] [] pos2] [] pos) (bLRng fo) := by
  have ns := ho.ns
  obtain ⟨t, pe, h⟩ := ho.ex
  refine ⟨rfl, _, pe_listRg hc hg hm (prg_1 hg2 hm2 pe (star_of ns _ _)) rfl, fun S0 H0 ρ σ H Q r w => ?_⟩
  refine h S0 H0 ρ σ H _ r (Want.bind w fun d x Ha sa pa wa => ?_)
  obtain ⟨dd, fl⟩ := d
  cases dd with
  | int j =>
    have pe : RepE X.K (Fb S0 ρ σ) Ha (.int j) x := pa.e
    have wa' : Want X.K X.mg W σ Ha Q (PF X.K (Fb S0 ρ σ) H) (if smI j = true ∧ decide (j ≤ 16000000) = true then .ok (.lst (rngL 0 j), true) else .bad) := wa
    by_cases hj : smI j = true ∧ decide (j ≤ 16000000) = true
    · rw [if_pos hj] at wa'
      have hj1 := smI_ok hj.1
      have hj2 := of_decide_eq_true hj.2
      exact ⟨j, pe.int, ⟨by omega, by omega, hj1.1, hj1.2, by omega⟩, fun q n => wa' _ _ (same_upd n) (PF.newL (fun a z => r.fbH z) sa n (reps_rg 0 _))⟩
    · rw [if_neg hj] at wa'; exact wa'.elim
  | _ => exact wa.elim
end
/-! ### for over a dict, which is locked as long -/
/-- only where the loop ends well -/
def sForW (fi : Rho → R (List D)) (g : D → Rho → R Rho) (f : Rho → Fl) : Rho → Fl := fun ρ => match sFor fi g f ρ with
  | .next ρ' => .next ρ'
  | _ => .bad
theorem stp_unlock {ρ ρ' : Rho} {σ σ' : L2.St} {H H' : Hp} {d : Addr} {u : HO} {od : Obj} (h : H d = some u) (st : Stp ρ σ (upd H d (.frz od u)) ρ' σ' H') : Stp ρ σ H ρ' σ' (upd H' d u) where
  keep := fun a o e n => by
    by_cases q : a = d
    · rw [q] at e ⊢
      rw [upd_same, ← h, e]
    · rw [upd_ne q]
      exact st.keep a o (by rw [upd_ne q]; exact e) n
  own := fun a z => (st.own a z).elim .inl fun y => by
    by_cases q : a = d
    · rw [q, upd_same] at y; cases y
    · rw [upd_ne q] at y; exact .inr y
section
variable {X : Cx} {W : WX} {tg e : Expr} {body : List Stmt} {g : D → Rho → R Rho} {fd : Rho → R (D × Bool)} {f : Rho → Fl} {pos apos cpos : Pos} {ix : List Nat} {it : D → R (List D)} {J : Addr → Obj → List (Key × V) → It} {l : List Key → List D → List D}
theorem forW_sem {td : TE} {wi : TI} {tg' : TG} {tb : TS} (dw : DW it X.K J l) (hpl : ∀ ρ c fs, fd ρ ≠ .exc c fs)
    (htd : ∀ S0 H0 ρ σ H ks vs b, Rl X.K S0 H0 ρ σ H → fd ρ = .ok (.dic ks vs, b) → ∃ d, Rep X.K (Fb S0 ρ σ) H (.dic ks vs) (.ref d) ∧ ∀ HL Q, LkAt d H HL → Q (V.ref d) HL → td σ HL Q)
    (hwi : ∀ σ HL Rr d od kvs, HL d = some (.frz od (.dK kvs)) → (∀ Q, Q (V.ref d) HL → td σ HL Q) → Rr (J d od kvs) HL → wi σ HL Rr)
    (gpl : ∀ d ρ c fs, g d ρ ≠ .exc c fs)
    (hg : ∀ S0 H0 ρ σ H v d (Q : L2.St → Hp → Prop), Rl X.K S0 H0 ρ σ H → Rep X.K (Fb S0 ρ σ) H d v → (∃ ρ', g d ρ = .ok ρ' ∧ ∀ σ', Rl X.K S0 H0 ρ' σ' H → Stp ρ σ H ρ' σ' H → (∀ vs, (∀ i ∈ ix, i ∈ vs) → wipe σ' vs = wipe σ vs) → Q σ' H) → tg' v σ H Q)
    (hb : SemS X W tb f) : SemS X W (fun Dd σ H => tLock (tFor wi tg' tb) Dd σ H ∨ tFor wi tg' tb Dd σ H) (sForW (bW it fd) g f) := by
  intro S0 H0 ρ σ H Dd r w
  have hO : ∀ a, OwnA ρ σ a → Fb S0 ρ σ a := fun a z => .inr z
  have bad : (∀ ρ', sFor (bW it fd) g f ρ ≠ .next ρ') → False := fun hne => by
    have w' : WantS X.K X.mg W S0 H0 ρ σ H Dd (match sFor (bW it fd) g f ρ with
      | .next ρ' => .next ρ'
      | _ => .bad) := w
    cases hs : sFor (bW it fd) g f ρ with
    | next ρ' => exact hne ρ' hs
    | _ => rw [hs] at w'; exact w'
  cases hs : sFor (bW it fd) g f ρ with
  | next ρ' =>
    have w' : WantS X.K X.mg W S0 H0 ρ σ H Dd (.next ρ') := by
      have w1 : WantS X.K X.mg W S0 H0 ρ σ H Dd (match sFor (bW it fd) g f ρ with
        | .next ρ' => .next ρ'
        | _ => .bad) := w
      rw [hs] at w1
      exact w1
    have hne : bW it fd ρ ≠ .bad := fun e => by
      have : sFor (bW it fd) g f ρ = .bad := by
        show (bW it fd ρ).fl ρ _ = _
        rw [e]; rfl
      rw [this] at hs; cases hs
    cases hf : fd ρ with
    | bad => exact absurd (by unfold bW; rw [hf]; rfl) hne
    | exc c fs => exact absurd hf (hpl _ _ _)
    | ok p =>
      obtain ⟨d0, b⟩ := p
      have hit := dw.it d0
      have hbw : bW it fd ρ = it d0 := by unfold bW; rw [hf]; rfl
      cases d0 with
      | dic ks dvs =>
        have hbw2 : bW it fd ρ = .ok (l ks dvs) := hbw.trans hit
        obtain ⟨d, hrep, hst⟩ := htd S0 H0 ρ σ H ks dvs b r hf
        obtain ⟨d', kvs, ed, hd, nF, ek, rs⟩ := id hrep
        cases ed
        have nO : ¬ OwnA ρ σ d := fun z => nF (.inr z)
        have wok : ∀ {HL : Hp} {Rr : It → Hp → Prop} {od : Obj}, HL d = some (.frz od (.dK kvs)) → Reps X.K (Fb S0 ρ σ) HL dvs (kvs.map (·.2)) → LkAt d H HL → Want X.K X.mg W σ HL Rr (fun ds J H1 => IW X.K (Fb S0 ρ σ) (OwnA ρ σ) H1 ds J) (bW it fd ρ) → wi σ HL Rr := fun {HL Rr od} e r2 lk wn => by
          rw [hbw2] at wn
          exact hwi σ HL Rr d od kvs e (fun Q q => hst HL Q lk q) (wn _ _ (Same.refl _) (dw.iw _ _ _ _ _ _ _ _ hO e ek r2))
        rcases hd with hd | ⟨od, hd⟩
        · refine .inl ⟨d, .dK kvs, hd, True.intro, fun od => ?_⟩
          have lk : LkEq H (upd H d (.frz od (.dK kvs))) := lk_at hd rfl
          have rL := r.lock (od := od) hd rfl nO
          refine for_at gpl hg hb rL (fun Rr wn => wok upd_same (Reps.lk lk _ _ rs) (.inr ⟨od, _, hd, rfl, rfl⟩) wn) ?_
          rw [hs]
          intro σ' H' rl st
          have frz : H' d = some (.frz od (.dK kvs)) := st.keep d _ upd_same nO
          exact ⟨frz, w' σ' _ (rl.unlock frz rfl fun o e => by
            have := r.keep d o e
            rw [hd] at this
            exact (Option.some.inj this).symm) (stp_unlock hd st)⟩
        · refine .inr (for_at gpl hg hb r (fun Rr wn => wok hd rs (.inl rfl) wn) ?_)
          rw [hs]
          exact w'
      | _ => exact absurd (hbw.trans hit) hne
  | _ => exact (bad fun ρ' => by rw [hs]; simp).elim
theorem ss_forI {elts : List Expr} {kk : Nat} {tpos : Pos} (hp : PassesOwn (model X.prog X.w) X.A X.env X.xe) (hc : X.calm = true) (sd : SD X W e fd) (hbase : attributeBase e "items" X.env (eval e X.env) = eval e X.env) (hline : (apos.endLine == cpos.line) = true) (hg : SG X (.Tuple elts kk tpos) ix g) (hb : SSs X W body f) :
    SS X W (.For (.Tuple elts kk tpos) (.Call (.Attribute e "items" apos) [] [] cpos) body [] pos) (sForW (bW itI fd) g f) := by
  obtain ⟨td, pd, htd⟩ := sd.ex
  have gpl := hg.pl
  obtain ⟨tg', pg, hg⟩ := hg.ex
  obtain ⟨tb, pb, hb⟩ := hb.ex
  have pf := ps_for (pos := pos) hp hc (pi_items (elts := elts) (kk := kk) (tpos := tpos) pd hbase hline) pg pb (folded_pl rfl _)
  exact ⟨_, ps_or2 (ps_lock pf) pf, forW_sem dw_items sd.pl htd (fun σ HL Rr d od kvs h k q => k _ ⟨d, od, kvs, rfl, h, q⟩) gpl hg hb⟩
theorem ss_forK (hp : PassesOwn (model X.prog X.w) X.A X.env X.xe) (hc : X.calm = true) (sd : SD X W e fd) (hs : isSet e = false) (hg : SG X tg ix g) (hb : SSs X W body f) :
    SS X W (.For tg e body [] pos) (sForW (bW itK fd) g f) := by
  obtain ⟨td, pd, htd⟩ := sd.ex
  have gpl := hg.pl
  obtain ⟨tg', pg, hg⟩ := hg.ex
  obtain ⟨tb, pb, hb⟩ := hb.ex
  have pf := ps_for (pos := pos) hp hc (pi_keys (tg := tg) pd) pg pb (folded_pl hs _)
  exact ⟨_, ps_or2 (ps_lock pf) pf, forW_sem dw_keys sd.pl htd (fun σ HL Rr d od kvs h k q => k _ ⟨d, od, rfl, .inl ⟨kvs, h, q⟩⟩) gpl hg hb⟩
end
end VM
/-! VMo: sorted(set(xs)), xs a list of ints. -/
namespace VM
open PySem L2
section
open PyProof.Rows PySem.Spec
variable {P : Program} {w : World} {A : Around} {E : Value → Shared → Prop} {s : Shared}
theorem call_set_lstI {l : Addr} {items : Array Value} (ns : List Int) {Q : Value → Shared → Prop} (hh : A.handled = none) (hl : s.heap.IsList l items) (hit : IntsAre items.toList ns) (hb : ns.length + 1 < scanBound)
    (h : ∀ (h' : Heap) (tk c : Nat), SetR w h' s.heap.objs.size (fun j => decide (j ∈ ns)) c → c ≤ ns.length → (∀ b o, s.heap.get? b = some o → h'.get? b = some o) → Q (.ref s.heap.objs.size) { s with heap := h', toks := tk }) :
    wpAny (model P w) A (call (.type "set") [.ref l]) Q E s := by
  have hisz : items.size = ns.length := by
    have q := IntsAre.length hit
    rw [Array.length_toList] at q
    exact q
  obtain ⟨c, tl, hmro⟩ := F.called_set.mro
  have hmade := F.called_set.made
  have hsub := F.called_set.sub
  refine wpAny_call (codeAny_of_tree ?_)
  show wpAny _ _ (callAny (.type "set") _) _ _ _
  refine wpAny_pure ⟨Code.quiet_builtin _ (by decide +kernel), codeAny_builtin F.entry_type_call ?_⟩
  rw [Around.under_plain (weight_type_call_type "set" [.ref l] []) rfl]
  have h1 := F.called_set.notType
  have h2 := F.called_set.canCreate
  have hct := F.typeCall_set_1 (.ref l)
  repeat (any_goals (first | assumption | wp_step))
  refine codeAny_mono (code_set_led1 (.ref l) (E := E) (Q₁ := fun obj s₁ => obj = .ref s.heap.objs.size ∧ s₁ = { s with heap := s.heap.push { cls := .type "set", dict := none, data := .set #[] 0 (.fresh 0 0 (!w.params.followText "set-order")) } }) ⟨rfl, rfl⟩) fun r s₁ hr => ?_
  cases r with
  | error e => exact hr
  | ok fl =>
    cases fl with
    | ret obj =>
      obtain ⟨rfl, rfl⟩ := hr
      have hS : (s.heap.push { cls := .type "set", dict := none, data := .set #[] 0 (.fresh 0 0 (!w.params.followText "set-order")) }).get? s.heap.objs.size = some { cls := .type "set", dict := none, data := .set #[] 0 (.fresh 0 0 (!w.params.followText "set-order")) } := Heap.get?_push_size _ rfl
      have hT : Shared.TypeIs { s with heap := s.heap.push { cls := .type "set", dict := none, data := .set #[] 0 (.fresh 0 0 (!w.params.followText "set-order")) } } (.ref s.heap.objs.size) "set" := ⟨_, hS, rfl⟩
      have hli := F.called_set.init.lookup
      have hbi := F.called_set.init.bind (.ref s.heap.objs.size)
      repeat (any_goals (first | assumption | wp_step))
      refine codeAny_mono (codeAny_call_builtin (R := wants (fun r s₂ => r = .none ∧ ∃ h' tk c, s₂ = { s with heap := h', toks := tk } ∧ SetR w h' s.heap.objs.size (fun j => decide (j ∈ ns)) c ∧ c ≤ ns.length ∧
          (∀ b o, s.heap.get? b = some o → h'.get? b = some o)) E) F.called_set.init.plain F.entry_set_init (check_set_init_1 hT ?_)) fun r₂ s₂ hr₂ => ?_
      · obtain ⟨ol, hol, hcl, nl, hdl⟩ := hl
        obtain ⟨ocls, odict, odata, oslots⟩ := ol
        simp only at hcl hdl
        subst hcl; subst hdl
        have hol' : (s.heap.push { cls := .type "set", dict := none, data := .set #[] 0 (.fresh 0 0 (!w.params.followText "set-order")) }).get? l = some { cls := .type "list", dict := odict, data := .seq items nl, slots := oslots } := Heap.get?_push_of_some _ hol
        have hsls := F.sub_list_set
        have hslf := F.sub_list_frozenset
        have hne : (Value.type "list" == Value.type "dict") = false := by decide
        have hl1 : (s.heap.push { cls := .type "set", dict := none, data := .set #[] 0 (.fresh 0 0 (!w.params.followText "set-order")) }).IsList l items := ⟨_, hol', rfl, nl, rfl⟩
        unfold Builtin.«set.__init__» noKeywords Builtin.Frozenset.updateFrom
        generalize hPI : pyIter = PI
        wp_walk
        subst hPI
        refine wpAny_pyIter_list hl1 ?_
        refine wpAny_bind (wpAny_runValue ?_)
        have hlS : l < s.heap.objs.size := Heap.lt_size hol
        have hh3 : A.in1.in1.in1.handled = none := by simp [hh]
        have hneI : l ≠ (s.heap.push { cls := .type "set", dict := none, data := .set #[] 0 (.fresh 0 0 (!w.params.followText "set-order")) }).objs.size := by
          rw [Heap.size_push]; exact Nat.ne_of_lt (Nat.lt_succ_of_lt hlS)
        have hSf : s.heap.objs.size ∉ [(s.heap.push { cls := .type "set", dict := none, data := .set #[] 0 (.fresh 0 0 (!w.params.followText "set-order")) }).objs.size, l] := by
          rw [Heap.size_push]; simp only [List.mem_cons, List.mem_singleton, List.not_mem_nil, or_false, not_or]
          exact ⟨Nat.ne_of_lt (Nat.lt_succ_self _), Nat.ne_of_gt hlS⟩
        have hval : ∀ (i : Nat) (v : Value), items[i]? = some v → ∃ k t, ns[i]? = some k ∧ v = .int k t := fun i v hv => by
          have hi : i < ns.length := by rw [← hisz]; exact (Array.getElem?_eq_some_iff.mp hv).1
          obtain ⟨t, e⟩ := PyProof.Rows.IntsAre.int_at hit i v (by rw [Array.getElem?_toList]; exact hv)
          refine ⟨ns[i], t, List.getElem?_eq_getElem hi, ?_⟩
          rw [e, List.getD_eq_getElem?_getD, List.getElem?_eq_getElem hi] <;> rfl
        refine set_update_ints ((Walks.list hh3 _ l hneI items).toS) s.heap.objs.size
          hSf ns hisz hb hval (items.size - 0) 0 _ (by omega) (Nat.zero_le _)
          ⟨⟨_, Heap.get?_push_size _ rfl, rfl, rfl⟩, (hl1.push _)⟩ ?hS0 ?hR
        case hS0 =>
          have hget : ((s.heap.push { cls := .type "set", dict := none, data := .set #[] 0 (.fresh 0 0 (!w.params.followText "set-order")) }).push { cls := .type "list_iterator", data := .fields #[.ref l, .int 0 0] }).get? s.heap.objs.size
              = some { cls := .type "set", dict := none, data := .set #[] 0 (.fresh 0 0 (!w.params.followText "set-order")) } := Heap.get?_push_of_some _ hS
          exact ⟨0, Nat.le_refl 0, setR_new_at hget⟩
        case hR =>
          intro s' c' hm hc' hS'
          obtain ⟨h', g2, d', tk', os'⟩ := s'
          have eg : g2 = s.gens := hm.gens
          have ed : d' = s.drawn := hm.drawn
          have eo : os' = s.os := hm.os
          subst eg; subst ed; subst eo
          show wpAny _ _ _ _ _ _
          refine wpAny_pure ?_
          show wpAny _ _ (ret Value.none) _ _ _
          rw [hisz] at hc'
          refine wpAny_pure ⟨rfl, h', tk', c', rfl, hS', hc', fun b o e => ?_⟩
          have hb0 : b < s.heap.objs.size := Heap.lt_size e
          have hb1 : b ≠ s.heap.objs.size := Nat.ne_of_lt hb0
          have hb2 : b ≠ (s.heap.push { cls := .type "set", dict := none, data := .set #[] 0 (.fresh 0 0 (!w.params.followText "set-order")) }).objs.size := by
            rw [Heap.size_push]; exact Nat.ne_of_lt (Nat.lt_succ_of_lt hb0)
          exact hm.heap b o (by simp only [List.mem_cons, List.mem_singleton, List.not_mem_nil, or_false, not_or]; exact ⟨hb1, hb2⟩) (Heap.get?_push_of_some _ (Heap.get?_push_of_some _ e))
      · cases r₂ with
        | error e => exact hr₂
        | ok fl₂ =>
          cases fl₂ with
          | ret r =>
            obtain ⟨rfl, h', tk, c', rfl, hS', hc', hk'⟩ := hr₂
            repeat (any_goals (first | assumption | wp_step))
            exact h _ _ _ hS' hc' hk'
          | _ => exact hr₂.elim
    | _ => exact hr.elim
end
/-! ### without what comes twice -/
def ddI : List Int → List Int
  | [] => []
  | x :: xs => if x ∈ xs then ddI xs else x :: ddI xs
theorem ddI_mem (k : Int) : ∀ xs : List Int, k ∈ ddI xs ↔ k ∈ xs
  | [] => Iff.rfl
  | x :: xs => by
    have ih := ddI_mem k xs
    unfold ddI
    by_cases c : x ∈ xs
    · rw [if_pos c, ih, List.mem_cons]
      exact ⟨.inr, fun h => h.elim (fun e => by rw [e]; exact c) id⟩
    · rw [if_neg c, List.mem_cons, List.mem_cons, ih]
theorem ddI_nd : ∀ xs : List Int, (ddI xs).Nodup
  | [] => List.nodup_nil
  | x :: xs => by
    have ih := ddI_nd xs
    unfold ddI
    by_cases c : x ∈ xs
    · rw [if_pos c]; exact ih
    · rw [if_neg c]
      exact List.nodup_cons.mpr ⟨fun h => c ((ddI_mem x xs).mp h), ih⟩
theorem setR_size {w : World} {h : Heap} {a : Addr} {ns : List Int} {n : Nat} (R : SetR w h a (fun j => decide (j ∈ ns)) n) : n = (ddI ns).length := by
  obtain ⟨o, es, ep, t, _, _, _, _, nd, hm, _, _, hn, _⟩ := R
  have p : (es.toList.map keyOf).Perm (ddI ns) := (List.perm_ext_iff_of_nodup nd (ddI_nd ns)).mpr fun k => by
    rw [← hm k, ddI_mem, decide_eq_true_iff]
  rw [← p.length_eq, List.length_map, Array.length_toList, hn]
def tSortSet (K : PySem.W.Frag) (te : TE) : TE := fun σ H Q => te σ H fun x H1 => ∃ (a : Addr) (ns : List Int), x = V.ref a ∧ SqL K H1 a (ns.map V.int) ∧ ns.length < 4000 ∧ (ddI ns).length < 64 ∧ ∀ p, H1 p = none → Q (.ref p) (upd H1 p (.lst ((sortI (ddI ns)).map V.int)))
section
open PyProof.Rows PySem.Spec
variable {X : Cx} {e : Expr} {te : TE} {p p2 pos pos2 : Pos}
theorem pe_sortSet (hc : X.calm = true) (hg : Gl X "sorted") (hm : X.mg "sorted" = none) (hg2 : Gl X "set") (hm2 : X.mg "set" = none) (he : PE X e te)
    (hs : starEach [e] X.env = (false, eval e X.env) :: starEach [] X.env) (hs2 : starEach [.Call (.Name "set" p2) [e] [] pos2] X.env = (false, eval (.Call (.Name "set" p2) [e] [] pos2) X.env) :: starEach [] X.env) :
    PE X (.Call (.Name "sorted" p) [.Call (.Name "set" p2) [e] [] pos2] [] pos) (tSortSet X.K te) := by
  refine ⟨fun pins s σ H Q I h => ?_⟩
  refine Call_ (ld_blt I hg hm boot_sorted (callWith_builtin1 (args_cons (Call_ (ld_blt I hg2 hm2 boot_set (callWith_type1 (args_cons (thn (he.run pins s σ H _ I h) fun u s1 ⟨v, H1, I1, r1, q1⟩ => args_nil ?_) hs) hs rfl))) hs2) hs2 rfl))
  obtain ⟨a, ns, ev, hq, hb, h64, q⟩ := q1; subst ev
  obtain rfl : u = Value.ref a := r1
  obtain ⟨its, rv, p', hz⟩ := I1.list hq
  refine call_set_lstI ns (I1.ok.hd hc) p'.isList (by simpa using rv.ints) (by unfold scanBound; omega) fun h' tk c R hc' hk => ?_
  have ec := setR_size R
  subst ec
  have I2 : Inv X pins σ H1 { s1 with heap := h', toks := tk } := I1.kept hk
  refine args_nil ?_
  refine sorted_set (s := { s1 with heap := h', toks := tk }) R (I1.ok.hd hc) h64 fun s' pp out c2 ns2 k g o hp hgt hi hsr hmm hl => ?_
  have hlen : (ns2.map V.int).length ≤ sizeLine := by rw [List.length_map, hl, sizeLine_eq]; omega
  have hn : H1 pp = none := I2.hok.fresh hp
  have e2 : ns2 = sortI (ddI ns) := by
    refine sortI_of ((List.perm_ext_iff_of_nodup (hsr.imp fun h => Int.ne_of_lt h) (ddI_nd ns)).mpr fun k => ?_) (hsr.imp fun h => Int.le_of_lt h)
    rw [hmm k, ddI_mem, decide_eq_true_iff]
  have J : Inv X pins σ (upd H1 pp (.lst (ns2.map V.int))) { ({ s1 with heap := h', toks := tk } : Shared) with heap := s'.heap, gens := s'.gens, drawn := s'.drawn, toks := s'.toks } :=
    I2.call (ch := []) (Un.laid k hp hn) (I2.hok.laid k hp ⟨hlen, out.toList, c2, vals_of_ints hi, hgt⟩) (by rw [g]; exact I2.bare) (fun _ z => nomatch z)
  have es : s' = { ({ s1 with heap := h', toks := tk } : Shared) with heap := s'.heap, gens := s'.gens, drawn := s'.drawn, toks := s'.toks } := by
    cases s'
    cases s1
    cases o
    rfl
  rw [es]
  refine ⟨.ref pp, _, J, rfl, ?_⟩
  rw [e2]
  exact q pp hn
end
def gSortSet : D → R (D × Bool)
  | .lst xs => match intsD xs with
    | some ns => if ns.length < 4000 ∧ (ddI ns).length < 64 then .ok (.lst ((sortI (ddI ns)).map D.int), true) else .bad
    | none => .bad
  | _ => .bad
def bSortSet (fe : Rho → R (D × Bool)) : Rho → R (D × Bool) := fun ρ => do let p ← fe ρ; gSortSet p.1
section
variable {X : Cx} {W : WX} {e : Expr} {fe : Rho → R (D × Bool)} {p p2 pos pos2 : Pos}
theorem sf_sortSet (hc : X.calm = true) (hg : Gl X "sorted") (hm : X.mg "sorted" = none) (hg2 : Gl X "set") (hm2 : X.mg "set" = none) (he : SA X W e fe) : SF X W (.Call (.Name "sorted" p) [.Call (.Name "set" p2) [e] [] pos2] [] pos) (bSortSet fe) := by
  have ns := he.ns
  obtain ⟨t, q, h⟩ := he.ex
  refine ⟨rfl, _, pe_sortSet hc hg hm hg2 hm2 q (star_of ns _ _) (star_of rfl _ _), fun S0 H0 ρ σ H Q r w => ?_⟩
  refine h S0 H0 ρ σ H _ r (Want.bind w fun z v H1 s pa w1 => ?_)
  have pe := pa.e
  generalize z.1 = d at pe w1
  unfold gSortSet at w1
  split at w1
  · split at w1
    · rename_i ms hi
      split at w1
      · rename_i hb
        obtain ⟨a, vs, ev, hh, rs⟩ := pe.lst
        have eu := intsD_V rs hi
        subst eu
        refine ⟨a, ms, ev, SqL.of hh, hb.1, hb.2, fun p n => w1 _ _ (same_upd n) ?_⟩
        exact PF.later s (PF.newL (fun a z => (r.same s).fbH z) (Same.refl _) n (reps_ints _))
      · exact w1.elim
    · exact w1.elim
  · exact w1.elim
end
end VM
/-! VMp: len(set(xs)); str(x), int(text); sep.join(xs), x.split(sep), x.find(y). -/
namespace VM
open PySem L2
/-! ### texts out of a list -/
def strsD : List D → Option (List Str)
  | [] => some []
  | .str s :: ds => (strsD ds).map (s :: ·)
  | _ :: _ => none
theorem strsD_V {K : PySem.W.Frag} {F : Addr → Prop} {H : Hp} : ∀ {ds : List D} {vs : List V} {ss : List Str}, Reps K F H ds vs → strsD ds = some ss → vs = ss.map V.str
  | [], vs, ss, h, e => by
    have h' : vs = [] := h
    cases e; exact h'
  | .str s :: ds, vs, ss, h, e => by
    obtain ⟨v, vs', ev, r, rs⟩ := h
    obtain ⟨ts, e1, e2⟩ := Option.map_eq_some_iff.mp (show (strsD ds).map (s :: ·) = some ss from e)
    subst e2
    have r' : v = .str s := r
    rw [ev, r', strsD_V rs e1]; rfl
  | .non :: _, _, _, _, e => by cases e
  | .bl _ :: _, _, _, _, e => by cases e
  | .int _ :: _, _, _, _, e => by cases e
  | .tup _ :: _, _, _, _, e => by cases e
  | .ktup _ :: _, _, _, _, e => by cases e
  | .lst _ :: _, _, _, _, e => by cases e
  | .scr _ :: _, _, _, _, e => by cases e
  | .dic _ _ :: _, _, _, _, e => by cases e
  | .dct _ _ :: _, _, _, _, e => by cases e
  | .obj _ _ _ :: _, _, _, _, e => by cases e
def gJoin : D → D → R (D × Bool)
  | .str a, .lst xs => match strsD xs with
    | some ys => if (ys.map (·.length)).sum + ys.length * a.length ≤ 16777216 then .ok (.str (Txt.join a ys), false) else .bad
    | none => .bad
  | _, _ => .bad
def gSplit : D → D → R (D × Bool)
  | .str a, .str b => if (b.length == 0) = false ∧ a.length + 2 ≤ sizeLine then .ok (.lst ((Txt.split a b).map D.str), true) else .bad
  | _, _ => .bad
def gFind : D → D → R (D × Bool)
  | .str a, .str b => .ok (.int (Txt.find a b), false)
  | _, _ => .bad
def isStrD : D → Bool
  | .str _ => true
  | _ => false
def bStrM (g : D → D → R (D × Bool)) (fo fx : Rho → R (D × Bool)) : Rho → R (D × Bool) := fun ρ => do
  let o ← fo ρ
  if isStrD o.1 = true then (do let x ← fx ρ; g o.1 x.1) else .bad
/-- what such a method asks and gives -/
def StrS (K : PySem.W.Frag) (r : V → List V → Hp → VK → Prop) (g : D → D → R (D × Bool)) : Prop :=
  ∀ (F : Addr → Prop) (H : Hp) (a : Str) (u : V) (d : D) (Q : VK), (∀ b, F b → ∃ o, H b = some o) → RepE K F H d u → WV K F H Q (g (.str a) d) → r (.str a) [u] H Q
theorem strS_find {K : PySem.W.Frag} : StrS K (fun x xs H Q => ∃ a b, x = .str a ∧ xs = [.str b] ∧ Q (.int (Txt.find a b)) H) gFind := by
  intro F H a u d Q hF hr w
  unfold gFind at w
  split at w
  · rename_i a' b e
    cases e
    exact ⟨_, _, rfl, by rw [hr.str], w _ _ (Same.refl _) (PF.of rfl)⟩
  · exact w.elim

theorem reps_strs {K : PySem.W.Frag} {F : Addr → Prop} {H : Hp} : ∀ ss : List Str, Reps K F H (ss.map D.str) (ss.map V.str)
  | [] => rfl
  | s :: ss => ⟨_, _, rfl, rfl, reps_strs ss⟩
theorem strS_split {K : PySem.W.Frag} : StrS K (fun x xs H Q => ∃ a b, x = .str a ∧ xs = [.str b] ∧ (b.length == 0) = false ∧ a.length + 2 ≤ sizeLine ∧ rNewStrs (Txt.split a b) H Q) gSplit := by
  intro F H a u d Q hF hr w
  unfold gSplit at w
  split at w
  · rename_i a' b e
    cases e
    by_cases c : (b.length == 0) = false ∧ a.length + 2 ≤ sizeLine
    · rw [if_pos c] at w
      exact ⟨_, _, rfl, by rw [hr.str], c.1, c.2, fun p n => w _ _ (same_upd n) (PF.newL hF (Same.refl _) n (reps_strs _))⟩
    · rw [if_neg c] at w; exact w.elim
  · exact w.elim
theorem strS_join {K : PySem.W.Frag} : StrS K (fun x xs H Q => ∃ a p, ∃ ys : List Str, x = .str a ∧ xs = [.ref p] ∧ (SqL K H p (ys.map V.str) ∨ SqT K H p (ys.map V.str)) ∧ (ys.map (·.length)).sum + ys.length * a.length ≤ 16777216 ∧ Q (.str (Txt.join a ys)) H) gJoin := by
  intro F H a u d Q hF hr w
  unfold gJoin at w
  split at w
  · rename_i a' xs e
    cases e
    split at w
    · rename_i ys hs
      split at w
      · rename_i c
        obtain ⟨p, vs, ev, hh, rs⟩ := hr.lst
        have eu := strsD_V rs hs
        subst eu
        exact ⟨_, _, _, rfl, by rw [ev], .inl (SqL.of hh), c, w _ _ (Same.refl _) (PF.of rfl)⟩
      · exact w.elim
    · exact w.elim
  · exact w.elim
theorem pl_find : Plain2 gFind := fun a b c fs h => by
  unfold gFind at h
  split at h <;> cases h
theorem pl_split : Plain2 gSplit := fun a b c fs h => by
  unfold gSplit at h
  split at h
  · split at h <;> cases h
  · cases h
theorem pl_join : Plain2 gJoin := fun a b c fs h => by
  unfold gJoin at h
  split at h
  · split at h
    · split at h <;> cases h
    · cases h
  · cases h
section
variable {X : Cx} {W : WX} {o e : Expr} {fo fe : Rho → R (D × Bool)} {apos pos : Pos} {id : String} {name : Str} {r : V → List V → Hp → VK → Prop} {g : D → D → R (D × Bool)}
theorem sf_strM (slot : Slot "str" name id) (ty : typeOf (.builtin id) = pure (.type "method_descriptor")) (rule : MtR X id r) (hg : StrS X.K r g) (pl : Plain2 g) (ho : SA X W o fo) (he : SA X W e fe)
    (hb : attributeBase o name X.env (eval o X.env) = eval o X.env) (hl : (apos.endLine == pos.line) = true) : SF X W (.Call (.Attribute o name apos) [e] [] pos) (bStrM g fo fe) := by
  have n1 := he.ns
  obtain ⟨t, p, h⟩ := ho.ex
  obtain ⟨u, q, k⟩ := he.ex
  refine ⟨rfl, _, pe_m1 slot ty rule p q (by have := star_of (es := []) (env := X.env) n1; exact this) hb hl, fun S0 H0 ρ σ H Q r w => ?_⟩
  refine h S0 H0 ρ σ H _ r (Want.bind w fun x v H1 s pa w1 => ?_)
  by_cases hs : isStrD x.1 = true
  · have w2 : Want X.K X.mg W σ H1 Q (PF X.K (Fb S0 ρ σ) H) (do let y ← fe ρ; g x.1 y.1) := by rw [if_pos hs] at w1; exact w1
    obtain ⟨dd, fl⟩ := x
    cases dd with
    | str a =>
      have pe : v = .str a := (RepE.str pa.e)
      subst pe
      refine ⟨⟨a, rfl⟩, k S0 H0 ρ σ H1 _ (r.same s) (Want.bind w2 fun y u H2 s2 pa2 w3 => ?_)⟩
      exact hg (Fb S0 ρ σ) H2 a u y.1 Q (fun b z => (r.same (s.trans s2)).fbH z) pa2.e (WV.of_want (pl _ _) (w3.pf (s.trans s2)))
    | _ => cases hs
  · have w2 : Want X.K X.mg W σ H1 Q (PF X.K (Fb S0 ρ σ) H) (.bad : R (D × Bool)) := by rw [if_neg hs] at w1; exact w1
    exact w2.elim
end
/-! ### str(x), int(text) -/
def gStrN : List D → R (D × Bool)
  | [.int i] => if i.natAbs.log2 < 1920 then .ok (.str (toString i), false) else .bad
  | [.str s] => .ok (.str s, false)
  | _ => .bad
theorem callS_str {K : PySem.W.Frag} : CallS K (fun xs H Q => (∃ i, xs = [V.int i] ∧ i.natAbs.log2 < 1920 ∧ Q (.str (toString i)) H) ∨ ∃ a, xs = [V.str a] ∧ Q (.str a) H) gStrN := by
  intro F H vs ds Q hF hr w
  unfold gStrN at w
  split at w
  · rename_i i
    split at w
    · rename_i c
      obtain ⟨v, e, h⟩ := hr.one
      exact .inl ⟨i, by rw [e, h.int], c, w _ _ (Same.refl _) (PF.of rfl)⟩
    · exact w.elim
  · obtain ⟨v, e, h⟩ := hr.one
    exact .inr ⟨_, by rw [e, h.str], w _ _ (Same.refl _) (PF.of rfl)⟩
  · exact w.elim
theorem pl_str : PlainN gStrN := by
  intro ds c fs h
  unfold gStrN at h
  split at h
  · split at h <;> cases h
  · cases h
  · cases h
def gInt2 : List D → R (D × Bool)
  | [.str s] => match PySem.intText? s with
    | some n => if s.length ≤ 640 then okI n else .bad
    | none => .bad
  | ds => gInt ds
theorem callS_int2 {K : PySem.W.Frag} : CallS K (fun xs H Q => ((∃ i, xs = [V.int i] ∧ Q (.int i) H) ∨ ∃ k, xs = [V.bl k] ∧ Q (.int (if k then 1 else 0)) H) ∨ ∃ a n, xs = [V.str a] ∧ PySem.intText? a = some n ∧ a.length ≤ 640 ∧ Q (.int n) H) gInt2 := by
  intro F H vs ds Q hF hr w
  unfold gInt2 at w
  split at w
  · rename_i s
    split at w
    · rename_i n hn
      split at w
      · rename_i c
        obtain ⟨v, e, h⟩ := hr.one
        exact .inr ⟨s, n, by rw [e, h.str], hn, c, okI_v w⟩
      · exact w.elim
    · exact w.elim
  · exact .inl (callS_int F H vs _ Q hF hr w)
theorem pl_int2 : PlainN gInt2 := by
  intro ds c fs h
  unfold gInt2 at h
  split at h
  · split at h
    · split at h <;> cases h
    · cases h
  · exact pl_int _ _ _ h
/-! ### len(set(xs)) -/
def ddL : List (List Int) → List (List Int)
  | [] => []
  | x :: xs => if x ∈ xs then ddL xs else x :: ddL xs
theorem ddL_mem (k : List Int) : ∀ xs : List (List Int), k ∈ ddL xs ↔ k ∈ xs
  | [] => Iff.rfl
  | x :: xs => by
    have ih := ddL_mem k xs
    unfold ddL
    by_cases c : x ∈ xs
    · rw [if_pos c, ih, List.mem_cons]
      exact ⟨.inr, fun h => h.elim (fun e => by rw [e]; exact c) (fun z => z)⟩
    · rw [if_neg c, List.mem_cons, List.mem_cons, ih]
theorem ddL_nd : ∀ xs : List (List Int), (ddL xs).Nodup
  | [] => List.nodup_nil
  | x :: xs => by
    have ih := ddL_nd xs
    unfold ddL
    by_cases c : x ∈ xs
    · rw [if_pos c]; exact ih
    · rw [if_neg c]
      exact List.nodup_cons.mpr ⟨fun h => c ((ddL_mem x xs).mp h), ih⟩
theorem ddL_len {ks L : List (Addr × List Int)} (nd : (L.map (·.2)).Nodup) (sub : ∀ p ∈ L, p ∈ ks) (all : ∀ p ∈ ks, p.2 ∈ L.map (·.2)) : L.length = (ddL (ks.map (·.2))).length := by
  have p : (L.map (·.2)).Perm (ddL (ks.map (·.2))) := (List.perm_ext_iff_of_nodup nd (ddL_nd _)).mpr fun k => by
    rw [ddL_mem]
    constructor
    · intro h
      obtain ⟨q, hq, rfl⟩ := List.mem_map.mp h
      exact List.mem_map.mpr ⟨q, sub q hq, rfl⟩
    · intro h
      obtain ⟨q, hq, rfl⟩ := List.mem_map.mp h
      exact all q hq
  have := p.length_eq
  rwa [List.length_map] at this
def tLenSet (K : PySem.W.Frag) (te : TE) : TE := fun σ H Q => te σ H fun x H1 => ∃ a, x = V.ref a ∧ ((∃ ns : List Int, SqL K H1 a (ns.map V.int) ∧ ns.length < 4000 ∧ Q (.int ((ddI ns).length : Nat)) H1) ∨
  ∃ ks : List (Addr × List Int), SqL K H1 a (ks.map fun p => V.ref p.1) ∧ (∀ p ∈ ks, SqT K H1 p.1 (p.2.map V.int)) ∧ ks.length < 64 ∧ Q (.int ((ddL (ks.map (·.2))).length : Nat)) H1)
section
open PyProof.Rows PySem.Spec
variable {X : Cx} {e : Expr} {te : TE} {p p2 pos pos2 : Pos}
theorem pe_lenSet (hc : X.calm = true) (hu : X.A.units + 64 < cLine) (hg : Gl X "len") (hm : X.mg "len" = none) (hg2 : Gl X "set") (hm2 : X.mg "set" = none) (he : PE X e te)
    (hs : starEach [e] X.env = (false, eval e X.env) :: starEach [] X.env) (hs2 : starEach [.Call (.Name "set" p2) [e] [] pos2] X.env = (false, eval (.Call (.Name "set" p2) [e] [] pos2) X.env) :: starEach [] X.env) :
    PE X (.Call (.Name "len" p) [.Call (.Name "set" p2) [e] [] pos2] [] pos) (tLenSet X.K te) := by
  refine ⟨fun pins s σ H Q I h => ?_⟩
  refine Call_ (ld_blt I hg hm PySem.boot_len (callWith_builtin1 (args_cons (Call_ (ld_blt I hg2 hm2 boot_set (callWith_type1 (args_cons (thn (he.run pins s σ H _ I h) fun u s1 ⟨v, H1, I1, r1, q1⟩ => args_nil ?_) hs) hs rfl))) hs2) hs2 rfl))
  obtain ⟨a, ev, q1⟩ := q1; subst ev
  obtain rfl : u = Value.ref a := r1
  rcases q1 with ⟨ns, hq, hb, q⟩ | ⟨ks, hq, hk, hf, q⟩
  · obtain ⟨its, rv, p', hz⟩ := I1.list hq
    refine call_set_lstI ns (I1.ok.hd hc) p'.isList (by simpa using rv.ints) (by unfold scanBound; omega) fun h' tk c R hc' hk => ?_
    have ec := setR_size R
    have I2 : Inv X pins σ H1 { s1 with heap := h', toks := tk } := I1.kept hk
    obtain ⟨o, es, ep, t, ho, hex, hd, _, _, _, _, hf, hn, _⟩ := R
    refine args_nil ?_
    rw [ec] at hn
    have hdl : (ddI ns).length < 4001 := by rw [← ec]; omega
    refine call_len_set ho hex hd hf (by rw [hn]; omega) ⟨.int ((ddI ns).length : Nat), H1, I2.tok _, ⟨_, by rw [hn]⟩, q⟩
  · obtain ⟨its, rv, p', hz⟩ := I1.list hq
    refine call_set_tups (P := X.prog) (w := X.w) ks (I1.ok.hd hc) p'.isList (by simpa using refs_of_vals rv) (fun p hp => I1.isT (hk p hp)) hf (by omega) fun h' tk L es ep t R g kk => ?_
    have I2 : Inv X pins σ H1 { s1 with heap := h', toks := tk } := I1.kept kk
    have el := ddL_len R.nd (fun p hp => List.mem_of_mem_take (g.sub p hp)) fun p hp => g.all p (by rw [List.take_length]; exact hp)
    obtain ⟨o, ho, hex, hd⟩ := R.ob
    have hf2 := SetTR.fits (s := { s1 with heap := h', toks := tk }) R
    have hsz := SetTR.size (s := { s1 with heap := h', toks := tk }) R
    have fw := R.few
    refine args_nil ?_
    refine call_len_set ho hex hd hf2 (by rw [hsz]; omega) ⟨.int ((ddL (ks.map (·.2))).length : Nat), H1, I2.tok _, ⟨_, by rw [hsz, el]⟩, q⟩
end
/-- tuples of ints -/
def tupsD : List D → Option (List (List Int))
  | [] => some []
  | .tup xs :: ds => match intsD xs, tupsD ds with
    | some ns, some ks => some (ns :: ks)
    | _, _ => none
  | _ :: _ => none
def gLenSet : D → R (D × Bool)
  | .lst xs => match intsD xs with
    | some ns => if ns.length < 4000 then .ok (.int ((ddI ns).length : Nat), false) else .bad
    | none => match tupsD xs with
      | some ks => if ks.length < 64 then .ok (.int ((ddL ks).length : Nat), false) else .bad
      | none => .bad
  | _ => .bad
theorem tupsD_V {K : PySem.W.Frag} {F : Addr → Prop} {H : Hp} : ∀ {ds : List D} {vs : List V} {ks : List (List Int)}, Reps K F H ds vs → tupsD ds = some ks → ∃ L : List (Addr × List Int), L.map (·.2) = ks ∧ vs = L.map (fun p => V.ref p.1) ∧ ∀ p ∈ L, SqT K H p.1 (p.2.map V.int)
  | [], vs, ks, h, e => by
    have h' : vs = [] := h
    cases e
    exact ⟨[], rfl, h', fun p hp => by cases hp⟩
  | .tup xs :: ds, vs, ks, h, e => by
    obtain ⟨v, vs', ev, r, rs⟩ := h
    unfold tupsD at e
    split at e
    · rename_i ns kt h1 h2
      cases e
      obtain ⟨L, l1, l2, l3⟩ := tupsD_V rs h2
      obtain ⟨a, us, ea, hh, r2⟩ := r
      have eu := intsD_V r2 h1
      subst eu
      refine ⟨(a, ns) :: L, by rw [List.map_cons, l1], by rw [ev, ea, l2]; rfl, fun p hp => ?_⟩
      rcases List.mem_cons.mp hp with z | z
      · rw [z]; exact .inl (.inl hh)
      · exact l3 p z
    · cases e
  | .non :: _, _, _, _, e => by cases e
  | .bl _ :: _, _, _, _, e => by cases e
  | .int _ :: _, _, _, _, e => by cases e
  | .str _ :: _, _, _, _, e => by cases e
  | .ktup _ :: _, _, _, _, e => by cases e
  | .lst _ :: _, _, _, _, e => by cases e
  | .scr _ :: _, _, _, _, e => by cases e
  | .dic _ _ :: _, _, _, _, e => by cases e
  | .dct _ _ :: _, _, _, _, e => by cases e
  | .obj _ _ _ :: _, _, _, _, e => by cases e
def bLenSet (fe : Rho → R (D × Bool)) : Rho → R (D × Bool) := fun ρ => do let p ← fe ρ; gLenSet p.1
section
variable {X : Cx} {W : WX} {e : Expr} {fe : Rho → R (D × Bool)} {p p2 pos pos2 : Pos}
theorem sf_lenSet (hc : X.calm = true) (hu : X.A.units + 64 < cLine) (hg : Gl X "len") (hm : X.mg "len" = none) (hg2 : Gl X "set") (hm2 : X.mg "set" = none) (he : SA X W e fe) : SF X W (.Call (.Name "len" p) [.Call (.Name "set" p2) [e] [] pos2] [] pos) (bLenSet fe) := by
  have ns := he.ns
  obtain ⟨t, q, h⟩ := he.ex
  refine ⟨rfl, _, pe_lenSet hc hu hg hm hg2 hm2 q (star_of ns _ _) (star_of rfl _ _), fun S0 H0 ρ σ H Q r w => ?_⟩
  refine h S0 H0 ρ σ H _ r (Want.bind w fun z v H1 s pa w1 => ?_)
  have pe := pa.e
  generalize z.1 = d at pe w1
  unfold gLenSet at w1
  split at w1
  · split at w1
    · rename_i ms hi
      split at w1
      · rename_i hb
        obtain ⟨a, vs, ev, hh, rs⟩ := pe.lst
        have eu := intsD_V rs hi
        subst eu
        exact ⟨a, ev, .inl ⟨ms, SqL.of hh, hb, w1 _ _ (Same.refl _) (PF.of rfl)⟩⟩
      · exact w1.elim
    · split at w1
      · rename_i ks hi
        split at w1
        · rename_i hb
          obtain ⟨a, vs, ev, hh, rs⟩ := pe.lst
          obtain ⟨L, l1, l2, l3⟩ := tupsD_V rs hi
          subst l1
          subst l2
          exact ⟨a, ev, .inr ⟨L, SqL.of hh, l3, by rwa [List.length_map] at hb, w1 _ _ (Same.refl _) (PF.of rfl)⟩⟩
        · exact w1.elim
      · exact w1.elim
  · exact w1.elim
end
end VM
/-! VM14: from the text to the functions: expressions. -/
namespace VM
open PySem L2
/-! ### names -/
def ixOf : List Str → Str → Option Nat
  | [], _ => none
  | y :: ys, x => if y = x then some 0 else (ixOf ys x).map (· + 1)
theorem ixOf_ok : ∀ {N : List Str} {x : Str} {i : Nat}, ixOf N x = some i → N[i]? = some x
  | [], x, i, h => by cases h
  | y :: ys, x, i, h => by
    unfold ixOf at h
    by_cases e : y = x
    · rw [if_pos e] at h; cases h; rw [e]; rfl
    · rw [if_neg e] at h
      cases e2 : ixOf ys x with
      | none => rw [e2] at h; cases h
      | some j =>
        rw [e2] at h
        have e3 : j + 1 = i := Option.some.inj h
        subst e3
        exact (show ys[j]? = some x from ixOf_ok e2)
/-- the scope as it runs, and as it is written -/
structure SC where
  sc : Scope
  raw : Scope
def visB (S : SC) (x : Str) : Bool := (match S.sc.names.lookup x with | some .local => true | some .cell => true | some .free => true | _ => false) && (!(x == ("__debug__" : Str)) && !(x == ("__classdict__" : Str)))
def glB (S : SC) (x : Str) : Bool := (match S.sc.names.lookup x with | some .globalImplicit => true | _ => false) && !(x == ("__debug__" : Str))
def stoB (S : SC) (x : Str) : Bool := match S.sc.names.lookup x with | some .local => true | some .cell => (match S.raw.names.lookup x with | some .cell => true | _ => false) | _ => false
structure CC where
  N : List Str
  fns : List (Str × Nat × (List D → R (D × Bool)))
  cons : List (Str × D)
  exs : List (Str × XF)
  subs : List (Str × (Str → Option Bool))
  kits : List (Str × (Str → Option Bool))
  muts : List Nat
  tds : List Nat
  kds : List (Str × List (Str × Str))
  oc : Addr
  oflds : List Str
  meths : List (Str × Nat × (List D → R (D × Bool)))
  dvs : List Str
structure Ctx (cc : CC) (k : Nat) (S : SC) (X : Cx) (W : WX) : Prop where
  N : X.N = cc.N
  nd : cc.N.Nodup
  sc : X.env.scope = S.sc
  kind : X.env.scope.kind = .function
  fn : ∀ x, S.raw.names.lookup x = some .cell → X.fn x = true
  calm : X.calm = true
  room : Room (k + 1) X.A
  takes : Takes X W
  fns : ∀ x ar m, cc.fns.lookup x = some (ar, m) → FnAt X.prog X.w X.K X.mg X.base k x ar m
  cons : ∀ x d, cc.cons.lookup x = some d → GC X.K X.mg x d
  kds : ∀ x t, cc.kds.lookup x = some t → KdAt X.K X.w X.mg x t
  flds : ∀ f, cc.oflds.contains f = true → Cls X.K cc.oc ∧ NoAttr X.K cc.oc f
  meths : ∀ m ar g, cc.meths.lookup m = some (ar, g) → MetAt X.prog X.w X.K X.mg X.base k cc.oc m ar g
  blt : ∀ x, (["len", "abs", "int", "min", "max", "sum", "all", "any", "tuple", "list", "sorted", "range", "enumerate", "zip", "isinstance", "bool", "str", "reversed", "set", "dict"] : List Str).contains x = true → X.mg x = none
section
variable {cc : CC} {k : Nat} {S : SC} {X : Cx} {W : WX} {x : Str} {i : Nat}
theorem visB_ok (c : Ctx cc k S X W) (h : visB S x = true) : Vis X.env.scope x ∧ (x == ("__debug__" : Str)) = false ∧ (x == ("__classdict__" : Str)) = false := by
  unfold visB at h
  rw [Bool.and_eq_true, Bool.and_eq_true, Bool.not_eq_true', Bool.not_eq_true'] at h
  refine ⟨?_, h.2⟩
  have h1 := h.1
  unfold Vis
  rw [c.sc]
  split at h1 <;> simp_all
theorem glB_ok (c : Ctx cc k S X W) (h : glB S x = true) : Gl X x ∧ (x == ("__debug__" : Str)) = false := by
  unfold glB at h
  rw [Bool.and_eq_true, Bool.not_eq_true'] at h
  refine ⟨?_, h.2⟩
  have h1 := h.1
  show X.env.scope.names.lookup x = _
  rw [c.sc]
  split at h1
  · assumption
  · cases h1
theorem stoB_ok (c : Ctx cc k S X W) (h : stoB S x = true) : L2.Loc X.env.scope x ∧ (X.fn x = true ∨ X.env.scope.names.lookup x = some .local) := by
  unfold stoB at h
  unfold L2.Loc
  rw [c.sc]
  split at h
  · rename_i e
    exact ⟨.inl e, .inr e⟩
  · rename_i e
    split at h
    · rename_i e2
      exact ⟨.inr e, .inl (c.fn x e2)⟩
    · cases h
  · cases h
def cVar (cc : CC) (S : SC) (x : Str) : Option Nat := if visB S x = true then ixOf cc.N x else none
theorem cVar_ok (c : Ctx cc k S X W) (h : cVar cc S x = some i) : X.N[i]? = some x ∧ Vis X.env.scope x ∧ (x == ("__debug__" : Str)) = false ∧ (x == ("__classdict__" : Str)) = false := by
  unfold cVar at h
  by_cases e : visB S x = true
  · rw [if_pos e] at h
    exact ⟨by rw [c.N]; exact ixOf_ok h, visB_ok c e⟩
  · rw [if_neg e] at h; cases h
end
/-! ### operators, built-ins -/
def opD : Operator → Option (D → D → R (D × Bool))
  | .Add => some dAdd | .Sub => some dSub | .Mult => some dMul | .FloorDiv => some dDiv | .Mod => some dMod | .Pow => some dPow
  | _ => none
def cmpD : CmpOp → Option (D → D → R (D × Bool))
  | .Eq => some dEq | .NotEq => some dNe | .Lt => some dLt | .LtE => some dLe | .Gt => some dGt | .GtE => some dGe | .Is => some dIs | .IsNot => some dIsNot | .In => some dIn | .NotIn => some dNotIn
theorem opS_in {K : PySem.W.Frag} : OpS K (rInDD K false) dIn := by
  intro F H x y dx dy Q hF hx hy w
  unfold dIn at w
  split at w
  · rename_i r e; exact in_V hx hy e (okB_v w)
  · exact w.elim
theorem opS_notIn {K : PySem.W.Frag} : OpS K (rInDD K true) dNotIn := by
  intro F H x y dx dy Q hF hx hy w
  unfold dNotIn at w
  split at w
  · rename_i r e; exact in_V hx hy e (okB_v w)
  · exact w.elim
theorem pl_in : Plain2 dIn := fun a b c fs h => by
  unfold dIn at h
  split at h <;> cases h
theorem pl_notIn : Plain2 dNotIn := fun a b c fs h => by
  unfold dNotIn at h
  split at h <;> cases h
theorem opD_ok {X : Cx} {op : Operator} {g : D → D → R (D × Bool)} (h : opD op = some g) : ∃ r, OpR X (binaryOp op) r ∧ OpS X.K r g ∧ Plain2 g := by
  cases op <;> cases h <;> (first
    | exact ⟨_, op_addD, opS_add, pl_add⟩
    | exact ⟨_, op_sub, opS_sub, pl_sub⟩
    | exact ⟨_, op_mulD, opS_mul, pl_mul⟩
    | exact ⟨_, op_divD, opS_div, pl_div⟩
    | exact ⟨_, op_modD, opS_mod, pl_mod⟩
    | exact ⟨_, op_pow, opS_pow, pl_pow⟩)
theorem cmpD_ok {X : Cx} (hu : X.A.units + 65 < cLine) {op : CmpOp} {g : D → D → R (D × Bool)} (h : cmpD op = some g) : ∃ r, OpR X (compareOp op) r ∧ OpS X.K r g ∧ Plain2 g := by
  cases op <;> (cases h; first
    | exact ⟨_, op_eqDD (by omega), opS_eq, pl_eq⟩
    | exact ⟨_, op_neDD (by omega), opS_ne, pl_ne⟩
    | exact ⟨_, op_ltD, opS_cmp, pl_cmp⟩
    | exact ⟨_, op_leD, opS_cmp, pl_cmp⟩
    | exact ⟨_, op_gtD, opS_cmp, pl_cmp⟩
    | exact ⟨_, op_geD, opS_cmp, pl_cmp⟩
    | exact ⟨_, OpR.or op_isN L2.op_is_bl, opS_is, pl_is⟩
    | exact ⟨_, OpR.or op_notN L2.op_isnot_bl, opS_isNot, pl_isNot⟩
    | exact ⟨_, op_inDD hu, opS_in, pl_in⟩
    | exact ⟨_, op_notInDD hu, opS_notIn, pl_notIn⟩)
def bltG (x : Str) : Option (List D → R (D × Bool)) :=
  if x = "len" then some gLen else if x = "abs" then some gAbs else if x = "int" then some gInt else if x = "min" then some gMin else if x = "max" then some gMax else if x = "sum" then some gSum else
  if x = "all" then some gAll else if x = "any" then some gAny else if x = "tuple" then some gTuple else if x = "list" then some gList else if x = "sorted" then some gSorted2 else if x = "str" then some gStrN else none
theorem bltG_ok {cc : CC} {k : Nat} {S : SC} {X : Cx} {W : WX} {x : Str} {g : List D → R (D × Bool)} {e : Expr} {es : List Expr} {f : Rho → R (List (D × Bool))} {p pos : Pos} (c : Ctx cc k S X W) (h : bltG x = some g) (gl : Gl X x) (hf : SX X W (e :: es) f) : SF X W (.Call (.Name x p) (e :: es) [] pos) (bB g f) := by
  unfold bltG at h
  by_cases e1 : x = "len"
  · rw [if_pos e1] at h; cases h; subst e1
    exact sf_callB call_lenD' callS_len pl_len gl (c.blt _ (by decide +kernel)) PySem.boot_len hf (by decide +kernel) (by decide +kernel)
  rw [if_neg e1] at h
  by_cases e2 : x = "abs"
  · rw [if_pos e2] at h; cases h; subst e2
    exact sf_callB call_abs callS_abs pl_abs gl (c.blt _ (by decide +kernel)) (by decide +kernel) hf (by decide +kernel) (by decide +kernel)
  rw [if_neg e2] at h
  by_cases e3 : x = "int"
  · rw [if_pos e3] at h; cases h; subst e3
    exact sf_callTy call_int1 callS_int pl_int gl (c.blt _ (by decide +kernel)) (by decide +kernel) hf (by decide +kernel) (by decide +kernel)
  rw [if_neg e3] at h
  by_cases e4 : x = "min"
  · rw [if_pos e4] at h; cases h; subst e4
    exact sf_callB (CallR.or (call_min2 c.calm) (cr_min c.calm)) callS_min pl_min gl (c.blt _ (by decide +kernel)) (by decide +kernel) hf (by decide +kernel) (by decide +kernel)
  rw [if_neg e4] at h
  by_cases e5 : x = "max"
  · rw [if_pos e5] at h; cases h; subst e5
    exact sf_callB (CallR.or (call_max2 c.calm) (cr_max c.calm)) callS_max pl_max gl (c.blt _ (by decide +kernel)) (by decide +kernel) hf (by decide +kernel) (by decide +kernel)
  rw [if_neg e5] at h
  by_cases e6 : x = "sum"
  · rw [if_pos e6] at h; cases h; subst e6
    exact sf_callB (cr_sum c.calm) callS_sum pl_sum gl (c.blt _ (by decide +kernel)) (by decide +kernel) hf (by decide +kernel) (by decide +kernel)
  rw [if_neg e6] at h
  by_cases e7 : x = "all"
  · rw [if_pos e7] at h; cases h; subst e7
    exact sf_callB (cr_all c.calm) callS_all pl_all gl (c.blt _ (by decide +kernel)) (by decide +kernel) hf (by decide +kernel) (by decide +kernel)
  rw [if_neg e7] at h
  by_cases e8 : x = "any"
  · rw [if_pos e8] at h; cases h; subst e8
    exact sf_callB (cr_any c.calm) callS_any pl_any gl (c.blt _ (by decide +kernel)) (by decide +kernel) hf (by decide +kernel) (by decide +kernel)
  rw [if_neg e8] at h
  by_cases e9 : x = "tuple"
  · rw [if_pos e9] at h; cases h; subst e9
    exact sf_callTy call_tuple_of callS_tuple pl_tuple gl (c.blt _ (by decide +kernel)) (by decide +kernel) hf (by decide +kernel) (by decide +kernel)
  rw [if_neg e9] at h
  by_cases e10 : x = "list"
  · rw [if_pos e10] at h; cases h; subst e10
    exact sf_callTy (CallR.or call_list_of (call_listD c.calm)) callS_list pl_list gl (c.blt _ (by decide +kernel)) (by decide +kernel) hf (by decide +kernel) (by decide +kernel)
  rw [if_neg e10] at h
  by_cases e11 : x = "sorted"
  · rw [if_pos e11] at h; cases h; subst e11
    have hu : X.A.units + 65 < cLine := by have := c.room.un; omega
    exact sf_callB (CallR.or (CallR.or cr_sortedI cr_sortedA) (cr_sortedQ hu)) callS_sorted2 pl_sorted2 gl (c.blt _ (by decide +kernel)) (by decide +kernel) hf (by decide +kernel) (by decide +kernel)
  rw [if_neg e11] at h
  by_cases e12 : x = "str"
  · rw [if_pos e12] at h; cases h; subst e12
    exact sf_callTy (CallR.or call_str_int SkE.call_str_str) callS_str pl_str gl (c.blt _ (by decide +kernel)) (by decide +kernel) hf (by decide +kernel) (by decide +kernel)
  rw [if_neg e12] at h
  cases h
def tyN (x : Str) : Option String := if x = "int" then some "int" else if x = "bool" then some "bool" else if x = "str" then some "str" else if x = "tuple" then some "tuple" else if x = "list" then some "list" else none
theorem tyN_ok {x : Str} {T : String} (h : tyN x = some T) : (["bool", "int", "str", "tuple", "list"].contains T) = true ∧ bootBuiltins x = some (.type T) ∧ x ≠ "__name__" ∧ (["len", "abs", "int", "min", "max", "sum", "all", "any", "tuple", "list", "sorted", "range", "enumerate", "zip", "isinstance", "bool", "str", "reversed", "set", "dict"] : List Str).contains x = true := by
  unfold tyN at h
  by_cases e1 : x = "int"
  · rw [if_pos e1] at h; cases h; subst e1; exact ⟨by decide +kernel, by decide +kernel, by decide +kernel, by decide +kernel⟩
  rw [if_neg e1] at h
  by_cases e2 : x = "bool"
  · rw [if_pos e2] at h; cases h; subst e2; exact ⟨by decide +kernel, by decide +kernel, by decide +kernel, by decide +kernel⟩
  rw [if_neg e2] at h
  by_cases e3 : x = "str"
  · rw [if_pos e3] at h; cases h; subst e3; exact ⟨by decide +kernel, by decide +kernel, by decide +kernel, by decide +kernel⟩
  rw [if_neg e3] at h
  by_cases e4 : x = "tuple"
  · rw [if_pos e4] at h; cases h; subst e4; exact ⟨by decide +kernel, by decide +kernel, by decide +kernel, by decide +kernel⟩
  rw [if_neg e4] at h
  by_cases e5 : x = "list"
  · rw [if_pos e5] at h; cases h; subst e5; exact ⟨by decide +kernel, by decide +kernel, by decide +kernel, by decide +kernel⟩
  rw [if_neg e5] at h
  cases h
end VM
/-! VM15: from the text to the functions: expressions. -/
namespace VM
open PySem L2
structure Rec where
  E : SC → Expr → Option (Rho → R (D × Bool))
  T : SC → Expr → Option (Rho → R Bool)
def Rec.none : Rec := ⟨fun _ _ => Option.none, fun _ _ => Option.none⟩
structure RecOk (cc : CC) (k : Nat) (r : Rec) : Prop where
  E : ∀ S X W e f, Ctx cc k S X W → r.E S e = some f → SF X W e f
  T : ∀ S X W e f, Ctx cc k S X W → r.T S e = some f → ST X W e f
theorem RecOk.none {cc : CC} {k : Nat} : RecOk cc k Rec.none := ⟨fun _ _ _ _ _ _ h => (by cases h), fun _ _ _ _ _ _ h => (by cases h)⟩
section
variable {cc : CC} {k : Nat} {S : SC} {X : Cx} {W : WX} {r : Rec}
/-! ### arguments, lists -/
def cA (cc : CC) (r : Rec) (S : SC) (e : Expr) : Option (Rho → R (D × Bool)) := match e with
  | .Name x _ => match cVar cc S x with
    | some i => some (bVarA i)
    | none => (r.E S e).map bA
  | _ => (r.E S e).map bA
theorem cA_ok (c : Ctx cc k S X W) (ok : RecOk cc k r) {e : Expr} {f : Rho → R (D × Bool)} (h : cA cc r S e = some f) : SA X W e f := by
  have base : ∀ {e f}, (r.E S e).map bA = some f → SA X W e f := fun {e f} h => by
    obtain ⟨g, h1, h2⟩ := Option.map_eq_some_iff.mp h
    subst h2
    exact SA.of (ok.E _ _ _ _ _ c h1)
  unfold cA at h
  split at h
  · split at h
    · rename_i i hi
      cases h
      obtain ⟨h1, h2, h3, h4⟩ := cVar_ok c hi
      exact sa_var h1 h2 h3 h4
    · exact base h
  · exact base h
def cX (cc : CC) (r : Rec) (S : SC) : List Expr → Option (Rho → R (List (D × Bool)))
  | [] => some xNil
  | e :: es => match cA cc r S e, cX cc r S es with
    | some f, some g => some (xCons f g)
    | _, _ => none
theorem cX_ok (c : Ctx cc k S X W) (ok : RecOk cc k r) : ∀ {es : List Expr} {f : Rho → R (List (D × Bool))}, cX cc r S es = some f → SX X W es f
  | [], f, h => by cases h; exact sx_nil
  | e :: es, f, h => by
    unfold cX at h
    split at h
    · rename_i f1 g1 h1 h2
      cases h
      exact sx_cons (cA_ok c ok h1) (cX_ok c ok h2)
    · cases h
def cL (r : Rec) (S : SC) : List Expr → Option (Rho → R (List D))
  | [] => some bNil
  | e :: es => match r.E S e, cL r S es with
    | some f, some g => some (bCons f g)
    | _, _ => none
theorem cL_ok (c : Ctx cc k S X W) (ok : RecOk cc k r) : ∀ {es : List Expr} {f : Rho → R (List D)}, cL r S es = some f → SL X W es f
  | [], f, h => by cases h; exact sl_nil
  | e :: es, f, h => by
    unfold cL at h
    split at h
    · rename_i f1 g1 h1 h2
      cases h
      exact sl_cons (ok.E _ _ _ _ _ c h1) (cL_ok c ok h2)
    · cases h
def cP (r : Rec) (S : SC) : Option Expr → Option (Rho → R (Option Int))
  | none => some bNo
  | some e => (r.E S e).map bSome
theorem cP_ok (c : Ctx cc k S X W) (ok : RecOk cc k r) {e : Option Expr} {f : Rho → R (Option Int)} (h : cP r S e = some f) : SP' X W e f := by
  cases e with
  | none => cases h; exact sp_none
  | some e =>
    obtain ⟨g, h1, h2⟩ := Option.map_eq_some_iff.mp h
    subst h2
    exact sp_some (ok.E _ _ _ _ _ c h1)
def mk2 {α β γ : Type} (f : α → β → γ) : Option α → Option β → Option γ
  | some a, some b => some (f a b)
  | _, _ => none
theorem mk2_ok {α β γ : Type} {f : α → β → γ} {a : Option α} {b : Option β} {c : γ} (h : mk2 f a b = some c) : ∃ x y, a = some x ∧ b = some y ∧ f x y = c := by
  cases a with
  | none => cases h
  | some a => cases b with
    | none => cases h
    | some b => cases h; exact ⟨_, _, rfl, rfl, rfl⟩
def mk3 {α β γ δ : Type} (f : α → β → γ → δ) : Option α → Option β → Option γ → Option δ
  | some a, some b, some c => some (f a b c)
  | _, _, _ => none
theorem mk3_ok {α β γ δ : Type} {f : α → β → γ → δ} {a : Option α} {b : Option β} {c : Option γ} {d : δ} (h : mk3 f a b c = some d) : ∃ x y z, a = some x ∧ b = some y ∧ c = some z ∧ f x y z = d := by
  cases a with
  | none => cases h
  | some a => cases b with
    | none => cases h
    | some b => cases c with
      | none => cases h
      | some c => cases h; exact ⟨_, _, _, rfl, rfl, rfl, rfl⟩
/-! ### and, or -/
def cBV (r : Rec) (S : SC) (op : BoolOp) : List Expr → Option (Rho → R (D × Bool))
  | [] => none
  | [e] => r.E S e
  | e :: es => mk2 (match op with | .And => bAndV | .Or => bOrV) (r.E S e) (cBV r S op es)
theorem cBV_ok (c : Ctx cc k S X W) (ok : RecOk cc k r) {op : BoolOp} {pos : Pos} : ∀ {es : List Expr} {f : Rho → R (D × Bool)}, cBV r S op es = some f → SF X W (.BoolOp op es pos) f
  | [], f, h => by cases h
  | [e], f, h => sf_one op (ok.E _ _ _ _ _ c h)
  | e :: e2 :: es, f, h => by
    obtain ⟨x, y, h1, h2, h3⟩ := mk2_ok (show mk2 _ (r.E S e) (cBV r S op (e2 :: es)) = some f from h)
    have k1 := ok.E _ _ _ _ _ c h1
    have k2 := cBV_ok (pos := pos) c ok h2
    cases op with
    | And => rw [← h3]; exact sf_and k1 k2
    | Or => rw [← h3]; exact sf_or k1 k2
def cBT (r : Rec) (S : SC) (op : BoolOp) : List Expr → Option (Rho → R Bool)
  | [] => none
  | [e] => r.T S e
  | e :: es => mk2 (match op with | .And => bAndT | .Or => bOrT) (r.T S e) (cBT r S op es)
theorem cBT_ok (c : Ctx cc k S X W) (ok : RecOk cc k r) {op : BoolOp} {pos : Pos} : ∀ {es : List Expr} {f : Rho → R Bool}, cBT r S op es = some f → SW X W (.BoolOp op es pos) f
  | [], f, h => by cases h
  | [e], f, h => sw_one op (ok.T _ _ _ _ _ c h)
  | e :: e2 :: es, f, h => by
    obtain ⟨x, y, h1, h2, h3⟩ := mk2_ok (show mk2 _ (r.T S e) (cBT r S op (e2 :: es)) = some f from h)
    have k1 := ok.T _ _ _ _ _ c h1
    have k2 := cBT_ok (pos := pos) c ok h2
    cases op with
    | And => rw [← h3]; exact sw_and k1 k2
    | Or => rw [← h3]; exact sw_or k1 k2
/-! ### displays of dicts, methods -/
def cPs (r : Rec) (S : SC) : List (Option Expr) → List Expr → Option (Rho → R (List (D × D)))
  | [], [] => some pNil
  | some k :: ks, v :: vs => mk3 pCons (r.E S k) (r.E S v) (cPs r S ks vs)
  | _, _ => none
theorem cPs_ok (c : Ctx cc k S X W) (ok : RecOk cc k r) {pos : Pos} : ∀ {ks : List (Option Expr)} {vs : List Expr} {f : Rho → R (List (D × D))}, cPs r S ks vs = some f → SPs X W pos ks vs f ∧ ks.all (·.isSome) = true ∧ ks.length = vs.length
  | [], [], f, h => by cases h; exact ⟨sps_nil, rfl, rfl⟩
  | some k :: ks, v :: vs, f, h => by
    obtain ⟨x, y, z, h1, h2, h3, h4⟩ := mk3_ok (show mk3 pCons (r.E S k) (r.E S v) (cPs r S ks vs) = some f from h)
    subst h4
    obtain ⟨i1, i2, i3⟩ := cPs_ok c ok (pos := pos) h3
    exact ⟨sps_cons (ok.E _ _ _ _ _ c h1) (ok.E _ _ _ _ _ c h2) i1, by rw [List.all_cons, i2]; rfl, by rw [List.length_cons, List.length_cons, i3]⟩
  | [], _ :: _, f, h => by cases h
  | none :: _, _, f, h => by cases h
  | some _ :: _, [], f, h => by cases h
def cDisp (r : Rec) (S : SC) (ks : List (Option Expr)) (vs : List Expr) : Option (Rho → R (D × Bool)) := if ks ≠ [] ∧ ks.length ≤ 15 then (cPs r S ks vs).map bDisp else none
theorem cDisp_ok (c : Ctx cc k S X W) (ok : RecOk cc k r) {pos : Pos} {ks : List (Option Expr)} {vs : List Expr} {f : Rho → R (D × Bool)} (h : cDisp r S ks vs = some f) : SF X W (.Dict ks vs pos) f := by
  unfold cDisp at h
  by_cases e : ks ≠ [] ∧ ks.length ≤ 15
  · rw [if_pos e] at h
    obtain ⟨g, h1, h2⟩ := Option.map_eq_some_iff.mp h
    subst h2
    obtain ⟨i1, i2, i3⟩ := cPs_ok c ok (pos := pos) h1
    exact sf_disp i1 i2 i3 e.1 e.2
  · rw [if_neg e] at h; cases h
def cMeth (cc : CC) (r : Rec) (S : SC) (o : Expr) (m : Str) (apos : Pos) (args : List Expr) (cpos : Pos) : Option (Rho → R (D × Bool)) :=
  if (apos.endLine == cpos.line) = true ∧ plainBase o = true then
    match cc.meths.lookup m with
    | some (ar, g) => (match o, args with
      | .Name x _, e :: es => if (e :: es).length + 1 = ar ∧ (e :: es).length < 30 then mk2 (fun i fx => bMeth i cc.oc m g fx) (cVar cc S x) (cX cc r S (e :: es)) else none
      | .Name x _, [] => if ar = 1 then (cVar cc S x).map fun i => bMeth i cc.oc m g xNil else none
      | _, _ => none)
    | none =>
    if m = "get" then match args with
      | [a, b] => mk3 bGet (cA cc r S o) (cA cc r S a) (r.E S b)
      | _ => none
    else if m = "index" then match args with
      | [a] => mk2 bIndex (cA cc r S o) (cA cc r S a)
      | _ => none
    else if m = "split" then match args with
      | [a] => mk2 (bStrM gSplit) (cA cc r S o) (cA cc r S a)
      | _ => none
    else if m = "join" then match args with
      | [a] => mk2 (bStrM gJoin) (cA cc r S o) (cA cc r S a)
      | _ => none
    else if m = "find" then match args with
      | [a] => mk2 (bStrM gFind) (cA cc r S o) (cA cc r S a)
      | _ => none
    else none
  else none
theorem cMeth_ok (c : Ctx cc k S X W) (ok : RecOk cc k r) {o : Expr} {m : Str} {apos cpos : Pos} {args : List Expr} {f : Rho → R (D × Bool)} (h : cMeth cc r S o m apos args cpos = some f) : SF X W (.Call (.Attribute o m apos) args [] cpos) f := by
  unfold cMeth at h
  have hu : X.A.units + 65 < cLine := by have := c.room.un; omega
  split at h
  · rename_i hb
    split at h
    · rename_i ar g hm
      split at h
      · rename_i x p e es
        by_cases e1 : (e :: es).length + 1 = ar ∧ (e :: es).length < 30
        · rw [if_pos e1] at h
          obtain ⟨i, fx, h1, h2, h3⟩ := mk2_ok h
          subst h3
          obtain ⟨k1, k2, k3, k4⟩ := cVar_ok c h1
          exact sf_meth k1 k2 k3 k4 (c.meths _ _ _ hm) (c.room.mono (Nat.le_succ k)) (cX_ok c ok h2) e1.1 e1.2 hb.1
        · rw [if_neg e1] at h; cases h
      · rename_i x p
        by_cases e1 : ar = 1
        · rw [if_pos e1] at h
          obtain ⟨i, h1, h3⟩ := Option.map_eq_some_iff.mp h
          subst h3
          subst e1
          obtain ⟨k1, k2, k3, k4⟩ := cVar_ok c h1
          exact sf_meth0 k1 k2 k3 k4 (c.meths _ _ _ hm) (c.room.mono (Nat.le_succ k)) hb.1
        · rw [if_neg e1] at h; cases h
      · cases h
    by_cases e1 : m = "get"
    · rw [if_pos e1] at h
      subst e1
      split at h
      · obtain ⟨x, y, z, h1, h2, h3, h4⟩ := mk3_ok h
        subst h4
        exact sf_get (by omega) (cA_ok c ok h1) (cA_ok c ok h2) (ok.E _ _ _ _ _ c h3) (base_pl hb.2) hb.1
      · cases h
    · rw [if_neg e1] at h
      by_cases e2 : m = "index"
      · rw [if_pos e2] at h
        subst e2
        split at h
        · obtain ⟨x, y, h1, h2, h3⟩ := mk2_ok h
          subst h3
          exact sf_index hu (cA_ok c ok h1) (cA_ok c ok h2) (base_pl hb.2) hb.1
        · cases h
      · rw [if_neg e2] at h
        by_cases e3 : m = "split"
        · rw [if_pos e3] at h
          subst e3
          split at h
          · obtain ⟨x, y, h1, h2, h3⟩ := mk2_ok h
            subst h3
            exact sf_strM PySem.F.slot_str_split PySem.F.type_str_split mt_split strS_split pl_split (cA_ok c ok h1) (cA_ok c ok h2) (base_pl hb.2) hb.1
          · cases h
        · rw [if_neg e3] at h
          by_cases e4 : m = "join"
          · rw [if_pos e4] at h
            subst e4
            split at h
            · obtain ⟨x, y, h1, h2, h3⟩ := mk2_ok h
              subst h3
              exact sf_strM PySem.F.slot_str_join PySem.F.type_str_join mt_join strS_join pl_join (cA_ok c ok h1) (cA_ok c ok h2) (base_pl hb.2) hb.1
            · cases h
          · rw [if_neg e4] at h
            by_cases e5 : m = "find"
            · rw [if_pos e5] at h
              subst e5
              split at h
              · obtain ⟨x, y, h1, h2, h3⟩ := mk2_ok h
                subst h3
                exact sf_strM PySem.F.slot_str_find PySem.F.type_str_find mt_find strS_find pl_find (cA_ok c ok h1) (cA_ok c ok h2) (base_pl hb.2) hb.1
              · cases h
            · rw [if_neg e5] at h; cases h
  · cases h
/-! ### calls of names -/
def cRv (S : SC) : Expr → Option Expr
  | .Call (.Name y _) [e] [] _ => if y = "reversed" ∧ glB S y = true then some e else none
  | _ => none
theorem cRv_ok {e e' : Expr} (h : cRv S e = some e') : ∃ p p2, e = .Call (.Name "reversed" p) [e'] [] p2 ∧ glB S "reversed" = true := by
  unfold cRv at h
  split at h
  · rename_i y p e2 p2
    by_cases c : y = "reversed" ∧ glB S y = true
    · rw [if_pos c] at h
      cases h
      obtain ⟨rfl, c2⟩ := c
      exact ⟨p, p2, rfl, c2⟩
    · rw [if_neg c] at h; cases h
  · cases h
def cKd (cc : CC) (S : SC) : Expr → Option (List (Str × Str))
  | .Name y _ => if glB S y = true then cc.kds.lookup y else none
  | _ => none
theorem cKd_ok {e : Expr} {t : List (Str × Str)} (c : Ctx cc k S X W) (h : cKd cc S e = some t) : ∃ y p, e = .Name y p ∧ Gl X y ∧ (y == ("__debug__" : Str)) = false ∧ KdAt X.K X.w X.mg y t := by
  unfold cKd at h
  split at h
  · rename_i y p
    by_cases g : glB S y = true
    · rw [if_pos g] at h
      obtain ⟨gl, hd⟩ := glB_ok c g
      exact ⟨y, p, rfl, gl, hd, c.kds _ _ h⟩
    · rw [if_neg g] at h; cases h
  · cases h
def cCall (cc : CC) (r : Rec) (S : SC) (x : Str) (args : List Expr) : Option (Rho → R (D × Bool)) :=
  if glB S x = true then
    match args with
    | [] => none
    | e :: es => match cc.fns.lookup x with
      | some (ar, m) => if (e :: es).length = ar then (cX cc r S (e :: es)).map (bCall m) else none
      | none =>
        if x = "isinstance" then
          match es with
          | [.Name y _] => if glB S y = true then mk2 bIsi (tyN y) (cA cc r S e) else none
          | _ => none
        else match (if x = "list" ∧ es.isEmpty = true then cRv S e else none) with
          | some e' => (cA cc r S e').map bLRev
          | none => mk2 bB (bltG x) (cX cc r S (e :: es))
  else none
theorem cCall_ok (c : Ctx cc k S X W) (ok : RecOk cc k r) {x : Str} {args : List Expr} {f : Rho → R (D × Bool)} {p pos : Pos} (h : cCall cc r S x args = some f) : SF X W (.Call (.Name x p) args [] pos) f := by
  unfold cCall at h
  split at h
  · rename_i hg
    obtain ⟨gl, hd⟩ := glB_ok c hg
    split at h
    · cases h
    · rename_i e es
      split at h
      · rename_i ar m hl
        by_cases e1 : (e :: es).length = ar
        · rw [if_pos e1] at h
          obtain ⟨fx, h1, h2⟩ := Option.map_eq_some_iff.mp h
          subst h2
          exact sf_call (c.fns _ _ _ hl) (c.room.mono (Nat.le_succ k)) c.takes gl hd (cX_ok c ok h1) e1
        · rw [if_neg e1] at h; cases h
      · by_cases e1 : x = "isinstance"
        · rw [if_pos e1] at h
          subst e1
          split at h
          · rename_i y p2
            by_cases e2 : glB S y = true
            · rw [if_pos e2] at h
              obtain ⟨T, fe, h1, h2, h3⟩ := mk2_ok h
              subst h3
              obtain ⟨t1, t2, t3, t4⟩ := tyN_ok h1
              obtain ⟨gy, hdy⟩ := glB_ok c e2
              exact sf_isi t1 gl (c.blt _ (by decide +kernel)) gy (c.blt _ t4) t2 t3 hdy (cA_ok c ok h2)
            · rw [if_neg e2] at h; cases h
          · cases h
        · rw [if_neg e1] at h
          split at h
          · rename_i e' h0
            by_cases e3 : x = "list" ∧ es.isEmpty = true
            · rw [if_pos e3] at h0
              obtain ⟨q1, q2, rfl, hg2⟩ := cRv_ok h0
              obtain ⟨rfl, e4⟩ := e3
              have e5 : es = [] := List.isEmpty_iff.mp e4
              subst e5
              obtain ⟨fx, h1, h2⟩ := Option.map_eq_some_iff.mp h
              subst h2
              exact sf_lrev c.calm gl (c.blt _ (by decide +kernel)) (glB_ok c hg2).1 (c.blt _ (by decide +kernel)) (cA_ok c ok h1)
            · rw [if_neg e3] at h0; cases h0
          · obtain ⟨g, fx, h1, h2, h3⟩ := mk2_ok h
            subst h3
            exact bltG_ok c h1 gl (cX_ok c ok h2)
  · cases h
/-! ### calls of d.values(), range(..), key=min -/
def cSpec (cc : CC) (r : Rec) (S : SC) (x : Str) (args : List Expr) : Option (Rho → R (D × Bool)) := match args with
  | [.Call (.Attribute o m apos) [] [] mpos] =>
    if glB S x = true ∧ m = "values" ∧ (apos.endLine == mpos.line) = true ∧ plainBase o = true then
      (if x = "tuple" then (cA cc r S o).map (bVals true) else if x = "list" then (cA cc r S o).map (bVals false) else none)
    else none
  | [.Call (.Name y _) [e] [] _] => if x = "list" ∧ y = "range" ∧ glB S x = true ∧ glB S y = true then (cA cc r S e).map bLRng else
    if x = "sorted" ∧ y = "set" ∧ glB S x = true ∧ glB S y = true then (cA cc r S e).map bSortSet else
    if x = "len" ∧ y = "set" ∧ glB S x = true ∧ glB S y = true then (cA cc r S e).map bLenSet else none
  | [e] => if x = "int" ∧ cc.dvs.contains "int!" = true ∧ glB S x = true then (cX cc r S [e]).map (bB gInt2) else none
  | _ => none
theorem cSpec_ok (c : Ctx cc k S X W) (ok : RecOk cc k r) {x : Str} {args : List Expr} {f : Rho → R (D × Bool)} {p pos : Pos} (h : cSpec cc r S x args = some f) : SF X W (.Call (.Name x p) args [] pos) f := by
  unfold cSpec at h
  split at h
  · rename_i o m apos mpos
    by_cases e1 : glB S x = true ∧ m = "values" ∧ (apos.endLine == mpos.line) = true ∧ plainBase o = true
    · rw [if_pos e1] at h
      obtain ⟨hg, hm, hl, hb⟩ := e1
      subst hm
      obtain ⟨gl, hd⟩ := glB_ok c hg
      by_cases e2 : x = "tuple"
      · rw [if_pos e2] at h
        subst e2
        obtain ⟨g, h1, h2⟩ := Option.map_eq_some_iff.mp h
        subst h2
        exact sf_tupVals c.calm gl (c.blt _ (by decide +kernel)) (cA_ok c ok h1) (base_pl hb) hl
      · rw [if_neg e2] at h
        by_cases e3 : x = "list"
        · rw [if_pos e3] at h
          subst e3
          obtain ⟨g, h1, h2⟩ := Option.map_eq_some_iff.mp h
          subst h2
          exact sf_lstVals c.calm gl (c.blt _ (by decide +kernel)) (cA_ok c ok h1) (base_pl hb) hl
        · rw [if_neg e3] at h; cases h
    · rw [if_neg e1] at h; cases h
  · rename_i y p2 e pos2
    by_cases e1 : x = "list" ∧ y = "range" ∧ glB S x = true ∧ glB S y = true
    · rw [if_pos e1] at h
      obtain ⟨rfl, rfl, hg, hg2⟩ := e1
      obtain ⟨g, h1, h2⟩ := Option.map_eq_some_iff.mp h
      subst h2
      exact sf_lrng c.calm (glB_ok c hg).1 (c.blt _ (by decide +kernel)) (glB_ok c hg2).1 (c.blt _ (by decide +kernel)) (cA_ok c ok h1)
    · rw [if_neg e1] at h
      by_cases e2 : x = "sorted" ∧ y = "set" ∧ glB S x = true ∧ glB S y = true
      · rw [if_pos e2] at h
        obtain ⟨rfl, rfl, hg, hg2⟩ := e2
        obtain ⟨g, h1, h2⟩ := Option.map_eq_some_iff.mp h
        subst h2
        exact sf_sortSet c.calm (glB_ok c hg).1 (c.blt _ (by decide +kernel)) (glB_ok c hg2).1 (c.blt _ (by decide +kernel)) (cA_ok c ok h1)
      · rw [if_neg e2] at h
        by_cases e3 : x = "len" ∧ y = "set" ∧ glB S x = true ∧ glB S y = true
        · rw [if_pos e3] at h
          obtain ⟨rfl, rfl, hg, hg2⟩ := e3
          obtain ⟨g, h1, h2⟩ := Option.map_eq_some_iff.mp h
          subst h2
          exact sf_lenSet c.calm (by have := c.room.un; omega) (glB_ok c hg).1 (c.blt _ (by decide +kernel)) (glB_ok c hg2).1 (c.blt _ (by decide +kernel)) (cA_ok c ok h1)
        · rw [if_neg e3] at h; cases h
  · rename_i e _ _
    by_cases e1 : x = "int" ∧ cc.dvs.contains "int!" = true ∧ glB S x = true
    · rw [if_pos e1] at h
      obtain ⟨rfl, _, hg⟩ := e1
      obtain ⟨g, h1, h2⟩ := Option.map_eq_some_iff.mp h
      subst h2
      exact sf_callTy (CallR.or call_int1 call_int_str) callS_int2 pl_int2 (glB_ok c hg).1 (c.blt _ (by decide +kernel)) (by decide +kernel) (cX_ok c ok h1) (by decide +kernel) (by decide +kernel)
    · rw [if_neg e1] at h; cases h
  · cases h
def cKeyMin (cc : CC) (r : Rec) (S : SC) (x : Str) (e : Expr) (kn y : Str) : Option (Rho → R (D × Bool)) :=
  if x = "sorted" ∧ kn = "key" ∧ y = "min" ∧ glB S x = true ∧ glB S y = true then (cA cc r S e).map bSortMin else none
theorem cKeyMin_ok (c : Ctx cc k S X W) (ok : RecOk cc k r) {x kn y : Str} {e : Expr} {f : Rho → R (D × Bool)} {p pos p2 kp : Pos} (h : cKeyMin cc r S x e kn y = some f) : SF X W (.Call (.Name x p) [e] [⟨some kn, .Name y p2, kp⟩] pos) f := by
  unfold cKeyMin at h
  by_cases e1 : x = "sorted" ∧ kn = "key" ∧ y = "min" ∧ glB S x = true ∧ glB S y = true
  · rw [if_pos e1] at h
    obtain ⟨rfl, rfl, rfl, hg, hg2⟩ := e1
    obtain ⟨g, h1, h2⟩ := Option.map_eq_some_iff.mp h
    subst h2
    exact sf_sortMin c.calm (by have := c.room.un; omega) (glB_ok c hg).1 (c.blt _ (by decide +kernel)) (glB_ok c hg2).1 (c.blt _ (by decide +kernel)) (cA_ok c ok h1)
  · rw [if_neg e1] at h; cases h
/-! ### targets and iterables -/
def cG (cc : CC) (S : SC) : Nat → Expr → Option (List Nat × (D → Rho → R Rho))
  | 0, _ => none
  | n + 1, .Name x _ => if stoB S x = true then (ixOf cc.N x).map fun i => ([i], gN i) else none
  | n + 1, .Tuple es _ _ => (es.foldr (fun e acc => if isStar e = true then none else mk2 (fun (a : List Nat × (D → Rho → R Rho)) b => (a.1 ++ b.1, VM.gCons a.2 b.2)) (cG cc S n e) acc) (some ([], VM.gNil))).map fun p => (p.1, gT p.2)
  | _, _ => none
theorem cG_ok (c : Ctx cc k S X W) : ∀ {n : Nat} {e : Expr} {p : List Nat × (D → Rho → R Rho)}, cG cc S n e = some p → SG X e p.1 p.2
  | 0, e, p, h => by cases h
  | n + 1, e, p, h => by
    unfold cG at h
    split at h
    · cases h
    · rename_i n' x p' e1
      by_cases e2 : stoB S x = true
      · rw [if_pos e2] at h
        obtain ⟨i, h1, h2⟩ := Option.map_eq_some_iff.mp h
        subst h2
        obtain ⟨s1, s2⟩ := stoB_ok c e2
        exact sg_name (by rw [c.N]; exact c.nd) (by rw [c.N]; exact ixOf_ok h1) s1 s2
      · rw [if_neg e2] at h; cases h
    · rename_i n' es kk p' e1
      obtain ⟨q, h1, h2⟩ := Option.map_eq_some_iff.mp h
      subst h2
      refine sg_tup c.calm ?_
      have en : n = n' := by cases e1; rfl
      subst en
      clear h e1
      induction es generalizing q with
      | nil => cases h1; exact sgs_nil
      | cons e es ih =>
        rw [List.foldr_cons] at h1
        by_cases e2 : isStar e = true
        · rw [if_pos e2] at h1; cases h1
        · rw [if_neg e2] at h1
          obtain ⟨a, b, k1, k2, k3⟩ := mk2_ok h1
          subst k3
          exact sgs_cons (by simpa using e2) (cG_ok c k1) (ih b k2)
    · cases h
def isTupE : Expr → Bool | .Tuple .. => true | _ => false
def cI (cc : CC) (r : Rec) (S : SC) (tg it : Expr) : Option (Rho → R (List D)) := match it with
  | .Call (.Name x _) args [] _ =>
    if glB S x = true then
      match cc.fns.lookup x with
      | some _ => if isSet it = true then none else (r.E S it).map bIt
      | none =>
        if x = "range" then match args with
          | [e] => (cX cc r S [e]).map bRng
          | [e1, e2] => (cX cc r S [e1, e2]).map bRng
          | _ => none
        else if x = "enumerate" then match args with
          | [e] => if isTupE tg = true then (r.E S e).map bEnum else none
          | _ => none
        else if x = "zip" then match args with
          | [e1, e2] => if isTupE tg = true then mk2 bZip (r.E S e1) (r.E S e2) else none
          | _ => none
        else if x = "reversed" then match args with
          | [e] => (r.E S e).map bRev
          | _ => none
        else if isSet it = true then none else (r.E S it).map bIt
    else none
  | _ => if isSet it = true then none else (r.E S it).map bIt
theorem cI_ok (c : Ctx cc k S X W) (ok : RecOk cc k r) {tg it : Expr} {f : Rho → R (List D)} (h : cI cc r S tg it = some f) : SI X W tg it f := by
  have base : (if isSet it = true then none else (r.E S it).map bIt) = some f → SI X W tg it f := fun h => by
    by_cases e : isSet it = true
    · rw [if_pos e] at h; cases h
    · rw [if_neg e] at h
      obtain ⟨g, h1, h2⟩ := Option.map_eq_some_iff.mp h
      subst h2
      exact si_any (ok.E _ _ _ _ _ c h1) (by simpa using e)
  unfold cI at h
  split at h
  · rename_i x p args pos
    split at h
    · rename_i hg
      obtain ⟨gl, hd⟩ := glB_ok c hg
      split at h
      · exact base h
      · by_cases e1 : x = "range"
        · rw [if_pos e1] at h
          subst e1
          split at h
          · obtain ⟨g, h1, h2⟩ := Option.map_eq_some_iff.mp h
            subst h2
            exact si_range1 gl (c.blt _ (by decide +kernel)) (cX_ok c ok h1)
          · obtain ⟨g, h1, h2⟩ := Option.map_eq_some_iff.mp h
            subst h2
            exact si_range2 gl (c.blt _ (by decide +kernel)) (cX_ok c ok h1)
          · cases h
        · rw [if_neg e1] at h
          by_cases e2 : x = "enumerate"
          · rw [if_pos e2] at h
            subst e2
            split at h
            · split at h
              · rename_i ht
                obtain ⟨g, h1, h2⟩ := Option.map_eq_some_iff.mp h
                subst h2
                cases tg <;> first | exact si_enum gl (c.blt _ (by decide +kernel)) (ok.E _ _ _ _ _ c h1) | exact Bool.noConfusion ht
              · cases h
            · cases h
          · rw [if_neg e2] at h
            by_cases e3 : x = "zip"
            · rw [if_pos e3] at h
              subst e3
              split at h
              · split at h
                · rename_i ht
                  obtain ⟨g1, g2, h1, h2, h3⟩ := mk2_ok h
                  subst h3
                  cases tg <;> first | exact si_zip gl (c.blt _ (by decide +kernel)) (ok.E _ _ _ _ _ c h1) (ok.E _ _ _ _ _ c h2) | exact Bool.noConfusion ht
                · cases h
              · cases h
            · rw [if_neg e3] at h
              by_cases e4 : x = "reversed"
              · rw [if_pos e4] at h
                subst e4
                split at h
                · obtain ⟨g, h1, h2⟩ := Option.map_eq_some_iff.mp h
                  subst h2
                  exact si_rev gl (c.blt _ (by decide +kernel)) (ok.E _ _ _ _ _ c h1)
                · cases h
              · rw [if_neg e4] at h
                exact base h
    · cases h
  · exact base h
/-! ### comprehensions -/
def ownOf (N : List Str) : List (Str × NameKind) → List (Str × Nat)
  | [] => []
  | (x, .local) :: r => (match ixOf N x with | some i => [(x, i)] | none => []) ++ ownOf N r
  | (x, .cell) :: r => (match ixOf N x with | some i => [(x, i)] | none => []) ++ ownOf N r
  | _ :: r => ownOf N r
def SC.blk (S : SC) (scope : Scope) : SC := ⟨relS scope S.sc, scope⟩
theorem Ctx.blk (c : Ctx cc k S X W) {scope : Scope} {own : List (Str × Nat)} (ok : BlkOk X.N X.env.scope scope own) (s : Shared) (H : Hp) (C : Addr) (cl : List (Str × Addr)) (fp : List Addr) :
    Ctx cc k (S.blk scope) (X.blk s H scope (compEnvC scope cl C X.env) fp) W0 where
  N := c.N
  nd := c.nd
  sc := by
    show relS scope X.env.scope = _
    rw [c.sc]; rfl
  kind := ok.kind
  fn := fun x h => by
    show (scope.names.lookup x == some .cell) = true
    have h' : scope.names.lookup x = some .cell := h
    rw [h']; rfl
  calm := c.calm
  room := c.room
  takes := takes0
  fns := c.fns
  cons := c.cons
  kds := c.kds
  flds := c.flds
  meths := c.meths
  blt := c.blt
def cIfs (r : Rec) (S : SC) : List Expr → Option (Rho → R Bool)
  | [] => some cYes
  | [e] => r.T S e
  | _ => none
theorem cIfs_ok (c : Ctx cc k S X W) (ok : RecOk cc k r) {es : List Expr} {f : Rho → R Bool} (h : cIfs r S es = some f) : STs X W es f := by
  unfold cIfs at h
  split at h
  · cases h; exact sts_nil
  · exact sts_one (ok.T _ _ _ _ _ c h)
  · cases h
structure CompP where
  own : List Nat
  fi : Rho → R (List D)
  g : D → Rho → R Rho
  fc : Rho → R Bool
  fe : Rho → R (D × Bool)
def CompP.den (p : CompP) : Rho → R (D × Bool) := bComp p.own p.fi p.g p.fc p.fe
def cComp (cc : CC) (r : Rec) (S : SC) (elt tg it : Expr) (ifs : List Expr) (scope : Scope) : Option CompP :=
  if blkC cc.N S.sc scope (ownOf cc.N scope.names) = true then
    match cI cc r S tg it, cG cc (S.blk scope) 3 tg with
    | some fi, some (ix, g) => if (ix.all fun i => ((ownOf cc.N scope.names).map (·.2)).contains i) = true then
        match cIfs r (S.blk scope) ifs, r.E (S.blk scope) elt with
        | some fc, some fe => some ⟨(ownOf cc.N scope.names).map (·.2), fi, g, fc, fe⟩
        | _, _ => none
      else none
    | _, _ => none
  else none
theorem cComp_ok (c : Ctx cc k S X W) (ok : RecOk cc k r) {elt tg it : Expr} {ifs : List Expr} {scope : Scope} {q : CompP} (h : cComp cc r S elt tg it ifs scope = some q) :
    (∀ pos, SF X W (.ListComp elt [⟨tg, it, ifs, 0⟩] scope pos) q.den) ∧
    ∀ i y p2 pos spos m, X.N[i]? = some y → X.env.scope.names.lookup y = some .local → swapsWith (.ListComp elt [⟨tg, it, ifs, 0⟩] scope pos) (some (.Name y p2)) spos.line X.env = pure true → SS X W (.Assign [.Name y p2] (.ListComp elt [⟨tg, it, ifs, 0⟩] scope pos) spos) (sSet i m q.den) := by
  unfold cComp at h
  split at h
  · rename_i hb
    split at h
    · rename_i fi ix g h1 h2
      split at h
      · rename_i h3
        split at h
        · rename_i fc fe h4 h5
          cases h
          have bo : BlkOk X.N X.env.scope scope (ownOf cc.N scope.names) := by rw [c.N, c.sc]; exact blkOk_by hb
          have hin : ∀ i ∈ ix, i ∈ (ownOf cc.N scope.names).map (·.2) := fun i hi => by
            have := List.all_eq_true.mp h3 i hi
            simpa using this
          have cb := fun s H C cl fp => c.blk bo s H C cl fp
          have gok := fun s H C cl fp => cG_ok (cb s H C cl fp) h2
          have gkp := (gok X.s_0 (fun _ => none) 0 [] []).kp
          refine ⟨fun pos => sf_lc c.calm (by rw [c.N]; exact c.nd) (cI_ok c ok h1) bo hin gok (fun s H C cl fp => cIfs_ok (cb s H C cl fp) ok h4) (fun s H C cl fp => ok.E _ _ _ _ _ (cb s H C cl fp) h5) gkp, fun i y p2 pos spos m hy hl hs => ?_⟩
          exact ss_setLc c.calm (by rw [c.N]; exact c.nd) hy hl hs (cI_ok c ok h1) bo hin gok (fun s H C cl fp => cIfs_ok (cb s H C cl fp) ok h4) (fun s H C cl fp => ok.E _ _ _ _ _ (cb s H C cl fp) h5) gkp
        · cases h
      · cases h
    · cases h
  · cases h
/-! ### comprehensions over dicts -/
def cD (cc : CC) (S : SC) : Expr → Option (Rho → R (D × Bool))
  | .Name x _ => if cc.dvs.contains x = true then (cVar cc S x).map bVar else none
  | .Attribute (.Name x _) f _ => if cc.dvs.contains f = true ∧ cc.oflds.contains f = true then (cVar cc S x).map fun i => bFld i cc.oc f else none
  | _ => none
theorem cD_ok (c : Ctx cc k S X W) {e : Expr} {fd : Rho → R (D × Bool)} (h : cD cc S e = some fd) : SD X W e fd ∧ isSet e = false := by
  unfold cD at h
  split at h
  · rename_i x p
    by_cases q : cc.dvs.contains x = true
    · rw [if_pos q] at h
      obtain ⟨i, h1, h2⟩ := Option.map_eq_some_iff.mp h
      subst h2
      obtain ⟨k1, k2, k3, k4⟩ := cVar_ok c h1
      exact ⟨sd_var k1 k2 k3 k4, rfl⟩
    · rw [if_neg q] at h; cases h
  · rename_i x p f p2
    by_cases q : cc.dvs.contains f = true ∧ cc.oflds.contains f = true
    · rw [if_pos q] at h
      obtain ⟨i, h1, h2⟩ := Option.map_eq_some_iff.mp h
      subst h2
      obtain ⟨k1, k2, k3, k4⟩ := cVar_ok c h1
      obtain ⟨f1, f2⟩ := c.flds _ q.2
      exact ⟨sd_fld k1 k2 k3 k4 f1 f2, rfl⟩
    · rw [if_neg q] at h; cases h
  · cases h
def cCompD (cc : CC) (r : Rec) (S : SC) (elt tg it : Expr) (ifs : List Expr) (scope : Scope) : Option (Rho → R (D × Bool)) :=
  match cD cc S it with
  | none => none
  | some fd => if blkC cc.N S.sc scope (ownOf cc.N scope.names) = true then
    match cG cc (S.blk scope) 3 tg with
    | some (ix, g) => if (ix.all fun i => ((ownOf cc.N scope.names).map (·.2)).contains i) = true then
        match cIfs r (S.blk scope) ifs, r.E (S.blk scope) elt with
        | some fc, some fe => some (bComp ((ownOf cc.N scope.names).map (·.2)) (bW itK fd) g fc fe)
        | _, _ => none
      else none
    | none => none
  else none
theorem cCompD_ok (c : Ctx cc k S X W) (ok : RecOk cc k r) {elt tg it : Expr} {ifs : List Expr} {scope : Scope} {f : Rho → R (D × Bool)} {pos : Pos} (h : cCompD cc r S elt tg it ifs scope = some f) : SF X W (.ListComp elt [⟨tg, it, ifs, 0⟩] scope pos) f := by
  unfold cCompD at h
  split at h
  · cases h
  · rename_i fd hd
    obtain ⟨sd, hs⟩ := cD_ok c hd
    split at h
    · rename_i hb
      split at h
      · rename_i ix g h2
        split at h
        · rename_i h3
          split at h
          · rename_i fc fe h4 h5
            cases h
            have bo : BlkOk X.N X.env.scope scope (ownOf cc.N scope.names) := by rw [c.N, c.sc]; exact blkOk_by hb
            have hin : ∀ i ∈ ix, i ∈ (ownOf cc.N scope.names).map (·.2) := fun i hi => by
              have := List.all_eq_true.mp h3 i hi
              simpa using this
            have cb := fun s H C cl fp => c.blk bo s H C cl fp
            have gok := fun s H C cl fp => cG_ok (cb s H C cl fp) h2
            have gkp := (gok X.s_0 (fun _ => none) 0 [] []).kp
            exact sf_lcK c.calm (by rw [c.N]; exact c.nd) sd hs bo hin gok (fun s H C cl fp => cIfs_ok (cb s H C cl fp) ok h4) (fun s H C cl fp => ok.E _ _ _ _ _ (cb s H C cl fp) h5) gkp
          · cases h
        · cases h
      · cases h
    · cases h
/-! ### what a for walks: a dict -/
def cDv (cc : CC) (S : SC) : Expr → Option (Rho → R (D × Bool))
  | .Name x _ => (cVar cc S x).map bVar
  | .Attribute (.Name x _) f _ => if cc.oflds.contains f = true then (cVar cc S x).map fun i => bFld i cc.oc f else none
  | _ => none
theorem cDv_ok (c : Ctx cc k S X W) {e : Expr} {fd : Rho → R (D × Bool)} (h : cDv cc S e = some fd) : SD X W e fd := by
  unfold cDv at h
  split at h
  · obtain ⟨i, h1, h2⟩ := Option.map_eq_some_iff.mp h
    subst h2
    obtain ⟨k1, k2, k3, k4⟩ := cVar_ok c h1
    exact sd_var k1 k2 k3 k4
  · rename_i x p f p2
    by_cases q : cc.oflds.contains f = true
    · rw [if_pos q] at h
      obtain ⟨i, h1, h2⟩ := Option.map_eq_some_iff.mp h
      subst h2
      obtain ⟨k1, k2, k3, k4⟩ := cVar_ok c h1
      obtain ⟨f1, f2⟩ := c.flds _ q
      exact sd_fld k1 k2 k3 k4 f1 f2
    · rw [if_neg q] at h; cases h
  · cases h
def cWalk (cc : CC) (S : SC) (tg it : Expr) : Option (Bool × (Rho → R (D × Bool))) := match it with
  | .Call (.Attribute e m apos) [] [] cpos => if m = "items" ∧ isTupE tg = true ∧ (apos.endLine == cpos.line) = true ∧ plainBase e = true then (cDv cc S e).map fun f => (true, f) else none
  | .Name x p => (cD cc S (.Name x p)).map fun f => (false, f)
  | _ => none
theorem cWalk_ok (c : Ctx cc k S X W) {tg it : Expr} {q : Bool × (Rho → R (D × Bool))} (h : cWalk cc S tg it = some q) :
    (q.1 = true ∧ ∃ elts kk tpos e apos cpos, tg = .Tuple elts kk tpos ∧ it = .Call (.Attribute e "items" apos) [] [] cpos ∧ SD X W e q.2 ∧ attributeBase e "items" X.env (eval e X.env) = eval e X.env ∧ (apos.endLine == cpos.line) = true) ∨ (q.1 = false ∧ SD X W it q.2 ∧ isSet it = false) := by
  unfold cWalk at h
  split at h
  · rename_i e m apos cpos
    by_cases e1 : m = "items" ∧ isTupE tg = true ∧ (apos.endLine == cpos.line) = true ∧ plainBase e = true
    · rw [if_pos e1] at h
      obtain ⟨rfl, ht, hl, hb⟩ := e1
      obtain ⟨f, h1, h2⟩ := Option.map_eq_some_iff.mp h
      subst h2
      cases tg <;> first | exact .inl ⟨rfl, _, _, _, _, _, _, rfl, rfl, cDv_ok c h1, base_pl hb, hl⟩ | exact Bool.noConfusion ht
    · rw [if_neg e1] at h; cases h
  · obtain ⟨f, h1, h2⟩ := Option.map_eq_some_iff.mp h
    subst h2
    obtain ⟨s1, s2⟩ := cD_ok c h1
    exact .inr ⟨rfl, s1, s2⟩
  · cases h
end
end VM
/-! VM16: expressions and tests in one. -/
namespace VM
open PySem L2
section
variable {cc : CC} {k : Nat} {S : SC} {X : Cx} {W : WX} {r : Rec}
def bNotT (f : Rho → R Bool) : Rho → R Bool := fun ρ => do let b ← f ρ; pure (!b)
abbrev Op2 := D → D → R (D × Bool)
def chainF (fa fb fc : Rho → R (D × Bool)) (p : Op2 × Op2) : Rho → R (D × Bool) := bChain p.1 p.2 fa fb fc
def ap1 (p : Op2 × Op2) (f : Op2 × Op2 → Rho → R (D × Bool)) : Rho → R (D × Bool) := f p
def ap2 (p : Op2 × Op2) (f : Op2 × Op2 → Rho → R (D × Bool)) : Rho → R Bool := bT (f p)
def kdOp : CmpOp → Option Bool
  | .In => some false
  | .NotIn => some true
  | _ => none
def cE (cc : CC) (r : Rec) (S : SC) (e : Expr) : Option (Rho → R (D × Bool)) := match e with
  | .Constant (.int j) _ _ => some (bC (.int j))
  | .Constant (.bool b) _ _ => some (bC (.bl b))
  | .Constant .none _ _ => some (bC .non)
  | .Constant (.str s) _ _ => some (bC (.str s))
  | .Name x _ => match cVar cc S x with
    | some i => some (bVar i)
    | none => if glB S x = true then (cc.cons.lookup x).map bC else none
  | .BinOp a op b _ => mk3 bOp (opD op) (cA cc r S a) (cA cc r S b)
  | .Compare a [o] [b] _ => match cKd cc S b with
    | some t => mk2 (fun neg f => bKIn neg t f) (kdOp o) (cA cc r S a)
    | none => if behindInMarks o b = true then none else mk3 bOp (cmpD o) (cA cc r S a) (cA cc r S b)
  | .Compare a [o, o'] [b, c] _ => if lastMarks [o, o'] [b, c] = true then none else (mk2 ap1 (mk2 Prod.mk (cmpD o) (cmpD o')) (mk3 chainF (cA cc r S a) (cA cc r S b) (cA cc r S c)))
  | .UnaryOp .USub a _ => (r.E S a).map (bUn dNeg)
  | .UnaryOp .Not a _ => (r.E S a).map bNotV
  | .BoolOp op es _ => cBV r S op es
  | .IfExp c a b _ => mk3 bIf (r.T S c) (r.E S a) (r.E S b)
  | .Subscript a (.Slice none none (some (.UnaryOp .USub (.Constant (.int 1) _ _) _)) _) _ => (cA cc r S a).map bRevL
  | .Subscript a (.Slice lo hi none _) _ => mk3 bSl (cA cc r S a) (cP r S lo) (cP r S hi)
  | .Subscript a b _ => if isSlice b = true then none else match cKd cc S a with
    | some t => (cA cc r S b).map (bKIx t)
    | none => mk2 (bOp dIx) (cA cc r S a) (cA cc r S b)
  | .Attribute (.Name x _) f _ => if cc.oflds.contains f = true then (cVar cc S x).map fun i => bFld i cc.oc f else none
  | .Tuple es _ _ => (cL r S es).map bTup
  | .List es _ => (cL r S es).map bLst
  | .Dict [] [] _ => some (fun _ => .ok (.dic [] [], true))
  | .Dict ks vs _ => cDisp r S ks vs
  | .Call (.Name x _) args [] _ => match cSpec cc r S x args with
    | some f => some f
    | none => cCall cc r S x args
  | .Call (.Name x _) [e1] [⟨some kn, .Name y _, _⟩] _ => cKeyMin cc r S x e1 kn y
  | .Call (.Attribute o m apos) args [] cpos => cMeth cc r S o m apos args cpos
  | .ListComp elt [⟨tg, it, ifs, 0⟩] scope _ => match cCompD cc r S elt tg it ifs scope with
    | some f => some f
    | none => (cComp cc r S elt tg it ifs scope).map CompP.den
  | _ => none
theorem units65 (c : Ctx cc k S X W) : X.A.units + 65 < cLine := by have := c.room.un; omega
theorem cE_ok (c : Ctx cc k S X W) (ok : RecOk cc k r) {e : Expr} {f : Rho → R (D × Bool)} (h : cE cc r S e = some f) : SF X W e f := by
  unfold cE at h
  split at h
  · cases h; exact sf_int
  · cases h; exact sf_bl
  · cases h; exact sf_non
  · cases h; exact sf_str
  · split at h
    · rename_i i hi
      cases h
      obtain ⟨h1, h2, h3, h4⟩ := cVar_ok c hi
      exact sf_var h1 h2 h3 h4
    · split at h
      · rename_i hg
        obtain ⟨gl, hd⟩ := glB_ok c hg
        obtain ⟨d, h1, h2⟩ := Option.map_eq_some_iff.mp h
        subst h2
        exact sf_glob gl (c.cons _ _ h1) hd
      · cases h
  · obtain ⟨g, fa, fb, h1, h2, h3, h4⟩ := mk3_ok h
    subst h4
    obtain ⟨q, o1, o2, o3⟩ := opD_ok (X := X) h1
    exact sf_op o1 o2 o3 (cA_ok c ok h2) (cA_ok c ok h3)
  · rename_i o b pos
    split at h
    · rename_i t ht
      obtain ⟨y, p, rfl, gl, hd, kd⟩ := cKd_ok c ht
      obtain ⟨neg, fa, h0, h1, h2⟩ := mk2_ok h
      subst h2
      cases o <;> cases h0
      · exact sf_kin kd gl hd (cA_ok c ok h1)
      · exact sf_knin kd gl hd (cA_ok c ok h1)
    · by_cases e1 : behindInMarks o b = true
      · rw [if_pos e1] at h; cases h
      · rw [if_neg e1] at h
        obtain ⟨g, fa, fb, h1, h2, h3, h4⟩ := mk3_ok h
        subst h4
        obtain ⟨q, o1, o2, o3⟩ := cmpD_ok (X := X) (units65 c) h1
        exact sf_cmp o1 o2 o3 (cA_ok c ok h2) (cA_ok c ok h3) (by simpa using e1)
  · rename_i o o' b d pos
    by_cases e1 : lastMarks [o, o'] [b, d] = true
    · rw [if_pos e1] at h; cases h
    · rw [if_neg e1] at h
      obtain ⟨p, fp, h1, h2, h3⟩ := mk2_ok h
      subst h3
      obtain ⟨g, g', k1, k2, k3⟩ := mk2_ok h1
      subst k3
      obtain ⟨fa, fb, fc, j1, j2, j3, j4⟩ := mk3_ok h2
      subst j4
      obtain ⟨q, o1, o2, o3⟩ := cmpD_ok (X := X) (units65 c) k1
      obtain ⟨q', o1', o2', o3'⟩ := cmpD_ok (X := X) (units65 c) k2
      exact sf_chain o1 o2 o3 o1' o2' o3' (cA_ok c ok j1) (cA_ok c ok j2) (cA_ok c ok j3) (by simpa using e1)
  · obtain ⟨g, h1, h2⟩ := Option.map_eq_some_iff.mp h
    subst h2
    exact sf_neg (ok.E _ _ _ _ _ c h1)
  · obtain ⟨g, h1, h2⟩ := Option.map_eq_some_iff.mp h
    subst h2
    exact sf_not (ok.E _ _ _ _ _ c h1)
  · exact cBV_ok c ok h
  · obtain ⟨g, fa, fb, h1, h2, h3, h4⟩ := mk3_ok h
    subst h4
    exact sf_if (ok.T _ _ _ _ _ c h1) (ok.E _ _ _ _ _ c h2) (ok.E _ _ _ _ _ c h3)
  · obtain ⟨fa, h1, h2⟩ := Option.map_eq_some_iff.mp h
    subst h2
    exact sf_revL (cA_ok c ok h1)
  · obtain ⟨g, fa, fb, h1, h2, h3, h4⟩ := mk3_ok h
    subst h4
    exact sf_slice (cA_ok c ok h1) (cP_ok c ok h2) (cP_ok c ok h3)
  · rename_i a b pos hns hns2
    by_cases e1 : isSlice b = true
    · rw [if_pos e1] at h; cases h
    · rw [if_neg e1] at h
      split at h
      · rename_i t ht
        obtain ⟨y, p, rfl, gl, hd, kd⟩ := cKd_ok c ht
        obtain ⟨fa, h1, h2⟩ := Option.map_eq_some_iff.mp h
        subst h2
        exact sf_kix kd gl hd (cA_ok c ok h1) (plainIx_of (by simpa using e1))
      · obtain ⟨fa, fb, h1, h2, h3⟩ := mk2_ok h
        subst h3
        exact sf_ix (ix_dd (by have := units65 c; omega)) opS_ix pl_ix (cA_ok c ok h1) (cA_ok c ok h2) (plainIx_of (by simpa using e1))
  · split at h
    · rename_i hf
      obtain ⟨i, h1, h2⟩ := Option.map_eq_some_iff.mp h
      subst h2
      obtain ⟨k1, k2, k3, k4⟩ := cVar_ok c h1
      exact sf_fld k1 k2 k3 k4 (c.flds _ hf).1 (c.flds _ hf).2
    · cases h
  · obtain ⟨g, h1, h2⟩ := Option.map_eq_some_iff.mp h
    subst h2
    exact sf_tup (cL_ok c ok h1)
  · obtain ⟨g, h1, h2⟩ := Option.map_eq_some_iff.mp h
    subst h2
    exact sf_lst (cL_ok c ok h1)
  · cases h; exact sf_dic
  · exact cDisp_ok c ok h
  · split at h
    · rename_i f' hd
      cases h
      exact cSpec_ok c ok hd
    · exact cCall_ok c ok h
  · exact cKeyMin_ok c ok h
  · exact cMeth_ok c ok h
  · split at h
    · rename_i f' hd
      cases h
      exact cCompD_ok c ok hd
    · obtain ⟨g, h1, h2⟩ := Option.map_eq_some_iff.mp h
      subst h2
      exact (cComp_ok c ok h1).1 _
  · cases h
def cT (cc : CC) (r : Rec) (S : SC) (e : Expr) : Option (Rho → R Bool) := match e with
  | .BoolOp op es _ => cBT r S op es
  | .UnaryOp .Not a _ => (r.T S a).map bNotT
  | .Compare a [o] [b] _ => match cKd cc S b with
    | some t => mk2 (fun neg f => bT (bKIn neg t f)) (kdOp o) (cA cc r S a)
    | none => if behindInMarks o b = true then none else (mk3 bOp (cmpD o) (cA cc r S a) (cA cc r S b)).map bT
  | .Compare a [o, o'] [b, c] _ => if lastMarks [o, o'] [b, c] = true then none else (mk2 ap2 (mk2 Prod.mk (cmpD o) (cmpD o')) (mk3 chainF (cA cc r S a) (cA cc r S b) (cA cc r S c)))
  | e => if plainT e = true then (r.E S e).map bT else none
theorem cT_ok (c : Ctx cc k S X W) (ok : RecOk cc k r) {e : Expr} {f : Rho → R Bool} (h : cT cc r S e = some f) : ST X W e f := by
  unfold cT at h
  split at h
  · exact (cBT_ok c ok h).st
  · obtain ⟨g, h1, h2⟩ := Option.map_eq_some_iff.mp h
    subst h2
    exact st_not (ok.T _ _ _ _ _ c h1)
  · rename_i o b pos
    split at h
    · rename_i t ht
      obtain ⟨y, p, rfl, gl, hd, kd⟩ := cKd_ok c ht
      obtain ⟨neg, fa, h0, h1, h2⟩ := mk2_ok h
      subst h2
      cases o <;> cases h0
      · exact st_kin kd gl hd (cA_ok c ok h1)
      · exact st_knin kd gl hd (cA_ok c ok h1)
    · by_cases e1 : behindInMarks o b = true
      · rw [if_pos e1] at h; cases h
      · rw [if_neg e1] at h
        obtain ⟨z, h0, h00⟩ := Option.map_eq_some_iff.mp h
        subst h00
        obtain ⟨g, fa, fb, h1, h2, h3, h4⟩ := mk3_ok h0
        subst h4
        obtain ⟨q, o1, o2, o3⟩ := cmpD_ok (X := X) (units65 c) h1
        exact st_cmp o1 o2 o3 (cA_ok c ok h2) (cA_ok c ok h3) (by simpa using e1)
  · rename_i o o' b d pos
    by_cases e1 : lastMarks [o, o'] [b, d] = true
    · rw [if_pos e1] at h; cases h
    · rw [if_neg e1] at h
      obtain ⟨p, fp, h1, h2, h3⟩ := mk2_ok h
      subst h3
      obtain ⟨g, g', k1, k2, k3⟩ := mk2_ok h1
      subst k3
      obtain ⟨fa, fb, fc, j1, j2, j3, j4⟩ := mk3_ok h2
      subst j4
      obtain ⟨q, o1, o2, o3⟩ := cmpD_ok (X := X) (units65 c) k1
      obtain ⟨q', o1', o2', o3'⟩ := cmpD_ok (X := X) (units65 c) k2
      exact st_chain o1 o2 o3 o1' o2' o3' (cA_ok c ok j1) (cA_ok c ok j2) (cA_ok c ok j3) (by simpa using e1)
  · split at h
    · rename_i e1
      obtain ⟨g, h1, h2⟩ := Option.map_eq_some_iff.mp h
      subst h2
      exact st_val (ok.E _ _ _ _ _ c h1) e1
    · cases h
def cRec (cc : CC) : Nat → Rec
  | 0 => Rec.none
  | n + 1 => ⟨cE cc (cRec cc n), cT cc (cRec cc n)⟩
theorem cRec_ok : ∀ n, RecOk cc k (cRec cc n)
  | 0 => RecOk.none
  | n + 1 => ⟨fun _ _ _ _ _ c h => cE_ok c (cRec_ok n) h, fun _ _ _ _ _ c h => cT_ok c (cRec_ok n) h⟩
end
end VM
/-! VM17: from the text to the functions: except suites. -/
namespace VM
open PySem L2
def Stands (X : Cx) (x : Str) (cv : Value) : Prop := X.mg x = some cv ∨ (X.mg x = none ∧ bootBuiltins x = some cv ∧ x ≠ "__name__")
structure CtxS (cc : CC) (k : Nat) (S : SC) (X : Cx) (W : WX) : Prop where
  c : Ctx cc k S X W
  passes : PassesOwn (model X.prog X.w) X.A X.env X.xe
  stk : X.stack = X.env :: X.outer
  frm : X.env.frame = some X.env.locals
  exs : ∀ x fld, cc.exs.lookup x = some fld → ExAt X.prog X.w X.K X.mg X.base k x fld
  subs : ∀ x sub, cc.subs.lookup x = some sub → ∃ cv, Stands X x cv ∧ Sub X.K X.mg cv sub
  kits : ∀ x kt, cc.kits.lookup x = some kt → ∃ cv vc, Stands X x cv ∧ ClsV vc cv ∧ RelV vc cv ∧ Kit X.K X.mg cv kt ∧ ∀ c C, X.mg c = some (.ref C) → kt c ≠ none → ExcC X.K C
theorem CtxS.tr {cc : CC} {k : Nat} {S : SC} {X : Cx} {W W' : WX} (c : CtxS cc k S X W) (pn : List (Addr × Obj)) (xe : Value → Shared → Prop) (tk : Takes (X.tr pn xe) W') (ps : PassesOwn (model X.prog X.w) X.A X.env xe) : CtxS cc k S (X.tr pn xe) W' where
  c := ⟨c.c.N, c.c.nd, c.c.sc, c.c.kind, c.c.fn, c.c.calm, c.c.room, tk, c.c.fns, c.c.cons, c.c.kds, c.c.flds, c.c.meths, c.c.blt⟩
  passes := ps
  stk := c.stk
  frm := c.frm
  exs := c.exs
  subs := c.subs
  kits := c.kits
section
variable {cc : CC} {k : Nat} {S : SC} {X : Cx} {W : WX} {r : Rec}
abbrev HE := Str → List (Str × D) → Rho → R (D × Bool)
/-! ### expressions of a suite; en: the name of the exception, at slot i -/
def cHL (f : Expr → Option HE) : List Expr → Option (Str → List (Str × D) → Rho → R (List D))
  | [] => some (fun _ _ _ => .ok [])
  | e :: es => mk2 eCons (f e) (cHL f es)
def eAnd (g h : HE) : HE := fun c fs => bAndV (g c fs) (h c fs)
def cHB (f : Expr → Option HE) : List Expr → Option HE
  | [] => none
  | [e] => f e
  | e :: es => mk2 eAnd (f e) (cHB f es)
def eAdd (g h : HE) : HE := fun c fs => bOp dAdd (g c fs) (h c fs)
def eC (d : D) : HE := fun _ _ => bC d
def eVar (i : Nat) : HE := fun _ _ => bVar i
def cH (cc : CC) (S : SC) (en : Str) : Nat → Expr → Option HE
  | 0, _ => none
  | n + 1, e => match e with
    | .Constant (.int j) _ _ => some (eC (.int j))
    | .Constant (.bool b) _ _ => some (eC (.bl b))
    | .Name x _ => if x = en then none else (cVar cc S x).map eVar
    | .Call (.Name f _) [.Name x _, .Name y _] [] _ => if f = "isinstance" ∧ x = en ∧ glB S f = true ∧ glB S y = true then (cc.kits.lookup y).map eIs else none
    | .BoolOp .And es _ => cHB (cH cc S en n) es
    | .Tuple es _ _ => (cHL (cH cc S en n) es).map eTup
    | .List es _ => (cHL (cH cc S en n) es).map eLst
    | .BinOp a .Add b _ => mk2 eAdd (cH cc S en n a) (cH cc S en n b)
    | _ => none
theorem cHL_ok {X : Cx} {i : Nat} {a : Addr} {cls : Value} {d : Option Addr} {f : Expr → Option HE} (hf : ∀ e g, f e = some g → SE X i a cls d e g) : ∀ {es : List Expr} {g : Str → List (Str × D) → Rho → R (List D)}, cHL f es = some g → SLE X i a cls d es g
  | [], g, h => by cases h; exact sle_nil
  | e :: es, g, h => by
    obtain ⟨x, y, h1, h2, h3⟩ := mk2_ok (show mk2 eCons (f e) (cHL f es) = some g from h)
    subst h3
    exact sle_cons (hf _ _ h1) (cHL_ok hf h2)
theorem cHB_ok {X : Cx} {i : Nat} {a : Addr} {cls : Value} {d : Option Addr} {pos : Pos} {f : Expr → Option HE} (hf : ∀ e g, f e = some g → SE X i a cls d e g) : ∀ {es : List Expr} {g : HE}, cHB f es = some g → SE X i a cls d (.BoolOp .And es pos) g
  | [], g, h => by cases h
  | [e], g, h => se_one .And (hf _ _ h)
  | e :: e2 :: es, g, h => by
    obtain ⟨x, y, h1, h2, h3⟩ := mk2_ok (show mk2 eAnd (f e) (cHB f (e2 :: es)) = some g from h)
    subst h3
    exact se_and (hf _ _ h1) (cHB_ok hf h2)
theorem cH_ok (c : CtxS cc k S X W) {en : Str} {i : Nat} (hi : cVar cc S en = some i) {a : Addr} {oe : Obj} {pn : List (Addr × Obj)} {cls : Value} {d : Option Addr} (hz : Zc cls d oe) (hf : ∃ vs, oe.data = .fields vs) :
    ∀ {n : Nat} {e : Expr} {g : HE}, cH cc S en n e = some g → SE (X.suite a ((a, oe) :: pn)) i a cls d e g
  | 0, e, g, h => by cases h
  | n + 1, e, g, h => by
    have ih := fun e g => cH_ok c hi (a := a) (pn := pn) hz hf (n := n) (e := e) (g := g)
    unfold cH at h
    split at h
    · cases h; exact SE.of sf_int
    · cases h; exact SE.of sf_bl
    · rename_i x pos
      by_cases e1 : x = en
      · rw [if_pos e1] at h; cases h
      · rw [if_neg e1] at h
        obtain ⟨j, h1, h2⟩ := Option.map_eq_some_iff.mp h
        subst h2
        obtain ⟨k1, k2, k3, k4⟩ := cVar_ok c.c h1
        exact SE.of (sf_var (X := X.suite a ((a, oe) :: pn)) k1 k2 k3 k4)
    · rename_i f p1 x p2 y p3 pos
      by_cases e1 : f = "isinstance" ∧ x = en ∧ glB S f = true ∧ glB S y = true
      · rw [if_pos e1] at h
        obtain ⟨e1, e2, e3, e4⟩ := e1
        obtain ⟨kt, h1, h2⟩ := Option.map_eq_some_iff.mp h
        subst h2; subst e1; subst e2
        obtain ⟨cv, vc, hs, hcv, rv, hk, hx⟩ := c.kits _ _ h1
        obtain ⟨k1, k2, k3, k4⟩ := cVar_ok c.c hi
        obtain ⟨gl, _⟩ := glB_ok c.c e3
        obtain ⟨gy, hy⟩ := glB_ok c.c e4
        refine se_is (X0 := X) (oe := oe) (pn := pn) rfl (fun c' C hC _ hne => hx c' C hC hne) hz hf hk gl (c.c.blt _ (by decide +kernel)) k1 k2 k3 k4 ?_ hcv
        rcases hs with hm | ⟨hm, hv, hn⟩
        · exact pe_glob (X := X.suite a ((a, oe) :: pn)) gy hm rv hy
        · exact pe_bltn (X := X.suite a ((a, oe) :: pn)) gy hm hv rv hn hy
      · rw [if_neg e1] at h; cases h
    · exact cHB_ok ih h
    · obtain ⟨gl, h1, h2⟩ := Option.map_eq_some_iff.mp h
      subst h2
      exact se_tup (cHL_ok ih h1)
    · obtain ⟨gl, h1, h2⟩ := Option.map_eq_some_iff.mp h
      subst h2
      exact se_lst (cHL_ok ih h1)
    · obtain ⟨x, y, h1, h2, h3⟩ := mk2_ok h
      subst h3
      exact se_op op_addD opS_add pl_add (ih _ _ h1) (ih _ _ h2)
    · cases h
abbrev HS := Str → List (Str × D) → Rho → Fl
def cHS (cc : CC) (S : SC) (en : Str) (i : Nat) : List Stmt → Option HS
  | [] => some eNop
  | .Assign [.Name x _] e _ :: rest => if isComp e = true ∨ stoB S x = false then none else match ixOf cc.N x with
    | some j => if j = i then none else mk2 (eSet j (cc.muts.contains j)) (cH cc S en 6 e) (cHS cc S en i rest)
    | none => none
  | _ => none
theorem cHS_ok (c : CtxS cc k S X W) {en : Str} {i : Nat} (hi : cVar cc S en = some i) {a : Addr} {oe : Obj} {pn : List (Addr × Obj)} {cls : Value} {d : Option Addr} (hz : Zc cls d oe) (hf : ∃ vs, oe.data = .fields vs) :
    ∀ {st : List Stmt} {h : HS}, cHS cc S en i st = some h → SSE (X.suite a ((a, oe) :: pn)) i a cls d st h := by
  intro st
  induction st with
  | nil => intro h e; cases e; exact sse_nil
  | cons s st ih =>
    intro h e
    unfold cHS at e
    split at e
    · rename_i heq; cases heq
    · rename_i x p e1 p2 rest heq
      cases heq
      by_cases q : isComp e1 = true ∨ stoB S x = false
      · rw [if_pos q] at e; cases e
      · rw [if_neg q] at e
        have q1 : isComp e1 = false := by
          cases h : isComp e1 with
          | true => exact absurd (.inl h) q
          | false => rfl
        have q2 : stoB S x = true := by
          cases h : stoB S x with
          | true => rfl
          | false => exact absurd (.inr h) q
        split at e
        · rename_i j hj
          by_cases ne : j = i
          · rw [if_pos ne] at e; cases e
          · rw [if_neg ne] at e
            obtain ⟨g, hr, h1, h2, h3⟩ := mk2_ok e
            subst h3
            obtain ⟨s1, s2⟩ := stoB_ok c.c q2
            exact sse_set (X := X.suite a ((a, oe) :: pn)) (by show X.N.Nodup; rw [c.c.N]; exact c.c.nd) (by show X.N[j]? = _; rw [c.c.N]; exact ixOf_ok hj) s1 (cH_ok c hi hz hf h1) q1 s2 ne (ih h2)
        · cases e
    · cases e
/-- a suite without the exception's name -/
def cSu (cc : CC) (S : SC) : List Stmt → Option (Rho → Fl)
  | [.Assign [.Name x _] (.Constant (.bool b) _ _) _] => if stoB S x = true then (ixOf cc.N x).map fun j => sSet j (cc.muts.contains j) (bC (.bl b)) else none
  | [.Return (some (.Constant (.bool b) _ _)) _] => some (sRet (bC (.bl b)))
  | _ => none
theorem cSu_ok (c : CtxS cc k S X W) {a : Addr} {oe : Obj} {pn : List (Addr × Obj)} {st : List Stmt} {h : Rho → Fl} (e : cSu cc S st = some h) : SSs (X.suite a ((a, oe) :: pn)) W0 st h := by
  unfold cSu at e
  split at e
  · rename_i x p b k p2 p3
    by_cases q : stoB S x = true
    · rw [if_pos q] at e
      obtain ⟨j, hj, h2⟩ := Option.map_eq_some_iff.mp e
      subst h2
      obtain ⟨s1, s2⟩ := stoB_ok c.c q
      exact ss_one (ss_set (X := X.suite a ((a, oe) :: pn)) (by show X.N.Nodup; rw [c.c.N]; exact c.c.nd) (by show X.N[j]? = _; rw [c.c.N]; exact ixOf_ok hj) s1 sf_bl rfl s2)
    · rw [if_neg q] at e; cases e
  · cases e
    exact ss_one (ss_ret sf_bl)
  · cases e
end
end VM
/-! VM18: from the text to the functions: statements, defs. -/
namespace VM
open PySem L2
/-! ### which names a text hands on whole -/
def uA (f : Expr → List Str) : Expr → List Str
  | .Name _ _ => []
  | e => f e
def uO (f : Expr → List Str) : Option Expr → List Str
  | none => []
  | some e => f e
def uE : Nat → Expr → List Str
  | 0, _ => []
  | n + 1, e => match e with
    | .Name x _ => [x]
    | .BinOp a _ b _ => uA (uE n) a ++ uA (uE n) b
    | .Compare a _ bs _ => uA (uE n) a ++ bs.flatMap (uA (uE n))
    | .BoolOp _ es _ => es.flatMap (uE n)
    | .UnaryOp _ a _ => uE n a
    | .IfExp c a b _ => uE n c ++ uE n a ++ uE n b
    | .Subscript a (.Slice lo hi _ _) _ => uA (uE n) a ++ uO (uE n) lo ++ uO (uE n) hi
    | .Subscript a b _ => uA (uE n) a ++ uA (uE n) b
    | .Tuple es _ _ => es.flatMap (uE n)
    | .List es _ => es.flatMap (uE n)
    | .Call (.Name f _) args _ _ => if f = "enumerate" ∨ f = "zip" ∨ f = "reversed" then args.flatMap (uE n) else args.flatMap (uA (uE n))
    | .Call (.Attribute o _ _) args _ _ => uA (uE n) o ++ args.flatMap (uE n)
    | .ListComp elt gs _ _ => uE n elt ++ gs.flatMap fun g => uE n g.iter ++ g.ifs.flatMap (uE n)
    | _ => []
def fz (cc : CC) (e : Expr) : List Nat := (uE 8 e).filterMap fun x => (ixOf cc.N x).bind fun i => if cc.muts.contains i = true then some i else none
def wrapF : List Nat → (Rho → Fl) → Rho → Fl
  | [], f => f
  | is, f => sFrz is f
theorem ss_wrap {X : Cx} {W : WX} {st : Stmt} {f : Rho → Fl} (is : List Nat) (h : SS X W st f) : SS X W st (wrapF is f) := by
  cases is with
  | nil => exact h
  | cons i is => exact ss_frz _ h
/-- an If whose test reads a list owned: frozen for the test alone -/
def sIfZ (is : List Nat) (c : Rho → R Bool) (f g : Rho → Fl) : Rho → Fl := fun ρ => (c (frzs is ρ)).fl ρ fun b => if b = true then f ρ else g ρ
theorem ss_ifZ {X : Cx} {W : WX} {pos : Pos} {c : Expr} {a b : List Stmt} {fc : Rho → R Bool} {f g : Rho → Fl} (is : List Nat) (hc : ST X W c fc) (ha : SSs X W a f) (hb : SSs X W b g) : SS X W (.If c a b pos) (sIfZ is fc f g) := by
  obtain ⟨t, p, h⟩ := hc.ex
  obtain ⟨u, q, k⟩ := ha.ex
  obtain ⟨u', q', k'⟩ := hb.ex
  refine ⟨_, ps_if p q q', fun S0 H0 ρ σ H Dd r w => h S0 H0 (frzs is ρ) σ H _ (r.frzs is).1 (fl_want r w fun b v H1 s z w1 => ?_)⟩
  have z' : v = b := z
  subst z'
  have w2 := WantS.step (Stp.of_same s) w1
  cases v with
  | true => exact k S0 H0 ρ σ H1 Dd (r.same s) w2
  | false => exact k' S0 H0 ρ σ H1 Dd (r.same s) w2
def apOf : Stmt → List Str
  | .Expr (.Call (.Attribute (.Name x _) m _) _ _ _) _ => if m = "append" then [x] else []
  | _ => []
def thaws (cc : CC) (c : Expr) (ss : List Stmt) : Bool := (fz cc c).any fun i => ss.any fun s => (apOf s).any fun x => decide (ixOf cc.N x = some i)
def ifF (is : List Nat) (t : Bool) (fc : Rho → R Bool) (f g : Rho → Fl) : Rho → Fl := match t with
  | true => sIfZ is fc f g
  | false => wrapF is (sIf fc f g)
theorem ss_ifF {X : Cx} {W : WX} {pos : Pos} {c : Expr} {a b : List Stmt} {fc : Rho → R Bool} {f g : Rho → Fl} (is : List Nat) (t : Bool) (hc : ST X W c fc) (ha : SSs X W a f) (hb : SSs X W b g) : SS X W (.If c a b pos) (ifF is t fc f g) := by
  cases t with
  | true => exact ss_ifZ is hc ha hb
  | false => exact ss_wrap _ (ss_if hc ha hb)
section
variable {cc : CC} {k : Nat} {S : SC} {X : Cx} {W : WX} {r : Rec}
theorem ss_set' {e : Expr} {fe : Rho → R (D × Bool)} {i : Nat} {x : Str} {p2 pos : Pos} {m : Bool} (hN : X.N.Nodup) (hi : X.N[i]? = some x) (hx : L2.Loc X.env.scope x) (he : SF X W e fe) (hs : swapsWith e (some (.Name x p2)) pos.line X.env = pure false) (hf : X.fn x = true ∨ X.env.scope.names.lookup x = some .local) :
    SS X W (.Assign [.Name x p2] e pos) (sSet i m fe) := by
  obtain ⟨t, q, h⟩ := he.ex
  exact ⟨_, ps_set hN hi hx q hs hf, set_sem h⟩
def swB (S : SC) (y : Str) (py pos : Pos) (scope : Scope) : Bool := (match S.sc.names.lookup y with | some .local => true | _ => false) && (py.line == pos.line) && !(scope.names.any fun (n, k) => n == y && (k == .local || k == .cell))
theorem sw_eq (c : Ctx cc k S X W) {elt : Expr} {gs : List Comprehension} {scope : Scope} {pos py : Pos} {y : Str} {l : Nat} : swapsWith (.ListComp elt gs scope pos) (some (.Name y py)) l X.env = pure (swB S y py pos scope) := by
  have hb : X.env.blockKind = .function := by unfold Env.blockKind; rw [c.kind]; rfl
  have hk : (X.env.kindOf y == some .local) = (match S.sc.names.lookup y with | some .local => true | _ => false) := by
    show (X.env.scope.names.lookup y == some .local) = _
    rw [c.sc]
    cases S.sc.names.lookup y with
    | none => rfl
    | some z => cases z <;> rfl
  unfold swapsWith swB
  simp only [hb, hk, Expr.pos]
  rfl
/-- x = e -/
def cSetE (cc : CC) (r : Rec) (S : SC) (x : Str) (px : Pos) (e : Expr) : Option (Rho → Fl) :=
  if stoB S x = true then
    match ixOf cc.N x with
    | some i => match e with
      | .ListComp elt [⟨tg, it, ifs, 0⟩] scope pos => (cComp cc r S elt tg it ifs scope).map fun q => wrapF (fz cc e) (sSet i (cc.muts.contains i) q.den)
      | .Dict [] [] _ => if cc.tds.contains i = true then some (sSet i (cc.muts.contains i) (fun _ => .ok (.dct [] [], true))) else some (sSet i (cc.muts.contains i) (fun _ => .ok (.dic [] [], true)))
      | e => if isComp e = true then none else (r.E S e).map fun f => wrapF (fz cc e) (sSet i (cc.muts.contains i) f)
    | none => none
  else none
theorem cSetE_ok (c : CtxS cc k S X W) (ok : RecOk cc k r) {x : Str} {px pos : Pos} {e : Expr} {f : Rho → Fl} (h : cSetE cc r S x px e = some f) : SS X W (.Assign [.Name x px] e pos) f := by
  unfold cSetE at h
  have nd : X.N.Nodup := by rw [c.c.N]; exact c.c.nd
  split at h
  · rename_i hs
    obtain ⟨s1, s2⟩ := stoB_ok c.c hs
    split at h
    · rename_i i hi
      have hN : X.N[i]? = some x := by rw [c.c.N]; exact ixOf_ok hi
      split at h
      · rename_i elt tg it ifs scope pos'
        obtain ⟨q, h1, h2⟩ := Option.map_eq_some_iff.mp h
        subst h2
        refine ss_wrap _ ?_
        obtain ⟨q1, q2⟩ := cComp_ok c.c ok h1
        cases hb : swB S x px pos' scope with
        | false => exact ss_set' nd hN s1 (q1 _) (by rw [sw_eq c.c, hb]) s2
        | true =>
          have hl : X.env.scope.names.lookup x = some .local := by
            unfold swB at hb
            rw [Bool.and_eq_true, Bool.and_eq_true] at hb
            have := hb.1.1
            rw [c.c.sc]
            split at this
            · assumption
            · cases this
          exact q2 i x px pos' pos _ hN hl (by rw [sw_eq c.c, hb])
      · split at h
        · cases h; exact ss_set nd hN s1 sf_dct rfl s2
        · cases h; exact ss_set nd hN s1 sf_dic rfl s2
      · split at h
        · cases h
        · rename_i hc
          obtain ⟨g, h1, h2⟩ := Option.map_eq_some_iff.mp h
          subst h2
          exact ss_wrap _ (ss_set nd hN s1 (ok.E _ _ _ _ _ c.c h1) (by simpa using hc) s2)
    · cases h
  · cases h
/-- x, y = e, e' -/
def locB (S : SC) (x : Str) : Bool := match S.sc.names.lookup x with | some .local => true | _ => false
theorem locB_ok (c : Ctx cc k S X W) {x : Str} (h : locB S x = true) : X.env.scope.names.lookup x = some .local := by
  unfold locB at h
  rw [c.sc]
  split at h
  · assumption
  · cases h
def cPar (cc : CC) (r : Rec) (S : SC) (x y : Str) (px py : Pos) (a b : Expr) : Option (Rho → Fl) :=
  if (locB S x && locB S y && (py.line == px.line) && decide (x ≠ y) && (!foldedForSure 8 a || !foldedForSure 8 b) && (!constantsAlone 8 a || !constantsAlone 8 b)) = true then
    match ixOf cc.N x, ixOf cc.N y with
    | some i, some j => if i = j then none else mk2 (sPar i j) (r.E S a) (r.E S b)
    | _, _ => none
  else none
theorem cPar_ok (c : CtxS cc k S X W) (ok : RecOk cc k r) {x y : Str} {px py pt pt2 pos : Pos} {kt k2 : Nat} {a b : Expr} {f : Rho → Fl} (h : cPar cc r S x y px py a b = some f) : SS X W (.Assign [.Tuple [.Name x px, .Name y py] kt pt] (.Tuple [a, b] k2 pt2) pos) f := by
  unfold cPar at h
  split at h
  · rename_i hb
    simp only [Bool.and_eq_true, decide_eq_true_eq, Bool.or_eq_true, Bool.not_eq_true'] at hb
    obtain ⟨⟨⟨⟨⟨b1, b2⟩, b3⟩, b4⟩, b5⟩, b6⟩ := hb
    split at h
    · rename_i i j hi hj
      split at h
      · cases h
      · rename_i ne
        obtain ⟨fa, fb, h1, h2, h3⟩ := mk2_ok h
        subst h3
        exact ss_par c.c.calm (by unfold Env.blockKind; rw [c.c.kind]; rfl) (by rw [c.c.N]; exact c.c.nd) (by rw [c.c.N]; exact ixOf_ok hi) (by rw [c.c.N]; exact ixOf_ok hj) ne (locB_ok c.c b1) (locB_ok c.c b2) b3 b4 b5 b6 (ok.E _ _ _ _ _ c.c h1) (ok.E _ _ _ _ _ c.c h2)
    · cases h
  · cases h
/-- the plain store to a place: what assign does at such a target -/
def plainSub : Expr → Bool
  | .Slice .. => false
  | _ => true
theorem assign_sub {x : Str} {p tpos : Pos} {e : Expr} {env : PySem.Env} (h : plainSub e = true) (v : Value) : assign (.Subscript (.Name x p) e tpos) env v = (do
      let ov ← holding [v] (eval (.Name x p) env)
      let iv ← holding [v, ov] (eval e env)
      standAt tpos
      holding [v, ov, iv] (setItem ov iv v)
      release [v, ov, iv] []) := by
  cases e <;> first | rfl | exact Bool.noConfusion (show false = true from h)
/-! ### a statement -/
def cTry (cc : CC) (S : SC) (rs : List Stmt → Option (Rho → Fl)) (body : List Stmt) (x : Str) (nm : Option Str) (suite : List Stmt) : Option (Rho → Fl) :=
  if suite.isEmpty = true then none else if glB S x = true then
    match cc.subs.lookup x, rs body with
    | some sub, some g => match nm with
      | none => (cSu cc S suite).map (sTry sub g)
      | some n => if locB S n = true then match cVar cc S n with
        | some i => (cHS cc S n i suite).map (sTryE sub i g)
        | none => none
        else none
    | _, _ => none
  else none
def cS (cc : CC) (r : Rec) (S : SC) (rs : List Stmt → Option (Rho → Fl)) (st : Stmt) : Option (Rho → Fl) := match st with
  | .Pass _ => some sNop
  | .Break _ => some .brk
  | .Continue _ => some .cont
  | .Return none _ => some (fun _ => .ret (.non, false))
  | .Return (some e) _ => match e with
    | .Name x _ => match cVar cc S x with
      | some i => some (sRetV i)
      | none => (r.E S e).map sRet
    | e => (r.E S e).map sRet
  | .If c a b _ => mk3 (ifF (fz cc c) (thaws cc c (a ++ b))) (r.T S c) (rs a) (rs b)
  | .While c body [] _ => mk2 sWhile (r.T S c) (rs body)
  | .For tg it body [] _ => match cWalk cc S tg it with
    | some q => (match cG cc S 3 tg, rs body with
      | some (ix, g), some f => some (wrapF (fz cc it) (sForW (bW (if q.1 = true then itI else itK) q.2) g f))
      | _, _ => none)
    | none => match cI cc r S tg it, cG cc S 3 tg, rs body with
      | some fi, some (ix, g), some f => some (wrapF (fz cc it) (sFor fi g f))
      | _, _, _ => none
  | .Assign [.Name x px] e _ => cSetE cc r S x px e
  | .Assign [.Tuple [.Name x px, .Name y py] _ _] (.Tuple [a, b] _ _) _ => (cPar cc r S x y px py a b).map (wrapF (fz cc a ++ fz cc b))
  | .Assign [.Tuple ts kt pt] e _ => if isComp e = true ∨ isTup e = true then none else match cG cc S 3 (.Tuple ts kt pt), r.E S e with
    | some (ix, g), some f => some (wrapF (fz cc e) (sAsg g f))
    | _, _ => none
  | .Assign [.Subscript (.Name x _) e1 _] e2 _ => if isComp e2 = true ∨ isSlice e1 = true ∨ plainSub e1 = false then none else match cVar cc S x, r.E S e1, r.E S e2 with
    | some i, some f1, some f2 => some (wrapF (fz cc e1 ++ fz cc e2) (sPut i f1 f2))
    | _, _, _ => none
  | .Expr (.Call (.Attribute (.Name x _) m apos) [] [] cpos) _ => if m = "clear" ∧ (apos.endLine == cpos.line) = true then (cVar cc S x).map fun i => sClr i else none
  | .Expr (.Call (.Attribute (.Name x _) m apos) [e] [] cpos) _ => if m = "append" ∧ (apos.endLine == cpos.line) = true then match cVar cc S x, r.E S e with
    | some i, some f => some (wrapF (fz cc e) (sApp i f))
    | _, _ => none
    else if m = "extend" ∧ (apos.endLine == cpos.line) = true then match cVar cc S x, r.E S e with
    | some i, some f => some (wrapF (fz cc e) (sExt i f))
    | _, _ => none
    else none
  | .Expr (.Call (.Attribute (.Name x _) m apos) [e1, e2] [] cpos) _ => if m = "insert" ∧ (apos.endLine == cpos.line) = true then match cVar cc S x, r.E S e1, r.E S e2 with
    | some i, some f1, some f2 => some (wrapF (fz cc e1 ++ fz cc e2) (sIns i f1 f2))
    | _, _, _ => none
    else none
  | .Expr (.Call f a kw p) _ => (r.E S (.Call f a kw p)).map fun g => wrapF (fz cc (.Call f a kw p)) (sDrop g)
  | .Raise (some (.Call (.Name x _) [e] [] _)) none _ => if glB S x = true then mk2 (fun fld f => sRaise x fld f) (cc.exs.lookup x) (r.E S e) else none
  | .Try body [.ExceptHandler (some (.Name x _)) nm suite _] [] [] _ => cTry cc S rs body x nm suite
  | _ => none
theorem cS_ok {rs : List Stmt → Option (Rho → Fl)} (ok : RecOk cc k r) (hrs : ∀ X W st f, CtxS cc k S X W → rs st = some f → SSs X W st f) (c : CtxS cc k S X W) {st : Stmt} {f : Rho → Fl} (h : cS cc r S rs st = some f) : SS X W st f := by
  have nd : X.N.Nodup := by rw [c.c.N]; exact c.c.nd
  unfold cS at h
  split at h
  · cases h; exact ss_pass
  · cases h; exact ss_brk
  · cases h; exact ss_cont
  · cases h; exact ss_retN
  · rename_i e pos
    split at h
    · rename_i x p
      split at h
      · rename_i i hi
        cases h
        obtain ⟨h1, h2, h3, h4⟩ := cVar_ok c.c hi
        exact ss_retV h1 h2 h3 h4
      · obtain ⟨g, h1, h2⟩ := Option.map_eq_some_iff.mp h
        subst h2
        exact ss_ret (ok.E _ _ _ _ _ c.c h1)
    · obtain ⟨g, h1, h2⟩ := Option.map_eq_some_iff.mp h
      subst h2
      exact ss_ret (ok.E _ _ _ _ _ c.c h1)
  · obtain ⟨x, y, z, k1, k2, k3, k4⟩ := mk3_ok h
    subst k4
    exact ss_ifF _ _ (ok.T _ _ _ _ _ c.c k1) (hrs _ _ _ _ c k2) (hrs _ _ _ _ c k3)
  · obtain ⟨x, y, k1, k2, k4⟩ := mk2_ok h
    subst k4
    exact ss_while c.passes (ok.T _ _ _ _ _ c.c k1) (hrs _ _ _ _ c k2)
  · split at h
    · rename_i q hq
      split at h
      · rename_i ix g f' h2 h3
        cases h
        rcases cWalk_ok c.c hq with ⟨hb, elts, kk, tpos, e, apos, cpos, rfl, rfl, sd, hbase, hline⟩ | ⟨hb, sd, hset⟩
        · rw [hb, if_pos rfl]
          exact ss_wrap _ (ss_forI c.passes c.c.calm sd hbase hline (cG_ok c.c h2) (hrs _ _ _ _ c h3))
        · rw [hb, if_neg (by simp)]
          exact ss_wrap _ (ss_forK c.passes c.c.calm sd hset (cG_ok c.c h2) (hrs _ _ _ _ c h3))
      · cases h
    · split at h
      · rename_i fi ix g f' h1 h2 h3
        cases h
        exact ss_wrap _ (ss_for c.passes c.c.calm (cI_ok c.c ok h1) (cG_ok c.c h2) (hrs _ _ _ _ c h3))
      · cases h
  · exact cSetE_ok c ok h
  · obtain ⟨g, h1, h2⟩ := Option.map_eq_some_iff.mp h
    subst h2
    exact ss_wrap _ (cPar_ok c ok h1)
  · rename_i ts kt pt e pos hno
    split at h
    · cases h
    · rename_i hc
      have q1 : isComp e = false := by
        cases h : isComp e with
        | true => exact absurd (.inl h) hc
        | false => rfl
      have q2 : isTup e = false := by
        cases h : isTup e with
        | true => exact absurd (.inr h) hc
        | false => rfl
      split at h
      · rename_i ix g f' h1 h2
        cases h
        exact ss_wrap _ (ss_asg (cG_ok c.c h1) rfl (ok.E _ _ _ _ _ c.c h2) q1 q2)
      · cases h
  · rename_i x p e1 tpos e2 pos
    split at h
    · cases h
    · rename_i hc
      have q1 : isComp e2 = false := by
        cases h : isComp e2 with
        | true => exact absurd (.inl h) hc
        | false => rfl
      have q2 : isSlice e1 = false := by
        cases h : isSlice e1 with
        | true => exact absurd (.inr (.inl h)) hc
        | false => rfl
      have q3 : plainSub e1 = true := by
        cases h : plainSub e1 with
        | true => rfl
        | false => exact absurd (.inr (.inr h)) hc
      split at h
      · rename_i i f1 f2 h1 h2 h3
        cases h
        obtain ⟨k1, k2, k3, k4⟩ := cVar_ok c.c h1
        exact ss_wrap _ (ss_put (by have := units65 c.c; omega) k1 k2 k3 k4 (ok.E _ _ _ _ _ c.c h2) (ok.E _ _ _ _ _ c.c h3) q1 q2 (assign_sub q3))
      · cases h
  · rename_i x p m apos cpos pos
    split at h
    · rename_i hm
      obtain ⟨e1, e2⟩ := hm
      subst e1
      obtain ⟨i, h1, h2⟩ := Option.map_eq_some_iff.mp h
      subst h2
      obtain ⟨k1, k2, k3, k4⟩ := cVar_ok c.c h1
      exact ss_clr k1 k2 k3 k4 e2
    · cases h
  · rename_i x p m apos e cpos pos
    split at h
    · rename_i hm
      obtain ⟨e1, e2⟩ := hm
      subst e1
      split at h
      · rename_i i f' h1 h2
        cases h
        obtain ⟨k1, k2, k3, k4⟩ := cVar_ok c.c h1
        exact ss_wrap _ (ss_app k1 k2 k3 k4 (ok.E _ _ _ _ _ c.c h2) e2)
      · cases h
    · split at h
      · rename_i hm
        obtain ⟨e1, e2⟩ := hm
        subst e1
        split at h
        · rename_i i f' h1 h2
          cases h
          obtain ⟨k1, k2, k3, k4⟩ := cVar_ok c.c h1
          exact ss_wrap _ (ss_ext k1 k2 k3 k4 (ok.E _ _ _ _ _ c.c h2) e2)
        · cases h
      · cases h
  · rename_i x p m apos a1 a2 cpos pos
    split at h
    · rename_i hm
      obtain ⟨e1, e2⟩ := hm
      subst e1
      split at h
      · rename_i i f1 f2 h1 h2 h3
        cases h
        obtain ⟨k1, k2, k3, k4⟩ := cVar_ok c.c h1
        exact ss_wrap _ (ss_ins k1 k2 k3 k4 (ok.E _ _ _ _ _ c.c h2) (ok.E _ _ _ _ _ c.c h3) e2)
      · cases h
    · cases h
  · obtain ⟨g, h1, h2⟩ := Option.map_eq_some_iff.mp h
    subst h2
    exact ss_wrap _ (ss_drop (ok.E _ _ _ _ _ c.c h1) rfl)
  · split at h
    · rename_i hg
      obtain ⟨fld, f', h1, h2, h3⟩ := mk2_ok h
      subst h3
      obtain ⟨gl, hd⟩ := glB_ok c.c hg
      exact ss_raise c.c.calm c.c.takes (c.exs _ _ h1) c.c.room gl hd (ok.E _ _ _ _ _ c.c h2)
    · cases h
  · rename_i body x p nm suite p2 pos
    unfold cTry at h
    split at h
    · cases h
    rename_i hne
    split at h
    · rename_i hg
      obtain ⟨gl, hd⟩ := glB_ok c.c hg
      split at h
      · rename_i sub g h1 h2
        obtain ⟨cv, hs, hsub⟩ := c.subs _ _ h1
        have names : Names X x cv := ⟨gl, hd, hs⟩
        have hb : ∀ (W : WX) (pn : List (Addr × Obj)) (xe : Value → Shared → Prop), Takes (X.tr pn xe) W → PassesOwn (model X.prog X.w) X.A X.env xe → SSs (X.tr pn xe) W body g := fun W pn xe t q => hrs _ _ _ _ (c.tr pn xe t q) h2
        split at h
        · obtain ⟨g', h3, h4⟩ := Option.map_eq_some_iff.mp h
          subst h4
          cases suite with
          | nil => cases h3
          | cons b0 su => exact ss_try c.stk c.frm names c.c.takes hsub hb fun a oe pn => cSu_ok c h3
        · rename_i n
          split at h
          · rename_i hl
            split at h
            · rename_i i hi
              obtain ⟨g', h3, h4⟩ := Option.map_eq_some_iff.mp h
              subst h4
              obtain ⟨k1, k2, k3, k4⟩ := cVar_ok c.c hi
              cases suite with
              | nil => exact absurd rfl hne
              | cons b0 su => exact ss_tryE c.stk c.frm nd k1 (locB_ok c.c hl) names c.c.takes hsub hb fun a oe cls d pn hz hf => cHS_ok c hi hz hf h3
            · cases h
          · cases h
      · cases h
    · cases h
  · cases h
/-! ### a def -/
def cSs (cc : CC) (r : Rec) (S : SC) : Nat → List Stmt → Option (Rho → Fl)
  | 0, _ => none
  | n + 1, sts => sts.foldr (fun st acc => mk2 sSeq (cS cc r S (cSs cc r S n) st) acc) (some sNop)
theorem cSs_ok (ok : RecOk cc k r) : ∀ (n : Nat) (X : Cx) (W : WX) (sts : List Stmt) (f : Rho → Fl), CtxS cc k S X W → cSs cc r S n sts = some f → SSs X W sts f
  | 0, X, W, sts, f, c, h => by cases h
  | n + 1, X, W, sts, f, c, h => by
    unfold cSs at h
    induction sts generalizing f with
    | nil => cases h; exact ss_nil
    | cons st sts ih =>
      rw [List.foldr_cons] at h
      obtain ⟨x, y, h1, h2, h3⟩ := mk2_ok h
      subst h3
      exact ss_cons (cS_ok ok (fun X W st f c h => cSs_ok ok n X W st f c h) c h1) (ih y h2)
end
/-- what a def's function is, by its text's -/
def runF (n : Nat) (g : Rho → Fl) (ds : List D) : R (D × Bool) := match g ((ds.map fun d => some (d, false)) ++ List.replicate (n - ds.length) none) with
  | .ret p => .ok p
  | .next _ => .ok (.non, false)
  | .exc _ c fs => .exc c fs
  | _ => .bad
/-- what the written part gives to all defs -/
structure Mod' (P : Program) (w : World) (K : PySem.W.Frag) (mg : Str → Option Value) (base : Heap) (cc : CC) (k : Nat) : Prop where
  fns : ∀ x ar m, cc.fns.lookup x = some (ar, m) → FnAt P w K mg base k x ar m
  cons : ∀ x d, cc.cons.lookup x = some d → GC K mg x d
  kds : ∀ x t, cc.kds.lookup x = some t → KdAt K w mg x t
  flds : ∀ f, cc.oflds.contains f = true → Cls K cc.oc ∧ NoAttr K cc.oc f
  meths : ∀ m ar g, cc.meths.lookup m = some (ar, g) → MetAt P w K mg base k cc.oc m ar g
  blt : ∀ x, (["len", "abs", "int", "min", "max", "sum", "all", "any", "tuple", "list", "sorted", "range", "enumerate", "zip", "isinstance", "bool", "str", "reversed", "set", "dict"] : List Str).contains x = true → mg x = none
  exs : ∀ x fld, cc.exs.lookup x = some fld → ExAt P w K mg base k x fld
  subs : ∀ x sub, cc.subs.lookup x = some sub → ∃ cv, (mg x = some cv ∨ (mg x = none ∧ bootBuiltins x = some cv ∧ x ≠ "__name__")) ∧ Sub K mg cv sub
  kits : ∀ x kt, cc.kits.lookup x = some kt → ∃ cv vc, (mg x = some cv ∨ (mg x = none ∧ bootBuiltins x = some cv ∧ x ≠ "__name__")) ∧ ClsV vc cv ∧ RelV vc cv ∧ Kit K mg cv kt ∧ ∀ c C, mg c = some (.ref C) → kt c ≠ none → ExcC K C
theorem rl_start {K : PySem.W.Frag} {S0 : Addr → Prop} {H : Hp} {n : Nat} {ds : List D} {vs : List V} (h0 : ∀ a, S0 a → ∃ o, H a = some o) (r : Reps K S0 H ds vs) (hn : ds.length ≤ n) :
    Rl K S0 H ((ds.map fun d => some (d, false)) ++ List.replicate (n - ds.length) none) ((vs.map some) ++ List.replicate (n - vs.length) none) H := by
  have hl := r.length
  have get : ∀ i d b, ((ds.map fun d => some (d, false)) ++ List.replicate (n - ds.length) none)[i]? = some (some (d, b)) → b = false ∧ ds[i]? = some d := fun i d b e => by
    by_cases hi : i < ds.length
    · rw [List.getElem?_append_left (by rw [List.length_map]; exact hi), List.getElem?_map, List.getElem?_eq_getElem hi] at e
      have e2 : (some (ds[i], false) : Option (D × Bool)) = some (d, b) := Option.some.inj e
      cases e2
      exact ⟨rfl, List.getElem?_eq_getElem hi⟩
    · rw [List.getElem?_append_right (by rw [List.length_map]; omega)] at e
      rw [List.getElem?_replicate] at e
      split at e <;> cases e
  refine ⟨by simp [hl], h0, Same.refl _, fun i d e => ?_, fun i d e => ?_, fun i j d e' a e => ?_⟩
  · obtain ⟨_, e1⟩ := get i d false e
    obtain ⟨v, h1, h2⟩ := r.get e1
    refine ⟨v, ?_, h2.less fun a z => z.elim id fun ⟨j, d', z, _⟩ => by cases (get j d' true z).1⟩
    have hi : i < vs.length := (List.getElem?_eq_some_iff.mp h1).1
    rw [List.getElem?_append_left (by rw [List.length_map]; exact hi), List.getElem?_map, h1]; rfl
  · cases (get i d true e).1
  · cases (get i d true e).1
section
variable {P : Program} {w : World} {K : PySem.W.Frag} {mg : Str → Option Value} {base : Heap} {cc : CC} {k : Nat}
theorem ctx_of (M : Mod' P w K mg base cc k) {qual : Str} {st : Stmt} {f : Addr} {ps : List Str} (S : FnScope cc.N ps (defScope st)) (cdv : Value) (A : Around) (outer : List Env) (s : Shared) (H : Hp) (E : XK) (hr : Room (k + 1) (A.deeper (PyProof.Rows.envOfC qual (defScope st) s.heap.objs.size f cdv))) :
    CtxS cc k ⟨defScope st, defScope st⟩ (cxOf (L2.CX P w) P w K mg base cc.N qual (defScope st) f cdv A outer s H E) (fun cls d _ H => E cls d H) where
  c := ⟨rfl, S.nd, rfl, S.kind, fun _ _ => rfl, rfl, hr, takes_of rfl rfl rfl rfl, M.fns, M.cons, M.kds, M.flds, M.meths, M.blt⟩
  passes := passes_of rfl
  stk := rfl
  frm := rfl
  exs := M.exs
  subs := M.subs
  kits := M.kits
/-- a def keeps what its text's function says -/
theorem def_ok (M : Mod' P w K mg base cc k) {x qn : Str} {st : Stmt} {f : Addr} {fd : FuncData} {ps : List Str} {g : Rho → Fl} (F : Fun K x qn st f fd) (S : FnScope cc.N ps (defScope st)) (h : cSs cc (cRec cc 12) ⟨defScope st, defScope st⟩ 12 (defBody st) = some g) :
    FnOk P w K mg base (L2.CX P w) (k + 2) f fd ps (spOf K mg ps.length (runF cc.N.length g)) := by
  have hpl : ps.length ≤ cc.N.length := by
    have := congrArg List.length S.pre
    rw [List.length_take] at this
    omega
  refine F.okX S (fun vs H Q E h => ?_) fun cdv A outer s H vs Q E hr hsp => ?_
  · obtain ⟨S0, ds, _, r, e, _⟩ := h
    rw [r.length, e]
  · obtain ⟨S0, ds, h0, r, el, m⟩ := hsp
    have c := ctx_of (qual := qn) (f := f) M S cdv A outer s H E hr
    obtain ⟨t, p, sem⟩ := (cSs_ok (cRec_ok 12) 12 _ _ _ _ c h).ex
    refine ⟨t, p, sem S0 H ((ds.map fun d => some (d, false)) ++ List.replicate (cc.N.length - ds.length) none) _ H _ (by
      have := rl_start (n := cc.N.length) h0 r (by omega)
      exact this) ?_⟩
    unfold runF at m
    cases hg : g ((ds.map fun d => some (d, false)) ++ List.replicate (cc.N.length - ds.length) none) with
    | next ρ' =>
      rw [hg] at m
      exact fun σ' H' rl _ => m .non H' rl.keep (PF.of rfl)
    | ret q =>
      rw [hg] at m
      exact fun v H' s pf => m v H' s pf
    | brk ρ' => rw [hg] at m; exact m.elim
    | cont ρ' => rw [hg] at m; exact m.elim
    | exc ρ' c fs =>
      rw [hg] at m
      exact fun cls dd σ' H' rl _ ex => m cls dd H' rl.keep ex
    | bad => rw [hg] at m; exact m.elim
end
end VM
/-! VM19: defs, classes, the end. -/
namespace VM
open PySem L2
section
variable {P : Program} {w : World} {K : PySem.W.Frag} {mg : Str → Option Value} {base : Heap} {cc : CC} {j k : Nat}
theorem FnAt.mono {x : Str} {ar : Nat} {m : List D → R (D × Bool)} (F : FnAt P w K mg base j x ar m) (h : j ≤ k) : FnAt P w K mg base k x ar m := by
  obtain ⟨f, fd, ps, h1, h2, h3, h4, h5⟩ := F.ex
  exact ⟨f, fd, ps, h1, h2, h3, h4, h5.mono h⟩
theorem ExAt.mono {x : Str} {fld : XF} (F : ExAt P w K mg base j x fld) (h : j ≤ k) : ExAt P w K mg base k x fld := by
  obtain ⟨C, fI, fd, ps, h1, h2, h3, h4, h5, h6, h7, h8⟩ := F.ex
  exact ⟨C, fI, fd, ps, h1, h2, h3, h4, h5, h6, h7, h8.mono h⟩
/-- the functions of a list stand -/
def Fns (P : Program) (w : World) (K : PySem.W.Frag) (mg : Str → Option Value) (base : Heap) (k : Nat) (l : List (Str × Nat × (List D → R (D × Bool)))) : Prop := ∀ x ar m, l.lookup x = some (ar, m) → FnAt P w K mg base k x ar m
theorem Fns.nil : Fns P w K mg base k [] := fun _ _ _ h => by cases h
theorem Fns.mono {l : List (Str × Nat × (List D → R (D × Bool)))} (F : Fns P w K mg base j l) (h : j ≤ k) : Fns P w K mg base k l := fun x ar m e => (F x ar m e).mono h
theorem Fns.cons {x : Str} {ar : Nat} {m : List D → R (D × Bool)} {l : List (Str × Nat × (List D → R (D × Bool)))} (A : FnAt P w K mg base k x ar m) (F : Fns P w K mg base k l) : Fns P w K mg base k ((x, ar, m) :: l) := fun y ar' m' e => by
  rw [List.lookup_cons] at e
  cases hb : y == x with
  | true =>
    rw [hb] at e
    have := beq_iff_eq.mp hb
    subst this
    cases e
    exact A
  | false => rw [hb] at e; exact F y ar' m' e
/-- what does not change from def to def -/
structure Same' (P : Program) (w : World) (K : PySem.W.Frag) (mg : Str → Option Value) (base : Heap) (cons : List (Str × D)) (exs : List (Str × XF)) (subs kits : List (Str × (Str → Option Bool))) (kds : List (Str × List (Str × Str))) : Prop where
  cons : ∀ x d, cons.lookup x = some d → GC K mg x d
  kds : ∀ x t, kds.lookup x = some t → KdAt K w mg x t
  blt : ∀ x, (["len", "abs", "int", "min", "max", "sum", "all", "any", "tuple", "list", "sorted", "range", "enumerate", "zip", "isinstance", "bool", "str", "reversed", "set", "dict"] : List Str).contains x = true → mg x = none
  exs : ∀ x fld, exs.lookup x = some fld → ExAt P w K mg base 3 x fld
  subs : ∀ x sub, subs.lookup x = some sub → ∃ cv, (mg x = some cv ∨ (mg x = none ∧ bootBuiltins x = some cv ∧ x ≠ "__name__")) ∧ Sub K mg cv sub
  kits : ∀ x kt, kits.lookup x = some kt → ∃ cv vc, (mg x = some cv ∨ (mg x = none ∧ bootBuiltins x = some cv ∧ x ≠ "__name__")) ∧ ClsV vc cv ∧ RelV vc cv ∧ Kit K mg cv kt ∧ ∀ c C, mg c = some (.ref C) → kt c ≠ none → ExcC K C
theorem mod_of (A : Same' P w K mg base cc.cons cc.exs cc.subs cc.kits cc.kds) (F : Fns P w K mg base k cc.fns) (hk : 3 ≤ k) (O : (∀ f, cc.oflds.contains f = true → Cls K cc.oc ∧ NoAttr K cc.oc f) ∧ ∀ m ar g, cc.meths.lookup m = some (ar, g) → MetAt P w K mg base k cc.oc m ar g) : Mod' P w K mg base cc k where
  fns := F
  cons := A.cons
  kds := A.kds
  flds := O.1
  meths := O.2
  blt := A.blt
  exs := fun x fld h => (A.exs x fld h).mono hk
  subs := A.subs
  kits := A.kits
theorem fn_at (A : Same' P w K mg base cc.cons cc.exs cc.subs cc.kits cc.kds) (Fs : Fns P w K mg base k cc.fns) (hk : 3 ≤ k) (O : (∀ f, cc.oflds.contains f = true → Cls K cc.oc ∧ NoAttr K cc.oc f) ∧ ∀ m ar g, cc.meths.lookup m = some (ar, g) → MetAt P w K mg base k cc.oc m ar g) {x : Str} {st : Stmt} {f : Addr} {fd : FuncData} {ps : List Str} {g : Rho → Fl} (hm : mg x = some (.ref f)) (F : Fun K x x st f fd) (b : Binds K fd ps []) (kk : PySem.W.keepIn K (.ref f) = true) (S : FnScope cc.N ps (defScope st))
    (h : cSs cc (cRec cc 12) ⟨defScope st, defScope st⟩ 12 (defBody st) = some g) : FnAt P w K mg base (k + 2) x ps.length (runF cc.N.length g) :=
  ⟨f, fd, ps, hm, kk, b, rfl, def_ok (mod_of A Fs hk O) F S h⟩
theorem no_obj {P : Program} {w : World} {K : PySem.W.Frag} {mg : Str → Option Value} {base : Heap} {k : Nat} {C : Addr} : (∀ f, ([] : List Str).contains f = true → Cls K C ∧ NoAttr K C f) ∧ ∀ m ar g, ([] : List (Str × Nat × (List D → R (D × Bool)))).lookup m = some (ar, g) → MetAt P w K mg base k C m ar g := ⟨fun _ h => (by cases h), fun _ _ _ h => (by cases h)⟩
/-! ### HouseError -/
def heBody (p1 p2 p3 p4 p5 p6 p7 p8 p9 p10 : Pos) : List Stmt := [.Expr (.Call (.Attribute (.Name "ValueError" p1) "__init__" p2) [.Name "self" p3, .Name "why" p4] [] p5) p6, .Assign [.Attribute (.Name "self" p7) "why" p8] (.Name "why" p9) p10]
theorem he_ok {st : Stmt} {f : Addr} {fd : FuncData} {p1 p2 p3 p4 p5 p6 p7 p8 p9 p10 : Pos} (F : Fun K "__init__" "HouseError.__init__" st f fd) (S : FnScope ["self", "why"] ["self", "why"] (defScope st)) (hb : defBody st = heBody p1 p2 p3 p4 p5 p6 p7 p8 p9 p10)
    (hg : (defScope st).names.lookup ("ValueError" : Str) = some .globalImplicit) (hm : mg "ValueError" = none) (hc : ∃ pl : PySem.Env → Sem Bool, ∀ env, eval (.Call (.Attribute (.Name "ValueError" p1) "__init__" p2) [.Name "self" p3, .Name "why" p4] [] p5) env = (do
      let ov ← eval (.Name "ValueError" p1) env
      standAt p2.atName
      let (f, first) ← holding [ov] (getMethod ov "__init__" (pl env))
      callWith p5 f first (backTo p5 (starEach [.Name "self" p3, .Name "why" p4] env)) (backToKw p5 (keywordEach [] env))))
    (vV : PySem.W.findCls K (.type "ValueError") (.type "type") "__init__" = some (.val (.builtin "ValueError.__init__"))) : FnOk P w K mg base (L2.CX P w) 2 f fd ["self", "why"] (spHE K "why") := by
  refine F.okX (k := 1) S (fun vs H Q E h => ?_) fun cdv A outer s H vs Q E hr hsp => ?_
  · obtain ⟨a, C, y, rfl, _⟩ := h
    rfl
  · obtain ⟨a, C, y, rfl, T, hf, ha, k⟩ := hsp
    have v0 : Vis (defScope st) "self" := (S.par "self" (by simp)).elim .inl fun z => .inr (.inl z)
    have v1 : Vis (defScope st) "why" := (S.par "why" (by simp)).elim .inl fun z => .inr (.inl z)
    obtain ⟨pl, hc⟩ := hc
    rw [hb]
    refine ⟨_, pss_cons (ps_expr (pe_veinit hg hm vV (pa_cons (pe_var (i := 0) rfl v0) (pa_cons (pe_var (i := 1) rfl v1) pa_nil)) (hc _)) rfl) (pss_one (ps_ost (pe_var (i := 0) rfl v0) (pe_var (i := 1) rfl v1) rfl)), ?_⟩
    refine ⟨_, rfl, _, rfl, a, C, [y], rfl, by simp, T, ha, _, rfl, _, rfl, a, C, rfl, T, hf, .inl ⟨ha, fun dx n ne => k dx n ne⟩⟩
theorem ex_he {fld : Str} {vs : List V} {H : Hp} {Q : VK} {E : XK} (h : spEX K (fld, []) vs H Q E) : spHE K fld vs H Q E := by
  obtain ⟨a, C, y, e, T, hf, _, ha, k⟩ := h
  refine ⟨a, C, y, e, T, hf, ha, fun dx n ne => k dx _ n ne upd_same ?_ fun b h1 h2 => ?_⟩
  · rw [upd_ne ne, upd_same]; rfl
  · rw [upd_ne h1, upd_ne h2]
/-- C.m(e, ..), C a class of the module, m a def of it -/
theorem pe_clsfn {X : Cx} {CX : CXT} {sp : Sp} {C f : Addr} {fd : FuncData} {ps : List Str} {mc : Value} {y m : Str} {E : XK} {e : Expr} {es : List Expr} {t : TA} {pl : Sem Bool} {p1 p2 pos : Pos} (hg : Gl X y) (hm : X.mg y = some (.ref C)) (rd : PySem.W.readsIn X.K C mc = true)
    (ga : PySem.W.specialIn X.K (.ref C) "__getattribute__" = some (some (.builtin "type.__getattribute__"))) (at_ : PySem.W.findCls X.K (.ref C) mc m = some (.val (.ref f))) (F : FnOk X.prog X.w X.K X.mg X.base CX k f fd ps sp) (hr : Room k X.A) (hk : PySem.W.keepIn X.K (.ref f) = true)
    (hb : Binds X.K fd ps []) (hx : Passes CX X E) (ha : PA X (e :: es) t) (hdb : (y == ("__debug__" : Str)) = false) (hst : starEach (e :: es) X.env = (false, eval e X.env) :: starEach es X.env) (hpl : (backTo pos (starEach es X.env)).any (·.1) = false)
    (ht : eval (.Call (.Attribute (.Name y p1) m p2) (e :: es) [] pos) X.env = (do
      let ov ← eval (.Name y p1) X.env
      standAt p2.atName
      let (f, first) ← holding [ov] (getMethod ov m pl)
      callWith pos f first (backTo pos (starEach (e :: es) X.env)) (backToKw pos (keywordEach [] X.env)))) :
    PE X (.Call (.Attribute (.Name y p1) m p2) (e :: es) [] pos) (tCall sp [] E t) := by
  refine ⟨fun pins s σ H Q I h => ?_⟩
  refine PySem.W.methodCall_KW (pl := pl) (ld_glob I hg hm ?_ hdb) ht
  refine PySem.W.method_cls I.kIn ga (PySem.W.cls_value I.kIn rd at_ rfl ?_)
  refine PySem.W.callWith_K (h₀ := X.base) I.ok.mod.kin hk (thn (ha.run pos pins _ σ H _ (I.tok _) h) fun us s1 ⟨vs, H1, I1, r, q⟩ => ⟨I1.kIn, ?_⟩) hst hpl
  exact run_fn F hr hb .nil hx I1 r q
/-- def __init__(self, fld): HouseError.__init__(self, msg); self.fld = fld -/
def nrBody (fld msg : Str) (kk : Nat) (p1 p2 p3 p4 p5 p6 p7 p8 p9 p10 : Pos) : List Stmt := [.Expr (.Call (.Attribute (.Name "HouseError" p1) "__init__" p2) [.Name "self" p3, .Constant (.str msg) kk p4] [] p5) p6, .Assign [.Attribute (.Name "self" p7) fld p8] (.Name fld p9) p10]
theorem nr_ok {st : Stmt} {qn fld msg : Str} {f fI CH : Addr} {fd fdI : FuncData} {psI : List Str} {mc : Value} {kk : Nat} {p1 p2 p3 p4 p5 p6 p7 p8 p9 p10 : Pos} (F : Fun K "__init__" qn st f fd) (S : FnScope ["self", fld] ["self", fld] (defScope st)) (hfd : (fld == ("__debug__" : Str)) = false) (hfc : (fld == ("__classdict__" : Str)) = false) (hb : defBody st = nrBody fld msg kk p1 p2 p3 p4 p5 p6 p7 p8 p9 p10)
    (hg : (defScope st).names.lookup ("HouseError" : Str) = some .globalImplicit) (hm : mg "HouseError" = some (.ref CH)) (rd : PySem.W.readsIn K CH mc = true) (ga : PySem.W.specialIn K (.ref CH) "__getattribute__" = some (some (.builtin "type.__getattribute__")))
    (at_ : PySem.W.findCls K (.ref CH) mc "__init__" = some (.val (.ref fI))) (hk : PySem.W.keepIn K (.ref fI) = true) (bI : Binds K fdI psI []) (G : FnOk P w K mg base (L2.CX P w) 2 fI fdI psI (spHE K "why"))
    (hc : ∃ pl : PySem.Env → Sem Bool, ∀ env, eval (.Call (.Attribute (.Name "HouseError" p1) "__init__" p2) [.Name "self" p3, .Constant (.str msg) kk p4] [] p5) env = (do
      let ov ← eval (.Name "HouseError" p1) env
      standAt p2.atName
      let (f, first) ← holding [ov] (getMethod ov "__init__" (pl env))
      callWith p5 f first (backTo p5 (starEach [.Name "self" p3, .Constant (.str msg) kk p4] env)) (backToKw p5 (keywordEach [] env)))) : FnOk P w K mg base (L2.CX P w) 3 f fd ["self", fld] (spEX K (fld, [("why", msg)])) := by
  refine F.okX (k := 2) S (fun vs H Q E h => ?_) fun cdv A outer s H vs Q E hr hsp => ?_
  · obtain ⟨a, C, y, rfl, _⟩ := h
    rfl
  · obtain ⟨a, C, y, rfl, T, hf, hfl, ha, k⟩ := hsp
    have v0 : Vis (defScope st) "self" := (S.par "self" (by simp)).elim .inl fun z => .inr (.inl z)
    have v1 : Vis (defScope st) fld := (S.par fld (by simp)).elim .inl fun z => .inr (.inl z)
    obtain ⟨pl, hc⟩ := hc
    rw [hb]
    refine ⟨_, pss_cons (ps_expr (pe_clsfn (E := fun _ _ _ => False) hg hm rd ga at_ G (hr.mono (by decide)) hk bI (fun pins σ H s u s' I z => ?_) (pa_cons (pe_var (i := 0) rfl v0) (pa_cons pe_str pa_nil)) (by decide) rfl rfl (hc _)) rfl) (pss_one (ps_ost (pe_var (i := 0) rfl v0) (pe_var (i := 1) rfl v1 hfd hfc) rfl)), ?_⟩
    · obtain ⟨_, _, _, _, _, _, _, _, _, _, _, _, z⟩ := z
      exact z.elim
    refine ⟨_, rfl, a, C, .str msg, rfl, T, hfl ("why", msg) (by simp), ha, fun dx n ne => ?_⟩
    have na : a ≠ dx := fun z => ne z.symm
    refine ⟨_, rfl, _, rfl, a, C, rfl, T, hf, .inr ⟨dx, [("why", .str msg)], upd_same, ?_, by simp, ?_⟩⟩
    · rw [upd_ne ne, upd_same]
    · refine k dx _ n ne ?_ upd_same fun b h1 h2 => ?_
      · rw [upd_ne na, upd_same]
      · rw [upd_ne h2, upd_ne h1, upd_ne h2]
/-! ### classes -/
theorem kit_own {Cx Cz : Addr} {b : Bool} (ic : PySem.W.isClsIn K Cz = true) (ty : PySem.W.typeIn K (.ref Cz) = some (.type "type")) (sb : PySem.W.subIn K (.ref Cx) (.ref Cz) = some b) (ne : Cx ≠ Cz) : PySem.W.kitOne K (.ref Cx) (.ref Cz) = some b := by
  have ic' : (PySem.W.clsIn K Cz).isSome = true := ic
  have n : (Value.ref Cx == Value.ref Cz) = false := by
    cases h : (Value.ref Cx == Value.ref Cz) with
    | false => rfl
    | true => exact absurd (Value.ref.inj (beq_iff_eq.mp h)) ne
  simp [PySem.W.kitOne, PySem.W.kitCls, n, ic', ty, sb]
theorem kit_self {C : Addr} : PySem.W.kitOne K (.ref C) (.ref C) = some true := if_pos (beq_self_eq_true _)
theorem kit_bty {C : Addr} {T : String} {b : Bool} (hm : PySem.W.kitMeta T = true) (sb : PySem.W.subIn K (.ref C) (.type T) = some b) : PySem.W.kitOne K (.ref C) (.type T) = some b := by
  have n : (Value.ref C == Value.type T) = false := by
    cases h : (Value.ref C == Value.type T) with
    | false => rfl
    | true => cases beq_iff_eq.mp h
  simp [PySem.W.kitOne, PySem.W.kitCls, n, hm, sb]
theorem exm_own {Cx Cz : Addr} {b : Bool} (eb : PySem.W.subIn K (.ref Cz) (.type "BaseException") = some true) (ic : PySem.W.isClsIn K Cz = true) (ty : PySem.W.typeIn K (.ref Cz) = some (.type "type")) (sb : PySem.W.subIn K (.ref Cx) (.ref Cz) = some b) : PySem.W.exmOne K (.ref Cx) (.ref Cz) = some b := by
  have ic' : (PySem.W.clsIn K Cz).isSome = true := ic
  simp [PySem.W.exmOne, PySem.W.kitCls, eb, ic', ty, sb]
/-- what a law promises: at every script true -/
def spL (K : PySem.W.Frag) (m : List D → R (D × Bool)) : Sp := fun vs H Q _ => ∃ (a : Addr) (ns : List Int) (b : Bool), vs = [.ref a] ∧ ((∃ o, H a = some (.frz o (.lst (ns.map V.int)))) ∨ KL K a (ns.map V.int)) ∧ m [.scr ns] = .ok (.bl true, b) ∧ ∀ H', Q (.bl true) H'
theorem spL_imp {m : List D → R (D × Bool)} {vs : List V} {H : Hp} {Q : VK} {E : XK} (h : spL K m vs H Q E) : spOf K mg 1 m vs H Q E := by
  obtain ⟨a, ns, b, rfl, hS, hm, q⟩ := h
  refine ⟨fun _ => False, [.scr ns], fun _ h => h.elim, ⟨.ref a, [], rfl, ⟨a, rfl, hS⟩, rfl⟩, rfl, ?_⟩
  rw [hm]
  intro v H' s pf
  have e : v = .bl true := pf.1
  rw [e]
  exact q H'
theorem spL_law {H : Hp} {a : Addr} {ns : List Int} {m : List D → R (D × Bool)} {E : XK} (hO : Only H) (hS : SqL K H a (ns.map V.int)) (hm : ∃ b, m [.scr ns] = .ok (.bl true, b)) : spL K m [.ref a] H (fun v _ => v = .bl true) E := by
  obtain ⟨b, hm⟩ := hm
  refine ⟨a, ns, b, rfl, ?_, hm, fun _ => rfl⟩
  rcases hS with (h | ⟨o, h⟩) | h
  · rcases hO a with z | ⟨o, xs, z⟩
    · rw [z] at h; cases h
    · rw [z] at h; cases h
  · exact .inl ⟨o, h⟩
  · exact .inr h
theorem walk {l : PySem.W.OpenLaw} {q : Program} {loose : List Str} {XP : (Str → Option Value) → Heap → Prop} {YP : World → Heap → Prop} {d : DefRec} {K : Params → PySem.W.Frag} {k : Nat} {x : Str} {m : List D → R (D × Bool)} (law : ∀ ns : List Int, ns.length ≤ 63 → ∃ b, m [.scr ns] = .ok (.bl true, b))
    (hn : l.most = some 63) (hdf : d.params.defaults = []) (hr : Room k callerA) (hY : ∀ (w : World) (h : Heap), YP w h → (K w.params).In h)
    (F : ∀ (w : World) (mg : Str → Option Value) (fa : Addr) (h : Heap), (K w.params).In h → h.Ns mainGlobals mg → mg d.name = some (.ref fa) →
      ∃ fd : FuncData, (∀ (s : Shared) (u : Value), BindsTo s fd ⟨[u], []⟩ [(x, u)]) ∧ ∀ base : Heap, (K w.params).In base → base.Ns mainGlobals mg → FnOk l.prog w (K w.params) mg base (L2.CX l.prog w) k fa fd [x] (spL (K w.params) m)) :
    PySem.W.WalkO q loose XP YP l.row.toRowW d [] (fun f vs => PySem.call f vs) :=
  L2.walk_of (n := 63) (CX := fun w => L2.CX l.prog w) (sp := fun w => spL (K w.params) m) hn (by decide) hdf hr hY F (fun _ _ _ ns hl hO hS => spL_law hO hS (law ns hl)) fun _ _ _ _ _ h => by
    obtain ⟨_, _, _, _, _, _, _, _, _, _, _, _, z⟩ := h
    exact z.elim
end
/-! ### tables -/
section
variable {β : Type} {P : Str → β → Prop} {a : Str} {b : β} {l : List (Str × β)}
theorem lk_nil : ∀ x d, ([] : List (Str × β)).lookup x = some d → P x d := fun _ _ h => by cases h
theorem lk_cons (h : P a b) (r : ∀ x d, l.lookup x = some d → P x d) : ∀ x d, ((a, b) :: l).lookup x = some d → P x d := fun x d e => by
  rw [List.lookup_cons] at e
  cases hb : x == a with
  | true =>
    rw [hb] at e
    have := beq_iff_eq.mp hb
    subst this
    cases e
    exact h
  | false => rw [hb] at e; exact r x d e
end
section
variable {K : PySem.W.Frag} {mg : Str → Option Value}
theorem at_cls {C D : Addr} {c : Str} {Q : Addr → Prop} (h : mg c = some (.ref C)) (q : Q C) : mg c = some (.ref D) → Q D := fun e => by
  cases h.symm.trans e
  exact q
theorem sub_mk {cv : Value} {l : List (Str × Bool)} (h : ∀ c b, l.lookup c = some b → ∀ C, mg c = some (.ref C) → PySem.W.exmOne K (.ref C) cv = some b) : Sub K mg cv (fun c => l.lookup c) := fun c C b hC hs => h c b hs C hC
theorem kit_mk {cv : Value} {l : List (Str × Bool)} (h : ∀ c b, l.lookup c = some b → ∀ C, mg c = some (.ref C) → PySem.W.kitOne K (.ref C) cv = some b) : Kit K mg cv (fun c => l.lookup c) := fun c C b hC hs => h c b hs C hC
theorem exc_mk {l : List (Str × Bool)} (h : ∀ c b, l.lookup c = some b → ∀ C, mg c = some (.ref C) → ExcC K C) : ∀ c C, mg c = some (.ref C) → (fun c => l.lookup c) c ≠ none → ExcC K C := fun c C hC hn => by
  have hn' : l.lookup c ≠ none := hn
  cases hl : l.lookup c with
  | none => exact absurd hl hn'
  | some b => exact h c b hl C hC
end
end VM
/-! VM20: how the functions are evaluated. -/
namespace VM
open PySem L2
theorem kd_mk {K : PySem.W.Frag} {w : World} {mg : Str → Option Value} {x : Str} {t : List (Str × Str)} {a : Addr} {es : Array DictEntry} {n : Nat} {ks : List Str} (h : mg x = some (.ref a)) (hl : K.lookup a = some ⟨.type "dict", none, .dict es n, #[]⟩) (hk : He.dicW K a = some (He.keysIn w.params ks)) (ht : es.toList.map entTab = t.map some) : KdAt K w mg x t := by
  obtain ⟨es', n', k⟩ := He.dicW_ok hk
  have e := hl.symm.trans k.at_
  cases e
  exact ⟨a, _, _, h, k, ht⟩
/-- written things of a tuple of the module -/
def kvB : D → Value → Bool
  | .str s, .str t _ => decide (s = t)
  | .int i, .int j _ => decide (i = j)
  | _, _ => false
def kvsB : List D → List Value → Bool
  | [], [] => true
  | d :: ds, v :: vs => kvB d v && kvsB ds vs
  | _, _ => false
theorem kvB_ok {K : PySem.W.Frag} {d : D} {u : Value} (h : kvB d u = true) : ∃ v, RelV v u ∧ ∀ F H, Rep K F H d v := by
  unfold kvB at h
  split at h
  · rename_i s t tk
    have e := of_decide_eq_true h
    subst e
    exact ⟨.str s, ⟨tk, rfl⟩, fun _ _ => rfl⟩
  · rename_i i j tk
    have e := of_decide_eq_true h
    subst e
    exact ⟨.int i, ⟨tk, rfl⟩, fun _ _ => rfl⟩
  · cases h
theorem kvsB_ok {K : PySem.W.Frag} : ∀ {ds : List D} {us : List Value}, kvsB ds us = true → ∃ vs, Vals vs us ∧ ∀ F H, Reps K F H ds vs
  | [], [], _ => ⟨[], .nil, fun _ _ => rfl⟩
  | d :: ds, u :: us, h => by
    have h' : (kvB d u && kvsB ds us) = true := h
    rw [Bool.and_eq_true] at h'
    obtain ⟨v, r, k⟩ := kvB_ok (K := K) h'.1
    obtain ⟨vs, rs, ks⟩ := kvsB_ok (K := K) h'.2
    exact ⟨v :: vs, .cons r rs, fun F H => ⟨v, vs, rfl, k F H, ks F H⟩⟩
  | [], _ :: _, h => by cases h
  | _ :: _, [], h => by cases h
theorem gc_tup {K : PySem.W.Frag} {mg : Str → Option Value} {x : Str} {a : Addr} {od : Option Addr} {its : Array Value} {n : Nat} {sl : Array (Option Value)} {ds : List D} (h : mg x = some (.ref a)) (hl : K.lookup a = some ⟨.type "tuple", od, .seq its n, sl⟩) (hz : decide (its.size ≤ sizeLine) = true) (hv : kvsB ds its.toList = true) : GC K mg x (.ktup ds) := by
  obtain ⟨vs, rs, ks⟩ := kvsB_ok (K := K) hv
  exact ⟨_, .ref a, h, rfl, fun F H => ⟨a, vs, rfl, ⟨_, its, n, hl, rfl, rfl, of_decide_eq_true hz, rs⟩, ks F H⟩⟩
section
variable {α β : Type} {a : α} {f g : Rho → Fl} {ρ : Rho} {c : Str} {fs : List (Str × D)} {i j : Nat} {d : D} {b : Bool}
@[simp] theorem rb_ok (k : α → R β) : (R.ok a >>= k) = k a := rfl
@[simp] theorem rb_exc (k : α → R β) : ((R.exc c fs : R α) >>= k) = R.exc c fs := rfl
@[simp] theorem rb_bad (k : α → R β) : ((R.bad : R α) >>= k) = R.bad := rfl
@[simp] theorem rb_pure (x : α) : (pure x : R α) = R.ok x := rfl
@[simp] theorem fl_ok (k : α → Fl) : (R.ok a).fl ρ k = k a := rfl
@[simp] theorem fl_exc (k : α → Fl) : (R.exc c fs : R α).fl ρ k = .exc ρ c fs := rfl
@[simp] theorem fl_bad (k : α → Fl) : (R.bad : R α).fl ρ k = .bad := rfl
@[simp] theorem at_next (k : Rho → Fl) : (Fl.next ρ).andThen k = k ρ := by cases ρ <;> rfl
@[simp] theorem at_ret (p : D × Bool) (k : Rho → Fl) : (Fl.ret p).andThen k = .ret p := rfl
@[simp] theorem at_brk (k : Rho → Fl) : (Fl.brk ρ).andThen k = .brk ρ := rfl
@[simp] theorem at_cont (k : Rho → Fl) : (Fl.cont ρ).andThen k = .cont ρ := rfl
@[simp] theorem at_exc (k : Rho → Fl) : (Fl.exc ρ c fs).andThen k = .exc ρ c fs := rfl
@[simp] theorem at_bad (k : Rho → Fl) : Fl.bad.andThen k = .bad := rfl
@[simp] theorem seq_eq : sSeq f g ρ = (f ρ).andThen g := rfl
@[simp] theorem nop_eq : sNop ρ = .next ρ := rfl
@[simp] theorem set_eq (m : Bool) (fe : Rho → R (D × Bool)) : sSet i m fe ρ = (fe ρ).fl ρ fun q => .next (ρ.set i (some (q.1, q.2 && m))) := rfl
@[simp] theorem ret_eq (fe : Rho → R (D × Bool)) : sRet fe ρ = (fe (frzAll ρ)).fl ρ .ret := rfl
@[simp] theorem if_eq (t : Rho → R Bool) : sIf t f g ρ = (t ρ).fl ρ fun b => if b = true then f ρ else g ρ := rfl
@[simp] theorem drop_eq (fe : Rho → R (D × Bool)) : sDrop fe ρ = (fe ρ).fl ρ fun _ => .next ρ := rfl
@[simp] theorem par_eq (f1 f2 : Rho → R (D × Bool)) : sPar i j f1 f2 ρ = (do let p ← f1 ρ; let q ← f2 ρ; pure (p.1, q.1)).fl ρ fun q => .next ((ρ.set i (some (q.1, false))).set j (some (q.2, false))) := rfl
@[simp] theorem raise_eq (x : Str) (fld : XF) (fe : Rho → R (D × Bool)) : sRaise x fld fe ρ = (fe ρ).fl ρ fun q => .exc ρ x (fld.ds q.1) := rfl
@[simp] theorem xf_eq (f : Str) (y : D) : XF.ds (f, []) y = [(f, y)] := rfl
@[simp] theorem for_eq (fi : Rho → R (List D)) (gg : D → Rho → R Rho) : sFor fi gg f ρ = (fi ρ).fl ρ fun ds => forL gg f ds ρ := rfl
@[simp] theorem while_eq (t : Rho → R Bool) : sWhile t f ρ = whileL t f fuel ρ := rfl
@[simp] theorem retv_some (p : D × Bool) (h : ρ[i]? = some (some p)) : sRetV i ρ = .ret p := by unfold sRetV; rw [h]
@[simp] theorem ifz_eq (is : List Nat) (c : Rho → R Bool) (f g : Rho → Fl) (ρ : Rho) : sIfZ is c f g ρ = (c (frzs is ρ)).fl ρ fun b => if b = true then f ρ else g ρ := rfl
@[simp] theorem wrap_eq (is : List Nat) : sFrz is f ρ = f (frzs is ρ) := rfl
@[simp] theorem var_eq (h : ρ[i]? = some (some (d, false))) : bVar i ρ = .ok (d, false) := by unfold bVar; rw [h]
@[simp] theorem vara_eq (p : D × Bool) (h : ρ[i]? = some (some p)) : bVarA i ρ = .ok p := by unfold bVarA; rw [h]
@[simp] theorem c_eq : bC d ρ = .ok (d, false) := rfl
@[simp] theorem ba_eq (fa : Rho → R (D × Bool)) : bA fa ρ = (fa ρ >>= fun p => R.ok (p.1, false)) := rfl
@[simp] theorem op_eq (q : D → D → R (D × Bool)) (fa fb : Rho → R (D × Bool)) : bOp q fa fb ρ = (fa ρ >>= fun x => fb ρ >>= fun y => q x.1 y.1) := rfl
@[simp] theorem bt_eq (fa : Rho → R (D × Bool)) : bT fa ρ = (fa ρ >>= fun p => unB p) := rfl
@[simp] theorem unb_eq (z : Bool) : unB (.bl b, z) = .ok b := rfl
@[simp] theorem bt_and (p q : Rho → R Bool) : bAndT p q ρ = (p ρ >>= fun b => if b = true then q ρ else R.ok false) := rfl
@[simp] theorem bt_or (p q : Rho → R Bool) : bOrT p q ρ = (p ρ >>= fun b => if b = true then R.ok true else q ρ) := rfl
@[simp] theorem bt_not (p : Rho → R Bool) : bNotT p ρ = (p ρ >>= fun b => R.ok (!b)) := rfl
@[simp] theorem bv_and (p q : Rho → R (D × Bool)) : bAndV p q ρ = (p ρ >>= fun x => unB x >>= fun b => if b = true then q ρ else R.ok (.bl false, false)) := rfl
@[simp] theorem bv_or (p q : Rho → R (D × Bool)) : bOrV p q ρ = (p ρ >>= fun x => unB x >>= fun b => if b = true then R.ok (.bl true, false) else q ρ) := rfl
@[simp] theorem bv_not (p : Rho → R (D × Bool)) : bNotV p ρ = (p ρ >>= fun x => unB x >>= fun b => R.ok (.bl (!b), false)) := rfl
@[simp] theorem bif_eq (t : Rho → R Bool) (p q : Rho → R (D × Bool)) : bIf t p q ρ = (t ρ >>= fun b => if b = true then p ρ else q ρ) := rfl
@[simp] theorem bun_eq (q : D → R (D × Bool)) (p : Rho → R (D × Bool)) : bUn q p ρ = (p ρ >>= fun x => q x.1) := rfl
@[simp] theorem bisi_eq (T : String) (p : Rho → R (D × Bool)) : bIsi T p ρ = (p ρ >>= fun x => if isO x.1 = true then R.bad else R.ok (.bl (isTy (tyD x.1) T), false)) := rfl
@[simp] theorem iso_non : isO .non = false := rfl
@[simp] theorem iso_bl (b : Bool) : isO (.bl b) = false := rfl
@[simp] theorem iso_int (i : Int) : isO (.int i) = false := rfl
@[simp] theorem iso_str (s : Str) : isO (.str s) = false := rfl
@[simp] theorem iso_tup (xs : List D) : isO (.tup xs) = false := rfl
@[simp] theorem iso_lst (xs : List D) : isO (.lst xs) = false := rfl
@[simp] theorem iso_scr (xs : List Int) : isO (.scr xs) = false := rfl
@[simp] theorem bcall_eq (m : List D → R (D × Bool)) (p : Rho → R (List (D × Bool))) : bCall m p ρ = (p ρ >>= fun ps => m (ps.map (·.1)) >>= fun z => if (anyB ps && !imm z.1) = true then R.bad else R.ok z) := rfl
@[simp] theorem bb_eq (q : List D → R (D × Bool)) (p : Rho → R (List (D × Bool))) : bB q p ρ = (p ρ >>= fun ps => q (ps.map (·.1))) := rfl
@[simp] theorem xnil_eq : xNil ρ = .ok [] := rfl
@[simp] theorem xcons_eq (p : Rho → R (D × Bool)) (q : Rho → R (List (D × Bool))) : xCons p q ρ = (p ρ >>= fun x => q ρ >>= fun xs => R.ok (x :: xs)) := rfl
@[simp] theorem bnil_eq : bNil ρ = .ok [] := rfl
@[simp] theorem bcons_eq (p : Rho → R (D × Bool)) (q : Rho → R (List D)) : bCons p q ρ = (p ρ >>= fun x => q ρ >>= fun xs => R.ok (x.1 :: xs)) := rfl
@[simp] theorem btup_eq (q : Rho → R (List D)) : bTup q ρ = (q ρ >>= fun ds => if ds.length ≤ sizeLine then R.ok (.tup ds, false) else .bad) := rfl
@[simp] theorem blst_eq (q : Rho → R (List D)) : bLst q ρ = (q ρ >>= fun ds => if ds.length ≤ sizeLine then R.ok (.lst ds, true) else .bad) := rfl
@[simp] theorem bchain_eq (q q' : D → D → R (D × Bool)) (fa fb fc : Rho → R (D × Bool)) : bChain q q' fa fb fc ρ = (fa ρ >>= fun x => fb ρ >>= fun y => q x.1 y.1 >>= fun p => unB p >>= fun k => if k = true then (fc ρ >>= fun z => q' y.1 z.1) else R.ok (.bl false, false)) := rfl
@[simp] theorem dadd_i (x y : Int) : dAdd (.int x) (.int y) = .ok (.int (x + y), false) := rfl
@[simp] theorem dsub_i (x y : Int) : dSub (.int x) (.int y) = .ok (.int (x - y), false) := rfl
@[simp] theorem dmul_i (x y : Int) : dMul (.int x) (.int y) = if mulOk x y then .ok (.int (x * y), false) else .bad := rfl
@[simp] theorem ddiv_i (x y : Int) : dDiv (.int x) (.int y) = if divOk y then .ok (.int (pyDiv x y), false) else .bad := rfl
@[simp] theorem dmod_i (x y : Int) : dMod (.int x) (.int y) = if y ≠ 0 then .ok (.int (pyMod x y), false) else .bad := rfl
@[simp] theorem dpow_i (x y : Int) : dPow (.int x) (.int y) = if powOk x y then .ok (.int (x ^ y.toNat), false) else .bad := rfl
@[simp] theorem deq_i (x y : Int) : dEq (.int x) (.int y) = .ok (.bl (decide (x = y)), false) := rfl
@[simp] theorem dne_i (x y : Int) : dNe (.int x) (.int y) = .ok (.bl (!decide (x = y)), false) := rfl
@[simp] theorem dlt_i (x y : Int) : dLt (.int x) (.int y) = .ok (.bl (decide (x < y)), false) := rfl
@[simp] theorem dle_i (x y : Int) : dLe (.int x) (.int y) = .ok (.bl (decide (x ≤ y)), false) := rfl
@[simp] theorem dgt_i (x y : Int) : dGt (.int x) (.int y) = .ok (.bl (decide (y < x)), false) := rfl
@[simp] theorem dge_i (x y : Int) : dGe (.int x) (.int y) = .ok (.bl (decide (y ≤ x)), false) := rfl
@[simp] theorem dneg_i (x : Int) : dNeg (.int x) = .ok (.int (-x), false) := rfl
@[simp] theorem gabs_i (x : Int) : gAbs [.int x] = .ok (.int (if x < 0 then -x else x), false) := rfl
@[simp] theorem gint_i (x : Int) : gInt [.int x] = .ok (.int x, false) := rfl
@[simp] theorem gint_b (x : Bool) : gInt [.bl x] = .ok (.int (if x = true then 1 else 0), false) := rfl
@[simp] theorem gmin_i (x y : Int) : gMin [.int x, .int y] = .ok (.int (if y < x then y else x), false) := rfl
@[simp] theorem gmax_i (x y : Int) : gMax [.int x, .int y] = .ok (.int (if y > x then y else x), false) := rfl
@[simp] theorem glen_l (xs : List D) : gLen [.lst xs] = .ok (.int xs.length, false) := rfl
@[simp] theorem glen_t (xs : List D) : gLen [.tup xs] = .ok (.int xs.length, false) := rfl
@[simp] theorem glen_s (xs : List Int) : gLen [.scr xs] = .ok (.int xs.length, false) := rfl
@[simp] theorem frzall_cons (o : Option (D × Bool)) (ρ : Rho) : frzAll (o :: ρ) = (o.map fun q => (q.1, false)) :: frzAll ρ := rfl
@[simp] theorem frzall_nil : frzAll [] = [] := rfl
@[simp] theorem anyb_nil : anyB [] = false := rfl
@[simp] theorem anyb_cons (p : D × Bool) (ps : List (D × Bool)) : anyB (p :: ps) = (p.2 || anyB ps) := rfl
end
end VM
/-! VMg: an object that the code changes: its fields, the frame's relation about it. -/
namespace VM
open PySem L2
def cont : D → Bool | .lst _ => true | .dic _ _ => true | .dct _ _ => true | _ => false
theorem Top.cont {K : PySem.W.Frag} {F : Addr → Prop} {H : Hp} {a : Addr} {d : D} (t : Top K F H a d) : cont d = true := by
  cases d with
  | lst ds => rfl
  | dic ks ds => rfl
  | dct ks ds => rfl
  | _ => exact (show False from t).elim
theorem Top.kind {K : PySem.W.Frag} {F : Addr → Prop} {H : Hp} {a : Addr} {d : D} (t : Top K F H a d) : (∀ xs, H a ≠ some (.tup xs)) ∧ (∀ o u, H a ≠ some (.frz o u)) ∧ ∀ C dx fs, H a ≠ some (.ins C dx fs) := by
  cases d with
  | lst ds => obtain ⟨vs, q, _⟩ := t; rw [q]; exact ⟨fun _ z => (by cases z), fun _ _ z => (by cases z), fun _ _ _ z => (by cases z)⟩
  | dic ks ds => obtain ⟨vs, q, _⟩ := t; rw [q]; exact ⟨fun _ z => (by cases z), fun _ _ z => (by cases z), fun _ _ _ z => (by cases z)⟩
  | dct ks ds => obtain ⟨vs, q, _⟩ := t; rw [q]; exact ⟨fun _ z => (by cases z), fun _ _ z => (by cases z), fun _ _ _ z => (by cases z)⟩
  | _ => exact (show False from t).elim
section
variable (K : PySem.W.Frag) (F : Addr → Prop) (H : Hp)
/-- an object's fields: each list or dict is its own, in order those of as -/
def FR : List D → List V → List Addr → Prop
  | [], vs, as => vs = [] ∧ as = []
  | d :: ds, vs, as => ∃ v vs', vs = v :: vs' ∧ ((cont d = true ∧ ∃ x as', as = x :: as' ∧ v = .ref x ∧ Top K F H x d ∧ FR ds vs' as') ∨ (cont d = false ∧ Rep K F H d v ∧ FR ds vs' as))
end
section
variable {K : PySem.W.Frag} {F F' : Addr → Prop} {H H' : Hp}
theorem FR.mono (k : Kp F H H') (hf : ∀ a, F' a → F a ∨ H a = none) : ∀ {ds : List D} {vs : List V} {as : List Addr}, (∀ x ∈ as, ∀ o, H x = some o → H' x = some o) → FR K F H ds vs as → FR K F' H' ds vs as
  | [], _, _, _, h => h
  | d :: ds, vs, as, ha, h => by
    obtain ⟨v, vs', e, h⟩ := h
    refine ⟨v, vs', e, ?_⟩
    rcases h with ⟨hc, x, as', ea, ev, t, r⟩ | ⟨hc, t, r⟩
    · subst ea
      exact .inl ⟨hc, x, as', rfl, ev, t.mono k hf (ha x (by simp)), FR.mono k hf (fun y hy => ha y (by simp [hy])) r⟩
    · exact .inr ⟨hc, Rep.mono k hf _ _ t, FR.mono k hf ha r⟩
theorem FR.less (hf : ∀ a, F' a → F a) {ds : List D} {vs : List V} {as : List Addr} (h : FR K F H ds vs as) : FR K F' H ds vs as := FR.mono (Kp.of_same (Same.refl _)) (fun a z => .inl (hf a z)) (fun _ _ _ z => z) h
theorem FR.same (s : Same H H') {ds : List D} {vs : List V} {as : List Addr} (h : FR K F H ds vs as) : FR K F H' ds vs as := FR.mono (Kp.of_same s) (fun a z => .inl z) (fun x _ o z => s x o z) h
theorem FR.reps (hf : ∀ a, F' a → F a) : ∀ {ds : List D} {vs : List V} {as : List Addr}, (∀ x ∈ as, ¬ F' x) → FR K F H ds vs as → Reps K F' H ds vs
  | [], _, _, _, h => h.1
  | d :: ds, vs, as, ha, h => by
    obtain ⟨v, vs', e, h⟩ := h
    refine ⟨v, vs', e, ?_⟩
    rcases h with ⟨hc, x, as', ea, ev, t, r⟩ | ⟨hc, t, r⟩
    · subst ea
      rw [ev]
      exact ⟨Top.rep (t.mono (Kp.of_same (Same.refl _)) (fun a z => .inl (hf a z)) fun _ z => z) (ha x (by simp)), FR.reps hf (fun y hy => ha y (by simp [hy])) r⟩
    · exact ⟨t.less hf, FR.reps hf ha r⟩
theorem FR.tops : ∀ {ds : List D} {vs : List V} {as : List Addr}, FR K F H ds vs as → ∀ x ∈ as, ∃ d, Top K F H x d
  | [], _, _, h, x, hx => by rw [h.2] at hx; cases hx
  | d :: ds, vs, as, h, x, hx => by
    obtain ⟨v, vs', e, h⟩ := h
    rcases h with ⟨hc, y, as', ea, ev, t, r⟩ | ⟨hc, t, r⟩
    · subst ea
      rcases List.mem_cons.mp hx with z | z
      · exact ⟨d, z ▸ t⟩
      · exact FR.tops r x z
    · exact FR.tops r x hx
theorem FR.length : ∀ {ds : List D} {vs : List V} {as : List Addr}, FR K F H ds vs as → vs.length = ds.length
  | [], _, _, h => by rw [h.1]; rfl
  | d :: ds, vs, as, h => by
    obtain ⟨v, vs', e, h⟩ := h
    rw [e, List.length_cons, List.length_cons]
    rcases h with ⟨hc, y, as', ea, ev, t, r⟩ | ⟨hc, t, r⟩
    · rw [FR.length r]
    · rw [FR.length r]
/-- a field's data exchanged -/
def setF (f : Str) (d' : D) : List Str → List D → List D
  | n :: ns, d :: ds => if f == n then d' :: ds else d :: setF f d' ns ds
  | _, ds => ds
theorem FR.at {f : Str} {d : D} : ∀ {fs : List (Str × V)} {ds : List D} {as : List Addr}, FR K F H ds (fs.map (·.2)) as → as.Nodup → ((fs.map (·.1)).zip ds).lookup f = some d → cont d = true →
    ∃ x, fs.lookup f = some (.ref x) ∧ x ∈ as ∧ Top K F H x d ∧ ∀ {d' : D} {F' : Addr → Prop} {H' : Hp}, Kp F H H' → (∀ b, F' b → F b ∨ H b = none) → (∀ y ∈ as, y ≠ x → ∀ o, H y = some o → H' y = some o) → Top K F' H' x d' →
      FR K F' H' (setF f d' (fs.map (·.1)) ds) (fs.map (·.2)) as
  | [], [], _, _, _, h, _ => by cases h
  | [], _ :: _, _, _, _, h, _ => by cases h
  | _ :: _, [], _, h, _, _, _ => by cases h.1
  | (n, v) :: fs, e :: ds, as, r, nd, l, hc => by
    obtain ⟨u, us, eu, r⟩ := r
    have e1 : v = u := (List.cons.inj eu).1
    have e2 : fs.map (·.2) = us := (List.cons.inj eu).2
    subst e1; subst e2
    have l' : ((n, e) :: (fs.map (·.1)).zip ds).lookup f = some d := l
    rw [List.lookup_cons] at l' ⊢
    cases hb : f == n with
    | true =>
      rw [hb] at l'
      cases l'
      rcases r with ⟨_, x, as', ea, ev, t, r⟩ | ⟨hc', _, _⟩
      · subst ea
        have nx : x ∉ as' := (List.nodup_cons.mp nd).1
        refine ⟨x, by rw [ev], by simp, t, fun {d' F' H'} k hf hy t' => ?_⟩
        show FR K F' H' (if f == n then d' :: ds else _) _ _
        rw [hb, if_pos rfl]
        exact ⟨v, _, rfl, .inl ⟨t'.cont, x, as', rfl, ev, t', FR.mono k hf (fun y hy' o z => hy y (by simp [hy']) (fun q => nx (q ▸ hy')) o z) r⟩⟩
      · rw [hc] at hc'; cases hc'
    | false =>
      rw [hb] at l'
      have nb : ∀ {β : Type} (p q : β), (if (f == n) = true then p else q) = q := fun p q => by rw [hb, if_neg (by simp)]
      rcases r with ⟨hc', y, as', ea, ev, t, r⟩ | ⟨hc', t, r⟩
      · subst ea
        obtain ⟨x, h1, h2, h3, h4⟩ := FR.at r (List.nodup_cons.mp nd).2 l' hc
        have ny : y ≠ x := fun z => (List.nodup_cons.mp nd).1 (z ▸ h2)
        refine ⟨x, h1, by simp [h2], h3, fun {d' F' H'} k hf hy t' => ?_⟩
        show FR K F' H' (if f == n then d' :: ds else _) _ _
        rw [nb]
        exact ⟨v, _, rfl, .inl ⟨hc', y, as', rfl, ev, t.mono k hf (hy y (by simp) ny), h4 k hf (fun z hz => hy z (by simp [hz])) t'⟩⟩
      · obtain ⟨x, h1, h2, h3, h4⟩ := FR.at r nd l' hc
        refine ⟨x, h1, h2, h3, fun {d' F' H'} k hf hy t' => ?_⟩
        show FR K F' H' (if f == n then d' :: ds else _) _ _
        rw [nb]
        exact ⟨v, _, rfl, .inr ⟨hc', Rep.mono k hf _ _ t, h4 k hf hy t'⟩⟩
/-- a field set, or laid behind the others -/
def putFD (f : Str) (d : D) : List Str → List D → List D
  | n :: ns, e :: ds => if n = f then d :: ds else e :: putFD f d ns ds
  | _, _ => [d]
def putFN (f : Str) : List Str → List Str
  | [] => [f]
  | n :: ns => if n = f then n :: ns else n :: putFN f ns
theorem putF_fst {f : Str} {v : V} : ∀ fs : List (Str × V), (putF f v fs).map (·.1) = putFN f (fs.map (·.1))
  | [] => rfl
  | (n, u) :: fs => by
    show ((if n = f then (n, v) :: fs else (n, u) :: putF f v fs).map (·.1)) = if n = f then n :: fs.map (·.1) else n :: putFN f (fs.map (·.1))
    split
    · rfl
    · rw [List.map_cons, putF_fst fs]
theorem FR.put {f : Str} {d : D} {v : V} (hn : (cont d = true ∧ ∃ x, v = .ref x ∧ Top K F H x d) ∨ (cont d = false ∧ Rep K F H d v)) : ∀ {fs : List (Str × V)} {ds : List D} {as : List Addr}, FR K F H ds (fs.map (·.2)) as → as.Nodup → (cont d = true → ∀ y ∈ as, v ≠ .ref y) →
    ∃ as', FR K F H (putFD f d (fs.map (·.1)) ds) ((putF f v fs).map (·.2)) as' ∧ as'.Nodup ∧ ∀ y ∈ as', y ∈ as ∨ (cont d = true ∧ v = .ref y)
  | [], [], as, r, nd, hv => by
    rcases hn with ⟨hc, x, ev, t⟩ | ⟨hc, t⟩
    · refine ⟨[x], ⟨v, [], rfl, .inl ⟨hc, x, [], rfl, ev, t, rfl, rfl⟩⟩, by simp, fun y hy => .inr ?_⟩
      rw [List.mem_singleton.mp hy]; exact ⟨hc, ev⟩
    · exact ⟨[], ⟨v, [], rfl, .inr ⟨hc, t, rfl, rfl⟩⟩, by simp, fun y hy => by cases hy⟩
  | [], _ :: _, _, r, _, _ => by obtain ⟨_, _, e, _⟩ := r; cases e
  | _ :: _, [], _, h, _, _ => by cases h.1
  | (n, u) :: fs, e :: ds, as, r, nd, hv => by
    obtain ⟨u', us, eu, r⟩ := r
    have e1 : u = u' := (List.cons.inj eu).1
    have e2 : fs.map (·.2) = us := (List.cons.inj eu).2
    subst e1; subst e2
    show ∃ as', FR K F H (if n = f then d :: ds else e :: putFD f d (fs.map (·.1)) ds) ((if n = f then (n, v) :: fs else (n, u) :: putF f v fs).map (·.2)) as' ∧ _
    by_cases hnf : n = f
    · rw [if_pos hnf, if_pos hnf]
      obtain ⟨as', r', nd', sub⟩ : ∃ as', FR K F H ds (fs.map (·.2)) as' ∧ as'.Nodup ∧ ∀ y ∈ as', y ∈ as := by
        rcases r with ⟨_, y, as', ea, ev, t, r⟩ | ⟨_, t, r⟩
        · subst ea; exact ⟨as', r, (List.nodup_cons.mp nd).2, fun y hy => by simp [hy]⟩
        · exact ⟨as, r, nd, fun y hy => hy⟩
      rcases hn with ⟨hc, x, ev, t⟩ | ⟨hc, t⟩
      · refine ⟨x :: as', ⟨v, _, rfl, .inl ⟨hc, x, as', rfl, ev, t, r'⟩⟩, List.nodup_cons.mpr ⟨fun z => hv hc x (sub x z) ev, nd'⟩, fun y hy => ?_⟩
        rcases List.mem_cons.mp hy with z | z
        · exact .inr ⟨hc, by rw [z]; exact ev⟩
        · exact .inl (sub y z)
      · exact ⟨as', ⟨v, _, rfl, .inr ⟨hc, t, r'⟩⟩, nd', fun y hy => .inl (sub y hy)⟩
    · rw [if_neg hnf, if_neg hnf]
      rcases r with ⟨hc, y, as', ea, ev, t, r⟩ | ⟨hc, t, r⟩
      · subst ea
        obtain ⟨bs, h1, h2, h3⟩ := FR.put hn r (List.nodup_cons.mp nd).2 (fun c z hz => hv c z (by simp [hz]))
        refine ⟨y :: bs, ⟨u, _, rfl, .inl ⟨hc, y, bs, rfl, ev, t, h1⟩⟩, List.nodup_cons.mpr ⟨fun z => ?_, h2⟩, fun z hz => ?_⟩
        · rcases h3 y z with q | ⟨c, q⟩
          · exact (List.nodup_cons.mp nd).1 q
          · exact hv c y (by simp) q
        · rcases List.mem_cons.mp hz with q | q
          · exact .inl (by simp [q])
          · rcases h3 z q with q | q
            · exact .inl (by simp [q])
            · exact .inr q
      · obtain ⟨bs, h1, h2, h3⟩ := FR.put hn r nd hv
        exact ⟨bs, ⟨u, _, rfl, .inr ⟨hc, t, h1⟩⟩, h2, h3⟩
end
/-! ### the frame -/
def S1 (S0 : Addr → Prop) (a : Addr) (as : List Addr) : Addr → Prop := fun x => S0 x ∨ x ∈ a :: as
/-- a heap without some addresses -/
def hl (He : Hp) (A0 : List Addr) : Hp := fun x => if x ∈ A0 then none else He x
structure RM (K : PySem.W.Frag) (j : Nat) (C : Addr) (S0 : Addr → Prop) (He : Hp) (A0 : List Addr) (a : Addr) (as : List Addr) (ρ : Rho) (σ : L2.St) (H : Hp) : Prop where
  ob : ∃ dx fs ds, ρ[j]? = some (some (.obj C (fs.map (·.1)) ds, false)) ∧ H a = some (.ins C dx fs) ∧ FR K (Fb (S1 S0 a as) (ρ.set j none) σ) H ds (fs.map (·.2)) as
  ref : σ[j]? = some (some (.ref a))
  nd : (a :: as).Nodup
  new : ∀ x ∈ a :: as, hl He A0 x = none ∧ ¬ S0 x
  dom : ∀ x o, He x = some o → ∃ o', H x = some o'
  rl : Rl K (S1 S0 a as) (hl He A0) (ρ.set j none) σ H
structure StM (j : Nat) (a : Addr) (as : List Addr) (ρ : Rho) (σ : L2.St) (H : Hp) (as' : List Addr) (ρ' : Rho) (σ' : L2.St) (H' : Hp) : Prop where
  keep : ∀ x o, H x = some o → ¬ OwnA (ρ.set j none) σ x → x ∉ a :: as → H' x = some o
  own : ∀ x, OwnA (ρ'.set j none) σ' x ∨ x ∈ a :: as' → (OwnA (ρ.set j none) σ x ∨ x ∈ a :: as) ∨ H x = none
  dom : ∀ x o, H x = some o → ∃ o', H' x = some o'
section
variable {K : PySem.W.Frag} {j : Nat} {C : Addr} {S0 : Addr → Prop} {He : Hp} {A0 : List Addr} {a : Addr} {as as' as'' : List Addr} {ρ ρ' ρ'' : Rho} {σ σ' σ'' : L2.St} {H H' H'' : Hp}
theorem StM.refl : StM j a as ρ σ H as ρ σ H := ⟨fun _ _ e _ _ => e, fun _ z => .inl z, fun _ o e => ⟨o, e⟩⟩
theorem StM.of_same (s : Same H H') : StM j a as ρ σ H as ρ σ H' := ⟨fun x o e _ _ => s x o e, fun _ z => .inl z, fun x o e => ⟨o, s x o e⟩⟩
theorem StM.trans (p : StM j a as ρ σ H as' ρ' σ' H') (q : StM j a as' ρ' σ' H' as'' ρ'' σ'' H'') : StM j a as ρ σ H as'' ρ'' σ'' H'' where
  keep := fun x o e n1 n2 => by
    have e' := p.keep x o e n1 n2
    have no : ¬ (OwnA (ρ'.set j none) σ' x ∨ x ∈ a :: as') := fun z => by
      rcases p.own x z with (y | y) | y
      · exact n1 y
      · exact n2 y
      · rw [e] at y; cases y
    exact q.keep x o e' (fun z => no (.inl z)) (fun z => no (.inr z))
  own := fun x z => by
    rcases q.own x z with y | y
    · exact p.own x y
    · refine .inr ?_
      cases e : H x with
      | none => rfl
      | some o =>
        obtain ⟨o', e'⟩ := p.dom x o e
        rw [y] at e'; cases e'
  dom := fun x o e => by
    obtain ⟨o', e'⟩ := p.dom x o e
    exact q.dom x o' e'
theorem own_set_none {x : Addr} (h : OwnA (ρ.set j none) σ x) : OwnA ρ σ x := by
  obtain ⟨i, d, e1, e2⟩ := h
  by_cases hj : j = i
  · subst hj
    by_cases hl : j < ρ.length
    · rw [List.getElem?_set_self hl] at e1; cases e1
    · rw [List.getElem?_eq_none (by rw [List.length_set]; omega)] at e1; cases e1
  · rw [List.getElem?_set_ne hj] at e1
    exact ⟨i, d, e1, e2⟩
theorem own_to_set {x : Addr} {d0 : D} (h0 : ρ[j]? = some (some (d0, false))) (h : OwnA ρ σ x) : OwnA (ρ.set j none) σ x := by
  obtain ⟨i, d, e1, e2⟩ := h
  have hj : j ≠ i := fun z => by subst z; rw [h0] at e1; cases e1
  exact ⟨i, d, by rw [List.getElem?_set_ne hj]; exact e1, e2⟩
theorem RM.notF (r : RM K j C S0 He A0 a as ρ σ H) : ∀ x ∈ a :: as, ¬ Fb S0 ρ σ x := fun x hx z => by
  obtain ⟨_, _, _, h0, _⟩ := r.ob
  rcases z with z | z
  · exact (r.new x hx).2 z
  · obtain ⟨i, d, e1, e2⟩ := own_to_set h0 z
    obtain ⟨a', e3, ⟨_, n⟩, _⟩ := r.rl.own i d e1
    rw [e2] at e3; cases e3
    exact n (.inr hx)
theorem RM.notO (r : RM K j C S0 He A0 a as ρ σ H) : ∀ x ∈ a :: as, ¬ OwnA (ρ.set j none) σ x := fun x hx z => by
  obtain ⟨i, d, e1, e2⟩ := z
  obtain ⟨a', e3, ⟨_, n⟩, _⟩ := r.rl.own i d e1
  rw [e2] at e3; cases e3
  exact n (.inr hx)
theorem RM.fb (r : RM K j C S0 He A0 a as ρ σ H) : ∀ x, Fb S0 ρ σ x → Fb (S1 S0 a as) (ρ.set j none) σ x := fun x z => by
  obtain ⟨_, _, _, h0, _⟩ := r.ob
  exact z.elim (fun z => .inl (.inl z)) fun z => .inr (own_to_set h0 z)
theorem RM.fbH (r : RM K j C S0 He A0 a as ρ σ H) : ∀ x, Fb (S1 S0 a as) (ρ.set j none) σ x → ∃ o, H x = some o := fun x z => r.rl.fbH z
/-- what expressions see: the object as data -/
def hv (He : Hp) (A0 : List Addr) (a : Addr) (as : List Addr) (H : Hp) : Hp := fun x => if x ∈ a :: as then H x else hl He A0 x
theorem RM.view (r : RM K j C S0 He A0 a as ρ σ H) : Rl K S0 (hv He A0 a as H) ρ σ H := by
  obtain ⟨dx, fs, ds, h0, hi, fr⟩ := id r.ob
  have ne : ∀ {i d}, ρ[i]? = some (some (d, true)) → j ≠ i := fun {i d} e z => by subst z; rw [h0] at e; cases e
  refine ⟨by have := r.rl.len; rwa [List.length_set] at this, fun x z => r.rl.s0 x (.inl z), fun x o e => ?_, fun i d e => ?_, fun i d e => ?_, fun i k d e' x e1 e2 e3 e4 => ?_⟩
  · unfold hv at e
    split at e
    · exact e
    · exact r.rl.keep x o e
  · by_cases hj : j = i
    · subst hj
      rw [h0] at e
      cases e
      exact ⟨_, r.ref, a, dx, fs, rfl, hi, r.notF a (by simp), rfl, fr.reps r.fb fun x hx => r.notF x (by simp [hx])⟩
    · obtain ⟨v, h1, h2⟩ := r.rl.clean i d (by rw [List.getElem?_set_ne hj]; exact e)
      exact ⟨v, h1, h2.less r.fb⟩
  · obtain ⟨x, h1, ⟨h2, h3⟩, h4⟩ := r.rl.own i d (by rw [List.getElem?_set_ne (ne e)]; exact e)
    refine ⟨x, h1, ⟨?_, fun z => h3 (.inl z)⟩, h4.mono (Kp.of_same (Same.refl _)) (fun b z => .inl (r.fb b z)) fun _ z => z⟩
    unfold hv
    rw [if_neg fun z => h3 (.inr z)]
    exact h2
  · exact r.rl.sep i k d e' x (by rw [List.getElem?_set_ne (ne e1)]; exact e1) (by rw [List.getElem?_set_ne (ne e2)]; exact e2) e3 e4
theorem RM.same (r : RM K j C S0 He A0 a as ρ σ H) (s : Same H H') : RM K j C S0 He A0 a as ρ σ H' where
  ob := by
    obtain ⟨dx, fs, ds, h0, hi, fr⟩ := r.ob
    exact ⟨dx, fs, ds, h0, s _ _ hi, fr.same s⟩
  ref := r.ref
  nd := r.nd
  new := r.new
  dom := fun x o e => by
    obtain ⟨o', e'⟩ := r.dom x o e
    exact ⟨o', s _ _ e'⟩
  rl := r.rl.same s
theorem RM.there (r : RM K j C S0 He A0 a as ρ σ H) : ∀ x ∈ a :: as, ∃ o, H x = some o := fun x hx => r.rl.s0 x (.inr hx)
theorem RM.kinds (r : RM K j C S0 He A0 a as ρ σ H) : ∀ x ∈ a :: as, (∀ xs, H x ≠ some (.tup xs)) ∧ ∀ o u, H x ≠ some (.frz o u) := fun x hx => by
  obtain ⟨dx, fs, ds, h0, hi, fr⟩ := r.ob
  rcases List.mem_cons.mp hx with z | z
  · rw [z, hi]; exact ⟨fun _ z => (by cases z), fun _ _ z => (by cases z)⟩
  · obtain ⟨d, t⟩ := fr.tops x z
    exact ⟨t.kind.1, t.kind.2.1⟩
/-- all that stands, but what the frame or the object owns -/
theorem StM.kp (r : RM K j C S0 He A0 a as ρ σ H) (s : StM j a as ρ σ H as' ρ' σ' H') : Kp (Fb (S1 S0 a as) (ρ.set j none) σ) H H' := fun x o e c => by
  by_cases h : OwnA (ρ.set j none) σ x
  · obtain ⟨i, d, e1, e2⟩ := id h
    obtain ⟨a', e3, _, t⟩ := r.rl.own i d e1
    rw [e2] at e3; cases e3
    rcases c (.inr h) with ⟨xs, z⟩ | ⟨ob, u, z⟩
    · subst z; exact absurd e (t.kind.1 xs)
    · subst z; exact absurd e (t.kind.2.1 ob u)
  · by_cases hx : x ∈ a :: as
    · rcases c (.inl (.inr hx)) with ⟨xs, z⟩ | ⟨ob, u, z⟩
      · subst z; exact absurd e ((r.kinds x hx).1 xs)
      · subst z; exact absurd e ((r.kinds x hx).2 ob u)
    · exact s.keep x o e h hx
/-- a step that leaves the object alone -/
theorem RM.step (r : RM K j C S0 He A0 a as ρ σ H) (rl' : Rl K (S1 S0 a as) (hl He A0) (ρ'.set j none) σ' H') (st : Stp (ρ.set j none) σ H (ρ'.set j none) σ' H') (hj : ρ'[j]? = ρ[j]?) (hσ : σ'[j]? = σ[j]?) (hd : ∀ x o, H x = some o → ∃ o', H' x = some o') :
    RM K j C S0 He A0 a as ρ' σ' H' ∧ StM j a as ρ σ H as ρ' σ' H' := by
  have sm : StM j a as ρ σ H as ρ' σ' H' := ⟨fun x o e n _ => st.keep x o e n, fun x z => z.elim (fun z => (st.own x z).elim (fun z => .inl (.inl z)) .inr) fun z => .inl (.inr z), hd⟩
  have kp := sm.kp r
  obtain ⟨dx, fs, ds, h0, hi, fr⟩ := id r.ob
  refine ⟨⟨⟨dx, fs, ds, by rw [hj]; exact h0, st.keep a _ hi (r.notO a (by simp)), fr.mono kp (fun x z => ?_) fun x hx o e => st.keep x o e (r.notO x (by simp [hx]))⟩, by rw [hσ]; exact r.ref, r.nd, r.new, fun x o e => ?_, rl'⟩, sm⟩
  · exact z.elim (fun z => .inl (.inl z)) fun z => (st.own x z).elim (fun z => .inl (.inr z)) .inr
  · obtain ⟨o', e'⟩ := r.dom x o e
    exact hd x o' e'
theorem same_dom (s : Same H H') : ∀ x o, H x = some o → ∃ o', H' x = some o' := fun x o e => ⟨o, s x o e⟩
theorem RM.setC {i : Nat} {d : D} {v : V} (r : RM K j C S0 He A0 a as ρ σ H) (hij : i ≠ j) (s : Same H H') (q : Rep K (Fb (S1 S0 a as) (ρ.set j none) σ) H' d v) :
    RM K j C S0 He A0 a as (ρ.set i (some (d, false))) (σ.set i (some v)) H' ∧ StM j a as ρ σ H as (ρ.set i (some (d, false))) (σ.set i (some v)) H' := by
  have e : (ρ.set i (some (d, false))).set j none = (ρ.set j none).set i (some (d, false)) := List.set_comm _ _ hij
  refine r.step (by rw [e]; exact r.rl.setC s q) (by rw [e]; exact stp_setC s) (List.getElem?_set_ne hij) (List.getElem?_set_ne hij) (same_dom s)
theorem RM.setO {i : Nat} {d : D} {b : Addr} (r : RM K j C S0 He A0 a as ρ σ H) (hij : i ≠ j) (s : Same H H') (n : H b = none) (q : Top K (fun x => Fb (S1 S0 a as) (ρ.set j none) σ x ∨ x = b) H' b d) :
    RM K j C S0 He A0 a as (ρ.set i (some (d, true))) (σ.set i (some (.ref b))) H' ∧ StM j a as ρ σ H as (ρ.set i (some (d, true))) (σ.set i (some (.ref b))) H' := by
  have e : (ρ.set i (some (d, true))).set j none = (ρ.set j none).set i (some (d, true)) := List.set_comm _ _ hij
  refine r.step (by rw [e]; exact r.rl.setO s n q) (by rw [e]; exact stp_setO s n) (List.getElem?_set_ne hij) (List.getElem?_set_ne hij) (same_dom s)
/-- the object's own dict or list is changed in its place -/
theorem RM.mutF {f : Str} {d d' : D} {ns : List Str} {ds : List D} (r : RM K j C S0 He A0 a as ρ σ H) (h0 : ρ[j]? = some (some (.obj C ns ds, false))) (l : (ns.zip ds).lookup f = some d) (hc : cont d = true) :
    ∃ dx fs x, H a = some (.ins C dx fs) ∧ fs.map (·.1) = ns ∧ fs.lookup f = some (.ref x) ∧ Top K (Fb (S1 S0 a as) (ρ.set j none) σ) H x d ∧ ∀ o, Top K (Fb (S1 S0 a as) (ρ.set j none) σ) (upd H x o) x d' →
      RM K j C S0 He A0 a as (ρ.set j (some (.obj C ns (setF f d' ns ds), false))) σ (upd H x o) ∧ StM j a as ρ σ H as (ρ.set j (some (.obj C ns (setF f d' ns ds), false))) σ (upd H x o) := by
  obtain ⟨dx, fs, ds', h0', hi, fr⟩ := id r.ob
  rw [h0] at h0'
  cases h0'
  have jl : j < ρ.length := (List.getElem?_eq_some_iff.mp h0).1
  obtain ⟨x, h1, h2, h3, h4⟩ := fr.at (List.nodup_cons.mp r.nd).2 l hc
  refine ⟨dx, fs, x, hi, rfl, h1, h3, fun o t => ?_⟩
  have e : (ρ.set j (some (.obj C (fs.map (·.1)) (setF f d' (fs.map (·.1)) ds), false))).set j none = ρ.set j none := List.set_set ..
  have xm : x ∈ a :: as := by simp [h2]
  have xa : a ≠ x := fun z => (List.nodup_cons.mp r.nd).1 (z ▸ h2)
  have dm : ∀ y u, H y = some u → ∃ u', upd H x o y = some u' := fun y u e => by
    by_cases hy : y = x
    · exact ⟨o, by rw [hy, upd_same]⟩
    · exact ⟨u, by rw [upd_ne hy]; exact e⟩
  have kp : Kp (Fb (S1 S0 a as) (ρ.set j none) σ) H (upd H x o) := fun y u e c => by
    by_cases hy : y = x
    · subst hy
      rcases c (.inl (.inr xm)) with ⟨xs, z⟩ | ⟨ob, u', z⟩
      · subst z; exact absurd e (h3.kind.1 xs)
      · subst z; exact absurd e (h3.kind.2.1 ob u')
    · rw [upd_ne hy]; exact e
  have sm : StM j a as ρ σ H as (ρ.set j (some (.obj C (fs.map (·.1)) (setF f d' (fs.map (·.1)) ds), false))) σ (upd H x o) := ⟨fun y u q _ n => by rw [upd_ne (a := x) (b := y) fun z => n (by rw [z]; exact xm)]; exact q, fun y z => .inl (by rw [e] at z; exact z), dm⟩
  refine ⟨⟨⟨dx, fs, _, List.getElem?_set_self jl, by rw [upd_ne xa]; exact hi, ?_⟩, r.ref, r.nd, r.new, fun y u e => ?_, ?_⟩, sm⟩
  · rw [e]
    exact h4 kp (fun b z => .inl z) (fun y _ ny u e => by rw [upd_ne ny]; exact e) t
  · obtain ⟨u', e'⟩ := r.dom y u e
    exact dm y u' e'
  · rw [e]
    have kr := r.rl
    refine ⟨kr.len, fun y z => ?_, fun y u e => ?_, fun i d e => ?_, fun i d e => ?_, kr.sep⟩
    · obtain ⟨u, q⟩ := kr.s0 y z
      exact dm y u q
    · have q := kr.keep y u e
      have hy : y ≠ x := fun z => by rw [z, (r.new x xm).1] at e; cases e
      rw [upd_ne hy]; exact q
    · obtain ⟨v, h5, h6⟩ := kr.clean i d e
      exact ⟨v, h5, h6.mono kp fun b z => .inl z⟩
    · obtain ⟨b, h5, h6, h7⟩ := kr.own i d e
      have hb : b ≠ x := fun z => h6.2 (.inr (z ▸ xm))
      exact ⟨b, h5, h6, h7.mono kp (fun b z => .inl z) fun u q => by rw [upd_ne hb]; exact q⟩
/-- a field of the object is set -/
theorem RM.putF {f : Str} {d : D} {v : V} {ns : List Str} {ds : List D} (r : RM K j C S0 He A0 a as ρ σ H) (h0 : ρ[j]? = some (some (.obj C ns ds, false))) (s : Same H H')
    (hn : (cont d = true ∧ ∃ x, v = .ref x ∧ H x = none ∧ Top K (fun y => Fb (S1 S0 a as) (ρ.set j none) σ y ∨ y = x) H' x d) ∨ (cont d = false ∧ ∀ F' : Addr → Prop, Rep K F' H' d v)) :
    ∃ dx fs as', H' a = some (.ins C dx fs) ∧ fs.map (·.1) = ns ∧
      RM K j C S0 He A0 a as' (ρ.set j (some (.obj C (putFN f ns) (putFD f d ns ds), false))) σ (upd H' a (.ins C dx (L2.putF f v fs))) ∧ StM j a as ρ σ H as' (ρ.set j (some (.obj C (putFN f ns) (putFD f d ns ds), false))) σ (upd H' a (.ins C dx (L2.putF f v fs))) := by
  obtain ⟨dx, fs, ds', h0', hi, fr⟩ := id r.ob
  rw [h0] at h0'
  cases h0'
  have jl : j < ρ.length := (List.getElem?_eq_some_iff.mp h0).1
  have hi' := s _ _ hi
  have r1 := r.same s
  obtain ⟨nda, ndas⟩ := List.nodup_cons.mp r.nd
  -- the wider set: what was forbidden, and the new one
  let Fx : Addr → Prop := fun y => Fb (S1 S0 a as) (ρ.set j none) σ y ∨ (cont d = true ∧ v = .ref y)
  have newH : ∀ y, cont d = true ∧ v = .ref y → H y = none := fun y ⟨c, e⟩ => by
    rcases hn with ⟨_, x, ev, n, _⟩ | ⟨c', _⟩
    · rw [ev] at e; cases e; exact n
    · rw [c] at c'; cases c'
  have fr1 : FR K Fx H' ds (fs.map (·.2)) as := fr.mono (Kp.of_same s) (fun y z => z.elim .inl fun z => .inr (newH y z)) (fun x _ o e => s x o e)
  have hn1 : (cont d = true ∧ ∃ x, v = .ref x ∧ Top K Fx H' x d) ∨ (cont d = false ∧ Rep K Fx H' d v) := by
    rcases hn with ⟨c, x, ev, n, t⟩ | ⟨c, t⟩
    · refine .inl ⟨c, x, ev, t.mono (Kp.of_same (Same.refl _)) (fun y z => .inl ?_) fun _ z => z⟩
      rcases z with z | ⟨_, z⟩
      · exact .inl z
      · rw [ev] at z; cases z; exact .inr rfl
    · exact .inr ⟨c, t _⟩
  have hvy' : cont d = true → ∀ y ∈ as, v ≠ .ref y := fun c y hy e => by
    obtain ⟨o, e2⟩ := r.there y (by simp [hy])
    rw [newH y ⟨c, e⟩] at e2; cases e2
  obtain ⟨as', fr2, nd2, sub⟩ := FR.put (f := f) hn1 fr1 ndas hvy'
  have subA : ∀ y ∈ as', y ∈ as ∨ H y = none := fun y hy => (sub y hy).elim .inl fun z => .inr (newH y z)
  have ana : a ∉ as' := fun z => by
    rcases subA a z with q | q
    · exact nda q
    · rw [hi] at q; cases q
  have e : (ρ.set j (some (.obj C (putFN f (fs.map (·.1))) (putFD f d (fs.map (·.1)) ds), false))).set j none = ρ.set j none := List.set_set ..
  have kpH : Kp (Fb (S1 S0 a as) (ρ.set j none) σ) H (upd H' a (.ins C dx (L2.putF f v fs))) := fun y u q c => by
    by_cases hy : y = a
    · subst hy
      rw [hi] at q
      cases q
      rcases c (.inl (.inr (by simp))) with ⟨xs, z⟩ | ⟨ob, u', z⟩ <;> cases z
    · rw [upd_ne hy]; exact s y u q
  have hfH : ∀ y, Fb (S1 S0 a as') (ρ.set j none) σ y → Fb (S1 S0 a as) (ρ.set j none) σ y ∨ H y = none := fun y z => by
    rcases z with (z | z) | z
    · exact .inl (.inl (.inl z))
    · rcases List.mem_cons.mp z with q | q
      · exact .inl (.inl (.inr (by simp [q])))
      · exact (subA y q).elim (fun q => .inl (.inl (.inr (by simp [q])))) .inr
    · exact .inl (.inr z)
  have dm : ∀ y u, H y = some u → ∃ u', upd H' a (.ins C dx (L2.putF f v fs)) y = some u' := fun y u q => by
    by_cases hy : y = a
    · exact ⟨_, by rw [hy, upd_same]⟩
    · exact ⟨u, by rw [upd_ne hy]; exact s y u q⟩
  refine ⟨dx, fs, as', hi', rfl, ⟨⟨dx, L2.putF f v fs, putFD f d (fs.map (·.1)) ds, ?_, upd_same, ?_⟩, r.ref, List.nodup_cons.mpr ⟨ana, nd2⟩, fun y hy => ?_, fun y u q => ?_, ?_⟩, ⟨fun y u q _ n => ?_, fun y z => ?_, dm⟩⟩
  · rw [putF_fst]; exact List.getElem?_set_self jl
  · rw [e]
    refine fr2.mono (fun y u q c => ?_) (fun y z => ?_) (fun y hy u q => by rw [upd_ne (a := a) (b := y) fun z => ana (by rw [← z]; exact hy)]; exact q)
    · by_cases hy : y = a
      · subst hy
        rw [hi'] at q
        cases q
        rcases c (.inl (.inl (.inr (by simp)))) with ⟨xs, z⟩ | ⟨ob, u', z⟩ <;> cases z
      · rw [upd_ne hy]; exact q
    · rcases z with (z | z) | z
      · exact .inl (.inl (.inl (.inl z)))
      · rcases List.mem_cons.mp z with q | q
        · exact .inl (.inl (.inl (.inr (by simp [q]))))
        · exact (sub y q).elim (fun q => .inl (.inl (.inl (.inr (by simp [q]))))) fun q => .inl (.inr q)
      · exact .inl (.inl (.inr z))
  · rcases List.mem_cons.mp hy with q | q
    · exact r.new y (by simp [q])
    · rcases subA y q with q | q
      · exact r.new y (by simp [q])
      · refine ⟨?_, fun z => ?_⟩
        · unfold hl
          split
          · rfl
          · cases q2 : He y with
            | none => rfl
            | some o =>
              obtain ⟨o', q3⟩ := r.dom y o q2
              rw [q] at q3; cases q3
        · obtain ⟨o, q2⟩ := r.rl.s0 y (.inl z)
          rw [q] at q2; cases q2
  · obtain ⟨u', q'⟩ := r.dom y u q
    exact dm y u' q'
  · rw [e]
    have kr := r.rl
    refine ⟨kr.len, fun y z => ?_, fun y u q => ?_, fun i d q => ?_, fun i d q => ?_, kr.sep⟩
    · rcases z with z | z
      · obtain ⟨u, q⟩ := kr.s0 y (.inl z)
        exact dm y u q
      · rcases List.mem_cons.mp z with q | q
        · exact ⟨_, by rw [q, upd_same]⟩
        · obtain ⟨d', t⟩ := fr2.tops y q
          obtain ⟨u, q2⟩ := t.there
          by_cases hy : y = a
          · exact ⟨_, by rw [hy, upd_same]⟩
          · exact ⟨u, by rw [upd_ne hy]; exact q2⟩
    · have q2 := kr.keep y u q
      have hy : y ≠ a := fun z => by rw [z, (r.new a (by simp)).1] at q; cases q
      rw [upd_ne hy]; exact s y u q2
    · obtain ⟨w, h5, h6⟩ := kr.clean i d q
      exact ⟨w, h5, h6.mono kpH hfH⟩
    · obtain ⟨b, h5, h6, h7⟩ := kr.own i d q
      have hb : b ≠ a := fun z => h6.2 (.inr (by simp [z]))
      refine ⟨b, h5, ⟨h6.1, fun z => ?_⟩, h7.mono kpH hfH fun u q => by rw [upd_ne hb]; exact s b u q⟩
      rcases z with z | z
      · exact h6.2 (.inl z)
      · rcases List.mem_cons.mp z with q | q
        · exact hb q
        · rcases subA b q with q | q
          · exact h6.2 (.inr (by simp [q]))
          · obtain ⟨o, q2⟩ := h7.there
            rw [q] at q2; cases q2
  · have hy : y ≠ a := fun z => n (by simp [z])
    rw [upd_ne hy]; exact s y u q
  · rw [e] at z
    rcases z with z | z
    · exact .inl (.inl z)
    · rcases List.mem_cons.mp z with q | q
      · exact .inl (.inr (by simp [q]))
      · exact (subA y q).elim (fun q => .inl (.inr (by simp [q]))) .inr
end
end VM
/-! VMh: statements about an object that the code changes. -/
namespace VM
open PySem L2
inductive FlM where
  | next (ρ : Rho)
  | ret (p : D × Bool) (o : D)
  | brk (ρ : Rho)
  | cont (ρ : Rho)
  | exc (ρ : Rho) (c : Str) (fs : List (Str × D)) (o : D)
  | bad
/-- the object as a frame leaves it -/
structure RetO (K : PySem.W.Frag) (C : Addr) (S0 : Addr → Prop) (He : Hp) (A0 : List Addr) (a : Addr) (as : List Addr) (o : D) (H : Hp) : Prop where
  ob : ∃ dx fs ds, o = .obj C (fs.map (·.1)) ds ∧ H a = some (.ins C dx fs) ∧ FR K (S1 S0 a as) H ds (fs.map (·.2)) as
  nd : (a :: as).Nodup
  new : ∀ x ∈ a :: as, hl He A0 x = none ∧ ¬ S0 x
  dom : ∀ x o, He x = some o → ∃ o', H x = some o'
  keep : Same (hl He A0) H
section
variable (K : PySem.W.Frag) (mg : Str → Option Value) (W : WX) (j : Nat) (C : Addr) (S0 : Addr → Prop) (He : Hp) (A0 : List Addr) (a : Addr) (as : List Addr) (ρ : Rho) (σ : L2.St) (H : Hp) (Dd : Ends)
def WantM : FlM → Prop
  | .next ρ' => ∀ as' σ' H', RM K j C S0 He A0 a as' ρ' σ' H' → StM j a as ρ σ H as' ρ' σ' H' → Dd.nx σ' H'
  | .brk ρ' => ∀ as' σ' H', RM K j C S0 He A0 a as' ρ' σ' H' → StM j a as ρ σ H as' ρ' σ' H' → Dd.bk σ' H'
  | .cont ρ' => ∀ as' σ' H', RM K j C S0 He A0 a as' ρ' σ' H' → StM j a as ρ σ H as' ρ' σ' H' → Dd.ct σ' H'
  | .ret p o => ∀ as' v H', RetO K C S0 He A0 a as' o H' → PF K (S1 S0 a as') He p v H' → Dd.rt v H'
  | .exc ρ' c fs o => ∀ as' cls dd σ' H', RM K j C S0 He A0 a as' ρ' σ' H' → ρ'[j]? = some (some (o, false)) → StM j a as ρ σ H as' ρ' σ' H' → ExIs K mg c fs cls dd H' → W cls dd σ' H'
  | .bad => False
end
/-- loc: the frame made the object itself -/
def SemSM (X : Cx) (W : WX) (j : Nat) (C : Addr) (loc : Bool) (t : TS) (g : Rho → FlM) : Prop := ∀ S0 He A0 a as ρ σ H Dd, (loc = true → A0 = []) → RM X.K j C S0 He A0 a as ρ σ H → WantM X.K X.mg W j C S0 He A0 a as ρ σ H Dd (g ρ) → t Dd σ H
structure SSM (X : Cx) (W : WX) (j : Nat) (C : Addr) (loc : Bool) (st : Stmt) (g : Rho → FlM) : Prop where
  ex : ∃ t, PS X st t ∧ SemSM X W j C loc t g
structure SSsM (X : Cx) (W : WX) (j : Nat) (C : Addr) (loc : Bool) (st : List Stmt) (g : Rho → FlM) : Prop where
  ex : ∃ t, PSs X st t ∧ SemSM X W j C loc t g
section
variable {K : PySem.W.Frag} {mg : Str → Option Value} {W : WX} {j : Nat} {C : Addr} {S0 : Addr → Prop} {He : Hp} {A0 : List Addr} {a : Addr} {as as1 : List Addr} {ρ ρ1 : Rho} {σ σ1 : L2.St} {H H1 : Hp} {Dd : Ends} {r : FlM}
theorem WantM.step (s : StM j a as ρ σ H as1 ρ1 σ1 H1) (h : WantM K mg W j C S0 He A0 a as ρ σ H Dd r) : WantM K mg W j C S0 He A0 a as1 ρ1 σ1 H1 Dd r := by
  cases r with
  | next ρ' => exact fun as' σ' H' p q => h as' σ' H' p (s.trans q)
  | brk ρ' => exact fun as' σ' H' p q => h as' σ' H' p (s.trans q)
  | cont ρ' => exact fun as' σ' H' p q => h as' σ' H' p (s.trans q)
  | ret p o => exact h
  | exc ρ' c fs o => exact fun as' cls dd σ' H' p e q => h as' cls dd σ' H' p e (s.trans q)
  | bad => exact h
end
def FlM.andThen (f : FlM) (g : Rho → FlM) : FlM := match f with
  | .next ρ => g ρ
  | r => r
def mSeq (f g : Rho → FlM) : Rho → FlM := fun ρ => (f ρ).andThen g
def mNop : Rho → FlM := .next
/-- an expression, then what its value does -/
def R.fm {α : Type} (x : R α) (j : Nat) (ρ : Rho) (k : α → FlM) : FlM := match x with
  | .ok a => k a
  | .exc c fs => match ρ[j]? with
    | some (some (o, _)) => .exc ρ c fs o
    | _ => .bad
  | .bad => .bad
/-- what holds no list or dict that others may hold -/
def safe (p : D × Bool) : Bool := imm p.1 || (p.2 && match p.1 with
  | .lst xs => imms xs
  | .dic _ vs => imms vs
  | .dct _ vs => imms vs
  | _ => false)
def saf (f : Rho → R (D × Bool)) : Rho → R (D × Bool) := fun ρ => do let p ← f ρ; if safe p = true then pure p else .bad
theorem safe_pf {K : PySem.W.Frag} {F F' : Addr → Prop} {H H1 : Hp} {p : D × Bool} {v : V} (h : safe p = true) (q : PF K F H p v H1) (hF' : ∀ x, F' x → ∃ o, H x = some o) : PF K F' H p v H1 := by
  obtain ⟨d, b⟩ := p
  unfold safe at h
  rw [Bool.or_eq_true] at h
  rcases h with h | h
  · exact ⟨Rep.imm d v h q.1, fun z => by
      obtain ⟨x, _, _, t⟩ := q.2 z
      exact (imm_top h t).elim⟩
  · rw [Bool.and_eq_true] at h
    obtain ⟨hb, hd⟩ := h
    have hb' : b = true := hb
    subst hb'
    obtain ⟨x, ev, n, t⟩ := q.2 rfl
    have nF : ¬ F' x := fun z => by
      obtain ⟨o, e⟩ := hF' x z
      rw [n] at e; cases e
    have t' : ∀ F2 : Addr → Prop, Top K F2 H1 x d := fun F2 => by
      cases d with
      | lst xs => obtain ⟨vs, e, r⟩ := t; exact ⟨vs, e, Reps.imms _ _ hd r⟩
      | dic ks xs => obtain ⟨vs, e, e2, r⟩ := t; exact ⟨vs, e, e2, Reps.imms _ _ hd r⟩
      | dct ks xs => obtain ⟨vs, e, e2, r⟩ := t; exact ⟨vs, e, e2, Reps.imms _ _ hd r⟩
      | _ => exact (show False from t).elim
    exact ⟨by rw [ev]; exact Top.rep (t' _) nF, fun _ => ⟨x, ev, n, t' _⟩⟩
/-- an expression where the object is data -/
structure SFM (X : Cx) (W : WX) (j : Nat) (C : Addr) (e : Expr) (f : Rho → R (D × Bool)) : Prop where
  ns : isStar e = false
  ex : ∃ t, PE X e t ∧ ∀ S0 He A0 a as ρ σ H Q, RM X.K j C S0 He A0 a as ρ σ H → Want X.K X.mg W σ H Q (PF X.K (Fb (S1 S0 a as) (ρ.set j none) σ) H) (f ρ) → t σ H Q
section
variable {X : Cx} {W : WX} {j : Nat} {C : Addr} {loc : Bool} {e e1 e2 : Expr} {fe fe1 fe2 : Rho → R (D × Bool)} {st : Stmt} {sts : List Stmt} {f g : Rho → FlM} {pos p p2 tpos apos cpos : Pos} {i : Nat} {x y : Str}
theorem sfm (h : SF X W e fe) : SFM X W j C e (saf fe) := by
  have ns := h.ns
  obtain ⟨t, p, h⟩ := h.ex
  refine ⟨ns, t, p, fun S0 He A0 a as ρ σ H Q r w => h S0 _ ρ σ H Q r.view ?_⟩
  have w' : Want X.K X.mg W σ H Q (PF X.K (Fb (S1 S0 a as) (ρ.set j none) σ) H) (fe ρ >>= fun p => if safe p = true then pure p else .bad) := w
  refine Want.bind w' fun p v H1 s q w1 => ?_
  by_cases hs : safe p = true
  · rw [if_pos hs] at w1
    exact w1 v H1 (Same.refl _) (safe_pf hs q fun y z => r.fbH y z)
  · rw [if_neg hs] at w1; exact w1.elim
theorem fm_want {α γ : Type} {K : PySem.W.Frag} {mg : Str → Option Value} {S0 : Addr → Prop} {He : Hp} {A0 : List Addr} {a : Addr} {as : List Addr} {ρ : Rho} {σ : L2.St} {H : Hp} {Dd : Ends} {x : R α} {k : α → FlM} {P : α → γ → Hp → Prop} {Q : γ → Hp → Prop} (rm : RM K j C S0 He A0 a as ρ σ H)
    (w : WantM K mg W j C S0 He A0 a as ρ σ H Dd (x.fm j ρ k)) (h : ∀ v u H1, Same H H1 → P v u H1 → WantM K mg W j C S0 He A0 a as ρ σ H Dd (k v) → Q u H1) : Want K mg W σ H Q P x := by
  cases x with
  | ok v => exact fun u H' s p => h v u H' s p w
  | exc c fs =>
    obtain ⟨dx, fs', ds, h0, _⟩ := rm.ob
    have w' : WantM K mg W j C S0 He A0 a as ρ σ H Dd (match ρ[j]? with
      | some (some (o, _)) => .exc ρ c fs o
      | _ => .bad) := w
    rw [h0] at w'
    exact fun cls dd H' s e => w' as cls dd σ H' (rm.same s) h0 (StM.of_same s) e
  | bad => exact w
theorem sm_nil : SSsM X W j C loc [] mNop := ⟨_, pss_nil, fun S0 He A0 a as ρ σ H Dd _ r w => w as σ H r StM.refl⟩
theorem sm_cons (h : SSM X W j C loc st f) (k : SSsM X W j C loc sts g) : SSsM X W j C loc (st :: sts) (mSeq f g) := by
  obtain ⟨t, p, h⟩ := h.ex
  obtain ⟨u, q, k⟩ := k.ex
  refine ⟨_, pss_cons p q, fun S0 He A0 a as ρ σ H Dd lc r w => h S0 He A0 a as ρ σ H _ lc r ?_⟩
  unfold mSeq at w
  cases hf : f ρ with
  | next ρ' =>
    rw [hf] at w
    exact fun as' σ' H' p q => k S0 He A0 a as' ρ' σ' H' Dd lc p (WantM.step q w)
  | brk ρ' => rw [hf] at w; exact w
  | cont ρ' => rw [hf] at w; exact w
  | ret p o => rw [hf] at w; exact w
  | exc ρ' c fs o => rw [hf] at w; exact w
  | bad => rw [hf] at w; exact w
theorem sm_pass : SSM X W j C loc (.Pass pos) mNop := ⟨_, ps_pass, fun S0 He A0 a as ρ σ H Dd _ r w => w as σ H r StM.refl⟩
theorem sm_cont : SSM X W j C loc (.Continue pos) .cont := ⟨_, ps_continue, fun S0 He A0 a as ρ σ H Dd _ r w => w as σ H r StM.refl⟩
theorem sm_brk : SSM X W j C loc (.Break pos) .brk := ⟨_, ps_break, fun S0 He A0 a as ρ σ H Dd _ r w => w as σ H r StM.refl⟩
/-! ### x = e -/
def mSet (j i : Nat) (m : Bool) (fe : Rho → R (D × Bool)) : Rho → FlM := fun ρ => (fe ρ).fm j ρ fun q => .next (ρ.set i (some (q.1, q.2 && m)))
theorem sm_set {m : Bool} (hN : X.N.Nodup) (hi : X.N[i]? = some x) (hx : Loc X.env.scope x) (he : SFM X W j C e fe) (hs : swapsWith e (some (.Name x p2)) pos.line X.env = pure false) (hf : X.fn x = true ∨ X.env.scope.names.lookup x = some .local) (hij : i ≠ j) : SSM X W j C loc (.Assign [.Name x p2] e pos) (mSet j i m fe) := by
  obtain ⟨t, q, h⟩ := he.ex
  refine ⟨_, ps_set hN hi hx q hs hf, fun S0 He A0 a as ρ σ H Dd _ r w => h S0 He A0 a as ρ σ H _ r (fm_want r w fun q v H1 s pf w1 => ?_)⟩
  obtain ⟨d, b⟩ := q
  cases hb : b && m with
  | false =>
    have w1' : WantM X.K X.mg W j C S0 He A0 a as ρ σ H Dd (.next (ρ.set i (some (d, b && m)))) := w1
    rw [hb] at w1'
    obtain ⟨r2, s2⟩ := r.setC hij s pf.1
    exact w1' as _ _ r2 s2
  | true =>
    have w1' : WantM X.K X.mg W j C S0 He A0 a as ρ σ H Dd (.next (ρ.set i (some (d, b && m)))) := w1
    rw [hb] at w1'
    rw [Bool.and_eq_true] at hb
    obtain ⟨x, ev, n, tp⟩ := pf.2 hb.1
    subst ev
    obtain ⟨r2, s2⟩ := r.setO hij s n tp
    exact w1' as _ _ r2 s2
/-! ### return -/
theorem RM.retO {K : PySem.W.Frag} {S0 : Addr → Prop} {He : Hp} {A0 : List Addr} {a : Addr} {as : List Addr} {ρ : Rho} {σ : L2.St} {H : Hp} {o : D} {b : Bool} (r : RM K j C S0 He A0 a as ρ σ H) (h : ρ[j]? = some (some (o, b))) : RetO K C S0 He A0 a as o H := by
  obtain ⟨dx, fs, ds, h0, hi, fr⟩ := r.ob
  rw [h] at h0
  cases h0
  exact ⟨⟨dx, fs, ds, rfl, hi, fr.less fun y z => .inl z⟩, r.nd, r.new, r.dom, r.rl.keep⟩
def mRet (j : Nat) (fe : Rho → R (D × Bool)) : Rho → FlM := fun ρ => (fe ρ).fm j ρ fun q => match ρ[j]? with
  | some (some (o, _)) => .ret q o
  | _ => .bad
theorem none_dom {He H : Hp} (d : ∀ x o, He x = some o → ∃ o', H x = some o') {y : Addr} (n : H y = none) : He y = none := by
  cases e : He y with
  | none => rfl
  | some o =>
    obtain ⟨o', e'⟩ := d y o e
    rw [n] at e'; cases e'
theorem sm_ret (he : SFM X W j C e fe) : SSM X W j C loc (.Return (some e) pos) (mRet j fe) := by
  obtain ⟨t, q, h⟩ := he.ex
  refine ⟨_, ps_ret q, fun S0 He A0 a as ρ σ H Dd _ r w => h S0 He A0 a as ρ σ H _ r (fm_want r w fun q v H1 s pf w1 => ?_)⟩
  obtain ⟨dx, fs, ds, h0, _⟩ := id r.ob
  have w2 : WantM X.K X.mg W j C S0 He A0 a as ρ σ H Dd (match ρ[j]? with
    | some (some (o, _)) => .ret q o
    | _ => .bad) := w1
  rw [h0] at w2
  refine w2 as v H1 ((r.same s).retO h0) ⟨pf.1.less fun y z => .inl z, fun z => ?_⟩
  obtain ⟨y, ev, n, tp⟩ := pf.2 z
  exact ⟨y, ev, none_dom r.dom n, tp.mono (Kp.of_same (Same.refl _)) (fun b z => .inl (z.elim (fun z => .inl (.inl z)) .inr)) fun _ z => z⟩
def mRetN (j : Nat) : Rho → FlM := fun ρ => match ρ[j]? with
  | some (some (o, _)) => .ret (.non, false) o
  | _ => .bad
theorem sm_retN : SSM X W j C loc (.Return none pos) (mRetN j) := by
  refine ⟨_, ps_retN, fun S0 He A0 a as ρ σ H Dd _ r w => ?_⟩
  obtain ⟨dx, fs, ds, h0, _⟩ := id r.ob
  unfold mRetN at w
  rw [h0] at w
  exact w as .non H (r.retO h0) (PF.of rfl)
def mRetV (j : Nat) (loc : Bool) (i : Nat) : Rho → FlM := fun ρ => match ρ[i]?, ρ[j]? with
  | some (some (d, b)), some (some (o, _)) => .ret (d, b && loc) o
  | _, _ => .bad
theorem sm_retV (hN : X.N[i]? = some x) (hv : Vis X.env.scope x) (hd : (x == ("__debug__" : Str)) = false) (hcd : (x == ("__classdict__" : Str)) = false) (hij : i ≠ j) : SSM X W j C loc (.Return (some (.Name x p2)) pos) (mRetV j loc i) := by
  refine ⟨_, ps_ret (pe_var hN hv hd hcd), fun S0 He A0 a as ρ σ H Dd lc r w => ?_⟩
  obtain ⟨dx, fs, ds, h0, _⟩ := id r.ob
  unfold mRetV at w
  rw [h0] at w
  have hne : j ≠ i := fun z => hij z.symm
  cases hi : ρ[i]? with
  | none => rw [hi] at w; exact (show False from w).elim
  | some q =>
    cases q with
    | none => rw [hi] at w; exact (show False from w).elim
    | some q =>
      obtain ⟨d, b⟩ := q
      rw [hi] at w
      have w1 : WantM X.K X.mg W j C S0 He A0 a as ρ σ H Dd (.ret (d, b && loc) (.obj C (fs.map (·.1)) ds)) := w
      have hi' : (ρ.set j none)[i]? = some (some (d, b)) := by rw [List.getElem?_set_ne hne]; exact hi
      cases b with
      | false =>
        obtain ⟨v, h1, h2⟩ := r.rl.clean i d hi'
        exact ⟨v, h1, w1 as v H (r.retO h0) (PF.of (h2.less fun y z => .inl z))⟩
      | true =>
        obtain ⟨b, h1, h2, h3⟩ := r.rl.own i d hi'
        have t : Top X.K (fun y => S1 S0 a as y ∨ y = b) H b d := h3.mono (Kp.of_same (Same.refl _)) (fun y z => .inl (z.elim .inl fun z => by rw [z]; exact .inr ⟨i, d, hi', h1⟩)) fun _ z => z
        refine ⟨_, h1, w1 as _ H (r.retO h0) ⟨Top.rep (t.mono (Kp.of_same (Same.refl _)) (fun y z => .inl (.inl z)) fun _ z => z) h2.2, fun z => ⟨b, rfl, ?_, t⟩⟩⟩
        have hl : loc = true := by simpa using z
        have h3 := h2.1
        rw [lc hl] at h3
        unfold VM.hl at h3
        rw [if_neg (by simp)] at h3
        exact h3
/-! ### if -/
def mIf (j : Nat) (c : Rho → R Bool) (f g : Rho → FlM) : Rho → FlM := fun ρ => (c ρ).fm j ρ fun b => if b = true then f ρ else g ρ
theorem sm_if {c : Expr} {b1 b2 : List Stmt} {fc : Rho → R Bool} (hc : ST X W c fc) (ha : SSsM X W j C loc b1 f) (hb : SSsM X W j C loc b2 g) : SSM X W j C loc (.If c b1 b2 pos) (mIf j fc f g) := by
  obtain ⟨t, p, h⟩ := hc.ex
  obtain ⟨u, q, k⟩ := ha.ex
  obtain ⟨u', q', k'⟩ := hb.ex
  refine ⟨_, ps_if p q q', fun S0 He A0 a as ρ σ H Dd lc r w => h S0 _ ρ σ H _ r.view (fm_want r w fun b v H1 s z w1 => ?_)⟩
  have z' : v = b := z
  subst z'
  have w2 := WantM.step (StM.of_same s) w1
  cases v with
  | true => exact k S0 He A0 a as ρ σ H1 Dd lc (r.same s) w2
  | false => exact k' S0 He A0 a as ρ σ H1 Dd lc (r.same s) w2
/-! ### self.f = e -/
def mFld (j : Nat) (f : Str) (fe : Rho → R (D × Bool)) : Rho → FlM := fun ρ => (fe ρ).fm j ρ fun q => match ρ[j]? with
  | some (some (.obj C ns ds, false)) => if ns.length < 1000 ∧ (imm q.1 || q.2) = true then .next (ρ.set j (some (.obj C (putFN f ns) (putFD f q.1 ns ds), false))) else .bad
  | _ => .bad
theorem imm_cont {d : D} (h : imm d = true) : cont d = false := by
  cases d <;> first | rfl | cases h
theorem sm_fld {f : Str} (hN : X.N[j]? = some x) (hv : Vis X.env.scope x) (hd : (x == ("__debug__" : Str)) = false) (hcd : (x == ("__classdict__" : Str)) = false) (c : Cls X.K C) (hn : NoAttr X.K C f) (he : SFM X W j C e fe) (hc : isComp e = false) :
    SSM X W j C loc (.Assign [.Attribute (.Name x p) f tpos] e pos) (mFld j f fe) := by
  obtain ⟨t, q, h⟩ := he.ex
  refine ⟨_, ps_fld (pe_var hN hv hd hcd) q (swapsWith_pl hc _ _ _), fun S0 He A0 a as ρ σ H Dd _ r w => h S0 He A0 a as ρ σ H _ r (fm_want r w fun q v H1 s pf w1 => ?_)⟩
  obtain ⟨dx, fs, ds, h0, hi, fr⟩ := id r.ob
  have w2 : WantM X.K X.mg W j C S0 He A0 a as ρ σ H Dd (match ρ[j]? with
    | some (some (.obj C ns ds, false)) => if ns.length < 1000 ∧ (imm q.1 || q.2) = true then .next (ρ.set j (some (.obj C (putFN f ns) (putFD f q.1 ns ds), false))) else .bad
    | _ => .bad) := w1
  rw [h0] at w2
  have w3 : WantM X.K X.mg W j C S0 He A0 a as ρ σ H Dd (if (fs.map (·.1)).length < 1000 ∧ (imm q.1 || q.2) = true then .next (ρ.set j (some (.obj C (putFN f (fs.map (·.1))) (putFD f q.1 (fs.map (·.1)) ds), false))) else .bad) := w2
  by_cases hq : (fs.map (·.1)).length < 1000 ∧ (imm q.1 || q.2) = true
  · rw [if_pos hq] at w3
    have hn' : (cont q.1 = true ∧ ∃ x, v = .ref x ∧ H x = none ∧ Top X.K (fun y => Fb (S1 S0 a as) (ρ.set j none) σ y ∨ y = x) H1 x q.1) ∨ (cont q.1 = false ∧ ∀ F' : Addr → Prop, Rep X.K F' H1 q.1 v) := by
      by_cases hm : imm q.1 = true
      · exact .inr ⟨imm_cont hm, fun F' => Rep.imm _ _ hm pf.1⟩
      · have hb : q.2 = true := by
          have := hq.2
          rw [Bool.or_eq_true] at this
          exact this.resolve_left hm
        obtain ⟨y, ev, n, tp⟩ := pf.2 hb
        exact .inl ⟨tp.cont, y, ev, n, tp⟩
    obtain ⟨dx', fs', as', g1, g2, g3, g4⟩ := r.putF h0 s hn'
    refine ⟨_, r.ref, a, C, dx', fs', rfl, g1, c, hn, ?_, w3 as' σ _ g3 g4⟩
    have := hq.1
    rw [← g2, List.length_map] at this
    exact this
  · rw [if_neg hq] at w3; exact w3.elim
end
end VM
/-! VMi: statements about an object that the code changes: targets, loops, stores, calls. -/
namespace VM
open PySem L2
/-! ### targets -/
def mT (j : Nat) (g : D → Rho → R Rho) : D → Rho → R Rho := fun d ρ => do let ρ' ← g d (ρ.set j none); pure (ρ'.set j (ρ[j]?.getD none))
section
variable {X : Cx} {W : WX} {j : Nat} {C : Addr} {loc : Bool} {tg iter e e1 e2 : Expr} {es : List Expr} {fe fe1 fe2 fa fb : Rho → R (D × Bool)} {fi : Rho → R (List D)} {st : Stmt} {body sts : List Stmt} {f g : Rho → FlM} {gt : D → Rho → R Rho} {ix : List Nat} {pos p p2 tpos apos cpos : Pos} {i : Nat} {x y : Str}
theorem mt_pl (hg : SG X tg ix gt) (d : D) (ρ : Rho) (c : Str) (fs : List (Str × D)) : mT j gt d ρ ≠ .exc c fs := fun h => by
  have h' : (gt d (ρ.set j none) >>= fun ρ' => pure (ρ'.set j (ρ[j]?.getD none))) = R.exc c fs := h
  cases q : gt d (ρ.set j none) with
  | ok ρ' => rw [q] at h'; cases h'
  | exc c' fs' => exact hg.pl _ _ _ _ q
  | bad => rw [q] at h'; cases h'
theorem mt_sem (hg : SG X tg ix gt) (hj : j ∉ ix) : ∃ t, PG X tg t ∧ ∀ S0 He A0 a as ρ σ H v d (Q : L2.St → Hp → Prop), RM X.K j C S0 He A0 a as ρ σ H → Rep X.K (Fb (S1 S0 a as) (ρ.set j none) σ) H d v →
    (∃ ρ', mT j gt d ρ = .ok ρ' ∧ ∀ σ', RM X.K j C S0 He A0 a as ρ' σ' H → StM j a as ρ σ H as ρ' σ' H → Q σ' H) → t v σ H Q := by
  have kp := hg.kp
  obtain ⟨t, p, h⟩ := hg.ex
  refine ⟨t, p, fun S0 He A0 a as ρ σ H v d Q r hr ⟨ρ', e, k⟩ => ?_⟩
  obtain ⟨dx, fs, ds, h0, _⟩ := id r.ob
  have e' : (gt d (ρ.set j none) >>= fun ρ' => pure (ρ'.set j (ρ[j]?.getD none))) = R.ok ρ' := e
  cases q : gt d (ρ.set j none) with
  | bad => rw [q] at e'; cases e'
  | exc c' fs' => rw [q] at e'; cases e'
  | ok ρ0 =>
    rw [q] at e'
    cases e'
    have jl : j < ρ.length := (List.getElem?_eq_some_iff.mp h0).1
    have q0 : ρ0[j]? = some none := by rw [kp _ _ _ q j hj]; exact List.getElem?_set_self jl
    have jl0 : j < ρ0.length := (List.getElem?_eq_some_iff.mp q0).1
    refine h _ _ _ _ _ _ _ _ r.rl hr ⟨ρ0, q, fun σ' rl st wp => ?_⟩
    have es : (ρ0.set j (ρ[j]?.getD none)).set j none = ρ0 := by rw [List.set_set]; exact set_same q0
    have hσ : σ'[j]? = σ[j]? := by
      rw [← wipe_out (vs := ix) hj, ← wipe_out (σ := σ) (vs := ix) hj, wp ix fun i hi => hi]
    obtain ⟨r2, s2⟩ := r.step (ρ' := ρ0.set j (ρ[j]?.getD none)) (σ' := σ') (by rw [es]; exact rl) (by rw [es]; exact st) (by rw [List.getElem?_set_self jl0, h0]; rfl) hσ (same_dom (Same.refl _))
    exact k σ' r2 s2
def mAsg (j : Nat) (g : D → Rho → R Rho) (fe : Rho → R (D × Bool)) : Rho → FlM := fun ρ => (fe ρ).fm j ρ fun q => (mT j g q.1 ρ).fm j ρ .next
theorem sm_asg (hg : SG X tg ix gt) (hj : j ∉ ix) (ns : isStar tg = false) (he : SFM X W j C e fe) (hc : isComp e = false) (ht : isTup e = false) : SSM X W j C loc (.Assign [tg] e pos) (mAsg j gt fe) := by
  have gp := mt_pl (j := j) hg
  obtain ⟨t, p, h⟩ := he.ex
  obtain ⟨u, q, k⟩ := mt_sem (C := C) hg hj
  refine ⟨_, ps_asg p q (swapsSole_pl hc _ _) (swappedStores_no ht) (by rw [assignEach_cons ns]; rfl), fun S0 He A0 a as ρ σ H Dd _ r w => h S0 He A0 a as ρ σ H _ r (fm_want r w fun z v H1 s pf w1 => ?_)⟩
  have w2 : WantM X.K X.mg W j C S0 He A0 a as ρ σ H Dd ((mT j gt z.1 ρ).fm j ρ .next) := w1
  cases hg' : mT j gt z.1 ρ with
  | ok ρ' =>
    rw [hg'] at w2
    exact k S0 He A0 a as ρ σ H1 v z.1 _ (r.same s) pf.1 ⟨ρ', hg', fun σ' rm sm => w2 as σ' H1 rm ((StM.of_same s).trans sm)⟩
  | exc c fs => exact absurd hg' (gp _ _ _ _)
  | bad => rw [hg'] at w2; exact w2.elim
/-! ### for -/
structure SIM (X : Cx) (W : WX) (j : Nat) (C : Addr) (tg iter : Expr) (f : Rho → R (List D)) : Prop where
  ns : ∀ (env : PySem.Env) (x : Value), foldedSetIterable iter env x = pure x
  ex : ∃ wi, PI X tg iter wi ∧ ∀ S0 He A0 a as ρ σ H (Rr : It → Hp → Prop), RM X.K j C S0 He A0 a as ρ σ H →
    Want X.K X.mg W σ H Rr (fun ds J H1 => IW X.K (Fb (S1 S0 a as) (ρ.set j none) σ) (Fb (S1 S0 a as) (ρ.set j none) σ) H1 ds J) (f ρ) → wi σ H Rr
theorem sim_any (he : SFM X W j C e fe) (hs : isSet e = false) : SIM X W j C tg e (bIt fe) := by
  obtain ⟨t, p, h⟩ := he.ex
  refine ⟨folded_pl hs, _, pi_any p, fun S0 He A0 a as ρ σ H Rr r w => h S0 He A0 a as ρ σ H _ r (Want.bind w fun q v H1 s pf w1 => ?_)⟩
  obtain ⟨d, b⟩ := q
  have hO : ∀ y, Fb (S1 S0 a as) (ρ.set j none) σ y → Fb (S1 S0 a as) (ρ.set j none) σ y := fun y z => z
  have pf1 : Rep X.K (Fb (S1 S0 a as) (ρ.set j none) σ) H1 d v := pf.1
  cases d with
  | lst ds =>
    obtain ⟨y, vs, e, q, n, rs⟩ := pf1
    exact .inl (.inl ⟨y, e, ⟨vs, SqL.of q⟩, w1 _ _ (Same.refl _) (iw_list hO q n rs)⟩)
  | tup ds =>
    obtain ⟨y, vs, e, q, rs⟩ := pf1
    exact .inl (.inr ⟨y, e, ⟨vs, SqT.of q⟩, w1 _ _ (Same.refl _) (iw_tup hO (SqT.of q) rs)⟩)
  | ktup ds =>
    obtain ⟨y, vs, e, q, rs⟩ := RepE.ktup (.inl pf1)
    exact .inl (.inr ⟨y, e, ⟨vs, q⟩, w1 _ _ (Same.refl _) (iw_tup hO q rs)⟩)
  | scr ns =>
    obtain ⟨y, e, q⟩ := pf1
    refine .inl (.inl ⟨y, e, ⟨ns.map V.int, ?_⟩, w1 _ _ (Same.refl _) (iw_scr q)⟩)
    rcases q with ⟨o, q⟩ | q
    · exact .inl (.inr ⟨o, q⟩)
    · exact .inr q
  | str z => exact .inr ⟨z, pf1, w1 _ _ (Same.refl _) iw_str⟩
  | _ => exact (show False from w1).elim
theorem sim_zip {elts : List Expr} {kk : Nat} (hg : Gl X "zip") (hm : X.mg "zip" = none) (ha : SFM X W j C e1 fa) (hb : SFM X W j C e2 fb) : SIM X W j C (.Tuple elts kk tpos) (.Call (.Name "zip" p) [e1, e2] [] pos) (bZip fa fb) := by
  have ns := ha.ns
  have ns2 := hb.ns
  obtain ⟨t, pe, h⟩ := ha.ex
  obtain ⟨u, pe2, h'⟩ := hb.ex
  refine ⟨fun _ _ => rfl, _, pi_zipS hg hm (pa_cons pe (pa_cons pe2 pa_nil (star_of ns2 _ _)) (star_of ns _ _)) ns ns2, fun S0 He A0 a as ρ σ H Rr r w => h S0 He A0 a as ρ σ H _ r (Want.bind w fun q v H1 s pf w1 => ?_)⟩
  refine h' S0 He A0 a as ρ σ H1 _ (r.same s) (Want.bind w1 fun q2 v2 H2 s2 pf2 w2 => ?_)
  cases hd : itD q.1 with
  | bad => rw [hd] at w2; exact w2.elim
  | exc c fs => exact absurd hd (itD_pl _ _ _)
  | ok ds =>
    rw [hd] at w2
    have w3 : Want X.K X.mg W σ H2 Rr (fun ds J H1 => IW X.K (Fb (S1 S0 a as) (ρ.set j none) σ) (Fb (S1 S0 a as) (ρ.set j none) σ) H1 ds J) (do let ys ← itD q2.1; pure (zipL ds ys)) := w2
    cases hd2 : itD q2.1 with
    | bad => rw [hd2] at w3; exact w3.elim
    | exc c fs => exact absurd hd2 (itD_pl _ _ _)
    | ok es =>
      rw [hd2] at w3
      have w4 : Want X.K X.mg W σ H2 Rr (fun ds J H1 => IW X.K (Fb (S1 S0 a as) (ρ.set j none) σ) (Fb (S1 S0 a as) (ρ.set j none) σ) H1 ds J) (.ok (zipL ds es)) := w3
      have hO : ∀ y, Fb (S1 S0 a as) (ρ.set j none) σ y → Fb (S1 S0 a as) (ρ.set j none) σ y := fun y z => z
      obtain ⟨xs, hs, _⟩ := srcOf_rep (O := Fb (S1 S0 a as) (ρ.set j none) σ) (k := fun f => ∃ ys, srcOf X.K H2 v2 ys fun g => ∀ u u2, Rr (JZip X.K (f u) (g u2)) H2) hO (pf.1.same s2) hd fun f xs ok rs => by
          obtain ⟨ys', hs3, _⟩ := srcOf_rep (O := Fb (S1 S0 a as) (ρ.set j none) σ) (k := fun g => ∀ u u2, Rr (JZip X.K (f u) (g u2)) H2) hO pf2.1 hd2 fun g ys ok2 rs2 u u2 => w4 _ _ (Same.refl _) (iw_zip hO (fun H' k => ok u H' k) (fun H' k => ok2 u2 H' k) rs rs2)
          exact ⟨ys', hs3⟩
      exact ⟨v, v2, xs, rfl, hs⟩
def forM (j : Nat) (g : D → Rho → R Rho) (f : Rho → FlM) : List D → Rho → FlM
  | [], ρ => .next ρ
  | d :: ds, ρ => (mT j g d ρ).fm j ρ fun ρ1 => match f ρ1 with
    | .next ρ2 => forM j g f ds ρ2
    | .cont ρ2 => forM j g f ds ρ2
    | .brk ρ2 => .next ρ2
    | r => r
def mFor (j : Nat) (fi : Rho → R (List D)) (g : D → Rho → R Rho) (f : Rho → FlM) : Rho → FlM := fun ρ => (fi ρ).fm j ρ fun ds => forM j g f ds ρ
theorem sm_for (hp : PassesOwn (model X.prog X.w) X.A X.env X.xe) (hc : X.calm = true) (hi : SIM X W j C tg iter fi) (hg : SG X tg ix gt) (hj : j ∉ ix) (hb : SSsM X W j C loc body f) : SSM X W j C loc (.For tg iter body [] pos) (mFor j fi gt f) := by
  have ns := hi.ns
  obtain ⟨wi, pi, hi⟩ := hi.ex
  have gpl := mt_pl (j := j) hg
  obtain ⟨tg', pg, hg⟩ := mt_sem (C := C) hg hj
  obtain ⟨tb, pb, hb⟩ := hb.ex
  refine ⟨_, ps_for hp hc pi pg pb (ns _), fun S0 He A0 a as ρ σ H Dd lc r w => hi S0 He A0 a as ρ σ H _ r (fm_want r w fun ds J H1 s iw w1 => ?_)⟩
  have w2 := WantM.step (StM.of_same s) w1
  have r1 := r.same s
  refine ⟨fun i m σ' H' => m + i = ds.length ∧ ∃ as' ρ', RM X.K j C S0 He A0 a as' ρ' σ' H' ∧ StM j a as ρ σ H1 as' ρ' σ' H' ∧ WantM X.K X.mg W j C S0 He A0 a as' ρ' σ' H' Dd (forM j gt f (ds.drop i) ρ'), ⟨ds.length, by omega, as, ρ, r1, StM.refl, by rw [List.drop_zero]; exact w2⟩, ?_⟩
  rintro i m σ' H' ⟨hm, as', ρ', rm, st, ww⟩
  have kp := st.kp r1
  by_cases hlt : i < ds.length
  · refine .inr ⟨iw.go i H' hlt kp, fun σ2 H2 => (m - 1) + (i + 1) = ds.length ∧ ∃ as2 ρ2, RM X.K j C S0 He A0 a as2 ρ2 σ2 H2 ∧ StM j a as ρ σ H1 as2 ρ2 σ2 H2 ∧ WantM X.K X.mg W j C S0 He A0 a as2 ρ2 σ2 H2 Dd (forM j gt f (ds.drop (i + 1)) ρ2), fun σ2 H2 z => ⟨m - 1, by omega, z⟩, fun x H2 y => ?_⟩
    obtain ⟨s2, d, hd, hr⟩ := iw.yld i H' x H2 hlt kp y
    have hr2 := hr (Fb (S1 S0 a as') (ρ'.set j none) σ') fun y z => by
      rcases z with (z | z) | z
      · exact .inl (.inl (.inl z))
      · exact (st.own y (.inr z)).elim (fun z => z.elim (fun z => .inl (.inr z)) fun z => .inl (.inl (.inr z))) .inr
      · exact (st.own y (.inl z)).elim (fun z => z.elim (fun z => .inl (.inr z)) fun z => .inl (.inl (.inr z))) .inr
    have hdrop : ds.drop i = d :: ds.drop (i + 1) := by
      rw [List.drop_eq_getElem_cons hlt]
      rw [List.getElem?_eq_getElem hlt] at hd
      cases hd; rfl
    rw [hdrop] at ww
    have ww1 : WantM X.K X.mg W j C S0 He A0 a as' ρ' σ' H' Dd ((mT j gt d ρ').fm j ρ' fun ρ1 => match f ρ1 with
      | .next ρ2 => forM j gt f (ds.drop (i + 1)) ρ2
      | .cont ρ2 => forM j gt f (ds.drop (i + 1)) ρ2
      | .brk ρ2 => .next ρ2
      | r => r) := ww
    cases eg : mT j gt d ρ' with
    | bad => rw [eg] at ww1; exact ww1.elim
    | exc c fs => exact absurd eg (gpl _ _ _ _)
    | ok ρ1 =>
      rw [eg] at ww1
      refine hg S0 He A0 a as' ρ' σ' H2 x d _ (rm.same s2) hr2 ⟨ρ1, eg, fun σ1 rm1 st1 => hb S0 He A0 a as' ρ1 σ1 H2 _ lc rm1 ?_⟩
      have stA : StM j a as' ρ' σ' H' as' ρ1 σ1 H2 := (StM.of_same s2).trans st1
      have stB : StM j a as ρ σ H1 as' ρ1 σ1 H2 := st.trans stA
      have ww2 := WantM.step stA ww1
      have ww3 : WantM X.K X.mg W j C S0 He A0 a as' ρ1 σ1 H2 Dd (match f ρ1 with
        | .next ρ2 => forM j gt f (ds.drop (i + 1)) ρ2
        | .cont ρ2 => forM j gt f (ds.drop (i + 1)) ρ2
        | .brk ρ2 => .next ρ2
        | r => r) := ww2
      cases ef : f ρ1 with
      | next ρ2 =>
        rw [ef] at ww3
        exact fun as3 σ3 H3 rl3 st3 => ⟨by omega, as3, ρ2, rl3, stB.trans st3, WantM.step st3 ww3⟩
      | cont ρ2 =>
        rw [ef] at ww3
        exact fun as3 σ3 H3 rl3 st3 => ⟨by omega, as3, ρ2, rl3, stB.trans st3, WantM.step st3 ww3⟩
      | brk ρ2 => rw [ef] at ww3; exact ww3
      | ret p o => rw [ef] at ww3; exact ww3
      | exc ρ2 c fs o => rw [ef] at ww3; exact ww3
      | bad => rw [ef] at ww3; exact ww3
  · have hi : i = ds.length := by omega
    subst hi
    refine .inl ⟨iw.stop H' kp, ?_⟩
    rw [List.drop_length] at ww
    exact ww as' σ' H' rm StM.refl
/-! ### self.f[e1] = e2 -/
theorem kpF {F : Addr → Prop} {H : Hp} {a : Addr} {o : HO} (h : F a) (nt : (∀ xs, H a ≠ some (.tup xs)) ∧ ∀ ob u, H a ≠ some (.frz ob u)) : Kp F H (upd H a o) := fun b o' e c => by
  by_cases hb : b = a
  · subst hb
    rcases c h with ⟨xs, z⟩ | ⟨ob, u, z⟩
    · subst z; exact absurd e (nt.1 xs)
    · subst z; exact absurd e (nt.2 ob u)
  · rw [upd_ne hb]; exact e
theorem put_top {K : PySem.W.Frag} {F : Addr → Prop} {H : Hp} {a : Addr} {d d' kd z : D} {kv zv : V} {Q : Hp → Prop} (tp : Top K F H a d) (hFa : F a) (hk : RepE K F H kd kv) (hz : Rep K F H z zv) (ep : putD d kd z = some d') (fin : ∀ o, Top K F (upd H a o) a d' → Q (upd H a o)) : rSetX (.ref a) kv zv H Q := by
  have nt := tp.kind
  have kp : ∀ o, Kp F H (upd H a o) := fun o => kpF hFa ⟨nt.1, nt.2.1⟩
  have mono : ∀ o {ds vs}, Reps K F H ds vs → Reps K F (upd H a o) ds vs := fun o ds vs r => Reps.mono (kp o) (fun _ z => .inl z) _ _ r
  unfold putD at ep
  split at ep
  · rename_i ds
    split at ep
    · rename_i jj
      obtain ⟨xs, hx, rs⟩ := tp
      cases en : ixN ds.length jj with
      | none => rw [en] at ep; cases ep
      | some n =>
        rw [en] at ep
        cases ep
        exact .inl ⟨a, xs, jj, n, rfl, hk.int, hx, by rw [rs.length]; exact en, fin _ ⟨_, upd_same, mono _ (rs.set hz)⟩⟩
    · cases ep
  · rename_i ks ds
    split at ep
    · rename_i key ek
      obtain ⟨kvs, hx, ekk, rs⟩ := tp
      by_cases hl : ks.length < sizeLine
      · rw [if_pos hl] at ep
        cases ep
        obtain ⟨m1, m2⟩ := putM_V (x := key) ekk rs hz
        have hlk : kvs.length < sizeLine := by rw [← ekk, List.length_map] at hl; exact hl
        have hkv := keyD_V hk ek
        exact .inr ⟨a, _, rfl, .inl ⟨kvs, key, hx, hkv, hlk, rfl⟩, fin _ ⟨_, upd_same, m1, mono _ m2⟩⟩
      · rw [if_neg hl] at ep; cases ep
    · cases ep
  · rename_i ks ds
    split at ep
    · rename_i xs
      split at ep
      · rename_i key ekey
        obtain ⟨kvs, hx, ekk, rs⟩ := tp
        by_cases hl : ks.length < sizeLine
        · rw [if_pos hl] at ep
          cases ep
          obtain ⟨m1, m2⟩ := putM_V (x := key) ekk rs hz
          have hlk : kvs.length < sizeLine := by rw [← ekk, List.length_map] at hl; exact hl
          obtain ⟨b, vs, eb, hb, rb⟩ := hk.tup
          have ev := keyDs_V rb ekey
          subst ev
          exact .inr ⟨a, _, rfl, .inr ⟨kvs, key, b, hx, eb, hb, hlk, rfl⟩, fin _ ⟨_, upd_same, m1, mono _ m2⟩⟩
        · rw [if_neg hl] at ep; cases ep
      · cases ep
    · cases ep
  · cases ep
def mPutF (j : Nat) (f : Str) (fk fe : Rho → R (D × Bool)) : Rho → FlM := fun ρ => (fe ρ).fm j ρ fun q => match ρ[j]? with
  | some (some (.obj C ns ds, false)) => match (ns.zip ds).lookup f with
    | some d => if cont d = true then (fk ρ).fm j ρ fun k => match putD d k.1 q.1 with
      | some d' => .next (ρ.set j (some (.obj C ns (setF f d' ns ds), false)))
      | none => .bad
      else .bad
    | none => .bad
  | _ => .bad
theorem sm_putF {fl : Str} (hu : X.A.units + 1 < cLine) (hN : X.N[j]? = some x) (hv : Vis X.env.scope x) (hd : (x == ("__debug__" : Str)) = false) (hcd : (x == ("__classdict__" : Str)) = false) (c : Cls X.K C) (hn : NoAttr X.K C fl) (hk : SFM X W j C e1 fe1) (he : SFM X W j C e2 fe2) (hc : isComp e2 = false)
    (ha : ∀ v, assign (.Subscript (.Attribute (.Name x p) fl apos) e1 tpos) X.env v = (do
      let ov ← holding [v] (eval (.Attribute (.Name x p) fl apos) X.env)
      let iv ← holding [v, ov] (eval e1 X.env)
      standAt tpos
      holding [v, ov, iv] (setItem ov iv v)
      release [v, ov, iv] [])) : SSM X W j C loc (.Assign [.Subscript (.Attribute (.Name x p) fl apos) e1 tpos] e2 pos) (mPutF j fl fe1 fe2) := by
  obtain ⟨t, q, h⟩ := he.ex
  obtain ⟨u, q', h'⟩ := hk.ex
  refine ⟨_, ps_asg q (pg_sub (pe_fld (pe_var hN hv hd hcd) rfl) q' (set_any hu) ha) (swapsSole_pl hc _ _) (by unfold swappedStores; rfl) rfl, fun S0 He A0 a as ρ σ H Dd _ r w => h S0 He A0 a as ρ σ H _ r (fm_want r w fun z v H1 s pf w1 => ?_)⟩
  obtain ⟨dx, fs, ds, h0, hi, fr⟩ := id r.ob
  have w2 : WantM X.K X.mg W j C S0 He A0 a as ρ σ H Dd (match ρ[j]? with
    | some (some (.obj C ns ds, false)) => match (ns.zip ds).lookup fl with
      | some d => if cont d = true then (fe1 ρ).fm j ρ fun k => match putD d k.1 z.1 with
        | some d' => .next (ρ.set j (some (.obj C ns (setF fl d' ns ds), false)))
        | none => .bad
        else .bad
      | none => .bad
    | _ => .bad) := w1
  rw [h0] at w2
  have w3 : WantM X.K X.mg W j C S0 He A0 a as ρ σ H Dd (match ((fs.map (·.1)).zip ds).lookup fl with
      | some d => if cont d = true then (fe1 ρ).fm j ρ fun k => match putD d k.1 z.1 with
        | some d' => .next (ρ.set j (some (.obj C (fs.map (·.1)) (setF fl d' (fs.map (·.1)) ds), false)))
        | none => .bad
        else .bad
      | none => .bad) := w2
  split at w3
  · rename_i d hl
    by_cases hcd' : cont d = true
    · rw [if_pos hcd'] at w3
      have r1 := r.same s
      obtain ⟨dx1, fs1, y1, g1, g2, g3, g4, _⟩ := r1.mutF (d' := d) h0 hl hcd'
      refine ⟨_, r.ref, a, C, dx1, fs1, _, rfl, g1, c, hn, g3, h' S0 He A0 a as ρ σ H1 _ r1 (fm_want r1 (WantM.step (StM.of_same s) w3) fun k kv H2 s2 pf2 w4 => ?_)⟩
      have r2 := r1.same s2
      have w5 : WantM X.K X.mg W j C S0 He A0 a as ρ σ H1 Dd (match putD d k.1 z.1 with
        | some d' => .next (ρ.set j (some (.obj C (fs.map (·.1)) (setF fl d' (fs.map (·.1)) ds), false)))
        | none => .bad) := w4
      cases ep : putD d k.1 z.1 with
      | none => rw [ep] at w5; exact w5.elim
      | some d' =>
        rw [ep] at w5
        obtain ⟨dx2, fs2, y2, k1, k2, k3, k4, k5⟩ := r2.mutF (d' := d') h0 hl hcd'
        have ey : y1 = y2 := by
          have e1 := s2 _ _ g1
          rw [k1] at e1
          cases e1
          rw [k3] at g3
          cases g3; rfl
        subst ey
        have hy : y1 ∈ a :: as := by
          obtain ⟨x', q1, q2, _⟩ := fr.at (List.nodup_cons.mp r.nd).2 hl hcd'
          have e1 : (some (HO.ins C dx fs)) = some (.ins C dx1 fs1) := (s _ _ hi).symm.trans g1
          cases e1
          rw [g3] at q1
          cases q1
          simp [q2]
        exact put_top (Q := fun H3 => Dd.nx σ H3) k4 (.inl (.inr hy)) (.inl pf2.1) (pf.1.same s2) ep fun o t => by
          obtain ⟨m1, m2⟩ := k5 o t
          exact w5 as σ _ m1 ((StM.of_same s2).trans m2)
    · rw [if_neg hcd'] at w3; exact w3.elim
  · exact w3.elim
/-! ### l.append(e), l a list of the frame's own -/
def mApp (j i : Nat) (fe : Rho → R (D × Bool)) : Rho → FlM := fun ρ => match ρ[i]? with
  | some (some (.lst ds, true)) => (fe ρ).fm j ρ fun q => if ds.length < sizeLine then .next (ρ.set i (some (.lst (ds ++ [q.1]), true))) else .bad
  | _ => .bad
theorem sm_app (hN : X.N[i]? = some x) (hv : Vis X.env.scope x) (hd : (x == ("__debug__" : Str)) = false) (hcd : (x == ("__classdict__" : Str)) = false) (he : SFM X W j C e fe) (hline : (apos.endLine == cpos.line) = true) (hij : i ≠ j) :
    SSM X W j C loc (.Expr (.Call (.Attribute (.Name x p) "append" apos) [e] [] cpos) pos) (mApp j i fe) := by
  have ns := he.ns
  obtain ⟨t, q, h⟩ := he.ex
  have hse : ∀ env, starEach [e] env = (false, eval e env) :: starEach [] env := fun env => star_of ns _ _
  refine ⟨_, ps_expr (pe_bm PySem.F.plainAttrs_list PySem.F.slot_list_append PySem.F.type_list_append mt_append (pe_var hN hv hd hcd) (pa_cons q pa_nil (hse _)) rfl
    (few_of (by simp [ns]) (by simp)) hline (hse _) rfl) rfl, fun S0 He A0 a as ρ σ H Dd _ r w => ?_⟩
  unfold mApp at w
  have hne : j ≠ i := fun z => hij z.symm
  split at w
  · rename_i ds hi
    have hi' : (ρ.set j none)[i]? = some (some (.lst ds, true)) := by rw [List.getElem?_set_ne hne]; exact hi
    obtain ⟨b, xs, ha, hx, rs⟩ := own_lst r.rl (Same.refl _) hi'
    refine ⟨_, ha, .inl ⟨rfl, xs, SqL.of hx⟩, h S0 He A0 a as ρ σ H _ r (fm_want r w fun q v H1 s pf w1 => ?_)⟩
    have w2 : WantM X.K X.mg W j C S0 He A0 a as ρ σ H Dd (if ds.length < sizeLine then .next (ρ.set i (some (.lst (ds ++ [q.1]), true))) else .bad) := w1
    by_cases hl : ds.length < sizeLine
    · rw [if_pos hl] at w2
      have hx1 := s _ _ hx
      refine ⟨b, xs, v, rfl, rfl, hx1, by rw [rs.length]; exact hl, ?_⟩
      have r1 := r.same s
      obtain ⟨r2, s2⟩ := r1.rl.mutL hi' ha hx1 (Reps.app (es := [q.1]) (ws := [v]) (rs.same s) ⟨v, [], rfl, pf.1, rfl⟩)
      have e : (ρ.set i (some (.lst (ds ++ [q.1]), true))).set j none = (ρ.set j none).set i (some (.lst (ds ++ [q.1]), true)) := List.set_comm _ _ hij
      obtain ⟨r3, s3⟩ := r1.step (ρ' := ρ.set i (some (.lst (ds ++ [q.1]), true))) (by rw [e]; exact r2) (by rw [e]; exact s2) (List.getElem?_set_ne hij) rfl fun y u e => by
        by_cases hy : y = b
        · exact ⟨_, by rw [hy, upd_same]⟩
        · exact ⟨u, by rw [upd_ne hy]; exact e⟩
      exact w2 as σ _ r3 ((StM.of_same s).trans s3)
    · rw [if_neg hl] at w2; exact w2.elim
  · exact w.elim
end
end VM
/-! VMj: methods that change their object, its making. -/
namespace VM
open PySem L2
inductive MR where
  | ok (p : D × Bool) (o : D)
  | exc (c : Str) (fs : List (Str × D)) (o : D)
  | bad
def spM (K : PySem.W.Frag) (mg : Str → Option Value) (C : Addr) (ar : Nat) (g : List D → MR) : Sp := fun vs H Q E => ∃ (S0 : Addr → Prop) (a : Addr) (as : List Addr) (dx : Addr) (fs : List (Str × V)) (ds args : List D) (us : List V),
  vs = .ref a :: us ∧ H a = some (.ins C dx fs) ∧ FR K (S1 S0 a as) H ds (fs.map (·.2)) as ∧ (a :: as).Nodup ∧ (∀ x, S0 x → ∃ o, H x = some o) ∧ (∀ x ∈ a :: as, ¬ S0 x) ∧ Reps K (S1 S0 a as) H args us ∧ args.length + 1 = ar ∧
  match g (.obj C (fs.map (·.1)) ds :: args) with
  | .ok p o => ∀ as' v H', RetO K C S0 H (a :: as) a as' o H' → PF K (S1 S0 a as') H p v H' → Q v H'
  | .exc c fs' o => ∀ as' cls dd H', RetO K C S0 H (a :: as) a as' o H' → ExIs K mg c fs' cls dd H' → E cls dd H'
  | .bad => False
/-- a method that changes its object -/
structure MMAt (P : Program) (w : World) (K : PySem.W.Frag) (mg : Str → Option Value) (base : Heap) (k : Nat) (C : Addr) (m : Str) (ar : Nat) (g : List D → MR) : Prop where
  ex : ∃ f fd ps, Meth K C m f ∧ Cls K C ∧ Binds K fd ps [] ∧ ps.length = ar ∧ FnOk P w K mg base (L2.CX P w) k f fd ps (spM K mg C ar g)
/-- a class whose objects are made -/
structure MkAt (P : Program) (w : World) (K : PySem.W.Frag) (mg : Str → Option Value) (base : Heap) (k : Nat) (C : Addr) (x : Str) (ar : Nat) (g : List D → MR) : Prop where
  ex : ∃ f fd ps, mg x = some (.ref C) ∧ Mk K C f ∧ Binds K fd ps [] ∧ ps.length = ar ∧ FnOk P w K mg base (L2.CX P w) k f fd ps (spM K mg C ar g)
def immA (ps : List (D × Bool)) : Bool := ps.all fun p => imm p.1
theorem pas_imm {K : PySem.W.Frag} {F O F' : Addr → Prop} {H : Hp} : ∀ {ps : List (D × Bool)} {vs : List V}, immA ps = true → PAs K F O H ps vs → Reps K F' H (ps.map (·.1)) vs
  | _, _, _, .nil => rfl
  | p :: ps, v :: vs, h, .cons r t => by
    unfold immA at h
    rw [List.all_cons, Bool.and_eq_true] at h
    refine ⟨v, vs, rfl, ?_, pas_imm h.2 t⟩
    unfold PA' at r
    split at r
    · obtain ⟨a, e, o, tp⟩ := r
      exact (imm_top h.1 tp).elim
    · exact Rep.imm _ _ h.1 r
section
variable {K : PySem.W.Frag} {j : Nat} {C : Addr} {S0 S' : Addr → Prop} {He H0 : Hp} {A0 : List Addr} {a : Addr} {as as' : List Addr} {ρ : Rho} {σ : L2.St} {H H' : Hp} {o : D}
theorem hl_none {x : Addr} (h : hl He A0 x = none) : x ∈ A0 ∨ He x = none := by
  unfold hl at h
  split at h
  · rename_i z; exact .inl z
  · exact .inr h
theorem hl_some {x : Addr} {u : HO} (n : x ∉ A0) (h : He x = some u) : hl He A0 x = some u := by
  unfold hl
  rw [if_neg n]; exact h
theorem hl_nil : hl He [] = He := by
  funext x
  unfold hl
  rw [if_neg (by simp)]
/-- behind a method's run -/
theorem RM.after (r : RM K j C S0 He A0 a as ρ σ H) (q : RetO K C (fun x => S0 x ∨ OwnA (ρ.set j none) σ x) H (a :: as) a as' o H') :
    RM K j C S0 He A0 a as' (ρ.set j (some (o, false))) σ H' ∧ StM j a as ρ σ H as' (ρ.set j (some (o, false))) σ H' := by
  obtain ⟨dx, fs, ds, h0, hi, fr⟩ := id r.ob
  obtain ⟨dx', fs', ds', eo, hi', fr'⟩ := id q.ob
  have jl : j < ρ.length := (List.getElem?_eq_some_iff.mp h0).1
  have e : (ρ.set j (some (o, false))).set j none = ρ.set j none := List.set_set ..
  have keepH : ∀ x u, H x = some u → x ∉ a :: as → H' x = some u := fun x u z n => q.keep x u (hl_some n z)
  have newA : ∀ x ∈ a :: as', x ∈ a :: as ∨ H x = none := fun x z => hl_none (q.new x z).1
  have kp : Kp (Fb (S1 S0 a as) (ρ.set j none) σ) H H' := fun y u z c => by
    by_cases hy : y ∈ a :: as
    · rcases c (.inl (.inr hy)) with ⟨xs, q⟩ | ⟨ob, u', q⟩
      · subst q; exact absurd z ((r.kinds y hy).1 xs)
      · subst q; exact absurd z ((r.kinds y hy).2 ob u')
    · exact keepH y u z hy
  have hf : ∀ y, Fb (S1 S0 a as') (ρ.set j none) σ y → Fb (S1 S0 a as) (ρ.set j none) σ y ∨ H y = none := fun y z => by
    rcases z with (z | z) | z
    · exact .inl (.inl (.inl z))
    · exact (newA y z).elim (fun z => .inl (.inl (.inr z))) .inr
    · exact .inl (.inr z)
  have sm : StM j a as ρ σ H as' (ρ.set j (some (o, false))) σ H' := ⟨fun y u z _ n => keepH y u z n, fun y z => by
    rw [e] at z
    rcases z with z | z
    · exact .inl (.inl z)
    · exact (newA y z).elim (fun z => .inl (.inr z)) .inr, q.dom⟩
  have there : ∀ y ∈ a :: as', ∃ u, H' y = some u := fun y z => by
    rcases List.mem_cons.mp z with z | z
    · exact ⟨_, by rw [z]; exact hi'⟩
    · obtain ⟨d, t⟩ := fr'.tops y z
      exact t.there
  refine ⟨⟨⟨dx', fs', ds', by rw [List.getElem?_set_self jl, eo], hi', fr'.less fun y z => ?_⟩, r.ref, q.nd, fun y hy => ?_, fun y u z => ?_, ?_⟩, sm⟩
  · rw [e] at z
    rcases z with (z | z) | z
    · exact .inl (.inl z)
    · exact .inr z
    · exact .inl (.inr z)
  · rcases newA y hy with z | z
    · exact r.new y z
    · refine ⟨?_, fun n => (q.new y hy).2 (.inl n)⟩
      unfold hl
      split
      · rfl
      · exact none_dom r.dom z
  · obtain ⟨u', z'⟩ := r.dom y u z
    exact q.dom y u' z'
  · rw [e]
    have kr := r.rl
    refine ⟨kr.len, fun y z => ?_, fun y u z => ?_, fun i d z => ?_, fun i d z => ?_, kr.sep⟩
    · rcases z with z | z
      · obtain ⟨u, z'⟩ := kr.s0 y (.inl z)
        exact q.dom y u z'
      · exact there y z
    · have hy : y ∉ a :: as := fun n => by rw [(r.new y n).1] at z; cases z
      exact keepH y u (kr.keep y u z) hy
    · obtain ⟨v, h5, h6⟩ := kr.clean i d z
      exact ⟨v, h5, h6.mono kp hf⟩
    · obtain ⟨b, h5, h6, h7⟩ := kr.own i d z
      refine ⟨b, h5, ⟨h6.1, fun z => ?_⟩, h7.mono kp hf fun u z => keepH b u z fun n => h6.2 (.inr n)⟩
      rcases z with z | z
      · exact h6.2 (.inl z)
      · rcases newA b z with z | z
        · exact h6.2 (.inr z)
        · obtain ⟨u, z'⟩ := h7.there
          rw [z] at z'; cases z'
theorem Rl.grow (r : Rl K S0 H0 ρ σ H) (s : Same H H') (hS : ∀ y, S' y → S0 y ∨ H y = none) (hS' : ∀ y, S' y → ∃ u, H' y = some u) : Rl K S' H0 ρ σ H' where
  len := r.len
  s0 := hS'
  keep := r.keep.trans s
  clean := fun i d z => by
    obtain ⟨v, h5, h6⟩ := r.clean i d z
    exact ⟨v, h5, h6.mono (Kp.of_same s) fun y z => z.elim (fun z => (hS y z).elim (fun z => .inl (.inl z)) .inr) fun z => .inl (.inr z)⟩
  own := fun i d z => by
    obtain ⟨b, h5, h6, h7⟩ := r.own i d z
    refine ⟨b, h5, ⟨h6.1, fun z => ?_⟩, h7.mono (Kp.of_same s) (fun y z => z.elim (fun z => (hS y z).elim (fun z => .inl (.inl z)) .inr) fun z => .inl (.inr z)) fun u z => s b u z⟩
    rcases hS b z with z | z
    · exact h6.2 z
    · obtain ⟨u, z'⟩ := h7.there
      rw [z] at z'; cases z'
  sep := r.sep
theorem Rl.shrink (r : Rl K S0 H0 ρ σ H) (hS : ∀ y, S' y → S0 y) : Rl K S' H0 ρ σ H := r.grow (Same.refl _) (fun y z => .inl (hS y z)) fun y z => r.s0 y (hS y z)
end
/-! ### x.m(e, ..), a statement -/
def mCall (j : Nat) (C : Addr) (m : Str) (g : List D → MR) (fx : Rho → R (List (D × Bool))) : Rho → FlM := fun ρ => match ρ[j]? with
  | some (some (.obj C' ns ds, false)) => if C' = C ∧ ns.contains m = false then (fx ρ).fm j ρ fun ps => if immA ps = true then (match g (.obj C' ns ds :: ps.map (·.1)) with
    | .ok _ o => .next (ρ.set j (some (o, false)))
    | _ => .bad) else .bad
    else .bad
  | _ => .bad
section
variable {X : Cx} {W : WX} {j : Nat} {C : Addr} {loc : Bool} {e : Expr} {es : List Expr} {fx : Rho → R (List (D × Bool))} {st : Stmt} {sts : List Stmt} {g : List D → MR} {kk : Rho → FlM} {pos p p2 tpos apos cpos : Pos} {i k ar : Nat} {x y m : Str}
theorem sm_call (hN : X.N[j]? = some x) (hv : Vis X.env.scope x) (hd : (x == ("__debug__" : Str)) = false) (hcd : (x == ("__classdict__" : Str)) = false) (M : MMAt X.prog X.w X.K X.mg X.base k C m ar g) (hr : Room k X.A) (hf : SX X W (e :: es) fx) (hl : (e :: es).length + 1 = ar) (hfew : (e :: es).length < 30) (hline : (apos.endLine == cpos.line) = true) :
    SSM X W j C loc (.Expr (.Call (.Attribute (.Name x p) m apos) (e :: es) [] cpos) pos) (mCall j C m g fx) := by
  have ns := hf.ns
  have hfl := hf.len
  rw [List.all_cons, Bool.and_eq_true] at ns
  have n1 : isStar e = false := by simpa using ns.1
  obtain ⟨t, pa, hf⟩ := hf.ex
  obtain ⟨fn, fd, ps, hm, hc, hb, hps, F⟩ := M.ex
  have pmeth := pe_meth (X := X) (E := fun _ _ _ => False) (pe_var (pos := p) hN hv hd hcd) hc hm F hr hb .nil (by
    rintro pins σ H s u s' I ⟨_, _, _, _, _, _, _, _, _, _, _, _, z⟩
    exact z.elim) pa (star_of n1 _ _) (noStarBack ns.2) (mcall (cpos := cpos) (apos := apos) rfl (by rw [List.all_cons, ns.1, ns.2]; rfl) hfew hline)
  refine ⟨_, ps_expr pmeth (swapsWith_pl rfl _ _ _), fun S0 He A0 a as ρ σ H Dd _ r w => ?_⟩
  obtain ⟨dx, fs, ds, h0, hi, fr⟩ := id r.ob
  unfold mCall at w
  rw [h0] at w
  have w0 : WantM X.K X.mg W j C S0 He A0 a as ρ σ H Dd (if C = C ∧ (fs.map (·.1)).contains m = false then (fx ρ).fm j ρ fun ps => if immA ps = true then (match g (.obj C (fs.map (·.1)) ds :: ps.map (·.1)) with
    | .ok _ o => .next (ρ.set j (some (o, false)))
    | _ => .bad) else .bad
    else .bad) := w
  by_cases hc' : C = C ∧ (fs.map (·.1)).contains m = false
  · rw [if_pos hc'] at w0
    refine ⟨_, r.ref, a, dx, fs, rfl, hi, fld_none hc'.2, hf S0 _ ρ σ H _ r.view ?_⟩
    cases hfr : fx ρ with
    | bad => rw [hfr] at w0; exact w0.elim
    | exc c fs' =>
      rw [hfr] at w0
      have w1 : WantM X.K X.mg W j C S0 He A0 a as ρ σ H Dd (match ρ[j]? with
        | some (some (o, _)) => .exc ρ c fs' o
        | _ => .bad) := w0
      rw [h0] at w1
      exact fun cls dd H' s e => w1 as cls dd σ H' (r.same s) h0 (StM.of_same s) e
    | ok ps' =>
      rw [hfr] at w0
      have w1 : WantM X.K X.mg W j C S0 He A0 a as ρ σ H Dd (if immA ps' = true then (match g (.obj C (fs.map (·.1)) ds :: ps'.map (·.1)) with
        | .ok _ o => .next (ρ.set j (some (o, false)))
        | _ => .bad) else .bad) := w0
      by_cases hps : immA ps' = true
      · rw [if_pos hps] at w1
        intro vs H1 s q1
        have r1 := r.same s
        have hlen : (ps'.map (·.1)).length = (e :: es).length := by rw [List.length_map, hfl ρ ps' hfr]
        refine ⟨fun x => S0 x ∨ OwnA (ρ.set j none) σ x, a, as, dx, fs, ds, ps'.map (·.1), vs, by rw [List.append_nil], s _ _ hi, (fr.same s).less fun y z => ?_, r.nd, fun y z => ?_, fun y hy z => ?_, pas_imm hps q1, by rw [hlen]; exact hl, ?_⟩
        · rcases z with (z | z) | z
          · exact .inl (.inl z)
          · exact .inr z
          · exact .inl (.inr z)
        · exact z.elim (fun z => r1.rl.s0 y (.inl z)) fun z => r1.rl.fbH (.inr z)
        · exact z.elim (r.new y hy).2 (r.notO y hy)
        · cases hg : g (.obj C (fs.map (·.1)) ds :: ps'.map (·.1)) with
          | bad => rw [hg] at w1; exact w1.elim
          | exc c fs' o => rw [hg] at w1; exact w1.elim
          | ok p o =>
            rw [hg] at w1
            intro as' v H' ro _
            obtain ⟨r2, s2⟩ := r1.after ro
            exact w1 as' σ H' r2 ((StM.of_same s).trans s2)
      · rw [if_neg hps] at w1; exact w1.elim
  · rw [if_neg hc'] at w0; exact w0.elim
/-! ### x = C(e, ..), then the rest -/
def FlM.toFl (j : Nat) : FlM → Fl
  | .next ρ => .next (ρ.set j none)
  | .ret p _ => .ret p
  | .brk ρ => .brk (ρ.set j none)
  | .cont ρ => .cont (ρ.set j none)
  | .exc ρ c fs _ => .exc (ρ.set j none) c fs
  | .bad => .bad
def sMake (j : Nat) (C : Addr) (g : List D → MR) (fx : Rho → R (List (D × Bool))) (k : Rho → FlM) : Rho → Fl := fun ρ => (fx ρ).fl ρ fun ps => if immA ps = true ∧ j < ρ.length then (match g (.obj C [] [] :: ps.map (·.1)) with
    | .ok (.non, _) o => (k (ρ.set j (some (o, false)))).toFl j
    | _ => .bad) else .bad
theorem sss_make (hnd : X.N.Nodup) (hN : X.N[j]? = some x) (hx : Loc X.env.scope x) (hfn : X.fn x = true ∨ X.env.scope.names.lookup x = some .local) (M : MkAt X.prog X.w X.K X.mg X.base k C y ar g) (hr : Room (k + 1) X.A) (hg : Gl X y) (hdb : (y == ("__debug__" : Str)) = false)
    (hf : SX X W (e :: es) fx) (hl : (e :: es).length + 1 = ar) (hk : SSsM X W j C true sts kk) :
    SSs X W (.Assign [.Name x p] (.Call (.Name y p2) (e :: es) [] cpos) pos :: sts) (sMake j C g fx kk) := by
  have ns := hf.ns
  have hfl := hf.len
  rw [List.all_cons, Bool.and_eq_true] at ns
  have n1 : isStar e = false := by simpa using ns.1
  obtain ⟨t, pa, hf⟩ := hf.ex
  obtain ⟨fn, fd, ps, hm, mk, hb, hps, F⟩ := M.ex
  obtain ⟨u, pk, hk⟩ := hk.ex
  have pmk := pe_make (X := X) (E := fun _ _ _ => False) (p := p2) (pos := cpos) mk F hr hg hm hb .nil (by
    rintro pins σ H s u s' I ⟨_, _, _, _, _, _, _, _, _, _, _, _, z⟩
    exact z.elim) pa hdb (star_of n1 _ _) (noStarBack ns.2)
  refine ⟨_, pss_cons (ps_set hnd hN hx pmk (swapsWith_pl rfl _ _ _) hfn) pk, fun S0 H0 ρ σ H Dd r w => hf S0 H0 ρ σ H _ r ?_⟩
  unfold sMake at w
  cases hfr : fx ρ with
  | bad => rw [hfr] at w; exact w.elim
  | exc c fs' =>
    rw [hfr] at w
    exact fun cls dd H' s e => w cls dd σ H' (r.same s) (Stp.of_same s) e
  | ok ps' =>
    rw [hfr] at w
    have w1 : WantS X.K X.mg W S0 H0 ρ σ H Dd (if immA ps' = true ∧ j < ρ.length then (match g (.obj C [] [] :: ps'.map (·.1)) with
      | .ok (.non, _) o => (kk (ρ.set j (some (o, false)))).toFl j
      | _ => .bad) else .bad) := w
    by_cases hps : immA ps' = true ∧ j < ρ.length
    · rw [if_pos hps] at w1
      obtain ⟨hps, jl⟩ := hps
      intro vs H1 s q1 a dx na ndx nad
      have r1 := r.same s
      have hlen : (ps'.map (·.1)).length = (e :: es).length := by rw [List.length_map, hfl ρ ps' hfr]
      have s2 : Same H1 (upd (upd H1 dx (.own a)) a (.ins C dx [])) := fun y u z => by
        rw [upd_ne (ne_of_none z na), upd_ne (ne_of_none z ndx)]; exact z
      have s12 := s.trans s2
      have nH : H a = none := by
        cases z : H a with
        | none => rfl
        | some u => have := s _ _ z; rw [na] at this; cases this
      refine ⟨Fb S0 ρ σ, a, [], dx, [], [], ps'.map (·.1), vs, by rw [List.append_nil], upd_same, ⟨rfl, rfl⟩, by simp, fun y z => ?_, fun y hy z => ?_, Reps.same s2 (pas_imm hps q1), by rw [hlen]; exact hl, ?_⟩
      · obtain ⟨u, z'⟩ := r1.fbH z
        exact ⟨u, s2 _ _ z'⟩
      · rw [List.mem_singleton.mp hy] at z
        obtain ⟨u, z'⟩ := r.fbH z
        rw [nH] at z'; cases z'
      · show match g (.obj C [] [] :: ps'.map (·.1)) with
          | .ok p o => _
          | .exc c fs' o => _
          | .bad => False
        cases hgg : g (.obj C [] [] :: ps'.map (·.1)) with
        | bad => rw [hgg] at w1; exact w1.elim
        | exc c fs' o => rw [hgg] at w1; exact w1.elim
        | ok p o =>
          rw [hgg] at w1
          intro as' v H' ro pf
          obtain ⟨d, b⟩ := p
          cases d with
          | non =>
            have ev : v = .non := pf.1
            subst ev
            refine ⟨rfl, ?_⟩
            have w2 : WantS X.K X.mg W S0 H0 ρ σ H Dd ((kk (ρ.set j (some (o, false)))).toFl j) := w1
            -- the heap behind the making
            have sH : Same H H' := fun y u z => by
              have hy : y ∉ [a] := fun n => by rw [List.mem_singleton.mp n, nH] at z; cases z
              exact ro.keep y u (hl_some hy (s12 _ _ z))
            have newA : ∀ y ∈ a :: as', H y = none := fun y hy => by
              rcases hl_none (ro.new y hy).1 with z | z
              · rw [List.mem_singleton.mp z]; exact nH
              · cases q : H y with
                | none => rfl
                | some u => rw [s12 _ _ q] at z; cases z
            obtain ⟨dx', fs', ds', eo, hi', fr'⟩ := id ro.ob
            have jl' : j < σ.length := by rw [← r.len]; exact jl
            have e0 : (ρ.set j (some (o, false))).set j none = ρ.set j none := List.set_set ..
            have ownB : ∀ y, OwnA (ρ.set j none) (σ.set j (some (.ref a))) y → OwnA ρ σ y := fun y z => by
              rcases ownA_set z with ⟨z, _⟩ | ⟨⟨_, z⟩, _⟩
              · exact z
              · cases z
            have rl' : Rl X.K (S1 S0 a as') H0 (ρ.set j none) (σ.set j (some (.ref a))) H' := (r.setN (some (.ref a))).grow sH (fun y z => z.elim .inl fun z => .inr (newA y z)) fun y z => by
              rcases z with z | z
              · obtain ⟨u, z'⟩ := r.s0 y z
                exact ⟨u, sH _ _ z'⟩
              · rcases List.mem_cons.mp z with z | z
                · exact ⟨_, by rw [z]; exact hi'⟩
                · obtain ⟨d, t⟩ := fr'.tops y z
                  exact t.there
            have rm : RM X.K j C S0 H0 [] a as' (ρ.set j (some (o, false))) (σ.set j (some (.ref a))) H' := by
              refine ⟨⟨dx', fs', ds', by rw [List.getElem?_set_self jl, eo], hi', fr'.less fun y z => ?_⟩, List.getElem?_set_self jl', ro.nd, fun y hy => ⟨?_, fun z => (ro.new y hy).2 (.inl z)⟩, fun y u z => ⟨u, sH _ _ (r.keep y u z)⟩, by rw [e0, hl_nil]; exact rl'⟩
              · rw [e0] at z
                rcases z with (z | z) | z
                · exact .inl (.inl z)
                · exact .inr z
                · exact .inl (.inr (ownB y z))
              · rw [hl_nil]
                cases q : H0 y with
                | none => rfl
                | some u =>
                  have := r.keep y u q
                  rw [newA y hy] at this; cases this
            have back : ∀ {as3 ρ3 σ3 H3}, RM X.K j C S0 H0 [] a as3 ρ3 σ3 H3 → StM j a as' (ρ.set j (some (o, false))) (σ.set j (some (.ref a))) H' as3 ρ3 σ3 H3 → Rl X.K S0 H0 (ρ3.set j none) σ3 H3 ∧ Stp ρ σ H (ρ3.set j none) σ3 H3 := fun {as3 ρ3 σ3 H3} rm3 st3 => by
              refine ⟨by have := rm3.rl; rw [hl_nil] at this; exact this.shrink fun y z => .inl z, fun y u z n => ?_, fun y z => ?_⟩
              · refine st3.keep y u (sH _ _ z) (fun q => n ?_) fun q => ?_
                · rw [e0] at q; exact ownB y q
                · rw [newA y q] at z; cases z
              · rcases st3.own y (.inl z) with (q | q) | q
                · rw [e0] at q; exact .inl (ownB y q)
                · exact .inr (newA y q)
                · refine .inr ?_
                  cases z : H y with
                  | none => rfl
                  | some u => rw [sH _ _ z] at q; cases q
            refine hk S0 H0 [] a as' _ _ H' Dd (fun _ => rfl) rm ?_
            cases hkk : kk (ρ.set j (some (o, false))) with
            | next ρ3 =>
              rw [hkk] at w2
              exact fun as3 σ3 H3 rm3 st3 => let ⟨p, q⟩ := back rm3 st3; w2 σ3 H3 p q
            | brk ρ3 =>
              rw [hkk] at w2
              exact fun as3 σ3 H3 rm3 st3 => let ⟨p, q⟩ := back rm3 st3; w2 σ3 H3 p q
            | cont ρ3 =>
              rw [hkk] at w2
              exact fun as3 σ3 H3 rm3 st3 => let ⟨p, q⟩ := back rm3 st3; w2 σ3 H3 p q
            | ret p o3 =>
              rw [hkk] at w2
              refine fun as3 v3 H3 ro3 pf3 => w2 v3 H3 (by have := ro3.keep; rw [hl_nil] at this; exact this) ⟨pf3.1.less fun y z => .inl z, fun z => ?_⟩
              obtain ⟨y, ev, n, t⟩ := pf3.2 z
              exact ⟨y, ev, n, t.mono (Kp.of_same (Same.refl _)) (fun b z => .inl (z.elim (fun z => .inl (.inl z)) .inr)) fun _ z => z⟩
            | exc ρ3 c fs3 o3 =>
              rw [hkk] at w2
              exact fun as3 cls dd σ3 H3 rm3 _ st3 ex => let ⟨p, q⟩ := back rm3 st3; w2 cls dd σ3 H3 p q ex
            | bad => rw [hkk] at w2; exact w2.elim
          | _ => exact (show False from w1).elim
    · rw [if_neg hps] at w1; exact w1.elim
end
end VM
/-! VMl: from the text to the functions: methods that change their object, defs that make one. -/
namespace VM
open PySem L2
structure CM where
  cc : CC
  mms : List (Str × Nat × (List D → MR))
  mks : List (Str × Nat × (List D → MR))
structure CtxM (cm : CM) (k : Nat) (S : SC) (X : Cx) (W : WX) : Prop where
  s : CtxS cm.cc k S X W
  mms : ∀ m ar g, cm.mms.lookup m = some (ar, g) → MMAt X.prog X.w X.K X.mg X.base k cm.cc.oc m ar g
  mks : ∀ y ar g, cm.mks.lookup y = some (ar, g) → MkAt X.prog X.w X.K X.mg X.base k cm.cc.oc y ar g
section
variable {cm : CM} {cc : CC} {k : Nat} {S : SC} {X : Cx} {W : WX} {r : Rec} {j : Nat} {C : Addr} {loc : Bool}
def cIM (cc : CC) (r : Rec) (S : SC) (tg it : Expr) : Option (Rho → R (List D)) := match it with
  | .Call (.Name x _) args [] _ =>
    if glB S x = true then
      match cc.fns.lookup x with
      | some _ => (r.E S it).map fun f => bIt (saf f)
      | none => if x = "zip" then match args with
          | [e1, e2] => if isTupE tg = true then mk2 (fun a b => bZip (saf a) (saf b)) (r.E S e1) (r.E S e2) else none
          | _ => none
        else none
    else none
  | _ => if isSet it = true then none else (r.E S it).map fun f => bIt (saf f)
theorem cIM_ok (c : Ctx cc k S X W) (ok : RecOk cc k r) {tg it : Expr} {f : Rho → R (List D)} (h : cIM cc r S tg it = some f) : SIM X W j C tg it f := by
  unfold cIM at h
  split at h
  · rename_i x p args pos
    split at h
    · rename_i hg
      obtain ⟨gl, hd⟩ := glB_ok c hg
      split at h
      · obtain ⟨g, h1, h2⟩ := Option.map_eq_some_iff.mp h
        subst h2
        exact sim_any (sfm (ok.E _ _ _ _ _ c h1)) rfl
      · by_cases e3 : x = "zip"
        · rw [if_pos e3] at h
          subst e3
          split at h
          · split at h
            · rename_i ht
              obtain ⟨g1, g2, h1, h2, h3⟩ := mk2_ok h
              subst h3
              cases tg <;> first | exact sim_zip gl (c.blt _ (by decide +kernel)) (sfm (ok.E _ _ _ _ _ c h1)) (sfm (ok.E _ _ _ _ _ c h2)) | exact Bool.noConfusion ht
            · cases h
          · cases h
        · rw [if_neg e3] at h; cases h
    · cases h
  · by_cases e : isSet it = true
    · rw [if_pos e] at h; cases h
    · rw [if_neg e] at h
      obtain ⟨g, h1, h2⟩ := Option.map_eq_some_iff.mp h
      subst h2
      exact sim_any (sfm (ok.E _ _ _ _ _ c h1)) (by simpa using e)
theorem assign_subF {x : Str} {f : Str} {p apos tpos : Pos} {e : Expr} {env : PySem.Env} (h : plainSub e = true) (v : Value) : assign (.Subscript (.Attribute (.Name x p) f apos) e tpos) env v = (do
      let ov ← holding [v] (eval (.Attribute (.Name x p) f apos) env)
      let iv ← holding [v, ov] (eval e env)
      standAt tpos
      holding [v, ov, iv] (setItem ov iv v)
      release [v, ov, iv] []) := by
  cases e <;> first | rfl | exact Bool.noConfusion (show false = true from h)
/-- a statement, the object at slot j -/
def cSM (cm : CM) (r : Rec) (S : SC) (j : Nat) (loc : Bool) (rs : List Stmt → Option (Rho → FlM)) (st : Stmt) : Option (Rho → FlM) := match st with
  | .Pass _ => some mNop
  | .Break _ => some .brk
  | .Continue _ => some .cont
  | .Return none _ => some (mRetN j)
  | .Return (some e) _ => match e with
    | .Name x _ => match cVar cm.cc S x with
      | some i => if i = j then none else some (mRetV j loc i)
      | none => none
    | e => (r.E S e).map fun f => mRet j (saf f)
  | .If c a b _ => mk3 (mIf j) (r.T S c) (rs a) (rs b)
  | .For tg it body [] _ => match cIM cm.cc r S tg it, cG cm.cc S 3 tg, rs body with
    | some fi, some (ix, g), some f => if ix.contains j = true then none else some (mFor j fi g f)
    | _, _, _ => none
  | .Assign [.Name x _] e _ => if stoB S x = true ∧ isComp e = false then match ixOf cm.cc.N x, r.E S e with
    | some i, some f => if i = j then none else some (mSet j i (cm.cc.muts.contains i) (saf f))
    | _, _ => none
    else none
  | .Assign [.Tuple ts kt pt] e _ => if isComp e = true ∨ isTup e = true then none else match cG cm.cc S 3 (.Tuple ts kt pt), r.E S e with
    | some (ix, g), some f => if ix.contains j = true then none else some (mAsg j g (saf f))
    | _, _ => none
  | .Assign [.Attribute (.Name x _) f _] e _ => if cVar cm.cc S x = some j ∧ cm.cc.oflds.contains f = true ∧ isComp e = false then (r.E S e).map fun h => mFld j f (saf h) else none
  | .Assign [.Subscript (.Attribute (.Name x _) f _) e1 _] e2 _ => if cVar cm.cc S x = some j ∧ cm.cc.oflds.contains f = true ∧ isComp e2 = false ∧ plainSub e1 = true then mk2 (fun f1 f2 => mPutF j f (saf f1) (saf f2)) (r.E S e1) (r.E S e2) else none
  | .Expr (.Call (.Attribute (.Name x _) m apos) (e :: es) [] cpos) _ => if (apos.endLine == cpos.line) = true then (match cVar cm.cc S x with
    | some i => if i = j then (match cm.mms.lookup m with
      | some (ar, g) => if (e :: es).length + 1 = ar ∧ (e :: es).length < 30 then (cX cm.cc r S (e :: es)).map fun fx => mCall j cm.cc.oc m g fx else none
      | none => none)
      else if m = "append" ∧ es.isEmpty = true then (r.E S e).map fun f => mApp j i (saf f) else none
    | none => none) else none
  | _ => none
theorem cSM_ok {rs : List Stmt → Option (Rho → FlM)} (ok : RecOk cm.cc k r) (hrs : ∀ st f, rs st = some f → SSsM X W j cm.cc.oc loc st f) (c : CtxM cm k S X W) {st : Stmt} {f : Rho → FlM} (h : cSM cm r S j loc rs st = some f) : SSM X W j cm.cc.oc loc st f := by
  have cc := c.s.c
  have nd : X.N.Nodup := by rw [cc.N]; exact cc.nd
  have nin : ∀ {ix : List Nat}, ¬ (ix.contains j = true) → j ∉ ix := fun {ix} q z => q (by simpa using z)
  unfold cSM at h
  split at h
  · cases h; exact sm_pass
  · cases h; exact sm_brk
  · cases h; exact sm_cont
  · cases h; exact sm_retN
  · rename_i e pos
    split at h
    · rename_i x p
      split at h
      · rename_i i hi
        by_cases q : i = j
        · rw [if_pos q] at h; cases h
        · rw [if_neg q] at h
          cases h
          obtain ⟨h1, h2, h3, h4⟩ := cVar_ok cc hi
          exact sm_retV h1 h2 h3 h4 q
      · cases h
    · obtain ⟨g, h1, h2⟩ := Option.map_eq_some_iff.mp h
      subst h2
      exact sm_ret (sfm (ok.E _ _ _ _ _ cc h1))
  · obtain ⟨x, y, z, k1, k2, k3, k4⟩ := mk3_ok h
    subst k4
    exact sm_if (ok.T _ _ _ _ _ cc k1) (hrs _ _ k2) (hrs _ _ k3)
  · split at h
    · rename_i fi ix g f' h1 h2 h3
      by_cases q : ix.contains j = true
      · rw [if_pos q] at h; cases h
      · rw [if_neg q] at h
        cases h
        exact sm_for c.s.passes cc.calm (cIM_ok cc ok h1) (cG_ok cc h2) (nin q) (hrs _ _ h3)
    · cases h
  · rename_i x p e pos
    by_cases q : stoB S x = true ∧ isComp e = false
    · rw [if_pos q] at h
      obtain ⟨s1, s2⟩ := stoB_ok cc q.1
      split at h
      · rename_i i f' hi hf
        by_cases q2 : i = j
        · rw [if_pos q2] at h; cases h
        · rw [if_neg q2] at h
          cases h
          exact sm_set nd (by rw [cc.N]; exact ixOf_ok hi) s1 (sfm (ok.E _ _ _ _ _ cc hf)) (swapsWith_pl q.2 _ _ _) s2 q2
      · cases h
    · rw [if_neg q] at h; cases h
  · rename_i ts kt pt e pos
    split at h
    · cases h
    · rename_i hc
      have q1 : isComp e = false := by
        cases h : isComp e with
        | true => exact absurd (.inl h) hc
        | false => rfl
      have q2 : isTup e = false := by
        cases h : isTup e with
        | true => exact absurd (.inr h) hc
        | false => rfl
      split at h
      · rename_i ix g f' h1 h2
        by_cases q : ix.contains j = true
        · rw [if_pos q] at h; cases h
        · rw [if_neg q] at h
          cases h
          exact sm_asg (cG_ok cc h1) (nin q) rfl (sfm (ok.E _ _ _ _ _ cc h2)) q1 q2
      · cases h
  · rename_i x p f' p2 e pos
    by_cases q : cVar cm.cc S x = some j ∧ cm.cc.oflds.contains f' = true ∧ isComp e = false
    · rw [if_pos q] at h
      obtain ⟨g, h1, h2⟩ := Option.map_eq_some_iff.mp h
      subst h2
      obtain ⟨k1, k2, k3, k4⟩ := cVar_ok cc q.1
      obtain ⟨f1, f2⟩ := cc.flds _ q.2.1
      exact sm_fld k1 k2 k3 k4 f1 f2 (sfm (ok.E _ _ _ _ _ cc h1)) q.2.2
    · rw [if_neg q] at h; cases h
  · rename_i x p f' p2 e1 tpos e2 pos
    by_cases q : cVar cm.cc S x = some j ∧ cm.cc.oflds.contains f' = true ∧ isComp e2 = false ∧ plainSub e1 = true
    · rw [if_pos q] at h
      obtain ⟨g1, g2, h1, h2, h3⟩ := mk2_ok h
      subst h3
      obtain ⟨k1, k2, k3, k4⟩ := cVar_ok cc q.1
      obtain ⟨f1, f2⟩ := cc.flds _ q.2.1
      exact sm_putF (by have := units65 cc; omega) k1 k2 k3 k4 f1 f2 (sfm (ok.E _ _ _ _ _ cc h1)) (sfm (ok.E _ _ _ _ _ cc h2)) q.2.2.1 (assign_subF q.2.2.2)
    · rw [if_neg q] at h; cases h
  · rename_i x p m apos e es cpos pos
    split at h
    · rename_i hline
      split at h
      · rename_i i hi
        obtain ⟨k1, k2, k3, k4⟩ := cVar_ok cc hi
        by_cases q : i = j
        · rw [if_pos q] at h
          subst q
          split at h
          · rename_i ar g hm
            by_cases q2 : (e :: es).length + 1 = ar ∧ (e :: es).length < 30
            · rw [if_pos q2] at h
              obtain ⟨fx, h1, h2⟩ := Option.map_eq_some_iff.mp h
              subst h2
              exact sm_call k1 k2 k3 k4 (c.mms _ _ _ hm) (cc.room.mono (Nat.le_succ k)) (cX_ok cc ok h1) q2.1 q2.2 hline
            · rw [if_neg q2] at h; cases h
          · cases h
        · rw [if_neg q] at h
          by_cases q2 : m = "append" ∧ es.isEmpty = true
          · rw [if_pos q2] at h
            obtain ⟨g, h1, h2⟩ := Option.map_eq_some_iff.mp h
            subst h2
            obtain ⟨e1, e2⟩ := q2
            subst e1
            have e5 : es = [] := List.isEmpty_iff.mp e2
            subst e5
            exact sm_app k1 k2 k3 k4 (sfm (ok.E _ _ _ _ _ cc h1)) hline q
          · rw [if_neg q2] at h; cases h
      · cases h
    · cases h
  · cases h
def cSsM (cm : CM) (r : Rec) (S : SC) (j : Nat) (loc : Bool) : Nat → List Stmt → Option (Rho → FlM)
  | 0, _ => none
  | n + 1, sts => sts.foldr (fun st acc => mk2 mSeq (cSM cm r S j loc (cSsM cm r S j loc n) st) acc) (some mNop)
theorem cSsM_ok (ok : RecOk cm.cc k r) (c : CtxM cm k S X W) : ∀ (n : Nat) (sts : List Stmt) (f : Rho → FlM), cSsM cm r S j loc n sts = some f → SSsM X W j cm.cc.oc loc sts f
  | 0, sts, f, h => by cases h
  | n + 1, sts, f, h => by
    unfold cSsM at h
    induction sts generalizing f with
    | nil => cases h; exact sm_nil
    | cons st sts ih =>
      rw [List.foldr_cons] at h
      obtain ⟨x, y, h1, h2, h3⟩ := mk2_ok h
      subst h3
      exact sm_cons (cSM_ok ok (fun st f h => cSsM_ok ok c n st f h) c h1) (ih y h2)
/-- a block that makes its object -/
def cSsK (cm : CM) (r : Rec) (S : SC) (n : Nat) : List Stmt → Option (Rho → Fl)
  | [] => some sNop
  | st :: sts => match st with
    | .Assign [.Name x _] (.Call (.Name y _) (e :: es) [] _) _ => match cm.mks.lookup y with
      | some (ar, g) => if stoB S x = true ∧ glB S y = true ∧ (e :: es).length + 1 = ar then match ixOf cm.cc.N x, cX cm.cc r S (e :: es) with
        | some j, some fx => (cSsM cm r S j true n sts).map fun kk => sMake j cm.cc.oc g fx kk
        | _, _ => none
        else none
      | none => mk2 sSeq (cS cm.cc r S (cSs cm.cc r S n) st) (cSsK cm r S n sts)
    | st => mk2 sSeq (cS cm.cc r S (cSs cm.cc r S n) st) (cSsK cm r S n sts)
theorem cSsK_ok (ok : RecOk cm.cc k r) (c : CtxM cm k S X W) {n : Nat} : ∀ {sts : List Stmt} {f : Rho → Fl}, cSsK cm r S n sts = some f → SSs X W sts f
  | [], f, h => by cases h; exact ss_nil
  | st :: sts, f, h => by
    have gen : mk2 sSeq (cS cm.cc r S (cSs cm.cc r S n) st) (cSsK cm r S n sts) = some f → SSs X W (st :: sts) f := fun h => by
      obtain ⟨x, y, h1, h2, h3⟩ := mk2_ok h
      subst h3
      exact ss_cons (cS_ok ok (fun X W st f c h => cSs_ok ok n X W st f c h) c.s h1) (cSsK_ok ok c h2)
    unfold cSsK at h
    split at h
    · rename_i x p y p2 e es cpos pos
      split at h
      · rename_i ar g hm
        by_cases q : stoB S x = true ∧ glB S y = true ∧ (e :: es).length + 1 = ar
        · rw [if_pos q] at h
          obtain ⟨s1, s2⟩ := stoB_ok c.s.c q.1
          obtain ⟨gl, hd⟩ := glB_ok c.s.c q.2.1
          split at h
          · rename_i jj fx hj hx
            obtain ⟨kk, h1, h2⟩ := Option.map_eq_some_iff.mp h
            subst h2
            exact sss_make (by rw [c.s.c.N]; exact c.s.c.nd) (by rw [c.s.c.N]; exact ixOf_ok hj) s1 s2 (c.mks _ _ _ hm) c.s.c.room gl hd (cX_ok c.s.c ok hx) q.2.2 (cSsM_ok ok c n sts kk h1)
          · cases h
        · rw [if_neg q] at h; cases h
      · exact gen h
    · exact gen h
end
/-! ### defs -/
def runM (n : Nat) (g : Rho → FlM) (ds : List D) : MR := match g ((ds.map fun d => some (d, false)) ++ List.replicate (n - ds.length) none) with
  | .ret p o => .ok p o
  | .next ρ => match ρ[0]? with
    | some (some (o, _)) => .ok (.non, false) o
    | _ => .bad
  | .exc _ c fs o => .exc c fs o
  | _ => .bad
theorem Rl.cons {K : PySem.W.Frag} {S0 : Addr → Prop} {H0 H : Hp} {ρ : Rho} {σ : L2.St} {v : Option V} (r : Rl K S0 H ρ σ H) (k : Same H0 H) : Rl K S0 H0 (none :: ρ) (v :: σ) H := by
  have no : ∀ (i : Nat) (d : D), ρ[i]? ≠ some (some (d, true)) := fun i d e => by
    obtain ⟨a, _, ⟨n, _⟩, t⟩ := r.own i d e
    obtain ⟨o, z⟩ := t.there
    rw [n] at z; cases z
  have no' : ∀ (i : Nat) (d : D), (none :: ρ)[i]? ≠ some (some (d, true)) := fun i d e => by
    cases i with
    | zero => cases e
    | succ i => exact no i d e
  refine ⟨by rw [List.length_cons, List.length_cons, r.len], r.s0, k, fun i d e => ?_, fun i d e => absurd e (no' i d), fun i j d e a h => absurd h (no' i d)⟩
  cases i with
  | zero => cases e
  | succ i =>
    obtain ⟨v, h1, h2⟩ := r.clean i d e
    exact ⟨v, h1, h2.less fun a z => z.elim .inl fun ⟨i, d, e, _⟩ => absurd e (no' i d)⟩
theorem rm_start {K : PySem.W.Frag} {C : Addr} {S0 : Addr → Prop} {H : Hp} {a : Addr} {as : List Addr} {dx : Addr} {fs : List (Str × V)} {ds args : List D} {us : List V} {n : Nat} (hi : H a = some (.ins C dx fs)) (fr : FR K (S1 S0 a as) H ds (fs.map (·.2)) as) (nd : (a :: as).Nodup) (h0 : ∀ x, S0 x → ∃ o, H x = some o) (hn : ∀ x ∈ a :: as, ¬ S0 x) (r : Reps K (S1 S0 a as) H args us) (hle : args.length + 1 ≤ n) :
    RM K 0 C S0 H (a :: as) a as (((.obj C (fs.map (·.1)) ds :: args).map fun d => some (d, false)) ++ List.replicate (n - (.obj C (fs.map (·.1)) ds :: args).length) none) (((V.ref a :: us).map some) ++ List.replicate (n - (V.ref a :: us).length) none) H := by
  have hl' := r.length
  have there : ∀ x, S1 S0 a as x → ∃ o, H x = some o := fun x z => by
    rcases z with z | z
    · exact h0 x z
    · rcases List.mem_cons.mp z with z | z
      · exact ⟨_, by rw [z]; exact hi⟩
      · obtain ⟨d, t⟩ := fr.tops x z
        exact t.there
  have e1 : n - (D.obj C (fs.map (·.1)) ds :: args).length = (n - 1) - args.length := by rw [List.length_cons]; omega
  have e2 : n - (V.ref a :: us).length = (n - 1) - us.length := by rw [List.length_cons]; omega
  rw [e1, e2]
  have base := rl_start (n := n - 1) there r (by omega)
  refine ⟨⟨dx, fs, ds, rfl, hi, fr.less fun x z => ?_⟩, rfl, nd, fun x hx => ⟨by unfold hl; rw [if_pos hx], hn x hx⟩, fun x o e => ⟨o, e⟩, ?_⟩
  · rcases z with z | ⟨i, d, q1, q2⟩
    · exact z
    · exfalso
      have q : (none :: ((args.map fun d => some (d, false)) ++ List.replicate (n - 1 - args.length) none) : Rho)[i]? = some (some (d, true)) := q1
      cases i with
      | zero => cases q
      | succ i =>
        obtain ⟨b, _, ⟨nn, _⟩, t⟩ := base.own i d q
        obtain ⟨o, z⟩ := t.there
        rw [nn] at z; cases z
  · exact base.cons fun x o e => by
      unfold hl at e
      split at e
      · cases e
      · exact e
section
variable {P : Program} {w : World} {K : PySem.W.Frag} {mg : Str → Option Value} {base : Heap} {cm : CM} {k : Nat}
structure ModM (P : Program) (w : World) (K : PySem.W.Frag) (mg : Str → Option Value) (base : Heap) (cm : CM) (k : Nat) : Prop where
  m : Mod' P w K mg base cm.cc k
  mms : ∀ m ar g, cm.mms.lookup m = some (ar, g) → MMAt P w K mg base k cm.cc.oc m ar g
  mks : ∀ y ar g, cm.mks.lookup y = some (ar, g) → MkAt P w K mg base k cm.cc.oc y ar g
theorem defK_ok (M : ModM P w K mg base cm k) {x qn : Str} {st : Stmt} {f : Addr} {fd : FuncData} {ps : List Str} {g : Rho → Fl} (F : Fun K x qn st f fd) (S : FnScope cm.cc.N ps (defScope st)) (h : cSsK cm (cRec cm.cc 12) ⟨defScope st, defScope st⟩ 12 (defBody st) = some g) :
    FnOk P w K mg base (L2.CX P w) (k + 2) f fd ps (spOf K mg ps.length (runF cm.cc.N.length g)) := by
  have hpl : ps.length ≤ cm.cc.N.length := by
    have := congrArg List.length S.pre
    rw [List.length_take] at this
    omega
  refine F.okX S (fun vs H Q E h => ?_) fun cdv A outer s H vs Q E hr hsp => ?_
  · obtain ⟨S0, ds, _, r, e, _⟩ := h
    rw [r.length, e]
  · obtain ⟨S0, ds, h0, r, el, m⟩ := hsp
    have c := ctx_of (qual := qn) (f := f) M.m S cdv A outer s H E hr
    obtain ⟨t, p, sem⟩ := (cSsK_ok (cRec_ok 12) ⟨c, M.mms, M.mks⟩ h).ex
    refine ⟨t, p, sem S0 H ((ds.map fun d => some (d, false)) ++ List.replicate (cm.cc.N.length - ds.length) none) _ H _ (by
      have := rl_start (n := cm.cc.N.length) h0 r (by omega)
      exact this) ?_⟩
    unfold runF at m
    cases hg : g ((ds.map fun d => some (d, false)) ++ List.replicate (cm.cc.N.length - ds.length) none) with
    | next ρ' =>
      rw [hg] at m
      exact fun σ' H' rl _ => m .non H' rl.keep (PF.of rfl)
    | ret q =>
      rw [hg] at m
      exact fun v H' s pf => m v H' s pf
    | brk ρ' => rw [hg] at m; exact m.elim
    | cont ρ' => rw [hg] at m; exact m.elim
    | exc ρ' c fs =>
      rw [hg] at m
      exact fun cls dd σ' H' rl _ ex => m cls dd H' rl.keep ex
    | bad => rw [hg] at m; exact m.elim
theorem defM_ok (M : ModM P w K mg base cm k) {x qn : Str} {st : Stmt} {f : Addr} {fd : FuncData} {ps : List Str} {g : Rho → FlM} (F : Fun K x qn st f fd) (S : FnScope cm.cc.N ps (defScope st)) (h : cSsM cm (cRec cm.cc 12) ⟨defScope st, defScope st⟩ 0 false 12 (defBody st) = some g) :
    FnOk P w K mg base (L2.CX P w) (k + 2) f fd ps (spM K mg cm.cc.oc ps.length (runM cm.cc.N.length g)) := by
  have hpl : ps.length ≤ cm.cc.N.length := by
    have := congrArg List.length S.pre
    rw [List.length_take] at this
    omega
  refine F.okX S (fun vs H Q E h => ?_) fun cdv A outer s H vs Q E hr hsp => ?_
  · obtain ⟨S0, a, as, dx, fs, ds, args, us, rfl, _, _, _, _, _, r, e, _⟩ := h
    rw [List.length_cons, r.length, e]
  · obtain ⟨S0, a, as, dx, fs, ds, args, us, rfl, hi, fr, nd, h0, hn, r, el, m⟩ := hsp
    have c := ctx_of (qual := qn) (f := f) M.m S cdv A outer s H E hr
    obtain ⟨t, p, sem⟩ := (cSsM_ok (cRec_ok 12) ⟨c, M.mms, M.mks⟩ 12 _ _ h).ex
    have rm := rm_start (n := cm.cc.N.length) hi fr nd h0 hn r (by omega)
    refine ⟨t, p, sem S0 H (a :: as) a as _ _ H _ (fun z => by cases z) rm ?_⟩
    unfold runM at m
    cases hg : g (((.obj cm.cc.oc (fs.map (·.1)) ds :: args).map fun d => some (d, false)) ++ List.replicate (cm.cc.N.length - (.obj cm.cc.oc (fs.map (·.1)) ds :: args).length) none) with
    | next ρ' =>
      rw [hg] at m
      intro as' σ' H' rm' _
      obtain ⟨dx', fs', ds', q0, _⟩ := id rm'.ob
      have m1 := m
      simp only [q0] at m1
      exact m1 as' .non H' (rm'.retO q0) (PF.of rfl)
    | ret q o =>
      rw [hg] at m
      exact fun as' v H' ro pf => m as' v H' ro pf
    | brk ρ' => rw [hg] at m; exact m.elim
    | cont ρ' => rw [hg] at m; exact m.elim
    | exc ρ' c fs o =>
      rw [hg] at m
      exact fun as' cls dd σ' H' rm' e _ ex => m as' cls dd H' (rm'.retO e) ex
    | bad => rw [hg] at m; exact m.elim
end
/-! ### for the ties -/
/-- the class whose objects a law makes -/
class OC where
  c : Addr
section
variable {P : Program} {w : World} {K : PySem.W.Frag} {mg : Str → Option Value} {base : Heap} {j k ar : Nat} {C : Addr} {x : Str}
theorem MetAt.mono {g : List D → R (D × Bool)} (M : MetAt P w K mg base j C x ar g) (h : j ≤ k) : MetAt P w K mg base k C x ar g := by
  obtain ⟨f, fd, ps, a, b, c, d, e⟩ := M.ex
  exact ⟨f, fd, ps, a, b, c, d, e.mono h⟩
theorem MMAt.mono {g : List D → MR} (M : MMAt P w K mg base j C x ar g) (h : j ≤ k) : MMAt P w K mg base k C x ar g := by
  obtain ⟨f, fd, ps, a, b, c, d, e⟩ := M.ex
  exact ⟨f, fd, ps, a, b, c, d, e.mono h⟩
theorem MkAt.mono {g : List D → MR} (M : MkAt P w K mg base j C x ar g) (h : j ≤ k) : MkAt P w K mg base k C x ar g := by
  obtain ⟨f, fd, ps, a, b, c, d, e⟩ := M.ex
  exact ⟨f, fd, ps, a, b, c, d, e.mono h⟩
theorem lk_two {β : Type} {Q : Str → Nat → β → Prop} {l : List (Str × Nat × β)} (h : ∀ (x : Str) (d : Nat × β), l.lookup x = some d → Q x d.1 d.2) : ∀ m ar g, l.lookup m = some (ar, g) → Q m ar g := fun m ar g e => h m (ar, g) e
/-- what a law promises: at every script of at most 63 numbers true -/
def spT (K : PySem.W.Frag) : Sp := fun vs H Q _ => ∃ (a : Addr) (ns : List Int), vs = [.ref a] ∧ ((∃ o, H a = some (.frz o (.lst (ns.map V.int)))) ∨ KL K a (ns.map V.int)) ∧ ns.length ≤ 63 ∧ ∀ H', Q (.bl true) H'
theorem spT_imp {m : List D → R (D × Bool)} (law : ∀ ns : List Int, ns.length ≤ 63 → ∃ b, m [.scr ns] = .ok (.bl true, b)) {vs : List V} {H : Hp} {Q : VK} {E : XK} (h : spT K vs H Q E) : spOf K mg 1 m vs H Q E := by
  obtain ⟨a, ns, rfl, hS, hl, q⟩ := h
  obtain ⟨b, hm⟩ := law ns hl
  exact spL_imp ⟨a, ns, b, rfl, hS, hm, q⟩
theorem spT_law {H : Hp} {a : Addr} {ns : List Int} {E : XK} (hO : Only H) (hS : SqL K H a (ns.map V.int)) (hl : ns.length ≤ 63) : spT K [.ref a] H (fun v _ => v = .bl true) E := by
  refine ⟨a, ns, rfl, ?_, hl, fun _ => rfl⟩
  rcases hS with (h | ⟨o, h⟩) | h
  · rcases hO a with z | ⟨o, xs, z⟩
    · rw [z] at h; cases h
    · rw [z] at h; cases h
  · exact .inl ⟨o, h⟩
  · exact .inr h
end
theorem walkT {l : PySem.W.OpenLaw} {q : Program} {loose : List Str} {XP : (Str → Option Value) → Heap → Prop} {YP : World → Heap → Prop} {d : DefRec} {K : Params → PySem.W.Frag} {k : Nat} {x : Str}
    (hn : l.most = some 63) (hdf : d.params.defaults = []) (hr : Room k callerA) (hY : ∀ (w : World) (h : Heap), YP w h → (K w.params).In h)
    (F : ∀ (w : World) (mg : Str → Option Value) (fa : Addr) (h : Heap), (K w.params).In h → h.Ns mainGlobals mg → mg d.name = some (.ref fa) →
      ∃ fd : FuncData, (∀ (s : Shared) (u : Value), BindsTo s fd ⟨[u], []⟩ [(x, u)]) ∧ ∀ base : Heap, (K w.params).In base → base.Ns mainGlobals mg → FnOk l.prog w (K w.params) mg base (L2.CX l.prog w) k fa fd [x] (spT (K w.params))) :
    PySem.W.WalkO q loose XP YP l.row.toRowW d [] (fun f vs => PySem.call f vs) :=
  L2.walk_of (n := 63) (CX := fun w => L2.CX l.prog w) (sp := fun w => spT (K w.params)) hn (by decide) hdf hr hY F (fun _ _ _ ns hl hO hS => spT_law hO hS hl) fun _ _ _ _ _ h => by
    obtain ⟨_, _, _, _, _, _, _, _, _, _, _, _, z⟩ := h
    exact z.elim
end VM
/-! VMm: simp lemmas that evaluate the functions of methods. -/
namespace VM
open PySem L2
section
variable {α : Type} {a : α} {f g : Rho → FlM} {fe fk : Rho → R (D × Bool)} {ρ : Rho} {i j : Nat} {b : Bool} {C : Addr} {x m : Str} {p : D × Bool} {o : D}
@[simp] theorem fm_ok (k : α → FlM) : (R.ok a).fm j ρ k = k a := rfl
@[simp] theorem fm_bad (k : α → FlM) : (R.bad : R α).fm j ρ k = .bad := rfl
@[simp] theorem mat_next (k : Rho → FlM) : (FlM.next ρ).andThen k = k ρ := by cases ρ <;> rfl
@[simp] theorem mat_ret (k : Rho → FlM) : (FlM.ret p o).andThen k = .ret p o := by cases p <;> rfl
@[simp] theorem mat_bad (k : Rho → FlM) : FlM.bad.andThen k = .bad := rfl
@[simp] theorem mseq_eq : mSeq f g ρ = (f ρ).andThen g := rfl
@[simp] theorem mnop_eq : mNop ρ = .next ρ := rfl
@[simp] theorem mif_eq (c : Rho → R Bool) : mIf j c f g ρ = (c ρ).fm j ρ fun b => if b = true then f ρ else g ρ := rfl
@[simp] theorem mset_eq : mSet j i b fe ρ = (fe ρ).fm j ρ fun q => .next (ρ.set i (some (q.1, q.2 && b))) := rfl
@[simp] theorem mret_eq : mRet j fe ρ = (fe ρ).fm j ρ fun q => match ρ[j]? with
  | some (some (o, _)) => .ret q o
  | _ => .bad := rfl
@[simp] theorem mfor_eq (fi : Rho → R (List D)) (gt : D → Rho → R Rho) : mFor j fi gt f ρ = (fi ρ).fm j ρ fun ds => forM j gt f ds ρ := rfl
@[simp] theorem masg_eq (gt : D → Rho → R Rho) : mAsg j gt fe ρ = (fe ρ).fm j ρ fun q => (mT j gt q.1 ρ).fm j ρ .next := rfl
@[simp] theorem mt_eq (gt : D → Rho → R Rho) (d : D) : mT j gt d ρ = (gt d (ρ.set j none) >>= fun ρ' => R.ok (ρ'.set j (ρ[j]?.getD none))) := rfl
@[simp] theorem saf_eq : saf fe ρ = (fe ρ >>= fun p => if safe p = true then R.ok p else .bad) := rfl
@[simp] theorem safe_int (i : Int) : safe (.int i, b) = true := rfl
@[simp] theorem safe_str (z : Str) : safe (.str z, b) = true := rfl
@[simp] theorem safe_bl (z : Bool) : safe (.bl z, b) = true := rfl
@[simp] theorem safe_dic0 : safe (.dic [] [], true) = true := rfl
theorem safe_imm {d : D} (h : imm d = true) : safe (d, b) = true := by unfold safe; rw [h]; rfl
theorem forM_nil (gt : D → Rho → R Rho) : forM j gt f [] ρ = .next ρ := rfl
theorem forM_step {gt : D → Rho → R Rho} {d : D} {ds : List D} {ρ1 ρ2 : Rho} (h1 : mT j gt d ρ = .ok ρ1) (h2 : f ρ1 = .next ρ2) : forM j gt f (d :: ds) ρ = forM j gt f ds ρ2 := by
  show (mT j gt d ρ).fm j ρ (fun ρ1 => match f ρ1 with
    | .next ρ2 => forM j gt f ds ρ2
    | .cont ρ2 => forM j gt f ds ρ2
    | .brk ρ2 => .next ρ2
    | r => r) = _
  rw [h1]
  show (match f ρ1 with
    | .next ρ2 => forM j gt f ds ρ2
    | .cont ρ2 => forM j gt f ds ρ2
    | .brk ρ2 => .next ρ2
    | r => r) = _
  rw [h2]
@[simp] theorem bfld_eq : bFld i C x ρ = match ρ[i]? with
  | some (some (.obj C' ns ds, false)) => if C' = C then (match (ns.zip ds).lookup x with
    | some d => .ok (d, false)
    | none => .bad) else .bad
  | _ => .bad := rfl
theorem imms_of {ds : List D} (h : ∀ d ∈ ds, imm d = true) : imms ds = true := by
  induction ds with
  | nil => rfl
  | cons d ds ih =>
    show (imm d && imms ds) = true
    rw [h d (by simp), ih fun d hd => h d (by simp [hd])]; rfl
theorem imms_int (xs : List Int) : imms (xs.map .int) = true := imms_of fun d hd => by
  obtain ⟨i, _, rfl⟩ := List.mem_map.mp hd
  rfl
/-! ### dicts by names -/
theorem any_notK {os : List Str} {z : Str} (h : z ∉ os) : ((os.map Sum.inr : List Key).any fun k => decide (k = .inr z)) = false := by
  rw [List.any_eq_false]
  intro k hk
  obtain ⟨o, ho, rfl⟩ := List.mem_map.mp hk
  simp only [decide_eq_true_eq]
  intro e
  exact h (by rw [← Sum.inr.inj e]; exact ho)
theorem lookK_at : ∀ {ns : List Str} {vs : List D} {k : Nat} {z : Str} {v : D}, ns.Nodup → ns[k]? = some z → vs[k]? = some v → lookK (ns.map Sum.inr : List Key) vs (.inr z) = some v
  | [], _, _, _, _, _, h, _ => by simp at h
  | _ :: _, [], _, _, _, _, _, h => by simp at h
  | n :: ns, w :: vs, 0, z, v, _, h1, h2 => by
    cases h1; cases h2
    show (if (Sum.inr n : Key) = .inr n then some w else _) = some w
    rw [if_pos rfl]
  | n :: ns, w :: vs, k + 1, z, v, nd, h1, h2 => by
    have h1' : ns[k]? = some z := by simpa using h1
    have ne : n ≠ z := fun e => (List.nodup_cons.mp nd).1 (by rw [e]; exact List.mem_of_getElem? h1')
    show (if (Sum.inr n : Key) = .inr z then some w else lookK (ns.map Sum.inr : List Key) vs (.inr z)) = some v
    rw [if_neg fun e => ne (Sum.inr.inj e)]
    exact lookK_at (List.nodup_cons.mp nd).2 h1' (by simpa using h2)
theorem dix_nm {ns : List Str} {vs : List D} {k : Nat} {z : Str} {v : D} (nd : ns.Nodup) (h1 : ns[k]? = some z) (h2 : vs[k]? = some v) : dIx (.dic (ns.map Sum.inr) vs) (.str z) = .ok (v, false) := by
  have e := lookK_at nd h1 h2
  show (match lookK (ns.map Sum.inr : List Key) vs (.inr z : Key) with
    | some d => R.ok (d, false)
    | none => .bad) = _
  rw [e]
theorem zip_set : ∀ {ns : List Str} {vs : List D} {k : Nat} {z : Str} {v : D}, ns.Nodup → ns[k]? = some z → vs.length = ns.length → List.zipWith (fun (q : Key) d => if q = .inr z then v else d) (ns.map Sum.inr) vs = vs.set k v
  | [], vs, k, z, v, _, h, _ => by simp at h
  | n :: ns, [], k, z, v, _, h, hl => by simp at hl
  | n :: ns, w :: vs, 0, z, v, nd, h1, hl => by
    cases h1
    have nz := (List.nodup_cons.mp nd).1
    have tail : ∀ {ns : List Str} {vs : List D}, n ∉ ns → vs.length = ns.length → List.zipWith (fun (q : Key) d => if q = .inr n then v else d) (ns.map Sum.inr) vs = vs := by
      intro ns
      induction ns with
      | nil => intro vs _ hl; cases vs with
        | nil => rfl
        | cons => simp at hl
      | cons m ns ih =>
        intro vs hm hl
        cases vs with
        | nil => simp at hl
        | cons w vs =>
          have hm' : ¬ (n = m ∨ n ∈ ns) := fun q => hm (List.mem_cons.mpr q)
          rw [List.map_cons, List.zipWith_cons_cons, ih (fun q => hm' (.inr q)) (by simpa using hl), if_neg fun e => hm' (.inl (Sum.inr.inj e).symm)]
    rw [List.map_cons, List.zipWith_cons_cons, tail nz (by simpa using hl), if_pos rfl]; rfl
  | n :: ns, w :: vs, k + 1, z, v, nd, h1, hl => by
    have h1' : ns[k]? = some z := by simpa using h1
    have ne : n ≠ z := fun e => (List.nodup_cons.mp nd).1 (by rw [e]; exact List.mem_of_getElem? h1')
    rw [List.map_cons, List.zipWith_cons_cons, zip_set (List.nodup_cons.mp nd).2 h1' (by simpa using hl), if_neg fun e => ne (Sum.inr.inj e)]; rfl
theorem put_nm {ns : List Str} {vs : List D} {k : Nat} {z : Str} {v : D} (nd : ns.Nodup) (h1 : ns[k]? = some z) (hl : vs.length = ns.length) (hs : ns.length < 100) : putD (.dic (ns.map Sum.inr) vs) (.str z) v = some (.dic (ns.map Sum.inr) (vs.set k v)) := by
  have ha : ((ns.map Sum.inr : List Key).any fun q => decide (q = .inr z)) = true := by
    rw [List.any_eq_true]
    exact ⟨.inr z, List.mem_map.mpr ⟨z, List.mem_of_getElem? h1, rfl⟩, by simp⟩
  have e : putM (ns.map Sum.inr : List Key) vs (.inr z) v = (ns.map Sum.inr, vs.set k v) := by
    unfold putM
    rw [ha, if_pos rfl, zip_set nd h1 hl]
  show (if (ns.map Sum.inr : List Key).length < sizeLine then some (D.dic (putM (ns.map Sum.inr : List Key) vs (.inr z) v).1 (putM (ns.map Sum.inr : List Key) vs (.inr z) v).2) else none) = _
  rw [e, if_pos (Nat.lt_trans (by rw [List.length_map]; exact hs) (by decide : 100 < sizeLine))]
theorem put_add {ns : List Str} {vs : List D} {z : Str} {v : D} (h : z ∉ ns) (hs : ns.length < 100) : putD (.dic (ns.map Sum.inr) vs) (.str z) v = some (.dic ((ns ++ [z]).map Sum.inr) (vs ++ [v])) := by
  have e : putM (ns.map Sum.inr : List Key) vs (.inr z) v = ((ns ++ [z]).map Sum.inr, vs ++ [v]) := by
    unfold putM
    rw [any_notK h, if_neg (by decide)]
    simp
  show (if (ns.map Sum.inr : List Key).length < sizeLine then some (D.dic (putM (ns.map Sum.inr : List Key) vs (.inr z) v).1 (putM (ns.map Sum.inr : List Key) vs (.inr z) v).2) else none) = _
  rw [e, if_pos (Nat.lt_trans (by rw [List.length_map]; exact hs) (by decide : 100 < sizeLine))]
end
end VM
namespace VM
open PySem L2
def top (i : Nat) : Stmt := PySem.Challenge.pw_yesterpost_k49_written.main.body.getD i (.Pass ⟨0, 0, 0, 0⟩)
def kdsL : List (Str × List (Str × Str)) := []
def consL : List (Str × D) := []
def exsL : List (Str × XF) := []
def subsL : List (Str × (Str → Option Bool)) := []
def kitsL : List (Str × (Str → Option Bool)) := []
def L_0 : List (Str × Nat × (List D → R (D × Bool))) := []
abbrev s_row_words : Stmt := top 1
def N_row_words : List Str := ["row", "words", "part", "number"]
def d_row_words_b2_0 : Rho → Fl := sExt 1 (bComp [3] (bIt (bVar 2)) (gN 3) cYes (bB gStrN (xCons (bVarA 3) (xNil))))
def q_row_words_b2_0 : Rho → Fl := sSeq d_row_words_b2_0 sNop
def d_row_words_b3_0 : Rho → Fl := sApp 1 (bB gStrN (xCons (bVarA 2) (xNil)))
def q_row_words_b3_0 : Rho → Fl := sSeq d_row_words_b3_0 sNop
def d_row_words_b1_0 : Rho → Fl := sIf (bT (bIsi "tuple" (bVarA 2)))
 (q_row_words_b2_0)
 (q_row_words_b3_0)
def q_row_words_b1_0 : Rho → Fl := sSeq d_row_words_b1_0 sNop
def d_row_words_a_2 : Rho → Fl := sRetV 1
def q_row_words_a_2 : Rho → Fl := sSeq d_row_words_a_2 sNop
def d_row_words_a_1 : Rho → Fl := sFor (bIt (bVar 0)) (gN 2)
 (q_row_words_b1_0)
def q_row_words_a_1 : Rho → Fl := sSeq d_row_words_a_1 q_row_words_a_2
def d_row_words_a_0 : Rho → Fl := sSet 1 true (bLst (bNil))
def q_row_words_a_0 : Rho → Fl := sSeq d_row_words_a_0 q_row_words_a_1
def d_row_words : Rho → Fl := q_row_words_a_0
def m_row_words : List D → R (D × Bool) := runF 4 d_row_words
def cc_row_words : CC := ⟨N_row_words, L_0, consL, exsL, subsL, kitsL, [1], [], kdsL, 0, [], [], []⟩
theorem t_row_words : cSs cc_row_words (cRec cc_row_words 12) ⟨defScope s_row_words, defScope s_row_words⟩ 12 (defBody s_row_words) = some d_row_words := by kernel_rfl
theorem sc_row_words : FnScope N_row_words ["row"] (defScope s_row_words) := ⟨rfl, rfl, rfl, by decide +kernel, rfl, by decide +kernel, by decide +kernel⟩
abbrev s__law_feed : Stmt := top 4
def N__law_feed : List Str := ["_law_script", "_law_feed_here", "_law_cell", "_law_left", "_law_turn", "_law_seed"]
def d__law_feed_b5_1 : Rho → Fl := sSet 3 false (bOp dDiv (bVarA 3) (bA (bC (D.int 55440))))
def q__law_feed_b5_1 : Rho → Fl := sSeq d__law_feed_b5_1 sNop
def d__law_feed_b5_0 : Rho → Fl := sApp 1 (bOp dMod (bVarA 3) (bA (bC (D.int 55440))))
def q__law_feed_b5_0 : Rho → Fl := sSeq d__law_feed_b5_0 q__law_feed_b5_1
def d__law_feed_b4_0 : Rho → Fl := sIf (bT (bOp dGt (bVarA 3) (bA (bC (D.int 0)))))
 (q__law_feed_b5_0)
 (sNop)
def q__law_feed_b4_0 : Rho → Fl := sSeq d__law_feed_b4_0 sNop
def d__law_feed_b3_0 : Rho → Fl := sFor (bRng (xCons (bA (bC (D.int 60))) (xNil))) (gN 4)
 (q__law_feed_b4_0)
def q__law_feed_b3_0 : Rho → Fl := sSeq d__law_feed_b3_0 sNop
def d__law_feed_b7_1 : Rho → Fl := sApp 1 (bOp dMod (bA (bOp dDiv (bVarA 5) (bA (bC (D.int 13))))) (bA (bC (D.int 55440))))
def q__law_feed_b7_1 : Rho → Fl := sSeq d__law_feed_b7_1 sNop
def d__law_feed_b7_0 : Rho → Fl := sSet 5 false (bOp dMod (bA (bOp dAdd (bA (bOp dMul (bVarA 5) (bA (bC (D.int 48271))))) (bA (bC (D.int 7919))))) (bA (bC (D.int 2147483647))))
def q__law_feed_b7_0 : Rho → Fl := sSeq d__law_feed_b7_0 q__law_feed_b7_1
def d__law_feed_b6_1 : Rho → Fl := sFor (bRng (xCons (bA (bC (D.int 6))) (xNil))) (gN 4)
 (q__law_feed_b7_0)
def q__law_feed_b6_1 : Rho → Fl := sSeq d__law_feed_b6_1 sNop
def d__law_feed_b6_0 : Rho → Fl := sSet 5 false (bOp dMod (bA (bOp dAdd (bA (bOp dMul (bA (bOp dAdd (bA (bOp dMul (bA (bC (D.int 2))) (bVarA 3))) (bA (bB gInt (xCons (bA (bOp dLt (bVarA 2) (bA (bC (D.int 0))))) (xNil)))))) (bA (bC (D.int 69621))))) (bA (bC (D.int 11))))) (bA (bC (D.int 2147483629))))
def q__law_feed_b6_0 : Rho → Fl := sSeq d__law_feed_b6_0 q__law_feed_b6_1
def d__law_feed_b2_1 : Rho → Fl := sIf (bT (bOp dGe (bVarA 3) (bA (bOp dPow (bA (bC (D.int 10))) (bA (bC (D.int 18)))))))
 (q__law_feed_b3_0)
 (q__law_feed_b6_0)
def q__law_feed_b2_1 : Rho → Fl := sSeq d__law_feed_b2_1 sNop
def d__law_feed_b2_0 : Rho → Fl := sSet 3 false (bB gAbs (xCons (bVarA 2) (xNil)))
def q__law_feed_b2_0 : Rho → Fl := sSeq d__law_feed_b2_0 q__law_feed_b2_1
def d__law_feed_b1_0 : Rho → Fl := sIf (bT (bOp dLt (bA (bB gLen (xCons (bVarA 1) (xNil)))) (bA (bC (D.int 270)))))
 (q__law_feed_b2_0)
 (sNop)
def q__law_feed_b1_0 : Rho → Fl := sSeq d__law_feed_b1_0 sNop
def d__law_feed_b8_1 : Rho → Fl := sApp 1 (bOp dMod (bA (bOp dDiv (bVarA 5) (bA (bC (D.int 13))))) (bA (bC (D.int 55440))))
def q__law_feed_b8_1 : Rho → Fl := sSeq d__law_feed_b8_1 sNop
def d__law_feed_b8_0 : Rho → Fl := sSet 5 false (bOp dMod (bA (bOp dAdd (bA (bOp dMul (bVarA 5) (bA (bC (D.int 16807))))) (bA (bC (D.int 12345))))) (bA (bC (D.int 2147483629))))
def q__law_feed_b8_0 : Rho → Fl := sSeq d__law_feed_b8_0 q__law_feed_b8_1
def d__law_feed_a_4 : Rho → Fl := sRetV 1
def q__law_feed_a_4 : Rho → Fl := sSeq d__law_feed_a_4 sNop
def d__law_feed_a_3 : Rho → Fl := sFor (bRng (xCons (bA (bOp dSub (bA (bC (D.int 270))) (bA (bB gLen (xCons (bVarA 1) (xNil)))))) (xNil))) (gN 4)
 (q__law_feed_b8_0)
def q__law_feed_a_3 : Rho → Fl := sSeq d__law_feed_a_3 q__law_feed_a_4
def d__law_feed_a_2 : Rho → Fl := sSet 5 false (bOp dAdd (bA (bOp dAdd (bA (bC (D.int 271))) (bA (bB gLen (xCons (bVarA 1) (xNil)))))) (bA (bB gSum (xCons (bVarA 1) (xNil)))))
def q__law_feed_a_2 : Rho → Fl := sSeq d__law_feed_a_2 q__law_feed_a_3
def d__law_feed_a_1 : Rho → Fl := sFor (bIt (bVar 0)) (gN 2)
 (q__law_feed_b1_0)
def q__law_feed_a_1 : Rho → Fl := sSeq d__law_feed_a_1 q__law_feed_a_2
def d__law_feed_a_0 : Rho → Fl := sSet 1 true (bLst (bNil))
def q__law_feed_a_0 : Rho → Fl := sSeq d__law_feed_a_0 q__law_feed_a_1
def d__law_feed : Rho → Fl := q__law_feed_a_0
def m__law_feed : List D → R (D × Bool) := runF 6 d__law_feed
def cc__law_feed : CC := ⟨N__law_feed, L_0, consL, exsL, subsL, kitsL, [1], [], kdsL, 0, [], [], []⟩
theorem t__law_feed : cSs cc__law_feed (cRec cc__law_feed 12) ⟨defScope s__law_feed, defScope s__law_feed⟩ 12 (defBody s__law_feed) = some d__law_feed := by kernel_rfl
theorem sc__law_feed : FnScope N__law_feed ["_law_script"] (defScope s__law_feed) := ⟨rfl, rfl, rfl, by decide +kernel, rfl, by decide +kernel, by decide +kernel⟩
abbrev s__law_name : Stmt := top 5
def N__law_name : List Str := ["_law_pick", "_law_k", "_law_sign", "_law_at", "_law_words", "_law_some"]
def d__law_name_a_4 : Rho → Fl := sRet (bOp dIx (bA (bOp dAdd (bVarA 5) (bA (bLst (bCons (bOp dIx (bVarA 4) (bA (bOp dMod (bA (bOp dAdd (bVarA 3) (bVarA 1))) (bA (bC (D.int 8)))))) (bNil)))))) (bA (bOp dMod (bVarA 0) (bA (bC (D.int 4))))))
def q__law_name_a_4 : Rho → Fl := sSeq d__law_name_a_4 sNop
def d__law_name_a_3 : Rho → Fl := sSet 5 false (bLst (bCons (bVar 2) (bCons (bOp dAdd (bA (bOp dAdd (bA (bSl (bA (bC (D.str "mistral"))) (bNo) (bSome (bVar 3)))) (bVarA 2))) (bA (bSl (bA (bC (D.str "mistral"))) (bSome (bVar 3)) (bNo)))) (bCons (bOp dMul (bVarA 2) (bA (bOp dAdd (bA (bC (D.int 1))) (bA (bOp dMod (bA (bOp dAdd (bVarA 3) (bA (bOp dMul (bA (bC (D.int 3))) (bVarA 1))))) (bA (bC (D.int 8)))))))) (bNil)))))
def q__law_name_a_3 : Rho → Fl := sSeq d__law_name_a_3 q__law_name_a_4
def d__law_name_a_2 : Rho → Fl := sSet 4 false (bLst (bCons (bC (D.str "set")) (bCons (bC (D.str "back")) (bCons (bC (D.str "box")) (bCons (bC (D.str "post")) (bCons (bC (D.str "on")) (bCons (bC (D.str "copy")) (bCons (bC (D.str "turn")) (bCons (bC (D.str "a")) (bNil))))))))))
def q__law_name_a_2 : Rho → Fl := sSeq d__law_name_a_2 q__law_name_a_3
def d__law_name_a_1 : Rho → Fl := sSet 3 false (bOp dMod (bA (bOp dDiv (bVarA 0) (bA (bC (D.int 4))))) (bA (bC (D.int 8))))
def q__law_name_a_1 : Rho → Fl := sSeq d__law_name_a_1 q__law_name_a_2
def d__law_name_a_0 : Rho → Fl := sSet 2 false (bOp dIx (bA (bC (D.str "abcdefghijklmnopqrstuvwxyz"))) (bA (bOp dMod (bA (bOp dAdd (bA (bOp dDiv (bVarA 0) (bA (bC (D.int 32))))) (bA (bOp dMul (bA (bC (D.int 11))) (bVarA 1))))) (bA (bC (D.int 26))))))
def q__law_name_a_0 : Rho → Fl := sSeq d__law_name_a_0 q__law_name_a_1
def d__law_name : Rho → Fl := q__law_name_a_0
def m__law_name : List D → R (D × Bool) := runF 6 d__law_name
def cc__law_name : CC := ⟨N__law_name, L_0, consL, exsL, subsL, kitsL, [], [], kdsL, 0, [], [], []⟩
theorem t__law_name : cSs cc__law_name (cRec cc__law_name 12) ⟨defScope s__law_name, defScope s__law_name⟩ 12 (defBody s__law_name) = some d__law_name := by kernel_rfl
theorem sc__law_name : FnScope N__law_name ["_law_pick", "_law_k"] (defScope s__law_name) := ⟨rfl, rfl, rfl, by decide +kernel, rfl, by decide +kernel, by decide +kernel⟩
abbrev s__law_table : Stmt := top 8
def N__law_table : List Str := ["_law_number", "_law_size", "_law_table_here", "_law_turn"]
def d__law_table_b1_1 : Rho → Fl := sSet 0 false (bOp dDiv (bVarA 0) (bVarA 1))
def q__law_table_b1_1 : Rho → Fl := sSeq d__law_table_b1_1 sNop
def d__law_table_b1_0 : Rho → Fl := sApp 2 (bOp dMod (bVarA 0) (bVarA 1))
def q__law_table_b1_0 : Rho → Fl := sSeq d__law_table_b1_0 q__law_table_b1_1
def d__law_table_a_2 : Rho → Fl := sRet (bB gTuple (xCons (bVarA 2) (xNil)))
def q__law_table_a_2 : Rho → Fl := sSeq d__law_table_a_2 sNop
def d__law_table_a_1 : Rho → Fl := sFor (bRng (xCons (bVarA 1) (xNil))) (gN 3)
 (q__law_table_b1_0)
def q__law_table_a_1 : Rho → Fl := sSeq d__law_table_a_1 q__law_table_a_2
def d__law_table_a_0 : Rho → Fl := sSet 2 true (bLst (bNil))
def q__law_table_a_0 : Rho → Fl := sSeq d__law_table_a_0 q__law_table_a_1
def d__law_table : Rho → Fl := q__law_table_a_0
def m__law_table : List D → R (D × Bool) := runF 4 d__law_table
def cc__law_table : CC := ⟨N__law_table, L_0, consL, exsL, subsL, kitsL, [2], [], kdsL, 0, [], [], []⟩
theorem t__law_table : cSs cc__law_table (cRec cc__law_table 12) ⟨defScope s__law_table, defScope s__law_table⟩ 12 (defBody s__law_table) = some d__law_table := by kernel_rfl
theorem sc__law_table : FnScope N__law_table ["_law_number", "_law_size"] (defScope s__law_table) := ⟨rfl, rfl, rfl, by decide +kernel, rfl, by decide +kernel, by decide +kernel⟩
abbrev s__law_line : Stmt := top 13
def N__law_line : List Str := ["_law_head", "_law_parts_of", "_law_line_here", "_law_part", "_law_number"]
def d__law_line_b3_0 : Rho → Fl := sSet 2 false (bOp dAdd (bA (bOp dAdd (bVarA 2) (bA (bC (D.str " "))))) (bA (bB gStrN (xCons (bVarA 4) (xNil)))))
def q__law_line_b3_0 : Rho → Fl := sSeq d__law_line_b3_0 sNop
def d__law_line_b2_0 : Rho → Fl := sFor (bIt (bVar 3)) (gN 4)
 (q__law_line_b3_0)
def q__law_line_b2_0 : Rho → Fl := sSeq d__law_line_b2_0 sNop
def d__law_line_b4_0 : Rho → Fl := sSet 2 false (bOp dAdd (bA (bOp dAdd (bVarA 2) (bA (bC (D.str " "))))) (bA (bB gStrN (xCons (bVarA 3) (xNil)))))
def q__law_line_b4_0 : Rho → Fl := sSeq d__law_line_b4_0 sNop
def d__law_line_b1_0 : Rho → Fl := sIf (bT (bIsi "tuple" (bVarA 3)))
 (q__law_line_b2_0)
 (q__law_line_b4_0)
def q__law_line_b1_0 : Rho → Fl := sSeq d__law_line_b1_0 sNop
def d__law_line_a_2 : Rho → Fl := sRetV 2
def q__law_line_a_2 : Rho → Fl := sSeq d__law_line_a_2 sNop
def d__law_line_a_1 : Rho → Fl := sFor (bIt (bVar 1)) (gN 3)
 (q__law_line_b1_0)
def q__law_line_a_1 : Rho → Fl := sSeq d__law_line_a_1 q__law_line_a_2
def d__law_line_a_0 : Rho → Fl := sSet 2 false (bVar 0)
def q__law_line_a_0 : Rho → Fl := sSeq d__law_line_a_0 q__law_line_a_1
def d__law_line : Rho → Fl := q__law_line_a_0
def m__law_line : List D → R (D × Bool) := runF 5 d__law_line
def cc__law_line : CC := ⟨N__law_line, L_0, consL, exsL, subsL, kitsL, [], [], kdsL, 0, [], [], []⟩
theorem t__law_line : cSs cc__law_line (cRec cc__law_line 12) ⟨defScope s__law_line, defScope s__law_line⟩ 12 (defBody s__law_line) = some d__law_line := by kernel_rfl
theorem sc__law_line : FnScope N__law_line ["_law_head", "_law_parts_of"] (defScope s__law_line) := ⟨rfl, rfl, rfl, by decide +kernel, rfl, by decide +kernel, by decide +kernel⟩
def L_1 : List (Str × Nat × (List D → R (D × Bool))) := ([("row_words", 1, m_row_words), ("_law_feed", 1, m__law_feed), ("_law_name", 2, m__law_name), ("_law_table", 2, m__law_table), ("_law_line", 2, m__law_line)] : List (Str × Nat × (List D → R (D × Bool)))) ++ L_0
abbrev s_write : Stmt := top 2
def N_write : List Str := ["house", "boxes", "posts", "rows", "lines", "box", "post", "row", "words"]
def d_write_a_4 : Rho → Fl := sRet (bStrM gJoin (bA (bC (D.str "\n"))) (bA (bComp [8] (bIt (bVar 4)) (gN 8) cYes (bStrM gJoin (bA (bC (D.str " "))) (bVarA 8)))))
def q_write_a_4 : Rho → Fl := sSeq d_write_a_4 sNop
def d_write_a_3 : Rho → Fl := sExt 4 (bComp [7] (bIt (bVar 3)) (gN 7) cYes (bCall m_row_words (xCons (bVarA 7) (xNil))))
def q_write_a_3 : Rho → Fl := sSeq d_write_a_3 q_write_a_4
def d_write_a_2 : Rho → Fl := sExt 4 (bComp [6] (bIt (bVar 2)) (gN 6) cYes (bOp dAdd (bA (bLst (bCons (bC (D.str "post")) (bNil)))) (bA (bCall m_row_words (xCons (bVarA 6) (xNil))))))
def q_write_a_2 : Rho → Fl := sSeq d_write_a_2 q_write_a_3
def d_write_a_1 : Rho → Fl := sSet 4 true (bComp [5] (bIt (bVar 1)) (gN 5) cYes (bOp dAdd (bA (bLst (bCons (bC (D.str "box")) (bNil)))) (bA (bCall m_row_words (xCons (bVarA 5) (xNil))))))
def q_write_a_1 : Rho → Fl := sSeq d_write_a_1 q_write_a_2
def d_write_a_0 : Rho → Fl := sAsg (gT (VM.gCons (gN 1) (VM.gCons (gN 2) (VM.gCons (gN 3) (gNil))))) (bVar 0)
def q_write_a_0 : Rho → Fl := sSeq d_write_a_0 q_write_a_1
def d_write : Rho → Fl := q_write_a_0
def m_write : List D → R (D × Bool) := runF 9 d_write
def cc_write : CC := ⟨N_write, L_1, consL, exsL, subsL, kitsL, [4], [], kdsL, 0, [], [], []⟩
theorem t_write : cSs cc_write (cRec cc_write 12) ⟨defScope s_write, defScope s_write⟩ 12 (defBody s_write) = some d_write := by kernel_rfl
theorem sc_write : FnScope N_write ["house"] (defScope s_write) := ⟨rfl, rfl, rfl, by decide +kernel, rfl, by decide +kernel, by decide +kernel⟩
abbrev s__law_posts : Stmt := top 6
def N__law_posts : List Str := ["_law_feed_here", "_law_cap", "_law_pick", "_law_posts_here", "_law_product", "_law_k", "_law_size", "_law_way"]
def d__law_posts_b2_2 : Rho → Fl := sApp 3 (bTup (bCons (bCall m__law_name (xCons (bVarA 2) (xCons (bVarA 5) (xNil)))) (bCons (bVar 6) (bCons (bVar 7) (bCons (bOp dMod (bA (bOp dIx (bVarA 0) (bA (bOp dAdd (bA (bC (D.int 13))) (bVarA 5))))) (bVarA 6)) (bNil))))))
def q__law_posts_b2_2 : Rho → Fl := sSeq d__law_posts_b2_2 sNop
def d__law_posts_b2_1 : Rho → Fl := sSet 7 false (bOp dIx (bA (bLst (bCons (bC (D.str "back")) (bCons (bC (D.str "on")) (bCons (bC (D.str "back")) (bCons (bC (D.str "held")) (bCons (bC (D.str "back")) (bNil)))))))) (bA (bOp dMod (bA (bOp dIx (bVarA 0) (bA (bOp dAdd (bA (bC (D.int 7))) (bVarA 5))))) (bA (bC (D.int 5))))))
def q__law_posts_b2_1 : Rho → Fl := sSeq d__law_posts_b2_1 q__law_posts_b2_2
def d__law_posts_b2_0 : Rho → Fl := sSet 4 false (bOp dMul (bVarA 4) (bVarA 6))
def q__law_posts_b2_0 : Rho → Fl := sSeq d__law_posts_b2_0 q__law_posts_b2_1
def d__law_posts_b1_1 : Rho → Fl := sIf (bT (bOp dLe (bA (bOp dMul (bVarA 4) (bVarA 6))) (bVarA 1)))
 (q__law_posts_b2_0)
 (sNop)
def q__law_posts_b1_1 : Rho → Fl := sSeq d__law_posts_b1_1 sNop
def d__law_posts_b1_0 : Rho → Fl := sSet 6 false (bOp dIx (bA (bLst (bCons (bC (D.int 2)) (bCons (bC (D.int 3)) (bCons (bC (D.int 2)) (bCons (bC (D.int 4)) (bCons (bC (D.int 1)) (bCons (bC (D.int 2)) (bCons (bC (D.int 3)) (bCons (bC (D.int 5)) (bCons (bC (D.int 6)) (bCons (bC (D.int 7)) (bCons (bC (D.int 8)) (bCons (bC (D.int 9)) (bNil))))))))))))))) (bA (bOp dMod (bA (bOp dIx (bVarA 0) (bA (bOp dAdd (bA (bC (D.int 1))) (bVarA 5))))) (bA (bC (D.int 12))))))
def q__law_posts_b1_0 : Rho → Fl := sSeq d__law_posts_b1_0 q__law_posts_b1_1
def d__law_posts_a_4 : Rho → Fl := sRetV 3
def q__law_posts_a_4 : Rho → Fl := sSeq d__law_posts_a_4 sNop
def d__law_posts_a_3 : Rho → Fl := sFor (bRng (xCons (bA (bOp dMod (bA (bOp dIx (bVarA 0) (bA (bC (D.int 0))))) (bA (bC (D.int 7))))) (xNil))) (gN 5)
 (q__law_posts_b1_0)
def q__law_posts_a_3 : Rho → Fl := sSeq d__law_posts_a_3 q__law_posts_a_4
def d__law_posts_a_2 : Rho → Fl := sSet 4 false (bC (D.int 1))
def q__law_posts_a_2 : Rho → Fl := sSeq d__law_posts_a_2 q__law_posts_a_3
def d__law_posts_a_1 : Rho → Fl := sSet 3 true (bLst (bNil))
def q__law_posts_a_1 : Rho → Fl := sSeq d__law_posts_a_1 q__law_posts_a_2
def d__law_posts_a_0 : Rho → Fl := sSet 2 false (bOp dIx (bA (bLst (bCons (bOp dIx (bVarA 0) (bA (bC (D.int 37)))) (bCons (bOp dIx (bVarA 0) (bA (bC (D.int 38)))) (bCons (bOp dIx (bVarA 0) (bA (bC (D.int 38)))) (bNil)))))) (bA (bOp dMod (bA (bOp dIx (bVarA 0) (bA (bC (D.int 39))))) (bA (bC (D.int 3))))))
def q__law_posts_a_0 : Rho → Fl := sSeq d__law_posts_a_0 q__law_posts_a_1
def d__law_posts : Rho → Fl := q__law_posts_a_0
def m__law_posts : List D → R (D × Bool) := runF 8 d__law_posts
def cc__law_posts : CC := ⟨N__law_posts, L_1, consL, exsL, subsL, kitsL, [3], [], kdsL, 0, [], [], []⟩
theorem t__law_posts : cSs cc__law_posts (cRec cc__law_posts 12) ⟨defScope s__law_posts, defScope s__law_posts⟩ 12 (defBody s__law_posts) = some d__law_posts := by kernel_rfl
theorem sc__law_posts : FnScope N__law_posts ["_law_feed_here", "_law_cap"] (defScope s__law_posts) := ⟨rfl, rfl, rfl, by decide +kernel, rfl, by decide +kernel, by decide +kernel⟩
abbrev s__law_boxes : Stmt := top 7
def N__law_boxes : List Str := ["_law_feed_here", "_law_boxes_here", "_law_k", "_law_size"]
def d__law_boxes_b1_1 : Rho → Fl := sApp 1 (bTup (bCons (bCall m__law_name (xCons (bA (bOp dIx (bVarA 0) (bA (bC (D.int 37))))) (xCons (bVarA 2) (xNil)))) (bCons (bVar 3) (bCons (bOp dMod (bA (bOp dIx (bVarA 0) (bA (bOp dAdd (bA (bC (D.int 28))) (bVarA 2))))) (bVarA 3)) (bNil)))))
def q__law_boxes_b1_1 : Rho → Fl := sSeq d__law_boxes_b1_1 sNop
def d__law_boxes_b1_0 : Rho → Fl := sSet 3 false (bOp dAdd (bA (bC (D.int 1))) (bA (bOp dMod (bA (bOp dIx (bVarA 0) (bA (bOp dAdd (bA (bC (D.int 20))) (bVarA 2))))) (bA (bC (D.int 9))))))
def q__law_boxes_b1_0 : Rho → Fl := sSeq d__law_boxes_b1_0 q__law_boxes_b1_1
def d__law_boxes_a_2 : Rho → Fl := sRetV 1
def q__law_boxes_a_2 : Rho → Fl := sSeq d__law_boxes_a_2 sNop
def d__law_boxes_a_1 : Rho → Fl := sFor (bRng (xCons (bA (bOp dMod (bA (bOp dIx (bVarA 0) (bA (bC (D.int 19))))) (bA (bC (D.int 9))))) (xNil))) (gN 2)
 (q__law_boxes_b1_0)
def q__law_boxes_a_1 : Rho → Fl := sSeq d__law_boxes_a_1 q__law_boxes_a_2
def d__law_boxes_a_0 : Rho → Fl := sSet 1 true (bLst (bNil))
def q__law_boxes_a_0 : Rho → Fl := sSeq d__law_boxes_a_0 q__law_boxes_a_1
def d__law_boxes : Rho → Fl := q__law_boxes_a_0
def m__law_boxes : List D → R (D × Bool) := runF 4 d__law_boxes
def cc__law_boxes : CC := ⟨N__law_boxes, L_1, consL, exsL, subsL, kitsL, [1], [], kdsL, 0, [], [], []⟩
theorem t__law_boxes : cSs cc__law_boxes (cRec cc__law_boxes 12) ⟨defScope s__law_boxes, defScope s__law_boxes⟩ 12 (defBody s__law_boxes) = some d__law_boxes := by kernel_rfl
theorem sc__law_boxes : FnScope N__law_boxes ["_law_feed_here"] (defScope s__law_boxes) := ⟨rfl, rfl, rfl, by decide +kernel, rfl, by decide +kernel, by decide +kernel⟩
abbrev s__law_row : Stmt := top 9
def N__law_row : List Str := ["_law_feed_here", "_law_at", "_law_boxes_here", "_law_posts_here", "_law_words", "_law_word", "_law_one", "_law_names", "_law_k", "_law_many"]
def d__law_row_b1_0 : Rho → Fl := sSet 5 false (bC (D.str "sum"))
def q__law_row_b1_0 : Rho → Fl := sSeq d__law_row_b1_0 sNop
def d__law_row_a_10 : Rho → Fl := sRet (bOp dAdd (bA (bTup (bCons (bVar 5) (bCons (bOp dIx (bVarA 6) (bA (bC (D.int 0)))) (bNil))))) (bA (bB gTuple (xCons (bA (bSl (bVarA 7) (bNo) (bSome (bVar 9)))) (xNil)))))
def q__law_row_a_10 : Rho → Fl := sSeq d__law_row_a_10 sNop
def d__law_row_a_9 : Rho → Fl := sSet 9 false (bGet (bA (bDisp (pCons (bC (D.str "copy")) (bC (D.int 1)) (pCons (bC (D.str "pick")) (bC (D.int 3)) (pNil))))) (bVarA 5) (bC (D.int 2)))
def q__law_row_a_9 : Rho → Fl := sSeq d__law_row_a_9 q__law_row_a_10
def d__law_row_a_8 : Rho → Fl := sIf (bT (bOp dEq (bVarA 5) (bA (bC (D.str "turn")))))
 (sSeq (sRet (bTup (bCons (bC (D.str "turn")) (bCons (bOp dIx (bVarA 6) (bA (bC (D.int 0)))) (bCons (bCall m__law_table (xCons (bA (bOp dAdd (bA (bOp dMul (bA (bOp dIx (bVarA 0) (bA (bOp dAdd (bVarA 1) (bA (bC (D.int 2))))))) (bA (bC (D.int 55440))))) (bA (bOp dIx (bVarA 0) (bA (bOp dAdd (bVarA 1) (bA (bC (D.int 3))))))))) (xCons (bA (bOp dIx (bVarA 6) (bA (bC (D.int 1))))) (xNil)))) (bNil)))))) (sNop))
 (sNop)
def q__law_row_a_8 : Rho → Fl := sSeq d__law_row_a_8 q__law_row_a_9
def d__law_row_a_7 : Rho → Fl := sIf (bT (bOp dEq (bVarA 5) (bA (bC (D.str "set")))))
 (sSeq (sRet (bTup (bCons (bC (D.str "set")) (bCons (bOp dIx (bVarA 6) (bA (bC (D.int 0)))) (bCons (bOp dMod (bA (bOp dIx (bVarA 0) (bA (bOp dAdd (bVarA 1) (bA (bC (D.int 2))))))) (bA (bOp dIx (bVarA 6) (bA (bC (D.int 1)))))) (bNil)))))) (sNop))
 (sNop)
def q__law_row_a_7 : Rho → Fl := sSeq d__law_row_a_7 q__law_row_a_8
def d__law_row_a_6 : Rho → Fl := sIf (bT (bOp dEq (bVarA 5) (bA (bC (D.str "take")))))
 (sSeq (sRet (bTup (bCons (bC (D.str "take")) (bCons (bOp dIx (bVarA 6) (bA (bC (D.int 0)))) (bCons (bOp dIx (bA (bOp dIx (bVarA 3) (bA (bOp dMod (bA (bOp dIx (bVarA 0) (bA (bOp dAdd (bVarA 1) (bA (bC (D.int 2))))))) (bA (bB gLen (xCons (bVarA 3) (xNil)))))))) (bA (bC (D.int 0)))) (bNil)))))) (sNop))
 (sNop)
def q__law_row_a_6 : Rho → Fl := sSeq d__law_row_a_6 q__law_row_a_7
def d__law_row_a_5 : Rho → Fl := sIf (bT (bOp dEq (bVarA 5) (bA (bC (D.str "send")))))
 (sSeq (sRet (bTup (bCons (bC (D.str "send")) (bCons (bOp dIx (bA (bOp dIx (bVarA 3) (bA (bOp dMod (bA (bOp dIx (bVarA 0) (bA (bOp dAdd (bVarA 1) (bA (bC (D.int 2))))))) (bA (bB gLen (xCons (bVarA 3) (xNil)))))))) (bA (bC (D.int 0)))) (bCons (bOp dIx (bVarA 6) (bA (bC (D.int 0)))) (bNil)))))) (sNop))
 (sNop)
def q__law_row_a_5 : Rho → Fl := sSeq d__law_row_a_5 q__law_row_a_6
def d__law_row_a_4 : Rho → Fl := sIf (bAndT (bT (bOp dIn (bVarA 5) (bA (bTup (bCons (bC (D.str "send")) (bCons (bC (D.str "take")) (bNil))))))) (bT (bOp dEq (bVarA 3) (bA (bLst (bNil))))))
 (q__law_row_b1_0)
 (sNop)
def q__law_row_a_4 : Rho → Fl := sSeq d__law_row_a_4 q__law_row_a_5
def d__law_row_a_3 : Rho → Fl := sSet 7 false (bComp [8] (bRng (xCons (bA (bC (D.int 2))) (xCons (bA (bC (D.int 5))) (xNil)))) (gN 8) cYes (bOp dIx (bA (bOp dIx (bVarA 2) (bA (bOp dMod (bA (bOp dIx (bVarA 0) (bA (bOp dAdd (bVarA 1) (bVarA 8))))) (bA (bB gLen (xCons (bVarA 2) (xNil)))))))) (bA (bC (D.int 0)))))
def q__law_row_a_3 : Rho → Fl := sSeq d__law_row_a_3 q__law_row_a_4
def d__law_row_a_2 : Rho → Fl := sSet 6 false (bOp dIx (bVarA 2) (bA (bOp dMod (bA (bOp dIx (bVarA 0) (bA (bOp dAdd (bVarA 1) (bA (bC (D.int 1))))))) (bA (bB gLen (xCons (bVarA 2) (xNil)))))))
def q__law_row_a_2 : Rho → Fl := sSeq d__law_row_a_2 q__law_row_a_3
def d__law_row_a_1 : Rho → Fl := sSet 5 false (bOp dIx (bVarA 4) (bA (bOp dMod (bA (bOp dIx (bVarA 0) (bVarA 1))) (bA (bC (D.int 12))))))
def q__law_row_a_1 : Rho → Fl := sSeq d__law_row_a_1 q__law_row_a_2
def d__law_row_a_0 : Rho → Fl := sSet 4 false (bLst (bCons (bC (D.str "take")) (bCons (bC (D.str "send")) (bCons (bC (D.str "sum")) (bCons (bC (D.str "copy")) (bCons (bC (D.str "turn")) (bCons (bC (D.str "send")) (bCons (bC (D.str "take")) (bCons (bC (D.str "pick")) (bCons (bC (D.str "least")) (bCons (bC (D.str "most")) (bCons (bC (D.str "set")) (bCons (bC (D.str "take")) (bNil))))))))))))))
def q__law_row_a_0 : Rho → Fl := sSeq d__law_row_a_0 q__law_row_a_1
def d__law_row : Rho → Fl := q__law_row_a_0
def m__law_row : List D → R (D × Bool) := runF 10 d__law_row
def cc__law_row : CC := ⟨N__law_row, L_1, consL, exsL, subsL, kitsL, [], [], kdsL, 0, [], [], []⟩
theorem t__law_row : cSs cc__law_row (cRec cc__law_row 12) ⟨defScope s__law_row, defScope s__law_row⟩ 12 (defBody s__law_row) = some d__law_row := by kernel_rfl
theorem sc__law_row : FnScope N__law_row ["_law_feed_here", "_law_at", "_law_boxes_here", "_law_posts_here"] (defScope s__law_row) := ⟨rfl, rfl, rfl, by decide +kernel, rfl, by decide +kernel, by decide +kernel⟩
abbrev s__law_chained : Stmt := top 10
def N__law_chained : List Str := ["_law_feed_here", "_law_k", "_law_boxes_here", "_law_posts_here", "_law_row_here", "_law_j", "_law_box"]
def d__law_chained_a_5 : Rho → Fl := sRetV 4
def q__law_chained_a_5 : Rho → Fl := sSeq d__law_chained_a_5 sNop
def d__law_chained_a_4 : Rho → Fl := sIf (bT (bOp dEq (bA (bOp dMod (bA (bOp dIx (bVarA 0) (bA (bOp dAdd (bA (bC (D.int 70))) (bA (bOp dMul (bA (bC (D.int 5))) (bVarA 1))))))) (bA (bC (D.int 2))))) (bA (bC (D.int 0)))))
 (sSeq (sRet (bTup (bCons (bC (D.str "turn")) (bCons (bOp dIx (bVarA 6) (bA (bC (D.int 0)))) (bCons (bCall m__law_table (xCons (bA (bOp dAdd (bA (bOp dMul (bA (bOp dIx (bVarA 0) (bA (bOp dAdd (bA (bC (D.int 72))) (bA (bOp dMul (bA (bC (D.int 5))) (bVarA 1))))))) (bA (bC (D.int 55440))))) (bA (bOp dIx (bVarA 0) (bA (bOp dAdd (bA (bC (D.int 73))) (bA (bOp dMul (bA (bC (D.int 5))) (bVarA 1))))))))) (xCons (bA (bOp dIx (bVarA 6) (bA (bC (D.int 1))))) (xNil)))) (bNil)))))) (sNop))
 (sNop)
def q__law_chained_a_4 : Rho → Fl := sSeq d__law_chained_a_4 q__law_chained_a_5
def d__law_chained_a_3 : Rho → Fl := sIf (bT (bOp dEq (bA (bOp dMod (bVarA 1) (bA (bC (D.int 3))))) (bA (bC (D.int 2)))))
 (sSeq (sRet (bTup (bCons (bC (D.str "send")) (bCons (bOp dIx (bA (bOp dIx (bVarA 3) (bA (bOp dMod (bA (bOp dAdd (bVarA 5) (bA (bOp dIx (bVarA 0) (bA (bC (D.int 37))))))) (bA (bB gLen (xCons (bVarA 3) (xNil)))))))) (bA (bC (D.int 0)))) (bCons (bOp dIx (bVarA 6) (bA (bC (D.int 0)))) (bNil)))))) (sNop))
 (sNop)
def q__law_chained_a_3 : Rho → Fl := sSeq d__law_chained_a_3 q__law_chained_a_4
def d__law_chained_a_2 : Rho → Fl := sIf (bT (bOp dEq (bA (bOp dMod (bVarA 1) (bA (bC (D.int 3))))) (bA (bC (D.int 0)))))
 (sSeq (sRet (bTup (bCons (bC (D.str "take")) (bCons (bOp dIx (bVarA 6) (bA (bC (D.int 0)))) (bCons (bOp dIx (bA (bOp dIx (bVarA 3) (bA (bOp dMod (bVarA 5) (bA (bB gLen (xCons (bVarA 3) (xNil)))))))) (bA (bC (D.int 0)))) (bNil)))))) (sNop))
 (sNop)
def q__law_chained_a_2 : Rho → Fl := sSeq d__law_chained_a_2 q__law_chained_a_3
def d__law_chained_a_1 : Rho → Fl := sSet 6 false (bOp dIx (bVarA 2) (bA (bOp dMod (bVarA 5) (bA (bB gLen (xCons (bVarA 2) (xNil)))))))
def q__law_chained_a_1 : Rho → Fl := sSeq d__law_chained_a_1 q__law_chained_a_2
def d__law_chained_a_0 : Rho → Fl := sSet 5 false (bOp dDiv (bVarA 1) (bA (bC (D.int 3))))
def q__law_chained_a_0 : Rho → Fl := sSeq d__law_chained_a_0 q__law_chained_a_1
def d__law_chained : Rho → Fl := q__law_chained_a_0
def m__law_chained : List D → R (D × Bool) := runF 7 d__law_chained
def cc__law_chained : CC := ⟨N__law_chained, L_1, consL, exsL, subsL, kitsL, [], [], kdsL, 0, [], [], []⟩
theorem t__law_chained : cSs cc__law_chained (cRec cc__law_chained 12) ⟨defScope s__law_chained, defScope s__law_chained⟩ 12 (defBody s__law_chained) = some d__law_chained := by kernel_rfl
theorem sc__law_chained : FnScope N__law_chained ["_law_feed_here", "_law_k", "_law_boxes_here", "_law_posts_here", "_law_row_here"] (defScope s__law_chained) := ⟨rfl, rfl, rfl, by decide +kernel, rfl, by decide +kernel, by decide +kernel⟩
abbrev s__law_lines : Stmt := top 14
def N__law_lines : List Str := ["_law_house_here", "_law_lines_here", "_law_box", "_law_post", "_law_row_here"]
def d__law_lines_a_2 : Rho → Fl := sRet (bOp dAdd (bVarA 1) (bA (bComp [4] (bIt (bOp dIx (bVarA 0) (bA (bC (D.int 2))))) (gN 4) cYes (bCall m__law_line (xCons (bA (bOp dIx (bVarA 4) (bA (bC (D.int 0))))) (xCons (bA (bSl (bVarA 4) (bSome (bC (D.int 1))) (bNo))) (xNil)))))))
def q__law_lines_a_2 : Rho → Fl := sSeq d__law_lines_a_2 sNop
def d__law_lines_a_1 : Rho → Fl := sSet 1 false (bOp dAdd (bVarA 1) (bA (bComp [3] (bIt (bOp dIx (bVarA 0) (bA (bC (D.int 1))))) (gN 3) cYes (bCall m__law_line (xCons (bA (bC (D.str "post"))) (xCons (bVarA 3) (xNil)))))))
def q__law_lines_a_1 : Rho → Fl := sSeq d__law_lines_a_1 q__law_lines_a_2
def d__law_lines_a_0 : Rho → Fl := sSet 1 false (bComp [2] (bIt (bOp dIx (bVarA 0) (bA (bC (D.int 0))))) (gN 2) cYes (bCall m__law_line (xCons (bA (bC (D.str "box"))) (xCons (bVarA 2) (xNil)))))
def q__law_lines_a_0 : Rho → Fl := sSeq d__law_lines_a_0 q__law_lines_a_1
def d__law_lines : Rho → Fl := q__law_lines_a_0
def m__law_lines : List D → R (D × Bool) := runF 5 d__law_lines
def cc__law_lines : CC := ⟨N__law_lines, L_1, consL, exsL, subsL, kitsL, [], [], kdsL, 0, [], [], []⟩
theorem t__law_lines : cSs cc__law_lines (cRec cc__law_lines 12) ⟨defScope s__law_lines, defScope s__law_lines⟩ 12 (defBody s__law_lines) = some d__law_lines := by kernel_rfl
theorem sc__law_lines : FnScope N__law_lines ["_law_house_here"] (defScope s__law_lines) := ⟨rfl, rfl, rfl, by decide +kernel, rfl, by decide +kernel, by decide +kernel⟩
def L_2 : List (Str × Nat × (List D → R (D × Bool))) := ([("write", 1, m_write), ("_law_posts", 2, m__law_posts), ("_law_boxes", 1, m__law_boxes), ("_law_row", 4, m__law_row), ("_law_chained", 5, m__law_chained), ("_law_lines", 1, m__law_lines)] : List (Str × Nat × (List D → R (D × Bool)))) ++ L_1
abbrev s__law_rows : Stmt := top 11
def N__law_rows : List Str := ["_law_feed_here", "_law_boxes_here", "_law_posts_here", "_law_most", "_law_rows_here", "_law_k", "_law_row_here"]
def d__law_rows_b3_0 : Rho → Fl := sSet 6 false (bCall m__law_chained (xCons (bVarA 0) (xCons (bVarA 5) (xCons (bVarA 1) (xCons (bVarA 2) (xCons (bVarA 6) (xNil)))))))
def q__law_rows_b3_0 : Rho → Fl := sSeq d__law_rows_b3_0 sNop
def d__law_rows_b2_2 : Rho → Fl := sApp 4 (bVar 6)
def q__law_rows_b2_2 : Rho → Fl := sSeq d__law_rows_b2_2 sNop
def d__law_rows_b2_1 : Rho → Fl := sIf (bAndT (bT (bOp dEq (bA (bOp dMod (bA (bOp dDiv (bA (bOp dIx (bVarA 0) (bA (bC (D.int 36))))) (bA (bC (D.int 41))))) (bA (bC (D.int 3))))) (bA (bC (D.int 0))))) (bT (bOp dNe (bVarA 2) (bA (bLst (bNil))))))
 (q__law_rows_b3_0)
 (sNop)
def q__law_rows_b2_1 : Rho → Fl := sSeq d__law_rows_b2_1 q__law_rows_b2_2
def d__law_rows_b2_0 : Rho → Fl := sSet 6 false (bCall m__law_row (xCons (bVarA 0) (xCons (bA (bOp dAdd (bA (bC (D.int 70))) (bA (bOp dMul (bA (bC (D.int 5))) (bVarA 5))))) (xCons (bVarA 1) (xCons (bVarA 2) (xNil))))))
def q__law_rows_b2_0 : Rho → Fl := sSeq d__law_rows_b2_0 q__law_rows_b2_1
def d__law_rows_a_3 : Rho → Fl := sRetV 4
def q__law_rows_a_3 : Rho → Fl := sSeq d__law_rows_a_3 sNop
def d__law_rows_a_2 : Rho → Fl := sFor (bRng (xCons (bA (bOp dMod (bA (bOp dIx (bVarA 0) (bA (bC (D.int 36))))) (bA (bOp dAdd (bVarA 3) (bA (bC (D.int 1))))))) (xNil))) (gN 5)
 (q__law_rows_b2_0)
def q__law_rows_a_2 : Rho → Fl := sSeq d__law_rows_a_2 q__law_rows_a_3
def d__law_rows_a_1 : Rho → Fl := sIf (bT (bOp dEq (bVarA 1) (bA (bLst (bNil)))))
 (sSeq (sRetV 4) (sNop))
 (sNop)
def q__law_rows_a_1 : Rho → Fl := sSeq d__law_rows_a_1 q__law_rows_a_2
def d__law_rows_a_0 : Rho → Fl := sSet 4 true (bLst (bNil))
def q__law_rows_a_0 : Rho → Fl := sSeq d__law_rows_a_0 q__law_rows_a_1
def d__law_rows : Rho → Fl := q__law_rows_a_0
def m__law_rows : List D → R (D × Bool) := runF 7 d__law_rows
def cc__law_rows : CC := ⟨N__law_rows, L_2, consL, exsL, subsL, kitsL, [4], [], kdsL, 0, [], [], []⟩
theorem t__law_rows : cSs cc__law_rows (cRec cc__law_rows 12) ⟨defScope s__law_rows, defScope s__law_rows⟩ 12 (defBody s__law_rows) = some d__law_rows := by kernel_rfl
theorem sc__law_rows : FnScope N__law_rows ["_law_feed_here", "_law_boxes_here", "_law_posts_here", "_law_most"] (defScope s__law_rows) := ⟨rfl, rfl, rfl, by decide +kernel, rfl, by decide +kernel, by decide +kernel⟩
abbrev s__law_page : Stmt := top 15
def N__law_page : List Str := ["_law_house_here"]
def d__law_page : Rho → Fl := sSeq (sRet (bStrM gJoin (bA (bC (D.str "\n"))) (bA (bCall m__law_lines (xCons (bVarA 0) (xNil)))))) (sNop)
def m__law_page : List D → R (D × Bool) := runF 1 d__law_page
def cc__law_page : CC := ⟨N__law_page, L_2, consL, exsL, subsL, kitsL, [], [], kdsL, 0, [], [], []⟩
theorem t__law_page : cSs cc__law_page (cRec cc__law_page 12) ⟨defScope s__law_page, defScope s__law_page⟩ 12 (defBody s__law_page) = some d__law_page := by kernel_rfl
theorem sc__law_page : FnScope N__law_page ["_law_house_here"] (defScope s__law_page) := ⟨rfl, rfl, rfl, by decide +kernel, rfl, by decide +kernel, by decide +kernel⟩
def L_3 : List (Str × Nat × (List D → R (D × Bool))) := ([("_law_rows", 4, m__law_rows), ("_law_page", 1, m__law_page)] : List (Str × Nat × (List D → R (D × Bool)))) ++ L_2
abbrev s__law_house : Stmt := top 12
def N__law_house : List Str := ["_law_feed_here", "_law_cap", "_law_most", "_law_boxes_here", "_law_posts_here", "_law_rows_here"]
def d__law_house_a_3 : Rho → Fl := sRet (bTup (bCons (bB gTuple (xCons (bVarA 3) (xNil))) (bCons (bB gTuple (xCons (bVarA 4) (xNil))) (bCons (bB gTuple (xCons (bVarA 5) (xNil))) (bNil)))))
def q__law_house_a_3 : Rho → Fl := sSeq d__law_house_a_3 sNop
def d__law_house_a_2 : Rho → Fl := sSet 5 false (bCall m__law_rows (xCons (bVarA 0) (xCons (bVarA 3) (xCons (bVarA 4) (xCons (bVarA 2) (xNil))))))
def q__law_house_a_2 : Rho → Fl := sSeq d__law_house_a_2 q__law_house_a_3
def d__law_house_a_1 : Rho → Fl := sSet 4 false (bCall m__law_posts (xCons (bVarA 0) (xCons (bVarA 1) (xNil))))
def q__law_house_a_1 : Rho → Fl := sSeq d__law_house_a_1 q__law_house_a_2
def d__law_house_a_0 : Rho → Fl := sSet 3 false (bCall m__law_boxes (xCons (bVarA 0) (xNil)))
def q__law_house_a_0 : Rho → Fl := sSeq d__law_house_a_0 q__law_house_a_1
def d__law_house : Rho → Fl := q__law_house_a_0
def m__law_house : List D → R (D × Bool) := runF 6 d__law_house
def cc__law_house : CC := ⟨N__law_house, L_3, consL, exsL, subsL, kitsL, [], [], kdsL, 0, [], [], []⟩
theorem t__law_house : cSs cc__law_house (cRec cc__law_house 12) ⟨defScope s__law_house, defScope s__law_house⟩ 12 (defBody s__law_house) = some d__law_house := by kernel_rfl
theorem sc__law_house : FnScope N__law_house ["_law_feed_here", "_law_cap", "_law_most"] (defScope s__law_house) := ⟨rfl, rfl, rfl, by decide +kernel, rfl, by decide +kernel, by decide +kernel⟩
def L_4 : List (Str × Nat × (List D → R (D × Bool))) := ([("_law_house", 3, m__law_house)] : List (Str × Nat × (List D → R (D × Bool)))) ++ L_3
abbrev s_law : Stmt := top 16
def N_law : List Str := ["_law_script", "_law_feed_here", "_law_house_here", "_law_found"]
def d_law_b1_0 : Rho → Fl := sSet 2 false (bTup (bCons (bTup (bNil)) (bCons (bTup (bNil)) (bCons (bTup (bNil)) (bNil)))))
def q_law_b1_0 : Rho → Fl := sSeq d_law_b1_0 sNop
def d_law_a_4 : Rho → Fl := sRet (bAndV (bIsi "str" (bVarA 3)) (bOp dEq (bVarA 3) (bA (bCall m__law_page (xCons (bVarA 2) (xNil))))))
def q_law_a_4 : Rho → Fl := sSeq d_law_a_4 sNop
def d_law_a_3 : Rho → Fl := sSet 3 false (bCall m_write (xCons (bVarA 2) (xNil)))
def q_law_a_3 : Rho → Fl := sSeq d_law_a_3 q_law_a_4
def d_law_a_2 : Rho → Fl := sIf (bT (bOp dEq (bA (bOp dMod (bA (bOp dIx (bVarA 1) (bA (bC (D.int 40))))) (bA (bC (D.int 8))))) (bA (bC (D.int 3)))))
 (q_law_b1_0)
 (sNop)
def q_law_a_2 : Rho → Fl := sSeq d_law_a_2 q_law_a_3
def d_law_a_1 : Rho → Fl := sSet 2 false (bCall m__law_house (xCons (bVarA 1) (xCons (bA (bC (D.int 256))) (xCons (bA (bC (D.int 40))) (xNil)))))
def q_law_a_1 : Rho → Fl := sSeq d_law_a_1 q_law_a_2
def d_law_a_0 : Rho → Fl := sSet 1 false (bCall m__law_feed (xCons (bVarA 0) (xNil)))
def q_law_a_0 : Rho → Fl := sSeq d_law_a_0 q_law_a_1
def d_law : Rho → Fl := q_law_a_0
def m_law : List D → R (D × Bool) := runF 4 d_law
def cc_law : CC := ⟨N_law, L_4, consL, exsL, subsL, kitsL, [], [], kdsL, 0, [], [], []⟩
theorem t_law : cSs cc_law (cRec cc_law 12) ⟨defScope s_law, defScope s_law⟩ 12 (defBody s_law) = some d_law := by kernel_rfl
theorem sc_law : FnScope N_law ["_law_script"] (defScope s_law) := ⟨rfl, rfl, rfl, by decide +kernel, rfl, by decide +kernel, by decide +kernel⟩
def L_5 : List (Str × Nat × (List D → R (D × Bool))) := ([("law", 1, m_law)] : List (Str × Nat × (List D → R (D × Bool)))) ++ L_4
/-! ### loops -/
theorem forL_step {g : D → Rho → R Rho} {f : Rho → Fl} {d : D} {ds : List D} {ρ ρ1 ρ2 : Rho} (h1 : g d ρ = .ok ρ1) (h2 : f ρ1 = .next ρ2) : forL g f (d :: ds) ρ = forL g f ds ρ2 := by
  show (g d ρ).fl ρ _ = _
  rw [h1]
  show (match f ρ1 with
    | .next ρ2 => forL g f ds ρ2
    | .cont ρ2 => forL g f ds ρ2
    | .brk ρ2 => .next ρ2
    | r => r) = _
  rw [h2]
theorem forL_ret {g : D → Rho → R Rho} {f : Rho → Fl} {d : D} {ds : List D} {ρ ρ1 : Rho} {p : D × Bool} (h1 : g d ρ = .ok ρ1) (h2 : f ρ1 = .ret p) : forL g f (d :: ds) ρ = .ret p := by
  show (g d ρ).fl ρ _ = _
  rw [h1]
  show (match f ρ1 with
    | .next ρ2 => forL g f ds ρ2
    | .cont ρ2 => forL g f ds ρ2
    | .brk ρ2 => .next ρ2
    | r => r) = _
  rw [h2]
theorem forL_nil {g : D → Rho → R Rho} {f : Rho → Fl} {ρ : Rho} : forL g f [] ρ = .next ρ := rfl
/-- what holds before each turn, by the number of turns -/
theorem forL_inv {g : D → Rho → R Rho} {f : Rho → Fl} (P : Nat → Rho → Prop) : ∀ {ds : List D} {k : Nat} {ρ : Rho}, P k ρ → (∀ i d ρ, i < k + ds.length → d ∈ ds → P i ρ → ∃ ρ1 ρ2, g d ρ = .ok ρ1 ∧ f ρ1 = .next ρ2 ∧ P (i + 1) ρ2) → ∃ ρ', forL g f ds ρ = .next ρ' ∧ P (k + ds.length) ρ'
  | [], k, ρ, h, _ => ⟨ρ, rfl, h⟩
  | d :: ds, k, ρ, h, st => by
    have e0 : k + (d :: ds).length = k + 1 + ds.length := by rw [List.length_cons]; omega
    obtain ⟨ρ1, ρ2, h1, h2, h3⟩ := st k d ρ (by rw [e0]; omega) List.mem_cons_self h
    obtain ⟨ρ', e, q⟩ := forL_inv P (ds := ds) h3 fun i d ρ hi hd => st i d ρ (by rw [e0]; exact hi) (List.mem_cons_of_mem _ hd)
    exact ⟨ρ', by rw [forL_step h1 h2]; exact e, by rw [e0]; exact q⟩
theorem rng_len (a b : Int) : (rngL a b).length = (b - a).toNat := by unfold rngL; simp
theorem rng_mem {a b : Int} {d : D} (h : d ∈ rngL a b) : ∃ i : Int, d = .int i ∧ a ≤ i ∧ i < b := by
  unfold rngL at h
  obtain ⟨i, hi, rfl⟩ := List.mem_map.mp h
  rw [List.mem_range] at hi
  exact ⟨a + i, rfl, by omega, by omega⟩
theorem intsD_map : ∀ ns : List Int, intsD (ns.map D.int) = some ns
  | [] => rfl
  | n :: ns => by show (intsD (ns.map D.int)).map (n :: ·) = _; rw [intsD_map]; rfl
theorem pymod_pos {a b : Int} (h : 0 < b) : pyMod a b = a % b := if_pos h
theorem pydiv_pos {a b : Int} (h : 0 < b) : pyDiv a b = a / b := if_pos h
theorem log2_small {n k : Nat} (h : n < 2 ^ k) (hk : 0 < k) : n.log2 < k := by
  by_cases h0 : n = 0
  · subst h0; simpa using hk
  · exact (Nat.log2_lt h0).mpr h
theorem mul_ok {x y : Int} (hx : x.natAbs < 2 ^ 1000) (hy : y.natAbs < 2 ^ 1000) : mulOk x y := by
  have h1 := log2_small hx (by decide)
  have h2 := log2_small hy (by decide)
  show _ + _ < _
  omega
theorem two1000 : (1267650600228229401496703205376 : Nat) ≤ 2 ^ 1000 := by decide +kernel
theorem mul_okS {x y : Int} (hx : x.natAbs < 1267650600228229401496703205376) (hy : y.natAbs < 1267650600228229401496703205376) : mulOk x y := mul_ok (Nat.lt_of_lt_of_le hx two1000) (Nat.lt_of_lt_of_le hy two1000)
theorem div_okS {y : Int} (h0 : y ≠ 0) (hy : y.natAbs < 1267650600228229401496703205376) : divOk y := ⟨h0, by
  have := log2_small (Nat.lt_of_lt_of_le hy two1000) (by decide)
  omega⟩
theorem smI_ofS {j : Int} (h0 : -1000000000 ≤ j) (h1 : j ≤ 1000000000) : smI j = true := smI_of (by
  have : (2 : Nat) ^ 61 = 2305843009213693952 := by decide +kernel
  omega)
theorem smI_0 : smI 0 = true := smI_ofS (by omega) (by omega)
theorem smI_1 : smI 1 = true := smI_ofS (by omega) (by omega)
theorem smI_2 : smI 2 = true := smI_ofS (by omega) (by omega)
theorem smI_3 : smI 3 = true := smI_ofS (by omega) (by omega)
theorem smI_5 : smI 5 = true := smI_ofS (by omega) (by omega)
theorem smI_6 : smI 6 = true := smI_ofS (by omega) (by omega)
theorem smI_60 : smI 60 = true := smI_ofS (by omega) (by omega)
theorem rng1_ok {b : Int} (h0 : -100000 ≤ b) (h1 : b ≤ 100000) : rngD [.int b] = .ok (rngL 0 b) := if_pos (smI_ofS (by omega) (by omega))
theorem rng2_ok {a b : Int} (a0 : -100000 ≤ a) (a1 : a ≤ 100000) (h0 : -100000 ≤ b) (h1 : b ≤ 100000) : rngD [.int a, .int b] = .ok (rngL a b) := if_pos ⟨smI_ofS (by omega) (by omega), smI_ofS (by omega) (by omega)⟩
theorem gtuple_l (xs : List D) : gTuple [.lst xs] = .ok (.tup xs, false) := rfl
theorem s0_ok : (0 : Nat) ≤ sizeLine := by decide
theorem forL_exc {g : D → Rho → R Rho} {f : Rho → Fl} {d : D} {ds : List D} {ρ ρ1 ρ2 : Rho} {c : Str} {fs : List (Str × D)} (h1 : g d ρ = .ok ρ1) (h2 : f ρ1 = .exc ρ2 c fs) : forL g f (d :: ds) ρ = .exc ρ2 c fs := by
  show (g d ρ).fl ρ _ = _
  rw [h1]
  show (match f ρ1 with
    | .next ρ2 => forL g f ds ρ2
    | .cont ρ2 => forL g f ds ρ2
    | .brk ρ2 => .next ρ2
    | r => r) = _
  rw [h2]
theorem forL_cut {g : D → Rho → R Rho} {f : Rho → Fl} {ys : List D} {P : Rho → Prop} : ∀ {xs : List D} {ρ : Rho}, P ρ → (∀ d ∈ xs, ∀ ρ, P ρ → ∃ ρ1 ρ2, g d ρ = .ok ρ1 ∧ f ρ1 = .next ρ2 ∧ P ρ2) → ∃ ρ', P ρ' ∧ forL g f (xs ++ ys) ρ = forL g f ys ρ'
  | [], ρ, h, _ => ⟨ρ, h, rfl⟩
  | d :: xs, ρ, h, st => by
    obtain ⟨ρ1, ρ2, e1, e2, h2⟩ := st d List.mem_cons_self ρ h
    obtain ⟨ρ', h3, e3⟩ := forL_cut (xs := xs) (ys := ys) h2 fun d hd => st d (List.mem_cons_of_mem _ hd)
    exact ⟨ρ', h3, by rw [List.cons_append, forL_step e1 e2]; exact e3⟩
/-! ### the numbers that a law draws from its script -/
def Fed (fs : List Int) : Prop := ∀ x ∈ fs, 0 ≤ x ∧ x < 55440
theorem Fed.app {fs : List Int} (h : Fed fs) {z : Int} (hz : 0 ≤ z ∧ z < 55440) : Fed (fs ++ [z]) := fun x hx => by
  rcases List.mem_append.mp hx with h1 | h1
  · exact h x h1
  · rw [List.mem_singleton.mp h1]; exact hz
theorem Fed.sum : ∀ {fs : List Int}, Fed fs → 0 ≤ fs.sum ∧ fs.sum ≤ 55440 * (fs.length : Int)
  | [], _ => by simp
  | x :: fs, h => by
    have h1 := h x List.mem_cons_self
    have h2 := Fed.sum (fs := fs) fun y hy => h y (List.mem_cons_of_mem _ hy)
    rw [List.sum_cons, List.length_cons]
    omega
theorem mod_rng (z : Int) : 0 ≤ z % 55440 ∧ z % 55440 < 55440 := ⟨Int.emod_nonneg _ (by decide), Int.emod_lt_of_pos _ (by decide)⟩
theorem map_app (fs : List Int) (z : Int) : fs.map D.int ++ [.int z] = (fs ++ [z]).map D.int := by simp
theorem div_13 : divOk 13 := by decide +kernel
theorem div_55440 : divOk 55440 := by decide +kernel
theorem feed_b7 (s r2 r3 r4 : Option (D × Bool)) (fs : List Int) (q : Int) (hl : fs.length < 1000) (h0 : 0 ≤ q) (h1 : q < 2147483648) :
    q__law_feed_b7_0 [s, some (.lst (fs.map .int), true), r2, r3, r4, some (.int q, false)] = .next [s, some (.lst ((fs ++ [(q * 48271 + 7919) % 2147483647 / 13 % 55440]).map .int), true), r2, r3, r4, some (.int ((q * 48271 + 7919) % 2147483647), false)] := by
  have mo : mulOk q 48271 := mul_okS (by omega) (by decide)
  have sz : fs.length < sizeLine := Nat.lt_trans hl (by decide)
  simp [q__law_feed_b7_0, d__law_feed_b7_0, q__law_feed_b7_1, d__law_feed_b7_1, sApp, mo, pymod_pos, pydiv_pos, div_13, sz]
theorem feed_b8 (s r2 r3 r4 : Option (D × Bool)) (fs : List Int) (q : Int) (hl : fs.length < 1000) (h0 : 0 ≤ q) (h1 : q < 2147483648) :
    q__law_feed_b8_0 [s, some (.lst (fs.map .int), true), r2, r3, r4, some (.int q, false)] = .next [s, some (.lst ((fs ++ [(q * 16807 + 12345) % 2147483629 / 13 % 55440]).map .int), true), r2, r3, r4, some (.int ((q * 16807 + 12345) % 2147483629), false)] := by
  have mo : mulOk q 16807 := mul_okS (by omega) (by decide)
  have sz : fs.length < sizeLine := Nat.lt_trans hl (by decide)
  simp [q__law_feed_b8_0, d__law_feed_b8_0, q__law_feed_b8_1, d__law_feed_b8_1, sApp, mo, pymod_pos, pydiv_pos, div_13, sz]
/-- a turn of the first loop -/
def FedAt (s : Option (D × Bool)) (n : Nat) (ρ : Rho) : Prop := ∃ (fs : List Int) (r2 r3 r4 r5 : Option (D × Bool)), ρ = [s, some (.lst (fs.map .int), true), r2, r3, r4, r5] ∧ Fed fs ∧ fs.length ≤ n
theorem feed_b4 (s : Option (D × Bool)) (L : Nat) (hL : L < 900) (fs : List Int) (r2 r4 r5 : Option (D × Bool)) (left : Int) (hf : Fed fs) (hl : fs.length ≤ L) : ∃ (fs' : List Int) (left' : Int), q__law_feed_b4_0 [s, some (.lst (fs.map .int), true), r2, some (.int left, false), r4, r5] = .next [s, some (.lst (fs'.map .int), true), r2, some (.int left', false), r4, r5] ∧ Fed fs' ∧ fs'.length ≤ L + 1 := by
  have sz : fs.length < sizeLine := Nat.lt_of_le_of_lt hl (Nat.lt_trans hL (by decide))
  by_cases h : 0 < left
  · refine ⟨fs ++ [left % 55440], left / 55440, ?_, hf.app (mod_rng _), by simp; omega⟩
    simp [q__law_feed_b4_0, d__law_feed_b4_0, q__law_feed_b5_0, d__law_feed_b5_0, q__law_feed_b5_1, d__law_feed_b5_1, sApp, h, pymod_pos, pydiv_pos, div_55440, sz]
  · refine ⟨fs, left, ?_, hf, by omega⟩
    simp [q__law_feed_b4_0, d__law_feed_b4_0, h]
theorem pow18 : powOk 10 18 := by decide
theorem ten18 : (10 : Int) ^ (18 : Int).toNat = 1000000000000000000 := by decide +kernel
theorem feed_b1 (s : Option (D × Bool)) (fs : List Int) (c : Int) (r3 r4 r5 : Option (D × Bool)) (hf : Fed fs) (hl : fs.length ≤ 329) : ∃ ρ', q__law_feed_b1_0 [s, some (.lst (fs.map .int), true), some (.int c, false), r3, r4, r5] = .next ρ' ∧ FedAt s 329 ρ' := by
  by_cases h : (fs.length : Int) < 270
  · generalize hA : (if c < 0 then -c else c) = left
    have l0 : 0 ≤ left := by rw [← hA]; split <;> omega
    by_cases hb : (1000000000000000000 : Int) ≤ left
    · obtain ⟨ρ', e, fs', left', r4', e', hf', hl'⟩ := forL_inv (g := gN 4) (f := q__law_feed_b4_0) (ds := rngL 0 60) (k := 0) (ρ := [s, some (.lst (fs.map .int), true), some (.int c, false), some (.int left, false), r4, r5])
        (fun i ρ => ∃ (fs' : List Int) (left' : Int) (r4' : Option (D × Bool)), ρ = [s, some (.lst (fs'.map .int), true), some (.int c, false), some (.int left', false), r4', r5] ∧ Fed fs' ∧ fs'.length ≤ 269 + i) ⟨fs, left, r4, rfl, hf, by omega⟩ (by
          rintro i d ρ hi hd ⟨fs1, l1, q4, rfl, h1, h2⟩
          rw [rng_len] at hi
          obtain ⟨fs2, l2, e2, h3, h4⟩ := feed_b4 s (269 + i) (by omega) fs1 (some (.int c, false)) (some (d, false)) r5 l1 h1 h2
          exact ⟨_, _, rfl, e2, fs2, l2, _, rfl, h3, by omega⟩)
      refine ⟨ρ', ?_, fs', _, _, _, _, e', hf', by rw [rng_len] at hl'; simpa using hl'⟩
      simp [q__law_feed_b1_0, d__law_feed_b1_0, q__law_feed_b2_0, d__law_feed_b2_0, q__law_feed_b2_1, d__law_feed_b2_1, q__law_feed_b3_0, d__law_feed_b3_0, h, hA, pow18, ten18, hb, bRng, rngD, smI_60, smI_6, e]
    · obtain ⟨ρ', e, fs', q', r4', e', hf', hq0, hq1, hl'⟩ := forL_inv (g := gN 4) (f := q__law_feed_b7_0) (ds := rngL 0 6) (k := 0) (ρ := [s, some (.lst (fs.map .int), true), some (.int c, false), some (.int left, false), r4, some (.int (((2 * left + (if c < 0 then 1 else 0)) * 69621 + 11) % 2147483629), false)])
        (fun i ρ => ∃ (fs' : List Int) (q' : Int) (r4' : Option (D × Bool)), ρ = [s, some (.lst (fs'.map .int), true), some (.int c, false), some (.int left, false), r4', some (.int q', false)] ∧ Fed fs' ∧ 0 ≤ q' ∧ q' < 2147483648 ∧ fs'.length ≤ 269 + i) ⟨fs, _, r4, rfl, hf, Int.emod_nonneg _ (by decide), Int.lt_trans (Int.emod_lt_of_pos _ (by decide)) (by decide), by omega⟩ (by
          rintro i d ρ hi hd ⟨fs1, q1, q4, rfl, h1, h2, h3, h4⟩
          rw [rng_len] at hi
          exact ⟨_, _, rfl, feed_b7 s (some (.int c, false)) (some (.int left, false)) (some (d, false)) fs1 q1 (by omega) h2 h3, _, _, _, rfl, h1.app (mod_rng _), Int.emod_nonneg _ (by decide), Int.lt_trans (Int.emod_lt_of_pos _ (by decide)) (by decide), by rw [List.length_append, List.length_singleton]; omega⟩)
      refine ⟨ρ', ?_, fs', _, _, _, _, e', hf', by
        rw [rng_len] at hl'
        have : fs'.length ≤ 269 + (0 + 6) := hl'
        omega⟩
      have m1 : mulOk 2 left := mul_okS (by decide) (by omega)
      have m2 : mulOk (2 * left + (if c < 0 then 1 else 0)) 69621 := mul_okS (by split <;> omega) (by decide)
      simp [q__law_feed_b1_0, d__law_feed_b1_0, q__law_feed_b2_0, d__law_feed_b2_0, q__law_feed_b2_1, d__law_feed_b2_1, q__law_feed_b6_0, d__law_feed_b6_0, q__law_feed_b6_1, d__law_feed_b6_1, h, hA, pow18, ten18, hb, bRng, rngD, smI_6, m1, m2, pymod_pos, e]
  · refine ⟨[s, some (.lst (fs.map .int), true), some (.int c, false), r3, r4, r5], ?_, fs, _, _, _, _, rfl, hf, hl⟩
    simp [q__law_feed_b1_0, d__law_feed_b1_0, h]
/-- 270 numbers and more, all below 55440 -/
theorem feed_ok (ns : List Int) : ∃ fs : List Int, 270 ≤ fs.length ∧ fs.length ≤ 329 ∧ Fed fs ∧ m__law_feed [.scr ns] = .ok (.lst (fs.map .int), true) := by
  obtain ⟨ρ1, e1, fs, r2, r3, r4, r5, eρ, hf, hl⟩ := forL_inv (g := gN 2) (f := q__law_feed_b1_0) (ds := ns.map D.int) (k := 0) (ρ := [some (.scr ns, false), some (.lst [], true), none, none, none, none])
    (fun _ ρ => FedAt (some (.scr ns, false)) 329 ρ) ⟨[], _, _, _, _, rfl, (fun _ h => by cases h), by decide⟩ (by
      rintro i d ρ hi hd ⟨fs, r2, r3, r4, r5, rfl, hf, hl⟩
      obtain ⟨c, _, rfl⟩ := List.mem_map.mp hd
      obtain ⟨ρ', e, q⟩ := feed_b1 (some (.scr ns, false)) fs c r3 r4 r5 hf hl
      exact ⟨_, ρ', rfl, e, q⟩)
  have sm := hf.sum
  have sb : fs.sum ≤ 55440 * 329 := by omega
  obtain ⟨ρ2, e2, fs2, q2, t4, eρ2, hf2, hq0, hq1, hl2, hg2⟩ := forL_inv (g := gN 4) (f := q__law_feed_b8_0) (ds := rngL 0 (270 - (fs.length : Int))) (k := 0) (ρ := [some (.scr ns, false), some (.lst (fs.map .int), true), r2, r3, r4, some (.int (271 + (fs.length : Int) + fs.sum), false)])
    (fun i ρ => ∃ (fs' : List Int) (q' : Int) (r4' : Option (D × Bool)), ρ = [some (.scr ns, false), some (.lst (fs'.map .int), true), r2, r3, r4', some (.int q', false)] ∧ Fed fs' ∧ 0 ≤ q' ∧ q' < 2147483648 ∧ fs'.length ≤ fs.length + i ∧ fs.length + i ≤ fs'.length) ⟨fs, _, r4, rfl, hf, by omega, by omega, by omega, by omega⟩ (by
      rintro i d ρ hi hd ⟨fs1, q1, q4, rfl, h1, h2, h3, h4, h5⟩
      rw [rng_len] at hi
      exact ⟨_, _, rfl, feed_b8 (some (.scr ns, false)) r2 r3 (some (d, false)) fs1 q1 (by omega) h2 h3, _, _, _, rfl, h1.app (mod_rng _), Int.emod_nonneg _ (by decide), Int.lt_trans (Int.emod_lt_of_pos _ (by decide)) (by decide), by rw [List.length_append, List.length_singleton]; omega, by rw [List.length_append, List.length_singleton]; omega⟩)
  rw [rng_len] at hl2 hg2
  refine ⟨fs2, by omega, by omega, hf2, ?_⟩
  subst eρ; subst eρ2
  have j1 : smI (270 - (fs.length : Int)) = true := smI_ofS (by omega) (by omega)
  have gs : gSum [.lst (fs.map .int)] = .ok (.int fs.sum, false) := by
    show (match intsD (fs.map .int) with
      | some ns => okI ns.sum
      | none => R.bad) = _
    rw [intsD_map]; rfl
  unfold m__law_feed runF
  simp [d__law_feed, q__law_feed_a_0, d__law_feed_a_0, q__law_feed_a_1, d__law_feed_a_1, q__law_feed_a_2, d__law_feed_a_2, q__law_feed_a_3, d__law_feed_a_3, q__law_feed_a_4, d__law_feed_a_4, bIt, itD, e1, gs, bRng, rngD, j1, e2]
/-! ### names, boxes, posts -/
def small (c : Nat) : Bool := decide (97 ≤ c) && decide (c ≤ 122)
def NameOk (z : Str) : Prop := 1 ≤ z.length ∧ z.length ≤ 8 ∧ z.cps.toList.all small = true
def zA : Str := "abcdefghijklmnopqrstuvwxyz"
theorem lenA : zA.length = 26 := by decide +kernel
theorem allA : zA.cps.toList.all small = true := by decide +kernel
theorem nameOk_dec {z : Str} (h : (decide (1 ≤ z.length) && decide (z.length ≤ 8) && z.cps.toList.all small) = true) : NameOk z := by
  rw [Bool.and_eq_true, Bool.and_eq_true, decide_eq_true_eq, decide_eq_true_eq] at h
  exact ⟨h.1.1, h.1.2, h.2⟩
theorem dix_4 (a b c d : D) (i : Int) (h0 : 0 ≤ i) (h4 : i < 4) : dIx (.lst [a, b, c, d]) (.int i) = .ok (if i = 0 then a else if i = 1 then b else if i = 2 then c else d, false) := by
  have h : i = 0 ∨ i = 1 ∨ i = 2 ∨ i = 3 := by omega
  rcases h with rfl | rfl | rfl | rfl <;> rfl
def nmD : D → Str
  | .tup (.str z :: _) => z
  | _ => ""
theorem dix_lst {fs : List Int} {i : Int} (h0 : 0 ≤ i) (h1 : i < fs.length) : ∃ x, x ∈ fs ∧ dIx (.lst (fs.map .int)) (.int i) = .ok (.int x, false) := by
  have hl : i.toNat < fs.length := by omega
  refine ⟨fs[i.toNat], List.getElem_mem hl, ?_⟩
  have e : L2.atI (fs.map D.int) i = some (.int fs[i.toNat]) := by
    unfold L2.atI L2.ixN
    rw [if_pos h0, if_pos (by rw [List.length_map]; exact h1)]
    show (fs.map D.int)[i.toNat]? = _
    rw [List.getElem?_map, List.getElem?_eq_getElem hl]; rfl
  show (match L2.atI (fs.map D.int) i with
    | some d => R.ok (d, false)
    | none => .bad) = _
  rw [e]
def BoxOk (d : D) : Prop := ∃ (z : Str) (size start : Int), d = .tup [.str z, .int size, .int start] ∧ NameOk z ∧ (1 ≤ size ∧ size ≤ 9) ∧ 0 ≤ start ∧ start < size
theorem s2_ok : (2 : Nat) ≤ sizeLine := by decide
theorem s3_ok : (3 : Nat) ≤ sizeLine := by decide
theorem s4_ok : (4 : Nat) ≤ sizeLine := by decide
theorem nodup_snoc {α : Type} {xs : List α} {x : α} (h : xs.Nodup) (n : x ∉ xs) : (xs ++ [x]).Nodup := List.nodup_append.mpr ⟨h, List.nodup_cons.mpr ⟨List.not_mem_nil, List.nodup_nil⟩, fun a ha b hb e => n (by
  rw [← List.mem_singleton.mp hb, ← e]; exact ha)⟩
def zB : Str := "back"
def zOn : Str := "on"
def zH : Str := "held"
def PostOk (d : D) : Prop := ∃ (z : Str) (size : Int) (way : Str) (letter : Int), d = .tup [.str z, .int size, .str way, .int letter] ∧ NameOk z ∧ (1 ≤ size ∧ size ≤ 9) ∧ (way = zB ∨ way = zOn ∨ way = zH) ∧ 0 ≤ letter ∧ letter < size
def szD : D → Int
  | .tup (_ :: .int s :: _) => s
  | _ => 1
def prodD : List D → Int
  | [] => 1
  | d :: ds => szD d * prodD ds
theorem prodD_app : ∀ (ds : List D) (d : D), prodD (ds ++ [d]) = prodD ds * szD d
  | [], d => by show szD d * 1 = 1 * szD d; omega
  | e :: ds, d => by
    show szD e * prodD (ds ++ [d]) = szD e * prodD ds * szD d
    rw [prodD_app ds d, Int.mul_assoc]
theorem s12_ok : (12 : Nat) ≤ sizeLine := by decide
theorem s5_ok : (5 : Nat) ≤ sizeLine := by decide
theorem dix_3 (a b c : D) (i : Int) (h0 : 0 ≤ i) (h3 : i < 3) : dIx (.lst [a, b, c]) (.int i) = .ok (if i = 0 then a else if i = 1 then b else c, false) := by
  have h : i = 0 ∨ i = 1 ∨ i = 2 := by omega
  rcases h with rfl | rfl | rfl <;> rfl
/-! ### tables -/
theorem dix_strM {z : Str} {i : Int} (hz : z.length ≤ sizeLine) (h0 : 0 ≤ i) (h1 : i < z.length) : ∃ c, c ∈ z.cps.toList ∧ dIx (.str z) (.int i) = .ok (.str ⟨#[c]⟩, false) := by
  have hl : i.toNat < z.cps.toList.length := by
    have : z.length = z.cps.toList.length := by rw [Array.length_toList]; rfl
    omega
  refine ⟨z.cps.toList[i.toNat], List.getElem_mem hl, ?_⟩
  have e : L2.atI z.cps.toList i = some z.cps.toList[i.toNat] := by
    unfold L2.atI L2.ixN
    rw [if_pos h0, if_pos (by omega)]
    show z.cps.toList[i.toNat]? = _
    exact List.getElem?_eq_getElem hl
  show (if z.length ≤ sizeLine then (match L2.atI z.cps.toList i with
      | some c => R.ok (D.str ⟨#[c]⟩, false)
      | none => .bad) else .bad) = _
  rw [if_pos hz, e]
theorem app_toList (a b : Str) : (a ++ b).cps.toList = a.cps.toList ++ b.cps.toList ∧ (a ++ b).length = a.length + b.length := by
  constructor
  · show (a.cps ++ b.cps).toList = _
    simp
  · show (a.cps ++ b.cps).size = a.cps.size + b.cps.size
    simp
def zM : Str := "mistral"
theorem cut_at : ∀ a : Fin 8, (cutS zM none (some (a.val : Int))).cps.toList.length = a.val := by decide +kernel
theorem zA_at : ∀ a : Fin 26, zA.cps.toList[a.val]? = some (97 + a.val) := by decide +kernel
theorem cut_ok : ∀ a : Fin 8, (cutS zM none (some (a.val : Int))).length + (cutS zM (some (a.val : Int)) none).length = 7 ∧ (cutS zM none (some (a.val : Int))).cps.toList.all small = true ∧ (cutS zM (some (a.val : Int)) none).cps.toList.all small = true := by decide +kernel
def wordsS : List Str := ["set", "back", "box", "post", "on", "copy", "turn", "a"]
def wordsL : List D := [.str "set", .str "back", .str "box", .str "post", .str "on", .str "copy", .str "turn", .str "a"]
theorem words_ok (i : Int) (h0 : 0 ≤ i) (h8 : i < 8) : ∃ w, dIx (.lst wordsL) (.int i) = .ok (.str w, false) ∧ NameOk w ∧ wordsS[i.toNat]? = some w := by
  have h : i = 0 ∨ i = 1 ∨ i = 2 ∨ i = 3 ∨ i = 4 ∨ i = 5 ∨ i = 6 ∨ i = 7 := by omega
  rcases h with rfl | rfl | rfl | rfl | rfl | rfl | rfl | rfl
  · exact ⟨_, rfl, nameOk_dec (by decide +kernel), rfl⟩
  · exact ⟨_, rfl, nameOk_dec (by decide +kernel), rfl⟩
  · exact ⟨_, rfl, nameOk_dec (by decide +kernel), rfl⟩
  · exact ⟨_, rfl, nameOk_dec (by decide +kernel), rfl⟩
  · exact ⟨_, rfl, nameOk_dec (by decide +kernel), rfl⟩
  · exact ⟨_, rfl, nameOk_dec (by decide +kernel), rfl⟩
  · exact ⟨_, rfl, nameOk_dec (by decide +kernel), rfl⟩
  · exact ⟨_, rfl, nameOk_dec (by decide +kernel), rfl⟩
theorem dadd_str {a b : Str} (h : a.length + b.length ≤ 100) : dAdd (.str a) (.str b) = .ok (.str (a ++ b), false) := by
  have : (100 : Nat) ≤ sizeLine := by decide
  show (if a.length + b.length ≤ sizeLine then R.ok (D.str (a ++ b), false) else .bad) = _
  rw [if_pos (by omega)]
theorem dix_strG {z : Str} {i : Int} {c : Nat} (hz : z.length ≤ sizeLine) (h0 : 0 ≤ i) (h1 : z.cps.toList[i.toNat]? = some c) : dIx (.str z) (.int i) = .ok (.str ⟨#[c]⟩, false) := by
  have hl := (List.getElem?_eq_some_iff.mp h1).1
  have hz2 : z.length = z.cps.toList.length := by rw [Array.length_toList]; rfl
  have e : L2.atI z.cps.toList i = some c := by
    unfold L2.atI L2.ixN
    rw [if_pos h0, if_pos (by omega)]
    exact h1
  show (if z.length ≤ sizeLine then (match L2.atI z.cps.toList i with
      | some c => R.ok (D.str ⟨#[c]⟩, false)
      | none => .bad) else .bad) = _
  rw [if_pos hz, e]
/-- what tells a name's number -/
def Tag (p k : Int) (z : Str) : Prop := (p % 4 ≠ 3 → z.cps.toList[if p % 4 = 1 then (p / 4 % 8).toNat else 0]? = some (97 + ((p / 32 + 11 * k) % 26).toNat)) ∧ (p % 4 = 3 → wordsS[((p / 4 % 8 + k) % 8).toNat]? = some z) ∧ z ≠ "nobody"
theorem words_nb : ∀ i : Fin 8, wordsS[i.val]? ≠ some "nobody" := by decide +kernel
theorem nb_list : (Str.ofString "nobody").cps.toList = [110, 111, 98, 111, 100, 121] := by decide +kernel
theorem nb_len : (Str.ofString "nobody").length = 6 := by decide +kernel
theorem words_inj : ∀ i j : Fin 8, wordsS[i.val]? = wordsS[j.val]? → i = j := by decide +kernel
theorem tag_inj {p k k' : Int} {z : Str} (h : Tag p k z) (h' : Tag p k' z) (h0 : 0 ≤ k) (h1 : k ≤ 7) (h2 : 0 ≤ k') (h3 : k' ≤ 7) : k = k' := by
  by_cases c : p % 4 = 3
  · have e := (h.2.1 c).trans (h'.2.1 c).symm
    have a0 := Int.emod_nonneg (p / 4 % 8 + k) (b := 8) (by decide)
    have a8 := Int.emod_lt_of_pos (p / 4 % 8 + k) (b := 8) (by decide)
    have b0 := Int.emod_nonneg (p / 4 % 8 + k') (b := 8) (by decide)
    have b8 := Int.emod_lt_of_pos (p / 4 % 8 + k') (b := 8) (by decide)
    have e2 := congrArg Fin.val (words_inj ⟨((p / 4 % 8 + k) % 8).toNat, by omega⟩ ⟨((p / 4 % 8 + k') % 8).toNat, by omega⟩ e)
    have e3 : ((p / 4 % 8 + k) % 8).toNat = ((p / 4 % 8 + k') % 8).toNat := e2
    omega
  · have e := (h.1 c).symm.trans (h'.1 c)
    have e2 := Option.some.inj e
    have a0 := Int.emod_nonneg (p / 32 + 11 * k) (b := 26) (by decide)
    have b0 := Int.emod_nonneg (p / 32 + 11 * k') (b := 26) (by decide)
    omega
theorem name_ok (p k : Int) (hp : 0 ≤ p) (hk : 0 ≤ k) (hk2 : k ≤ 1000) (hp2 : p < 100000) : ∃ z, m__law_name [.int p, .int k] = .ok (.str z, false) ∧ NameOk z ∧ Tag p k z := by
  have d4 : divOk 4 := by decide +kernel
  have d32 : divOk 32 := by decide +kernel
  have s100 : (100 : Nat) ≤ sizeLine := by decide
  have q0' := Int.emod_nonneg (p / 32 + 11 * k) (b := 26) (by decide)
  have q1' := Int.emod_lt_of_pos (p / 32 + 11 * k) (b := 26) (by decide)
  have hz' := zA_at ⟨((p / 32 + 11 * k) % 26).toNat, by omega⟩
  have ec := dix_strG (z := zA) (i := (p / 32 + 11 * k) % 26) (by rw [lenA]; decide) q0' hz'
  have hc := List.mem_of_getElem? hz'
  generalize hC : 97 + (⟨((p / 32 + 11 * k) % 26).toNat, by omega⟩ : Fin 26).val = c at ec hc
  have hC' : 97 + ((p / 32 + 11 * k) % 26).toNat = c := hC
  have sc : small c = true := List.all_eq_true.mp allA c hc
  have mo1 : mulOk 11 k := mul_okS (by decide) (by omega)
  have mo3 : mulOk 3 k := mul_okS (by decide) (by omega)
  have a0 : 0 ≤ p / 4 % 8 := Int.emod_nonneg _ (by decide)
  have a8 : p / 4 % 8 < 8 := Int.emod_lt_of_pos _ (by decide)
  generalize hA : p / 4 % 8 = a at a0 a8
  obtain ⟨w, ew, hw, tw⟩ := words_ok ((a + k) % 8) (Int.emod_nonneg _ (by decide)) (Int.emod_lt_of_pos _ (by decide))
  have ct := cut_ok ⟨a.toNat, by omega⟩
  have ea : ((a.toNat : Nat) : Int) = a := by omega
  have cl := cut_at ⟨a.toNat, by omega⟩
  rw [ea] at ct
  have cl' : (cutS zM none (some a)).cps.toList.length = a.toNat := by
    have := cl
    rw [ea] at this
    exact this
  have x1 : dSl (.str zM) none (some a) = .ok (.str (cutS zM none (some a)), false) := by
    show (if zM.length ≤ sizeLine then R.ok (D.str (cutS zM none (some a)), false) else .bad) = _
    rw [if_pos (by decide +kernel)]
  have x2 : dSl (.str zM) (some a) none = .ok (.str (cutS zM (some a) none), false) := by
    show (if zM.length ≤ sizeLine then R.ok (D.str (cutS zM (some a) none), false) else .bad) = _
    rw [if_pos (by decide +kernel)]
  generalize cutS zM none (some a) = m1 at ct x1 cl'
  generalize cutS zM (some a) none = m2 at ct x2
  have lc : (⟨#[c]⟩ : Str).length = 1 := rfl
  have y1 : dAdd (.str m1) (.str ⟨#[c]⟩) = .ok (.str (m1 ++ ⟨#[c]⟩), false) := dadd_str (by omega)
  have l1 := (app_toList m1 ⟨#[c]⟩).2
  have y2 : dAdd (.str (m1 ++ ⟨#[c]⟩)) (.str m2) = .ok (.str (m1 ++ ⟨#[c]⟩ ++ m2), false) := dadd_str (by omega)
  have l2 := (app_toList (m1 ++ ⟨#[c]⟩) m2).2
  have n0 : 0 ≤ (a + 3 * k) % 8 := Int.emod_nonneg _ (by decide)
  have n8 : (a + 3 * k) % 8 < 8 := Int.emod_lt_of_pos _ (by decide)
  have y3 : dMul (.str ⟨#[c]⟩) (.int (1 + (a + 3 * k) % 8)) = .ok (.str (Txt.mul ⟨#[c]⟩ (1 + (a + 3 * k) % 8)), false) := by
    show (if smulOk ⟨#[c]⟩ (1 + (a + 3 * k) % 8) then R.ok (D.str (Txt.mul ⟨#[c]⟩ (1 + (a + 3 * k) % 8)), false) else .bad) = _
    rw [if_pos ⟨by omega, by rw [lc]; omega, by omega⟩]
  have t3 := PyProof.Rows.mul_one_list c (1 + (a + 3 * k) % 8)
  generalize hN : 1 + (a + 3 * k) % 8 = n at y3 t3
  generalize Txt.mul ⟨#[c]⟩ n = m3 at y3 t3
  have ok0 : NameOk ⟨#[c]⟩ := ⟨by rw [lc]; exact Nat.le_refl _, by rw [lc]; decide, by simp [sc]⟩
  have ok1 : NameOk (m1 ++ ⟨#[c]⟩ ++ m2) := ⟨by omega, by omega, by
    rw [(app_toList _ m2).1, (app_toList m1 _).1, List.all_append, List.all_append, ct.2.1, ct.2.2]
    simp [sc]⟩
  have l3 : m3.length = n.toNat := by
    have : m3.length = m3.cps.toList.length := by rw [Array.length_toList]; rfl
    rw [this, t3, List.length_replicate]
  have ok2 : NameOk m3 := ⟨by omega, by omega, by rw [t3]; simp [sc]⟩
  have i0 : 0 ≤ p % 4 := Int.emod_nonneg _ (by decide)
  have i4 : p % 4 < 4 := Int.emod_lt_of_pos _ (by decide)
  have last := dix_4 (.str ⟨#[c]⟩) (.str (m1 ++ ⟨#[c]⟩ ++ m2)) (.str m3) (.str w) (p % 4) i0 i4
  have al : dAdd (.lst [.str ⟨#[c]⟩, .str (m1 ++ ⟨#[c]⟩ ++ m2), .str m3]) (.lst [.str w]) = .ok (.lst [.str ⟨#[c]⟩, .str (m1 ++ ⟨#[c]⟩ ++ m2), .str m3, .str w], true) := rfl
  have s8 : (8 : Nat) ≤ sizeLine := by decide
  have s3 : (3 : Nat) ≤ sizeLine := by decide
  have s1 : (1 : Nat) ≤ sizeLine := by decide
  have res : m__law_name [.int p, .int k] = .ok (if p % 4 = 0 then .str ⟨#[c]⟩ else if p % 4 = 1 then .str (m1 ++ ⟨#[c]⟩ ++ m2) else if p % 4 = 2 then .str m3 else .str w, false) := by
    unfold zA at ec
    unfold zM at x1 x2
    unfold wordsL at ew
    unfold m__law_name runF
    simp [d__law_name_a_4, q__law_name_a_4, d__law_name_a_3, q__law_name_a_3, d__law_name_a_2, q__law_name_a_2, d__law_name_a_1, q__law_name_a_1, d__law_name_a_0, q__law_name_a_0, d__law_name, bSl, bNo, bSome, unI, pymod_pos, pydiv_pos, d4, d32, mo1, mo3, ec, hA, x1, x2, y1, y2, hN, y3, ew, al, last, s8, s3, s1]
  rw [res]
  unfold Tag
  rw [hC', hA]
  by_cases q0 : p % 4 = 0
  · exact ⟨_, by rw [if_pos q0], ok0, fun _ => by rw [if_neg (by omega)]; rfl, fun h => absurd h (by omega), fun e => by
      have := congrArg Str.length e
      rw [nb_len, lc] at this
      omega⟩
  · by_cases q1 : p % 4 = 1
    · refine ⟨_, by rw [if_neg q0, if_pos q1], ok1, fun _ => ?_, fun h => absurd h (by omega), fun e => ?_⟩
      · rw [if_pos q1, (app_toList _ m2).1, (app_toList m1 _).1, List.append_assoc, List.getElem?_append_right (by omega), cl', Nat.sub_self]
        rfl
      · have := congrArg Str.length e
        rw [nb_len] at this
        omega
    · by_cases q2 : p % 4 = 2
      · refine ⟨_, by rw [if_neg q0, if_neg q1, if_pos q2], ok2, fun _ => ?_, fun h => absurd h (by omega), fun e => ?_⟩
        · rw [if_neg q1, t3, List.getElem?_replicate, if_pos (by omega)]
        · rw [e, nb_list] at t3
          have l6 := congrArg List.length t3
          rw [List.length_replicate] at l6
          have l6' : (6 : Nat) = n.toNat := l6
          rw [← l6'] at t3
          simp [List.replicate] at t3
          omega
      · exact ⟨_, by rw [if_neg q0, if_neg q1, if_neg q2], hw, fun h => absurd (show p % 4 = 3 by omega) h, fun _ => tw, fun e => by
          rw [e] at tw
          have a0' := Int.emod_nonneg (a + k) (b := 8) (by decide)
          have a8' := Int.emod_lt_of_pos (a + k) (b := 8) (by decide)
          exact words_nb ⟨((a + k) % 8).toNat, by omega⟩ tw⟩
/-- the name of a thing -/
theorem forL_rng {g : D → Rho → R Rho} {f : Rho → Fl} (P : Int → Rho → Prop) : ∀ (n : Nat) {a b : Int} {ρ : Rho}, (b - a).toNat = n → a ≤ b → P a ρ → (∀ i ρ, a ≤ i → i < b → P i ρ → ∃ ρ1 ρ2, g (.int i) ρ = .ok ρ1 ∧ f ρ1 = .next ρ2 ∧ P (i + 1) ρ2) → ∃ ρ', forL g f (rngL a b) ρ = .next ρ' ∧ P b ρ'
  | 0, a, b, ρ, hn, hab, h, _ => by
    have e : a = b := by omega
    subst e
    refine ⟨ρ, ?_, h⟩
    unfold rngL
    rw [Int.sub_self]; rfl
  | n + 1, a, b, ρ, hn, hab, h, st => by
    obtain ⟨ρ1, ρ2, e1, e2, h2⟩ := st a ρ (Int.le_refl _) (by omega) h
    obtain ⟨ρ', e, q⟩ := forL_rng P n (a := a + 1) (b := b) (by omega) (by omega) h2 fun i ρ h0 h1 => st i ρ (by omega) h1
    have er : rngL a b = .int a :: rngL (a + 1) b := by
      unfold rngL
      have e3 : (b - a).toNat = (b - (a + 1)).toNat + 1 := by omega
      rw [e3, List.range_succ_eq_map, List.map_cons, List.map_map]
      congr 1
      · show D.int (a + ((0 : Nat) : Int)) = _
        congr 1
        omega
      · refine List.map_congr_left fun i _ => ?_
        show D.int (a + ((i + 1 : Nat) : Int)) = D.int (a + 1 + (i : Int))
        congr 1
        omega
    exact ⟨ρ', by rw [er, forL_step e1 e2]; exact e, q⟩
/-! ### boxes -/
theorem boxes_turn (fs : List Int) (hf : Fed fs) (hl : 270 ≤ fs.length) (p : Int) (hp : p ∈ fs) (ep : dIx (.lst (fs.map .int)) (.int 37) = .ok (.int p, false)) (bs : List D) (r : Option (D × Bool)) (k : Int) (h0 : 0 ≤ k) (h1 : k < 9) (hb : bs.length < 100) :
    ∃ (b : D) (r' : Option (D × Bool)), (BoxOk b ∧ Tag p k (nmD b)) ∧ q__law_boxes_b1_0 [some (.lst (fs.map .int), false), some (.lst bs, true), some (.int k, false), r] = .next [some (.lst (fs.map .int), false), some (.lst (bs ++ [b]), true), some (.int k, false), r'] := by
  obtain ⟨x, hx, ex⟩ := dix_lst (fs := fs) (i := 20 + k) (by omega) (by omega)
  obtain ⟨y, hy, ey⟩ := dix_lst (fs := fs) (i := 28 + k) (by omega) (by omega)
  have fp := hf p hp
  obtain ⟨z, ez, hz, ht⟩ := name_ok p k fp.1 h0 (by omega) (by omega)
  have n0 : 0 ≤ x % 9 := Int.emod_nonneg _ (by decide)
  have n9 : x % 9 < 9 := Int.emod_lt_of_pos _ (by decide)
  have ps : (0 : Int) < 1 + x % 9 := by omega
  have ne : 1 + x % 9 ≠ 0 := by omega
  have sz : bs.length < sizeLine := Nat.lt_trans hb (by decide)
  refine ⟨.tup [.str z, .int (1 + x % 9), .int (y % (1 + x % 9))], some (.int (1 + x % 9), false), ⟨⟨z, _, _, rfl, hz, ⟨by omega, by omega⟩, Int.emod_nonneg _ ne, Int.emod_lt_of_pos _ ps⟩, ht⟩, ?_⟩
  simp [d__law_boxes_b1_1, q__law_boxes_b1_1, d__law_boxes_b1_0, q__law_boxes_b1_0, sApp, ex, ey, ep, ez, imm, pymod_pos, ne, pymod_pos ps, sz, s3_ok]
theorem boxes_full (fs : List Int) (hf : Fed fs) (hl : 270 ≤ fs.length) : ∃ bs : List D, m__law_boxes [.lst (fs.map .int)] = .ok (.lst bs, true) ∧ bs.length ≤ 8 ∧ (∀ b ∈ bs, BoxOk b ∧ nmD b ≠ "nobody") ∧ (bs.map nmD).Nodup := by
  obtain ⟨x, hx, ex⟩ := dix_lst (fs := fs) (i := 19) (by omega) (by omega)
  obtain ⟨p, hp, ep⟩ := dix_lst (fs := fs) (i := 37) (by omega) (by omega)
  have n0 : 0 ≤ x % 9 := Int.emod_nonneg _ (by decide)
  have n9 : x % 9 < 9 := Int.emod_lt_of_pos _ (by decide)
  obtain ⟨ρ', e, bs, k', r', eρ, hb, hbl, hnd⟩ := forL_rng (g := gN 2) (f := q__law_boxes_b1_0) (a := 0) (b := x % 9) (ρ := [some (.lst (fs.map .int), false), some (.lst [], true), none, none])
    (fun i ρ => ∃ (bs : List D) (k r : Option (D × Bool)), ρ = [some (.lst (fs.map .int), false), some (.lst bs, true), k, r] ∧ (∀ b ∈ bs, BoxOk b ∧ ∃ j, 0 ≤ j ∧ j < i ∧ Tag p j (nmD b)) ∧ (bs.length : Int) = i ∧ (bs.map nmD).Nodup) _ rfl n0 ⟨[], none, none, rfl, (fun _ h => by cases h), rfl, List.nodup_nil⟩ (by
      rintro i ρ i0 i1 ⟨bs, k, r, rfl, hb, hbl, hnd⟩
      obtain ⟨b, r', ⟨ok, tg⟩, e⟩ := boxes_turn fs hf hl p hp ep bs r i i0 (by omega) (by omega)
      refine ⟨_, _, rfl, e, _, _, _, rfl, fun b' hm => ?_, by simp [hbl], ?_⟩
      · rcases List.mem_append.mp hm with h | h
        · obtain ⟨h1, j, h2, h3, h4⟩ := hb b' h
          exact ⟨h1, j, h2, by omega, h4⟩
        · rw [List.mem_singleton.mp h]; exact ⟨ok, i, i0, by omega, tg⟩
      · rw [List.map_append]
        refine nodup_snoc hnd fun hm => ?_
        obtain ⟨b', hb', eb⟩ := List.mem_map.mp hm
        obtain ⟨_, j, h2, h3, h4⟩ := hb b' hb'
        rw [eb] at h4
        have := tag_inj h4 tg h2 (by omega) i0 (by omega)
        omega)
  subst eρ
  have j : smI (x % 9) = true := smI_ofS (by omega) (by omega)
  refine ⟨bs, ?_, by omega, fun b h => ⟨(hb b h).1, let ⟨_, _, _, _, t⟩ := hb b h; t.2.2⟩, hnd⟩
  unfold m__law_boxes runF
  simp [d__law_boxes, d__law_boxes_a_2, q__law_boxes_a_2, d__law_boxes_a_1, q__law_boxes_a_1, d__law_boxes_a_0, q__law_boxes_a_0, ex, bRng, rngD, pymod_pos, j, e]
theorem boxes_ok (fs : List Int) (hf : Fed fs) (hl : 270 ≤ fs.length) : ∃ bs : List D, m__law_boxes [.lst (fs.map .int)] = .ok (.lst bs, true) ∧ bs.length ≤ 8 ∧ ∀ b ∈ bs, BoxOk b := by
  obtain ⟨bs, h1, h2, h3, _⟩ := boxes_full fs hf hl
  exact ⟨bs, h1, h2, fun b h => (h3 b h).1⟩
/-! ### posts -/
def sizesL : List D := [.int 2, .int 3, .int 2, .int 4, .int 1, .int 2, .int 3, .int 5, .int 6, .int 7, .int 8, .int 9]
def waysL : List D := [.str zB, .str zOn, .str zB, .str zH, .str zB]
theorem sizes_ok (i : Int) (h0 : 0 ≤ i) (h : i < 12) : ∃ s, dIx (.lst sizesL) (.int i) = .ok (.int s, false) ∧ 1 ≤ s ∧ s ≤ 9 := by
  have h : i = 0 ∨ i = 1 ∨ i = 2 ∨ i = 3 ∨ i = 4 ∨ i = 5 ∨ i = 6 ∨ i = 7 ∨ i = 8 ∨ i = 9 ∨ i = 10 ∨ i = 11 := by omega
  rcases h with rfl | rfl | rfl | rfl | rfl | rfl | rfl | rfl | rfl | rfl | rfl | rfl <;> exact ⟨_, rfl, by decide, by decide⟩
theorem ways_ok (i : Int) (h0 : 0 ≤ i) (h : i < 5) : ∃ w, dIx (.lst waysL) (.int i) = .ok (.str w, false) ∧ (w = zB ∨ w = zOn ∨ w = zH) := by
  have h : i = 0 ∨ i = 1 ∨ i = 2 ∨ i = 3 ∨ i = 4 := by omega
  rcases h with rfl | rfl | rfl | rfl | rfl
  · exact ⟨_, rfl, .inl rfl⟩
  · exact ⟨_, rfl, .inr (.inl rfl)⟩
  · exact ⟨_, rfl, .inl rfl⟩
  · exact ⟨_, rfl, .inr (.inr rfl)⟩
  · exact ⟨_, rfl, .inl rfl⟩
theorem posts_turn (fs : List Int) (hf : Fed fs) (hl : 270 ≤ fs.length) (cap p prod : Int) (hc : cap ≤ 1000000000) (hp : 0 ≤ p ∧ p < 100000) (hq : 1 ≤ prod ∧ prod ≤ 1000000000) (bs : List D) (r6 r7 : Option (D × Bool)) (k : Int) (h0 : 0 ≤ k) (h1 : k < 7) (hb : bs.length < 100) :
    ∃ (bs' : List D) (prod' : Int) (r6' r7' : Option (D × Bool)), ((bs' = bs ∧ prod' = prod) ∨ ∃ b, (PostOk b ∧ Tag p k (nmD b)) ∧ bs' = bs ++ [b] ∧ prod' = prod * szD b ∧ prod' ≤ cap) ∧
      q__law_posts_b1_0 [some (.lst (fs.map .int), false), some (.int cap, false), some (.int p, false), some (.lst bs, true), some (.int prod, false), some (.int k, false), r6, r7] =
        .next [some (.lst (fs.map .int), false), some (.int cap, false), some (.int p, false), some (.lst bs', true), some (.int prod', false), some (.int k, false), r6', r7'] := by
  obtain ⟨x, hx, ex⟩ := dix_lst (fs := fs) (i := 1 + k) (by omega) (by omega)
  obtain ⟨y, hy, ey⟩ := dix_lst (fs := fs) (i := 7 + k) (by omega) (by omega)
  obtain ⟨v, hv, ev⟩ := dix_lst (fs := fs) (i := 13 + k) (by omega) (by omega)
  obtain ⟨s, es, s1, s9⟩ := sizes_ok (x % 12) (Int.emod_nonneg _ (by decide)) (Int.emod_lt_of_pos _ (by decide))
  obtain ⟨w, ew, hw⟩ := ways_ok (y % 5) (Int.emod_nonneg _ (by decide)) (Int.emod_lt_of_pos _ (by decide))
  obtain ⟨z, ez, hz, ht⟩ := name_ok p k hp.1 h0 (by omega) hp.2
  have mo : mulOk prod s := mul_okS (by omega) (by omega)
  have sz : bs.length < sizeLine := Nat.lt_trans hb (by decide)
  have ne : s ≠ 0 := by omega
  have ps : 0 < s := by omega
  unfold sizesL at es
  unfold waysL zB zOn zH at ew
  by_cases hle : prod * s ≤ cap
  · refine ⟨bs ++ [.tup [.str z, .int s, .str w, .int (v % s)]], prod * s, some (.int s, false), some (.str w, false), .inr ⟨_, ⟨⟨z, s, w, _, rfl, hz, ⟨s1, s9⟩, hw, Int.emod_nonneg _ ne, Int.emod_lt_of_pos _ ps⟩, ht⟩, rfl, rfl, hle⟩, ?_⟩
    simp [d__law_posts_b2_2, q__law_posts_b2_2, d__law_posts_b2_1, q__law_posts_b2_1, d__law_posts_b2_0, q__law_posts_b2_0, d__law_posts_b1_1, q__law_posts_b1_1, d__law_posts_b1_0, q__law_posts_b1_0, sApp, ex, ey, ev, es, ew, ez, imm, pymod_pos, pymod_pos ps, mo, hle, ne, sz, s12_ok, s5_ok, s4_ok]
  · refine ⟨bs, prod, some (.int s, false), r7, .inl ⟨rfl, rfl⟩, ?_⟩
    simp [d__law_posts_b2_2, q__law_posts_b2_2, d__law_posts_b2_1, q__law_posts_b2_1, d__law_posts_b2_0, q__law_posts_b2_0, d__law_posts_b1_1, q__law_posts_b1_1, d__law_posts_b1_0, q__law_posts_b1_0, ex, es, imm, pymod_pos, mo, hle, s12_ok]
theorem posts_full (fs : List Int) (hf : Fed fs) (hl : 270 ≤ fs.length) (cap : Int) (hc : cap ≤ 1000000000) : ∃ bs : List D, m__law_posts [.lst (fs.map .int), .int cap] = .ok (.lst bs, true) ∧ bs.length ≤ 6 ∧ (∀ b ∈ bs, PostOk b ∧ nmD b ≠ "nobody") ∧ (bs = [] ∨ prodD bs ≤ cap) ∧ (bs.map nmD).Nodup := by
  obtain ⟨x, hx, ex⟩ := dix_lst (fs := fs) (i := 0) (by omega) (by omega)
  obtain ⟨p1, hp1, e37⟩ := dix_lst (fs := fs) (i := 37) (by omega) (by omega)
  obtain ⟨p2, hp2, e38⟩ := dix_lst (fs := fs) (i := 38) (by omega) (by omega)
  obtain ⟨y, hy, e39⟩ := dix_lst (fs := fs) (i := 39) (by omega) (by omega)
  have y0 : 0 ≤ y % 3 := Int.emod_nonneg _ (by decide)
  have y3 : y % 3 < 3 := Int.emod_lt_of_pos _ (by decide)
  obtain ⟨p, hp, ep⟩ : ∃ p : Int, (0 ≤ p ∧ p < 100000) ∧ dIx (.lst [.int p1, .int p2, .int p2]) (.int (y % 3)) = .ok (.int p, false) := by
    have f1 := hf p1 hp1
    have f2 := hf p2 hp2
    rw [dix_3 _ _ _ _ y0 y3]
    by_cases h : y % 3 = 0
    · exact ⟨p1, ⟨f1.1, by omega⟩, by rw [if_pos h]⟩
    · exact ⟨p2, ⟨f2.1, by omega⟩, by rw [if_neg h]; split <;> rfl⟩
  have n0 : 0 ≤ x % 7 := Int.emod_nonneg _ (by decide)
  have n7 : x % 7 < 7 := Int.emod_lt_of_pos _ (by decide)
  obtain ⟨ρ', e, bs, k', r6', r7', eρ, hb, hbl, hpr, hq, hnd⟩ := forL_rng (g := gN 5) (f := q__law_posts_b1_0) (a := 0) (b := x % 7) (ρ := [some (.lst (fs.map .int), false), some (.int cap, false), some (.int p, false), some (.lst [], true), some (.int 1, false), none, none, none])
    (fun i ρ => ∃ (bs : List D) (k r6 r7 : Option (D × Bool)), ρ = [some (.lst (fs.map .int), false), some (.int cap, false), some (.int p, false), some (.lst bs, true), some (.int (prodD bs), false), k, r6, r7] ∧ (∀ b ∈ bs, PostOk b ∧ ∃ j, 0 ≤ j ∧ j < i ∧ Tag p j (nmD b)) ∧ (bs.length : Int) ≤ i ∧ (bs = [] ∨ prodD bs ≤ cap) ∧ 1 ≤ prodD bs ∧ (bs.map nmD).Nodup) _ rfl n0 ⟨[], none, none, none, rfl, (fun _ h => by cases h), Int.le_refl _, .inl rfl, by decide, List.nodup_nil⟩ (by
      rintro i ρ i0 i1 ⟨bs, k, r6, r7, rfl, hb, hbl, hpr, hq, hnd⟩
      have hq2 : prodD bs ≤ 1000000000 := by
        rcases hpr with h | h
        · rw [h]; decide
        · omega
      obtain ⟨bs', prod', r6', r7', h, e⟩ := posts_turn fs hf hl cap p (prodD bs) hc hp ⟨hq, hq2⟩ bs r6 r7 i i0 (by omega) (by omega)
      rcases h with ⟨rfl, rfl⟩ | ⟨b, ⟨ok, tg⟩, rfl, rfl, hle⟩
      · refine ⟨_, _, rfl, e, _, _, _, _, rfl, fun b' h => ?_, by omega, hpr, hq, hnd⟩
        obtain ⟨h1, j, h2, h3, h4⟩ := hb b' h
        exact ⟨h1, j, h2, by omega, h4⟩
      · rw [← prodD_app] at e hle
        refine ⟨_, _, rfl, e, _, _, _, _, rfl, fun b' hm => ?_, by rw [List.length_append, List.length_singleton]; omega, .inr hle, ?_, ?_⟩
        · rcases List.mem_append.mp hm with h | h
          · obtain ⟨h1, j, h2, h3, h4⟩ := hb b' h
            exact ⟨h1, j, h2, by omega, h4⟩
          · rw [List.mem_singleton.mp h]; exact ⟨ok, i, i0, by omega, tg⟩
        · obtain ⟨z, s, w, l, rfl, _, ⟨s1, _⟩, _⟩ := ok
          rw [prodD_app]
          show 1 ≤ prodD bs * s
          have := Int.mul_le_mul hq s1 (by decide) (by omega)
          omega
        · rw [List.map_append]
          refine nodup_snoc hnd fun hm => ?_
          obtain ⟨b', hb', eb⟩ := List.mem_map.mp hm
          obtain ⟨_, j, h2, h3, h4⟩ := hb b' hb'
          rw [eb] at h4
          have := tag_inj h4 tg h2 (by omega) i0 (by omega)
          omega)
  subst eρ
  have j : smI (x % 7) = true := smI_ofS (by omega) (by omega)
  refine ⟨bs, ?_, by omega, fun b h => ⟨(hb b h).1, let ⟨_, _, _, _, t⟩ := hb b h; t.2.2⟩, hpr, hnd⟩
  unfold m__law_posts runF
  simp [d__law_posts, d__law_posts_a_4, q__law_posts_a_4, d__law_posts_a_3, q__law_posts_a_3, d__law_posts_a_2, q__law_posts_a_2, d__law_posts_a_1, q__law_posts_a_1, d__law_posts_a_0, q__law_posts_a_0, ex, e37, e38, e39, ep, bRng, rngD, pymod_pos, j, e, s3_ok]
theorem posts_ok (fs : List Int) (hf : Fed fs) (hl : 270 ≤ fs.length) (cap : Int) (hc : cap ≤ 1000000000) : ∃ bs : List D, m__law_posts [.lst (fs.map .int), .int cap] = .ok (.lst bs, true) ∧ bs.length ≤ 6 ∧ (∀ b ∈ bs, PostOk b) ∧ (bs = [] ∨ prodD bs ≤ cap) := by
  obtain ⟨bs, h1, h2, h3, h4, _⟩ := posts_full fs hf hl cap hc
  exact ⟨bs, h1, h2, fun b h => (h3 b h).1, h4⟩
/-! ### tables -/
def TabOk (size : Int) (d : D) : Prop := ∃ xs : List Int, d = .tup (xs.map .int) ∧ (xs.length : Int) = size ∧ ∀ x ∈ xs, 0 ≤ x ∧ x < size
theorem table_turn (size n : Int) (xs : List Int) (r : Option (D × Bool)) (h1 : 1 ≤ size) (h9 : size ≤ 9) (hl : xs.length < 100) :
    q__law_table_b1_0 [some (.int n, false), some (.int size, false), some (.lst (xs.map .int), true), r] = .next [some (.int (n / size), false), some (.int size, false), some (.lst ((xs ++ [n % size]).map .int), true), r] := by
  have sz : xs.length < sizeLine := Nat.lt_trans hl (by decide)
  have dk : divOk size := div_okS (by omega) (by omega)
  have ne : size ≠ 0 := by omega
  simp [q__law_table_b1_0, d__law_table_b1_0, q__law_table_b1_1, d__law_table_b1_1, sApp, sz, dk, ne, pymod_pos (show 0 < size by omega), pydiv_pos (show 0 < size by omega)]
theorem table_ok (n size : Int) (h1 : 1 ≤ size) (h9 : size ≤ 9) : ∃ d, m__law_table [.int n, .int size] = .ok (d, false) ∧ TabOk size d := by
  obtain ⟨ρ', e, n', xs, r', eρ, hl, hx⟩ := forL_inv (g := gN 3) (f := q__law_table_b1_0) (ds := rngL 0 size) (k := 0) (ρ := [some (.int n, false), some (.int size, false), some (.lst [], true), none])
    (fun i ρ => ∃ (n' : Int) (xs : List Int) (r : Option (D × Bool)), ρ = [some (.int n', false), some (.int size, false), some (.lst (xs.map .int), true), r] ∧ xs.length = i ∧ ∀ x ∈ xs, 0 ≤ x ∧ x < size) ⟨n, [], none, rfl, rfl, fun _ h => (by cases h)⟩ (by
      rintro i d ρ hi hd ⟨n1, xs, r, rfl, hl, hx⟩
      rw [rng_len] at hi
      refine ⟨_, _, rfl, table_turn size n1 xs (some (d, false)) h1 h9 (by omega), _, _, _, rfl, by simp [hl], fun x hm => ?_⟩
      rcases List.mem_append.mp hm with h | h
      · exact hx x h
      · rw [List.mem_singleton.mp h]
        exact ⟨Int.emod_nonneg _ (by omega), Int.emod_lt_of_pos _ (by omega)⟩)
  subst eρ
  rw [rng_len] at hl
  have j : smI (size) = true := smI_ofS (by omega) (by omega)
  refine ⟨.tup (xs.map .int), ?_, xs, rfl, by omega, hx⟩
  have gt : gTuple [.lst (xs.map .int)] = .ok (.tup (xs.map .int), false) := rfl
  unfold m__law_table runF
  simp [d__law_table_a_2, q__law_table_a_2, d__law_table_a_1, q__law_table_a_1, d__law_table_a_0, q__law_table_a_0, d__law_table, bRng, rngD, j, e, gt]
/-! ### names -/
/-! ### == of data -/
def good : Nat → D → Bool
  | _, .non => true
  | _, .bl _ => true
  | _, .int _ => true
  | _, .str s => PyData.canLay0 (.str s)
  | n + 1, .tup xs => xs.all (good n)
  | n + 1, .ktup xs => xs.all (good n)
  | n + 1, .lst xs => xs.all (good n)
  | _, _ => false
theorem goods_toP {n : Nat} (ih : ∀ d, good n d = true → ∃ p, toP d = some p ∧ p.canLay0 = true ∧ p.depth ≤ n) : ∀ {xs : List D}, xs.all (good n) = true → ∃ ps, toPs xs = some ps ∧ PyData.canLayAll0 ps = true ∧ PyData.depthAll ps ≤ n
  | [], _ => ⟨[], rfl, by simp only [PyData.canLayAll0], by simp only [PyData.depthAll]; omega⟩
  | x :: xs, h => by
    rw [List.all_cons, Bool.and_eq_true] at h
    obtain ⟨p, h1, h2, h3⟩ := ih x h.1
    obtain ⟨ps, k1, k2, k3⟩ := goods_toP ih h.2
    refine ⟨p :: ps, ?_, ?_, ?_⟩
    · show (match toP x, toPs xs with
        | some p, some ps => some (p :: ps)
        | _, _ => none) = _
      rw [h1, k1]
    · simp only [PyData.canLayAll0, h2, k2, Bool.and_self]
    · simp only [PyData.depthAll]; omega
theorem good_toP : ∀ (n : Nat) (d : D), good n d = true → ∃ p, toP d = some p ∧ p.canLay0 = true ∧ p.depth ≤ n
  | n, .non, _ => ⟨_, rfl, by simp only [PyData.canLay0], by simp only [PyData.depth]; omega⟩
  | n, .bl _, _ => ⟨_, rfl, by simp only [PyData.canLay0], by simp only [PyData.depth]; omega⟩
  | n, .int _, _ => ⟨_, rfl, by simp only [PyData.canLay0], by simp only [PyData.depth]; omega⟩
  | n, .str s, h => ⟨_, rfl, by cases n <;> exact h, by simp only [PyData.depth]; omega⟩
  | n + 1, .tup xs, h => by
    obtain ⟨ps, k1, k2, k3⟩ := goods_toP (good_toP n) (show xs.all (good n) = true from h)
    exact ⟨.tuple ps, by show (toPs xs).map _ = _; rw [k1]; rfl, by simp only [PyData.canLay0, k2], by simp only [PyData.depth]; omega⟩
  | n + 1, .ktup xs, h => by
    obtain ⟨ps, k1, k2, k3⟩ := goods_toP (good_toP n) (show xs.all (good n) = true from h)
    exact ⟨.tuple ps, by show (toPs xs).map _ = _; rw [k1]; rfl, by simp only [PyData.canLay0, k2], by simp only [PyData.depth]; omega⟩
  | n + 1, .lst xs, h => by
    obtain ⟨ps, k1, k2, k3⟩ := goods_toP (good_toP n) (show xs.all (good n) = true from h)
    exact ⟨.list ps, by show (toPs xs).map _ = _; rw [k1]; rfl, by simp only [PyData.canLay0, k2], by simp only [PyData.depth]; omega⟩
  | 0, .tup xs, h => by cases h
  | 0, .ktup xs, h => by cases h
  | 0, .lst xs, h => by cases h
  | 0, .scr _, h => by cases h
  | n + 1, .scr _, h => by cases h
  | 0, .dic _ _, h => by cases h
  | n + 1, .dic _ _, h => by cases h
  | 0, .dct _ _, h => by cases h
  | n + 1, .dct _ _, h => by cases h
  | 0, .obj _ _ _, h => by cases h
  | n + 1, .obj _ _ _, h => by cases h
/-- the answer of == -/
def eqS (a b : D) : Bool := match toP a, toP b with
  | some p, some q => PyData.eqv p q
  | _, _ => false
theorem eqD_good {n : Nat} (hn : n ≤ 64) {a b : D} (ha : good n a = true) (hb : good n b = true) : eqD a b = some (eqS a b) := by
  obtain ⟨p, h1, h2, h3⟩ := good_toP n a ha
  obtain ⟨q, k1, k2, k3⟩ := good_toP n b hb
  have sp : PySem.SeqAt.shaped p = true := by unfold PySem.SeqAt.shaped; rw [h2, decide_eq_true (by omega)]; rfl
  have sq : PySem.SeqAt.shaped q = true := by unfold PySem.SeqAt.shaped; rw [k2, decide_eq_true (by omega)]; rfl
  have dp : deepD a b = some (eqS a b) := by
    unfold deepD eqS
    rw [h1, k1]
    simp only [sp, sq, and_self, if_true]
  unfold eqD
  cases hs : scalD a b with
  | none => exact dp
  | some r =>
    show some r = _
    unfold eqS
    unfold scalD at hs
    split at hs <;> cases hs <;> (try rfl)
theorem dEq_good {n : Nat} (hn : n ≤ 64) {a b : D} (ha : good n a = true) (hb : good n b = true) : dEq a b = .ok (.bl (eqS a b), false) := by
  unfold dEq
  rw [eqD_good hn ha hb]; rfl
theorem dNe_good {n : Nat} (hn : n ≤ 64) {a b : D} (ha : good n a = true) (hb : good n b = true) : dNe a b = .ok (.bl (!eqS a b), false) := by
  unfold dNe
  rw [eqD_good hn ha hb]; rfl
mutual
theorem eqv_self : ∀ p : PyData, p.canLay0 = true → PyData.eqv p p = true
  | .none, _ => by simp only [PyData.eqv]
  | .bool a, _ => by simp only [PyData.eqv, beq_self_eq_true]
  | .int a, _ => by simp only [PyData.eqv, beq_self_eq_true]
  | .str a, _ => by simp only [PyData.eqv, beq_self_eq_true]
  | .list xs, h => by simp only [PyData.eqv]; exact eqvs_self xs (by simpa only [PyData.canLay0] using h)
  | .tuple xs, h => by simp only [PyData.eqv]; exact eqvs_self xs (by simpa only [PyData.canLay0] using h)
  | .dict kvs, h => by simp only [PyData.canLay0] at h; cases h
theorem eqvs_self : ∀ ps : List PyData, PyData.canLayAll0 ps = true → PyData.eqvAll ps ps = true
  | [], _ => by simp only [PyData.eqvAll]
  | p :: ps, h => by
    simp only [PyData.canLayAll0, Bool.and_eq_true] at h
    simp only [PyData.eqvAll, eqv_self p h.1, eqvs_self ps h.2, Bool.and_self]
end
theorem eqS_self {n : Nat} {a : D} (ha : good n a = true) : eqS a a = true := by
  obtain ⟨p, h1, h2, _⟩ := good_toP n a ha
  unfold eqS
  rw [h1]
  exact eqv_self p h2
theorem toNat_inj {l r : List Char} (h : l.map Char.toNat = r.map Char.toNat) : l = r := by
  induction l generalizing r with
  | nil => cases r with
    | nil => rfl
    | cons _ _ => cases h
  | cons a as ih =>
    cases r with
    | nil => cases h
    | cons b bs =>
      rw [List.map_cons, List.map_cons, List.cons.injEq] at h
      have e : a = b := Char.ext (UInt32.toNat_inj.mp h.1)
      rw [e, ih h.2]
theorem ofString_eq (a b : String) : (Str.ofString a = Str.ofString b) ↔ a = b := by
  constructor
  · intro h
    rw [Str.ofString_eq_toList, Str.ofString_eq_toList] at h
    have h2 := congrArg Str.cps h
    have h3 : (a.toList.map Char.toNat) = (b.toList.map Char.toNat) := by simpa using h2
    exact String.toList_inj.mp (toNat_inj h3)
  · rintro rfl; rfl
theorem deq_s (s t : Str) : dEq (.str s) (.str t) = .ok (.bl (decide (s = t)), false) := rfl
theorem dix_any {xs : List D} {i : Int} (h0 : 0 ≤ i) (h1 : i < xs.length) : ∃ x, x ∈ xs ∧ dIx (.lst xs) (.int i) = .ok (x, false) := by
  have hl : i.toNat < xs.length := by omega
  refine ⟨xs[i.toNat], List.getElem_mem hl, ?_⟩
  have e : L2.atI xs i = some xs[i.toNat] := by
    unfold L2.atI L2.ixN
    rw [if_pos h0, if_pos h1]
    exact List.getElem?_eq_getElem hl
  show (match L2.atI xs i with
    | some d => R.ok (d, false)
    | none => .bad) = _
  rw [e]
/-! ### rows -/
theorem small_ok (c : Nat) (h : small c = true) : c < 1114112 := by
  unfold small at h
  rw [Bool.and_eq_true, decide_eq_true_eq, decide_eq_true_eq] at h
  omega
theorem name_strOk {z : Str} (h : NameOk z) : PyData.strOk z = true := by
  unfold PyData.strOk
  rw [← Array.all_toList, List.all_eq_true]
  intro c hc
  exact decide_eq_true (small_ok c (List.all_eq_true.mp h.2.2 c hc))
theorem name_good {z : Str} (h : NameOk z) (n : Nat) : good n (.str z) = true := by
  have e : PyData.strOk z = true := by
    unfold PyData.strOk
    rw [← Array.all_toList, List.all_eq_true]
    intro c hc
    exact decide_eq_true (small_ok c (List.all_eq_true.mp h.2.2 c hc))
  cases n <;> (show PyData.canLay0 (.str z) = true; simp only [PyData.canLay0]; exact e)
theorem int_good (i : Int) (n : Nat) : good n (.int i) = true := by cases n <;> rfl
theorem lit_good {z : Str} (h : PyData.strOk z = true) (n : Nat) : good n (.str z) = true := by
  cases n <;> (show PyData.canLay0 (.str z) = true; simp only [PyData.canLay0]; exact h)
theorem box_good {d : D} (h : BoxOk d) : good 1 d = true := by
  obtain ⟨z, s, i, rfl, hz, _⟩ := h
  show (good 0 (.str z) && (good 0 (.int s) && (good 0 (.int i) && true))) = true
  rw [name_good hz, int_good, int_good]; rfl
theorem post_good {d : D} (h : PostOk d) : good 1 d = true := by
  obtain ⟨z, s, w, l, rfl, hz, _, hw, _⟩ := h
  have gw : good 0 (.str w) = true := by
    rcases hw with rfl | rfl | rfl
    · exact lit_good (by decide +kernel) 0
    · exact lit_good (by decide +kernel) 0
    · exact lit_good (by decide +kernel) 0
  show (good 0 (.str z) && (good 0 (.int s) && (good 0 (.str w) && (good 0 (.int l) && true)))) = true
  rw [name_good hz, int_good, int_good, gw]; rfl
theorem all_good {n : Nat} {ds : List D} (h : ∀ d ∈ ds, good n d = true) : good (n + 1) (.lst ds) = true := List.all_eq_true.mpr h
theorem eqS_nil {n : Nat} {ds : List D} (h : good n (.lst ds) = true) : eqS (.lst ds) (.lst []) = ds.isEmpty := by
  obtain ⟨p, h1, _⟩ := good_toP n _ h
  cases ds with
  | nil => rfl
  | cons d ds =>
    have e : toP (.lst (d :: ds)) = (toPs (d :: ds)).map PyData.list := rfl
    rw [e] at h1
    cases hq : toPs (d :: ds) with
    | none => rw [hq] at h1; cases h1
    | some ps =>
      have ne : ∃ q qs, ps = q :: qs := by
        have h2 : (match toP d, toPs ds with
          | some p, some ps => some (p :: ps)
          | _, _ => none) = some ps := hq
        split at h2
        · cases h2; exact ⟨_, _, rfl⟩
        · cases h2
      obtain ⟨q, qs, rfl⟩ := ne
      unfold eqS
      rw [e, hq]
      rfl
def RowOk (bs ps : List D) (d : D) : Prop :=
  (∃ (z y w : Str) (s i t l : Int), D.tup [.str z, .int s, .int i] ∈ bs ∧ D.tup [.str y, .int t, .str w, .int l] ∈ ps ∧ (d = .tup [.str "send", .str y, .str z] ∨ d = .tup [.str "take", .str z, .str y])) ∨
  (∃ (z : Str) (s i v : Int), D.tup [.str z, .int s, .int i] ∈ bs ∧ 0 ≤ v ∧ v < s ∧ d = .tup [.str "set", .str z, .int v]) ∨
  (∃ (z : Str) (s i : Int) (tb : D), D.tup [.str z, .int s, .int i] ∈ bs ∧ TabOk s tb ∧ d = .tup [.str "turn", .str z, tb]) ∨
  (∃ (z word : Str) (s i : Int) (ns : List Str), D.tup [.str z, .int s, .int i] ∈ bs ∧ (∀ n ∈ ns, ∃ s' i' : Int, D.tup [.str n, .int s', .int i'] ∈ bs) ∧ ((word = ("copy" : Str) ∧ ns.length = 1) ∨ (word = ("pick" : Str) ∧ ns.length = 3) ∨ ((word = ("sum" : Str) ∨ word = ("least" : Str) ∨ word = ("most" : Str)) ∧ ns.length = 2)) ∧ d = .tup (.str word :: .str z :: ns.map .str))
def rowWords : List D := [.str "take", .str "send", .str "sum", .str "copy", .str "turn", .str "send", .str "take", .str "pick", .str "least", .str "most", .str "set", .str "take"]
theorem rowWords_ok (i : Int) (h0 : 0 ≤ i) (h : i < 12) : ∃ w : Str, dIx (.lst rowWords) (.int i) = .ok (.str w, false) ∧ (w = "take" ∨ w = "send" ∨ w = "sum" ∨ w = "copy" ∨ w = "turn" ∨ w = "pick" ∨ w = "least" ∨ w = "most" ∨ w = "set") := by
  have h : i = 0 ∨ i = 1 ∨ i = 2 ∨ i = 3 ∨ i = 4 ∨ i = 5 ∨ i = 6 ∨ i = 7 ∨ i = 8 ∨ i = 9 ∨ i = 10 ∨ i = 11 := by omega
  rcases h with rfl | rfl | rfl | rfl | rfl | rfl | rfl | rfl | rfl | rfl | rfl | rfl <;> exact ⟨_, rfl, by simp⟩
theorem dix_t3_0 (a b c : D) : dIx (.tup [a, b, c]) (.int 0) = .ok (a, false) := rfl
theorem dix_t3_1 (a b c : D) : dIx (.tup [a, b, c]) (.int 1) = .ok (b, false) := rfl
theorem dix_t4_0 (a b c d : D) : dIx (.tup [a, b, c, d]) (.int 0) = .ok (a, false) := rfl
section
variable (fs : List Int) (hf : Fed fs) (at_ : Int) (h0 : 0 ≤ at_) (h1 : at_ + 4 < fs.length) (bs ps : List D) (hb : ∀ b ∈ bs, BoxOk b) (hp : ∀ b ∈ ps, PostOk b) (hpl : 0 < ps.length) (hpz : ps.length < 100) (z a b c : Str) (s i : Int) (hz : D.tup [.str z, .int s, .int i] ∈ bs) (wd : Option (D × Bool))
include hf h0 h1 hp hpl hpz hz
theorem row_post (w : Str) (hw : w = "send" ∨ w = "take") : ∃ d, q__law_row_a_5 [some (.lst (fs.map .int), false), some (.int at_, false), some (.lst bs, false), some (.lst ps, false), wd, some (.str w, false), some (.tup [.str z, .int s, .int i], false), some (.lst [.str a, .str b, .str c], false), none, none] = .ret (d, false) ∧ RowOk bs ps d := by
  obtain ⟨x, hx, ex⟩ := dix_lst (fs := fs) (i := at_ + 2) (by omega) (by omega)
  have pl : (ps.length : Int) ≠ 0 := by omega
  have pp : (0 : Int) < ps.length := by omega
  have pn : ps ≠ [] := fun e => by rw [e] at hpl; cases hpl
  obtain ⟨p, hpm, ep⟩ := dix_any (xs := ps) (i := x % ps.length) (Int.emod_nonneg _ pl) (Int.emod_lt_of_pos _ pp)
  obtain ⟨y, t, v, l, rfl, _⟩ := hp p hpm
  rcases hw with rfl | rfl
  · refine ⟨.tup [.str "send", .str y, .str z], ?_, .inl ⟨z, y, v, s, i, t, l, hz, hpm, .inl rfl⟩⟩
    simp [q__law_row_a_5, d__law_row_a_5, deq_s, ex, pl, pn, pymod_pos pp, ep, dix_t4_0, dix_t3_0, s3_ok]
  · refine ⟨.tup [.str "take", .str z, .str y], ?_, .inl ⟨z, y, v, s, i, t, l, hz, hpm, .inr rfl⟩⟩
    simp [q__law_row_a_5, d__law_row_a_5, q__law_row_a_6, d__law_row_a_6, deq_s, ofString_eq, ex, pl, pn, pymod_pos pp, ep, dix_t4_0, dix_t3_0, s3_ok]
end
theorem dadd_tup {xs ys : List D} (h : xs.length + ys.length ≤ 5) : dAdd (.tup xs) (.tup ys) = .ok (.tup (xs ++ ys), false) := by
  show (if xs.length + ys.length ≤ sizeLine then R.ok (D.tup (xs ++ ys), false) else .bad) = _
  rw [if_pos (Nat.le_trans h s5_ok)]
def shapesD : D := .dic [.inr "copy", .inr "pick"] [.int 1, .int 3]
theorem disp_eq (ρ : Rho) : bDisp (pCons (bC (D.str "copy")) (bC (D.int 1)) (pCons (bC (D.str "pick")) (bC (D.int 3)) (pNil))) ρ = .ok (shapesD, true) := by
  have ne : ¬ ((Sum.inr (Str.ofString "copy") : Key) = Sum.inr (Str.ofString "pick")) := by simp [ofString_eq]
  simp [bDisp, pCons, pNil, keyPs, keyD, mrg, putM, shapesD, ne]
theorem get_eq (w : Str) : getD' shapesD (.str w) (.int 2) = some (if w = "copy" then .int 1 else if w = "pick" then .int 3 else .int 2) := by
  show some ((lookK [.inr "copy", .inr "pick"] [.int 1, .int 3] (.inr w : Key)).getD (.int 2)) = _
  by_cases h1 : w = "copy"
  · subst h1; simp [lookK]
  · by_cases h2 : w = "pick"
    · subst h2; simp [lookK, ofString_eq]
    · simp [lookK, h1, h2, Ne.symm h1, Ne.symm h2]
section
variable (fs : List Int) (hf : Fed fs) (at_ : Int) (h0 : 0 ≤ at_) (h1 : at_ + 4 < fs.length) (bs ps : List D) (z a b c : Str) (s i : Int) (hz : D.tup [.str z, .int s, .int i] ∈ bs) (hs : 1 ≤ s ∧ s ≤ 9) (wd : Option (D × Bool)) (ha : ∀ n ∈ [a, b, c], ∃ s' i' : Int, D.tup [.str n, .int s', .int i'] ∈ bs)
include hf h0 h1 hz hs ha
theorem row_own (w : Str) (hw : w = "sum" ∨ w = "copy" ∨ w = "turn" ∨ w = "pick" ∨ w = "least" ∨ w = "most" ∨ w = "set") : ∃ d, q__law_row_a_5 [some (.lst (fs.map .int), false), some (.int at_, false), some (.lst bs, false), some (.lst ps, false), wd, some (.str w, false), some (.tup [.str z, .int s, .int i], false), some (.lst [.str a, .str b, .str c], false), none, none] = .ret (d, false) ∧ RowOk bs ps d := by
  obtain ⟨x, hx, ex⟩ := dix_lst (fs := fs) (i := at_ + 2) (by omega) (by omega)
  obtain ⟨x3, hx3, ex3⟩ := dix_lst (fs := fs) (i := at_ + 3) (by omega) (by omega)
  have sn : s ≠ 0 := by omega
  have sp : 0 < s := by omega
  have xb := hf x hx
  have c1 : dSl (.lst [.str a, .str b, .str c]) none (some 1) = .ok (.lst [.str a], true) := rfl
  have c2 : dSl (.lst [.str a, .str b, .str c]) none (some 2) = .ok (.lst [.str a, .str b], true) := rfl
  have c3 : dSl (.lst [.str a, .str b, .str c]) none (some 3) = .ok (.lst [.str a, .str b, .str c], true) := rfl
  have gt : ∀ l : List D, gTuple [.lst l] = .ok (.tup l, false) := fun _ => rfl
  have isd : isDi shapesD = true := rfl
  have ha2 : ∀ n ∈ [a, b], ∃ s' i' : Int, D.tup [.str n, .int s', .int i'] ∈ bs := fun n hn => ha n (by
    rcases List.mem_cons.mp hn with h | h
    · rw [h]; simp
    · rw [List.mem_singleton.mp h]; simp)
  have ha1 : ∀ n ∈ [a], ∃ s' i' : Int, D.tup [.str n, .int s', .int i'] ∈ bs := fun n hn => ha n (by rw [List.mem_singleton.mp hn]; simp)
  rcases hw with rfl | rfl | rfl | rfl | rfl | rfl | rfl
  · refine ⟨.tup [.str "sum", .str z, .str a, .str b], ?_, .inr (.inr (.inr ⟨z, "sum", s, i, [a, b], hz, ha2, .inr (.inr ⟨.inl rfl, rfl⟩), rfl⟩))⟩
    simp [q__law_row_a_5, d__law_row_a_5, q__law_row_a_6, d__law_row_a_6, q__law_row_a_7, d__law_row_a_7, q__law_row_a_8, d__law_row_a_8, q__law_row_a_9, d__law_row_a_9, q__law_row_a_10, d__law_row_a_10, deq_s, ofString_eq, bGet, disp_eq, isd, get_eq, bSl, bNo, bSome, unI, c2, gt, dix_t3_0, s2_ok, dadd_tup]
  · refine ⟨.tup [.str "copy", .str z, .str a], ?_, .inr (.inr (.inr ⟨z, "copy", s, i, [a], hz, ha1, .inl ⟨rfl, rfl⟩, rfl⟩))⟩
    simp [q__law_row_a_5, d__law_row_a_5, q__law_row_a_6, d__law_row_a_6, q__law_row_a_7, d__law_row_a_7, q__law_row_a_8, d__law_row_a_8, q__law_row_a_9, d__law_row_a_9, q__law_row_a_10, d__law_row_a_10, deq_s, ofString_eq, bGet, disp_eq, isd, get_eq, bSl, bNo, bSome, unI, c1, gt, dix_t3_0, s2_ok, dadd_tup]
  · obtain ⟨tb, et, ht⟩ := table_ok (x * 55440 + x3) s hs.1 hs.2
    have mo : mulOk x 55440 := mul_okS (by omega) (by decide)
    refine ⟨.tup [.str "turn", .str z, tb], ?_, .inr (.inr (.inl ⟨z, s, i, tb, hz, ht, rfl⟩))⟩
    obtain ⟨xs, rfl, _⟩ := ht
    simp [q__law_row_a_5, d__law_row_a_5, q__law_row_a_6, d__law_row_a_6, q__law_row_a_7, d__law_row_a_7, q__law_row_a_8, d__law_row_a_8, deq_s, ofString_eq, ex, ex3, dix_t3_0, dix_t3_1, mo, et, s3_ok]
  · refine ⟨.tup [.str "pick", .str z, .str a, .str b, .str c], ?_, .inr (.inr (.inr ⟨z, "pick", s, i, [a, b, c], hz, ha, .inr (.inl ⟨rfl, rfl⟩), rfl⟩))⟩
    simp [q__law_row_a_5, d__law_row_a_5, q__law_row_a_6, d__law_row_a_6, q__law_row_a_7, d__law_row_a_7, q__law_row_a_8, d__law_row_a_8, q__law_row_a_9, d__law_row_a_9, q__law_row_a_10, d__law_row_a_10, deq_s, ofString_eq, bGet, disp_eq, isd, get_eq, bSl, bNo, bSome, unI, c3, gt, dix_t3_0, s2_ok, dadd_tup]
  · refine ⟨.tup [.str "least", .str z, .str a, .str b], ?_, .inr (.inr (.inr ⟨z, "least", s, i, [a, b], hz, ha2, .inr (.inr ⟨.inr (.inl rfl), rfl⟩), rfl⟩))⟩
    simp [q__law_row_a_5, d__law_row_a_5, q__law_row_a_6, d__law_row_a_6, q__law_row_a_7, d__law_row_a_7, q__law_row_a_8, d__law_row_a_8, q__law_row_a_9, d__law_row_a_9, q__law_row_a_10, d__law_row_a_10, deq_s, ofString_eq, bGet, disp_eq, isd, get_eq, bSl, bNo, bSome, unI, c2, gt, dix_t3_0, s2_ok, dadd_tup]
  · refine ⟨.tup [.str "most", .str z, .str a, .str b], ?_, .inr (.inr (.inr ⟨z, "most", s, i, [a, b], hz, ha2, .inr (.inr ⟨.inr (.inr rfl), rfl⟩), rfl⟩))⟩
    simp [q__law_row_a_5, d__law_row_a_5, q__law_row_a_6, d__law_row_a_6, q__law_row_a_7, d__law_row_a_7, q__law_row_a_8, d__law_row_a_8, q__law_row_a_9, d__law_row_a_9, q__law_row_a_10, d__law_row_a_10, deq_s, ofString_eq, bGet, disp_eq, isd, get_eq, bSl, bNo, bSome, unI, c2, gt, dix_t3_0, s2_ok, dadd_tup]
  · refine ⟨.tup [.str "set", .str z, .int (x % s)], ?_, .inr (.inl ⟨z, s, i, _, hz, Int.emod_nonneg _ sn, Int.emod_lt_of_pos _ sp, rfl⟩)⟩
    simp [q__law_row_a_5, d__law_row_a_5, q__law_row_a_6, d__law_row_a_6, q__law_row_a_7, d__law_row_a_7, deq_s, ofString_eq, ex, dix_t3_0, dix_t3_1, sn, pymod_pos sp, s3_ok]
end
theorem in_words (w : Str) : dIn (.str w) (.tup [.str "send", .str "take"]) = .ok (.bl (decide (w = "send") || decide (w = "take")), false) := by
  have e : (([.str "send", .str "take"] : List D).any fun y => eqFl y (.str w)) = (decide (w = "send") || decide (w = "take")) := by
    have c : ∀ t : Str, decide (t = w) = decide (w = t) := fun t => decide_eq_decide.mpr ⟨Eq.symm, Eq.symm⟩
    show (decide (Str.ofString "send" = w) || (decide (Str.ofString "take" = w) || false)) = _
    rw [Bool.or_false, c, c]
  show (match inD (.str w) (.tup [.str "send", .str "take"]) with
    | some r => okB r
    | none => .bad) = _
  have e2 : inD (.str w) (.tup [.str "send", .str "take"]) = some (([.str "send", .str "take"] : List D).any fun y => eqFl y (.str w)) := rfl
  rw [e2, e]; rfl
theorem rng25 : rngL 2 5 = [.int 2, .int 3, .int 4] := rfl
theorem row_ok (fs : List Int) (hf : Fed fs) (at_ : Int) (h0 : 0 ≤ at_) (h1 : at_ + 4 < fs.length) (bs ps : List D) (hb : ∀ b ∈ bs, BoxOk b) (hbn : bs ≠ []) (hbl : bs.length < 100) (hp : ∀ b ∈ ps, PostOk b) (hpz : ps.length < 100) :
    ∃ d, m__law_row [.lst (fs.map .int), .int at_, .lst bs, .lst ps] = .ok (d, false) ∧ RowOk bs ps d := by
  have bl0 : 0 < bs.length := by
    cases bs with
    | nil => exact absurd rfl hbn
    | cons b bs => simp
  have bl : (bs.length : Int) ≠ 0 := by omega
  have bp : (0 : Int) < bs.length := by omega
  have pick : ∀ j : Int, 0 ≤ j → j ≤ 4 → ∃ (x : Int) (z : Str) (s i : Int), dIx (.lst (fs.map .int)) (.int (at_ + j)) = .ok (.int x, false) ∧ dIx (.lst bs) (.int (x % bs.length)) = .ok (.tup [.str z, .int s, .int i], false) ∧ D.tup [.str z, .int s, .int i] ∈ bs ∧ 1 ≤ s ∧ s ≤ 9 := fun j j0 j4 => by
    obtain ⟨x, hx, ex⟩ := dix_lst (fs := fs) (i := at_ + j) (by omega) (by omega)
    obtain ⟨p, hpm, ep⟩ := dix_any (xs := bs) (i := x % bs.length) (Int.emod_nonneg _ bl) (Int.emod_lt_of_pos _ bp)
    obtain ⟨z, s, i, rfl, _, hs, _⟩ := hb p hpm
    exact ⟨x, z, s, i, ex, ep, hpm, hs⟩
  obtain ⟨x0, hx0, ex0⟩ := dix_lst (fs := fs) (i := at_) h0 (by omega)
  obtain ⟨x1, z, s, i, ex1, e1, m1, hs⟩ := pick 1 (by decide) (by decide)
  obtain ⟨x2, z2, s2, i2, ex2, e2, m2, _⟩ := pick 2 (by decide) (by decide)
  obtain ⟨x3, z3, s3, i3, ex3, e3, m3, _⟩ := pick 3 (by decide) (by decide)
  obtain ⟨x4, z4, s4, i4, ex4, e4, m4, _⟩ := pick 4 (by decide) (by decide)
  obtain ⟨w, ew, hw⟩ := rowWords_ok (x0 % 12) (Int.emod_nonneg _ (by decide)) (Int.emod_lt_of_pos _ (by decide))
  have ha : ∀ n ∈ [z2, z3, z4], ∃ s' i' : Int, D.tup [.str n, .int s', .int i'] ∈ bs := fun n hn => by
    rcases List.mem_cons.mp hn with rfl | hn
    · exact ⟨_, _, m2⟩
    · rcases List.mem_cons.mp hn with rfl | hn
      · exact ⟨_, _, m3⟩
      · rw [List.mem_singleton.mp hn]; exact ⟨_, _, m4⟩
  have gp : good 2 (.lst ps) = true := all_good fun d hd => post_good (hp d hd)
  have ep : dEq (.lst ps) (.lst []) = .ok (.bl ps.isEmpty, false) := by
    rw [dEq_good (n := 2) (by decide) gp rfl, eqS_nil gp]
  have own := fun wd w hw => row_own fs hf at_ h0 h1 bs ps z z2 z3 z4 s i m1 hs wd ha w hw
  have post := fun wd hpl w hw => row_post fs hf at_ h0 h1 bs ps hp hpl hpz z z2 z3 z4 s i m1 wd w hw
  unfold rowWords at ew
  have step : ∀ d, (if (w = "send" ∨ w = "take") ∧ ps = [] then q__law_row_a_5 [some (.lst (fs.map .int), false), some (.int at_, false), some (.lst bs, false), some (.lst ps, false), some (.lst rowWords, false), some (.str "sum", false), some (.tup [.str z, .int s, .int i], false), some (.lst [.str z2, .str z3, .str z4], false), none, none]
      else q__law_row_a_5 [some (.lst (fs.map .int), false), some (.int at_, false), some (.lst bs, false), some (.lst ps, false), some (.lst rowWords, false), some (.str w, false), some (.tup [.str z, .int s, .int i], false), some (.lst [.str z2, .str z3, .str z4], false), none, none]) = .ret (d, false) → m__law_row [.lst (fs.map .int), .int at_, .lst bs, .lst ps] = .ok (d, false) := fun d hd => by
    unfold rowWords at hd
    unfold m__law_row runF
    by_cases c1 : w = "send" ∨ w = "take"
    · have c3 : (decide (w = "send") || decide (w = "take")) = true := by simpa using c1
      by_cases c2 : ps = []
      · rw [if_pos ⟨c1, c2⟩] at hd
        subst c2
        simp [d__law_row, q__law_row_a_0, d__law_row_a_0, q__law_row_a_1, d__law_row_a_1, q__law_row_a_2, d__law_row_a_2, q__law_row_a_3, d__law_row_a_3, q__law_row_a_4, d__law_row_a_4, q__law_row_b1_0, d__law_row_b1_0, bComp, bRng, rngD, smI_2, smI_5, rng25, compL, wipeR, gN, cYes, ex0, pymod_pos, ew, ex1, ex2, ex3, ex4, bl, hbn, pymod_pos bp, e1, e2, e3, e4, dix_t3_0, in_words, c3, c1, ep, s12_ok, s3_ok, s2_ok, hd]
      · rw [if_neg (fun h => c2 h.2)] at hd
        have c4 : ps.isEmpty = false := by simpa using c2
        simp [d__law_row, q__law_row_a_0, d__law_row_a_0, q__law_row_a_1, d__law_row_a_1, q__law_row_a_2, d__law_row_a_2, q__law_row_a_3, d__law_row_a_3, q__law_row_a_4, d__law_row_a_4, bComp, bRng, rngD, smI_2, smI_5, rng25, compL, wipeR, gN, cYes, ex0, pymod_pos, ew, ex1, ex2, ex3, ex4, bl, hbn, pymod_pos bp, e1, e2, e3, e4, dix_t3_0, in_words, c3, c1, ep, c2, s12_ok, s3_ok, s2_ok, hd]
    · rw [if_neg (fun h => c1 h.1)] at hd
      simp [d__law_row, q__law_row_a_0, d__law_row_a_0, q__law_row_a_1, d__law_row_a_1, q__law_row_a_2, d__law_row_a_2, q__law_row_a_3, d__law_row_a_3, q__law_row_a_4, d__law_row_a_4, bComp, bRng, rngD, smI_2, smI_5, rng25, compL, wipeR, gN, cYes, ex0, pymod_pos, ew, ex1, ex2, ex3, ex4, bl, hbn, pymod_pos bp, e1, e2, e3, e4, dix_t3_0, in_words, c1, s12_ok, s3_ok, s2_ok, hd]
  by_cases c1 : w = "send" ∨ w = "take"
  · by_cases c2 : ps = []
    · obtain ⟨d, e, ok⟩ := own (some (.lst rowWords, false)) "sum" (.inl rfl)
      exact ⟨d, step d (by rw [if_pos ⟨c1, c2⟩]; exact e), ok⟩
    · have hpl : 0 < ps.length := by
        cases ps with
        | nil => exact absurd rfl c2
        | cons p ps => simp
      obtain ⟨d, e, ok⟩ := post (some (.lst rowWords, false)) hpl w c1
      exact ⟨d, step d (by rw [if_neg (fun h => c2 h.2)]; exact e), ok⟩
  · have hw2 : w = "sum" ∨ w = "copy" ∨ w = "turn" ∨ w = "pick" ∨ w = "least" ∨ w = "most" ∨ w = "set" := by
      rcases hw with h | h | h | h | h | h | h | h | h
      · exact absurd (.inr h) c1
      · exact absurd (.inl h) c1
      · exact .inl h
      · exact .inr (.inl h)
      · exact .inr (.inr (.inl h))
      · exact .inr (.inr (.inr (.inl h)))
      · exact .inr (.inr (.inr (.inr (.inl h))))
      · exact .inr (.inr (.inr (.inr (.inr (.inl h)))))
      · exact .inr (.inr (.inr (.inr (.inr (.inr h)))))
    obtain ⟨d, e, ok⟩ := own (some (.lst rowWords, false)) w hw2
    exact ⟨d, step d (by rw [if_neg (fun h => c1 h.1)]; exact e), ok⟩
/-! ### the rows of a house -/
theorem dix_t3_2 (a b c : D) : dIx (.tup [a, b, c]) (.int 2) = .ok (c, false) := rfl
theorem tab_at (fs : List Int) (hf : Fed fs) (i j s : Int) (i0 : 0 ≤ i) (i1 : i < fs.length) (j0 : 0 ≤ j) (j1 : j < fs.length) (hs : 1 ≤ s ∧ s ≤ 9) :
    ∃ (x y : Int) (tb : D), dIx (.lst (fs.map .int)) (.int i) = .ok (.int x, false) ∧ dIx (.lst (fs.map .int)) (.int j) = .ok (.int y, false) ∧ mulOk x 55440 ∧ m__law_table [.int (x * 55440 + y), .int s] = .ok (tb, false) ∧ TabOk s tb := by
  obtain ⟨x, hx, ex⟩ := dix_lst (fs := fs) (i := i) i0 i1
  obtain ⟨y, hy, ey⟩ := dix_lst (fs := fs) (i := j) j0 j1
  have xb := hf x hx
  obtain ⟨tb, et, ht⟩ := table_ok (x * 55440 + y) s hs.1 hs.2
  exact ⟨x, y, tb, ex, ey, mul_okS (by omega) (by decide), et, ht⟩
theorem chained_ok (fs : List Int) (hf : Fed fs) (k : Int) (k0 : 0 ≤ k) (hl : 270 ≤ fs.length) (hk : k < 40) (bs ps : List D) (hb : ∀ b ∈ bs, BoxOk b) (hbn : bs ≠ []) (hbl : bs.length < 100) (hp : ∀ b ∈ ps, PostOk b) (hpn : ps ≠ []) (hpz : ps.length < 100) (row : D) (hr : RowOk bs ps row) :
    ∃ d, m__law_chained [.lst (fs.map .int), .int k, .lst bs, .lst ps, row] = .ok (d, false) ∧ RowOk bs ps d := by
  have bl0 : 0 < bs.length := List.length_pos_iff.mpr hbn
  have pl0 : 0 < ps.length := List.length_pos_iff.mpr hpn
  have bl : (bs.length : Int) ≠ 0 := by omega
  have bp : (0 : Int) < bs.length := by omega
  have pl : (ps.length : Int) ≠ 0 := by omega
  have pp : (0 : Int) < ps.length := by omega
  obtain ⟨b, hbm, eb⟩ := dix_any (xs := bs) (i := k / 3 % bs.length) (Int.emod_nonneg _ bl) (Int.emod_lt_of_pos _ bp)
  obtain ⟨z, s, i, rfl, hz, hs, hi⟩ := hb b hbm
  obtain ⟨p, hpm, ep⟩ := dix_any (xs := ps) (i := k / 3 % ps.length) (Int.emod_nonneg _ pl) (Int.emod_lt_of_pos _ pp)
  obtain ⟨y, t, v, l, rfl, _⟩ := hp p hpm
  obtain ⟨x, hx, ex⟩ := dix_lst (fs := fs) (i := 37) (by decide) (by omega)
  obtain ⟨p2, hpm2, ep2⟩ := dix_any (xs := ps) (i := (k / 3 + x) % ps.length) (Int.emod_nonneg _ pl) (Int.emod_lt_of_pos _ pp)
  obtain ⟨y2, t2, v2, l2, rfl, _⟩ := hp p2 hpm2
  obtain ⟨x0, hx0, ex0⟩ := dix_lst (fs := fs) (i := 70 + 5 * k) (by omega) (by omega)
  obtain ⟨x1, x2, tb, ex1, ex2, mo, et, ht⟩ := tab_at fs hf (72 + 5 * k) (73 + 5 * k) s (by omega) (by omega) (by omega) (by omega) hs
  have m5 : mulOk 5 k := mul_okS (by decide) (by omega)
  have d3 : divOk 3 := div_okS (by decide) (by decide)
  have e3 : pyDiv k 3 = k / 3 := pydiv_pos (by decide)
  have e4 : pyMod k 3 = k % 3 := pymod_pos (by decide)
  have e5 : pyMod x0 2 = x0 % 2 := pymod_pos (by decide)
  unfold m__law_chained runF
  by_cases c0 : k % 3 = 0
  · refine ⟨_, ?_, .inl ⟨z, y, v, s, i, t, l, hbm, hpm, .inr rfl⟩⟩
    simp [d__law_chained_a_5, q__law_chained_a_5, d__law_chained_a_4, q__law_chained_a_4, d__law_chained_a_3, q__law_chained_a_3, d__law_chained_a_2, q__law_chained_a_2, d__law_chained_a_1, q__law_chained_a_1, d__law_chained_a_0, q__law_chained_a_0, d__law_chained, d3, e3, e4, bl, hbn, pymod_pos bp, eb, c0, pl, hpn, pymod_pos pp, ep, dix_t3_0, dix_t4_0, s3_ok]
  · by_cases c2 : k % 3 = 2
    · refine ⟨_, ?_, .inl ⟨z, y2, v2, s, i, t2, l2, hbm, hpm2, .inl rfl⟩⟩
      simp [d__law_chained_a_5, q__law_chained_a_5, d__law_chained_a_4, q__law_chained_a_4, d__law_chained_a_3, q__law_chained_a_3, d__law_chained_a_2, q__law_chained_a_2, d__law_chained_a_1, q__law_chained_a_1, d__law_chained_a_0, q__law_chained_a_0, d__law_chained, d3, e3, e4, bl, hbn, pymod_pos bp, eb, c0, c2, ex, pl, hpn, pymod_pos pp, ep2, dix_t3_0, dix_t4_0, s3_ok]
    · by_cases c1 : x0 % 2 = 0
      · refine ⟨.tup [.str "turn", .str z, tb], ?_, .inr (.inr (.inl ⟨z, s, i, tb, hbm, ht, rfl⟩))⟩
        obtain ⟨xs, rfl, _⟩ := ht
        simp [d__law_chained_a_5, q__law_chained_a_5, d__law_chained_a_4, q__law_chained_a_4, d__law_chained_a_3, q__law_chained_a_3, d__law_chained_a_2, q__law_chained_a_2, d__law_chained_a_1, q__law_chained_a_1, d__law_chained_a_0, q__law_chained_a_0, d__law_chained, d3, e3, e4, e5, bl, hbn, pymod_pos bp, eb, c0, c1, c2, m5, ex0, ex1, ex2, mo, et, dix_t3_0, dix_t3_1, s3_ok]
      · refine ⟨row, ?_, hr⟩
        simp [d__law_chained_a_5, q__law_chained_a_5, d__law_chained_a_4, q__law_chained_a_4, d__law_chained_a_3, q__law_chained_a_3, d__law_chained_a_2, q__law_chained_a_2, d__law_chained_a_1, q__law_chained_a_1, d__law_chained_a_0, q__law_chained_a_0, d__law_chained, d3, e3, e4, e5, bl, hbn, pymod_pos bp, eb, c0, c1, c2, m5, ex0]
theorem lst_nil_eq {ds : List D} {n : Nat} (hn : n ≤ 64) (g : good n (.lst ds) = true) (gn : good n (.lst []) = true) : dEq (.lst ds) (.lst []) = .ok (.bl ds.isEmpty, false) := by
  rw [dEq_good hn g gn, eqS_nil g]
theorem lst_nil_ne {ds : List D} {n : Nat} (hn : n ≤ 64) (g : good n (.lst ds) = true) (gn : good n (.lst []) = true) : dNe (.lst ds) (.lst []) = .ok (.bl (!ds.isEmpty), false) := by
  rw [dNe_good hn g gn, eqS_nil g]
theorem isEmpty_false {ds : List D} (h : ds ≠ []) : ds.isEmpty = false := by cases ds with
  | nil => exact absurd rfl h
  | cons => rfl
theorem rows_turn (fs : List Int) (hf : Fed fs) (hl : 270 ≤ fs.length) (bs ps : List D) (hb : ∀ b ∈ bs, BoxOk b) (hbn : bs ≠ []) (hbl : bs.length < 100) (hp : ∀ b ∈ ps, PostOk b) (hpz : ps.length < 100) (m r5 r6 : Option (D × Bool)) (rs : List D) (hrl : rs.length < 100) (k : Int) (k0 : 0 ≤ k) (hk : k < 40) :
    ∃ d r6', RowOk bs ps d ∧ q__law_rows_b2_0 [some (.lst (fs.map .int), false), some (.lst bs, false), some (.lst ps, false), m, some (.lst rs, true), some (.int k, false), r6] = .next [some (.lst (fs.map .int), false), some (.lst bs, false), some (.lst ps, false), m, some (.lst (rs ++ [d]), true), some (.int k, false), r6'] := by
  obtain ⟨d, ed, hd⟩ := row_ok fs hf (70 + 5 * k) (by omega) (by omega) bs ps hb hbn hbl hp hpz
  obtain ⟨x, hx, ex⟩ := dix_lst (fs := fs) (i := 36) (by decide) (by omega)
  have m5 : mulOk 5 k := mul_okS (by decide) (by omega)
  have d41 : divOk 41 := div_okS (by decide) (by decide)
  have e41 : pyDiv x 41 = x / 41 := pydiv_pos (by decide)
  have e3 : pyMod (x / 41) 3 = x / 41 % 3 := pymod_pos (by decide)
  have sl : rs.length < sizeLine := Nat.lt_of_lt_of_le (by omega : rs.length < 200) (by decide : (200 : Nat) ≤ sizeLine)
  have ne := lst_nil_ne (n := 2) (by decide) (all_good fun d hd => post_good (hp d hd)) rfl
  by_cases c1 : x / 41 % 3 = 0
  · by_cases c2 : ps = []
    · refine ⟨d, some (d, false), hd, ?_⟩
      subst c2
      simp [d__law_rows_b2_2, q__law_rows_b2_2, d__law_rows_b2_1, q__law_rows_b2_1, d__law_rows_b2_0, q__law_rows_b2_0, m5, ed, ex, d41, e41, e3, c1, ne, sApp, sl]
    · obtain ⟨d2, ed2, hd2⟩ := chained_ok fs hf k k0 hl hk bs ps hb hbn hbl hp c2 hpz d hd
      refine ⟨d2, some (d2, false), hd2, ?_⟩
      simp [d__law_rows_b2_2, q__law_rows_b2_2, d__law_rows_b2_1, q__law_rows_b2_1, d__law_rows_b2_0, q__law_rows_b2_0, d__law_rows_b3_0, q__law_rows_b3_0, m5, ed, ed2, ex, d41, e41, e3, c1, ne, isEmpty_false c2, sApp, sl]
  · refine ⟨d, some (d, false), hd, ?_⟩
    simp [d__law_rows_b2_2, q__law_rows_b2_2, d__law_rows_b2_1, q__law_rows_b2_1, d__law_rows_b2_0, q__law_rows_b2_0, m5, ed, ex, d41, e41, e3, c1, sApp, sl]
theorem rows_ok (fs : List Int) (hf : Fed fs) (hl : 270 ≤ fs.length) (bs ps : List D) (hb : ∀ b ∈ bs, BoxOk b) (hbl : bs.length < 100) (hp : ∀ b ∈ ps, PostOk b) (hpz : ps.length < 100) (most : Int) (m0 : 0 ≤ most) (m1 : most ≤ 40) :
    ∃ rs, m__law_rows [.lst (fs.map .int), .lst bs, .lst ps, .int most] = .ok (.lst rs, true) ∧ (∀ r ∈ rs, RowOk bs ps r) ∧ (rs.length : Int) ≤ most ∧ (bs = [] → rs = []) := by
  obtain ⟨x, hx, ex⟩ := dix_lst (fs := fs) (i := 36) (by decide) (by omega)
  have mn : most + 1 ≠ 0 := by omega
  have mp : 0 < most + 1 := by omega
  have mm : pyMod x (most + 1) = x % (most + 1) := pymod_pos mp
  have ee := lst_nil_eq (n := 2) (by decide) (all_good fun d hd => box_good (hb d hd)) rfl
  unfold m__law_rows runF
  by_cases hbn : bs = []
  · refine ⟨[], ?_, by simp, by simpa using m0, fun _ => rfl⟩
    subst hbn
    simp [d__law_rows, d__law_rows_a_3, q__law_rows_a_3, d__law_rows_a_2, q__law_rows_a_2, d__law_rows_a_1, q__law_rows_a_1, d__law_rows_a_0, q__law_rows_a_0, ee]
  · have q0 : 0 ≤ x % (most + 1) := Int.emod_nonneg _ mn
    have q1 : x % (most + 1) < most + 1 := Int.emod_lt_of_pos _ mp
    have main := forL_inv (g := gN 5) (f := q__law_rows_b2_0) (fun n ρ => ∃ (rs : List D) (r5 r6 : Option (D × Bool)), ρ = [some (.lst (fs.map .int), false), some (.lst bs, false), some (.lst ps, false), some (.int most, false), some (.lst rs, true), r5, r6] ∧ (∀ r ∈ rs, RowOk bs ps r) ∧ rs.length ≤ n)
      (ds := rngL 0 (x % (most + 1))) (k := 0) (ρ := [some (.lst (fs.map .int), false), some (.lst bs, false), some (.lst ps, false), some (.int most, false), some (.lst [], true), none, none]) ⟨[], none, none, rfl, by simp, by simp⟩ fun i d ρ hi hd h => by
        obtain ⟨rs, r5, r6, rfl, hr, hn⟩ := h
        obtain ⟨k, rfl, k0, k1⟩ := rng_mem hd
        rw [rng_len] at hi
        obtain ⟨d, r6', hd, e⟩ := rows_turn fs hf hl bs ps hb hbn hbl hp hpz (some (.int most, false)) r5 r6 rs (by omega) k k0 (by omega)
        refine ⟨_, _, rfl, e, rs ++ [d], some (.int k, false), r6', rfl, ?_, by simp; omega⟩
        intro r hr'
        rcases List.mem_append.mp hr' with h | h
        · exact hr r h
        · rw [List.mem_singleton.mp h]; exact hd
    obtain ⟨ρ', e, rs, r5, r6, rfl, hr, hn⟩ := main
    rw [rng_len] at hn
    have rg := rng1_ok (b := x % (most + 1)) (by omega) (by omega)
    refine ⟨rs, ?_, hr, by omega, fun h => absurd h hbn⟩
    simp [d__law_rows, d__law_rows_a_3, q__law_rows_a_3, d__law_rows_a_2, q__law_rows_a_2, d__law_rows_a_1, q__law_rows_a_1, d__law_rows_a_0, q__law_rows_a_0, ee, isEmpty_false hbn, bRng, ex, mn, mm, rg, e]
def HouseOk (cap most : Int) (d : D) : Prop := ∃ bs ps rs : List D, d = .tup [.tup bs, .tup ps, .tup rs] ∧ bs.length ≤ 8 ∧ (∀ b ∈ bs, BoxOk b) ∧ ps.length ≤ 6 ∧ (∀ b ∈ ps, PostOk b) ∧ (ps = [] ∨ prodD ps ≤ cap) ∧ (∀ r ∈ rs, RowOk bs ps r) ∧ (rs.length : Int) ≤ most ∧ (bs = [] → rs = [])
theorem house_ok (fs : List Int) (hf : Fed fs) (hl : 270 ≤ fs.length) (cap most : Int) (hc : cap ≤ 1000000000) (m0 : 0 ≤ most) (m1 : most ≤ 40) :
    ∃ d, m__law_house [.lst (fs.map .int), .int cap, .int most] = .ok (d, false) ∧ HouseOk cap most d := by
  obtain ⟨bs, eb, hbl, hb⟩ := boxes_ok fs hf hl
  obtain ⟨ps, ep, hpl, hp, hpp⟩ := posts_ok fs hf hl cap hc
  obtain ⟨rs, er, hr, hrl, hrn⟩ := rows_ok fs hf hl bs ps hb (by omega) hp (by omega) most m0 m1
  refine ⟨_, ?_, bs, ps, rs, rfl, hbl, hb, hpl, hp, hpp, hr, hrl, hrn⟩
  unfold m__law_house runF
  simp [d__law_house_a_3, q__law_house_a_3, d__law_house_a_2, q__law_house_a_2, d__law_house_a_1, q__law_house_a_1, d__law_house_a_0, q__law_house_a_0, d__law_house, eb, ep, er, gtuple_l, s3_ok]
theorem house_full (fs : List Int) (hf : Fed fs) (hl : 270 ≤ fs.length) (cap most : Int) (hc : cap ≤ 1000000000) (m0 : 0 ≤ most) (m1 : most ≤ 40) :
    ∃ bs ps rs : List D, m__law_house [.lst (fs.map .int), .int cap, .int most] = .ok (.tup [.tup bs, .tup ps, .tup rs], false) ∧ bs.length ≤ 8 ∧ (∀ b ∈ bs, BoxOk b ∧ nmD b ≠ "nobody") ∧ (bs.map nmD).Nodup ∧ ps.length ≤ 6 ∧ (∀ b ∈ ps, PostOk b ∧ nmD b ≠ "nobody") ∧ (ps.map nmD).Nodup ∧ (ps = [] ∨ prodD ps ≤ cap) ∧ (∀ r ∈ rs, RowOk bs ps r) ∧ (rs.length : Int) ≤ most ∧ (bs = [] → rs = []) := by
  obtain ⟨bs, eb, hbl, hb, hbn⟩ := boxes_full fs hf hl
  obtain ⟨ps, ep, hpl, hp, hpp, hpn⟩ := posts_full fs hf hl cap hc
  obtain ⟨rs, er, hr, hrl, hrn⟩ := rows_ok fs hf hl bs ps (fun b h => (hb b h).1) (by omega) (fun b h => (hp b h).1) (by omega) most m0 m1
  refine ⟨bs, ps, rs, ?_, hbl, hb, hbn, hpl, hp, hpn, hpp, hr, hrl, hrn⟩
  unfold m__law_house runF
  simp [d__law_house_a_3, q__law_house_a_3, d__law_house_a_2, q__law_house_a_2, d__law_house_a_1, q__law_house_a_1, d__law_house_a_0, q__law_house_a_0, d__law_house, eb, ep, er, gtuple_l, s3_ok]
/-! ### == of plain data is = -/
def pn : Nat → D → Bool
  | _, .non => true
  | _, .int _ => true
  | _, .str s => PyData.canLay0 (.str s)
  | n + 1, .tup xs => xs.all (pn n)
  | n + 1, .lst xs => xs.all (pn n)
  | _, _ => false
theorem all_imp {α : Type} {p q : α → Bool} (h : ∀ x, p x = true → q x = true) : ∀ {xs : List α}, xs.all p = true → xs.all q = true := fun {xs} k => List.all_eq_true.mpr fun x hx => h x (List.all_eq_true.mp k x hx)
theorem pn_good : ∀ (n : Nat) (d : D), pn n d = true → good n d = true
  | n, .non, _ => by cases n <;> rfl
  | n, .int _, _ => by cases n <;> rfl
  | n, .str s, h => by cases n <;> exact h
  | n + 1, .tup xs, h => all_imp (p := pn n) (q := good n) (pn_good n) h
  | n + 1, .lst xs, h => all_imp (p := pn n) (q := good n) (pn_good n) h
  | 0, .bl _, h => by cases h
  | n + 1, .bl _, h => by cases h
  | 0, .tup _, h => by cases h
  | 0, .lst _, h => by cases h
  | 0, .ktup _, h => by cases h
  | n + 1, .ktup _, h => by cases h
  | 0, .scr _, h => by cases h
  | n + 1, .scr _, h => by cases h
  | 0, .dic _ _, h => by cases h
  | n + 1, .dic _ _, h => by cases h
  | 0, .dct _ _, h => by cases h
  | n + 1, .dct _ _, h => by cases h
  | 0, .obj _ _ _, h => by cases h
  | n + 1, .obj _ _ _, h => by cases h
theorem pn_cases {n : Nat} {d : D} (h : pn n d = true) : d = .non ∨ (∃ i, d = .int i) ∨ (∃ s, d = .str s) ∨ (∃ m xs, n = m + 1 ∧ d = .tup xs ∧ xs.all (pn m) = true) ∨ (∃ m xs, n = m + 1 ∧ d = .lst xs ∧ xs.all (pn m) = true) := by
  cases d with
  | non => exact .inl rfl
  | int i => exact .inr (.inl ⟨i, rfl⟩)
  | str s => exact .inr (.inr (.inl ⟨s, rfl⟩))
  | tup xs => cases n with
    | zero => cases h
    | succ n => exact .inr (.inr (.inr (.inl ⟨n, xs, rfl, rfl, h⟩)))
  | lst xs => cases n with
    | zero => cases h
    | succ n => exact .inr (.inr (.inr (.inr ⟨n, xs, rfl, rfl, h⟩)))
  | bl => cases n <;> cases h
  | ktup => cases n <;> cases h
  | scr => cases n <;> cases h
  | dic => cases n <;> cases h
  | dct => cases n <;> cases h
  | obj => cases n <;> cases h
def EqvOf (a b : D) : Prop := ∃ p q, toP a = some p ∧ toP b = some q ∧ (PyData.eqv p q = true ↔ a = b)
theorem pns_eqv {n : Nat} (ih : ∀ a b, pn n a = true → pn n b = true → EqvOf a b) : ∀ {xs ys : List D}, xs.all (pn n) = true → ys.all (pn n) = true → ∃ ps qs, toPs xs = some ps ∧ toPs ys = some qs ∧ (PyData.eqvAll ps qs = true ↔ xs = ys)
  | [], [], _, _ => ⟨[], [], rfl, rfl, by simp [PyData.eqvAll]⟩
  | x :: xs, [], hx, _ => by
    rw [List.all_cons, Bool.and_eq_true] at hx
    obtain ⟨p, e1, _⟩ := good_toP n x (pn_good n x hx.1)
    obtain ⟨ps, e2, _⟩ := goods_toP (good_toP n) (all_imp (pn_good n) hx.2)
    refine ⟨p :: ps, [], ?_, rfl, by simp [PyData.eqvAll]⟩
    show (match toP x, toPs xs with
      | some p, some ps => some (p :: ps)
      | _, _ => none) = _
    rw [e1, e2]
  | [], y :: ys, _, hx => by
    rw [List.all_cons, Bool.and_eq_true] at hx
    obtain ⟨p, e1, _⟩ := good_toP n y (pn_good n y hx.1)
    obtain ⟨ps, e2, _⟩ := goods_toP (good_toP n) (all_imp (pn_good n) hx.2)
    refine ⟨[], p :: ps, rfl, ?_, by simp [PyData.eqvAll]⟩
    show (match toP y, toPs ys with
      | some p, some ps => some (p :: ps)
      | _, _ => none) = _
    rw [e1, e2]
  | x :: xs, y :: ys, hx, hy => by
    rw [List.all_cons, Bool.and_eq_true] at hx hy
    obtain ⟨p, q, e1, e2, e3⟩ := ih x y hx.1 hy.1
    obtain ⟨ps, qs, k1, k2, k3⟩ := pns_eqv ih hx.2 hy.2
    refine ⟨p :: ps, q :: qs, ?_, ?_, ?_⟩
    · show (match toP x, toPs xs with
        | some p, some ps => some (p :: ps)
        | _, _ => none) = _
      rw [e1, k1]
    · show (match toP y, toPs ys with
        | some p, some ps => some (p :: ps)
        | _, _ => none) = _
      rw [e2, k2]
    · simp only [PyData.eqvAll, Bool.and_eq_true, e3, k3, List.cons.injEq]
theorem pn_eqv : ∀ (n : Nat) (a b : D), pn n a = true → pn n b = true → EqvOf a b := by
  intro n
  induction n with
  | zero =>
    intro a b ha hb
    rcases pn_cases ha with rfl | ⟨i, rfl⟩ | ⟨s, rfl⟩ | ⟨m, xs, e, _⟩ | ⟨m, xs, e, _⟩
    all_goals first | (cases e; done) | skip
    all_goals
      rcases pn_cases hb with rfl | ⟨j, rfl⟩ | ⟨t, rfl⟩ | ⟨m, ys, e, _⟩ | ⟨m, ys, e, _⟩
      all_goals first | (cases e; done) | exact ⟨_, _, rfl, rfl, by simp [PyData.eqv]⟩
  | succ n ih =>
    intro a b ha hb
    rcases pn_cases ha with rfl | ⟨i, rfl⟩ | ⟨s, rfl⟩ | ⟨m, xs, e, rfl, hx⟩ | ⟨m, xs, e, rfl, hx⟩
    · rcases pn_cases hb with rfl | ⟨j, rfl⟩ | ⟨t, rfl⟩ | ⟨m, ys, e, rfl, hy⟩ | ⟨m, ys, e, rfl, hy⟩
      all_goals first | exact ⟨_, _, rfl, rfl, by simp [PyData.eqv]⟩ | skip
      all_goals
        cases e
        obtain ⟨ps, _, e1, _, _⟩ := pns_eqv ih hy hy
        exact ⟨_, _, rfl, by show (toPs _).map _ = _; rw [e1]; rfl, by simp [PyData.eqv]⟩
    · rcases pn_cases hb with rfl | ⟨j, rfl⟩ | ⟨t, rfl⟩ | ⟨m, ys, e, rfl, hy⟩ | ⟨m, ys, e, rfl, hy⟩
      all_goals first | exact ⟨_, _, rfl, rfl, by simp [PyData.eqv]⟩ | skip
      all_goals
        cases e
        obtain ⟨ps, _, e1, _, _⟩ := pns_eqv ih hy hy
        exact ⟨_, _, rfl, by show (toPs _).map _ = _; rw [e1]; rfl, by simp [PyData.eqv]⟩
    · rcases pn_cases hb with rfl | ⟨j, rfl⟩ | ⟨t, rfl⟩ | ⟨m, ys, e, rfl, hy⟩ | ⟨m, ys, e, rfl, hy⟩
      all_goals first | exact ⟨_, _, rfl, rfl, by simp [PyData.eqv]⟩ | skip
      all_goals
        cases e
        obtain ⟨ps, _, e1, _, _⟩ := pns_eqv ih hy hy
        exact ⟨_, _, rfl, by show (toPs _).map _ = _; rw [e1]; rfl, by simp [PyData.eqv]⟩
    · cases e
      rcases pn_cases hb with rfl | ⟨j, rfl⟩ | ⟨t, rfl⟩ | ⟨m, ys, e, rfl, hy⟩ | ⟨m, ys, e, rfl, hy⟩
      · obtain ⟨ps, _, e1, _, _⟩ := pns_eqv ih hx hx
        exact ⟨_, _, by show (toPs _).map _ = _; rw [e1]; rfl, rfl, by simp [PyData.eqv]⟩
      · obtain ⟨ps, _, e1, _, _⟩ := pns_eqv ih hx hx
        exact ⟨_, _, by show (toPs _).map _ = _; rw [e1]; rfl, rfl, by simp [PyData.eqv]⟩
      · obtain ⟨ps, _, e1, _, _⟩ := pns_eqv ih hx hx
        exact ⟨_, _, by show (toPs _).map _ = _; rw [e1]; rfl, rfl, by simp [PyData.eqv]⟩
      · cases e
        obtain ⟨ps, qs, e1, e2, e3⟩ := pns_eqv ih hx hy
        exact ⟨_, _, by show (toPs _).map _ = _; rw [e1]; rfl, by show (toPs _).map _ = _; rw [e2]; rfl, by simp [PyData.eqv, e3]⟩
      · cases e
        obtain ⟨ps, qs, e1, e2, e3⟩ := pns_eqv ih hx hy
        exact ⟨_, _, by show (toPs _).map _ = _; rw [e1]; rfl, by show (toPs _).map _ = _; rw [e2]; rfl, by simp [PyData.eqv]⟩
    · cases e
      rcases pn_cases hb with rfl | ⟨j, rfl⟩ | ⟨t, rfl⟩ | ⟨m, ys, e, rfl, hy⟩ | ⟨m, ys, e, rfl, hy⟩
      · obtain ⟨ps, _, e1, _, _⟩ := pns_eqv ih hx hx
        exact ⟨_, _, by show (toPs _).map _ = _; rw [e1]; rfl, rfl, by simp [PyData.eqv]⟩
      · obtain ⟨ps, _, e1, _, _⟩ := pns_eqv ih hx hx
        exact ⟨_, _, by show (toPs _).map _ = _; rw [e1]; rfl, rfl, by simp [PyData.eqv]⟩
      · obtain ⟨ps, _, e1, _, _⟩ := pns_eqv ih hx hx
        exact ⟨_, _, by show (toPs _).map _ = _; rw [e1]; rfl, rfl, by simp [PyData.eqv]⟩
      · cases e
        obtain ⟨ps, qs, e1, e2, e3⟩ := pns_eqv ih hx hy
        exact ⟨_, _, by show (toPs _).map _ = _; rw [e1]; rfl, by show (toPs _).map _ = _; rw [e2]; rfl, by simp [PyData.eqv]⟩
      · cases e
        obtain ⟨ps, qs, e1, e2, e3⟩ := pns_eqv ih hx hy
        exact ⟨_, _, by show (toPs _).map _ = _; rw [e1]; rfl, by show (toPs _).map _ = _; rw [e2]; rfl, by simp [PyData.eqv, e3]⟩
theorem eqS_iff {n : Nat} {a b : D} (ha : pn n a = true) (hb : pn n b = true) : eqS a b = true ↔ a = b := by
  obtain ⟨p, q, e1, e2, e3⟩ := pn_eqv n a b ha hb
  unfold eqS
  rw [e1, e2]
  exact e3
open Classical in
theorem dEq_pn {n : Nat} (hn : n ≤ 64) {a b : D} (ha : pn n a = true) (hb : pn n b = true) : dEq a b = .ok (.bl (decide (a = b)), false) := by
  rw [dEq_good hn (pn_good n a ha) (pn_good n b hb)]
  have e : eqS a b = decide (a = b) := by
    rw [Bool.eq_iff_iff, eqS_iff ha hb, decide_eq_true_iff]
  rw [e]
open Classical in
theorem dNe_pn {n : Nat} (hn : n ≤ 64) {a b : D} (ha : pn n a = true) (hb : pn n b = true) : dNe a b = .ok (.bl (!decide (a = b)), false) := by
  rw [dNe_good hn (pn_good n a ha) (pn_good n b hb)]
  have e : eqS a b = decide (a = b) := by
    rw [Bool.eq_iff_iff, eqS_iff ha hb, decide_eq_true_iff]
  rw [e]
theorem pn_ints (n : Nat) (xs : List Int) : (xs.map D.int).all (pn n) = true := by
  rw [List.all_eq_true]
  intro d hd
  obtain ⟨i, _, rfl⟩ := List.mem_map.mp hd
  cases n <;> rfl
theorem map_int_inj {xs ys : List Int} : xs.map D.int = ys.map D.int ↔ xs = ys := by
  constructor
  · intro h
    have := congrArg intsD h
    rw [intsD_map, intsD_map] at this
    cases this; rfl
  · rintro rfl; rfl
theorem pn_itup (n : Nat) (xs : List Int) : pn (n + 1) (.tup (xs.map .int)) = true := pn_ints n xs
theorem pn_ilst (n : Nat) (xs : List Int) : pn (n + 1) (.lst (xs.map .int)) = true := pn_ints n xs
/-! ### more about lists and loops -/
theorem rngL_nil {a b : Int} (h : b ≤ a) : rngL a b = [] := by
  unfold rngL
  have e : (b - a).toNat = 0 := by omega
  rw [e]; rfl
theorem rngL_cons {a b : Int} (h : a < b) : rngL a b = .int a :: rngL (a + 1) b := by
  unfold rngL
  have e : (b - a).toNat = (b - (a + 1)).toNat + 1 := by omega
  rw [e, List.range_succ_eq_map, List.map_cons, List.map_map]
  congr 1
  · show D.int (a + ((0 : Nat) : Int)) = _
    congr 1
    omega
  · refine List.map_congr_left fun i _ => ?_
    show D.int (a + ((i + 1 : Nat) : Int)) = D.int (a + 1 + (i : Int))
    congr 1
    omega
theorem deq_bb (b : Bool) : dEq (.bl b) (.bl b) = .ok (.bl true, false) := by cases b <;> rfl
theorem ty_bl (b : Bool) : isTy (tyD (.bl b)) "bool" = true := by simp [isTy, tyD]
theorem at_get {xs : List D} {i : Int} (h0 : 0 ≤ i) (h1 : i < xs.length) (d : D) (e : xs[i.toNat]? = some d) : L2.atI xs i = some d := by
  unfold L2.atI L2.ixN
  rw [if_pos h0, if_pos h1]
  exact e
theorem dix_tget {xs : List D} {i : Int} {d : D} (h0 : 0 ≤ i) (e : xs[i.toNat]? = some d) : dIx (.tup xs) (.int i) = .ok (d, false) := by
  have hl := (List.getElem?_eq_some_iff.mp e).1
  show (match L2.atI xs i with
    | some d => R.ok (d, false)
    | none => .bad) = _
  rw [at_get h0 (by omega) d e]
theorem dix_lget {xs : List D} {i : Int} {d : D} (h0 : 0 ≤ i) (e : xs[i.toNat]? = some d) : dIx (.lst xs) (.int i) = .ok (d, false) := by
  have hl := (List.getElem?_eq_some_iff.mp e).1
  show (match L2.atI xs i with
    | some d => R.ok (d, false)
    | none => .bad) = _
  rw [at_get h0 (by omega) d e]
theorem dix_tany {xs : List D} {i : Int} (h0 : 0 ≤ i) (h1 : i < xs.length) : ∃ x, x ∈ xs ∧ dIx (.tup xs) (.int i) = .ok (x, false) := by
  have hl : i.toNat < xs.length := by omega
  exact ⟨xs[i.toNat], List.getElem_mem hl, dix_tget h0 (List.getElem?_eq_getElem hl)⟩
theorem dix_0 (x : D) (r : List D) : dIx (.tup (x :: r)) (.int 0) = .ok (x, false) := dix_tget (Int.le_refl _) rfl
theorem dix_1 (x y : D) (r : List D) : dIx (.tup (x :: y :: r)) (.int 1) = .ok (y, false) := dix_tget (by decide) rfl
theorem dix_2 (x y z : D) (r : List D) : dIx (.tup (x :: y :: z :: r)) (.int 2) = .ok (z, false) := dix_tget (by decide) rfl
theorem dix_3t (x y z u : D) (r : List D) : dIx (.tup (x :: y :: z :: u :: r)) (.int 3) = .ok (u, false) := dix_tget (by decide) rfl
theorem dix_4t (x y z u v : D) (r : List D) : dIx (.tup (x :: y :: z :: u :: v :: r)) (.int 4) = .ok (v, false) := dix_tget (by decide) rfl
theorem in_two (w a b : Str) : dIn (.str w) (.tup [.str a, .str b]) = .ok (.bl (decide (w = a) || decide (w = b)), false) := by
  have c : ∀ t : Str, decide (t = w) = decide (w = t) := fun t => decide_eq_decide.mpr ⟨Eq.symm, Eq.symm⟩
  show R.ok (D.bl (decide (a = w) || (decide (b = w) || false)), false) = _
  rw [Bool.or_false, c, c]
theorem notin_two (w a b : Str) : dNotIn (.str w) (.tup [.str a, .str b]) = .ok (.bl (!(decide (w = a) || decide (w = b))), false) := by
  have c : ∀ t : Str, decide (t = w) = decide (w = t) := fun t => decide_eq_decide.mpr ⟨Eq.symm, Eq.symm⟩
  show R.ok (D.bl (!(decide (a = w) || (decide (b = w) || false))), false) = _
  rw [Bool.or_false, c, c]
theorem glist_t (xs : List D) : gList [.tup xs] = .ok (.lst xs, true) := rfl
theorem glist_l (xs : List D) : gList [.lst xs] = .ok (.lst xs, true) := rfl
theorem gtuple_t (xs : List D) : gTuple [.tup xs] = .ok (.tup xs, false) := rfl
theorem bit_eq (fe : Rho → R (D × Bool)) (ρ : Rho) : bIt fe ρ = (fe ρ >>= fun p => itD p.1) := rfl
theorem itd_l (xs : List D) : itD (.lst xs) = .ok xs := rfl
theorem itd_t (xs : List D) : itD (.tup xs) = .ok xs := rfl
/-- a comprehension over things that all answer -/
theorem compL_map {g : D → Rho → R Rho} {fe : Rho → R (D × Bool)} (h : D → D) {ρ : Rho} : ∀ {ds : List D}, (∀ d ∈ ds, ∃ ρ1 b, g d ρ = .ok ρ1 ∧ fe ρ1 = .ok (h d, b)) → compL g cYes fe ds ρ = .ok (ds.map h)
  | [], _ => rfl
  | d :: ds, k => by
    obtain ⟨ρ1, b, e1, e2⟩ := k d List.mem_cons_self
    have ih := compL_map h (ds := ds) fun d hd => k d (List.mem_cons_of_mem _ hd)
    simp [compL, cYes, e1, e2, ih]
/-- the same, where the answers are not told by a function -/
theorem compL_ex {g : D → Rho → R Rho} {fe : Rho → R (D × Bool)} (P : D → D → Prop) {ρ : Rho} : ∀ {ds : List D}, (∀ d ∈ ds, ∃ ρ1 b y, g d ρ = .ok ρ1 ∧ fe ρ1 = .ok (y, b) ∧ P d y) → ∃ ys, compL g cYes fe ds ρ = .ok ys ∧ ys.length = ds.length ∧ ∀ y ∈ ys, ∃ d ∈ ds, P d y
  | [], _ => ⟨[], rfl, rfl, by simp⟩
  | d :: ds, k => by
    obtain ⟨ρ1, b, y, e1, e2, p⟩ := k d List.mem_cons_self
    obtain ⟨ys, ih, hl, hy⟩ := compL_ex P (ds := ds) fun d hd => k d (List.mem_cons_of_mem _ hd)
    refine ⟨y :: ys, by simp [compL, cYes, e1, e2, ih], by simp [hl], fun z hz => ?_⟩
    rcases List.mem_cons.mp hz with rfl | hz
    · exact ⟨d, List.mem_cons_self, p⟩
    · obtain ⟨e, he, pe⟩ := hy z hz
      exact ⟨e, List.mem_cons_of_mem _ he, pe⟩
theorem blsD_map (h : D → Bool) : ∀ ds : List D, blsD (ds.map fun d => D.bl (h d)) = some (ds.map h)
  | [] => rfl
  | d :: ds => by show (blsD (ds.map fun d => D.bl (h d))).map (h d :: ·) = _; rw [blsD_map]; rfl
theorem gall_map (h : D → Bool) (ds : List D) : gAll [.lst (ds.map fun d => D.bl (h d))] = .ok (.bl (ds.all h), false) := by
  show (match blsD (ds.map fun d => D.bl (h d)) with
    | some ns => okB (ns.all id)
    | none => .bad) = _
  rw [blsD_map]
  show okB ((ds.map h).all id) = _
  rw [List.all_map]; rfl
theorem gany_map (h : D → Bool) (ds : List D) : gAny [.lst (ds.map fun d => D.bl (h d))] = .ok (.bl (ds.any h), false) := by
  show (match blsD (ds.map fun d => D.bl (h d)) with
    | some ns => okB (ns.any id)
    | none => .bad) = _
  rw [blsD_map]
  show okB ((ds.map h).any id) = _
  rw [List.any_map]; rfl
/-! ### rising lists -/
def asc : List Int → Bool
  | x :: y :: r => decide (x ≤ y) && asc (y :: r)
  | _ => true
theorem asc_pw : ∀ {xs : List Int}, asc xs = true → xs.Pairwise (· ≤ ·)
  | [], _ => .nil
  | [x], _ => List.pairwise_singleton _ _
  | x :: y :: r, h => by
    have h' : (decide (x ≤ y) && asc (y :: r)) = true := h
    rw [Bool.and_eq_true, decide_eq_true_eq] at h'
    have ih := asc_pw h'.2
    refine List.pairwise_cons.mpr ⟨fun z hz => ?_, ih⟩
    rcases List.mem_cons.mp hz with rfl | hz
    · exact h'.1
    · exact Int.le_trans h'.1 ((List.pairwise_cons.mp ih).1 z hz)
theorem pw_asc : ∀ {xs : List Int}, xs.Pairwise (· ≤ ·) → asc xs = true
  | [], _ => rfl
  | [x], _ => rfl
  | x :: y :: r, h => by
    have k := List.pairwise_cons.mp h
    show (decide (x ≤ y) && asc (y :: r)) = true
    rw [pw_asc k.2, decide_eq_true (k.1 y List.mem_cons_self)]; rfl
theorem sortI_pw (xs : List Int) : (sortI xs).Pairwise (· ≤ ·) := by
  have := List.pairwise_mergeSort (le := fun a b : Int => decide (a ≤ b)) (fun a b c h1 h2 => by simp at *; omega) (fun a b => by simp; omega) xs
  exact this.imp fun h => by simpa using h
theorem sortI_perm (xs : List Int) : (sortI xs).Perm xs := List.mergeSort_perm _ _
theorem asc_sort (xs : List Int) : (xs = sortI xs) ↔ asc xs = true := by
  constructor
  · intro h
    rw [h]; exact pw_asc (sortI_pw xs)
  · intro h; exact sortI_of (List.Perm.refl _) (asc_pw h)
theorem dEq_ints (xs ys : List Int) : dEq (.lst (xs.map .int)) (.lst (ys.map .int)) = .ok (.bl (decide (xs = ys)), false) := by
  rw [dEq_good (n := 1) (by decide) (pn_good 1 _ (pn_ilst 0 xs)) (pn_good 1 _ (pn_ilst 0 ys))]
  have e : eqS (.lst (xs.map .int)) (.lst (ys.map .int)) = decide (xs = ys) := by
    rw [Bool.eq_iff_iff, eqS_iff (n := 1) (pn_ilst 0 xs) (pn_ilst 0 ys), decide_eq_true_iff]
    constructor
    · intro h
      exact map_int_inj.mp (D.lst.inj h)
    · rintro rfl; rfl
  rw [e]
theorem gsorted_t (xs : List Int) : gSorted2 [.tup (xs.map .int)] = .ok (.lst ((sortI xs).map .int), true) := by
  show (match intsD (xs.map .int) with
    | some ns => R.ok (D.lst ((sortI ns).map D.int), true)
    | none => .bad) = _
  rw [intsD_map]
theorem gsorted_l (xs : List Int) : gSorted2 [.lst (xs.map .int)] = .ok (.lst ((sortI xs).map .int), true) := gsorted2_i (intsD_map xs)
theorem put_l {ds : List D} {j : Int} (v : D) (h0 : 0 ≤ j) (h1 : j < ds.length) : putD (.lst ds) (.int j) v = some (.lst (ds.set j.toNat v)) := by
  show (L2.ixN ds.length j).map (fun n => D.lst (ds.set n v)) = _
  unfold L2.ixN
  rw [if_pos h0, if_pos h1]; rfl
theorem dadd_lst {xs ys : List D} (h : xs.length + ys.length ≤ 5) : dAdd (.lst xs) (.lst ys) = .ok (.lst (xs ++ ys), true) := by
  show (if xs.length + ys.length ≤ sizeLine then R.ok (D.lst (xs ++ ys), true) else .bad) = _
  rw [if_pos (Nat.le_trans h s5_ok)]
--CUT
/-! ### words and lines of a page -/
def numS (i : Int) : Str := Str.ofString (toString i)
def ptW : D → List Str
  | .str s => [s]
  | .int i => [numS i]
  | .tup xs => xs.map fun d => match d with
    | .int i => numS i
    | _ => Str.empty
  | _ => []
/-- a part of a row -/
def Prt (d : D) : Prop := (∃ s : Str, d = .str s ∧ s.length ≤ 8) ∨ (∃ i : Int, d = .int i ∧ 0 ≤ i ∧ i ≤ 9) ∨ ∃ ns : List Int, d = .tup (ns.map .int) ∧ ns.length ≤ 9 ∧ ∀ n ∈ ns, 0 ≤ n ∧ n ≤ 9
theorem pg1_ok : (1 : Nat) ≤ sizeLine := by decide
theorem num_len (i : Int) (h0 : 0 ≤ i) (h1 : i ≤ 9) : (numS i).length = 1 := by
  rcases (by omega : i = 0 ∨ i = 1 ∨ i = 2 ∨ i = 3 ∨ i = 4 ∨ i = 5 ∨ i = 6 ∨ i = 7 ∨ i = 8 ∨ i = 9) with rfl | rfl | rfl | rfl | rfl | rfl | rfl | rfl | rfl | rfl <;> decide +kernel
theorem ptW_tup (ns : List Int) : ptW (.tup (ns.map .int)) = ns.map numS := by
  show ((ns.map D.int).map _) = _
  rw [List.map_map]; rfl
theorem prt_w {d : D} (h : Prt d) : (ptW d).length ≤ 9 ∧ ∀ w ∈ ptW d, w.length ≤ 8 := by
  rcases h with ⟨s, rfl, hs⟩ | ⟨i, rfl, h0, h1⟩ | ⟨ns, rfl, hl, hn⟩
  · exact ⟨by simp [ptW], fun w hw => by rw [List.mem_singleton.mp hw]; exact hs⟩
  · refine ⟨by simp [ptW], fun w hw => ?_⟩
    have e : w = numS i := List.mem_singleton.mp hw
    rw [e, num_len i h0 h1]; decide
  · rw [ptW_tup]
    refine ⟨by rw [List.length_map]; exact hl, fun w hw => ?_⟩
    obtain ⟨n, hn', rfl⟩ := List.mem_map.mp hw
    rw [num_len n (hn n hn').1 (hn n hn').2]; decide
theorem gstr_s (s : Str) : gStrN [.str s] = .ok (.str s, false) := rfl
theorem gstr_i (i : Int) (h0 : 0 ≤ i) (h1 : i ≤ 9) : gStrN [.int i] = .ok (.str (numS i), false) := by
  show (if i.natAbs.log2 < 1920 then R.ok (D.str (toString i), false) else .bad) = _
  rw [if_pos (log2_small (k := 10) (by have : (2 : Nat) ^ 10 = 1024 := by decide
                                       omega) (by decide) |> fun h => Nat.lt_trans h (by decide))]
  rfl
def lnS (h : Str) (ws : List Str) : Str := ws.foldl (fun s w => s ++ " " ++ w) h
theorem str_assoc (a b c : Str) : a ++ b ++ c = a ++ (b ++ c) := TL.ext_tl (by rw [TL.tl_append, TL.tl_append, TL.tl_append, TL.tl_append, List.append_assoc])
theorem lnS_app (p : Str) : ∀ (ws : List Str) (z : Str), lnS (p ++ z) ws = p ++ lnS z ws
  | [], _ => rfl
  | w :: ws, z => by
    show lnS (p ++ z ++ " " ++ w) ws = p ++ lnS (z ++ " " ++ w) ws
    rw [← lnS_app p ws, str_assoc, str_assoc, str_assoc]
theorem join_ln : ∀ (ws : List Str) (h : Str), Txt.join " " (h :: ws) = lnS h ws := fun ws h => by
  rw [TL.join_eq]
  induction ws generalizing h with
  | nil => rfl
  | cons w ws ih =>
    show h ++ " " ++ Str.join " " (w :: ws) = lnS (h ++ " " ++ w) ws
    rw [ih, ← lnS_app]
theorem app_len (a b : Str) : (a ++ b).length = a.length + b.length := by
  rw [TL.len_tl, TL.tl_append, List.length_append, ← TL.len_tl, ← TL.len_tl]
theorem blank_len : (" " : Str).length = 1 := by decide +kernel
theorem lnS_len : ∀ (ws : List Str) (h : Str), (∀ w ∈ ws, w.length ≤ 8) → (lnS h ws).length ≤ h.length + 9 * ws.length
  | [], h, _ => by show h.length ≤ _; omega
  | w :: ws, h, hw => by
    have := lnS_len ws (h ++ " " ++ w) fun x hx => hw x (List.mem_cons_of_mem _ hx)
    have h8 := hw w List.mem_cons_self
    rw [app_len, app_len, blank_len] at this
    show (lnS (h ++ " " ++ w) ws).length ≤ _
    rw [List.length_cons]
    omega
theorem dadd_s (a b : Str) (h : a.length + b.length ≤ 10000000) : dAdd (.str a) (.str b) = .ok (.str (a ++ b), false) := if_pos (Nat.le_trans h (by decide))
theorem sum_le_n {c : Nat} : ∀ {l : List Str}, (∀ w ∈ l, w.length ≤ c) → (l.map (·.length)).sum ≤ c * l.length
  | [], _ => Nat.le_refl _
  | w :: l, h => by
    have := sum_le_n (l := l) fun x hx => h x (List.mem_cons_of_mem _ hx)
    have := h w List.mem_cons_self
    rw [List.map_cons, List.sum_cons, List.length_cons, Nat.mul_add, Nat.mul_one]
    omega
theorem strs_all : ∀ l : List Str, strsD (l.map .str) = some l
  | [] => rfl
  | s :: l => by
    show (strsD (l.map .str)).map (s :: ·) = _
    rw [strs_all l]; rfl
theorem gjoin_ok (a : Str) (l : List Str) {c : Nat} (ha : a.length ≤ 1) (h : ∀ w ∈ l, w.length ≤ c) (hl : (c + 1) * l.length ≤ 10000000) : gJoin (.str a) (.lst (l.map .str)) = .ok (.str (Txt.join a l), false) := by
  have s := sum_le_n h
  have m : l.length * a.length ≤ l.length * 1 := Nat.mul_le_mul_left _ ha
  rw [Nat.add_mul] at hl
  show (match strsD (l.map .str) with
    | some ys => if (ys.map fun y : Str => y.length).sum + ys.length * a.length ≤ 16777216 then R.ok (D.str (Txt.join a ys), false) else .bad
    | none => .bad) = _
  rw [strs_all]
  exact if_pos (by omega)
/-! ### the program's words of a row -/
theorem rw_nums (ns : List Int) (h : ∀ n ∈ ns, 0 ≤ n ∧ n ≤ 9) {ρ : Rho} {fe : Rho → R (D × Bool)} (hf : ∀ n : Int, 0 ≤ n → n ≤ 9 → fe (ρ.set 3 (some (.int n, false))) = .ok (.str (numS n), false)) : compL (gN 3) cYes fe (ns.map .int) ρ = .ok ((ns.map numS).map .str) := by
  induction ns with
  | nil => rfl
  | cons n ns ih =>
    have i := ih fun x hx => h x (List.mem_cons_of_mem _ hx)
    have e := hf n (h n List.mem_cons_self).1 (h n List.mem_cons_self).2
    rw [List.map_cons]
    simp [compL, gN, cYes, e, i]
theorem rw_loop (r0 : Option (D × Bool)) : ∀ (ds : List D) (acc : List Str) (r2 : Option (D × Bool)), (∀ d ∈ ds, Prt d) → acc.length + 9 * ds.length ≤ 1000 →
    ∃ r2', forL (gN 2) q_row_words_b1_0 ds [r0, some (.lst (acc.map .str), true), r2, none] = .next [r0, some (.lst ((acc ++ ds.flatMap ptW).map .str), true), r2', none]
  | [], acc, r2, _, _ => ⟨r2, by rw [List.flatMap_nil, List.append_nil]; rfl⟩
  | d :: ds, acc, r2, hd, hl => by
    rw [List.length_cons] at hl
    obtain ⟨w1, w2⟩ := prt_w (hd d List.mem_cons_self)
    obtain ⟨r2', ih⟩ := rw_loop r0 ds (acc ++ ptW d) (some (d, false)) (fun x hx => hd x (List.mem_cons_of_mem _ hx)) (by rw [List.length_append]; omega)
    refine ⟨r2', ?_⟩
    have sl : (acc.map D.str).length < sizeLine := by rw [List.length_map]; exact Nat.lt_trans (by omega : acc.length < 2000) (by decide)
    rw [List.flatMap_cons, ← List.append_assoc, forL_step (ρ1 := [r0, some (.lst (acc.map .str), true), some (d, false), none]) (ρ2 := [r0, some (.lst ((acc ++ ptW d).map .str), true), some (d, false), none]) rfl ?_]
    · exact ih
    · rw [List.map_append]
      rcases hd d List.mem_cons_self with ⟨s, rfl, hs⟩ | ⟨i, rfl, h0, h1⟩ | ⟨ns, rfl, hn, hn2⟩
      · have e : (ptW (.str s)).map D.str = [.str s] := rfl
        rw [e]
        generalize acc.map D.str = A at *
        simp [d_row_words_b2_0, q_row_words_b2_0, d_row_words_b3_0, q_row_words_b3_0, d_row_words_b1_0, q_row_words_b1_0, isTy, tyD, gstr_s, sApp, sl]
      · have e : (ptW (.int i)).map D.str = [.str (numS i)] := rfl
        have gs := gstr_i i h0 h1
        rw [e]
        generalize acc.map D.str = A at *
        simp [d_row_words_b2_0, q_row_words_b2_0, d_row_words_b3_0, q_row_words_b3_0, d_row_words_b1_0, q_row_words_b1_0, isTy, tyD, gs, sApp, sl]
      · rw [ptW_tup]
        have c := fun r2 => rw_nums ns hn2 (ρ := [r0, some (.lst (acc.map .str), true), r2, none]) (fe := bB gStrN (xCons (bVarA 3) (xNil))) fun n h0 h1 => by
          have gs := gstr_i n h0 h1
          generalize acc.map D.str = A at *
          simp [gs]
        have sl2 : (ns.map D.int).length ≤ 9 := by rw [List.length_map]; exact hn
        have sl3 : ((ns.map numS).map D.str).length ≤ sizeLine := by rw [List.length_map, List.length_map]; exact Nat.le_trans (by omega : ns.length ≤ 100) (by decide)
        have sl4 : (acc.map D.str).length + ((ns.map numS).map D.str).length ≤ sizeLine := by rw [List.length_map, List.length_map, List.length_map]; exact Nat.le_trans (by omega : acc.length + ns.length ≤ 2000) (by decide)
        generalize (ns.map numS).map D.str = B at *
        generalize acc.map D.str = A at *
        generalize ns.map D.int = C at *
        simp [d_row_words_b2_0, q_row_words_b2_0, d_row_words_b3_0, q_row_words_b3_0, d_row_words_b1_0, q_row_words_b1_0, isTy, tyD, bComp, wipeR, bIt, itd_t, c, sl3, sExt, sl4]
theorem row_words_ok (ds : List D) (h : ∀ d ∈ ds, Prt d) (hl : ds.length ≤ 10) : m_row_words [.tup ds] = .ok (.lst ((ds.flatMap ptW).map .str), true) := by
  obtain ⟨r2', e⟩ := rw_loop (some (.tup ds, false)) ds [] none h (by rw [List.length_nil]; omega)
  rw [List.nil_append] at e
  have e : forL (gN 2) q_row_words_b1_0 ds [some (.tup ds, false), some (.lst [], true), none, none] = _ := e
  generalize (ds.flatMap ptW).map D.str = A at *
  unfold m_row_words runF
  simp [d_row_words, d_row_words_a_2, q_row_words_a_2, d_row_words_a_1, q_row_words_a_1, d_row_words_a_0, q_row_words_a_0, s0_ok, bIt, itd_t, e, sRetV]
theorem words_len {ds : List D} (h : ∀ d ∈ ds, Prt d) : (ds.flatMap ptW).length ≤ 9 * ds.length ∧ ∀ w ∈ ds.flatMap ptW, w.length ≤ 8 := by
  constructor
  · induction ds with
    | nil => exact Nat.le_refl _
    | cons d ds ih =>
      have := ih fun x hx => h x (List.mem_cons_of_mem _ hx)
      have := (prt_w (h d List.mem_cons_self)).1
      rw [List.flatMap_cons, List.length_append, List.length_cons]
      omega
  · intro w hw
    obtain ⟨d, hd, hw⟩ := List.mem_flatMap.mp hw
    exact (prt_w (h d hd)).2 w hw
/-! ### the law's own lines -/
theorem ll_nums (r0 r1 r3 : Option (D × Bool)) : ∀ (ns : List Int) (acc : Str) (r4 : Option (D × Bool)), (∀ n ∈ ns, 0 ≤ n ∧ n ≤ 9) → acc.length + 2 * ns.length ≤ 5000 →
    ∃ r4', forL (gN 4) q__law_line_b3_0 (ns.map .int) [r0, r1, some (.str acc, false), r3, r4] = .next [r0, r1, some (.str (lnS acc (ns.map numS)), false), r3, r4']
  | [], acc, r4, _, _ => ⟨r4, rfl⟩
  | n :: ns, acc, r4, h, hl => by
    rw [List.length_cons] at hl
    obtain ⟨h0, h1⟩ := h n List.mem_cons_self
    have nl := num_len n h0 h1
    have bl := blank_len
    have al : (acc ++ " " ++ numS n).length = acc.length + 2 := by rw [app_len, app_len, bl, nl]
    obtain ⟨r4', ih⟩ := ll_nums r0 r1 r3 ns (acc ++ " " ++ numS n) (some (.int n, false)) (fun x hx => h x (List.mem_cons_of_mem _ hx)) (by rw [al]; omega)
    refine ⟨r4', ?_⟩
    have gs := gstr_i n h0 h1
    have d1 := dadd_s acc " " (by rw [bl]; omega)
    have d2 := dadd_s (acc ++ " ") (numS n) (by rw [app_len, bl, nl]; omega)
    rw [List.map_cons, forL_step (ρ1 := [r0, r1, some (.str acc, false), r3, some (.int n, false)]) (ρ2 := [r0, r1, some (.str (acc ++ " " ++ numS n), false), r3, some (.int n, false)]) rfl (by simp [d__law_line_b3_0, q__law_line_b3_0, gs, d1, d2])]
    exact ih
theorem ll_loop (r0 r1 : Option (D × Bool)) : ∀ (ds : List D) (acc : Str) (r3 r4 : Option (D × Bool)), (∀ d ∈ ds, Prt d) → acc.length + 90 * ds.length ≤ 2000 →
    ∃ r3' r4', forL (gN 3) q__law_line_b1_0 ds [r0, r1, some (.str acc, false), r3, r4] = .next [r0, r1, some (.str (lnS acc (ds.flatMap ptW)), false), r3', r4']
  | [], acc, r3, r4, _, _ => ⟨r3, r4, rfl⟩
  | d :: ds, acc, r3, r4, hd, hl => by
    rw [List.length_cons] at hl
    obtain ⟨w1, w2⟩ := prt_w (hd d List.mem_cons_self)
    have ll := lnS_len (ptW d) acc w2
    have step : ∃ r4', q__law_line_b1_0 [r0, r1, some (.str acc, false), some (d, false), r4] = .next [r0, r1, some (.str (lnS acc (ptW d)), false), some (d, false), r4'] := by
      have bl := blank_len
      rcases hd d List.mem_cons_self with ⟨s, rfl, hs⟩ | ⟨i, rfl, h0, h1⟩ | ⟨ns, rfl, hn, hn2⟩
      · have d1 := dadd_s acc " " (by rw [bl]; omega)
        have d2 := dadd_s (acc ++ " ") s (by rw [app_len, bl]; omega)
        have e : lnS acc (ptW (.str s)) = acc ++ " " ++ s := rfl
        exact ⟨r4, by rw [e]; simp [d__law_line_b1_0, q__law_line_b1_0, d__law_line_b4_0, q__law_line_b4_0, isTy, tyD, gstr_s, d1, d2]⟩
      · have gs := gstr_i i h0 h1
        have nl := num_len i h0 h1
        have d1 := dadd_s acc " " (by rw [bl]; omega)
        have d2 := dadd_s (acc ++ " ") (numS i) (by rw [app_len, bl, nl]; omega)
        have e : lnS acc (ptW (.int i)) = acc ++ " " ++ numS i := rfl
        exact ⟨r4, by rw [e]; simp [d__law_line_b1_0, q__law_line_b1_0, d__law_line_b4_0, q__law_line_b4_0, isTy, tyD, gs, d1, d2]⟩
      · obtain ⟨r4', e⟩ := ll_nums r0 r1 (some (.tup (ns.map .int), false)) ns acc r4 hn2 (by omega)
        rw [ptW_tup]
        exact ⟨r4', by simp [d__law_line_b1_0, q__law_line_b1_0, d__law_line_b2_0, q__law_line_b2_0, isTy, tyD, bIt, itd_t, e]⟩
    obtain ⟨r4', e⟩ := step
    obtain ⟨r3', r4'', ih⟩ := ll_loop r0 r1 ds (lnS acc (ptW d)) (some (d, false)) r4' (fun x hx => hd x (List.mem_cons_of_mem _ hx)) (by omega)
    refine ⟨r3', r4'', ?_⟩
    rw [forL_step (ρ1 := [r0, r1, some (.str acc, false), some (d, false), r4]) rfl e, ih]
    have : lnS acc ((d :: ds).flatMap ptW) = lnS (lnS acc (ptW d)) (ds.flatMap ptW) := by
      rw [List.flatMap_cons]
      exact List.foldl_append ..
    rw [this]
theorem law_line_ok (h : Str) (ds : List D) (hh : h.length ≤ 8) (hd : ∀ d ∈ ds, Prt d) (hl : ds.length ≤ 10) : m__law_line [.str h, .tup ds] = .ok (.str (lnS h (ds.flatMap ptW)), false) := by
  obtain ⟨r3, r4, e⟩ := ll_loop (some (.str h, false)) (some (.tup ds, false)) ds h none none hd (by omega)
  unfold m__law_line runF
  simp [d__law_line, d__law_line_a_2, q__law_line_a_2, d__law_line_a_1, q__law_line_a_1, d__law_line_a_0, q__law_line_a_0, bIt, itd_t, e, sRetV]
/-! ### things as rows of words -/
def Ths (d : D) : Prop := ∃ ds : List D, d = .tup ds ∧ (∀ x ∈ ds, Prt x) ∧ ds.length ≤ 10
def thW (d : D) : List Str := match d with
  | .tup ds => ds.flatMap ptW
  | _ => []
theorem name8 {z : Str} (h : NameOk z) : z.length ≤ 8 := h.2.1
theorem box_ths {d : D} (h : BoxOk d) : Ths d := by
  obtain ⟨z, s, i, rfl, hz, hs, i0, i1⟩ := h
  refine ⟨_, rfl, fun x hx => ?_, by simp⟩
  simp only [List.mem_cons, List.not_mem_nil, or_false] at hx
  rcases hx with rfl | rfl | rfl
  · exact .inl ⟨_, rfl, name8 hz⟩
  · exact .inr (.inl ⟨_, rfl, by omega, by omega⟩)
  · exact .inr (.inl ⟨_, rfl, by omega, by omega⟩)
theorem way8 {w : Str} (h : w = zB ∨ w = zOn ∨ w = zH) : w.length ≤ 8 := by rcases h with rfl | rfl | rfl <;> decide +kernel
theorem post_ths {d : D} (h : PostOk d) : Ths d := by
  obtain ⟨z, s, w, i, rfl, hz, hs, hw, i0, i1⟩ := h
  refine ⟨_, rfl, fun x hx => ?_, by simp⟩
  simp only [List.mem_cons, List.not_mem_nil, or_false] at hx
  rcases hx with rfl | rfl | rfl | rfl
  · exact .inl ⟨_, rfl, name8 hz⟩
  · exact .inr (.inl ⟨_, rfl, by omega, by omega⟩)
  · exact .inl ⟨_, rfl, way8 hw⟩
  · exact .inr (.inl ⟨_, rfl, by omega, by omega⟩)
/-- a row: a word, then parts -/
def Rws (d : D) : Prop := ∃ (w : Str) (ds : List D), d = .tup (.str w :: ds) ∧ w.length ≤ 8 ∧ (∀ x ∈ ds, Prt x) ∧ ds.length ≤ 9
theorem Rws.ths {d : D} (h : Rws d) : Ths d := by
  obtain ⟨w, ds, rfl, hw, hd, hl⟩ := h
  refine ⟨_, rfl, fun x hx => ?_, by rw [List.length_cons]; omega⟩
  rcases List.mem_cons.mp hx with rfl | hx
  · exact .inl ⟨_, rfl, hw⟩
  · exact hd x hx
theorem row_rws {bs ps : List D} (hb : ∀ d ∈ bs, BoxOk d) (hp : ∀ d ∈ ps, PostOk d) {d : D} (h : RowOk bs ps d) : Rws d := by
  have bn : ∀ {z : Str} {s i : Int}, D.tup [.str z, .int s, .int i] ∈ bs → z.length ≤ 8 ∧ s ≤ 9 := fun {z s i} h => by
    obtain ⟨z', s', i', e, hz, hs, _⟩ := hb _ h
    cases e
    exact ⟨name8 hz, hs.2⟩
  have pn : ∀ {z w : Str} {s i : Int}, D.tup [.str z, .int s, .str w, .int i] ∈ ps → z.length ≤ 8 := fun {z w s i} h => by
    obtain ⟨z', s', w', i', e, hz, _⟩ := hp _ h
    cases e
    exact name8 hz
  rcases h with ⟨z, y, w, s, i, t, l, hz, hy, e⟩ | ⟨z, s, i, v, hz, v0, v1, rfl⟩ | ⟨z, s, i, tb, hz, ⟨xs, rfl, xl, xb⟩, rfl⟩ | ⟨z, word, s, i, ns, hz, hn, hw, rfl⟩
  · have a := bn hz
    have b := pn hy
    rcases e with rfl | rfl
    · refine ⟨_, _, rfl, by decide +kernel, fun x hx => ?_, by simp⟩
      simp only [List.mem_cons, List.not_mem_nil, or_false] at hx
      rcases hx with rfl | rfl
      · exact .inl ⟨_, rfl, b⟩
      · exact .inl ⟨_, rfl, a.1⟩
    · refine ⟨_, _, rfl, by decide +kernel, fun x hx => ?_, by simp⟩
      simp only [List.mem_cons, List.not_mem_nil, or_false] at hx
      rcases hx with rfl | rfl
      · exact .inl ⟨_, rfl, a.1⟩
      · exact .inl ⟨_, rfl, b⟩
  · have a := bn hz
    refine ⟨_, _, rfl, by decide +kernel, fun x hx => ?_, by simp⟩
    simp only [List.mem_cons, List.not_mem_nil, or_false] at hx
    rcases hx with rfl | rfl
    · exact .inl ⟨_, rfl, a.1⟩
    · exact .inr (.inl ⟨_, rfl, v0, by omega⟩)
  · have a := bn hz
    refine ⟨_, _, rfl, by decide +kernel, fun x hx => ?_, by simp⟩
    simp only [List.mem_cons, List.not_mem_nil, or_false] at hx
    rcases hx with rfl | rfl
    · exact .inl ⟨_, rfl, a.1⟩
    · exact .inr (.inr ⟨xs, rfl, by omega, fun n hn => ⟨(xb n hn).1, by have := (xb n hn).2; omega⟩⟩)
  · have a := bn hz
    refine ⟨_, _, rfl, ?_, fun x hx => ?_, ?_⟩
    · rcases hw with ⟨rfl, _⟩ | ⟨rfl, _⟩ | ⟨rfl | rfl | rfl, _⟩ <;> decide +kernel
    · rcases List.mem_cons.mp hx with rfl | hx
      · exact .inl ⟨_, rfl, a.1⟩
      · obtain ⟨n, hn', rfl⟩ := List.mem_map.mp hx
        obtain ⟨s', i', h'⟩ := hn n hn'
        exact .inl ⟨_, rfl, (bn h').1⟩
    · rw [List.length_cons, List.length_map]
      rcases hw with ⟨_, h⟩ | ⟨_, h⟩ | ⟨_, h⟩ <;> omega
/-- the line of a thing behind a word, of a row -/
def lineT (w : Str) (d : D) : Str := lnS w (thW d)
def lineR (d : D) : Str := match d with
  | .tup (.str w :: ds) => lnS w (ds.flatMap ptW)
  | _ => Str.empty
theorem ths_len {d : D} (h : Ths d) {w : Str} (hw : w.length ≤ 8) : (lineT w d).length ≤ 1000 := by
  obtain ⟨ds, rfl, hd, hl⟩ := h
  obtain ⟨l1, l2⟩ := words_len hd
  have := lnS_len (ds.flatMap ptW) w l2
  show (lnS w (ds.flatMap ptW)).length ≤ 1000
  omega
theorem rws_len {d : D} (h : Rws d) : (lineR d).length ≤ 1000 := by
  obtain ⟨w, ds, rfl, hw, hd, hl⟩ := h
  obtain ⟨l1, l2⟩ := words_len hd
  have := lnS_len (ds.flatMap ptW) w l2
  show (lnS w (ds.flatMap ptW)).length ≤ 1000
  omega
theorem join_t {d : D} (h : Ths d) {w : Str} (hw : w.length ≤ 8) : gJoin (.str " ") (.lst (.str w :: (thW d).map .str)) = .ok (.str (lineT w d), false) := by
  obtain ⟨ds, rfl, hd, hl⟩ := h
  obtain ⟨l1, l2⟩ := words_len hd
  have := gjoin_ok " " (w :: ds.flatMap ptW) (c := 8) (by decide +kernel) (fun x hx => by
    rcases List.mem_cons.mp hx with rfl | hx
    · exact hw
    · exact l2 x hx) (by rw [List.length_cons]; omega)
  rw [join_ln] at this
  exact this
theorem join_r {d : D} (h : Rws d) : gJoin (.str " ") (.lst ((thW d).map .str)) = .ok (.str (lineR d), false) := by
  obtain ⟨w, ds, rfl, hw, hd, hl⟩ := h
  have e : thW (.tup (.str w :: ds)) = w :: ds.flatMap ptW := rfl
  obtain ⟨l1, l2⟩ := words_len hd
  have := gjoin_ok " " (w :: ds.flatMap ptW) (c := 8) (by decide +kernel) (fun x hx => by
    rcases List.mem_cons.mp hx with rfl | hx
    · exact hw
    · exact l2 x hx) (by rw [List.length_cons]; omega)
  rw [join_ln] at this
  rw [e]
  exact this
theorem thw_ok {d : D} (h : Ths d) : m_row_words [d] = .ok (.lst ((thW d).map .str), true) := by
  obtain ⟨ds, rfl, hd, hl⟩ := h
  exact row_words_ok ds hd hl
def linesS (bs ps rl : List D) : List Str := bs.map (lineT "box") ++ ps.map (lineT "post") ++ rl.map lineR
def pageS (bs ps rl : List D) : Str := Txt.join "\n" (linesS bs ps rl)
section
variable {bs ps rl : List D} (hb : ∀ d ∈ bs, Ths d) (hp : ∀ d ∈ ps, Ths d) (hr : ∀ d ∈ rl, Rws d) (lb : bs.length ≤ 8) (lp : ps.length ≤ 6) (lr : rl.length ≤ 50)
include hb hp hr lb lp lr
theorem lines_len : ∀ w ∈ linesS bs ps rl, w.length ≤ 1000 := fun w hw => by
  unfold linesS at hw
  rw [List.mem_append, List.mem_append] at hw
  rcases hw with (hw | hw) | hw
  · obtain ⟨d, hd, rfl⟩ := List.mem_map.mp hw
    exact ths_len (hb d hd) (by decide +kernel)
  · obtain ⟨d, hd, rfl⟩ := List.mem_map.mp hw
    exact ths_len (hp d hd) (by decide +kernel)
  · obtain ⟨d, hd, rfl⟩ := List.mem_map.mp hw
    exact rws_len (hr d hd)
theorem page_join : gJoin (.str "\n") (.lst ((linesS bs ps rl).map .str)) = .ok (.str (pageS bs ps rl), false) := gjoin_ok "\n" _ (c := 1000) (by decide +kernel) (lines_len hb hp hr lb lp lr) (by
  unfold linesS
  rw [List.length_append, List.length_append, List.length_map, List.length_map, List.length_map]
  omega)
theorem write_ok : m_write [.tup [.tup bs, .tup ps, .tup rl]] = .ok (.str (pageS bs ps rl), false) := by
  have c5 := fun r1 r2 r3 r4 r6 r7 r8 => compL_map (g := gN 5) (fe := bOp dAdd (bA (bLst (bCons (bC (D.str "box")) (bNil)))) (bA (bCall m_row_words (xCons (bVarA 5) (xNil))))) (fun d => D.lst (.str "box" :: (thW d).map .str)) (ρ := [some (.tup [.tup bs, .tup ps, .tup rl], false), r1, r2, r3, r4, none, r6, r7, r8]) (ds := bs) fun d hd => by
    have w := thw_ok (hb d hd)
    obtain ⟨ds, rfl, hx, hl⟩ := hb d hd
    have wl := (words_len hx).1
    have im : imm (.lst ((thW (.tup ds)).map .str)) = false := rfl
    have ad : dAdd (.lst [.str "box"]) (.lst ((thW (.tup ds)).map .str)) = .ok (.lst (.str "box" :: (thW (.tup ds)).map .str), true) := if_pos (by
      rw [List.length_map]
      exact Nat.le_trans (show 1 + (ds.flatMap ptW).length ≤ 1000 by omega) (by decide))
    generalize (thW (.tup ds)).map D.str = T at *
    exact ⟨_, true, rfl, by simp [pg1_ok, w, ad]⟩
  have c6 := fun r1 r2 r3 r4 r5 r7 r8 => compL_map (g := gN 6) (fe := bOp dAdd (bA (bLst (bCons (bC (D.str "post")) (bNil)))) (bA (bCall m_row_words (xCons (bVarA 6) (xNil))))) (fun d => D.lst (.str "post" :: (thW d).map .str)) (ρ := [some (.tup [.tup bs, .tup ps, .tup rl], false), r1, r2, r3, r4, r5, none, r7, r8]) (ds := ps) fun d hd => by
    have w := thw_ok (hp d hd)
    obtain ⟨ds, rfl, hx, hl⟩ := hp d hd
    have wl := (words_len hx).1
    have ad : dAdd (.lst [.str "post"]) (.lst ((thW (.tup ds)).map .str)) = .ok (.lst (.str "post" :: (thW (.tup ds)).map .str), true) := if_pos (by
      rw [List.length_map]
      exact Nat.le_trans (show 1 + (ds.flatMap ptW).length ≤ 1000 by omega) (by decide))
    generalize (thW (.tup ds)).map D.str = T at *
    exact ⟨_, true, rfl, by simp [pg1_ok, w, ad]⟩
  have c7 := fun r1 r2 r3 r4 r5 r6 r8 => compL_map (g := gN 7) (fe := bCall m_row_words (xCons (bVarA 7) (xNil))) (fun d => D.lst ((thW d).map .str)) (ρ := [some (.tup [.tup bs, .tup ps, .tup rl], false), r1, r2, r3, r4, r5, r6, none, r8]) (ds := rl) fun d hd => by
    have w := thw_ok (hr d hd).ths
    generalize (thW d).map D.str = T at *
    exact ⟨_, _, rfl, by simp [w]; rfl⟩
  let L : List D := bs.map (fun d => D.lst (.str "box" :: (thW d).map .str)) ++ ps.map (fun d => D.lst (.str "post" :: (thW d).map .str)) ++ rl.map fun d => D.lst ((thW d).map .str)
  have c8 : ∀ r1 r2 r3 r4 r5 r6 r7, compL (gN 8) cYes (bStrM gJoin (bA (bC (D.str " "))) (bVarA 8)) L [some (.tup [.tup bs, .tup ps, .tup rl], false), r1, r2, r3, r4, r5, r6, r7, none] = .ok ((linesS bs ps rl).map .str) := fun r1 r2 r3 r4 r5 r6 r7 => by
    have app : ∀ (l1 l2 : List D) (o1 o2 : List D) (ρ : Rho) (fe : Rho → R (D × Bool)), compL (gN 8) cYes fe l1 ρ = .ok o1 → compL (gN 8) cYes fe l2 ρ = .ok o2 → compL (gN 8) cYes fe (l1 ++ l2) ρ = .ok (o1 ++ o2) := fun l1 l2 => by
      induction l1 with
      | nil => intro o1 o2 ρ fe h1 h2; cases h1; exact h2
      | cons d l1 ih =>
        intro o1 o2 ρ fe h1 h2
        have h1' : ((gN 8 d ρ) >>= fun ρ1 => cYes ρ1 >>= fun b => if b = true then (fe ρ1 >>= fun p => compL (gN 8) cYes fe l1 ρ >>= fun r => pure (p.1 :: r)) else compL (gN 8) cYes fe l1 ρ) = .ok o1 := h1
        obtain ⟨ρ1, e1, h1'⟩ := R.bind_eq_ok h1'
        obtain ⟨b, e2, h1'⟩ := R.bind_eq_ok h1'
        cases e2
        obtain ⟨p, e3, h1'⟩ := R.bind_eq_ok h1'
        obtain ⟨r, e4, h1'⟩ := R.bind_eq_ok h1'
        cases h1'
        have := ih r o2 ρ fe e4 h2
        rw [List.cons_append]
        show ((gN 8 d ρ) >>= fun ρ1 => cYes ρ1 >>= fun b => if b = true then (fe ρ1 >>= fun p => compL (gN 8) cYes fe (l1 ++ l2) ρ >>= fun r => pure (p.1 :: r)) else compL (gN 8) cYes fe (l1 ++ l2) ρ) = _
        rw [e1, this]
        simp [cYes, e3]
    unfold linesS
    rw [List.map_append, List.map_append]
    refine app _ _ _ _ _ _ (app _ _ _ _ _ _ ?_ ?_) ?_
    · have := compL_map (g := gN 8) (fe := bStrM gJoin (bA (bC (D.str " "))) (bVarA 8)) (ρ := [some (.tup [.tup bs, .tup ps, .tup rl], false), r1, r2, r3, r4, r5, r6, r7, none]) (fun d => match gJoin (.str " ") d with
        | .ok p => p.1
        | _ => .non) (ds := bs.map fun d => D.lst (.str "box" :: (thW d).map .str)) fun d hd => by
          obtain ⟨x, hx, rfl⟩ := List.mem_map.mp hd
          have j := join_t (hb x hx) (w := "box") (by decide +kernel)
          generalize (thW x).map D.str = T at *
          exact ⟨_, false, rfl, by simp [bStrM, isStrD, j]⟩
      rw [this, List.map_map, List.map_map]
      congr 1
      refine List.map_congr_left fun x hx => ?_
      have j := join_t (hb x hx) (w := "box") (by decide +kernel)
      show (match gJoin (.str " ") (D.lst (.str "box" :: (thW x).map .str)) with
        | .ok p => p.1
        | _ => .non) = _
      rw [j]; rfl
    · have := compL_map (g := gN 8) (fe := bStrM gJoin (bA (bC (D.str " "))) (bVarA 8)) (ρ := [some (.tup [.tup bs, .tup ps, .tup rl], false), r1, r2, r3, r4, r5, r6, r7, none]) (fun d => match gJoin (.str " ") d with
        | .ok p => p.1
        | _ => .non) (ds := ps.map fun d => D.lst (.str "post" :: (thW d).map .str)) fun d hd => by
          obtain ⟨x, hx, rfl⟩ := List.mem_map.mp hd
          have j := join_t (hp x hx) (w := "post") (by decide +kernel)
          generalize (thW x).map D.str = T at *
          exact ⟨_, false, rfl, by simp [bStrM, isStrD, j]⟩
      rw [this, List.map_map, List.map_map]
      congr 1
      refine List.map_congr_left fun x hx => ?_
      have j := join_t (hp x hx) (w := "post") (by decide +kernel)
      show (match gJoin (.str " ") (D.lst (.str "post" :: (thW x).map .str)) with
        | .ok p => p.1
        | _ => .non) = _
      rw [j]; rfl
    · have := compL_map (g := gN 8) (fe := bStrM gJoin (bA (bC (D.str " "))) (bVarA 8)) (ρ := [some (.tup [.tup bs, .tup ps, .tup rl], false), r1, r2, r3, r4, r5, r6, r7, none]) (fun d => match gJoin (.str " ") d with
        | .ok p => p.1
        | _ => .non) (ds := rl.map fun d => D.lst ((thW d).map .str)) fun d hd => by
          obtain ⟨x, hx, rfl⟩ := List.mem_map.mp hd
          have j := join_r (hr x hx)
          generalize (thW x).map D.str = T at *
          exact ⟨_, false, rfl, by simp [bStrM, isStrD, j]⟩
      rw [this, List.map_map, List.map_map]
      congr 1
      refine List.map_congr_left fun x hx => ?_
      have j := join_r (hr x hx)
      show (match gJoin (.str " ") (D.lst ((thW x).map .str)) with
        | .ok p => p.1
        | _ => .non) = _
      rw [j]; rfl
  have pj := page_join hb hp hr lb lp lr
  have l1 : (bs.map (fun d => D.lst (.str "box" :: (thW d).map .str))).length ≤ sizeLine := by rw [List.length_map]; exact Nat.le_trans lb (by decide)
  have l2 : (ps.map (fun d => D.lst (.str "post" :: (thW d).map .str))).length ≤ sizeLine := by rw [List.length_map]; exact Nat.le_trans lp (by decide)
  have l3 : (rl.map (fun d => D.lst ((thW d).map .str))).length ≤ sizeLine := by rw [List.length_map]; exact Nat.le_trans lr (by decide)
  have l4 : (bs.map (fun d => D.lst (.str "box" :: (thW d).map .str))).length + (ps.map (fun d => D.lst (.str "post" :: (thW d).map .str))).length ≤ sizeLine := by
    rw [List.length_map, List.length_map]; exact Nat.le_trans (by omega : _ ≤ 100) (by decide)
  have l5 : (bs.map (fun d => D.lst (.str "box" :: (thW d).map .str))).length + (ps.map (fun d => D.lst (.str "post" :: (thW d).map .str))).length + (rl.map (fun d => D.lst ((thW d).map .str))).length ≤ sizeLine := by
    rw [List.length_map, List.length_map, List.length_map]; exact Nat.le_trans (by omega : _ ≤ 100) (by decide)
  have l6 : ((linesS bs ps rl).map D.str).length ≤ sizeLine := by
    rw [List.length_map]
    unfold linesS
    rw [List.length_append, List.length_append, List.length_map, List.length_map, List.length_map]; exact Nat.le_trans (by omega : _ ≤ 100) (by decide)
  have eL : L = bs.map (fun d => D.lst (.str "box" :: (thW d).map .str)) ++ ps.map (fun d => D.lst (.str "post" :: (thW d).map .str)) ++ rl.map fun d => D.lst ((thW d).map .str) := rfl
  rw [eL] at c8
  clear eL
  clear L
  generalize bs.map (fun d => D.lst (.str "box" :: (thW d).map .str)) = A at *
  generalize ps.map (fun d => D.lst (.str "post" :: (thW d).map .str)) = B at *
  generalize rl.map (fun d => D.lst ((thW d).map .str)) = C at *
  generalize (linesS bs ps rl).map D.str = T at *
  simp only [List.append_assoc] at c8
  unfold m_write runF
  simp [d_write, d_write_a_4, q_write_a_4, d_write_a_3, q_write_a_3, d_write_a_2, q_write_a_2, d_write_a_1, q_write_a_1, d_write_a_0, q_write_a_0, sAsg, gT, VM.gCons, gN, gNil, bComp, wipeR, bIt, itd_t, c5, l1, c6, l2, sExt, l4, c7, l3, l5, itd_l, c8, l6, bStrM, isStrD, pj]
end
/-! ### the law's own page -/
theorem cut_1r (x : D) (r : List D) : dSl (.tup (x :: r)) (some 1) none = .ok (.tup r, false) := by
  show R.ok (D.tup (cutD (x :: r) (some 1) none), false) = _
  have e : cutD (x :: r) (some 1) none = r := by
    unfold cutD HT.sIx
    simp
  rw [e]
open Classical in
section
variable {bs ps rl : List D} (hb : ∀ d ∈ bs, Ths d) (hp : ∀ d ∈ ps, Ths d) (hr : ∀ d ∈ rl, Rws d) (lb : bs.length ≤ 8) (lp : ps.length ≤ 6) (lr : rl.length ≤ 50)
include hb hp hr lb lp lr
theorem law_lines_ok : m__law_lines [.tup [.tup bs, .tup ps, .tup rl]] = .ok (.lst ((linesS bs ps rl).map .str), true) := by
  have c2 := fun r1 r3 r4 => compL_map (g := gN 2) (fe := bCall m__law_line (xCons (bA (bC (D.str "box"))) (xCons (bVarA 2) (xNil)))) (fun d => D.str (lineT "box" d)) (ρ := [some (.tup [.tup bs, .tup ps, .tup rl], false), r1, none, r3, r4]) (ds := bs) fun d hd => by
    obtain ⟨ds, rfl, hx, hl⟩ := hb d hd
    have e := law_line_ok "box" ds (by decide +kernel) hx hl
    have e2 : lineT "box" (.tup ds) = lnS "box" (ds.flatMap ptW) := rfl
    rw [e2]
    exact ⟨_, false, rfl, by simp [e, imm]⟩
  have c3 := fun r1 r2 r4 => compL_map (g := gN 3) (fe := bCall m__law_line (xCons (bA (bC (D.str "post"))) (xCons (bVarA 3) (xNil)))) (fun d => D.str (lineT "post" d)) (ρ := [some (.tup [.tup bs, .tup ps, .tup rl], false), r1, r2, none, r4]) (ds := ps) fun d hd => by
    obtain ⟨ds, rfl, hx, hl⟩ := hp d hd
    have e := law_line_ok "post" ds (by decide +kernel) hx hl
    have e2 : lineT "post" (.tup ds) = lnS "post" (ds.flatMap ptW) := rfl
    rw [e2]
    exact ⟨_, false, rfl, by simp [e, imm]⟩
  have c4 := fun r1 r2 r3 => compL_map (g := gN 4) (fe := bCall m__law_line (xCons (bA (bOp dIx (bVarA 4) (bA (bC (D.int 0))))) (xCons (bA (bSl (bVarA 4) (bSome (bC (D.int 1))) (bNo))) (xNil)))) (fun d => D.str (lineR d)) (ρ := [some (.tup [.tup bs, .tup ps, .tup rl], false), r1, r2, r3, none]) (ds := rl) fun d hd => by
    obtain ⟨w, ds, rfl, hw, hx, hl⟩ := hr d hd
    have e := law_line_ok w ds hw hx (by omega)
    have e2 : lineR (.tup (.str w :: ds)) = lnS w (ds.flatMap ptW) := rfl
    have cu := cut_1r (.str w) ds
    rw [e2]
    exact ⟨_, false, rfl, by simp [e, imm, dix_0, bSl, bSome, bNo, unI, cu]⟩
  have em : (linesS bs ps rl).map D.str = bs.map (fun d => D.str (lineT "box" d)) ++ ps.map (fun d => D.str (lineT "post" d)) ++ rl.map fun d => D.str (lineR d) := by
    unfold linesS
    rw [List.map_append, List.map_append, List.map_map, List.map_map, List.map_map]; rfl
  have l1 : (bs.map (fun d => D.str (lineT "box" d))).length ≤ sizeLine := by rw [List.length_map]; exact Nat.le_trans lb (by decide)
  have l2 : (ps.map (fun d => D.str (lineT "post" d))).length ≤ sizeLine := by rw [List.length_map]; exact Nat.le_trans lp (by decide)
  have l3 : (rl.map (fun d => D.str (lineR d))).length ≤ sizeLine := by rw [List.length_map]; exact Nat.le_trans lr (by decide)
  have a1 : dAdd (.lst (bs.map (fun d => D.str (lineT "box" d)))) (.lst (ps.map (fun d => D.str (lineT "post" d)))) = .ok (.lst (bs.map (fun d => D.str (lineT "box" d)) ++ ps.map (fun d => D.str (lineT "post" d))), true) := if_pos (by
    rw [List.length_map, List.length_map]; exact Nat.le_trans (by omega : _ ≤ 100) (by decide))
  have a2 : dAdd (.lst (bs.map (fun d => D.str (lineT "box" d)) ++ ps.map (fun d => D.str (lineT "post" d)))) (.lst (rl.map (fun d => D.str (lineR d)))) = .ok (.lst (bs.map (fun d => D.str (lineT "box" d)) ++ ps.map (fun d => D.str (lineT "post" d)) ++ rl.map (fun d => D.str (lineR d))), true) := if_pos (by
    rw [List.length_append, List.length_map, List.length_map, List.length_map]; exact Nat.le_trans (by omega : _ ≤ 100) (by decide))
  rw [em]
  generalize bs.map (fun d => D.str (lineT "box" d)) = A at *
  generalize ps.map (fun d => D.str (lineT "post" d)) = B at *
  generalize rl.map (fun d => D.str (lineR d)) = C at *
  generalize A ++ B ++ C = T at *
  generalize A ++ B = AB at *
  unfold m__law_lines runF
  simp [d__law_lines, d__law_lines_a_2, q__law_lines_a_2, d__law_lines_a_1, q__law_lines_a_1, d__law_lines_a_0, q__law_lines_a_0, dix_0, dix_1, dix_2, bComp, wipeR, bIt, itd_t, c2, l1, c3, l2, a1, c4, l3, a2]
theorem law_page_ok : m__law_page [.tup [.tup bs, .tup ps, .tup rl]] = .ok (.str (pageS bs ps rl), false) := by
  have e := law_lines_ok hb hp hr lb lp lr
  have j := page_join hb hp hr lb lp lr
  generalize (linesS bs ps rl).map D.str = T at *
  unfold m__law_page runF
  simp [d__law_page, bStrM, isStrD, e, j]
end
theorem law_true : ∀ ns : List Int, ns.length ≤ 63 → ∃ b, m_law [.scr ns] = .ok (.bl true, b) := by
  intro ns _
  obtain ⟨fs, hl, _, hf, ef⟩ := feed_ok ns
  obtain ⟨bs, ps, rl, eh, hbl, hb, bn, hpl, hp, pn, pr, hr, hrl, _⟩ := house_full fs hf hl 256 40 (by decide) (by decide) (by decide)
  have tb : ∀ d ∈ bs, Ths d := fun d h => box_ths (hb d h).1
  have tp : ∀ d ∈ ps, Ths d := fun d h => post_ths (hp d h).1
  have tr : ∀ d ∈ rl, Rws d := fun d h => row_rws (fun d h => (hb d h).1) (fun d h => (hp d h).1) (hr d h)
  have w1 := write_ok tb tp tr hbl hpl (by omega)
  have g1 := law_page_ok tb tp tr hbl hpl (by omega)
  have w2 := write_ok (bs := []) (ps := []) (rl := []) (fun d h => by cases h) (fun d h => by cases h) (fun d h => by cases h) (by decide) (by decide) (by decide)
  have g2 := law_page_ok (bs := []) (ps := []) (rl := []) (fun d h => by cases h) (fun d h => by cases h) (fun d h => by cases h) (by decide) (by decide) (by decide)
  obtain ⟨x, hx, ex⟩ := dix_lst (fs := fs) (i := 40) (by decide) (by omega)
  have mx : pyMod x 8 = x % 8 := pymod_pos (by decide)
  generalize pageS bs ps rl = P1 at *
  generalize pageS [] [] [] = P2 at *
  refine ⟨false, ?_⟩
  unfold m_law runF
  by_cases c : x % 8 = 3
  · simp [d_law, d_law_b1_0, q_law_b1_0, d_law_a_4, q_law_a_4, d_law_a_3, q_law_a_3, d_law_a_2, q_law_a_2, d_law_a_1, q_law_a_1, d_law_a_0, q_law_a_0, d_law, ef, eh, ex, mx, c, s0_ok, s3_ok, w2, g2, imm, isTy, tyD, deq_s]
  · simp [d_law, d_law_b1_0, q_law_b1_0, d_law_a_4, q_law_a_4, d_law_a_3, q_law_a_3, d_law_a_2, q_law_a_2, d_law_a_1, q_law_a_1, d_law_a_0, q_law_a_0, d_law, ef, eh, ex, mx, c, w1, g1, imm, isTy, tyD, deq_s]
theorem all_mk {l : PySem.W.OpenLaw} {w : World} {K : PySem.W.Frag} {h : Heap} {mg : Str → Option Value} {fa : Addr} (X : K.In h) (G : h.Ns mainGlobals mg) (hfa : mg "law" = some (.ref fa))
    {f_row_words : Addr} {oc_row_words kV_row_words dc_row_words pm_row_words cd_row_words ct_row_words : Value} {od_row_words an_row_words : Option Addr} {sl_row_words : Array (Option Value)}
    {f__law_feed : Addr} {oc__law_feed kV__law_feed dc__law_feed pm__law_feed cd__law_feed ct__law_feed : Value} {od__law_feed an__law_feed : Option Addr} {sl__law_feed : Array (Option Value)}
    {f__law_name : Addr} {oc__law_name kV__law_name dc__law_name pm__law_name cd__law_name ct__law_name : Value} {od__law_name an__law_name : Option Addr} {sl__law_name : Array (Option Value)}
    {f__law_table : Addr} {oc__law_table kV__law_table dc__law_table pm__law_table cd__law_table ct__law_table : Value} {od__law_table an__law_table : Option Addr} {sl__law_table : Array (Option Value)}
    {f__law_line : Addr} {oc__law_line kV__law_line dc__law_line pm__law_line cd__law_line ct__law_line : Value} {od__law_line an__law_line : Option Addr} {sl__law_line : Array (Option Value)}
    {f_write : Addr} {oc_write kV_write dc_write pm_write cd_write ct_write : Value} {od_write an_write : Option Addr} {sl_write : Array (Option Value)}
    {f__law_posts : Addr} {oc__law_posts kV__law_posts dc__law_posts pm__law_posts cd__law_posts ct__law_posts : Value} {od__law_posts an__law_posts : Option Addr} {sl__law_posts : Array (Option Value)}
    {f__law_boxes : Addr} {oc__law_boxes kV__law_boxes dc__law_boxes pm__law_boxes cd__law_boxes ct__law_boxes : Value} {od__law_boxes an__law_boxes : Option Addr} {sl__law_boxes : Array (Option Value)}
    {f__law_row : Addr} {oc__law_row kV__law_row dc__law_row pm__law_row cd__law_row ct__law_row : Value} {od__law_row an__law_row : Option Addr} {sl__law_row : Array (Option Value)}
    {f__law_chained : Addr} {oc__law_chained kV__law_chained dc__law_chained pm__law_chained cd__law_chained ct__law_chained : Value} {od__law_chained an__law_chained : Option Addr} {sl__law_chained : Array (Option Value)}
    {f__law_lines : Addr} {oc__law_lines kV__law_lines dc__law_lines pm__law_lines cd__law_lines ct__law_lines : Value} {od__law_lines an__law_lines : Option Addr} {sl__law_lines : Array (Option Value)}
    {f__law_rows : Addr} {oc__law_rows kV__law_rows dc__law_rows pm__law_rows cd__law_rows ct__law_rows : Value} {od__law_rows an__law_rows : Option Addr} {sl__law_rows : Array (Option Value)}
    {f__law_page : Addr} {oc__law_page kV__law_page dc__law_page pm__law_page cd__law_page ct__law_page : Value} {od__law_page an__law_page : Option Addr} {sl__law_page : Array (Option Value)}
    {f__law_house : Addr} {oc__law_house kV__law_house dc__law_house pm__law_house cd__law_house ct__law_house : Value} {od__law_house an__law_house : Option Addr} {sl__law_house : Array (Option Value)}
    {f_law : Addr} {oc_law kV_law dc_law pm_law cd_law ct_law : Value} {od_law an_law : Option Addr} {sl_law : Array (Option Value)}
    (a_row_words : PySem.W.nsIn K mainGlobals "row_words" = some (some (.ref f_row_words)))
    (l_row_words : K.lookup f_row_words = some ⟨oc_row_words, od_row_words, .func (PySem.W.fnOf "row_words" "row_words" (defArgs s_row_words) (defBody s_row_words) (defScope s_row_words) .none kV_row_words dc_row_words pm_row_words an_row_words cd_row_words ct_row_words), sl_row_words⟩)
    (c_row_words : PySem.W.codeIn K cd_row_words "row_words" = true)
    (k_row_words : PySem.W.keepIn K (.ref f_row_words) = true)
    (a__law_feed : PySem.W.nsIn K mainGlobals "_law_feed" = some (some (.ref f__law_feed)))
    (l__law_feed : K.lookup f__law_feed = some ⟨oc__law_feed, od__law_feed, .func (PySem.W.fnOf "_law_feed" "_law_feed" (defArgs s__law_feed) (defBody s__law_feed) (defScope s__law_feed) .none kV__law_feed dc__law_feed pm__law_feed an__law_feed cd__law_feed ct__law_feed), sl__law_feed⟩)
    (c__law_feed : PySem.W.codeIn K cd__law_feed "_law_feed" = true)
    (k__law_feed : PySem.W.keepIn K (.ref f__law_feed) = true)
    (a__law_name : PySem.W.nsIn K mainGlobals "_law_name" = some (some (.ref f__law_name)))
    (l__law_name : K.lookup f__law_name = some ⟨oc__law_name, od__law_name, .func (PySem.W.fnOf "_law_name" "_law_name" (defArgs s__law_name) (defBody s__law_name) (defScope s__law_name) .none kV__law_name dc__law_name pm__law_name an__law_name cd__law_name ct__law_name), sl__law_name⟩)
    (c__law_name : PySem.W.codeIn K cd__law_name "_law_name" = true)
    (k__law_name : PySem.W.keepIn K (.ref f__law_name) = true)
    (a__law_table : PySem.W.nsIn K mainGlobals "_law_table" = some (some (.ref f__law_table)))
    (l__law_table : K.lookup f__law_table = some ⟨oc__law_table, od__law_table, .func (PySem.W.fnOf "_law_table" "_law_table" (defArgs s__law_table) (defBody s__law_table) (defScope s__law_table) .none kV__law_table dc__law_table pm__law_table an__law_table cd__law_table ct__law_table), sl__law_table⟩)
    (c__law_table : PySem.W.codeIn K cd__law_table "_law_table" = true)
    (k__law_table : PySem.W.keepIn K (.ref f__law_table) = true)
    (a__law_line : PySem.W.nsIn K mainGlobals "_law_line" = some (some (.ref f__law_line)))
    (l__law_line : K.lookup f__law_line = some ⟨oc__law_line, od__law_line, .func (PySem.W.fnOf "_law_line" "_law_line" (defArgs s__law_line) (defBody s__law_line) (defScope s__law_line) .none kV__law_line dc__law_line pm__law_line an__law_line cd__law_line ct__law_line), sl__law_line⟩)
    (c__law_line : PySem.W.codeIn K cd__law_line "_law_line" = true)
    (k__law_line : PySem.W.keepIn K (.ref f__law_line) = true)
    (a_write : PySem.W.nsIn K mainGlobals "write" = some (some (.ref f_write)))
    (l_write : K.lookup f_write = some ⟨oc_write, od_write, .func (PySem.W.fnOf "write" "write" (defArgs s_write) (defBody s_write) (defScope s_write) .none kV_write dc_write pm_write an_write cd_write ct_write), sl_write⟩)
    (c_write : PySem.W.codeIn K cd_write "write" = true)
    (k_write : PySem.W.keepIn K (.ref f_write) = true)
    (a__law_posts : PySem.W.nsIn K mainGlobals "_law_posts" = some (some (.ref f__law_posts)))
    (l__law_posts : K.lookup f__law_posts = some ⟨oc__law_posts, od__law_posts, .func (PySem.W.fnOf "_law_posts" "_law_posts" (defArgs s__law_posts) (defBody s__law_posts) (defScope s__law_posts) .none kV__law_posts dc__law_posts pm__law_posts an__law_posts cd__law_posts ct__law_posts), sl__law_posts⟩)
    (c__law_posts : PySem.W.codeIn K cd__law_posts "_law_posts" = true)
    (k__law_posts : PySem.W.keepIn K (.ref f__law_posts) = true)
    (a__law_boxes : PySem.W.nsIn K mainGlobals "_law_boxes" = some (some (.ref f__law_boxes)))
    (l__law_boxes : K.lookup f__law_boxes = some ⟨oc__law_boxes, od__law_boxes, .func (PySem.W.fnOf "_law_boxes" "_law_boxes" (defArgs s__law_boxes) (defBody s__law_boxes) (defScope s__law_boxes) .none kV__law_boxes dc__law_boxes pm__law_boxes an__law_boxes cd__law_boxes ct__law_boxes), sl__law_boxes⟩)
    (c__law_boxes : PySem.W.codeIn K cd__law_boxes "_law_boxes" = true)
    (k__law_boxes : PySem.W.keepIn K (.ref f__law_boxes) = true)
    (a__law_row : PySem.W.nsIn K mainGlobals "_law_row" = some (some (.ref f__law_row)))
    (l__law_row : K.lookup f__law_row = some ⟨oc__law_row, od__law_row, .func (PySem.W.fnOf "_law_row" "_law_row" (defArgs s__law_row) (defBody s__law_row) (defScope s__law_row) .none kV__law_row dc__law_row pm__law_row an__law_row cd__law_row ct__law_row), sl__law_row⟩)
    (c__law_row : PySem.W.codeIn K cd__law_row "_law_row" = true)
    (k__law_row : PySem.W.keepIn K (.ref f__law_row) = true)
    (a__law_chained : PySem.W.nsIn K mainGlobals "_law_chained" = some (some (.ref f__law_chained)))
    (l__law_chained : K.lookup f__law_chained = some ⟨oc__law_chained, od__law_chained, .func (PySem.W.fnOf "_law_chained" "_law_chained" (defArgs s__law_chained) (defBody s__law_chained) (defScope s__law_chained) .none kV__law_chained dc__law_chained pm__law_chained an__law_chained cd__law_chained ct__law_chained), sl__law_chained⟩)
    (c__law_chained : PySem.W.codeIn K cd__law_chained "_law_chained" = true)
    (k__law_chained : PySem.W.keepIn K (.ref f__law_chained) = true)
    (a__law_lines : PySem.W.nsIn K mainGlobals "_law_lines" = some (some (.ref f__law_lines)))
    (l__law_lines : K.lookup f__law_lines = some ⟨oc__law_lines, od__law_lines, .func (PySem.W.fnOf "_law_lines" "_law_lines" (defArgs s__law_lines) (defBody s__law_lines) (defScope s__law_lines) .none kV__law_lines dc__law_lines pm__law_lines an__law_lines cd__law_lines ct__law_lines), sl__law_lines⟩)
    (c__law_lines : PySem.W.codeIn K cd__law_lines "_law_lines" = true)
    (k__law_lines : PySem.W.keepIn K (.ref f__law_lines) = true)
    (a__law_rows : PySem.W.nsIn K mainGlobals "_law_rows" = some (some (.ref f__law_rows)))
    (l__law_rows : K.lookup f__law_rows = some ⟨oc__law_rows, od__law_rows, .func (PySem.W.fnOf "_law_rows" "_law_rows" (defArgs s__law_rows) (defBody s__law_rows) (defScope s__law_rows) .none kV__law_rows dc__law_rows pm__law_rows an__law_rows cd__law_rows ct__law_rows), sl__law_rows⟩)
    (c__law_rows : PySem.W.codeIn K cd__law_rows "_law_rows" = true)
    (k__law_rows : PySem.W.keepIn K (.ref f__law_rows) = true)
    (a__law_page : PySem.W.nsIn K mainGlobals "_law_page" = some (some (.ref f__law_page)))
    (l__law_page : K.lookup f__law_page = some ⟨oc__law_page, od__law_page, .func (PySem.W.fnOf "_law_page" "_law_page" (defArgs s__law_page) (defBody s__law_page) (defScope s__law_page) .none kV__law_page dc__law_page pm__law_page an__law_page cd__law_page ct__law_page), sl__law_page⟩)
    (c__law_page : PySem.W.codeIn K cd__law_page "_law_page" = true)
    (k__law_page : PySem.W.keepIn K (.ref f__law_page) = true)
    (a__law_house : PySem.W.nsIn K mainGlobals "_law_house" = some (some (.ref f__law_house)))
    (l__law_house : K.lookup f__law_house = some ⟨oc__law_house, od__law_house, .func (PySem.W.fnOf "_law_house" "_law_house" (defArgs s__law_house) (defBody s__law_house) (defScope s__law_house) .none kV__law_house dc__law_house pm__law_house an__law_house cd__law_house ct__law_house), sl__law_house⟩)
    (c__law_house : PySem.W.codeIn K cd__law_house "_law_house" = true)
    (k__law_house : PySem.W.keepIn K (.ref f__law_house) = true)
    (a_law : PySem.W.nsIn K mainGlobals "law" = some (some (.ref f_law)))
    (l_law : K.lookup f_law = some ⟨oc_law, od_law, .func (PySem.W.fnOf "law" "law" (defArgs s_law) (defBody s_law) (defScope s_law) .none kV_law dc_law pm_law an_law cd_law ct_law), sl_law⟩)
    (c_law : PySem.W.codeIn K cd_law "law" = true)
    (k_law : PySem.W.keepIn K (.ref f_law) = true)
    (z_len : PySem.W.nsIn K mainGlobals "len" = some none)
    (z_abs : PySem.W.nsIn K mainGlobals "abs" = some none)
    (z_int : PySem.W.nsIn K mainGlobals "int" = some none)
    (z_min : PySem.W.nsIn K mainGlobals "min" = some none)
    (z_max : PySem.W.nsIn K mainGlobals "max" = some none)
    (z_sum : PySem.W.nsIn K mainGlobals "sum" = some none)
    (z_all : PySem.W.nsIn K mainGlobals "all" = some none)
    (z_any : PySem.W.nsIn K mainGlobals "any" = some none)
    (z_tuple : PySem.W.nsIn K mainGlobals "tuple" = some none)
    (z_list : PySem.W.nsIn K mainGlobals "list" = some none)
    (z_sorted : PySem.W.nsIn K mainGlobals "sorted" = some none)
    (z_range : PySem.W.nsIn K mainGlobals "range" = some none)
    (z_enumerate : PySem.W.nsIn K mainGlobals "enumerate" = some none)
    (z_zip : PySem.W.nsIn K mainGlobals "zip" = some none)
    (z_isinstance : PySem.W.nsIn K mainGlobals "isinstance" = some none)
    (z_bool : PySem.W.nsIn K mainGlobals "bool" = some none)
    (z_str : PySem.W.nsIn K mainGlobals "str" = some none)
    (z_reversed : PySem.W.nsIn K mainGlobals "reversed" = some none)
    (z_set : PySem.W.nsIn K mainGlobals "set" = some none)
    (z_dict : PySem.W.nsIn K mainGlobals "dict" = some none)
    : ∃ fd : FuncData, (∀ (s : Shared) (v : Value), BindsTo s fd ⟨[v], []⟩ [("_law_script", v)]) ∧ ∀ base : Heap, K.In base → base.Ns mainGlobals mg → FnOk l.prog w K mg base (L2.CX l.prog w) 13 fa fd ["_law_script"] (spL K m_law) := by
  have e := hfa.symm.trans (PySem.W.mg_of X G a_law)
  cases e
  have F_row_words := fun_mk (st := s_row_words) l_row_words c_row_words k_row_words
  have b_row_words := F_row_words.binds (ps := ["row"]) fun _ _ _ _ _ _ us hl => match us, hl with | [_], _ => rfl
  have F__law_feed := fun_mk (st := s__law_feed) l__law_feed c__law_feed k__law_feed
  have b__law_feed := F__law_feed.binds (ps := ["_law_script"]) fun _ _ _ _ _ _ us hl => match us, hl with | [_], _ => rfl
  have F__law_name := fun_mk (st := s__law_name) l__law_name c__law_name k__law_name
  have b__law_name := F__law_name.binds (ps := ["_law_pick", "_law_k"]) fun _ _ _ _ _ _ us hl => match us, hl with | [_, _], _ => rfl
  have F__law_table := fun_mk (st := s__law_table) l__law_table c__law_table k__law_table
  have b__law_table := F__law_table.binds (ps := ["_law_number", "_law_size"]) fun _ _ _ _ _ _ us hl => match us, hl with | [_, _], _ => rfl
  have F__law_line := fun_mk (st := s__law_line) l__law_line c__law_line k__law_line
  have b__law_line := F__law_line.binds (ps := ["_law_head", "_law_parts_of"]) fun _ _ _ _ _ _ us hl => match us, hl with | [_, _], _ => rfl
  have F_write := fun_mk (st := s_write) l_write c_write k_write
  have b_write := F_write.binds (ps := ["house"]) fun _ _ _ _ _ _ us hl => match us, hl with | [_], _ => rfl
  have F__law_posts := fun_mk (st := s__law_posts) l__law_posts c__law_posts k__law_posts
  have b__law_posts := F__law_posts.binds (ps := ["_law_feed_here", "_law_cap"]) fun _ _ _ _ _ _ us hl => match us, hl with | [_, _], _ => rfl
  have F__law_boxes := fun_mk (st := s__law_boxes) l__law_boxes c__law_boxes k__law_boxes
  have b__law_boxes := F__law_boxes.binds (ps := ["_law_feed_here"]) fun _ _ _ _ _ _ us hl => match us, hl with | [_], _ => rfl
  have F__law_row := fun_mk (st := s__law_row) l__law_row c__law_row k__law_row
  have b__law_row := F__law_row.binds (ps := ["_law_feed_here", "_law_at", "_law_boxes_here", "_law_posts_here"]) fun _ _ _ _ _ _ us hl => match us, hl with | [_, _, _, _], _ => rfl
  have F__law_chained := fun_mk (st := s__law_chained) l__law_chained c__law_chained k__law_chained
  have b__law_chained := F__law_chained.binds (ps := ["_law_feed_here", "_law_k", "_law_boxes_here", "_law_posts_here", "_law_row_here"]) fun _ _ _ _ _ _ us hl => match us, hl with | [_, _, _, _, _], _ => rfl
  have F__law_lines := fun_mk (st := s__law_lines) l__law_lines c__law_lines k__law_lines
  have b__law_lines := F__law_lines.binds (ps := ["_law_house_here"]) fun _ _ _ _ _ _ us hl => match us, hl with | [_], _ => rfl
  have F__law_rows := fun_mk (st := s__law_rows) l__law_rows c__law_rows k__law_rows
  have b__law_rows := F__law_rows.binds (ps := ["_law_feed_here", "_law_boxes_here", "_law_posts_here", "_law_most"]) fun _ _ _ _ _ _ us hl => match us, hl with | [_, _, _, _], _ => rfl
  have F__law_page := fun_mk (st := s__law_page) l__law_page c__law_page k__law_page
  have b__law_page := F__law_page.binds (ps := ["_law_house_here"]) fun _ _ _ _ _ _ us hl => match us, hl with | [_], _ => rfl
  have F__law_house := fun_mk (st := s__law_house) l__law_house c__law_house k__law_house
  have b__law_house := F__law_house.binds (ps := ["_law_feed_here", "_law_cap", "_law_most"]) fun _ _ _ _ _ _ us hl => match us, hl with | [_, _, _], _ => rfl
  have F_law := fun_mk (st := s_law) l_law c_law k_law
  have b_law := F_law.binds (ps := ["_law_script"]) fun _ _ _ _ _ _ us hl => match us, hl with | [_], _ => rfl
  refine ⟨PySem.W.fnOf "law" "law" (defArgs s_law) (defBody s_law) (defScope s_law) .none kV_law dc_law pm_law an_law cd_law ct_law, fun s v => .of_eq rfl, fun base _ _ => ?_⟩
  have A : Same' l.prog w K mg base consL exsL subsL kitsL kdsL := by
    refine ⟨?_, ?_, ?_, ?_, ?_, ?_⟩
    · exact lk_nil
    · exact lk_nil
    · intro x hx
      simp only [List.contains_cons, List.contains_nil, Bool.or_eq_true, Bool.or_false, beq_iff_eq] at hx
      rcases hx with rfl | rfl | rfl | rfl | rfl | rfl | rfl | rfl | rfl | rfl | rfl | rfl | rfl | rfl | rfl | rfl | rfl | rfl | rfl | rfl
      · exact PySem.W.mg_none_of X G z_len
      · exact PySem.W.mg_none_of X G z_abs
      · exact PySem.W.mg_none_of X G z_int
      · exact PySem.W.mg_none_of X G z_min
      · exact PySem.W.mg_none_of X G z_max
      · exact PySem.W.mg_none_of X G z_sum
      · exact PySem.W.mg_none_of X G z_all
      · exact PySem.W.mg_none_of X G z_any
      · exact PySem.W.mg_none_of X G z_tuple
      · exact PySem.W.mg_none_of X G z_list
      · exact PySem.W.mg_none_of X G z_sorted
      · exact PySem.W.mg_none_of X G z_range
      · exact PySem.W.mg_none_of X G z_enumerate
      · exact PySem.W.mg_none_of X G z_zip
      · exact PySem.W.mg_none_of X G z_isinstance
      · exact PySem.W.mg_none_of X G z_bool
      · exact PySem.W.mg_none_of X G z_str
      · exact PySem.W.mg_none_of X G z_reversed
      · exact PySem.W.mg_none_of X G z_set
      · exact PySem.W.mg_none_of X G z_dict
    · exact lk_nil
    · exact lk_nil
    · exact lk_nil
  have H_0 : Fns l.prog w K mg base 3 L_0 := Fns.nil
  have A_row_words : FnAt l.prog w K mg base 5 "row_words" 1 m_row_words := fn_at (cc := cc_row_words) A H_0 (by decide) no_obj (PySem.W.mg_of X G a_row_words) F_row_words b_row_words k_row_words sc_row_words t_row_words
  have A__law_feed : FnAt l.prog w K mg base 5 "_law_feed" 1 m__law_feed := fn_at (cc := cc__law_feed) A H_0 (by decide) no_obj (PySem.W.mg_of X G a__law_feed) F__law_feed b__law_feed k__law_feed sc__law_feed t__law_feed
  have A__law_name : FnAt l.prog w K mg base 5 "_law_name" 2 m__law_name := fn_at (cc := cc__law_name) A H_0 (by decide) no_obj (PySem.W.mg_of X G a__law_name) F__law_name b__law_name k__law_name sc__law_name t__law_name
  have A__law_table : FnAt l.prog w K mg base 5 "_law_table" 2 m__law_table := fn_at (cc := cc__law_table) A H_0 (by decide) no_obj (PySem.W.mg_of X G a__law_table) F__law_table b__law_table k__law_table sc__law_table t__law_table
  have A__law_line : FnAt l.prog w K mg base 5 "_law_line" 2 m__law_line := fn_at (cc := cc__law_line) A H_0 (by decide) no_obj (PySem.W.mg_of X G a__law_line) F__law_line b__law_line k__law_line sc__law_line t__law_line
  have H_1 : Fns l.prog w K mg base 5 L_1 := (Fns.cons A_row_words (Fns.cons A__law_feed (Fns.cons A__law_name (Fns.cons A__law_table (Fns.cons A__law_line (H_0.mono (by decide)))))))
  have A_write : FnAt l.prog w K mg base 7 "write" 1 m_write := fn_at (cc := cc_write) A H_1 (by decide) no_obj (PySem.W.mg_of X G a_write) F_write b_write k_write sc_write t_write
  have A__law_posts : FnAt l.prog w K mg base 7 "_law_posts" 2 m__law_posts := fn_at (cc := cc__law_posts) A H_1 (by decide) no_obj (PySem.W.mg_of X G a__law_posts) F__law_posts b__law_posts k__law_posts sc__law_posts t__law_posts
  have A__law_boxes : FnAt l.prog w K mg base 7 "_law_boxes" 1 m__law_boxes := fn_at (cc := cc__law_boxes) A H_1 (by decide) no_obj (PySem.W.mg_of X G a__law_boxes) F__law_boxes b__law_boxes k__law_boxes sc__law_boxes t__law_boxes
  have A__law_row : FnAt l.prog w K mg base 7 "_law_row" 4 m__law_row := fn_at (cc := cc__law_row) A H_1 (by decide) no_obj (PySem.W.mg_of X G a__law_row) F__law_row b__law_row k__law_row sc__law_row t__law_row
  have A__law_chained : FnAt l.prog w K mg base 7 "_law_chained" 5 m__law_chained := fn_at (cc := cc__law_chained) A H_1 (by decide) no_obj (PySem.W.mg_of X G a__law_chained) F__law_chained b__law_chained k__law_chained sc__law_chained t__law_chained
  have A__law_lines : FnAt l.prog w K mg base 7 "_law_lines" 1 m__law_lines := fn_at (cc := cc__law_lines) A H_1 (by decide) no_obj (PySem.W.mg_of X G a__law_lines) F__law_lines b__law_lines k__law_lines sc__law_lines t__law_lines
  have H_2 : Fns l.prog w K mg base 7 L_2 := (Fns.cons A_write (Fns.cons A__law_posts (Fns.cons A__law_boxes (Fns.cons A__law_row (Fns.cons A__law_chained (Fns.cons A__law_lines (H_1.mono (by decide))))))))
  have A__law_rows : FnAt l.prog w K mg base 9 "_law_rows" 4 m__law_rows := fn_at (cc := cc__law_rows) A H_2 (by decide) no_obj (PySem.W.mg_of X G a__law_rows) F__law_rows b__law_rows k__law_rows sc__law_rows t__law_rows
  have A__law_page : FnAt l.prog w K mg base 9 "_law_page" 1 m__law_page := fn_at (cc := cc__law_page) A H_2 (by decide) no_obj (PySem.W.mg_of X G a__law_page) F__law_page b__law_page k__law_page sc__law_page t__law_page
  have H_3 : Fns l.prog w K mg base 9 L_3 := (Fns.cons A__law_rows (Fns.cons A__law_page (H_2.mono (by decide))))
  have A__law_house : FnAt l.prog w K mg base 11 "_law_house" 3 m__law_house := fn_at (cc := cc__law_house) A H_3 (by decide) no_obj (PySem.W.mg_of X G a__law_house) F__law_house b__law_house k__law_house sc__law_house t__law_house
  have H_4 : Fns l.prog w K mg base 11 L_4 := (Fns.cons A__law_house (H_3.mono (by decide)))
  have A_law : FnAt l.prog w K mg base 13 "law" 1 m_law := fn_at (cc := cc_law) A H_4 (by decide) no_obj (PySem.W.mg_of X G a_law) F_law b_law k_law sc_law t_law
  have H_5 : Fns l.prog w K mg base 13 L_5 := (Fns.cons A_law (H_4.mono (by decide)))
  exact (def_ok (mod_of (cc := cc_law) A H_4 (by decide) no_obj) F_law sc_law t_law).imp fun _ _ _ _ h => spL_imp h
end VM

open PySem PySem.W PyProof.Rows in
set_option maxRecDepth 100000 in
set_option maxHeartbeats 0 in
theorem PySem.Challenge.cw_yesterpost_k49_written_holds : PySem.Challenge.rw_yesterpost_k49_written.Holds := by
  w_on; o_law; k_head; (case hw => w_witness2)
  k_fill
  refine VM.walk (l := PySem.Challenge.rw_yesterpost_k49_written) (k := 13) (x := "_law_script") (m := VM.m_law) VM.law_true rfl rfl ⟨rfl, by decide, by decide⟩ (fun w h Y => PySem.W.kIn_of Y) ?F
  case F =>
    intro w mg fa h KX G hmg
    refine' VM.all_mk KX G hmg ?a_row_words ?l_row_words ?c_row_words ?k_row_words ?a__law_feed ?l__law_feed ?c__law_feed ?k__law_feed ?a__law_name ?l__law_name ?c__law_name ?k__law_name ?a__law_table ?l__law_table ?c__law_table ?k__law_table ?a__law_line ?l__law_line ?c__law_line ?k__law_line ?a_write ?l_write ?c_write ?k_write ?a__law_posts ?l__law_posts ?c__law_posts ?k__law_posts ?a__law_boxes ?l__law_boxes ?c__law_boxes ?k__law_boxes ?a__law_row ?l__law_row ?c__law_row ?k__law_row ?a__law_chained ?l__law_chained ?c__law_chained ?k__law_chained ?a__law_lines ?l__law_lines ?c__law_lines ?k__law_lines ?a__law_rows ?l__law_rows ?c__law_rows ?k__law_rows ?a__law_page ?l__law_page ?c__law_page ?k__law_page ?a__law_house ?l__law_house ?c__law_house ?k__law_house ?a_law ?l_law ?c_law ?k_law ?z_len ?z_abs ?z_int ?z_min ?z_max ?z_sum ?z_all ?z_any ?z_tuple ?z_list ?z_sorted ?z_range ?z_enumerate ?z_zip ?z_isinstance ?z_bool ?z_str ?z_reversed ?z_set ?z_dict
    (case a_row_words => k_is)
    (case l_row_words => k_is)
    (case c_row_words => k_is)
    (case k_row_words => k_is)
    (case a__law_feed => k_is)
    (case l__law_feed => k_is)
    (case c__law_feed => k_is)
    (case k__law_feed => k_is)
    (case a__law_name => k_is)
    (case l__law_name => k_is)
    (case c__law_name => k_is)
    (case k__law_name => k_is)
    (case a__law_table => k_is)
    (case l__law_table => k_is)
    (case c__law_table => k_is)
    (case k__law_table => k_is)
    (case a__law_line => k_is)
    (case l__law_line => k_is)
    (case c__law_line => k_is)
    (case k__law_line => k_is)
    (case a_write => k_is)
    (case l_write => k_is)
    (case c_write => k_is)
    (case k_write => k_is)
    (case a__law_posts => k_is)
    (case l__law_posts => k_is)
    (case c__law_posts => k_is)
    (case k__law_posts => k_is)
    (case a__law_boxes => k_is)
    (case l__law_boxes => k_is)
    (case c__law_boxes => k_is)
    (case k__law_boxes => k_is)
    (case a__law_row => k_is)
    (case l__law_row => k_is)
    (case c__law_row => k_is)
    (case k__law_row => k_is)
    (case a__law_chained => k_is)
    (case l__law_chained => k_is)
    (case c__law_chained => k_is)
    (case k__law_chained => k_is)
    (case a__law_lines => k_is)
    (case l__law_lines => k_is)
    (case c__law_lines => k_is)
    (case k__law_lines => k_is)
    (case a__law_rows => k_is)
    (case l__law_rows => k_is)
    (case c__law_rows => k_is)
    (case k__law_rows => k_is)
    (case a__law_page => k_is)
    (case l__law_page => k_is)
    (case c__law_page => k_is)
    (case k__law_page => k_is)
    (case a__law_house => k_is)
    (case l__law_house => k_is)
    (case c__law_house => k_is)
    (case k__law_house => k_is)
    (case a_law => k_is)
    (case l_law => k_is)
    (case c_law => k_is)
    (case k_law => k_is)
    (case z_len => k_is)
    (case z_abs => k_is)
    (case z_int => k_is)
    (case z_min => k_is)
    (case z_max => k_is)
    (case z_sum => k_is)
    (case z_all => k_is)
    (case z_any => k_is)
    (case z_tuple => k_is)
    (case z_list => k_is)
    (case z_sorted => k_is)
    (case z_range => k_is)
    (case z_enumerate => k_is)
    (case z_zip => k_is)
    (case z_isinstance => k_is)
    (case z_bool => k_is)
    (case z_str => k_is)
    (case z_reversed => k_is)
    (case z_set => k_is)
    (case z_dict => k_is)
