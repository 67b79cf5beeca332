import PyProof.Rows.All
import Wide.All
import OpenK.AllK
import Wide.FinOn
import HandS.ForMost
import HandS.IsInst
import HandS.Style
import HandS.Wide
import HandS.WideBits
import HandS.TupAny
import HandS.TupMul
import HandS.Walk
import HandS.StrMore
import PyProof.NoPylong
import PyProof.Rows.StrMul
import HandS.Text
import KE.GoesZip
import KE.GoesEnumKw
import KE.GoesEnum
import KE.GoesMore
import HandS.FStrTup
import HandS.Exc
import HandS.ExcOwn
import HandS.WordsExc
import HandS.Ends
import PyProof.ReprRoads
import PyProof.CallFns
import PySem.Challenge.RW_countscribe_k76_marks_moved
set_option Elab.async false
set_option linter.all false
set_option maxRecDepth 100000
set_option maxHeartbeats 4000000
namespace DL
open PySem L2

/-! ### data -/
inductive Dv where
  | non
  | bl (b : Bool)
  | int (i : Int)
  | str (s : Str)
  | lst (xs : List Dv)
  | tup (xs : List Dv)
  | ins (C : Addr) (ns : List Str) (ds : List Dv)
  | ty (n : String)
  | cls (C : Addr)
  /-- some text -/
  | anyS
  /-- the script: a list of ints that nobody changes, within the kit's own reading of lists -/
  | scr (K : PySem.W.Frag) (ns : List Int)

mutual
/-- v reads as the data, by objects that are not in M -/
def Dat (M : Addr -> Prop) (H : Hp) : Dv → V → Prop
  | .non, v => v = .non
  | .bl b, v => v = .bl b
  | .int i, v => v = .int i
  | .str s, v => v = .str s
  | .lst ds, v => ∃ a vs, v = .ref a ∧ ¬ M a ∧ H a = some (.lst vs) ∧ Dats M H ds vs
  | .tup ds, v => ∃ a vs, v = .ref a ∧ ¬ M a ∧ H a = some (.tup vs) ∧ Dats M H ds vs
  | .ins C ns ds, v => ∃ a dx vs, v = .ref a ∧ ¬ M a ∧ H a = some (.ins C dx (ns.zip vs)) ∧ ns.length = ds.length ∧ Dats M H ds vs
  | .ty n, v => v = .ty n
  | .cls C, v => v = .ref C
  | .anyS, v => ∃ x, v = .str x
  | .scr K ns, v => ∃ a, v = .ref a ∧ ((¬ M a ∧ Rd H a (.lst (ns.map V.int))) ∨ ∀ H' : Hp, SqL K H' a (ns.map V.int))
def Dats (M : Addr -> Prop) (H : Hp) : List Dv → List V → Prop
  | [], vs => vs = []
  | d :: ds, vs => ∃ v r, vs = v :: r ∧ Dat M H d v ∧ Dats M H ds r
end

section
variable {M M' : Addr → Prop} {H H' : Hp}
mutual
theorem Dat.to (k : ∀ a o, ¬ M a → H a = some o → H' a = some o) (m : ∀ a, M' a → M a ∨ H a = none) : ∀ (d : Dv) (v : V), Dat M H d v → Dat M' H' d v
  | .non, _, h => h
  | .bl _, _, h => h
  | .int _, _, h => h
  | .str _, _, h => h
  | .lst ds, v, h => by
    unfold Dat at h ⊢
    obtain ⟨a, vs, e, n, ha, hs⟩ := h
    exact ⟨a, vs, e, fun z => (m a z).elim n (fun q => by rw [ha] at q; cases q), k a _ n ha, Dats.to k m ds vs hs⟩
  | .tup ds, v, h => by
    unfold Dat at h ⊢
    obtain ⟨a, vs, e, n, ha, hs⟩ := h
    exact ⟨a, vs, e, fun z => (m a z).elim n (fun q => by rw [ha] at q; cases q), k a _ n ha, Dats.to k m ds vs hs⟩
  | .ins C ns ds, v, h => by
    unfold Dat at h ⊢
    obtain ⟨a, dx, vs, e, n, ha, hl, hs⟩ := h
    exact ⟨a, dx, vs, e, fun z => (m a z).elim n (fun q => by rw [ha] at q; cases q), k a _ n ha, hl, Dats.to k m ds vs hs⟩
  | .ty _, _, h => h
  | .cls _, _, h => h
  | .anyS, _, h => h
  | .scr K ns, _, h => by
    unfold Dat at h ⊢
    obtain ⟨a, e, h⟩ := h
    refine ⟨a, e, h.imp (fun ⟨n, r⟩ => ?_) id⟩
    have hn : H a ≠ none := fun z => by
      rcases r with r | ⟨o, r⟩
      · rw [z] at r
        cases r
      · rw [z] at r
        cases r
    refine ⟨fun z => (m a z).elim n hn, ?_⟩
    rcases r with r | ⟨o, r⟩
    · exact .inl (k a _ n r)
    · exact .inr ⟨o, k a _ n r⟩
theorem Dats.to (k : ∀ a o, ¬ M a → H a = some o → H' a = some o) (m : ∀ a, M' a → M a ∨ H a = none) : ∀ (ds : List Dv) (vs : List V), Dats M H ds vs → Dats M' H' ds vs
  | [], _, h => h
  | d :: ds, vs, h => by
    unfold Dats at h ⊢
    obtain ⟨v, r, e, h1, h2⟩ := h
    exact ⟨v, r, e, Dat.to k m d v h1, Dats.to k m ds r h2⟩
end
theorem Dats.length : ∀ {ds : List Dv} {vs : List V}, Dats M H ds vs → vs.length = ds.length
  | [], vs, h => by unfold Dats at h; rw [h]; rfl
  | d :: ds, vs, h => by
    unfold Dats at h
    obtain ⟨v, r, e, _, h2⟩ := h
    rw [e, List.length_cons, List.length_cons, Dats.length h2]
theorem Dats.get : ∀ {ds : List Dv} {vs : List V} {i : Nat} {d : Dv}, Dats M H ds vs → ds[i]? = some d → ∃ v, vs[i]? = some v ∧ Dat M H d v
  | [], _, _, _, _, e => by simp at e
  | d :: ds, vs, 0, x, h, e => by
    unfold Dats at h
    obtain ⟨v, r, rfl, h1, _⟩ := h
    simp at e
    subst e
    exact ⟨v, rfl, h1⟩
  | d :: ds, vs, i + 1, x, h, e => by
    unfold Dats at h
    obtain ⟨v, r, rfl, _, h2⟩ := h
    exact Dats.get (i := i) h2 (by simpa using e)
theorem Dats.app : ∀ {ds es : List Dv} {vs ws : List V}, Dats M H ds vs → Dats M H es ws → Dats M H (ds ++ es) (vs ++ ws)
  | [], es, vs, ws, h, h' => by
    unfold Dats at h
    subst h
    exact h'
  | d :: ds, es, vs, ws, h, h' => by
    unfold Dats at h
    obtain ⟨v, r, rfl, h1, h2⟩ := h
    show Dats M H (d :: (ds ++ es)) (v :: (r ++ ws))
    unfold Dats
    exact ⟨v, r ++ ws, rfl, h1, Dats.app h2 h'⟩
theorem Dats.nil : Dats M H [] [] := by unfold Dats; rfl
theorem Dats.cons {d : Dv} {v : V} {ds : List Dv} {vs : List V} (h : Dat M H d v) (hs : Dats M H ds vs) : Dats M H (d :: ds) (v :: vs) := by
  unfold Dats
  exact ⟨v, vs, rfl, h, hs⟩
theorem Dats.one {d : Dv} {v : V} (h : Dat M H d v) : Dats M H [d] [v] := .cons h .nil
theorem Dats.take : ∀ {ds : List Dv} {vs : List V} (n : Nat), Dats M H ds vs → Dats M H (ds.take n) (vs.take n)
  | ds, vs, 0, _ => by simp; exact .nil
  | [], vs, n + 1, h => by
    unfold Dats at h
    subst h
    exact .nil
  | d :: ds, vs, n + 1, h => by
    unfold Dats at h
    obtain ⟨v, r, rfl, h1, h2⟩ := h
    exact .cons h1 (Dats.take n h2)
theorem Dats.drop : ∀ {ds : List Dv} {vs : List V} (n : Nat), Dats M H ds vs → Dats M H (ds.drop n) (vs.drop n)
  | ds, vs, 0, h => h
  | [], vs, n + 1, h => by
    unfold Dats at h
    subst h
    exact .nil
  | d :: ds, vs, n + 1, h => by
    unfold Dats at h
    obtain ⟨v, r, rfl, h1, h2⟩ := h
    exact Dats.drop n h2
theorem Dats.set : ∀ {ds : List Dv} {vs : List V} (i : Nat) {d : Dv} {v : V}, Dats M H ds vs → Dat M H d v → Dats M H (ds.set i d) (vs.set i v)
  | [], vs, i, d, v, h, _ => by
    unfold Dats at h
    subst h
    exact .nil
  | e :: ds, vs, 0, d, v, h, hd => by
    unfold Dats at h
    obtain ⟨w, r, rfl, h1, h2⟩ := h
    exact .cons hd h2
  | e :: ds, vs, i + 1, d, v, h, hd => by
    unfold Dats at h
    obtain ⟨w, r, rfl, h1, h2⟩ := h
    exact .cons h1 (Dats.set i h2 hd)
theorem Dats.rev : ∀ {ds : List Dv} {vs : List V}, Dats M H ds vs → Dats M H ds.reverse vs.reverse
  | [], vs, h => by
    unfold Dats at h
    subst h
    exact .nil
  | d :: ds, vs, h => by
    unfold Dats at h
    obtain ⟨v, r, rfl, h1, h2⟩ := h
    rw [List.reverse_cons, List.reverse_cons]
    exact (Dats.rev h2).app (.one h1)
theorem Dats.rep {ds : List Dv} {vs : List V} (h : Dats M H ds vs) : ∀ n : Nat, Dats M H (List.replicate n ds).flatten (List.replicate n vs).flatten
  | 0 => .nil
  | n + 1 => by
    rw [List.replicate_succ, List.replicate_succ, List.flatten_cons, List.flatten_cons]
    exact h.app (Dats.rep h n)
theorem Dats.dropLast {ds : List Dv} {vs : List V} (h : Dats M H ds vs) : Dats M H ds.dropLast vs.dropLast := by
  rw [List.dropLast_eq_take, List.dropLast_eq_take, h.length]
  exact h.take _
theorem Dats.ints : ∀ {ns : List Int} {vs : List V}, Dats M H (ns.map Dv.int) vs → vs = ns.map V.int
  | [], vs, h => by
    simp only [List.map_nil] at h
    unfold Dats at h
    exact h
  | n :: ns, vs, h => by
    simp only [List.map_cons] at h
    unfold Dats at h
    obtain ⟨v, r, rfl, h1, h2⟩ := h
    unfold Dat at h1
    subst h1
    rw [Dats.ints h2]
    rfl
theorem Dats.strs : ∀ {ns : List Str} {vs : List V}, Dats M H (ns.map Dv.str) vs → vs = ns.map V.str
  | [], vs, h => by
    simp only [List.map_nil] at h
    unfold Dats at h
    exact h
  | n :: ns, vs, h => by
    simp only [List.map_cons] at h
    unfold Dats at h
    obtain ⟨v, r, rfl, h1, h2⟩ := h
    unfold Dat at h1
    subst h1
    rw [Dats.strs h2]
    rfl
theorem Dats.ofInts : ∀ {ns : List Int}, Dats M H (ns.map Dv.int) (ns.map V.int)
  | [] => .nil
  | n :: ns => .cons (by unfold Dat; rfl) Dats.ofInts
end

/-! ### environments -/
inductive Slot where
  | non
  | dat (d : Dv)
  | own (io : Bool) (xs : List Dv)
abbrev DEnv := List Slot

/-- the context: addresses that nobody but their owners touch, the heap at the entry, the slot and address of the list that is handed in to be changed -/
structure DC where
  M0 : Addr → Prop
  H0 : Hp
  io : Option (Nat × Addr)

def W (env : DEnv) (σ : L2.St) (a : Addr) : Prop := ∃ (i : Nat) (b : Bool) (xs : List Dv), env[i]? = some (.own b xs) ∧ σ[i]? = some (some (.ref a))
def MM (C : DC) (env : DEnv) (σ : L2.St) (a : Addr) : Prop := C.M0 a ∨ W env σ a

structure Rel (C : DC) (env : DEnv) (σ : L2.St) (H : Hp) : Prop where
  len : σ.length = env.length
  dat : ∀ (i : Nat) d, env[i]? = some (.dat d) → ∃ v, σ[i]? = some (some v) ∧ Dat (MM C env σ) H d v
  own : ∀ (i : Nat) b xs, env[i]? = some (.own b xs) → ∃ a vs, σ[i]? = some (some (.ref a)) ∧ H a = some (.lst vs) ∧ Dats (MM C env σ) H xs vs
  inj : ∀ (i j : Nat) b c xs ys a, env[i]? = some (.own b xs) → env[j]? = some (.own c ys) → σ[i]? = some (some (.ref a)) → σ[j]? = some (some (.ref a)) → i = j
  io : ∀ (i : Nat) xs, env[i]? = some (.own true xs) → ∃ a, C.io = some (i, a)
  iob : ∀ i a, C.io = some (i, a) → C.M0 a ∧ ∃ xs, env[i]? = some (.own true xs) ∧ σ[i]? = some (some (.ref a))
  no : ∀ (i : Nat) xs a, env[i]? = some (.own false xs) → σ[i]? = some (some (.ref a)) → C.H0 a = none ∧ ¬ C.M0 a
  keep : ∀ a o, (∀ i, C.io ≠ some (i, a)) → C.H0 a = some o → H a = some o
  mem : ∀ a, C.M0 a → H a ≠ none

/-- what the environment becomes within an expression: nobody becomes an owner -/
def Sh (env env' : DEnv) : Prop := env'.length = env.length ∧ ∀ (i : Nat) b xs, env'[i]? = some (.own b xs) → ∃ ys, env[i]? = some (.own b ys)
def Grow (env : DEnv) (σ : L2.St) (H H' : Hp) : Prop := ∀ a o, ¬ W env σ a → H a = some o → H' a = some o
theorem Sh.refl (env : DEnv) : Sh env env := ⟨rfl, fun _ _ xs h => ⟨xs, h⟩⟩
theorem Sh.trans {e1 e2 e3 : DEnv} (a : Sh e1 e2) (b : Sh e2 e3) : Sh e1 e3 := ⟨b.1.trans a.1, fun i c xs h => by
  obtain ⟨ys, h2⟩ := b.2 i c xs h
  exact a.2 i c ys h2⟩
theorem Sh.w {e1 e2 : DEnv} (s : Sh e1 e2) {σ : L2.St} {a : Addr} (h : W e2 σ a) : W e1 σ a := by
  obtain ⟨i, b, xs, h1, h2⟩ := h
  obtain ⟨ys, h3⟩ := s.2 i b xs h1
  exact ⟨i, b, ys, h3, h2⟩
theorem Sh.mm {C : DC} {e1 e2 : DEnv} (s : Sh e1 e2) {σ : L2.St} {a : Addr} (h : MM C e2 σ a) : MM C e1 σ a := h.imp id s.w
theorem Grow.refl (env : DEnv) (σ : L2.St) (H : Hp) : Grow env σ H H := fun _ _ _ h => h
theorem Grow.trans {e1 e2 : DEnv} {σ : L2.St} {H1 H2 H3 : Hp} (s : Sh e1 e2) (a : Grow e1 σ H1 H2) (b : Grow e2 σ H2 H3) : Grow e1 σ H1 H3 := fun x o n h => b x o (fun z => n (s.w z)) (a x o n h)
theorem Grow.dat {C : DC} {e1 e2 : DEnv} {σ : L2.St} {H1 H2 : Hp} (s : Sh e1 e2) (g : Grow e1 σ H1 H2) {d : Dv} {v : V} (h : Dat (MM C e1 σ) H1 d v) : Dat (MM C e2 σ) H2 d v :=
  h.to (fun a o n q => g a o (fun z => n (.inr z)) q) (fun a z => .inl (s.mm z))
theorem Grow.dats {C : DC} {e1 e2 : DEnv} {σ : L2.St} {H1 H2 : Hp} (s : Sh e1 e2) (g : Grow e1 σ H1 H2) {d : List Dv} {v : List V} (h : Dats (MM C e1 σ) H1 d v) : Dats (MM C e2 σ) H2 d v :=
  Dats.to (fun a o n q => g a o (fun z => n (.inr z)) q) (fun a z => .inl (s.mm z)) _ _ h

/-- what an expression gives: data, or what stands in a slot -/
inductive RV where
  | d (d : Dv)
  | v (i : Nat)
def RVr (C : DC) (env : DEnv) (σ : L2.St) (H : Hp) : RV → V → Prop
  | .d d, v => Dat (MM C env σ) H d v
  | .v i, v => σ[i]? = some (some v)
theorem RVr.step {C : DC} {e1 e2 : DEnv} {σ : L2.St} {H1 H2 : Hp} (s : Sh e1 e2) (g : Grow e1 σ H1 H2) : ∀ {rv : RV} {v : V}, RVr C e1 σ H1 rv v → RVr C e2 σ H2 rv v
  | .d _, _, h => g.dat s h
  | .v _, _, h => h
def RVs (C : DC) (env : DEnv) (σ : L2.St) (H : Hp) : List RV → List V → Prop
  | [], vs => vs = []
  | r :: rs, vs => ∃ v ws, vs = v :: ws ∧ RVr C env σ H r v ∧ RVs C env σ H rs ws
theorem RVs.step {C : DC} {e1 e2 : DEnv} {σ : L2.St} {H1 H2 : Hp} (s : Sh e1 e2) (g : Grow e1 σ H1 H2) : ∀ {rs : List RV} {vs : List V}, RVs C e1 σ H1 rs vs → RVs C e2 σ H2 rs vs
  | [], _, h => h
  | r :: rs, vs, h => by
    obtain ⟨v, ws, e, h1, h2⟩ := h
    exact ⟨v, ws, e, h1.step s g, RVs.step s g h2⟩

/-- the data of a result, where it is data -/
def val (env : DEnv) : RV → Option Dv
  | .d d => some d
  | .v i => match env[i]? with
    | some (.dat d) => some d
    | _ => none
/-- the items of a list -/
def seqL (env : DEnv) : RV → Option (List Dv)
  | .d (.lst xs) => some xs
  | .d _ => none
  | .v i => match env[i]? with
    | some (.dat (.lst xs)) => some xs
    | some (.own _ xs) => some xs
    | _ => none
/-- the data of a result; a list that was the slot's own is from now on data -/
def frz (env : DEnv) : RV → Option (Dv × DEnv)
  | .d d => some (d, env)
  | .v i => match env[i]? with
    | some (.dat d) => some (d, env)
    | some (.own false xs) => some (.lst xs, env.set i (.dat (.lst xs)))
    | _ => none
/-- what it reads as, for a look -/
def look (env : DEnv) : RV → Option Dv
  | .d d => some d
  | .v i => match env[i]? with
    | some (.dat d) => some d
    | some (.own _ xs) => some (.lst xs)
    | _ => none

section
variable {C : DC} {env env' : DEnv} {σ : L2.St} {H H' : Hp} {v : V} {rv : RV}
theorem val_ok (R : Rel C env σ H) (r : RVr C env σ H rv v) {d : Dv} (h : val env rv = some d) : Dat (MM C env σ) H d v := by
  cases rv with
  | d x => cases h; exact r
  | v i =>
    simp only [val] at h
    split at h
    · rename_i x e
      cases h
      obtain ⟨u, h1, h2⟩ := R.dat i _ e
      have q : σ[i]? = some (some v) := r
      rw [h1] at q
      cases q
      exact h2
    · cases h
theorem seqL_ok (R : Rel C env σ H) (r : RVr C env σ H rv v) {xs : List Dv} (h : seqL env rv = some xs) : ∃ a vs, v = .ref a ∧ H a = some (.lst vs) ∧ Dats (MM C env σ) H xs vs := by
  cases rv with
  | d x =>
    cases x <;> simp only [seqL] at h <;> cases h
    have q : Dat (MM C env σ) H (.lst _) v := r
    unfold Dat at q
    obtain ⟨a, vs, e, _, ha, hs⟩ := q
    exact ⟨a, vs, e, ha, hs⟩
  | v i =>
    have r : σ[i]? = some (some v) := r
    simp only [seqL] at h
    split at h
    · rename_i x e
      cases h
      obtain ⟨u, h1, h2⟩ := R.dat i _ e
      rw [h1] at r
      cases r
      unfold Dat at h2
      obtain ⟨a, vs, e, _, ha, hs⟩ := h2
      exact ⟨a, vs, e, ha, hs⟩
    · rename_i x e
      cases h
      obtain ⟨a, vs, h1, ha, hs⟩ := R.own i _ _ e
      rw [h1] at r
      cases r
      exact ⟨a, vs, rfl, ha, hs⟩
    · cases h
/-- as data of a smaller set of kept addresses -/
theorem look_ok (R : Rel C env σ H) (r : RVr C env σ H rv v) {d : Dv} (h : look env rv = some d) : Dat (fun _ => False) H d v := by
  cases rv with
  | d x =>
    have r : Dat (MM C env σ) H x v := r
    cases h
    exact Dat.to (fun a o _ q => q) (fun _ z => z.elim) _ _ r
  | v i =>
    have r : σ[i]? = some (some v) := r
    simp only [look] at h
    split at h
    · rename_i x e
      cases h
      obtain ⟨u, h1, h2⟩ := R.dat i _ e
      rw [h1] at r
      cases r
      exact Dat.to (fun a o _ q => q) (fun _ z => z.elim) _ _ h2
    · rename_i x e
      cases h
      obtain ⟨a, vs, h1, ha, hs⟩ := R.own i _ _ e
      rw [h1] at r
      cases r
      unfold Dat
      exact ⟨a, vs, rfl, id, ha, Dats.to (fun a o _ q => q) (fun _ z => z.elim) _ _ hs⟩
    · cases h
end
end DL

set_option Elab.async false
set_option linter.all false
set_option maxRecDepth 100000
set_option maxHeartbeats 4000000
namespace DL
open PySem L2

/-! ### steps of the state -/
section
variable {C : DC} {env env' : DEnv} {σ : L2.St} {H H' : Hp} {v : V} {rv : RV} {p a : Addr} {o : HO}
theorem Grow.new (h : H p = none) : Grow env σ H (upd H p o) := fun a u _ e => by
  rw [upd_ne (ne_of_none e h)]
  exact e
theorem Rel.alloc (R : Rel C env σ H) (h : H p = none) : Rel C env σ (upd H p o) where
  len := R.len
  dat := fun i d e => by
    obtain ⟨v, h1, h2⟩ := R.dat i d e
    exact ⟨v, h1, h2.to (fun a u _ q => by rw [upd_ne (ne_of_none q h)]; exact q) fun _ z => .inl z⟩
  own := fun i b xs e => by
    obtain ⟨a, vs, h1, h2, h3⟩ := R.own i b xs e
    exact ⟨a, vs, h1, by rw [upd_ne (ne_of_none h2 h)]; exact h2, Dats.to (fun a u _ q => by rw [upd_ne (ne_of_none q h)]; exact q) (fun _ z => .inl z) _ _ h3⟩
  inj := R.inj
  io := R.io
  iob := R.iob
  no := R.no
  keep := fun a u n e => by
    have q := R.keep a u n e
    rw [upd_ne (ne_of_none q h)]
    exact q
  mem := fun a m => by
    have q := R.mem a m
    by_cases e : a = p
    · rw [e, upd_same]
      intro z
      cases z
    · rw [upd_ne e]
      exact q
/-- a new address is none of the kept ones -/
theorem Rel.fresh (R : Rel C env σ H) (h : H p = none) : ¬ MM C env σ p := by
  rintro (z | ⟨i, b, xs, h1, h2⟩)
  · exact R.mem p z h
  · obtain ⟨a, vs, h3, h4, _⟩ := R.own i b xs h1
    rw [h2] at h3
    cases h3
    rw [h] at h4
    cases h4
theorem Rel.h0 (R : Rel C env σ H) (h : H p = none) : C.H0 p = none := by
  cases q : C.H0 p with
  | none => rfl
  | some o =>
    have z : ∀ i, C.io ≠ some (i, p) := fun i e => R.mem p (R.iob i p e).1 h
    rw [R.keep p o z q] at h
    cases h
/-- an address that is new stays apart -/
def DC.plus (C : DC) (p : Addr) : DC := { C with M0 := fun a => C.M0 a ∨ a = p }
theorem Rel.plus (R : Rel C env σ H) (h : H p = none) (o : HO) : Rel (C.plus p) env σ (upd H p o) where
  len := R.len
  dat := fun i d e => by
    obtain ⟨v, h1, h2⟩ := R.dat i d e
    refine ⟨v, h1, h2.to (fun a u _ q => by rw [upd_ne (ne_of_none q h)]; exact q) fun a z => ?_⟩
    rcases z with (z | z) | z
    · exact .inl (.inl z)
    · exact .inr (z ▸ h)
    · exact .inl (.inr z)
  own := fun i b xs e => by
    obtain ⟨a, vs, h1, h2, h3⟩ := R.own i b xs e
    refine ⟨a, vs, h1, by rw [upd_ne (ne_of_none h2 h)]; exact h2, Dats.to (fun a u _ q => by rw [upd_ne (ne_of_none q h)]; exact q) (fun a z => ?_) _ _ h3⟩
    rcases z with (z | z) | z
    · exact .inl (.inl z)
    · exact .inr (z ▸ h)
    · exact .inl (.inr z)
  inj := R.inj
  io := R.io
  iob := fun i a e => ⟨.inl (R.iob i a e).1, (R.iob i a e).2⟩
  no := fun i xs a e1 e2 => ⟨(R.no i xs a e1 e2).1, fun z => z.elim (R.no i xs a e1 e2).2 fun q => by
    obtain ⟨b, vs, h1, h2, _⟩ := R.own i _ _ e1
    rw [h1] at e2
    cases e2
    rw [q, h] at h2
    cases h2⟩
  keep := (R.alloc (o := o) h).keep
  mem := fun a m => by
    rcases m with m | m
    · exact (R.alloc (o := o) h).mem a m
    · rw [m, upd_same]
      intro z
      cases z
theorem Rel.unplus (R : Rel (C.plus p) env σ H) (hio : ∀ i a, C.io = some (i, a) → C.M0 a) : Rel C env σ H where
  len := R.len
  dat := fun i d e => by
    obtain ⟨v, h1, h2⟩ := R.dat i d e
    exact ⟨v, h1, h2.to (fun a u _ q => q) fun a z => .inl (z.elim (fun z => .inl (.inl z)) .inr)⟩
  own := fun i b xs e => by
    obtain ⟨a, vs, h1, h2, h3⟩ := R.own i b xs e
    exact ⟨a, vs, h1, h2, Dats.to (fun a u _ q => q) (fun a z => .inl (z.elim (fun z => .inl (.inl z)) .inr)) _ _ h3⟩
  inj := R.inj
  io := R.io
  iob := fun i a e => ⟨hio i a e, (R.iob i a e).2⟩
  no := fun i xs a e1 e2 => ⟨(R.no i xs a e1 e2).1, fun z => (R.no i xs a e1 e2).2 (.inl z)⟩
  keep := R.keep
  mem := fun a m => R.mem a (.inl m)
theorem Rel.hio (R : Rel C env σ H) : ∀ i a, C.io = some (i, a) → C.M0 a := fun i a e => (R.iob i a e).1
/-- the plus address is nobody's -/
theorem Rel.plusW (R : Rel (C.plus p) env σ H) (hio : ∀ i a, C.io = some (i, a) → a ≠ p) : ¬ W env σ p := by
  rintro ⟨i, b, xs, h1, h2⟩
  cases b with
  | false => exact (R.no i xs p h1 h2).2 (.inr rfl)
  | true =>
    obtain ⟨a, e⟩ := R.io i xs h1
    obtain ⟨_, ys, h3, h4⟩ := R.iob i a e
    rw [h2] at h4
    cases h4
    exact hio i p e rfl
theorem mm_plus {a : Addr} (z : MM C env σ a) : MM (C.plus p) env σ a := z.imp .inl id
/-- what is read stays when the environment's content alone changes -/
theorem frz_ok (R : Rel C env σ H) (r : RVr C env σ H rv v) {d : Dv} (h : frz env rv = some (d, env')) : Rel C env' σ H ∧ Sh env env' ∧ Dat (MM C env' σ) H d v := by
  cases rv with
  | d x =>
    simp only [frz] at h
    cases h
    exact ⟨R, Sh.refl _, r⟩
  | v i =>
    have r : σ[i]? = some (some v) := r
    simp only [frz] at h
    split at h
    · rename_i x e
      cases h
      obtain ⟨u, h1, h2⟩ := R.dat i _ e
      rw [h1] at r
      cases r
      exact ⟨R, Sh.refl _, h2⟩
    · rename_i xs e
      cases h
      obtain ⟨a, vs, h1, ha, hs⟩ := R.own i _ _ e
      rw [h1] at r
      cases r
      have hi : i < env.length := (List.getElem?_eq_some_iff.mp e).1
      have eq : ∀ j s, (env.set i (Slot.dat (Dv.lst xs)))[j]? = some s → (j = i ∧ s = Slot.dat (Dv.lst xs)) ∨ (j ≠ i ∧ env[j]? = some s) := fun j s q => by
        by_cases z : i = j
        · subst z
          rw [List.getElem?_set_self hi] at q
          exact .inl ⟨rfl, (Option.some.inj q).symm⟩
        · rw [List.getElem?_set_ne z] at q
          exact .inr ⟨fun w => z w.symm, q⟩
      have own : ∀ (j : Nat) b ys, (env.set i (Slot.dat (Dv.lst xs)))[j]? = some (.own b ys) → j ≠ i ∧ env[j]? = some (.own b ys) := fun j b ys q => by
        rcases eq j _ q with ⟨_, z⟩ | z
        · cases z
        · exact z
      have sh : Sh env (env.set i (Slot.dat (Dv.lst xs))) := ⟨List.length_set .., fun j b ys q => ⟨ys, (own j b ys q).2⟩⟩
      have na : ¬ MM C (env.set i (Slot.dat (Dv.lst xs))) σ a := by
        rintro (z | ⟨j, b, ys, h3, h4⟩)
        · exact (R.no i xs a e h1).2 z
        · obtain ⟨n, h5⟩ := own j b ys h3
          exact n (R.inj j i _ _ _ _ a h5 e h4 h1)
      have dd : Dat (MM C (env.set i (Slot.dat (Dv.lst xs))) σ) H (.lst xs) (.ref a) := by
        unfold Dat
        exact ⟨a, vs, rfl, na, ha, (Grow.refl _ _ _).dats sh hs⟩
      refine ⟨⟨by rw [List.length_set]; exact R.len, fun j d q => ?_, fun j b ys q => ?_, fun j k b c ys zs x q1 q2 => R.inj j k b c ys zs x (own j _ _ q1).2 (own k _ _ q2).2, fun j ys q => R.io j ys (own j _ _ q).2,
        fun j x q => ?_, fun j ys x q => R.no j ys x (own j _ _ q).2, R.keep, R.mem⟩, sh, dd⟩
      · rcases eq j _ q with ⟨rfl, z⟩ | ⟨_, z⟩
        · cases z
          exact ⟨_, h1, dd⟩
        · obtain ⟨u, h3, h4⟩ := R.dat j d z
          exact ⟨u, h3, (Grow.refl _ _ _).dat sh h4⟩
      · obtain ⟨x, ws, h3, h4, h5⟩ := R.own j b ys (own j b ys q).2
        exact ⟨x, ws, h3, h4, (Grow.refl _ _ _).dats sh h5⟩
      · obtain ⟨h3, ys, h4, h5⟩ := R.iob j x q
        have n : j ≠ i := fun z => by
          subst z
          rw [e] at h4
          cases h4
        exact ⟨h3, ys, by rw [List.getElem?_set_ne (fun z => n z.symm)]; exact h4, h5⟩
    · cases h
/-- a list that a slot owns gets another content -/
theorem Rel.put (R : Rel C env σ H) {i : Nat} {b : Bool} {xs ys : List Dv} {ws : List V} (e : env[i]? = some (.own b xs)) (h1 : σ[i]? = some (some (.ref a))) (hs : Dats (MM C env σ) H ys ws) :
    Rel C (env.set i (.own b ys)) σ (upd H a (.lst ws)) ∧ Sh env (env.set i (.own b ys)) ∧ Grow env σ H (upd H a (.lst ws)) := by
  have hi : i < env.length := (List.getElem?_eq_some_iff.mp e).1
  have eq : ∀ j s, (env.set i (Slot.own b ys))[j]? = some s → (j = i ∧ s = Slot.own b ys) ∨ (j ≠ i ∧ env[j]? = some s) := fun j s q => by
    by_cases z : i = j
    · subst z
      rw [List.getElem?_set_self hi] at q
      exact .inl ⟨rfl, (Option.some.inj q).symm⟩
    · rw [List.getElem?_set_ne z] at q
      exact .inr ⟨fun w => z w.symm, q⟩
  have own : ∀ (j : Nat) c zs, (env.set i (Slot.own b ys))[j]? = some (.own c zs) → ∃ zs', env[j]? = some (.own c zs') := fun j c zs q => by
    rcases eq j _ q with ⟨z, w⟩ | ⟨_, z⟩
    · cases w
      exact ⟨xs, z ▸ e⟩
    · exact ⟨zs, z⟩
  have sh : Sh env (env.set i (Slot.own b ys)) := ⟨List.length_set .., own⟩
  have wa : W env σ a := ⟨i, b, xs, e, h1⟩
  have g : Grow env σ H (upd H a (.lst ws)) := fun x o n q => by
    have nx : x ≠ a := fun z => n (by rw [z]; exact wa)
    rw [upd_ne nx]
    exact q
  have hs' : Dats (MM C (env.set i (.own b ys)) σ) (upd H a (.lst ws)) ys ws := g.dats sh hs
  obtain ⟨a', vs, h1', ha, _⟩ := R.own i _ _ e
  rw [h1] at h1'
  cases h1'
  refine ⟨⟨by rw [List.length_set]; exact R.len, fun j d q => ?_, fun j c zs q => ?_, fun j k c c' zs zs' x q1 q2 h3 h4 => ?_, fun j zs q => ?_, fun j x q => ?_, fun j zs x q h3 => ?_, fun x o n q => ?_, fun x m => ?_⟩, sh, g⟩
  · rcases eq j _ q with ⟨_, z⟩ | ⟨_, z⟩
    · cases z
    · obtain ⟨u, h3, h4⟩ := R.dat j d z
      exact ⟨u, h3, g.dat sh h4⟩
  · rcases eq j _ q with ⟨z, w⟩ | ⟨n, z⟩
    · cases w
      subst z
      exact ⟨a, ws, h1, upd_same, hs'⟩
    · obtain ⟨x, us, h3, h4, h5⟩ := R.own j c zs z
      have nx : x ≠ a := fun w => n (R.inj j i _ _ _ _ a z e (w ▸ h3) h1)
      exact ⟨x, us, h3, by rw [upd_ne nx]; exact h4, g.dats sh h5⟩
  · obtain ⟨_, z1⟩ := own j _ _ q1
    obtain ⟨_, z2⟩ := own k _ _ q2
    exact R.inj j k _ _ _ _ x z1 z2 h3 h4
  · obtain ⟨_, z1⟩ := own j _ _ q
    exact R.io j _ z1
  · obtain ⟨h3, zs, h4, h5⟩ := R.iob j x q
    by_cases z : i = j
    · subst z
      rw [e] at h4
      cases h4
      exact ⟨h3, ys, List.getElem?_set_self hi, h5⟩
    · exact ⟨h3, zs, by rw [List.getElem?_set_ne z]; exact h4, h5⟩
  · obtain ⟨_, z1⟩ := own j _ _ q
    exact R.no j _ x z1 h3
  · have q' := R.keep x o n q
    by_cases z : x = a
    · subst z
      cases b with
      | true =>
        obtain ⟨y, w⟩ := R.io i xs e
        obtain ⟨_, _, _, h5⟩ := R.iob i y w
        rw [h1] at h5
        cases h5
        exact absurd w (n i)
      | false =>
        rw [(R.no i xs x e h1).1] at q
        cases q
    · rw [upd_ne z]
      exact q'
  · by_cases z : x = a
    · rw [z, upd_same]
      intro w
      cases w
    · rw [upd_ne z]
      exact R.mem x m
end

/-! ### the judgements -/
abbrev EF := DEnv → Option (RV × DEnv)
abbrev TF := DEnv → Option (Bool × DEnv)
abbrev AF := DEnv → Option (List RV × DEnv)
def RE (t : TE) (f : EF) : Prop := ∀ (C : DC) (env : DEnv) (σ : L2.St) (H : Hp) (Q : VK) (rv : RV) (env' : DEnv), f env = some (rv, env') → Rel C env σ H →
  (∀ v H', Rel C env' σ H' → Sh env env' → Grow env σ H H' → RVr C env' σ H' rv v → Q v H') → t σ H Q
def RT (t : TT) (f : TF) : Prop := ∀ (C : DC) (env : DEnv) (σ : L2.St) (H : Hp) (Q : Bool → Hp → Prop) (b : Bool) (env' : DEnv), f env = some (b, env') → Rel C env σ H →
  (∀ H', Rel C env' σ H' → Sh env env' → Grow env σ H H' → Q b H') → t σ H Q
def RA (t : TA) (f : AF) : Prop := ∀ (C : DC) (env : DEnv) (σ : L2.St) (H : Hp) (Q : List V → Hp → Prop) (rs : List RV) (env' : DEnv), f env = some (rs, env') → Rel C env σ H →
  (∀ vs H', Rel C env' σ H' → Sh env env' → Grow env σ H H' → RVs C env' σ H' rs vs → Q vs H') → t σ H Q
/-- an operation on two values -/
def RB (r : R2) (g : DEnv → RV → RV → Option RV) : Prop := ∀ (C : DC) (env : DEnv) (σ : L2.St) (H : Hp) (Q : VK) (x y : RV) (vx vy : V) (z : RV), g env x y = some z → Rel C env σ H → RVr C env σ H x vx → RVr C env σ H y vy →
  (∀ v H', Rel C env σ H' → Grow env σ H H' → RVr C env σ H' z v → Q v H') → r vx vy H Q
def RU (r : V → Hp → VK → Prop) (g : DEnv → RV → Option RV) : Prop := ∀ (C : DC) (env : DEnv) (σ : L2.St) (H : Hp) (Q : VK) (x : RV) (vx : V) (z : RV), g env x = some z → Rel C env σ H → RVr C env σ H x vx →
  (∀ v H', Rel C env σ H' → Grow env σ H H' → RVr C env σ H' z v → Q v H') → r vx H Q
/-- a call on values -/
def RC (r : List V → Hp → VK → Prop) (g : DEnv → List RV → Option RV) : Prop := ∀ (C : DC) (env : DEnv) (σ : L2.St) (H : Hp) (Q : VK) (xs : List RV) (vs : List V) (z : RV), g env xs = some z → Rel C env σ H → RVs C env σ H xs vs →
  (∀ v H', Rel C env σ H' → Grow env σ H H' → RVr C env σ H' z v → Q v H') → r vs H Q

/-! ### evaluators -/
def fVar (i : Nat) : EF := fun env => match env[i]? with
  | some .non => none
  | none => none
  | _ => some (.v i, env)
def fC (d : Dv) : EF := fun env => some (.d d, env)
def fOp (g : DEnv → RV → RV → Option RV) (fa fb : EF) : EF := fun env => (fa env).bind fun p => (fb p.2).bind fun q => (g q.2 p.1 q.1).map fun z => (z, q.2)
def fUn (g : DEnv → RV → Option RV) (fa : EF) : EF := fun env => (fa env).bind fun p => (g p.2 p.1).map fun z => (z, p.2)
def fNil : AF := fun env => some ([], env)
def fCons (fa : EF) (fr : AF) : AF := fun env => (fa env).bind fun p => (fr p.2).map fun q => (p.1 :: q.1, q.2)
def fCB (g : DEnv → List RV → Option RV) (fa : AF) : EF := fun env => (fa env).bind fun p => (g p.2 p.1).map fun z => (z, p.2)
def fIf (ft : TF) (fa fb : EF) : EF := fun env => (ft env).bind fun p => if p.1 = true then fa p.2 else fb p.2
def asB (env : DEnv) (rv : RV) : Option Bool := match val env rv with
  | some (.bl b) => some b
  | _ => none
def fTest (fa : EF) : TF := fun env => (fa env).bind fun p => (asB p.2 p.1).map fun b => (b, p.2)
def fAnd (f g : TF) : TF := fun env => (f env).bind fun p => if p.1 = true then g p.2 else some (false, p.2)
def fOr (f g : TF) : TF := fun env => (f env).bind fun p => if p.1 = true then some (true, p.2) else g p.2
def fNot (f : TF) : TF := fun env => (f env).map fun p => (!p.1, p.2)
def fAndV (fa fb : EF) : EF := fun env => (fa env).bind fun p => (asB p.2 p.1).bind fun b => if b = true then fb p.2 else some (.d (.bl false), p.2)
def fOrV (fa fb : EF) : EF := fun env => (fa env).bind fun p => (asB p.2 p.1).bind fun b => if b = true then some (.d (.bl true), p.2) else fb p.2
def fNotV (fa : EF) : EF := fun env => (fa env).bind fun p => (asB p.2 p.1).map fun b => (.d (.bl (!b)), p.2)
/-- data of each -/
def frzs (env : DEnv) : List RV → Option (List Dv × DEnv)
  | [] => some ([], env)
  | r :: rs => (frz env r).bind fun p => (frzs p.2 rs).map fun q => (p.1 :: q.1, q.2)

section
variable {ta tb : TE} {fa fb : EF} {t u : TT} {f g : TF}
theorem asB_ok {C : DC} {env : DEnv} {σ : L2.St} {H : Hp} {rv : RV} {v : V} (R : Rel C env σ H) (r : RVr C env σ H rv v) {b : Bool} (h : asB env rv = some b) : v = .bl b := by
  unfold asB at h
  split at h
  · rename_i c e
    cases h
    have q := val_ok R r e
    unfold Dat at q
    exact q
  · cases h
theorem re_var {i : Nat} : RE (tVar i) (fVar i) := fun C env σ H Q rv env' h R k => by
  unfold fVar at h
  have hv : ∃ v, σ[i]? = some (some v) := by
    split at h
    · cases h
    · cases h
    · rename_i s n1 n2
      cases e : env[i]? with
      | none => exact absurd e n2
      | some s =>
        cases s with
        | non => exact absurd e n1
        | dat d =>
          obtain ⟨v, h1, _⟩ := R.dat i d e
          exact ⟨v, h1⟩
        | own b xs =>
          obtain ⟨a, _, h1, _⟩ := R.own i b xs e
          exact ⟨_, h1⟩
  have hr : (rv, env') = (.v i, env) := by
    split at h
    · cases h
    · cases h
    · exact (Option.some.inj h).symm
  cases hr
  obtain ⟨v, hv⟩ := hv
  exact ⟨v, hv, k v H R (Sh.refl _) (Grow.refl _ _ _) hv⟩
theorem re_c {v : V} {d : Dv} (hd : ∀ M H, Dat M H d v) : RE (tC v) (fC d) := fun C env σ H Q rv env' h R k => by
  cases h
  exact k v H R (Sh.refl _) (Grow.refl _ _ _) (hd _ _)
theorem re_int {i : Int} : RE (tC (.int i)) (fC (.int i)) := re_c fun _ _ => by unfold Dat; rfl
theorem re_bl {b : Bool} : RE (tC (.bl b)) (fC (.bl b)) := re_c fun _ _ => by unfold Dat; rfl
theorem re_str {s : Str} : RE (tC (.str s)) (fC (.str s)) := re_c fun _ _ => by unfold Dat; rfl
theorem re_non : RE (tC .non) (fC .non) := re_c fun _ _ => by unfold Dat; rfl
theorem re_ty {n : String} : RE (tC (.ty n)) (fC (.ty n)) := re_c fun _ _ => by unfold Dat; rfl
theorem re_cls {a : Addr} : RE (tC (.ref a)) (fC (.cls a)) := re_c fun _ _ => by unfold Dat; rfl
theorem re_op {r : R2} {g : DEnv → RV → RV → Option RV} (hr : RB r g) (ha : RE ta fa) (hb : RE tb fb) : RE (tOp r ta tb) (fOp g fa fb) := fun C env σ H Q rv env' h R k => by
  unfold fOp at h
  obtain ⟨⟨x, e1⟩, h1, h⟩ := Option.bind_eq_some_iff.mp h
  obtain ⟨⟨y, e2⟩, h2, h⟩ := Option.bind_eq_some_iff.mp h
  obtain ⟨z, h3, h⟩ := Option.map_eq_some_iff.mp h
  cases h
  refine ha C env σ H _ x e1 h1 R fun vx H1 R1 s1 g1 r1 => ?_
  refine hb C e1 σ H1 _ y e2 h2 R1 fun vy H2 R2 s2 g2 r2 => ?_
  refine hr C e2 σ H2 _ x y vx vy _ h3 R2 (r1.step s2 g2) r2 fun v H3 R3 g3 r3 => ?_
  exact k v H3 R3 (s1.trans s2) ((g1.trans s1 g2).trans (s1.trans s2) g3) r3
theorem re_un {r : V → Hp → VK → Prop} {g : DEnv → RV → Option RV} (hr : RU r g) (ha : RE ta fa) : RE (tUn r ta) (fUn g fa) := fun C env σ H Q rv env' h R k => by
  unfold fUn at h
  obtain ⟨⟨x, e1⟩, h1, h⟩ := Option.bind_eq_some_iff.mp h
  obtain ⟨z, h3, h⟩ := Option.map_eq_some_iff.mp h
  cases h
  refine ha C env σ H _ x e1 h1 R fun vx H1 R1 s1 g1 r1 => ?_
  exact hr C e1 σ H1 _ x vx _ h3 R1 r1 fun v H3 R3 g3 r3 => k v H3 R3 s1 (g1.trans s1 g3) r3
theorem ra_nil : RA tNil fNil := fun C env σ H Q rs env' h R k => by
  cases h
  exact k [] H R (Sh.refl _) (Grow.refl _ _ _) rfl
theorem ra_cons {tr : TA} {fr : AF} (ha : RE ta fa) (hr : RA tr fr) : RA (tCons ta tr) (fCons fa fr) := fun C env σ H Q rs env' h R k => by
  unfold fCons at h
  obtain ⟨⟨x, e1⟩, h1, h⟩ := Option.bind_eq_some_iff.mp h
  obtain ⟨⟨xs, e2⟩, h2, h⟩ := Option.map_eq_some_iff.mp h
  cases h
  refine ha C env σ H _ x e1 h1 R fun vx H1 R1 s1 g1 r1 => ?_
  refine hr C e1 σ H1 _ xs e2 h2 R1 fun vs H2 R2 s2 g2 r2 => ?_
  exact k _ H2 R2 (s1.trans s2) (g1.trans s1 g2) ⟨vx, vs, rfl, r1.step s2 g2, r2⟩
theorem re_cb {r : List V → Hp → VK → Prop} {g : DEnv → List RV → Option RV} {ta : TA} {fa : AF} (hr : RC r g) (ha : RA ta fa) : RE (tCB r ta) (fCB g fa) := fun C env σ H Q rv env' h R k => by
  unfold fCB at h
  obtain ⟨⟨x, e1⟩, h1, h⟩ := Option.bind_eq_some_iff.mp h
  obtain ⟨z, h3, h⟩ := Option.map_eq_some_iff.mp h
  cases h
  refine ha C env σ H _ x e1 h1 R fun vx H1 R1 s1 g1 r1 => ?_
  exact hr C e1 σ H1 _ x vx _ h3 R1 r1 fun v H3 R3 g3 r3 => k v H3 R3 s1 (g1.trans s1 g3) r3
theorem re_if (hc : RT t f) (ha : RE ta fa) (hb : RE tb fb) : RE (tIf t ta tb) (fIf f fa fb) := fun C env σ H Q rv env' h R k => by
  unfold fIf at h
  obtain ⟨⟨b, e1⟩, h1, h⟩ := Option.bind_eq_some_iff.mp h
  refine hc C env σ H _ b e1 h1 R fun H1 R1 s1 g1 => ?_
  cases b with
  | true => exact ha C e1 σ H1 _ rv env' h R1 fun v H2 R2 s2 g2 r2 => k v H2 R2 (s1.trans s2) (g1.trans s1 g2) r2
  | false => exact hb C e1 σ H1 _ rv env' h R1 fun v H2 R2 s2 g2 r2 => k v H2 R2 (s1.trans s2) (g1.trans s1 g2) r2
theorem rt_test (ha : RE ta fa) : RT (tTest ta) (fTest fa) := fun C env σ H Q b env' h R k => by
  unfold fTest at h
  obtain ⟨⟨x, e1⟩, h1, h⟩ := Option.bind_eq_some_iff.mp h
  obtain ⟨z, h3, h⟩ := Option.map_eq_some_iff.mp h
  cases h
  exact ha C env σ H _ x e1 h1 R fun vx H1 R1 s1 g1 r1 => ⟨_, asB_ok R1 r1 h3, k H1 R1 s1 g1⟩
theorem rt_B (ha : RE ta fa) : RT (tB ta) (fTest fa) := fun C env σ H Q b env' h R k => by
  unfold fTest at h
  obtain ⟨⟨x, e1⟩, h1, h⟩ := Option.bind_eq_some_iff.mp h
  obtain ⟨z, h3, h⟩ := Option.map_eq_some_iff.mp h
  cases h
  exact ha C env σ H _ x e1 h1 R fun vx H1 R1 s1 g1 r1 => ⟨_, asB_ok R1 r1 h3, k H1 R1 s1 g1⟩
theorem rt_and (ha : RT t f) (hb : RT u g) : RT (tAnd t u) (fAnd f g) := fun C env σ H Q b env' h R k => by
  unfold fAnd at h
  obtain ⟨⟨x, e1⟩, h1, h⟩ := Option.bind_eq_some_iff.mp h
  refine ha C env σ H _ x e1 h1 R fun H1 R1 s1 g1 => ?_
  cases x with
  | true => exact hb C e1 σ H1 _ b env' h R1 fun H2 R2 s2 g2 => k H2 R2 (s1.trans s2) (g1.trans s1 g2)
  | false =>
    cases h
    exact k H1 R1 s1 g1
theorem rt_or (ha : RT t f) (hb : RT u g) : RT (tOr t u) (fOr f g) := fun C env σ H Q b env' h R k => by
  unfold fOr at h
  obtain ⟨⟨x, e1⟩, h1, h⟩ := Option.bind_eq_some_iff.mp h
  refine ha C env σ H _ x e1 h1 R fun H1 R1 s1 g1 => ?_
  cases x with
  | false => exact hb C e1 σ H1 _ b env' h R1 fun H2 R2 s2 g2 => k H2 R2 (s1.trans s2) (g1.trans s1 g2)
  | true =>
    cases h
    exact k H1 R1 s1 g1
theorem rt_not (ha : RT t f) : RT (tNot t) (fNot f) := fun C env σ H Q b env' h R k => by
  unfold fNot at h
  obtain ⟨⟨x, e1⟩, h1, h⟩ := Option.map_eq_some_iff.mp h
  cases h
  exact ha C env σ H _ x e1 h1 R fun H1 R1 s1 g1 => k H1 R1 s1 g1
theorem re_andV (ha : RE ta fa) (hb : RE tb fb) : RE (tAndV ta tb) (fAndV fa fb) := fun C env σ H Q rv env' h R k => by
  unfold fAndV at h
  obtain ⟨⟨x, e1⟩, h1, h⟩ := Option.bind_eq_some_iff.mp h
  obtain ⟨b, h2, h⟩ := Option.bind_eq_some_iff.mp h
  refine ha C env σ H _ x e1 h1 R fun vx H1 R1 s1 g1 r1 => ⟨b, asB_ok R1 r1 h2, ?_⟩
  cases b with
  | true => exact hb C e1 σ H1 _ rv env' h R1 fun v H2 R2 s2 g2 r2 => k v H2 R2 (s1.trans s2) (g1.trans s1 g2) r2
  | false =>
    cases h
    exact k _ H1 R1 s1 g1 (show Dat (MM C e1 σ) H1 (.bl false) _ by unfold Dat; rfl)
theorem re_orV (ha : RE ta fa) (hb : RE tb fb) : RE (tOrV ta tb) (fOrV fa fb) := fun C env σ H Q rv env' h R k => by
  unfold fOrV at h
  obtain ⟨⟨x, e1⟩, h1, h⟩ := Option.bind_eq_some_iff.mp h
  obtain ⟨b, h2, h⟩ := Option.bind_eq_some_iff.mp h
  refine ha C env σ H _ x e1 h1 R fun vx H1 R1 s1 g1 r1 => ⟨b, asB_ok R1 r1 h2, ?_⟩
  cases b with
  | false => exact hb C e1 σ H1 _ rv env' h R1 fun v H2 R2 s2 g2 r2 => k v H2 R2 (s1.trans s2) (g1.trans s1 g2) r2
  | true =>
    cases h
    exact k _ H1 R1 s1 g1 (show Dat (MM C e1 σ) H1 (.bl true) _ by unfold Dat; rfl)
theorem re_notV (ha : RE ta fa) : RE (tNotV ta) (fNotV fa) := fun C env σ H Q rv env' h R k => by
  unfold fNotV at h
  obtain ⟨⟨x, e1⟩, h1, h⟩ := Option.bind_eq_some_iff.mp h
  obtain ⟨b, h2, h⟩ := Option.map_eq_some_iff.mp h
  cases h
  exact ha C env σ H _ x e1 h1 R fun vx H1 R1 s1 g1 r1 => ⟨b, asB_ok R1 r1 h2, k _ H1 R1 s1 g1 (show Dat (MM C e1 σ) H1 (.bl (!b)) _ by unfold Dat; rfl)⟩
theorem frzs_ok {C : DC} {σ : L2.St} {H : Hp} : ∀ {rs : List RV} {env env' : DEnv} {vs : List V} {ds : List Dv}, Rel C env σ H → RVs C env σ H rs vs → frzs env rs = some (ds, env') → Rel C env' σ H ∧ Sh env env' ∧ Dats (MM C env' σ) H ds vs
  | [], env, env', vs, ds, R, r, h => by
    simp only [frzs] at h
    cases h
    have r : vs = [] := r
    subst r
    exact ⟨R, Sh.refl _, .nil⟩
  | x :: rs, env, env', vs, ds, R, r, h => by
    simp only [frzs] at h
    obtain ⟨⟨d, e1⟩, h1, h⟩ := Option.bind_eq_some_iff.mp h
    obtain ⟨⟨ds', e2⟩, h2, h⟩ := Option.map_eq_some_iff.mp h
    cases h
    obtain ⟨v, ws, rfl, r1, r2⟩ := r
    obtain ⟨R1, s1, d1⟩ := frz_ok R r1 h1
    obtain ⟨R2, s2, d2⟩ := frzs_ok R1 (RVs.step s1 (Grow.refl _ _ _) r2) h2
    exact ⟨R2, s1.trans s2, .cons ((Grow.refl _ _ _).dat s2 d1) d2⟩
def szL : Nat := 16000000
theorem szL_le {n : Nat} (h : n ≤ szL) : n ≤ sizeLine := Nat.le_trans h (by rw [sizeLine_eq]; decide)
def fTup' (fa : AF) : EF := fun env => (fa env).bind fun p => (frzs p.2 p.1).bind fun q => if q.1.length ≤ szL then some (.d (.tup q.1), q.2) else none
def fLst' (fa : AF) : EF := fun env => (fa env).bind fun p => (frzs p.2 p.1).bind fun q => if q.1.length ≤ szL then some (.d (.lst q.1), q.2) else none
theorem re_tup {ta : TA} {fa : AF} (ha : RA ta fa) : RE (tTup ta) (fTup' fa) := fun C env σ H Q rv env' h R k => by
  unfold fTup' at h
  obtain ⟨⟨xs, e1⟩, h1, h⟩ := Option.bind_eq_some_iff.mp h
  obtain ⟨⟨ds, e2⟩, h2, h⟩ := Option.bind_eq_some_iff.mp h
  split at h
  · rename_i hz
    cases h
    refine ha C env σ H _ xs e1 h1 R fun vs H1 R1 s1 g1 r1 => ?_
    obtain ⟨R2, s2, d2⟩ := frzs_ok R1 r1 h2
    refine ⟨by rw [d2.length]; exact szL_le hz, fun p np => ?_⟩
    refine k _ _ (R2.alloc np) (s1.trans s2) ((g1.trans s1 (Grow.refl _ _ _)).trans (s1.trans s2) (Grow.new np)) ?_
    show Dat (MM C e2 σ) (upd H1 p (.tup vs)) (.tup ds) _
    unfold Dat
    exact ⟨p, vs, rfl, R2.fresh np, upd_same, (Grow.new np).dats (Sh.refl _) d2⟩
  · cases h
theorem re_lst {ta : TA} {fa : AF} (ha : RA ta fa) : RE (tLst ta) (fLst' fa) := fun C env σ H Q rv env' h R k => by
  unfold fLst' at h
  obtain ⟨⟨xs, e1⟩, h1, h⟩ := Option.bind_eq_some_iff.mp h
  obtain ⟨⟨ds, e2⟩, h2, h⟩ := Option.bind_eq_some_iff.mp h
  split at h
  · rename_i hz
    cases h
    refine ha C env σ H _ xs e1 h1 R fun vs H1 R1 s1 g1 r1 => ?_
    obtain ⟨R2, s2, d2⟩ := frzs_ok R1 r1 h2
    refine ⟨by rw [d2.length]; exact szL_le hz, fun p np => ?_⟩
    refine k _ _ (R2.alloc np) (s1.trans s2) ((g1.trans s1 (Grow.refl _ _ _)).trans (s1.trans s2) (Grow.new np)) ?_
    show Dat (MM C e2 σ) (upd H1 p (.lst vs)) (.lst ds) _
    unfold Dat
    exact ⟨p, vs, rfl, R2.fresh np, upd_same, (Grow.new np).dats (Sh.refl _) d2⟩
  · cases h
end
end DL

set_option Elab.async false
set_option linter.all false
set_option maxRecDepth 100000
set_option maxHeartbeats 4000000
namespace DL
open PySem L2 PyProof.Rows

section
variable {C : DC} {env env' : DEnv} {σ : L2.St} {H H' : Hp} {v : V} {rv : RV}
theorem val_int (R : Rel C env σ H) (r : RVr C env σ H rv v) {i : Int} (h : val env rv = some (.int i)) : v = .int i := by have q := val_ok R r h; unfold Dat at q; exact q
theorem val_bl (R : Rel C env σ H) (r : RVr C env σ H rv v) {i : Bool} (h : val env rv = some (.bl i)) : v = .bl i := by have q := val_ok R r h; unfold Dat at q; exact q
theorem val_str (R : Rel C env σ H) (r : RVr C env σ H rv v) {i : Str} (h : val env rv = some (.str i)) : v = .str i := by have q := val_ok R r h; unfold Dat at q; exact q
theorem val_non (R : Rel C env σ H) (r : RVr C env σ H rv v) (h : val env rv = some .non) : v = .non := by have q := val_ok R r h; unfold Dat at q; exact q
theorem val_ty (R : Rel C env σ H) (r : RVr C env σ H rv v) {n : String} (h : val env rv = some (.ty n)) : v = .ty n := by have q := val_ok R r h; unfold Dat at q; exact q
theorem val_cls (R : Rel C env σ H) (r : RVr C env σ H rv v) {a : Addr} (h : val env rv = some (.cls a)) : v = .ref a := by have q := val_ok R r h; unfold Dat at q; exact q
theorem val_tup (R : Rel C env σ H) (r : RVr C env σ H rv v) {xs : List Dv} (h : val env rv = some (.tup xs)) : ∃ a vs, v = .ref a ∧ ¬ MM C env σ a ∧ H a = some (.tup vs) ∧ Dats (MM C env σ) H xs vs := by have q := val_ok R r h; unfold Dat at q; exact q
theorem fin_ (R : Rel C env σ H) {Q : VK} {d : Dv} (k : ∀ v H', Rel C env σ H' → Grow env σ H H' → RVr C env σ H' (.d d) v → Q v H') (hd : Dat (MM C env σ) H d v) : Q v H := k v H R (Grow.refl _ _ _) hd
theorem fin_int (R : Rel C env σ H) {Q : VK} {i : Int} (k : ∀ v H', Rel C env σ H' → Grow env σ H H' → RVr C env σ H' (.d (.int i)) v → Q v H') : Q (.int i) H := fin_ R k (by unfold Dat; rfl)
theorem fin_bl (R : Rel C env σ H) {Q : VK} {i : Bool} (k : ∀ v H', Rel C env σ H' → Grow env σ H H' → RVr C env σ H' (.d (.bl i)) v → Q v H') : Q (.bl i) H := fin_ R k (by unfold Dat; rfl)
theorem fin_str (R : Rel C env σ H) {Q : VK} {i : Str} (k : ∀ v H', Rel C env σ H' → Grow env σ H H' → RVr C env σ H' (.d (.str i)) v → Q v H') : Q (.str i) H := fin_ R k (by unfold Dat; rfl)
theorem fin_lst (R : Rel C env σ H) {Q : VK} {xs : List Dv} {vs : List V} (k : ∀ v H', Rel C env σ H' → Grow env σ H H' → RVr C env σ H' (.d (.lst xs)) v → Q v H') (hs : Dats (MM C env σ) H xs vs) : ∀ p, H p = none → Q (.ref p) (upd H p (.lst vs)) := fun p np =>
  k _ _ (R.alloc np) (Grow.new np) (by
    show Dat (MM C env σ) _ (.lst xs) _
    unfold Dat
    exact ⟨p, vs, rfl, R.fresh np, upd_same, (Grow.new np).dats (Sh.refl _) hs⟩)
theorem fin_tup (R : Rel C env σ H) {Q : VK} {xs : List Dv} {vs : List V} (k : ∀ v H', Rel C env σ H' → Grow env σ H H' → RVr C env σ H' (.d (.tup xs)) v → Q v H') (hs : Dats (MM C env σ) H xs vs) : ∀ p, H p = none → Q (.ref p) (upd H p (.tup vs)) := fun p np =>
  k _ _ (R.alloc np) (Grow.new np) (by
    show Dat (MM C env σ) _ (.tup xs) _
    unfold Dat
    exact ⟨p, vs, rfl, R.fresh np, upd_same, (Grow.new np).dats (Sh.refl _) hs⟩)
end
def rOr (r r' : R2) : R2 := fun x y H Q => r x y H Q ∨ r' x y H Q

/-! ### + -/
def rIB : R2 := fun x y H Q => ∃ i k, x = .int i ∧ y = .bl k ∧ Q (.int (i + b2i k)) H
def rSt : R2 := fun x y H Q => ∃ i j, x = .str i ∧ y = .str j ∧ i.length + j.length ≤ sizeLine ∧ Q (.str (i ++ j)) H
def rAddU (K : PySem.W.Frag) : R2 := rOr (rI0 fun i j => .int (i + j)) (rOr rIB (rOr rSt (rOr rCat (rCatA K))))
theorem opAdd {X : Cx} : OpR X (binaryOp .Add) (rAddU X.K) := op_add.or (op_add_ib.or (op_add_str.or (op_cat.or op_catA)))
def gAdd (env : DEnv) (x y : RV) : Option RV := match val env x, val env y with
  | some (.int i), some (.int j) => some (.d (.int (i + j)))
  | some (.int i), some (.bl k) => some (.d (.int (i + b2i k)))
  | some (.str a), some (.str b) => if a.length + b.length ≤ szL then some (.d (.str (a ++ b))) else none
  | some (.tup xs), some (.tup ys) => if xs.length + ys.length ≤ szL then some (.d (.tup (xs ++ ys))) else none
  | _, _ => match seqL env x, seqL env y with
    | some xs, some ys => if xs.length + ys.length ≤ szL then some (.d (.lst (xs ++ ys))) else none
    | _, _ => none
theorem rb_add {K : PySem.W.Frag} : RB (rAddU K) gAdd := fun C env σ H Q x y vx vy z h R rx ry k => by
  unfold gAdd at h
  split at h
  · rename_i i j e1 e2
    cases h
    rw [val_int R rx e1, val_int R ry e2]
    exact .inl ⟨i, j, rfl, rfl, fin_int R k⟩
  · rename_i i j e1 e2
    cases h
    rw [val_int R rx e1, val_bl R ry e2]
    exact .inr (.inl ⟨i, j, rfl, rfl, fin_int R k⟩)
  · rename_i i j e1 e2
    split at h
    · rename_i hz
      cases h
      rw [val_str R rx e1, val_str R ry e2]
      exact .inr (.inr (.inl ⟨i, j, rfl, rfl, szL_le hz, fin_str R k⟩))
    · cases h
  · rename_i xs ys e1 e2
    split at h
    · rename_i hz
      cases h
      obtain ⟨a, vs, rfl, na, ha, hs⟩ := val_tup R rx e1
      obtain ⟨b, ws, rfl, nb, hb, ht⟩ := val_tup R ry e2
      refine .inr (.inr (.inr (.inr ⟨a, b, vs, ws, rfl, rfl, SqT.of ha, SqT.of hb, by rw [hs.length, ht.length]; exact szL_le hz, fun e => ?_, fun _ e => ?_, fun _ _ => fin_tup R k (hs.app ht)⟩)))
      · have e' : xs = [] := by
          have q := hs.length
          rw [e] at q
          exact List.eq_nil_of_length_eq_zero q.symm
        subst e'
        refine fin_ R k ?_
        show Dat _ _ (.tup ys) _
        unfold Dat
        exact ⟨b, ws, rfl, nb, hb, ht⟩
      · have e' : ys = [] := by
          have q := ht.length
          rw [e] at q
          exact List.eq_nil_of_length_eq_zero q.symm
        subst e'
        rw [List.append_nil] at k
        refine fin_ R k ?_
        show Dat _ _ (.tup xs) _
        unfold Dat
        exact ⟨a, vs, rfl, na, ha, hs⟩
    · cases h
  · split at h
    · rename_i xs ys e1 e2
      split at h
      · rename_i hz
        cases h
        obtain ⟨a, vs, rfl, ha, hs⟩ := seqL_ok R rx e1
        obtain ⟨b, ws, rfl, hb, ht⟩ := seqL_ok R ry e2
        exact .inr (.inr (.inr (.inl ⟨a, b, vs, ws, rfl, rfl, ha, hb, by rw [hs.length, ht.length]; exact szL_le hz, fin_lst R k (hs.app ht)⟩)))
      · cases h
    · cases h
/-! ### - * // % ** -/
def gInt (f : Int → Int → Option Int) (env : DEnv) (x y : RV) : Option RV := match val env x, val env y with
  | some (.int i), some (.int j) => (f i j).map fun z => .d (.int z)
  | _, _ => none
theorem rb_int {CC : Int → Int → Prop} {g : Int → Int → Int} {f : Int → Int → Option Int} (hf : ∀ i j z, f i j = some z → CC i j ∧ z = g i j) : RB (rI CC fun i j => .int (g i j)) (gInt f) := fun C env σ H Q x y vx vy z h R rx ry k => by
  unfold gInt at h
  split at h
  · rename_i i j e1 e2
    obtain ⟨w, h1, h⟩ := Option.map_eq_some_iff.mp h
    cases h
    obtain ⟨hc, rfl⟩ := hf i j w h1
    rw [val_int R rx e1, val_int R ry e2]
    exact ⟨i, j, rfl, rfl, hc, fin_int R k⟩
  · cases h
def gMinus := gInt fun i j => some (i - j)
theorem rb_sub : RB (rI0 fun i j => .int (i - j)) gMinus := fun C env σ H Q x y vx vy z h R rx ry k => by
  unfold gMinus gInt at h
  split at h
  · rename_i i j e1 e2
    cases h
    rw [val_int R rx e1, val_int R ry e2]
    exact ⟨i, j, rfl, rfl, fin_int R k⟩
  · cases h
theorem op_fdivX {X : Cx} : OpR X (binaryOp .FloorDiv) (rI (fun _ j => j ≠ 0 ∧ j.natAbs.log2 < 9000) fun i j => .int (i.fdiv j)) := opI fun i j _ _ _ _ _ hc q => floordiv_int hc.1 q (.inl (PyProof.noPylong_of_log2 hc.2))
def gFdiv := gInt fun i j => if j ≠ 0 ∧ j.natAbs.log2 < 9000 then some (i.fdiv j) else none
theorem rb_fdiv : RB (rI (fun _ j => j ≠ 0 ∧ j.natAbs.log2 < 9000) fun i j => .int (i.fdiv j)) gFdiv := rb_int fun i j z h => by
  split at h
  · rename_i hc
    exact ⟨hc, (Option.some.inj h).symm⟩
  · cases h
def gMod := gInt fun i j => if j ≠ 0 then some (i.fmod j) else none
theorem rb_mod : RB (rI (fun _ j => j ≠ 0) fun i j => .int (i.fmod j)) gMod := rb_int fun i j z h => by
  split at h
  · rename_i hc
    exact ⟨hc, (Option.some.inj h).symm⟩
  · cases h
def CPw (i j : Int) : Prop := 0 ≤ j ∧ (Builtin.Int.intBits i : Int) * j ≤ 2 ^ 27
instance (i j : Int) : Decidable (CPw i j) := by unfold CPw; infer_instance
theorem op_powX {X : Cx} : OpR X (binaryOp .Pow) (rI CPw fun i j => .int (i ^ j.toNat)) := opI fun _ _ _ _ _ _ _ hc q => pow_int hc.1 hc.2 q
def gPow := gInt fun i j => if CPw i j then some (i ^ j.toNat) else none
theorem rb_pow : RB (rI CPw fun i j => .int (i ^ j.toNat)) gPow := rb_int fun i j z h => by
  split at h
  · rename_i hc
    exact ⟨hc, (Option.some.inj h).symm⟩
  · cases h
/-- text times a number -/
def rMulS : R2 := fun x y H Q => ∃ z k, x = .str z ∧ y = .int k ∧ MulOk z k ∧ Q (.str (Txt.mul z k)) H
theorem op_mulS {X : Cx} : OpR X (binaryOp .Mult) rMulS := by
  intro pins s σ H x y v u Q I rx ry h
  obtain ⟨z, k, rfl, rfl, hm, q⟩ := h
  obtain ⟨t, rfl⟩ := rx
  obtain ⟨t2, rfl⟩ := ry
  exact PySem.SB.mul hm fun t' k' => ⟨.str (Txt.mul z k), H, I.tok k', ⟨_, rfl⟩, q⟩
/-- a tuple taken once, or not at all -/
def rRepT1 (K : PySem.W.Frag) : R2 := fun x y H Q => ∃ l xs, x = .ref l ∧ y = .int 1 ∧ SqT K H l xs ∧ Q (.ref l) H
def rRepT0 (K : PySem.W.Frag) : R2 := fun x y H Q => ∃ l xs, x = .ref l ∧ y = .int 0 ∧ SqT K H l xs ∧ xs ≠ [] ∧ ∀ p, H p = none → Q (.ref p) (upd H p (.tup []))
theorem tuple_mul1 (l : Addr) (items : Array Value) (n : Nat) (dd : Option Addr) (sl : Array (Option Value)) (u : Tok) :
    Meets (Builtin.«tuple.__mul__» ⟨[.ref l, .int 1 u], []⟩) (fun _ R s => s.heap.get? l = some { cls := .type "tuple", dict := dd, data := .seq items n, slots := sl } ∧ R (.ok (.ret (Value.ref l))) s) :=
  .of_wp fun prog w A R s h => by
    obtain ⟨hp, g, d, tk, os⟩ := s
    obtain ⟨hl, h⟩ := h
    have f1 := AutoSeq1.idx_int
    have c1 : (items.isEmpty || (1 : Int) == 1) = true := by simp
    wp_walk using wpAny_loadPart' hl
    exact ⟨_, rfl, h⟩
theorem tuple_mul0 (l : Addr) (items : Array Value) (n : Nat) (dd : Option Addr) (sl : Array (Option Value)) (u : Tok) (hi : items.isEmpty = false) :
    Meets (Builtin.«tuple.__mul__» ⟨[.ref l, .int 0 u], []⟩) (fun _ R s => s.heap.get? l = some { cls := .type "tuple", dict := dd, data := .seq items n, slots := sl } ∧
      R (.ok (.ret (Value.ref s.heap.objs.size))) { s with heap := s.heap.push { cls := Value.type "tuple", data := Data.seq #[] }, toks := s.toks }) :=
  .of_wp fun prog w A R s h => by
    obtain ⟨hp, g, d, tk, os⟩ := s
    obtain ⟨hl, h⟩ := h
    have f1 := AutoSeq1.idx_int
    have c1 : (items.isEmpty || (0 : Int) == 1) = false := by rw [hi]; rfl
    wp_walk using wpAny_loadPart' hl
    repeat (first
      | (refine wpAny_ite_false (decide_eq_false (by rw [c1]; exact Bool.false_ne_true)) ?_; wp_walk using wpAny_loadPart' hl))
    exact ⟨_, rfl, h⟩
theorem op_repT1 {X : Cx} : OpR X (binaryOp .Mult) (rRepT1 X.K) := by
  intro pins s σ H x y v u Q I rx ry h
  obtain ⟨l, xs, rfl, rfl, hT, q⟩ := h
  cases rx
  obtain ⟨t, rfl⟩ := ry
  obtain ⟨its, r, ⟨⟨cls, dd, data, sl⟩, ho, hc, n, hd⟩, hs⟩ := I.tuple hT
  simp only at hc hd
  subst hc hd
  refine wpAny_binaryOp_repeat_ref (T := "tuple") (U := "int") (by decide) ⟨_, ho, rfl⟩ (fun s' => typeIs_int s' 1 t) noFill_tuple_mul F.fills_int_mul F.slot_int_rmul repeat_tuple F.slot_int_index.lookup
    (call_meets F.slot_int_rmul (typeIs_int s 1 t) F.entry_int_rmul (F.args_int_rmul_2 _ _) (int_rmul_tuple 1 t l its.toArray n dd sl)
      ⟨ho, rfl, ⟨_, ho, rfl⟩, call_meets F.slot_tuple_mul ⟨_, ho, rfl⟩ F.entry_tuple_mul (F.args_tuple_mul_2 _ _) (tuple_mul1 l its.toArray n dd sl t) ⟨ho, ?_⟩⟩)
  exact ⟨.ref l, H, I, rfl, q⟩
theorem op_repT0 {X : Cx} : OpR X (binaryOp .Mult) (rRepT0 X.K) := by
  intro pins s σ H x y v u Q I rx ry h
  obtain ⟨l, xs, rfl, rfl, hT, hne, q⟩ := h
  cases rx
  obtain ⟨t, rfl⟩ := ry
  obtain ⟨its, r, ⟨⟨cls, dd, data, sl⟩, ho, hc, n, hd⟩, hs⟩ := I.tuple hT
  simp only at hc hd
  subst hc hd
  have hi : its.toArray.isEmpty = false := by
    cases its with
    | nil =>
      cases r
      exact absurd rfl hne
    | cons a b => rfl
  refine wpAny_binaryOp_repeat_ref (T := "tuple") (U := "int") (by decide) ⟨_, ho, rfl⟩ (fun s' => typeIs_int s' 0 t) noFill_tuple_mul F.fills_int_mul F.slot_int_rmul repeat_tuple F.slot_int_index.lookup
    (call_meets F.slot_int_rmul (typeIs_int s 0 t) F.entry_int_rmul (F.args_int_rmul_2 _ _) (int_rmul_tuple 0 t l its.toArray n dd sl)
      ⟨ho, rfl, ⟨_, ho, rfl⟩, call_meets F.slot_tuple_mul ⟨_, ho, rfl⟩ F.entry_tuple_mul (F.args_tuple_mul_2 _ _) (tuple_mul0 l its.toArray n dd sl t hi) ⟨ho, ?_⟩⟩)
  refine ⟨.ref s.heap.objs.size, _, I.laid (t' := s.toks) (o := .tup []) (fun b ob q => Heap.get?_push_of_some _ q) (Nat.le_refl _) ?_, rfl, q _ (I.hok.fresh (Nat.le_refl _))⟩
  exact ⟨by rw [sizeLine_eq]; decide, [], .nil, IsTup.new _ _⟩
def rMulU (K : PySem.W.Frag) : R2 := rOr (rI CMulW fun i j => .int (i * j)) (rOr rMulS (rOr rRep (rOr (rRepT1 K) (rOr (rRepT0 K) (rRepT K)))))
theorem opMul {X : Cx} : OpR X (binaryOp .Mult) (rMulU X.K) := op_mulW.or (op_mulS.or (op_rep.or (op_repT1.or (op_repT0.or op_repT))))
instance (i j : Int) : Decidable (CMulW i j) := by unfold CMulW; infer_instance
def mulC1 (a : Nat) (j : Int) : Prop := j ≤ 16000000 ∧ a ≤ 16000000 ∧ -1000 ≤ j ∧ a * j.toNat ≤ 16000000
def mulC2 (xs : List Dv) (j : Int) : Prop := 0 ≤ j ∧ j ≤ 1000 ∧ xs.length ≤ 1000 ∧ xs ≠ []
def mulC3 (n : Nat) (j : Int) : Prop := -1000 ≤ j ∧ j ≤ 16000000 ∧ n * j.toNat ≤ szL
noncomputable instance (a : Nat) (j : Int) : Decidable (mulC1 a j) := Classical.propDecidable _
noncomputable instance (xs : List Dv) (j : Int) : Decidable (mulC2 xs j) := Classical.propDecidable _
noncomputable instance (n : Nat) (j : Int) : Decidable (mulC3 n j) := Classical.propDecidable _
noncomputable def gMul (env : DEnv) (x y : RV) : Option RV := match val env y with
  | some (.int j) => match val env x with
    | some (.int i) => if CMulW i j then some (.d (.int (i * j))) else none
    | some (.str a) => if mulC1 a.length j then some (.d (.str (Txt.mul a j))) else none
    | some (.tup xs) => if mulC2 xs j then some (.d (.tup (List.replicate j.toNat xs).flatten)) else none
    | _ => (seqL env x).bind fun xs => if mulC3 xs.length j then some (.d (.lst (List.replicate j.toNat xs).flatten)) else none
  | _ => none
theorem mulOk_len {x : Str} {n : Int} (h1 : n ≤ 16000000) (h2 : x.length ≤ 16000000) (h3 : -1000 ≤ n) (h4 : x.length * n.toNat ≤ 16000000) : MulOk x n := by
  refine ⟨?_, fun a b => ?_, fun a b => ?_⟩
  · rw [decide_eq_false (by omega), decide_eq_false (by omega)]
    rfl
  · have e : ((x.length : Nat) : Int) * n ≤ 16000000 := by
      have q : (((x.length * n.toNat : Nat)) : Int) ≤ 16000000 := by omega
      rw [Int.natCast_mul, Int.toNat_of_nonneg (by omega)] at q
      exact q
    have hn : 0 < n := by omega
    intro z
    have z2 : (2 ^ 63 - 1) / n < (x.length : Int) := z
    have z3 : (2 ^ 63 - 1 : Int) < (x.length : Int) * n := (Int.ediv_lt_iff_lt_mul hn).mp z2
    omega
  · unfold Builtin.Str.tooLong
    rw [sizeLine_eq]
    exact decide_eq_false (by omega)
theorem rb_mul {K : PySem.W.Frag} : RB (rMulU K) gMul := fun C env σ H Q x y vx vy z h R rx ry k => by
  unfold gMul at h
  split at h
  · rename_i j e2
    split at h
    · rename_i i e1
      split at h
      · rename_i hc
        cases h
        rw [val_int R rx e1, val_int R ry e2]
        exact .inl ⟨i, j, rfl, rfl, hc, fin_int R k⟩
      · cases h
    · rename_i i e1
      split at h
      · rename_i hc
        cases h
        rw [val_str R rx e1, val_int R ry e2]
        exact .inr (.inl ⟨i, j, rfl, rfl, mulOk_len hc.1 hc.2.1 hc.2.2.1 hc.2.2.2, fin_str R k⟩)
      · cases h
    · rename_i xs e1
      split at h
      · rename_i hc
        cases h
        obtain ⟨a, vs, rfl, na, ha, hs⟩ := val_tup R rx e1
        rw [val_int R ry e2]
        have hne : vs ≠ [] := fun e => hc.2.2.2 (by
          have q := hs.length
          rw [e] at q
          exact List.eq_nil_of_length_eq_zero q.symm)
        by_cases j0 : j = 0
        · subst j0
          exact .inr (.inr (.inr (.inr (.inl ⟨a, vs, rfl, rfl, SqT.of ha, hne, fin_tup R k .nil⟩))))
        · by_cases j1 : j = 1
          · subst j1
            refine .inr (.inr (.inr (.inl ⟨a, vs, rfl, rfl, SqT.of ha, fin_ R k ?_⟩)))
            have e : (List.replicate (1 : Int).toNat xs).flatten = xs := by simp
            rw [e]
            unfold Dat
            exact ⟨a, vs, rfl, na, ha, hs⟩
          · exact .inr (.inr (.inr (.inr (.inr ⟨a, j, vs, rfl, rfl, SqT.of ha, hne, by have := hc.1; omega, hc.2.1, by rw [hs.length]; exact hc.2.2.1, fin_tup R k (hs.rep _)⟩))))
      · cases h
    · obtain ⟨xs, e1, h⟩ := Option.bind_eq_some_iff.mp h
      split at h
      · rename_i hc
        cases h
        obtain ⟨a, vs, rfl, ha, hs⟩ := seqL_ok R rx e1
        rw [val_int R ry e2]
        have hc1 : -1000 ≤ j := hc.1
        have hc2 : j ≤ 16000000 := hc.2.1
        exact .inr (.inr (.inl ⟨a, j, vs, rfl, rfl, ha, by omega, by omega, by rw [hs.length]; exact szL_le hc.2.2, fin_lst R k (hs.rep _)⟩))
      · cases h
  · cases h
end DL

set_option Elab.async false
set_option linter.all false
set_option maxRecDepth 100000
set_option maxHeartbeats 4000000
namespace DL
open PySem L2 PyProof.Rows

/-! ### == -/
mutual
def py : Dv → PyData
  | .non => .none
  | .bl b => .bool b
  | .int i => .int i
  | .str s => .str s
  | .lst xs => .list (pys xs)
  | .tup xs => .tuple (pys xs)
  | _ => .dict []
def pys : List Dv → List PyData
  | [] => []
  | d :: ds => py d :: pys ds
end
section
variable {K : PySem.W.Frag} {M : Addr → Prop} {H : Hp}
mutual
theorem dp_of : ∀ (d : Dv) (v : V), (py d).canLay0 = true → Dat M H d v → Dp K H v (py d)
  | .non, v, _, h => by
    unfold Dat at h
    subst h
    exact .non
  | .bl b, v, _, h => by
    unfold Dat at h
    subst h
    exact .bl b
  | .int b, v, _, h => by
    unfold Dat at h
    subst h
    exact .int b
  | .str b, v, _, h => by
    unfold Dat at h
    subst h
    exact .str b
  | .lst xs, v, c, h => by
    unfold Dat at h
    obtain ⟨a, vs, rfl, _, ha, hs⟩ := h
    exact .lst (SqL.of ha) (dps_of xs vs (by unfold py PyData.canLay0 at c; exact c) hs)
  | .tup xs, v, c, h => by
    unfold Dat at h
    obtain ⟨a, vs, rfl, _, ha, hs⟩ := h
    exact .tup (SqT.of ha) (dps_of xs vs (by unfold py PyData.canLay0 at c; exact c) hs)
  | .ins _ _ _, v, c, h => by
    unfold py PyData.canLay0 at c
    cases c
  | .ty _, v, c, h => by
    unfold py PyData.canLay0 at c
    cases c
  | .cls _, v, c, h => by
    unfold py PyData.canLay0 at c
    cases c
  | .anyS, v, c, h => by
    unfold py PyData.canLay0 at c
    cases c
  | .scr _ _, v, c, h => by
    unfold py PyData.canLay0 at c
    cases c
theorem dps_of : ∀ (ds : List Dv) (vs : List V), PyData.canLayAll0 (pys ds) = true → Dats M H ds vs → DpAll K H vs (pys ds)
  | [], vs, _, h => by
    unfold Dats at h
    subst h
    exact .nil
  | d :: ds, vs, c, h => by
    unfold Dats at h
    obtain ⟨v, r, rfl, h1, h2⟩ := h
    unfold pys PyData.canLayAll0 at c
    rw [Bool.and_eq_true] at c
    exact .cons (dp_of d v c.1 h1) (dps_of ds r c.2 h2)
end
end
def eqC (d e : Dv) : Bool := SeqAt.shaped (py d) && SeqAt.shaped (py e)
def rEqU (K : PySem.W.Frag) : R2 := rOr rEq (rEqD K)
def rNeU (K : PySem.W.Frag) : R2 := rOr rNe (rNeD K)
theorem opEqU {X : Cx} (hu : X.A.units + 64 < cLine) : OpR X (compareOp .Eq) (rEqU X.K) := op_eq.or (op_eqD hu)
theorem opNeU {X : Cx} (hu : X.A.units + 64 < cLine) : OpR X (compareOp .NotEq) (rNeU X.K) := op_ne.or (op_neD hu)
def gEq (env : DEnv) (x y : RV) : Option RV := match look env x, look env y with
  | some (.str i), some (.str j) => some (.d (.bl (i == j)))
  | some d, some e => if eqC d e = true then some (.d (.bl (PyData.eqv (py d) (py e)))) else none
  | _, _ => none
def gNe (env : DEnv) (x y : RV) : Option RV := match look env x, look env y with
  | some (.str i), some (.str j) => some (.d (.bl (!(i == j))))
  | some d, some e => if eqC d e = true then some (.d (.bl (!PyData.eqv (py d) (py e)))) else none
  | _, _ => none
theorem str_eq (i j : Str) : (i == j) = decide (V.str i = V.str j) := by
  rw [Bool.eq_iff_iff]
  simp
theorem rb_eq {K : PySem.W.Frag} : RB (rEqU K) gEq := fun C env σ H Q x y vx vy z h R rx ry k => by
  unfold gEq at h
  split at h
  · rename_i i j e1 e2
    cases h
    have q1 := look_ok R rx e1
    have q2 := look_ok R ry e2
    unfold Dat at q1 q2
    subst q1 q2
    refine .inl ⟨rfl, ?_⟩
    rw [← str_eq]
    exact fin_bl R k
  · rename_i d e _ e1 e2
    split at h
    · rename_i hc
      cases h
      unfold eqC at hc
      rw [Bool.and_eq_true] at hc
      exact .inr ⟨_, _, dp_of d vx (SeqAt.canLay_of_shaped hc.1) (look_ok R rx e1), dp_of e vy (SeqAt.canLay_of_shaped hc.2) (look_ok R ry e2), hc.1, hc.2, fin_bl R k⟩
    · cases h
  · cases h
theorem rb_ne {K : PySem.W.Frag} : RB (rNeU K) gNe := fun C env σ H Q x y vx vy z h R rx ry k => by
  unfold gNe at h
  split at h
  · rename_i i j e1 e2
    cases h
    have q1 := look_ok R rx e1
    have q2 := look_ok R ry e2
    unfold Dat at q1 q2
    subst q1 q2
    refine .inl ⟨rfl, ?_⟩
    show Q (.bl (!decide (V.str i = V.str j))) H
    rw [← str_eq]
    exact fin_bl R k
  · rename_i d e _ e1 e2
    split at h
    · rename_i hc
      cases h
      unfold eqC at hc
      rw [Bool.and_eq_true] at hc
      exact .inr ⟨_, _, dp_of d vx (SeqAt.canLay_of_shaped hc.1) (look_ok R rx e1), dp_of e vy (SeqAt.canLay_of_shaped hc.2) (look_ok R ry e2), hc.1, hc.2, fin_bl R k⟩
    · cases h
  · cases h
/-! ### < <= > >= -/
def gCmp (f : Int → Int → Bool) (g : Str → Str → Bool) (env : DEnv) (x y : RV) : Option RV := match val env x, val env y with
  | some (.int i), some (.int j) => some (.d (.bl (f i j)))
  | some (.str i), some (.str j) => some (.d (.bl (g i j)))
  | _, _ => none
def rCmpU (f : Int → Int → Bool) (g : Str → Str → Bool) : R2 := rOr (rI0 fun i j => .bl (f i j)) (fun x y H Q => ∃ i j, x = .str i ∧ y = .str j ∧ Q (.bl (g i j)) H)
theorem rb_cmp {f : Int → Int → Bool} {g : Str → Str → Bool} : RB (rCmpU f g) (gCmp f g) := fun C env σ H Q x y vx vy z h R rx ry k => by
  unfold gCmp at h
  split at h
  · rename_i i j e1 e2
    cases h
    rw [val_int R rx e1, val_int R ry e2]
    exact .inl ⟨i, j, rfl, rfl, fin_bl R k⟩
  · rename_i i j e1 e2
    cases h
    rw [val_str R rx e1, val_str R ry e2]
    exact .inr ⟨i, j, rfl, rfl, fin_bl R k⟩
  · cases h
def ltS (i j : Str) : Bool := decide (i.cps.toList < j.cps.toList)
def leS (i j : Str) : Bool := !decide (j.cps.toList < i.cps.toList)
def gtS (i j : Str) : Bool := decide (j.cps.toList < i.cps.toList)
def geS (i j : Str) : Bool := !decide (i.cps.toList < j.cps.toList)
def ltI (i j : Int) : Bool := decide (i < j)
def leI (i j : Int) : Bool := decide (i ≤ j)
def gtI (i j : Int) : Bool := decide (j < i)
def geI (i j : Int) : Bool := decide (j ≤ i)
def gLt := gCmp ltI ltS
def gLe := gCmp leI leS
def gGt := gCmp gtI gtS
def gGe := gCmp geI geS
section
variable {X : Cx}
theorem opLt : OpR X (compareOp .Lt) (rCmpU ltI ltS) := op_lt.or op_lt_str
theorem opLe : OpR X (compareOp .LtE) (rCmpU leI leS) := op_le.or op_le_str
theorem opGt : OpR X (compareOp .Gt) (rCmpU gtI gtS) := op_gt.or op_gt_str
theorem opGe : OpR X (compareOp .GtE) (rCmpU geI geS) := op_ge.or op_ge_str
end
theorem rb_lt : RB (rCmpU ltI ltS) gLt := rb_cmp
theorem rb_le : RB (rCmpU leI leS) gLe := rb_cmp
theorem rb_gt : RB (rCmpU gtI gtS) gGt := rb_cmp
theorem rb_ge : RB (rCmpU geI geS) gGe := rb_cmp
/-! ### is, is not -/
def isNon : Dv → Bool
  | .non => true
  | _ => false
theorem isNon_ok {M : Addr → Prop} {H : Hp} {d : Dv} {v : V} (h : Dat M H d v) : decide (v = .non) = isNon d := by
  cases d <;> unfold Dat at h
  case non => subst h; rfl
  case bl b => subst h; rfl
  case int b => subst h; rfl
  case str b => subst h; rfl
  case ty b => subst h; rfl
  case cls b => subst h; rfl
  case anyS => obtain ⟨x, rfl⟩ := h; rfl
  case scr K ns => obtain ⟨x, rfl, _⟩ := h; rfl
  case lst xs => obtain ⟨a, vs, rfl, _⟩ := h; rfl
  case tup xs => obtain ⟨a, vs, rfl, _⟩ := h; rfl
  case ins C ns ds => obtain ⟨a, dx, vs, rfl, _⟩ := h; rfl
def rIsU : R2 := rOr (fun x y H Q => y = .non ∧ Q (.bl (decide (x = .non))) H) rIsB
def rNotU : R2 := rOr (fun x y H Q => y = .non ∧ Q (.bl (!decide (x = .non))) H) rNotB
theorem opIs {X : Cx} : OpR X (compareOp .Is) rIsU := op_isN.or op_isBl
theorem opNot {X : Cx} : OpR X (compareOp .IsNot) rNotU := op_notN.or op_notBl
def gIs (n : Bool) (env : DEnv) (x y : RV) : Option RV := match val env y with
  | some .non => (look env x).map fun d => .d (.bl (n ^^ isNon d))
  | some (.bl b) => match val env x with
    | some (.bl a) => some (.d (.bl (n ^^ (a == b))))
    | _ => none
  | _ => none
theorem rb_is : RB rIsU (gIs false) := fun C env σ H Q x y vx vy z h R rx ry k => by
  unfold gIs at h
  split at h
  · rename_i e2
    obtain ⟨d, e1, h⟩ := Option.map_eq_some_iff.mp h
    cases h
    rw [val_non R ry e2]
    refine .inl ⟨rfl, ?_⟩
    rw [isNon_ok (look_ok R rx e1)]
    rw [Bool.false_xor] at k
    exact fin_bl R k
  · rename_i b e2
    split at h
    · rename_i a e1
      cases h
      rw [val_bl R rx e1, val_bl R ry e2]
      refine .inr ⟨a, b, rfl, rfl, ?_⟩
      rw [Bool.false_xor, Bool.beq_eq_decide_eq] at k
      exact fin_bl R k
    · cases h
  · cases h
theorem rb_isnot : RB rNotU (gIs true) := fun C env σ H Q x y vx vy z h R rx ry k => by
  unfold gIs at h
  split at h
  · rename_i e2
    obtain ⟨d, e1, h⟩ := Option.map_eq_some_iff.mp h
    cases h
    rw [val_non R ry e2]
    refine .inl ⟨rfl, ?_⟩
    rw [isNon_ok (look_ok R rx e1)]
    rw [Bool.true_xor] at k
    exact fin_bl R k
  · rename_i b e2
    split at h
    · rename_i a e1
      cases h
      rw [val_bl R rx e1, val_bl R ry e2]
      refine .inr ⟨a, b, rfl, rfl, ?_⟩
      rw [Bool.true_xor, Bool.beq_eq_decide_eq] at k
      exact fin_bl R k
    · cases h
  · cases h
/-! ### x[i] -/
def gIx (env : DEnv) (x y : RV) : Option RV := match val env y with
  | some (.int i) => match val env x with
    | some (.tup xs) => (atI xs i).map RV.d
    | some (.str s) => if s.length ≤ szL then (atI s.cps.toList i).map fun c => .d (.str ⟨#[c]⟩) else none
    | _ => (seqL env x).bind fun xs => (atI xs i).map RV.d
  | _ => none
theorem Dats.at {M : Addr → Prop} {H : Hp} {xs : List Dv} {vs : List V} {i : Int} {d : Dv} (h : Dats M H xs vs) (e : atI xs i = some d) : ∃ v, atI vs i = some v ∧ Dat M H d v := by
  unfold atI at e ⊢
  rw [h.length]
  obtain ⟨j, h1, h2⟩ := Option.bind_eq_some_iff.mp e
  obtain ⟨v, h3, h4⟩ := h.get h2
  exact ⟨v, by rw [h1]; exact h3, h4⟩
theorem rb_ix {K : PySem.W.Frag} : RB (rIx K) gIx := fun C env σ H Q x y vx vy z h R rx ry k => by
  unfold gIx at h
  split at h
  · rename_i i e2
    rw [val_int R ry e2]
    split at h
    · rename_i xs e1
      obtain ⟨d, h1, h⟩ := Option.map_eq_some_iff.mp h
      cases h
      obtain ⟨a, vs, rfl, na, ha, hs⟩ := val_tup R rx e1
      obtain ⟨w, h3, h4⟩ := hs.at h1
      exact .inr (.inl ⟨a, vs, i, w, rfl, rfl, SqT.of ha, h3, fin_ R k h4⟩)
    · rename_i s e1
      split at h
      · rename_i hz
        obtain ⟨d, h1, h⟩ := Option.map_eq_some_iff.mp h
        cases h
        rw [val_str R rx e1]
        exact .inr (.inr ⟨s, i, d, rfl, rfl, szL_le hz, h1, fin_str R k⟩)
      · cases h
    · obtain ⟨xs, e1, h⟩ := Option.bind_eq_some_iff.mp h
      obtain ⟨d, h1, h⟩ := Option.map_eq_some_iff.mp h
      cases h
      obtain ⟨a, vs, rfl, ha, hs⟩ := seqL_ok R rx e1
      obtain ⟨w, h3, h4⟩ := hs.at h1
      exact .inl ⟨a, vs, i, w, rfl, rfl, SqL.of ha, h3, fin_ R k h4⟩
  · cases h
/-! ### x[i:j] -/
def RO (t : TO) (f : DEnv → Option (Option Int × DEnv)) : Prop := ∀ (C : DC) (env : DEnv) (σ : L2.St) (H : Hp) (Q : Option Int → Hp → Prop) (o : Option Int) (env' : DEnv), f env = some (o, env') → Rel C env σ H →
  (∀ H', Rel C env' σ H' → Sh env env' → Grow env σ H H' → Q o H') → t σ H Q
def fNoPart : DEnv → Option (Option Int × DEnv) := fun env => some (none, env)
def asI (env : DEnv) (rv : RV) : Option Int := match val env rv with
  | some (.int i) => some i
  | _ => none
theorem asI_ok {C : DC} {env : DEnv} {σ : L2.St} {H : Hp} {rv : RV} {v : V} (R : Rel C env σ H) (r : RVr C env σ H rv v) {i : Int} (h : asI env rv = some i) : v = .int i := by
  unfold asI at h
  split at h
  · rename_i e
    cases h
    exact val_int R r e
  · cases h
def fPart (fa : EF) : DEnv → Option (Option Int × DEnv) := fun env => (fa env).bind fun p => (asI p.2 p.1).map fun i => (some i, p.2)
theorem ro_none : RO tNoPart fNoPart := fun C env σ H Q o env' h R k => by
  cases h
  exact k H R (Sh.refl _) (Grow.refl _ _ _)
theorem ro_some {ta : TE} {fa : EF} (ha : RE ta fa) : RO (tPart ta) (fPart fa) := fun C env σ H Q o env' h R k => by
  unfold fPart at h
  obtain ⟨⟨x, e1⟩, h1, h⟩ := Option.bind_eq_some_iff.mp h
  obtain ⟨i, h3, h⟩ := Option.map_eq_some_iff.mp h
  cases h
  exact ha C env σ H _ x e1 h1 R fun vx H1 R1 s1 g1 r1 => ⟨i, asI_ok R1 r1 h3, k H1 R1 s1 g1⟩
def cut {α : Type} (xs : List α) (lo hi : Option Int) : List α := (xs.drop (HT.sIx xs.length 0 lo)).take (HT.sIx xs.length xs.length hi - HT.sIx xs.length 0 lo)
theorem Dats.cut {M : Addr → Prop} {H : Hp} {xs : List Dv} {vs : List V} (h : Dats M H xs vs) (lo hi : Option Int) : Dats M H (cut xs lo hi) (cutV vs lo hi) := by
  unfold DL.cut cutV
  rw [h.length]
  exact (h.drop _).take _
def rSlU (K : PySem.W.Frag) : V → Option Int → Option Int → Hp → VK → Prop := fun x lo hi H Q => rSlL K x lo hi H Q ∨ (rSlS x lo hi H Q ∨ rSlA K x lo hi H Q)
theorem slU {X : Cx} : SlR X (rSlU X.K) := sl_list.or (sl_str.or sl_tupA)
def gSl (env : DEnv) (x : RV) (lo hi : Option Int) : Option RV := match val env x with
  | some (.tup xs) => some (.d (.tup (cut xs lo hi)))
  | some (.str s) => if s.length ≤ szL then some (.d (.str (cutS s lo hi))) else none
  | _ => (seqL env x).map fun xs => .d (.lst (cut xs lo hi))
def fSl (fa : EF) (fl fh : DEnv → Option (Option Int × DEnv)) : EF := fun env => (fa env).bind fun p => (fl p.2).bind fun q => (fh q.2).bind fun r => (gSl r.2 p.1 q.1 r.1).map fun z => (z, r.2)
theorem re_sl {K : PySem.W.Frag} {ta : TE} {fa : EF} {tl th : TO} {fl fh : DEnv → Option (Option Int × DEnv)} (ha : RE ta fa) (hl : RO tl fl) (hh : RO th fh) : RE (tSl (rSlU K) ta tl th) (fSl fa fl fh) := fun C env σ H Q rv env' h R k => by
  unfold fSl at h
  obtain ⟨⟨x, e1⟩, h1, h⟩ := Option.bind_eq_some_iff.mp h
  obtain ⟨⟨lo, e2⟩, h2, h⟩ := Option.bind_eq_some_iff.mp h
  obtain ⟨⟨hi, e3⟩, h3, h⟩ := Option.bind_eq_some_iff.mp h
  obtain ⟨z, h4, h⟩ := Option.map_eq_some_iff.mp h
  cases h
  refine ha C env σ H _ x e1 h1 R fun vx H1 R1 s1 g1 r1 => ?_
  refine hl C e1 σ H1 _ lo e2 h2 R1 fun H2 R2 s2 g2 => ?_
  refine hh C e2 σ H2 _ hi e3 h3 R2 fun H3 R3 s3 g3 => ?_
  have r3 : RVr C e3 σ H3 x vx := (r1.step s2 g2).step s3 g3
  have ss := (s1.trans s2).trans s3
  have gg := (g1.trans s1 g2).trans (s1.trans s2) g3
  have k' : ∀ v H', Rel C e3 σ H' → Grow e3 σ H3 H' → RVr C e3 σ H' rv v → Q v H' := fun v H' R' g' r' => k v H' R' ss (gg.trans ss g') r'
  clear k
  unfold gSl at h4
  simp only at h4
  split at h4
  · rename_i xs q
    cases h4
    obtain ⟨a, vs, rfl, na, hha, hs⟩ := val_tup R3 r3 q
    refine .inr (.inr ⟨a, vs, rfl, SqT.of hha, fun w => ?_, fun _ => fin_tup R3 k' (hs.cut lo hi)⟩)
    refine fin_ R3 k' ?_
    have e : DL.cut xs lo hi = xs := by
      unfold DL.cut
      rw [← hs.length, w.1, w.2, List.drop_zero, Nat.sub_zero, List.take_of_length_le (by rw [hs.length]; exact Nat.le_refl _)]
    rw [e]
    unfold Dat
    exact ⟨a, vs, rfl, na, hha, hs⟩
  · rename_i s q
    split at h4
    · rename_i hz
      cases h4
      rw [val_str R3 r3 q]
      exact .inr (.inl ⟨s, rfl, szL_le hz, fin_str R3 k'⟩)
    · cases h4
  · obtain ⟨xs, q, h4⟩ := Option.map_eq_some_iff.mp h4
    cases h4
    obtain ⟨a, vs, rfl, hha, hs⟩ := seqL_ok R3 r3 q
    exact .inl ⟨a, vs, rfl, SqL.of hha, fin_lst R3 k' (hs.cut lo hi)⟩
/-! ### -x -/
def gNeg (env : DEnv) (x : RV) : Option RV := (asI env x).map fun i => .d (.int (-i))
theorem ru_neg : RU (rU fun i => .int (-i)) gNeg := fun C env σ H Q x vx z h R rx k => by
  unfold gNeg at h
  obtain ⟨i, h1, h⟩ := Option.map_eq_some_iff.mp h
  cases h
  rw [asI_ok R rx h1]
  exact ⟨i, rfl, fin_int R k⟩
/-! ### chains -/
def fChain (g g' : DEnv → RV → RV → Option RV) (fa fb fc : EF) : EF := fun env => (fa env).bind fun p => (fb p.2).bind fun q => (g q.2 p.1 q.1).bind fun z => (asB q.2 z).bind fun b =>
  if b = true then (fc q.2).bind fun r => (g' r.2 q.1 r.1).map fun z => (z, r.2) else some (.d (.bl false), q.2)
end DL

set_option Elab.async false
set_option linter.all false
set_option maxRecDepth 100000
set_option maxHeartbeats 4000000
namespace DL
open PySem L2 PyProof.Rows

theorem re_chain {r r' : R2} {g g' : DEnv → RV → RV → Option RV} {ta tb tc : TE} {fa fb fc : EF} (hr : RB r g) (hr' : RB r' g') (ha : RE ta fa) (hb : RE tb fb) (hc : RE tc fc) : RE (tChain r r' ta tb tc) (fChain g g' fa fb fc) := fun C env σ H Q rv env' h R k => by
  unfold fChain at h
  obtain ⟨⟨x, e1⟩, h1, h⟩ := Option.bind_eq_some_iff.mp h
  obtain ⟨⟨y, e2⟩, h2, h⟩ := Option.bind_eq_some_iff.mp h
  obtain ⟨z, h3, h⟩ := Option.bind_eq_some_iff.mp h
  obtain ⟨b, h4, h⟩ := Option.bind_eq_some_iff.mp h
  refine ha C env σ H _ x e1 h1 R fun vx H1 R1 s1 g1 r1 => ?_
  refine hb C e1 σ H1 _ y e2 h2 R1 fun vy H2 R2 s2 g2 r2 => ?_
  refine hr C e2 σ H2 _ x y vx vy z h3 R2 (r1.step s2 g2) r2 fun v H3 R3 g3 r3 => ⟨b, asB_ok R3 r3 h4, ?_⟩
  have gg := (g1.trans s1 g2).trans (s1.trans s2) g3
  cases b with
  | false =>
    cases h
    exact k _ H3 R3 (s1.trans s2) gg (show Dat (MM C e2 σ) H3 (.bl false) _ by unfold Dat; rfl)
  | true =>
    obtain ⟨⟨u, e4⟩, h5, h⟩ := Option.bind_eq_some_iff.mp h
    obtain ⟨z', h6, h⟩ := Option.map_eq_some_iff.mp h
    cases h
    refine hc C e2 σ H3 _ u e4 h5 R3 fun vu H4 R4 s4 g4 r4 => ?_
    exact hr' C e4 σ H4 _ y u vy vu _ h6 R4 ((r2.step (Sh.refl _) g3).step s4 g4) r4 fun v H5 R5 g5 r5 => k v H5 R5 ((s1.trans s2).trans s4) ((gg.trans (s1.trans s2) g4).trans ((s1.trans s2).trans s4) g5) r5

/-! ### calls of built-in functions on values -/
theorem rvs1 {C : DC} {env : DEnv} {σ : L2.St} {H : Hp} {x : RV} {vs : List V} (h : RVs C env σ H [x] vs) : ∃ v, vs = [v] ∧ RVr C env σ H x v := by
  obtain ⟨v, ws, rfl, h1, h2⟩ := h
  have h2 : ws = [] := h2
  exact ⟨v, by rw [h2], h1⟩
theorem rvs2 {C : DC} {env : DEnv} {σ : L2.St} {H : Hp} {x y : RV} {vs : List V} (h : RVs C env σ H [x, y] vs) : ∃ v w, vs = [v, w] ∧ RVr C env σ H x v ∧ RVr C env σ H y w := by
  obtain ⟨v, ws, rfl, h1, h2⟩ := h
  obtain ⟨w, rfl, h3⟩ := rvs1 h2
  exact ⟨v, w, rfl, h1, h3⟩
def g1 (f : DEnv → RV → Option RV) (env : DEnv) : List RV → Option RV
  | [x] => f env x
  | _ => none
def g2 (f : DEnv → RV → RV → Option RV) (env : DEnv) : List RV → Option RV
  | [x, y] => f env x y
  | _ => none
theorem rc_1 {r : List V → Hp → VK → Prop} {f : DEnv → RV → Option RV} (h : RU (fun v => r [v]) f) : RC r (g1 f) := fun C env σ H Q xs vs z e R rs k => by
  match xs, e with
  | [x], e =>
    obtain ⟨v, rfl, r1⟩ := rvs1 rs
    exact h C env σ H Q x v z e R r1 k
theorem rc_2 {r : List V → Hp → VK → Prop} {f : DEnv → RV → RV → Option RV} (h : RB (fun v w => r [v, w]) f) : RC r (g2 f) := fun C env σ H Q xs vs z e R rs k => by
  match xs, e with
  | [x, y], e =>
    obtain ⟨v, w, rfl, r1, r2⟩ := rvs2 rs
    exact h C env σ H Q x y v w z e R r1 r2 k
/-- len -/
def gLen (env : DEnv) (x : RV) : Option RV := match val env x with
  | some (.str s) => if s.length ≤ szL then some (.d (.int s.length)) else none
  | some (.tup xs) => some (.d (.int xs.length))
  | _ => (seqL env x).map fun xs => .d (.int xs.length)
def rLen (K : PySem.W.Frag) : List V → Hp → VK → Prop := fun xs H Q => ∃ x n, xs = [x] ∧ LenV K x H n ∧ Q (.int (n : Nat)) H
theorem rc_len {K : PySem.W.Frag} : RC (rLen K) (g1 gLen) := rc_1 fun C env σ H Q x v z h R r k => by
  unfold gLen at h
  split at h
  · rename_i s e
    split at h
    · rename_i hz
      cases h
      rw [val_str R r e]
      exact ⟨_, s.length, rfl, ⟨szL_le hz, rfl⟩, fin_int R k⟩
    · cases h
  · rename_i xs e
    cases h
    obtain ⟨a, vs, rfl, na, ha, hs⟩ := val_tup R r e
    exact ⟨_, xs.length, rfl, .inr ⟨vs, SqT.of ha, hs.length.symm⟩, fin_int R k⟩
  · obtain ⟨xs, e, h⟩ := Option.map_eq_some_iff.mp h
    cases h
    obtain ⟨a, vs, rfl, ha, hs⟩ := seqL_ok R r e
    exact ⟨_, xs.length, rfl, .inl ⟨vs, SqL.of ha, hs.length.symm⟩, fin_int R k⟩
/-- int(n), int(flag) -/
def gInt1 (env : DEnv) (x : RV) : Option RV := match val env x with
  | some (.int i) => some (.d (.int i))
  | some (.bl b) => some (.d (.int (if b then 1 else 0)))
  | _ => none
def rInt1 : List V → Hp → VK → Prop := fun xs H Q => (∃ i, xs = [.int i] ∧ Q (.int i) H) ∨ ∃ k : Bool, xs = [.bl k] ∧ Q (.int (if k then 1 else 0)) H
theorem rc_int : RC rInt1 (g1 gInt1) := rc_1 fun C env σ H Q x v z h R r k => by
  unfold gInt1 at h
  split at h
  · rename_i i e
    cases h
    rw [val_int R r e]
    exact .inl ⟨i, rfl, fin_int R k⟩
  · rename_i i e
    cases h
    rw [val_bl R r e]
    exact .inr ⟨i, rfl, fin_int R k⟩
  · cases h
def gI1 (f : Int → Int) (env : DEnv) (x : RV) : Option RV := (asI env x).map fun i => .d (.int (f i))
theorem rc_i1 {f : Int → Int} : RC (fun xs H Q => ∃ i, xs = [.int i] ∧ Q (.int (f i)) H) (g1 (gI1 f)) := rc_1 fun C env σ H Q x v z h R r k => by
  unfold gI1 at h
  obtain ⟨i, e, h⟩ := Option.map_eq_some_iff.mp h
  cases h
  rw [asI_ok R r e]
  exact ⟨i, rfl, fin_int R k⟩
def gI2 (f : Int → Int → Int) (env : DEnv) (x y : RV) : Option RV := match val env x, val env y with
  | some (.int i), some (.int j) => some (.d (.int (f i j)))
  | _, _ => none
theorem rc_i2 {f : Int → Int → Int} : RC (fun xs H Q => ∃ i j, xs = [.int i, .int j] ∧ Q (.int (f i j)) H) (g2 (gI2 f)) := rc_2 fun C env σ H Q x y v w z h R r r' k => by
  unfold gI2 at h
  split at h
  · rename_i i j e1 e2
    cases h
    rw [val_int R r e1, val_int R r' e2]
    exact ⟨i, j, rfl, fin_int R k⟩
  · cases h
def absI (i : Int) : Int := if i < 0 then -i else i
def maxI (i j : Int) : Int := if j > i then j else i
def minI (i j : Int) : Int := if j < i then j else i
/-- list(x), tuple(x) -/
def asSeq (env : DEnv) (x : RV) : Option (List Dv) := match val env x with
  | some (.tup xs) => some xs
  | _ => seqL env x
theorem asSeq_ok {K : PySem.W.Frag} {C : DC} {env : DEnv} {σ : L2.St} {H : Hp} {x : RV} {v : V} (R : Rel C env σ H) (r : RVr C env σ H x v) {xs : List Dv} (h : asSeq env x = some xs) : ∃ a vs, v = .ref a ∧ (SqL K H a vs ∨ SqT K H a vs) ∧ Dats (MM C env σ) H xs vs := by
  unfold asSeq at h
  split at h
  · rename_i ys e
    cases h
    obtain ⟨a, vs, rfl, na, ha, hs⟩ := val_tup R r e
    exact ⟨a, vs, rfl, .inr (SqT.of ha), hs⟩
  · obtain ⟨a, vs, rfl, ha, hs⟩ := seqL_ok R r h
    exact ⟨a, vs, rfl, .inl (SqL.of ha), hs⟩
def gListOf (env : DEnv) (x : RV) : Option RV := (asSeq env x).map fun xs => .d (.lst xs)
def gTupOf (env : DEnv) (x : RV) : Option RV := (asSeq env x).map fun xs => .d (.tup xs)
def rListOf (K : PySem.W.Frag) : List V → Hp → VK → Prop := fun xs H Q => ∃ p ys, xs = [.ref p] ∧ (SqL K H p ys ∨ SqT K H p ys) ∧ ∀ l, H l = none → Q (.ref l) (upd H l (.lst ys))
def rTupOf (K : PySem.W.Frag) : List V → Hp → VK → Prop := fun xs H Q => ∃ p ys, xs = [.ref p] ∧ ((SqL K H p ys ∧ ∀ l, H l = none → Q (.ref l) (upd H l (.tup ys))) ∨ (SqT K H p ys ∧ Q (.ref p) H))
theorem rc_listOf {K : PySem.W.Frag} : RC (rListOf K) (g1 gListOf) := rc_1 fun C env σ H Q x v z h R r k => by
  unfold gListOf at h
  obtain ⟨xs, e, h⟩ := Option.map_eq_some_iff.mp h
  cases h
  obtain ⟨a, vs, rfl, ha, hs⟩ := asSeq_ok (K := K) R r e
  exact ⟨a, vs, rfl, ha, fin_lst R k hs⟩
theorem rc_tupOf {K : PySem.W.Frag} : RC (rTupOf K) (g1 gTupOf) := rc_1 fun C env σ H Q x v z h R r k => by
  unfold gTupOf at h
  obtain ⟨xs, e, h⟩ := Option.map_eq_some_iff.mp h
  cases h
  unfold asSeq at e
  split at e
  · rename_i ys e'
    cases e
    obtain ⟨a, vs, rfl, na, ha, hs⟩ := val_tup R r e'
    refine ⟨a, vs, rfl, .inr ⟨SqT.of ha, fin_ R k ?_⟩⟩
    unfold Dat
    exact ⟨a, vs, rfl, na, ha, hs⟩
  · obtain ⟨a, vs, rfl, ha, hs⟩ := seqL_ok R r e
    exact ⟨a, vs, rfl, .inl ⟨SqL.of ha, fin_tup R k hs⟩⟩
/-- sum of a list of intL -/
def intL : List Dv → Option (List Int)
  | [] => some []
  | .int i :: r => (intL r).map (i :: ·)
  | _ :: _ => none
theorem intL_ok : ∀ {ds : List Dv} {ns : List Int}, intL ds = some ns → ds = ns.map Dv.int
  | [], ns, h => by
    cases h
    rfl
  | .int i :: r, ns, h => by
    unfold intL at h
    obtain ⟨ms, e, h⟩ := Option.map_eq_some_iff.mp h
    cases h
    rw [intL_ok e]
    rfl
  | .non :: _, _, h => by cases h
  | .bl _ :: _, _, h => by cases h
  | .str _ :: _, _, h => by cases h
  | .lst _ :: _, _, h => by cases h
  | .tup _ :: _, _, h => by cases h
  | .ins _ _ _ :: _, _, h => by cases h
  | .ty _ :: _, _, h => by cases h
  | .cls _ :: _, _, h => by cases h
  | .anyS :: _, _, h => by cases h
  | .scr _ _ :: _, _, h => by cases h
theorem intL_map : ∀ ns : List Int, intL (ns.map Dv.int) = some ns
  | [] => rfl
  | n :: r => by
    show (intL (r.map Dv.int)).map (n :: ·) = _
    rw [intL_map r]
    rfl
def gSum (env : DEnv) (x : RV) : Option RV := (seqL env x).bind fun xs => (intL xs).map fun ns => .d (.int ns.sum)
theorem rc_sum {K : PySem.W.Frag} : RC (rSum K) (g1 gSum) := rc_1 fun C env σ H Q x v z h R r k => by
  unfold gSum at h
  obtain ⟨xs, e, h⟩ := Option.bind_eq_some_iff.mp h
  obtain ⟨ns, e2, h⟩ := Option.map_eq_some_iff.mp h
  cases h
  obtain ⟨a, vs, rfl, ha, hs⟩ := seqL_ok R r e
  rw [intL_ok e2] at hs
  rw [hs.ints] at ha
  exact ⟨a, ns, rfl, SqL.of ha, fin_int R k⟩
/-- isinstance by a built-in class -/
inductive BT where
  | int | bool | str | list | tuple | dict
def BT.name : BT → String
  | .int => "int"
  | .bool => "bool"
  | .str => "str"
  | .list => "list"
  | .tuple => "tuple"
  | .dict => "dict"
def isIt : BT → Dv → Option Bool
  | _, .ins _ _ _ => none
  | _, .ty _ => none
  | _, .cls _ => none
  | _, .scr _ _ => none
  | .int, .int _ => some true
  | .int, .bl _ => some true
  | .bool, .bl _ => some true
  | .str, .str _ => some true
  | .str, .anyS => some true
  | .list, .lst _ => some true
  | .tuple, .tup _ => some true
  | _, _ => some false
def fIsi (T : BT) (fa : EF) : EF := fun env => (fa env).bind fun p => (look p.2 p.1).bind fun d => (isIt T d).map fun b => (.d (.bl b), p.2)
theorem isIt_ok {K : PySem.W.Frag} {M : Addr → Prop} {H : Hp} {T : BT} {d : Dv} {v : V} {b : Bool} (h : isIt T d = some b) (hd : Dat M H d v) : ∃ t, TyX K H v t ∧ PySem.W.kitOne K t (.type T.name) = some b := by
  have kk : ∀ {a : String}, kitB a T.name = some b → PySem.W.kitOne K (.type a) (.type T.name) = some b := fun q => kit_ty q
  cases d <;> unfold Dat at hd
  case non =>
    subst hd
    refine ⟨_, .base .non, kk ?_⟩
    cases T <;> (simp only [isIt, Option.some.injEq] at h; subst h; decide +kernel)
  case bl b =>
    subst hd
    refine ⟨_, .base (.bl _), kk ?_⟩
    cases T <;> (simp only [isIt, Option.some.injEq] at h; subst h; decide +kernel)
  case int b =>
    subst hd
    refine ⟨_, .base (.int _), kk ?_⟩
    cases T <;> (simp only [isIt, Option.some.injEq] at h; subst h; decide +kernel)
  case str b =>
    subst hd
    refine ⟨_, .base (.str _), kk ?_⟩
    cases T <;> (simp only [isIt, Option.some.injEq] at h; subst h; decide +kernel)
  case anyS =>
    obtain ⟨x, rfl⟩ := hd
    refine ⟨_, .base (.str _), kk ?_⟩
    cases T <;> (simp only [isIt, Option.some.injEq] at h; subst h; decide +kernel)
  case lst xs =>
    obtain ⟨a, vs, rfl, _, ha, _⟩ := hd
    refine ⟨_, .base (.lst ha), kk ?_⟩
    cases T <;> (simp only [isIt, Option.some.injEq] at h; subst h; decide +kernel)
  case tup xs =>
    obtain ⟨a, vs, rfl, _, ha, _⟩ := hd
    refine ⟨_, .base (.tup ha), kk ?_⟩
    cases T <;> (simp only [isIt, Option.some.injEq] at h; subst h; decide +kernel)
  case ins C ns ds => cases T <;> simp [isIt] at h
  case ty n => cases T <;> simp [isIt] at h
  case cls n => cases T <;> simp [isIt] at h
  case scr K ns => cases T <;> simp [isIt] at h
theorem re_isi {K : PySem.W.Frag} (T : BT) {ta : TE} {fa : EF} (ha : RE ta fa) : RE (tCB (rIsi K) (tCons ta (tCons (tC (.ty T.name)) tNil))) (fIsi T fa) := fun C env σ H Q rv env' h R k => by
  unfold fIsi at h
  obtain ⟨⟨x, e1⟩, h1, h⟩ := Option.bind_eq_some_iff.mp h
  obtain ⟨d, h2, h⟩ := Option.bind_eq_some_iff.mp h
  obtain ⟨b, h3, h⟩ := Option.map_eq_some_iff.mp h
  cases h
  refine ha C env σ H _ x e1 h1 R fun vx H1 R1 s1 g1 r1 => ?_
  obtain ⟨t, ht, hk⟩ := isIt_ok (K := K) h3 (look_ok R1 r1 h2)
  exact ⟨vx, .ty T.name, t, _, b, rfl, .ty _, ht, hk, k _ H1 R1 s1 g1 (show Dat (MM C e1 σ) H1 (.bl b) _ by unfold Dat; rfl)⟩
end DL

set_option Elab.async false
set_option linter.all false
set_option maxRecDepth 100000
set_option maxHeartbeats 4000000
namespace DL
open PySem L2 PyProof.Rows

/-! ### slots set, wiped, laid back -/
def wipeE : DEnv → List Nat → DEnv
  | env, [] => env
  | env, i :: is => (wipeE env is).set i .non
def backE (env0 : DEnv) : DEnv → List Nat → DEnv
  | env, [] => env
  | env, i :: is => match env0[i]? with
    | some s => (backE env0 env is).set i s
    | none => backE env0 env is
theorem set_get {α : Type} (l : List α) (i j : Nat) (x : α) : (l.set i x)[j]? = if i = j then (if i < l.length then some x else none) else l[j]? := by
  by_cases h : i = j
  · subst h
    rw [if_pos rfl]
    by_cases hl : i < l.length
    · rw [if_pos hl, List.getElem?_set_self hl]
    · rw [if_neg hl, List.getElem?_eq_none (by rw [List.length_set]; omega)]
  · rw [if_neg h, List.getElem?_set_ne h]
theorem wipe_get (σ : L2.St) : ∀ (vs : List Nat) (j : Nat), (wipe σ vs)[j]? = if j ∈ vs then (if j < σ.length then some none else none) else σ[j]?
  | [], j => by simp [wipe]
  | v :: vs, j => by
    unfold wipe
    rw [set_get, wipe_length, wipe_get σ vs j]
    by_cases h : v = j
    · subst h
      simp
    · rw [if_neg h]
      by_cases h2 : j ∈ vs
      · simp [h2]
      · simp [h2]
        exact fun e => absurd e.symm h
theorem wipeE_length (env : DEnv) : ∀ vs : List Nat, (wipeE env vs).length = env.length
  | [] => rfl
  | v :: vs => by
    unfold wipeE
    rw [List.length_set, wipeE_length env vs]
theorem wipeE_get (env : DEnv) : ∀ (vs : List Nat) (j : Nat), (wipeE env vs)[j]? = if j ∈ vs then (if j < env.length then some .non else none) else env[j]?
  | [], j => by simp [wipeE]
  | v :: vs, j => by
    unfold wipeE
    rw [set_get, wipeE_length, wipeE_get env vs j]
    by_cases h : v = j
    · subst h
      simp
    · rw [if_neg h]
      by_cases h2 : j ∈ vs
      · simp [h2]
      · simp [h2]
        exact fun e => absurd e.symm h
theorem backE_length (e0 env : DEnv) : ∀ vs : List Nat, (backE e0 env vs).length = env.length
  | [] => rfl
  | v :: vs => by
    unfold backE
    split
    · rw [List.length_set, backE_length e0 env vs]
    · exact backE_length e0 env vs
theorem backE_get {e0 env : DEnv} (hl : env.length = e0.length) : ∀ (vs : List Nat) (j : Nat), (backE e0 env vs)[j]? = if j ∈ vs then e0[j]? else env[j]?
  | [], j => by simp [backE]
  | v :: vs, j => by
    unfold backE
    split
    · rename_i s hs
      have hv : v < e0.length := (List.getElem?_eq_some_iff.mp hs).1
      rw [set_get, backE_length, backE_get hl vs j]
      by_cases h : v = j
      · subst h
        rw [if_pos rfl, if_pos (by rw [hl]; exact hv), if_pos (by simp), hs]
      · rw [if_neg h]
        by_cases h2 : j ∈ vs
        · simp [h2]
        · simp [h2]
          exact fun e => absurd e.symm h
    · rename_i hs
      rw [backE_get hl vs j]
      by_cases h2 : j ∈ vs
      · simp [h2]
      · by_cases h : j = v
        · subst h
          have hv : e0.length ≤ j := List.getElem?_eq_none_iff.mp hs
          simp [h2, hs]
          omega
        · simp [h2, h]
def NoOwn (ts : List Nat) (env : DEnv) : Prop := ∀ i ∈ ts, ∀ b xs, env[i]? ≠ some (.own b xs)
section
variable {C : DC} {env env' : DEnv} {σ : L2.St} {H H' : Hp} {v : V} {d : Dv}
theorem Rel.grow (R : Rel C env σ H) (k : ∀ a o, H a = some o → H' a = some o) : Rel C env σ H' where
  len := R.len
  dat := fun i d e => by
    obtain ⟨v, h1, h2⟩ := R.dat i d e
    exact ⟨v, h1, h2.to (fun a o _ q => k a o q) fun _ z => .inl z⟩
  own := fun i b xs e => by
    obtain ⟨a, vs, h1, h2, h3⟩ := R.own i b xs e
    exact ⟨a, vs, h1, k _ _ h2, Dats.to (fun a o _ q => k a o q) (fun _ z => .inl z) _ _ h3⟩
  inj := R.inj
  io := R.io
  iob := R.iob
  no := R.no
  keep := fun a o n q => k a o (R.keep a o n q)
  mem := fun a m e => by
    cases q : H a with
    | none => exact R.mem a m q
    | some o =>
      rw [k a o q] at e
      cases e
theorem Rel.setDat (R : Rel C env σ H) {i : Nat} {s : Slot} (e : env[i]? = some s) (ns : ∀ xs, s ≠ .own true xs) (hd : Dat (MM C env σ) H d v) : Rel C (env.set i (.dat d)) (σ.set i (some v)) H ∧
    ∀ (j : Nat) b xs, (env.set i (Slot.dat d))[j]? = some (.own b xs) → env[j]? = some (.own b xs) ∧ (σ.set i (some v))[j]? = σ[j]? := by
  have hi : i < env.length := (List.getElem?_eq_some_iff.mp e).1
  have hs : i < σ.length := by rw [R.len]; exact hi
  have own : ∀ (j : Nat) b xs, (env.set i (Slot.dat d))[j]? = some (.own b xs) → env[j]? = some (.own b xs) ∧ (σ.set i (some v))[j]? = σ[j]? := fun j b xs q => by
    rw [set_get] at q
    by_cases h : i = j
    · rw [if_pos h, if_pos hi] at q
      cases q
    · rw [if_neg h] at q
      exact ⟨q, List.getElem?_set_ne h⟩
  have w : ∀ a, W (env.set i (.dat d)) (σ.set i (some v)) a → W env σ a := fun a ⟨j, b, xs, h1, h2⟩ => by
    obtain ⟨h3, h4⟩ := own j b xs h1
    exact ⟨j, b, xs, h3, by rw [← h4]; exact h2⟩
  have m : ∀ a, MM C (env.set i (.dat d)) (σ.set i (some v)) a → MM C env σ a := fun a z => z.imp id (w a)
  refine ⟨⟨by rw [List.length_set, List.length_set]; exact R.len, fun j x q => ?_, fun j b xs q => ?_, fun j k b c xs ys a q1 q2 h1 h2 => ?_, fun j xs q => R.io j xs (own j _ _ q).1, fun j a q => ?_, fun j xs a q h1 => ?_, R.keep, R.mem⟩, own⟩
  · rw [set_get] at q
    by_cases h : i = j
    · rw [if_pos h, if_pos hi] at q
      cases q
      exact ⟨v, by rw [set_get, if_pos h, if_pos hs], hd.to (fun _ _ _ q => q) fun a z => .inl (m a z)⟩
    · rw [if_neg h] at q
      obtain ⟨u, h1, h2⟩ := R.dat j x q
      exact ⟨u, by rw [set_get, if_neg h]; exact h1, h2.to (fun _ _ _ q => q) fun a z => .inl (m a z)⟩
  · obtain ⟨h3, h4⟩ := own j b xs q
    obtain ⟨a, vs, h5, h6, h7⟩ := R.own j b xs h3
    exact ⟨a, vs, by rw [h4]; exact h5, h6, Dats.to (fun _ _ _ q => q) (fun a z => .inl (m a z)) _ _ h7⟩
  · obtain ⟨h3, h4⟩ := own j _ _ q1
    obtain ⟨h5, h6⟩ := own k _ _ q2
    exact R.inj j k b c xs ys a h3 h5 (by rw [← h4]; exact h1) (by rw [← h6]; exact h2)
  · obtain ⟨h1, xs, h2, h3⟩ := R.iob j a q
    have n : i ≠ j := fun z => by
      subst z
      rw [e] at h2
      exact ns xs (Option.some.inj h2)
    exact ⟨h1, xs, by rw [set_get, if_neg n]; exact h2, by rw [set_get, if_neg n]; exact h3⟩
  · obtain ⟨h3, h4⟩ := own j _ _ q
    exact R.no j xs a h3 (by rw [← h4]; exact h1)
theorem Rel.wiped (R : Rel C env σ H) {ts : List Nat} (n : NoOwn ts env) : Rel C (wipeE env ts) (wipe σ ts) H ∧ (∀ a, W (wipeE env ts) (wipe σ ts) a ↔ W env σ a) := by
  have own : ∀ (j : Nat) b xs, (wipeE env ts)[j]? = some (.own b xs) → env[j]? = some (.own b xs) ∧ (wipe σ ts)[j]? = σ[j]? := fun j b xs q => by
    rw [wipeE_get] at q
    by_cases h : j ∈ ts
    · rw [if_pos h] at q
      split at q <;> cases q
    · rw [if_neg h] at q
      exact ⟨q, by rw [wipe_get, if_neg h]⟩
  have own' : ∀ (j : Nat) b xs, env[j]? = some (.own b xs) → (wipeE env ts)[j]? = some (.own b xs) ∧ (wipe σ ts)[j]? = σ[j]? := fun j b xs q => by
    have h : j ∉ ts := fun h => n j h b xs q
    rw [wipeE_get, if_neg h, wipe_get, if_neg h]
    exact ⟨q, rfl⟩
  have w : ∀ a, W (wipeE env ts) (wipe σ ts) a ↔ W env σ a := fun a => by
    constructor
    · rintro ⟨j, b, xs, h1, h2⟩
      obtain ⟨h3, h4⟩ := own j b xs h1
      exact ⟨j, b, xs, h3, by rw [← h4]; exact h2⟩
    · rintro ⟨j, b, xs, h1, h2⟩
      obtain ⟨h3, h4⟩ := own' j b xs h1
      exact ⟨j, b, xs, h3, by rw [h4]; exact h2⟩
  have m : ∀ a, MM C (wipeE env ts) (wipe σ ts) a → MM C env σ a := fun a z => z.imp id (w a).mp
  refine ⟨⟨by rw [wipe_length, wipeE_length]; exact R.len, fun j x q => ?_, fun j b xs q => ?_, fun j k b c xs ys a q1 q2 h1 h2 => ?_, fun j xs q => R.io j xs (own j _ _ q).1, fun j a q => ?_, fun j xs a q h1 => ?_, R.keep, R.mem⟩, w⟩
  · rw [wipeE_get] at q
    by_cases h : j ∈ ts
    · rw [if_pos h] at q
      split at q <;> cases q
    · rw [if_neg h] at q
      obtain ⟨u, h1, h2⟩ := R.dat j x q
      exact ⟨u, by rw [wipe_get, if_neg h]; exact h1, h2.to (fun _ _ _ q => q) fun a z => .inl (m a z)⟩
  · obtain ⟨h3, h4⟩ := own j b xs q
    obtain ⟨a, vs, h5, h6, h7⟩ := R.own j b xs h3
    exact ⟨a, vs, by rw [h4]; exact h5, h6, Dats.to (fun _ _ _ q => q) (fun a z => .inl (m a z)) _ _ h7⟩
  · obtain ⟨h3, h4⟩ := own j _ _ q1
    obtain ⟨h5, h6⟩ := own k _ _ q2
    exact R.inj j k b c xs ys a h3 h5 (by rw [← h4]; exact h1) (by rw [← h6]; exact h2)
  · obtain ⟨h1, xs, h2, h3⟩ := R.iob j a q
    obtain ⟨h4, h5⟩ := own' j _ _ h2
    exact ⟨h1, xs, h4, by rw [h5]; exact h3⟩
  · obtain ⟨h3, h4⟩ := own j _ _ q
    exact R.no j xs a h3 (by rw [← h4]; exact h1)
end

/-! ### targets -/
abbrev GF := Dv → DEnv → Option DEnv
abbrev GFs := List Dv → DEnv → Option DEnv
def RG (g : TG) (ts : List Nat) (f : GF) : Prop := ∀ (C : DC) (env : DEnv) (σ : L2.St) (H : Hp) (d : Dv) (v : V) (Q : L2.St → Hp → Prop) (env' : DEnv), f d env = some env' → Rel C env σ H → Dat (MM C env σ) H d v →
  (∀ σ', Rel C env' σ' H → (∀ vs, (∀ i ∈ ts, i ∈ vs) → wipe σ' vs = wipe σ vs) → (∀ (j : Nat) b xs, env'[j]? = some (.own b xs) → (env[j]? = some (.own b xs) ∧ σ'[j]? = σ[j]?)) → NoOwn ts env' → (∀ j, j ∉ ts → env'[j]? = env[j]?) → Q σ' H) → g v σ H Q
def RGs (g : TGs) (ts : List Nat) (f : GFs) : Prop := ∀ (C : DC) (env : DEnv) (σ : L2.St) (H : Hp) (ds : List Dv) (vs : List V) (Q : L2.St → Hp → Prop) (env' : DEnv), f ds env = some env' → Rel C env σ H → Dats (MM C env σ) H ds vs →
  (∀ σ', Rel C env' σ' H → (∀ vs, (∀ i ∈ ts, i ∈ vs) → wipe σ' vs = wipe σ vs) → (∀ (j : Nat) b xs, env'[j]? = some (.own b xs) → (env[j]? = some (.own b xs) ∧ σ'[j]? = σ[j]?)) → NoOwn ts env' → (∀ j, j ∉ ts → env'[j]? = env[j]?) → Q σ' H) → g vs σ H Q
def fName (i : Nat) : GF := fun d env => match env[i]? with
  | none => none
  | some (.own true _) => none
  | some _ => some (env.set i (.dat d))
theorem wipe_set {σ : L2.St} {i : Nat} {x : Option V} {vs : List Nat} (h : i ∈ vs) : wipe (σ.set i x) vs = wipe σ vs := by
  apply List.ext_getElem?
  intro j
  rw [wipe_get, wipe_get, List.length_set]
  by_cases hj : j ∈ vs
  · rw [if_pos hj, if_pos hj]
  · rw [if_neg hj, if_neg hj, List.getElem?_set_ne (fun e => hj (by rw [← e]; exact h))]
theorem rg_name {i : Nat} : RG (gName i) [i] (fName i) := fun C env σ H d v Q env' h R hd k => by
  unfold fName at h
  split at h
  · cases h
  · cases h
  · rename_i s ns e
    cases h
    obtain ⟨R', own⟩ := R.setDat e (fun xs z => ns xs (by rw [z])) hd
    refine k _ R' (fun vs hv => wipe_set (hv i (by simp))) own (fun j hj b xs q => ?_) fun j hj => ?_
    · have e2 : j = i := by simpa using hj
      subst e2
      rw [set_get, if_pos rfl] at q
      split at q <;> cases q
    · rw [set_get, if_neg (fun z => hj (by simp [z]))]
def fGnil : GFs := fun ds env => match ds with
  | [] => some env
  | _ => none
def fGcons (f : GF) (g : GFs) : GFs := fun ds env => match ds with
  | d :: r => (f d env).bind (g r)
  | [] => none
theorem rgs_nil : RGs gNil [] fGnil := fun C env σ H ds vs Q env' h R hd k => by
  match ds, h with
  | [], h =>
    cases h
    unfold Dats at hd
    subst hd
    exact ⟨rfl, k σ R (fun _ _ => rfl) (fun j b xs q => ⟨q, rfl⟩) (fun j hj => by cases hj) fun _ _ => rfl⟩
theorem rgs_cons {g : TG} {u : TGs} {f : GF} {fs : GFs} {ts us : List Nat} (hg : RG g ts f) (hu : RGs u us fs) : RGs (gCons g u) (ts ++ us) (fGcons f fs) := fun C env σ H ds vs Q env' h R hd k => by
  match ds, h with
  | d :: r, h =>
    unfold fGcons at h
    obtain ⟨e1, h1, h2⟩ := Option.bind_eq_some_iff.mp h
    unfold Dats at hd
    obtain ⟨v, ws, rfl, d1, d2⟩ := hd
    refine ⟨v, ws, rfl, hg C env σ H d v _ e1 h1 R d1 fun σ1 R1 w1 o1 n1 k1 => ?_⟩
    have m : ∀ a, MM C e1 σ1 a → MM C env σ a := fun a z => z.imp id fun ⟨j, b, xs, q1, q2⟩ => ⟨j, b, xs, (o1 j b xs q1).1, by rw [← (o1 j b xs q1).2]; exact q2⟩
    refine hu C e1 σ1 H r ws _ env' h2 R1 (Dats.to (fun _ _ _ q => q) (fun a z => .inl (m a z)) _ _ d2) fun σ2 R2 w2 o2 n2 k2 => ?_
    refine k σ2 R2 (fun vs hv => ?_) (fun j b xs q => ?_) (fun j hj b xs q => ?_) fun j hj => ?_
    · rw [w2 vs fun i hi => hv i (List.mem_append_right _ hi), w1 vs fun i hi => hv i (List.mem_append_left _ hi)]
    · obtain ⟨q1, q2⟩ := o2 j b xs q
      obtain ⟨q3, q4⟩ := o1 j b xs q1
      exact ⟨q3, by rw [q2, q4]⟩
    · rcases List.mem_append.mp hj with z | z
      · exact n1 j z b xs (o2 j b xs q).1
      · exact n2 j z b xs q
    · rw [k2 j fun z => hj (List.mem_append_right _ z), k1 j fun z => hj (List.mem_append_left _ z)]
def fGtup (n : Nat) (f : GFs) : GF := fun d env => match d with
  | .tup xs => if xs.length = n then f xs env else none
  | _ => none
theorem rg_tup {K : PySem.W.Frag} {n : Nat} {t : TGs} {f : GFs} {ts : List Nat} (h : RGs t ts f) : RG (gTup K n t) ts (fGtup n f) := fun C env σ H d v Q env' e R hd k => by
  unfold fGtup at e
  split at e
  · rename_i xs
    split at e
    · rename_i hn
      unfold Dat at hd
      obtain ⟨a, vs, rfl, na, ha, hs⟩ := hd
      exact ⟨a, vs, rfl, SqT.of ha, by rw [hs.length]; exact hn, h C env σ H xs vs Q env' e R hs k⟩
    · cases e
  · cases e

/-! ### statements -/
inductive Out where
  | nx (e : DEnv)
  | bk (e : DEnv)
  | ct (e : DEnv)
  | rt (d : Dv) (e : DEnv)
abbrev SF := DEnv → Option Out
def Post (C : DC) (D : Ends) : Out → Prop
  | .nx e => ∀ σ H, Rel C e σ H → D.nx σ H
  | .bk e => ∀ σ H, Rel C e σ H → D.bk σ H
  | .ct e => ∀ σ H, Rel C e σ H → D.ct σ H
  | .rt d e => ∀ σ H v, Rel C e σ H → Dat (MM C e σ) H d v → D.rt v H
def RS (t : TS) (g : SF) : Prop := ∀ (C : DC) (env : DEnv) (σ : L2.St) (H : Hp) (D : Ends) (o : Out), g env = some o → Rel C env σ H → Post C D o → t D σ H
def sNext : SF := fun env => some (.nx env)
def sSeq (f g : SF) : SF := fun env => (f env).bind fun o => match o with
  | .nx e => g e
  | o => some o
def sBreak : SF := fun env => some (.bk env)
def sCont : SF := fun env => some (.ct env)
def sNever : SF := fun _ => none
def sAsg (fe : EF) (f : GF) : SF := fun env => (fe env).bind fun p => (frz p.2 p.1).bind fun q => (f q.1 q.2).map Out.nx
def sRet (fe : EF) : SF := fun env => (fe env).bind fun p => (frz p.2 p.1).map fun q => .rt q.1 q.2
def sRetN : SF := fun env => some (.rt .non env)
def sIf (ft : TF) (f g : SF) : SF := fun env => (ft env).bind fun p => if p.1 = true then f p.2 else g p.2
def sDrop (fe : EF) : SF := fun env => (fe env).map fun p => .nx p.2
section
variable {t u : TS} {f g : SF} {te : TE} {fe : EF} {tt : TT} {ft : TF}
theorem rs_next : RS tNext sNext := fun C env σ H D o h R k => by
  cases h
  exact k σ H R
theorem rs_break : RS tBreak sBreak := fun C env σ H D o h R k => by
  cases h
  exact k σ H R
theorem rs_cont : RS tCont sCont := fun C env σ H D o h R k => by
  cases h
  exact k σ H R
theorem rs_never : RS tNever sNever := fun C env σ H D o h R k => by cases h
theorem rs_seq (hf : RS t f) (hg : RS u g) : RS (tSeq t u) (sSeq f g) := fun C env σ H D o h R k => by
  unfold sSeq at h
  obtain ⟨o1, h1, h⟩ := Option.bind_eq_some_iff.mp h
  cases o1 with
  | nx e => exact hf C env σ H { D with nx := u D } _ h1 R fun σ1 H1 R1 => hg C e σ1 H1 D o h R1 k
  | bk e =>
    cases h
    exact hf C env σ H { D with nx := u D } _ h1 R k
  | ct e =>
    cases h
    exact hf C env σ H { D with nx := u D } _ h1 R k
  | rt d e =>
    cases h
    exact hf C env σ H { D with nx := u D } _ h1 R k
theorem rs_asg {tg : TG} {ts : List Nat} {gf : GF} (he : RE te fe) (hg : RG tg ts gf) : RS (tAsg te tg) (sAsg fe gf) := fun C env σ H D o h R k => by
  unfold sAsg at h
  obtain ⟨⟨x, e1⟩, h1, h⟩ := Option.bind_eq_some_iff.mp h
  obtain ⟨⟨d, e2⟩, h2, h⟩ := Option.bind_eq_some_iff.mp h
  obtain ⟨e3, h3, h⟩ := Option.map_eq_some_iff.mp h
  cases h
  refine he C env σ H _ x e1 h1 R fun v H1 R1 s1 g1 r1 => ?_
  obtain ⟨R2, s2, d2⟩ := frz_ok R1 r1 h2
  exact hg C e2 σ H1 d v _ e3 h3 R2 d2 fun σ' R3 _ _ _ _ => k σ' H1 R3
theorem rs_ret (he : RE te fe) : RS (tRet te) (sRet fe) := fun C env σ H D o h R k => by
  unfold sRet at h
  obtain ⟨⟨x, e1⟩, h1, h⟩ := Option.bind_eq_some_iff.mp h
  obtain ⟨⟨d, e2⟩, h2, h⟩ := Option.map_eq_some_iff.mp h
  cases h
  refine he C env σ H _ x e1 h1 R fun v H1 R1 s1 g1 r1 => ?_
  obtain ⟨R2, s2, d2⟩ := frz_ok R1 r1 h2
  exact k σ H1 v R2 d2
theorem rs_retN : RS tRetN sRetN := fun C env σ H D o h R k => by
  cases h
  exact k σ H .non R (by unfold Dat; rfl)
theorem rs_if (hc : RT tt ft) (hf : RS t f) (hg : RS u g) : RS (tIfS tt t u) (sIf ft f g) := fun C env σ H D o h R k => by
  unfold sIf at h
  obtain ⟨⟨b, e1⟩, h1, h⟩ := Option.bind_eq_some_iff.mp h
  refine hc C env σ H _ b e1 h1 R fun H1 R1 s1 g1 => ?_
  cases b with
  | true => exact hf C e1 σ H1 D o h R1 k
  | false => exact hg C e1 σ H1 D o h R1 k
theorem rs_drop (he : RE te fe) : RS (tDrop te) (sDrop fe) := fun C env σ H D o h R k => by
  unfold sDrop at h
  obtain ⟨⟨x, e1⟩, h1, h⟩ := Option.map_eq_some_iff.mp h
  cases h
  exact he C env σ H _ x e1 h1 R fun v H1 R1 s1 g1 r1 => k σ H1 R1
end
end DL

set_option Elab.async false
set_option linter.all false
set_option maxRecDepth 100000
set_option maxHeartbeats 4000000
namespace DL
open PySem L2 PyProof.Rows

/-! ### what is walked -/
structure ItD (J : It) (ds : List Dv) (M : Addr → Prop) (Hs : Hp) : Prop where
  walk : Walk J ds.length (fun H => ∀ a o, ¬ M a → Hs a = some o → H a = some o)
    (fun i H x H' => (∀ a o, H a = some o → H' a = some o) ∧ ∀ M2 : Addr → Prop, (∀ a, M2 a → M a ∨ Hs a = none) → (∀ a, M2 a → H a ≠ none) → ∀ d, ds[i]? = some d → Dat M2 H' d x)
abbrev IF := DEnv → Option (List Dv × DEnv)
def RI (wi : TI) (f : IF) : Prop := ∀ (C : DC) (env : DEnv) (σ : L2.St) (H : Hp) (R : It → Hp → Prop) (ds : List Dv) (env' : DEnv), f env = some (ds, env') → Rel C env σ H →
  (∀ J H', Rel C env' σ H' → Sh env env' → Grow env σ H H' → ItD J ds (MM C env' σ) H' → R J H') → wi σ H R
theorem itd_of {M : Addr → Prop} {Hs : Hp} {J : It} {ds : List Dv} {vs : List V} (hs : Dats M Hs ds vs)
    (w : Walk J vs.length (fun H => ∀ a o, ¬ M a → Hs a = some o → H a = some o) (YAt vs)) : ItD J ds M Hs := by
  refine ⟨?_⟩
  rw [← hs.length]
  refine w.mono (fun _ h => h) fun i H x H' hi hg y => ?_
  obtain ⟨rfl, hx⟩ := y
  refine ⟨fun _ _ q => q, fun M2 m _ d hd => ?_⟩
  obtain ⟨v, h1, h2⟩ := hs.get hd
  rw [hx] at h1
  cases h1
  exact h2.to hg m
/-- a list or a tuple -/
def fSeqIt (fa : EF) : IF := fun env => (fa env).bind fun p => (frz p.2 p.1).bind fun q => match q.1 with
  | .lst xs => some (xs, q.2)
  | .tup xs => some (xs, q.2)
  | _ => none
def iSeq (K : PySem.W.Frag) (tl : TE) : TI := fun σ H R => tl σ H fun x H1 => ∃ a, x = .ref a ∧ (((∃ xs, SqL K H1 a xs) ∧ R (Itl K a) H1) ∨ ((∃ xs, SqT K H1 a xs) ∧ R (Itt K a) H1))
theorem pi_seq {X : Cx} {tg l : Expr} {tl : TE} (hl : PE X l tl) : PI X tg l (iSeq X.K tl) := by
  refine ⟨fun pins s σ H R I h => ?_⟩
  refine thn (hl.run pins s σ H _ I h) fun v s1 ⟨x, H1, I1, r1, q1⟩ => ?_
  obtain ⟨a, e, q1⟩ := q1
  subst e
  cases r1
  rcases q1 with ⟨⟨xs, hq⟩, q⟩ | ⟨⟨xs, hq⟩, q⟩
  · obtain ⟨its, rv, p, hz⟩ := I1.list hq
    refine wpAny_pyIter_list p.isList ?_
    refine ⟨s1.heap.objs.size, [s1.heap.objs.size], _, _, H1, rfl, I1.kept (t' := s1.toks) fun b o e => Heap.get?_push_of_some _ e, turn_list a _, ⟨_, Heap.get?_push_size _ rfl, rfl, rfl⟩, fun b hb => ?_, q⟩
    have e : b = s1.heap.objs.size := by simpa using hb
    subst e
    exact I1.fpOk (Nat.le_refl _) (I1.hok.fresh (Nat.le_refl _))
  · obtain ⟨its, rv, p, hz⟩ := I1.tuple hq
    refine wpAny_pyIter_tuple (show s1.heap.IsTuple a its.toArray from p) ?_
    refine ⟨s1.heap.objs.size, [s1.heap.objs.size], _, _, H1, rfl, I1.kept (t' := s1.toks) fun b o e => Heap.get?_push_of_some _ e, turn_tuple a _, ⟨_, Heap.get?_push_size _ rfl, rfl, rfl⟩, fun b hb => ?_, q⟩
    have e : b = s1.heap.objs.size := by simpa using hb
    subst e
    exact I1.fpOk (Nat.le_refl _) (I1.hok.fresh (Nat.le_refl _))
theorem ri_seq {K : PySem.W.Frag} {ta : TE} {fa : EF} (ha : RE ta fa) : RI (iSeq K ta) (fSeqIt fa) := fun C env σ H R ds env' h Re k => by
  unfold fSeqIt at h
  obtain ⟨⟨x, e1⟩, h1, h⟩ := Option.bind_eq_some_iff.mp h
  obtain ⟨⟨d, e2⟩, h2, h⟩ := Option.bind_eq_some_iff.mp h
  refine ha C env σ H _ x e1 h1 Re fun v H1 R1 s1 g1 r1 => ?_
  obtain ⟨R2, s2, d2⟩ := frz_ok R1 r1 h2
  simp only at h
  split at h
  · cases h
    unfold Dat at d2
    obtain ⟨a, vs, rfl, na, hha, hs⟩ := d2
    refine ⟨a, rfl, .inl ⟨⟨vs, SqL.of hha⟩, k _ H1 R2 (s1.trans s2) g1 (itd_of hs ?_)⟩⟩
    exact walk_list.mono (fun H q => SqL.of (q a _ na hha)) fun _ _ _ _ _ _ y => y
  · cases h
    unfold Dat at d2
    obtain ⟨a, vs, rfl, na, hha, hs⟩ := d2
    refine ⟨a, rfl, .inr ⟨⟨vs, SqT.of hha⟩, k _ H1 R2 (s1.trans s2) g1 (itd_of hs ?_)⟩⟩
    exact walk_tup.mono (fun H q => SqT.of (q a _ na hha)) fun _ _ _ _ _ _ y => y
  · cases h
/-- range -/
def rangeD (lo : Int) (n : Nat) : List Dv := (List.range n).map fun (i : Nat) => .int (lo + (i : Int))
theorem itd_range {lo : Int} {n : Nat} {M : Addr → Prop} {H : Hp} : ItD (Itr lo n) (rangeD lo n) M H := by
  refine ⟨?_⟩
  have e : (rangeD lo n).length = n := by simp [rangeD]
  rw [e]
  refine walk_range.mono (fun _ _ => True.intro) fun i H x H' hi _ y => ?_
  obtain ⟨rfl, rfl⟩ := y
  refine ⟨fun _ _ q => q, fun M2 m _ d hd => ?_⟩
  simp [rangeD, hi] at hd
  subst hd
  unfold Dat
  rfl
def rngC (j : Int) : Prop := -(2 ^ 62) ≤ j ∧ j < 2 ^ 62
noncomputable instance (j : Int) : Decidable (rngC j) := Classical.propDecidable _
noncomputable def fRng1 (fa : AF) : IF := fun env => (fa env).bind fun p => match p.1 with
  | [x] => (asI p.2 x).bind fun j => if rngC j then some (rangeD 0 j.toNat, p.2) else none
  | _ => none
noncomputable def fRng2 (fa : AF) : IF := fun env => (fa env).bind fun p => match p.1 with
  | [x, y] => (asI p.2 x).bind fun i => (asI p.2 y).bind fun j => if rngC i ∧ rngC j then some (rangeD i (j - i).toNat, p.2) else none
  | _ => none
theorem ri_rng1 {ta : TA} {fa : AF} (ha : RA ta fa) : RI (iRng1 ta) (fRng1 fa) := fun C env σ H R ds env' h Re k => by
  unfold fRng1 at h
  obtain ⟨⟨xs, e1⟩, h1, h⟩ := Option.bind_eq_some_iff.mp h
  refine ha C env σ H _ xs e1 h1 Re fun vs H1 R1 s1 g1 r1 => ?_
  match xs, h with
  | [x], h =>
    obtain ⟨v, rfl, r2⟩ := rvs1 r1
    obtain ⟨j, h2, h⟩ := Option.bind_eq_some_iff.mp h
    split at h
    · rename_i hj
      cases h
      exact ⟨j, by rw [asI_ok R1 r2 h2], hj.1, hj.2, k _ H1 R1 s1 g1 itd_range⟩
    · cases h
theorem ri_rng2 {ta : TA} {fa : AF} (ha : RA ta fa) : RI (iRng2 ta) (fRng2 fa) := fun C env σ H R ds env' h Re k => by
  unfold fRng2 at h
  obtain ⟨⟨xs, e1⟩, h1, h⟩ := Option.bind_eq_some_iff.mp h
  refine ha C env σ H _ xs e1 h1 Re fun vs H1 R1 s1 g1 r1 => ?_
  match xs, h with
  | [x, y], h =>
    obtain ⟨v, w, rfl, r2, r3⟩ := rvs2 r1
    obtain ⟨i, h2, h⟩ := Option.bind_eq_some_iff.mp h
    obtain ⟨j, h3, h⟩ := Option.bind_eq_some_iff.mp h
    split at h
    · rename_i hj
      cases h
      exact ⟨i, j, by rw [asI_ok R1 r2 h2, asI_ok R1 r3 h3], ⟨hj.1.1, hj.1.2, hj.2.1, hj.2.2⟩, k _ H1 R1 s1 g1 itd_range⟩
    · cases h

/-! ### for -/
def loopF (gf : GF) (gb : SF) : List Dv → DEnv → Option Out
  | [], e => some (.nx e)
  | d :: r, e => (gf d e).bind fun e1 => (gb e1).bind fun o => match o with
    | .nx e2 => loopF gf gb r e2
    | .ct e2 => loopF gf gb r e2
    | .bk e2 => some (.nx e2)
    | .rt d e2 => some (.rt d e2)
def sFor (fi : IF) (gf : GF) (gb : SF) : SF := fun env => (fi env).bind fun p => loopF gf gb p.1 p.2
open Classical in
/-- the context within a loop: what stands there (but the owners' lists) stays -/
noncomputable def DC.hold (C : DC) (env : DEnv) (σ : L2.St) (H : Hp) : DC := { C with H0 := fun a => if W env σ a then none else H a }
section
variable {C : DC} {env env' : DEnv} {σ σ' : L2.St} {H H' : Hp}
theorem Rel.hold (R : Rel C env σ H) : Rel (C.hold env σ H) env σ H where
  len := R.len
  dat := R.dat
  own := R.own
  inj := R.inj
  io := R.io
  iob := R.iob
  no := fun i xs a e1 e2 => ⟨if_pos ⟨i, false, xs, e1, e2⟩, (R.no i xs a e1 e2).2⟩
  keep := fun a o _ q => by
    simp only [DC.hold] at q
    split at q
    · cases q
    · exact q
  mem := R.mem
open Classical in
theorem Rel.unhold (R0 : Rel C env σ H) (R : Rel (C.hold env σ H) env' σ' H') : Rel C env' σ' H' where
  len := R.len
  dat := R.dat
  own := R.own
  inj := R.inj
  io := R.io
  iob := R.iob
  no := fun i xs a e1 e2 => by
    obtain ⟨h1, h2⟩ := R.no i xs a e1 e2
    refine ⟨?_, h2⟩
    simp only [DC.hold] at h1
    split at h1
    · rename_i w
      obtain ⟨j, b, ys, q1, q2⟩ := w
      cases b with
      | false => exact (R0.no j ys a q1 q2).1
      | true =>
        obtain ⟨a', q3⟩ := R0.io j ys q1
        obtain ⟨q4, zs, q5, q6⟩ := R0.iob j a' q3
        rw [q2] at q6
        cases q6
        exact absurd q4 h2
    · exact R0.h0 h1
  keep := fun a o n q => by
    have h1 := R0.keep a o n q
    refine R.keep a o n ?_
    show (if W env σ a then none else H a) = some o
    rw [if_neg, h1]
    rintro ⟨j, b, ys, q1, q2⟩
    cases b with
    | false =>
      rw [(R0.no j ys a q1 q2).1] at q
      cases q
    | true =>
      obtain ⟨a', q3⟩ := R0.io j ys q1
      obtain ⟨q4, zs, q5, q6⟩ := R0.iob j a' q3
      rw [q2] at q6
      cases q6
      exact n j q3
  mem := R.mem
open Classical in
theorem Rel.held (R0 : Rel C env σ H) (R : Rel (C.hold env σ H) env' σ' H') : ∀ a o, ¬ MM C env σ a → H a = some o → H' a = some o := fun a o n q => by
  refine R.keep a o (fun i e => n (.inl (R0.iob i a e).1)) ?_
  show (if W env σ a then none else H a) = some o
  rw [if_neg (fun z => n (.inr z)), q]
theorem Rel.heldM (R0 : Rel C env σ H) (R : Rel (C.hold env σ H) env' σ' H') : ∀ a, MM C env' σ' a → MM C env σ a ∨ H a = none := fun a z => by
  rcases z with z | ⟨j, b, ys, q1, q2⟩
  · exact .inl (.inl z)
  · cases b with
    | true =>
      obtain ⟨a', q3⟩ := R.io j ys q1
      obtain ⟨q4, zs, q5, q6⟩ := R.iob j a' q3
      rw [q2] at q6
      cases q6
      exact .inl (.inl q4)
    | false =>
      obtain ⟨h1, h2⟩ := R.no j ys a q1 q2
      simp only [DC.hold] at h1
      split at h1
      · rename_i w
        exact .inl (.inr w)
      · exact .inr h1
theorem Rel.memM (R : Rel C env σ H) : ∀ a, MM C env σ a → H a ≠ none := fun a z e => R.fresh e z
end
theorem rs_for {wi : TI} {fi : IF} {tg : TG} {ts : List Nat} {gf : GF} {tb : TS} {gb : SF} (hi : RI wi fi) (hg : RG tg ts gf) (hb : RS tb gb) : RS (tFor wi tg tb) (sFor fi gf gb) := fun C env σ H D o h R k => by
  unfold sFor at h
  obtain ⟨⟨ds, e1⟩, h1, h⟩ := Option.bind_eq_some_iff.mp h
  refine hi C env σ H _ ds e1 h1 R fun J H1 R1 s1 g1 it => ?_
  refine for_it it.walk (fun i σ' H' => ∃ ei, loopF gf gb (ds.drop i) ei = some o ∧ Rel (C.hold e1 σ H1) ei σ' H') ⟨e1, h, R1.hold⟩ (fun i σ' H' _ ⟨ei, _, Ri⟩ => R1.held Ri) (fun i x σ' H2 H3 hi ⟨ei, hl, Ri⟩ ⟨y1, y2⟩ => ?_) fun σ' H' ⟨ei, hl, Ri⟩ => ?_
  · have hd : ds.drop i = ds[i] :: ds.drop (i + 1) := List.drop_eq_getElem_cons hi
    rw [hd] at hl
    unfold loopF at hl
    obtain ⟨e2, h2, hl⟩ := Option.bind_eq_some_iff.mp hl
    obtain ⟨o2, h3, hl⟩ := Option.bind_eq_some_iff.mp hl
    have dx : Dat (MM (C.hold e1 σ H1) ei σ') H3 ds[i] x := y2 _ (fun a z => R1.heldM Ri a z) (fun a z => Ri.memM a z) _ (List.getElem?_eq_getElem hi)
    refine hg _ ei σ' H3 ds[i] x _ e2 h2 (Ri.grow y1) dx fun σ2 R2 _ _ _ _ => ?_
    refine hb _ e2 σ2 H3 _ o2 h3 R2 ?_
    cases o2 with
    | nx e3 => exact fun σ4 H4 R4 => ⟨e3, hl, R4⟩
    | ct e3 => exact fun σ4 H4 R4 => ⟨e3, hl, R4⟩
    | bk e3 =>
      cases hl
      exact fun σ4 H4 R4 => k σ4 H4 (R1.unhold R4)
    | rt d e3 =>
      cases hl
      exact fun σ4 H4 v R4 dv => k σ4 H4 v (R1.unhold R4) dv
  · rw [List.drop_of_length_le (Nat.le_refl _)] at hl
    cases hl
    exact k σ' H' (R1.unhold Ri)
/-! ### while -/
def whileF (ft : TF) (gb : SF) : Nat → DEnv → Option Out
  | 0, _ => none
  | n + 1, e => (ft e).bind fun p => if p.1 = true then (gb p.2).bind fun o => match o with
    | .nx e2 => whileF ft gb n e2
    | .ct e2 => whileF ft gb n e2
    | .bk e2 => some (.nx e2)
    | .rt d e2 => some (.rt d e2) else some (.nx p.2)
open Classical in
noncomputable def sWhile (ft : TF) (gb : SF) : SF := fun env => if h : ∃ o n, whileF ft gb n env = some o then some (choose h) else none
theorem whileF_mono {ft : TF} {gb : SF} : ∀ (n : Nat) (e : DEnv) (o : Out), whileF ft gb n e = some o → whileF ft gb (n + 1) e = some o
  | 0, e, o, h => by cases h
  | n + 1, e, o, h => by
    unfold whileF at h
    obtain ⟨⟨b, e1⟩, h1, h⟩ := Option.bind_eq_some_iff.mp h
    unfold whileF
    rw [h1]
    simp only [Option.bind_some]
    simp only at h
    cases b with
    | false => simpa using h
    | true =>
      simp only [if_true] at h ⊢
      obtain ⟨o2, h2, h⟩ := Option.bind_eq_some_iff.mp h
      rw [h2]
      simp only [Option.bind_some]
      cases o2 with
      | nx e3 => exact whileF_mono n e3 o h
      | ct e3 => exact whileF_mono n e3 o h
      | bk e3 => exact h
      | rt d e3 => exact h
theorem whileF_le {ft : TF} {gb : SF} {n m : Nat} {e : DEnv} {o : Out} (hm : n ≤ m) (h : whileF ft gb n e = some o) : whileF ft gb m e = some o := by
  induction hm with
  | refl => exact h
  | step _ ih => exact whileF_mono _ _ _ ih
theorem sWhile_eq {ft : TF} {gb : SF} {n : Nat} {e : DEnv} {o : Out} (h : whileF ft gb n e = some o) : sWhile ft gb e = some o := by
  have hx : ∃ o n, whileF ft gb n e = some o := ⟨o, n, h⟩
  unfold sWhile
  rw [dif_pos hx]
  obtain ⟨m, hm⟩ := Classical.choose_spec hx
  have h1 := whileF_le (Nat.le_max_left n m) h
  have h2 := whileF_le (Nat.le_max_right n m) hm
  rw [h1] at h2
  exact h2.symm
theorem rs_while {tc : TT} {ft : TF} {tb : TS} {gb : SF} (hc : RT tc ft) (hb : RS tb gb) : RS (tWhile tc tb) (sWhile ft gb) := fun C env σ H D o h R k => by
  unfold sWhile at h
  split at h
  · rename_i hx
    obtain ⟨n, hn⟩ := Classical.choose_spec hx
    have e := Option.some.inj h
    rw [e] at hn
    clear e h hx
    refine ⟨fun m σ' H' => ∃ ei, whileF ft gb m ei = some o ∧ Rel C ei σ' H', ⟨n, env, hn, R⟩, fun m σ' H' ⟨ei, hm, Ri⟩ => ?_⟩
    cases m with
    | zero => cases hm
    | succ m =>
      unfold whileF at hm
      obtain ⟨⟨b, e1⟩, h1, hm⟩ := Option.bind_eq_some_iff.mp hm
      refine hc C ei σ' H' _ b e1 h1 Ri fun H1 R1 s1 g1 => ?_
      cases b with
      | false =>
        simp only [Bool.false_eq_true, if_false] at hm
        cases hm
        exact k σ' H1 R1
      | true =>
        simp only [if_true] at hm
        obtain ⟨o2, h2, hm⟩ := Option.bind_eq_some_iff.mp hm
        refine ⟨fun σ2 H2 => ∃ e2, whileF ft gb m e2 = some o ∧ Rel C e2 σ2 H2, fun σ2 H2 ⟨e2, q1, q2⟩ => ⟨m, Nat.lt_succ_self m, e2, q1, q2⟩, ?_⟩
        refine hb C e1 σ' H1 _ o2 h2 R1 ?_
        cases o2 with
        | nx e3 => exact fun σ4 H4 R4 => ⟨e3, hm, R4⟩
        | ct e3 => exact fun σ4 H4 R4 => ⟨e3, hm, R4⟩
        | bk e3 =>
          cases hm
          exact fun σ4 H4 R4 => k σ4 H4 R4
        | rt d e3 =>
          cases hm
          exact fun σ4 H4 v R4 dv => k σ4 H4 v R4 dv
  · cases h
end DL

set_option Elab.async false
set_option linter.all false
set_option maxRecDepth 100000
set_option maxHeartbeats 4000000
namespace DL
open PySem L2 PyProof.Rows

/-! ### new lists that may become a slot's own -/
abbrev LF := DEnv → Option (List Dv × DEnv)
def RL (t : TE) (f : LF) : Prop := ∀ (C : DC) (env : DEnv) (σ : L2.St) (H : Hp) (Q : VK) (xs : List Dv) (env' : DEnv), f env = some (xs, env') → Rel C env σ H →
  (∀ p vs H', (∀ d v, Dat (MM C env σ) H d v → Dat (MM (C.plus p) env' σ) H' d v) → C.H0 p = none → ¬ C.M0 p → Rel (C.plus p) env' σ H' → Sh env env' → Grow env σ H H' → H' p = some (.lst vs) → Dats (MM (C.plus p) env' σ) H' xs vs → Q (.ref p) H') → t σ H Q
def fOfL (f : LF) : EF := fun env => (f env).map fun p => (.d (.lst p.1), p.2)
section
variable {C : DC} {env env' : DEnv} {σ σ' : L2.St} {H H' : Hp} {p : Addr} {o : HO}
theorem Rel.notW (R : Rel (C.plus p) env σ H) (h : ¬ C.M0 p) (hio : ∀ i a, C.io = some (i, a) → C.M0 a) : ¬ W env σ p :=
  R.plusW fun i a e z => h (z ▸ hio i a e)
theorem dat_plus {d : Dv} {v : V} (s : Sh env env') (g : Grow env σ H H') (np : H' p = none) (h : Dat (MM C env σ) H d v) : Dat (MM (C.plus p) env' σ) H' d v :=
  (g.dat s h).to (fun _ _ _ q => q) fun a z => by
    rcases z with (z | z) | z
    · exact .inl (.inl z)
    · exact .inr (z ▸ np)
    · exact .inl (.inr z)
theorem re_ofL {t : TE} {f : LF} (h : RL t f) : RE t (fOfL f) := fun C env σ H Q rv env' e R k => by
  unfold fOfL at e
  obtain ⟨⟨xs, e1⟩, h1, e⟩ := Option.map_eq_some_iff.mp e
  cases e
  refine h C env σ H Q xs e1 h1 R fun p vs H' _ h0 hm Rp s g hp hs => ?_
  have R' := Rp.unplus R.hio
  refine k _ H' R' s g ?_
  show Dat (MM C e1 σ) H' (.lst xs) _
  unfold Dat
  exact ⟨p, vs, rfl, fun z => z.elim hm (Rp.notW hm R.hio), hp, Dats.to (fun _ _ _ q => q) (fun a z => .inl (mm_plus z)) _ _ hs⟩
theorem rl_lst {ta : TA} {fa : AF} (ha : RA ta fa) : RL (tLst ta) (fun env => (fa env).bind fun p => (frzs p.2 p.1).bind fun q => if q.1.length ≤ szL then some (q.1, q.2) else none) := fun C env σ H Q xs env' h R k => by
  obtain ⟨⟨rs, e1⟩, h1, h⟩ := Option.bind_eq_some_iff.mp h
  obtain ⟨⟨ds, e2⟩, h2, h⟩ := Option.bind_eq_some_iff.mp h
  split at h
  · rename_i hz
    cases h
    refine ha C env σ H _ rs e1 h1 R fun vs H1 R1 s1 g1 r1 => ?_
    obtain ⟨R2, s2, d2⟩ := frzs_ok R1 r1 h2
    refine ⟨by rw [d2.length]; exact szL_le hz, fun p np => ?_⟩
    refine k p vs _ (fun d v q => (dat_plus (s1.trans s2) (g1.trans s1 (Grow.refl _ _ _)) np q).to (fun a u _ q => by rw [upd_ne (ne_of_none q np)]; exact q) fun _ z => .inl z) (R2.h0 np) (fun z => R2.mem p z np) (R2.plus np _) (s1.trans s2) ((g1.trans s1 (Grow.refl _ _ _)).trans (s1.trans s2) (Grow.new np)) upd_same ?_
    exact Dats.to (fun a u _ q => by rw [upd_ne (ne_of_none q np)]; exact q) (fun a z => by
      rcases z with (z | z) | z
      · exact .inl (.inl z)
      · exact .inr (z ▸ np)
      · exact .inl (.inr z)) _ _ d2
  · cases h
/-- the list at the plus address is written -/
theorem Rel.putD (R : Rel (C.plus p) env σ H) (hw : ¬ W env σ p) (h0 : C.H0 p = none) (hp : ∃ u, H p = some u) : Rel (C.plus p) env σ (upd H p o) where
  len := R.len
  dat := fun i d e => by
    obtain ⟨v, h1, h2⟩ := R.dat i d e
    exact ⟨v, h1, h2.to (fun a u n q => by rw [upd_ne (fun z => n (.inl (.inr z)))]; exact q) fun _ z => .inl z⟩
  own := fun i b xs e => by
    obtain ⟨a, vs, h1, h2, h3⟩ := R.own i b xs e
    have na : a ≠ p := fun z => hw ⟨i, b, xs, e, z ▸ h1⟩
    exact ⟨a, vs, h1, by rw [upd_ne na]; exact h2, Dats.to (fun a u n q => by rw [upd_ne (fun z => n (.inl (.inr z)))]; exact q) (fun _ z => .inl z) _ _ h3⟩
  inj := R.inj
  io := R.io
  iob := R.iob
  no := R.no
  keep := fun a u n q => by
    have na : a ≠ p := fun z => by
      subst z
      have q' : C.H0 a = some u := q
      rw [h0] at q'
      cases q'
    rw [upd_ne na]
    exact R.keep a u n q
  mem := fun a m => by
    by_cases e : a = p
    · rw [e, upd_same]
      intro z
      cases z
    · rw [upd_ne e]
      exact R.mem a m
open Classical in
theorem Rel.heldW (R0 : Rel C env σ H) (R : Rel (C.hold env σ H) env' σ' H') : ∀ a o, ¬ W env σ a → H a = some o → H' a = some o := fun a o n q => by
  refine R.keep a o (fun i e => ?_) ?_
  · obtain ⟨_, xs, h1, h2⟩ := R0.iob i a e
    exact n ⟨i, true, xs, h1, h2⟩
  · show (if W env σ a then none else H a) = some o
    rw [if_neg n, q]
theorem Rel.unholdP (R0 : Rel C env σ H) (hn : H p = none) (R : Rel ((C.hold env σ H).plus p) env' σ' H') : Rel (C.plus p) env' σ' H' := by
  have R1 : Rel (C.hold env σ H) env' σ' H' := R.unplus R0.hold.hio
  have R2 := R0.unhold R1
  exact ⟨R.len, R.dat, R.own, R.inj, R.io, R.iob, fun i xs a e1 e2 => ⟨(R2.no i xs a e1 e2).1, (R.no i xs a e1 e2).2⟩, R2.keep, R.mem⟩
end
def noOwnB (ts : List Nat) (env : DEnv) : Bool := ts.all fun i => match env[i]? with
  | some (.own _ _) => false
  | _ => true
theorem noOwnB_ok {ts : List Nat} {env : DEnv} (h : noOwnB ts env = true) : NoOwn ts env := fun i hi b xs e => by
  have q := List.all_eq_true.mp h i hi
  simp only [e] at q
  cases q
def compF (gf : GF) (ft : TF) (fe : EF) (ts : List Nat) : List Dv → DEnv → List Dv → Option (List Dv × DEnv)
  | [], e, acc => some (acc, e)
  | d :: r, e, acc => (gf d e).bind fun e1 => (ft e1).bind fun p => if p.1 = true then (fe p.2).bind fun q => (frz q.2 q.1).bind fun z => if acc.length < szL then compF gf ft fe ts r (wipeE z.2 ts) (acc ++ [z.1]) else none
    else compF gf ft fe ts r (wipeE p.2 ts) acc
def fLc (fi : IF) (gf : GF) (ft : TF) (fe : EF) (ts : List Nat) : LF := fun env => (fi env).bind fun p => if noOwnB ts p.2 = true then (compF gf ft fe ts p.1 (wipeE p.2 ts) []).map fun q => (q.1, backE p.2 q.2 ts) else none
theorem szL_lt {n : Nat} (h : n < szL) : n < sizeLine := Nat.lt_of_lt_of_le h (szL_le (Nat.le_refl _))
theorem wipe_wipe {σ : L2.St} {ts : List Nat} : wipe (wipe σ ts) ts = wipe σ ts := by
  apply List.ext_getElem?
  intro j
  rw [wipe_get, wipe_get, wipe_length]
  split <;> rfl
theorem rl_lc {wi : TI} {fi : IF} {g : TG} {us ts : List Nat} {gf : GF} {tt : TT} {ft : TF} {te : TE} {fe : EF} (hi : RI wi fi) (hg : RG g us gf) (hu : ∀ i ∈ us, i ∈ ts) (ht : RT tt ft) (he : RE te fe) : RL (tLc wi g tt te ts) (fLc fi gf ft fe ts) := fun C env σ H Q xs env' h R k => by
  unfold fLc at h
  obtain ⟨⟨ds, e1⟩, h1, h⟩ := Option.bind_eq_some_iff.mp h
  split at h
  case isFalse => cases h
  rename_i hno
  have hno : NoOwn ts e1 := noOwnB_ok hno
  obtain ⟨⟨ys, en⟩, h2, h⟩ := Option.map_eq_some_iff.mp h
  cases h
  refine hi C env σ H _ ds e1 h1 R fun J H1 R1 s1 g1 it => ?_
  intro D nD
  obtain ⟨Rw, ww⟩ := R1.wiped hno
  have Rh := Rw.hold
  have c0 : C.H0 D = none := R1.h0 nD
  have cm : ¬ C.M0 D := fun z => R1.mem D z nD
  have Rp := Rh.plus nD (.lst [])
  have h00 : (C.hold (wipeE e1 ts) (wipe σ ts) H1).H0 D = none := Rh.h0 nD
  have hio : ∀ i a, (C.hold (wipeE e1 ts) (wipe σ ts) H1).io = some (i, a) → (C.hold (wipeE e1 ts) (wipe σ ts) H1).M0 a := Rh.hio
  refine lc_it it.walk (fun i H' => ∃ ei acc vs, compF gf ft fe ts (ds.drop i) ei acc = some (ys, en) ∧ Rel ((C.hold (wipeE e1 ts) (wipe σ ts) H1).plus D) ei (wipe σ ts) H' ∧ Sh (wipeE e1 ts) ei ∧ H' D = some (.lst vs) ∧
      Dats (MM ((C.hold (wipeE e1 ts) (wipe σ ts) H1).plus D) ei (wipe σ ts)) H' acc vs) ⟨_, [], [], h2, Rp, Sh.refl _, upd_same, .nil⟩ (fun i H' _ ⟨ei, acc, vs, _, Ri, _⟩ => ?_)
    (fun i x H2 H3 hii ⟨ei, acc, vs, hc, Ri, si, hD, hacc⟩ ⟨y1, y2⟩ => ?_) fun H' ⟨ei, acc, vs, hc, Ri, si, hD, hacc⟩ => ?_
  · intro a o n q
    refine Rw.heldW (Ri.unplus hio) a o (fun z => n (.inr ((ww a).mp z))) q
  · have hd : ds.drop i = ds[i] :: ds.drop (i + 1) := List.drop_eq_getElem_cons hii
    rw [hd] at hc
    unfold compF at hc
    obtain ⟨e2, q2, hc⟩ := Option.bind_eq_some_iff.mp hc
    obtain ⟨⟨b, e3⟩, q3, hc⟩ := Option.bind_eq_some_iff.mp hc
    have nw : ¬ W ei (wipe σ ts) D := Ri.notW cm hio
    have noi : NoOwn ts ei := fun j hj b zs e => by
      obtain ⟨_, z⟩ := si.2 j b zs e
      rw [wipeE_get, if_pos hj] at z
      split at z <;> cases z
    have dx : Dat (MM ((C.hold (wipeE e1 ts) (wipe σ ts) H1).plus D) ei (wipe σ ts)) H3 ds[i] x := by
      refine y2 _ (fun a z => ?_) (fun a z => Ri.memM a z) _ (List.getElem?_eq_getElem hii)
      rcases z with (z | z) | z
      · exact .inl (.inl z)
      · exact .inr (z ▸ nD)
      · rcases Rw.heldM (Ri.unplus hio) a (.inr z) with (w | w) | w
        · exact .inl (.inl w)
        · exact .inl (.inr ((ww a).mp w))
        · exact .inr w
    refine hg _ ei (wipe σ ts) H3 ds[i] x _ e2 q2 (Ri.grow y1) dx fun σ2 R2 w2 o2 n2 k2 => ⟨by rw [w2 ts hu, wipe_wipe], ?_⟩
    have m2 : ∀ a, MM ((C.hold (wipeE e1 ts) (wipe σ ts) H1).plus D) e2 σ2 a → MM ((C.hold (wipeE e1 ts) (wipe σ ts) H1).plus D) ei (wipe σ ts) a := fun a z => z.imp id fun ⟨j, b, zs, z1, z2⟩ => ⟨j, b, zs, (o2 j b zs z1).1, by rw [← (o2 j b zs z1).2]; exact z2⟩
    have acc2 : Dats (MM ((C.hold (wipeE e1 ts) (wipe σ ts) H1).plus D) e2 σ2) H3 acc vs := Dats.to (fun a o _ q => y1 a o q) (fun a z => .inl (m2 a z)) _ _ hacc
    have no2 : NoOwn ts e2 := fun j hj b zs e => by
      obtain ⟨z, _⟩ := o2 j b zs e
      exact noi j hj b zs z
    have sh2 : Sh ei e2 := ⟨by rw [← R2.len, ← Ri.len]; have := congrArg List.length (w2 ts hu); rw [wipe_length, wipe_length] at this; exact this, fun j b zs e => ⟨zs, (o2 j b zs e).1⟩⟩
    refine ht _ e2 σ2 H3 _ b e3 q3 R2 fun H4 R4 s4 g4 => ?_
    have nw2 : ¬ W e2 σ2 D := R2.notW cm hio
    have hD4 : H4 D = some (.lst vs) := g4 D _ nw2 (y1 D _ hD)
    have no3 : NoOwn ts e3 := fun j hj b zs e => by
      obtain ⟨_, z⟩ := s4.2 j b zs e
      exact no2 j hj b _ z
    have ew : wipe σ2 ts = wipe σ ts := by rw [w2 ts hu, wipe_wipe]
    have shw : ∀ {e : DEnv}, NoOwn ts e → Sh ei e → Sh (wipeE e1 ts) (wipeE e ts) := fun {e} ne s => by
      refine ⟨by rw [wipeE_length]; exact s.1.trans si.1, fun j b zs q => ?_⟩
      rw [wipeE_get] at q
      split at q
      · split at q <;> cases q
      · obtain ⟨_, z⟩ := s.2 j b zs q
        exact si.2 j b _ z
    cases b with
    | false =>
      simp only [Bool.false_eq_true, if_false] at hc ⊢
      obtain ⟨R5, w5⟩ := R4.wiped no3
      rw [ew] at R5
      refine ⟨_, acc, vs, hc, R5, shw no3 (sh2.trans s4), hD4, ?_⟩
      have q := g4.dats s4 acc2
      rw [← ew]
      exact Dats.to (fun _ _ _ q => q) (fun a z => .inl (z.imp id (w5 a).mp)) _ _ q
    | true =>
      simp only [if_true] at hc ⊢
      obtain ⟨⟨rv, e4⟩, q4, hc⟩ := Option.bind_eq_some_iff.mp hc
      obtain ⟨⟨dd, e5⟩, q5, hc⟩ := Option.bind_eq_some_iff.mp hc
      split at hc
      case isFalse => cases hc
      rename_i hz
      refine he _ e3 σ2 H4 _ rv e4 q4 R4 fun y H5 R5 s5 g5 r5 => ?_
      obtain ⟨R6, s6, d6⟩ := frz_ok R5 r5 q5
      have nw3 : ¬ W e3 σ2 D := R4.notW cm hio
      have hD5 : H5 D = some (.lst vs) := g5 D _ nw3 hD4
      have no5 : NoOwn ts e5 := fun j hj b zs e => by
        obtain ⟨_, z⟩ := (s5.trans s6).2 j b zs e
        exact no3 j hj b _ z
      obtain ⟨R7, w7⟩ := R6.wiped no5
      rw [ew] at R7
      have acc5 : Dats (MM ((C.hold (wipeE e1 ts) (wipe σ ts) H1).plus D) e5 σ2) H5 acc vs := (Grow.refl _ _ _).dats s6 (g5.dats s5 (g4.dats s4 acc2))
      have acc6 : Dats (MM ((C.hold (wipeE e1 ts) (wipe σ ts) H1).plus D) e5 σ2) H5 (acc ++ [dd]) (vs ++ [y]) := acc5.app (.one d6)
      have nw7 : ¬ W (wipeE e5 ts) (wipe σ ts) D := R7.notW cm hio
      refine ⟨vs, hD5, by rw [acc5.length]; exact szL_lt hz, _, acc ++ [dd], vs ++ [y], hc, R7.putD nw7 h00 ⟨_, hD5⟩, shw no5 ((sh2.trans s4).trans (s5.trans s6)), upd_same, ?_⟩
      rw [ew] at w7
      exact Dats.to (fun a u n q => by rw [upd_ne (fun z => n (.inl (.inr z)))]; exact q) (fun a z => .inl (z.imp id (w7 a).mp)) _ _ acc6
  · rw [List.drop_of_length_le (Nat.le_refl _)] at hc
    unfold compF at hc
    cases hc
    have R2 := Rw.unholdP nD Ri
    have hlen : en.length = e1.length := by rw [si.1, wipeE_length]
    have hw : Rel C en (wipe σ ts) H' := R2.unplus R1.hio
    have own : ∀ (j : Nat) b zs, (backE e1 en ts)[j]? = some (.own b zs) → en[j]? = some (.own b zs) ∧ (wipe σ ts)[j]? = σ[j]? ∧ ∃ zs', e1[j]? = some (.own b zs') := fun j b zs q => by
      rw [backE_get hlen] at q
      by_cases hj : j ∈ ts
      · rw [if_pos hj] at q
        exact absurd q (hno j hj b zs)
      · rw [if_neg hj] at q
        obtain ⟨zs', z⟩ := si.2 j b zs q
        rw [wipeE_get, if_neg hj] at z
        exact ⟨q, by rw [wipe_get, if_neg hj], zs', z⟩
    have own' : ∀ (j : Nat) b zs, en[j]? = some (.own b zs) → (backE e1 en ts)[j]? = some (.own b zs) ∧ (wipe σ ts)[j]? = σ[j]? := fun j b zs q => by
      have hj : j ∉ ts := fun hj => by
        obtain ⟨_, z⟩ := si.2 j b zs q
        rw [wipeE_get, if_pos hj] at z
        split at z <;> cases z
      exact ⟨by rw [backE_get hlen, if_neg hj]; exact q, by rw [wipe_get, if_neg hj]⟩
    have wb : ∀ a, W (backE e1 en ts) σ a → W en (wipe σ ts) a := fun a ⟨j, b, zs, z1, z2⟩ => ⟨j, b, zs, (own j b zs z1).1, by rw [(own j b zs z1).2.1]; exact z2⟩
    have mb : ∀ a, MM (C.plus D) (backE e1 en ts) σ a → MM (C.plus D) en (wipe σ ts) a := fun a z => z.imp id (wb a)
    have sh : Sh e1 (backE e1 en ts) := ⟨by rw [backE_length, hlen], fun j b zs q => (own j b zs q).2.2⟩
    have heldd : ∀ a o, ¬ W e1 σ a → H1 a = some o → H' a = some o := fun a o n q => Rw.heldW (Ri.unplus hio) a o (fun z => n ((ww a).mp z)) q
    have RB : Rel (C.plus D) (backE e1 en ts) σ H' := by
      refine ⟨by rw [backE_length, hlen]; exact R1.len, fun j d q => ?_, fun j b zs q => ?_, fun j k b c zs zs' a q1 q2 z1 z2 => ?_, fun j zs q => R2.io j zs (own j _ _ q).1, fun j a q => ?_, fun j zs a q z => ?_, R2.keep, R2.mem⟩
      · rw [backE_get hlen] at q
        by_cases hj : j ∈ ts
        · rw [if_pos hj] at q
          obtain ⟨v, z1, z2⟩ := R1.dat j d q
          refine ⟨v, z1, z2.to (fun a o n q => heldd a o (fun z => n (.inr z)) q) fun a z => ?_⟩
          rcases z with (z | z) | z
          · exact .inl (.inl z)
          · exact .inr (z ▸ nD)
          · exact .inl (.inr (sh.w z))
        · rw [if_neg hj] at q
          obtain ⟨v, z1, z2⟩ := R2.dat j d q
          rw [wipe_get, if_neg hj] at z1
          exact ⟨v, z1, z2.to (fun _ _ _ q => q) fun a z => .inl (mb a z)⟩
      · obtain ⟨z1, z2, _⟩ := own j b zs q
        obtain ⟨a, ws, z3, z4, z5⟩ := R2.own j b zs z1
        exact ⟨a, ws, by rw [← z2]; exact z3, z4, Dats.to (fun _ _ _ q => q) (fun a z => .inl (mb a z)) _ _ z5⟩
      · obtain ⟨y1, y2, _⟩ := own j _ _ q1
        obtain ⟨y3, y4, _⟩ := own k _ _ q2
        exact R2.inj j k b c zs zs' a y1 y3 (by rw [y2]; exact z1) (by rw [y4]; exact z2)
      · obtain ⟨z1, zs, z2, z3⟩ := R2.iob j a q
        obtain ⟨z4, z5⟩ := own' j _ _ z2
        exact ⟨z1, zs, z4, by rw [← z5]; exact z3⟩
      · obtain ⟨z1, z2, _⟩ := own j _ _ q
        exact R2.no j zs a z1 (by rw [z2]; exact z)
    refine k D vs H' (fun d v q => (dat_plus s1 g1 nD q).to (fun a o n q => heldd a o (fun z => n (.inr z)) q) fun a z => .inl (z.imp id sh.w)) c0 cm RB (s1.trans sh) (g1.trans s1 (fun a o n q => heldd a o n q)) hD ?_
    exact Dats.to (fun _ _ _ q => q) (fun a z => .inl (mb a z)) _ _ hacc
end DL

set_option Elab.async false
set_option linter.all false
set_option maxRecDepth 100000
set_option maxHeartbeats 4000000
namespace DL
open PySem L2 PyProof.Rows

section
variable {C : DC} {env env' : DEnv} {σ σ' : L2.St} {H H' : Hp} {p a : Addr} {o : HO}
/-- a new list becomes a slot's own -/
theorem Rel.ownSet (R : Rel (C.plus p) env σ H) (hio : ∀ i a, C.io = some (i, a) → C.M0 a) (h0 : C.H0 p = none) (hm : ¬ C.M0 p) {i : Nat} {s : Slot} (e : env[i]? = some s) (ns : ∀ xs, s ≠ .own true xs) {xs : List Dv} {vs : List V} (hp : H p = some (.lst vs))
    (hs : Dats (MM (C.plus p) env σ) H xs vs) : Rel C (env.set i (.own false xs)) (σ.set i (some (.ref p))) H ∧ ∀ a, MM C (env.set i (.own false xs)) (σ.set i (some (.ref p))) a → MM (C.plus p) env σ a := by
  have hi : i < env.length := (List.getElem?_eq_some_iff.mp e).1
  have hsi : i < σ.length := by rw [R.len]; exact hi
  have nw := R.notW hm hio
  have own : ∀ (j : Nat) b ys, (env.set i (Slot.own false xs))[j]? = some (.own b ys) → (j = i ∧ b = false ∧ ys = xs) ∨ (j ≠ i ∧ env[j]? = some (.own b ys) ∧ (σ.set i (some (V.ref p)))[j]? = σ[j]?) := fun j b ys q => by
    rw [set_get] at q
    by_cases h : i = j
    · rw [if_pos h, if_pos hi] at q
      cases q
      exact .inl ⟨h.symm, rfl, rfl⟩
    · rw [if_neg h] at q
      exact .inr ⟨fun z => h z.symm, q, List.getElem?_set_ne h⟩
  have si : (σ.set i (some (V.ref p)))[i]? = some (some (.ref p)) := by rw [set_get, if_pos rfl, if_pos hsi]
  have m : ∀ a, MM C (env.set i (.own false xs)) (σ.set i (some (.ref p))) a → MM (C.plus p) env σ a := fun a z => by
    rcases z with z | ⟨j, b, ys, h1, h2⟩
    · exact .inl (.inl z)
    · rcases own j b ys h1 with ⟨rfl, _, _⟩ | ⟨_, h3, h4⟩
      · rw [si] at h2
        cases h2
        exact .inl (.inr rfl)
      · exact .inr ⟨j, b, ys, h3, by rw [← h4]; exact h2⟩
  have keepio : ∀ i a, C.io = some (i, a) → a ≠ p := fun i a e z => hm (z ▸ hio i a e)
  refine ⟨⟨by rw [List.length_set, List.length_set]; exact R.len, fun j x q => ?_, fun j b ys q => ?_, fun j k b c ys zs a q1 q2 h1 h2 => ?_, fun j ys q => ?_, fun j a q => ?_, fun j ys a q h1 => ?_, R.keep, fun a m => R.mem a (.inl m)⟩, m⟩
  · rw [set_get] at q
    by_cases h : i = j
    · rw [if_pos h, if_pos hi] at q
      cases q
    · rw [if_neg h] at q
      obtain ⟨u, h1, h2⟩ := R.dat j x q
      exact ⟨u, by rw [set_get, if_neg h]; exact h1, h2.to (fun _ _ _ q => q) fun a z => .inl (m a z)⟩
  · rcases own j b ys q with ⟨rfl, rfl, rfl⟩ | ⟨_, h3, h4⟩
    · exact ⟨p, vs, si, hp, Dats.to (fun _ _ _ q => q) (fun a z => .inl (m a z)) _ _ hs⟩
    · obtain ⟨a, ws, h5, h6, h7⟩ := R.own j b ys h3
      exact ⟨a, ws, by rw [h4]; exact h5, h6, Dats.to (fun _ _ _ q => q) (fun a z => .inl (m a z)) _ _ h7⟩
  · rcases own j b ys q1 with ⟨rfl, _, _⟩ | ⟨n1, h3, h4⟩
    · rw [si] at h1
      cases h1
      rcases own k c zs q2 with ⟨rfl, _, _⟩ | ⟨n2, h5, h6⟩
      · rfl
      · rw [h6] at h2
        exact absurd ⟨k, c, zs, h5, h2⟩ nw
    · rcases own k c zs q2 with ⟨rfl, _, _⟩ | ⟨n2, h5, h6⟩
      · rw [si] at h2
        cases h2
        rw [h4] at h1
        exact absurd ⟨j, b, ys, h3, h1⟩ nw
      · exact R.inj j k b c ys zs a h3 h5 (by rw [← h4]; exact h1) (by rw [← h6]; exact h2)
  · rcases own j true ys q with ⟨_, z, _⟩ | ⟨_, h3, _⟩
    · cases z
    · exact R.io j ys h3
  · obtain ⟨_, ys, h2, h3⟩ := R.iob j a q
    have n : i ≠ j := fun z => by
      subst z
      rw [e] at h2
      exact ns ys (Option.some.inj h2)
    exact ⟨hio j a q, ys, by rw [set_get, if_neg n]; exact h2, by rw [set_get, if_neg n]; exact h3⟩
  · rcases own j false ys q with ⟨rfl, _, _⟩ | ⟨_, h3, h4⟩
    · rw [si] at h1
      cases h1
      exact ⟨h0, hm⟩
    · rw [h4] at h1
      obtain ⟨h5, h6⟩ := R.no j ys a h3 h1
      exact ⟨h5, fun z => h6 (.inl z)⟩
def canSet (env : DEnv) (i : Nat) : Bool := match env[i]? with
  | none => false
  | some (.own true _) => false
  | _ => true
theorem canSet_ok {i : Nat} (h : canSet env i = true) : ∃ s, env[i]? = some s ∧ ∀ xs, s ≠ .own true xs := by
  unfold canSet at h
  split at h
  · cases h
  · cases h
  · rename_i n1 n2
    cases e : env[i]? with
    | none => exact absurd e n1
    | some s => exact ⟨s, rfl, fun xs z => n2 xs (by rw [e, z])⟩
def sOwn (i : Nat) (f : LF) : SF := fun env => (f env).bind fun p => if canSet p.2 i = true then some (.nx (p.2.set i (.own false p.1))) else none
theorem rs_own {te : TE} {f : LF} {i : Nat} (he : RL te f) : RS (tAsg te (gName i)) (sOwn i f) := fun C env σ H D o h R k => by
  unfold sOwn at h
  obtain ⟨⟨xs, e1⟩, h1, h⟩ := Option.bind_eq_some_iff.mp h
  split at h
  · rename_i hc
    cases h
    obtain ⟨s, e, ns⟩ := canSet_ok hc
    refine he C env σ H _ xs e1 h1 R fun p vs H' _ h0 hm Rp s1 g1 hp hs => ?_
    exact k _ H' (Rp.ownSet R.hio h0 hm e ns hp hs).1
  · cases h
/-- a, b = e1, e2 -/
def sPar (i j : Nat) (fa fb : EF) : SF := fun env => (fa env).bind fun p => (fb p.2).bind fun q => (frz q.2 p.1).bind fun x => (frz x.2 q.1).bind fun y => (fName i x.1 y.2).bind fun e1 => (fName j y.1 e1).map Out.nx
theorem rs_par {i j : Nat} {ta tb : TE} {fa fb : EF} (ha : RE ta fa) (hb : RE tb fb) : RS (tPar i j (tCons ta (tCons tb tNil))) (sPar i j fa fb) := fun C env σ H D o h R k => by
  unfold sPar at h
  obtain ⟨⟨x, e1⟩, h1, h⟩ := Option.bind_eq_some_iff.mp h
  obtain ⟨⟨y, e2⟩, h2, h⟩ := Option.bind_eq_some_iff.mp h
  obtain ⟨⟨dx, e3⟩, h3, h⟩ := Option.bind_eq_some_iff.mp h
  obtain ⟨⟨dy, e4⟩, h4, h⟩ := Option.bind_eq_some_iff.mp h
  obtain ⟨e5, h5, h⟩ := Option.bind_eq_some_iff.mp h
  obtain ⟨e6, h6, h⟩ := Option.map_eq_some_iff.mp h
  cases h
  refine ha C env σ H _ x e1 h1 R fun v H1 R1 s1 g1 r1 => ?_
  refine hb C e1 σ H1 _ y e2 h2 R1 fun w H2 R2 s2 g2 r2 => ?_
  obtain ⟨R3, s3, d3⟩ := frz_ok R2 (r1.step s2 g2) h3
  obtain ⟨R4, s4, d4⟩ := frz_ok R3 (r2.step s3 (Grow.refl _ _ _)) h4
  have d3' := (Grow.refl _ _ H2).dat s4 d3
  refine ⟨v, w, rfl, ?_⟩
  refine rg_name C e4 σ H2 dx v (fun σ' H' => D.nx (σ'.set j (some w)) H') e5 h5 R4 d3' fun σ5 R5 _ o5 _ _ => ?_
  refine rg_name C e5 σ5 H2 dy w _ e6 h6 R5 (d4.to (fun _ _ _ q => q) fun a z => .inl (z.imp id fun ⟨j, b, xs, q1, q2⟩ => ⟨j, b, xs, (o5 j b xs q1).1, by rw [← (o5 j b xs q1).2]; exact q2⟩)) fun σ6 R6 _ _ _ _ => k σ6 H2 R6
/-- a, b = [..], e -/
def sParOD (i j : Nat) (fa : LF) (fb : EF) : SF := fun env => (fa env).bind fun p => (fb p.2).bind fun q => (frz q.2 q.1).bind fun y => if canSet y.2 i = true then (fName j y.1 (y.2.set i (.own false p.1))).map Out.nx else none
theorem rs_parOD {i j : Nat} {ta tb : TE} {fa : LF} {fb : EF} (ha : RL ta fa) (hb : RE tb fb) : RS (tPar i j (tCons ta (tCons tb tNil))) (sParOD i j fa fb) := fun C env σ H D o h R k => by
  unfold sParOD at h
  obtain ⟨⟨xs, e1⟩, h1, h⟩ := Option.bind_eq_some_iff.mp h
  obtain ⟨⟨y, e2⟩, h2, h⟩ := Option.bind_eq_some_iff.mp h
  obtain ⟨⟨dy, e3⟩, h3, h⟩ := Option.bind_eq_some_iff.mp h
  split at h
  case isFalse => cases h
  rename_i hc
  obtain ⟨e4, h4, h⟩ := Option.map_eq_some_iff.mp h
  cases h
  obtain ⟨s, es, ns⟩ := canSet_ok hc
  refine ha C env σ H _ xs e1 h1 R fun p vs H1 _ h0 hm Rp s1 g1 hp hs => ?_
  refine hb (C.plus p) e1 σ H1 _ y e2 h2 Rp fun w H2 R2 s2 g2 r2 => ?_
  obtain ⟨R3, s3, d3⟩ := frz_ok R2 r2 h3
  have hp2 : H2 p = some (.lst vs) := g2 p _ (Rp.notW hm R.hio) hp
  have hs2 := (Grow.refl _ _ H2).dats s3 (g2.dats s2 hs)
  obtain ⟨R4, m4⟩ := R3.ownSet R.hio h0 hm es ns hp2 hs2
  refine ⟨_, w, rfl, ?_⟩
  exact rg_name C _ _ H2 dy w _ e4 h4 R4 (d3.to (fun _ _ _ q => q) fun a z => .inl (m4 a z)) fun σ6 R6 _ _ _ _ => k σ6 H2 R6
/-- a, b = e, [..] -/
def sParDO (i j : Nat) (fa : EF) (fb : LF) : SF := fun env => (fa env).bind fun p => (frz p.2 p.1).bind fun x => (fb x.2).bind fun q => if canSet q.2 j = true then (fName i x.1 (q.2.set j (.own false q.1))).map Out.nx else none
theorem rs_parDO {i j : Nat} (hij : i ≠ j) {ta tb : TE} {fa : EF} {fb : LF} (ha : RE ta fa) (hb : RL tb fb) : RS (tPar i j (tCons ta (tCons tb tNil))) (sParDO i j fa fb) := fun C env σ H D o h R k => by
  unfold sParDO at h
  obtain ⟨⟨x, e1⟩, h1, h⟩ := Option.bind_eq_some_iff.mp h
  obtain ⟨⟨dx, e2⟩, h2, h⟩ := Option.bind_eq_some_iff.mp h
  obtain ⟨⟨ys, e3⟩, h3, h⟩ := Option.bind_eq_some_iff.mp h
  split at h
  case isFalse => cases h
  rename_i hc
  obtain ⟨e4, h4, h⟩ := Option.map_eq_some_iff.mp h
  cases h
  obtain ⟨s, es, ns⟩ := canSet_ok hc
  refine ha C env σ H _ x e1 h1 R fun v H1 R1 s1 g1 r1 => ?_
  obtain ⟨R2, s2, d2⟩ := frz_ok R1 r1 h2
  refine hb C e2 σ H1 _ ys e3 h3 R2 fun p vs H2 dp h0 hm Rp s3 g3 hp hs => ?_
  obtain ⟨R4, m4⟩ := Rp.ownSet R.hio h0 hm es ns hp hs
  refine ⟨v, _, rfl, ?_⟩
  show D.nx ((σ.set i (some v)).set j (some (.ref p))) H2
  rw [List.set_comm _ _ hij]
  exact rg_name C _ _ H2 dx v _ e4 h4 R4 ((dp dx v d2).to (fun _ _ _ q => q) fun a z => .inl (m4 a z)) fun σ6 R6 _ _ _ _ => k σ6 H2 R6
/-- a, b, c = e1, e2, e3 -/
def sPar3 (i j l : Nat) (fa fb fc : EF) : SF := fun env => (fa env).bind fun p => (frz p.2 p.1).bind fun x => (fb x.2).bind fun q => (frz q.2 q.1).bind fun y => (fc y.2).bind fun r => (frz r.2 r.1).bind fun z => (fName i x.1 z.2).bind fun e1 => (fName j y.1 e1).bind fun e2 => (fName l z.1 e2).map Out.nx
theorem rs_par3 {i j l : Nat} {ta tb tc : TE} {fa fb fc : EF} (ha : RE ta fa) (hb : RE tb fb) (hc : RE tc fc) : RS (tPar3 i j l (tCons ta (tCons tb (tCons tc tNil)))) (sPar3 i j l fa fb fc) := fun C env σ H D o h R k => by
  unfold sPar3 at h
  obtain ⟨⟨x, e1⟩, h1, h⟩ := Option.bind_eq_some_iff.mp h
  obtain ⟨⟨dx, e2⟩, h2, h⟩ := Option.bind_eq_some_iff.mp h
  obtain ⟨⟨y, e3⟩, h3, h⟩ := Option.bind_eq_some_iff.mp h
  obtain ⟨⟨dy, e4⟩, h4, h⟩ := Option.bind_eq_some_iff.mp h
  obtain ⟨⟨z, e5⟩, h5, h⟩ := Option.bind_eq_some_iff.mp h
  obtain ⟨⟨dz, e6⟩, h6, h⟩ := Option.bind_eq_some_iff.mp h
  obtain ⟨e7, h7, h⟩ := Option.bind_eq_some_iff.mp h
  obtain ⟨e8, h8, h⟩ := Option.bind_eq_some_iff.mp h
  obtain ⟨e9, h9, h⟩ := Option.map_eq_some_iff.mp h
  cases h
  refine ha C env σ H _ x e1 h1 R fun v H1 R1 s1 g1 r1 => ?_
  obtain ⟨R2, s2, d2⟩ := frz_ok R1 r1 h2
  refine hb C e2 σ H1 _ y e3 h3 R2 fun w H2 R3 s3 g3 r3 => ?_
  obtain ⟨R4, s4, d4⟩ := frz_ok R3 r3 h4
  refine hc C e4 σ H2 _ z e5 h5 R4 fun u H3 R5 s5 g5 r5 => ?_
  obtain ⟨R6, s6, d6⟩ := frz_ok R5 r5 h6
  have dx' : Dat (MM C e6 σ) H3 dx v := (Grow.refl _ _ H3).dat s6 (g5.dat s5 ((Grow.refl _ _ H2).dat s4 (g3.dat s3 d2)))
  have dy' : Dat (MM C e6 σ) H3 dy w := (Grow.refl _ _ H3).dat s6 (g5.dat s5 d4)
  refine ⟨v, w, u, rfl, ?_⟩
  refine rg_name C e6 σ H3 dx v (fun σ' H' => D.nx ((σ'.set j (some w)).set l (some u)) H') e7 h7 R6 dx' fun σ7 R7 _ o7 _ _ => ?_
  have m7 : ∀ a, MM C e7 σ7 a → MM C e6 σ a := fun a z => z.imp id fun ⟨j, b, xs, q1, q2⟩ => ⟨j, b, xs, (o7 j b xs q1).1, by rw [← (o7 j b xs q1).2]; exact q2⟩
  refine rg_name C e7 σ7 H3 dy w (fun σ' H' => D.nx (σ'.set l (some u)) H') e8 h8 R7 (dy'.to (fun _ _ _ q => q) fun a z => .inl (m7 a z)) fun σ8 R8 _ o8 _ _ => ?_
  have m8 : ∀ a, MM C e8 σ8 a → MM C e7 σ7 a := fun a z => z.imp id fun ⟨j, b, xs, q1, q2⟩ => ⟨j, b, xs, (o8 j b xs q1).1, by rw [← (o8 j b xs q1).2]; exact q2⟩
  exact rg_name C e8 σ8 H3 dz u _ e9 h9 R8 (d6.to (fun _ _ _ q => q) fun a z => .inl (m7 a (m8 a z))) fun σ9 R9 _ _ _ _ => k σ9 H3 R9
/-- a, b, c = [..], e, e' -/
def sPar3O (i j l : Nat) (fa : LF) (fb fc : EF) : SF := fun env => (fa env).bind fun p => (fb p.2).bind fun q => (frz q.2 q.1).bind fun y => (fc y.2).bind fun r => (frz r.2 r.1).bind fun z => if canSet z.2 i = true then (fName j y.1 (z.2.set i (.own false p.1))).bind fun e2 => (fName l z.1 e2).map Out.nx else none
theorem rs_par3O {i j l : Nat} {ta tb tc : TE} {fa : LF} {fb fc : EF} (ha : RL ta fa) (hb : RE tb fb) (hc : RE tc fc) : RS (tPar3 i j l (tCons ta (tCons tb (tCons tc tNil)))) (sPar3O i j l fa fb fc) := fun C env σ H D o h R k => by
  unfold sPar3O at h
  obtain ⟨⟨xs, e1⟩, h1, h⟩ := Option.bind_eq_some_iff.mp h
  obtain ⟨⟨y, e3⟩, h3, h⟩ := Option.bind_eq_some_iff.mp h
  obtain ⟨⟨dy, e4⟩, h4, h⟩ := Option.bind_eq_some_iff.mp h
  obtain ⟨⟨z, e5⟩, h5, h⟩ := Option.bind_eq_some_iff.mp h
  obtain ⟨⟨dz, e6⟩, h6, h⟩ := Option.bind_eq_some_iff.mp h
  split at h
  case isFalse => cases h
  rename_i hcs
  obtain ⟨e8, h8, h⟩ := Option.bind_eq_some_iff.mp h
  obtain ⟨e9, h9, h⟩ := Option.map_eq_some_iff.mp h
  cases h
  obtain ⟨s, es, ns⟩ := canSet_ok hcs
  refine ha C env σ H _ xs e1 h1 R fun p vs H1 dp h0 hm Rp s1 g1 hp hs => ?_
  refine hb (C.plus p) e1 σ H1 _ y e3 h3 Rp fun w H2 R3 s3 g3 r3 => ?_
  obtain ⟨R4, s4, d4⟩ := frz_ok R3 r3 h4
  refine hc (C.plus p) e4 σ H2 _ z e5 h5 R4 fun u H3 R5 s5 g5 r5 => ?_
  obtain ⟨R6, s6, d6⟩ := frz_ok R5 r5 h6
  have hp2 : H2 p = some (.lst vs) := g3 p _ (Rp.notW hm R.hio) hp
  have hp3 : H3 p = some (.lst vs) := g5 p _ (R4.notW hm R.hio) hp2
  have dy' : Dat (MM (C.plus p) e6 σ) H3 dy w := (Grow.refl _ _ H3).dat s6 (g5.dat s5 d4)
  have hs3 := (Grow.refl _ _ H3).dats s6 (g5.dats s5 ((Grow.refl _ _ H2).dats s4 (g3.dats s3 hs)))
  obtain ⟨R7, m7⟩ := R6.ownSet R.hio h0 hm es ns hp3 hs3
  refine ⟨_, w, u, rfl, ?_⟩
  refine rg_name C _ _ H3 dy w (fun σ' H' => D.nx (σ'.set l (some u)) H') e8 h8 R7 (dy'.to (fun _ _ _ q => q) fun a z => .inl (m7 a z)) fun σ8 R8 _ o8 _ _ => ?_
  have m8 : ∀ a, MM C e8 σ8 a → MM (C.plus p) e6 σ a := fun a z => m7 a (z.imp id fun ⟨j, b, xs, q1, q2⟩ => ⟨j, b, xs, (o8 j b xs q1).1, by rw [← (o8 j b xs q1).2]; exact q2⟩)
  exact rg_name C e8 σ8 H3 dz u _ e9 h9 R8 (d6.to (fun _ _ _ q => q) fun a z => .inl (m8 a z)) fun σ9 R9 _ _ _ _ => k σ9 H3 R9
/-! ### own lists changed -/
def ownL (env : DEnv) (i : Nat) : Option (Bool × List Dv) := match env[i]? with
  | some (.own b xs) => some (b, xs)
  | _ => none
theorem ownL_ok {i : Nat} {b : Bool} {xs : List Dv} (h : ownL env i = some (b, xs)) : env[i]? = some (.own b xs) := by
  unfold ownL at h
  split at h
  · rename_i e
    cases h
    exact e
  · cases h
def sApp (i : Nat) (fe : EF) : SF := fun env => (ownL env i).bind fun _ => (fe env).bind fun p => (frz p.2 p.1).bind fun q => (ownL q.2 i).bind fun w => if w.2.length < szL then some (.nx (q.2.set i (.own w.1 (w.2 ++ [q.1])))) else none
theorem rs_app {K : PySem.W.Frag} {i : Nat} {te : TE} {fe : EF} (he : RE te fe) : RS (tDrop (tBM K "list" rAppend (tVar i) (tCons te tNil))) (sApp i fe) := fun C env σ H D o h R k => by
  unfold sApp at h
  obtain ⟨⟨b0, ys⟩, h0, h⟩ := Option.bind_eq_some_iff.mp h
  obtain ⟨⟨x, e1⟩, h1, h⟩ := Option.bind_eq_some_iff.mp h
  obtain ⟨⟨d, e2⟩, h2, h⟩ := Option.bind_eq_some_iff.mp h
  obtain ⟨⟨b, xs⟩, h3, h⟩ := Option.bind_eq_some_iff.mp h
  split at h
  case isFalse => cases h
  rename_i hz
  cases h
  have w2 := ownL_ok h3
  obtain ⟨a, vs, q1, q2, q3⟩ := R.own i _ _ (ownL_ok h0)
  refine ⟨.ref a, q1, .inl ⟨rfl, vs, SqL.of q2⟩, ?_⟩
  refine he C env σ H _ x e1 h1 R fun v H1 R1 s1 g1 r1 => ?_
  obtain ⟨R2, s2, d2⟩ := frz_ok R1 r1 h2
  obtain ⟨a', ws, z1, z2, z3⟩ := R2.own i b xs w2
  rw [q1] at z1
  cases z1
  refine ⟨a, ws, v, rfl, rfl, z2, by rw [z3.length]; exact szL_lt hz, ?_⟩
  exact k σ _ (R2.put w2 q1 (z3.app (.one d2))).1
/-- x.extend(list) -/
def sExt (i : Nat) (fe : EF) : SF := fun env => (ownL env i).bind fun _ => (fe env).bind fun p => (seqL p.2 p.1).bind fun ys => (ownL p.2 i).bind fun w => if w.2.length + ys.length ≤ szL then some (.nx (p.2.set i (.own w.1 (w.2 ++ ys)))) else none
theorem rs_ext {K : PySem.W.Frag} {i : Nat} {te : TE} {fe : EF} (he : RE te fe) : RS (tDrop (tBM K "list" rExtend (tVar i) (tCons te tNil))) (sExt i fe) := fun C env σ H D o h R k => by
  unfold sExt at h
  obtain ⟨⟨b0, zs⟩, h0, h⟩ := Option.bind_eq_some_iff.mp h
  obtain ⟨⟨x, e1⟩, h1, h⟩ := Option.bind_eq_some_iff.mp h
  obtain ⟨ys, h2, h⟩ := Option.bind_eq_some_iff.mp h
  obtain ⟨⟨b, xs⟩, h3, h⟩ := Option.bind_eq_some_iff.mp h
  split at h
  case isFalse => cases h
  rename_i hz
  cases h
  have w2 := ownL_ok h3
  obtain ⟨a, vs, q1, q2, q3⟩ := R.own i _ _ (ownL_ok h0)
  refine ⟨.ref a, q1, .inl ⟨rfl, vs, SqL.of q2⟩, ?_⟩
  refine he C env σ H _ x e1 h1 R fun v H1 R1 s1 g1 r1 => ?_
  obtain ⟨c, us, rfl, u1, u2⟩ := seqL_ok R1 r1 h2
  obtain ⟨a', ws, z1, z2, z3⟩ := R1.own i b xs w2
  rw [q1] at z1
  cases z1
  refine ⟨a, c, ws, us, rfl, rfl, z2, u1, by rw [z3.length, u2.length]; exact szL_le hz, ?_⟩
  exact k σ _ (R1.put w2 q1 (z3.app u2)).1
/-- x.pop() -/
def fPop (i : Nat) : EF := fun env => (ownL env i).bind fun w => (w.2[w.2.length - 1]?).map fun d => (.d d, env.set i (.own w.1 w.2.dropLast))
theorem re_pop {K : PySem.W.Frag} {i : Nat} : RE (tBM0 K "list" rPop (tVar i)) (fPop i) := fun C env σ H Q rv env' h R k => by
  unfold fPop at h
  obtain ⟨⟨b, xs⟩, h0, h⟩ := Option.bind_eq_some_iff.mp h
  obtain ⟨d, h1, h⟩ := Option.map_eq_some_iff.mp h
  cases h
  have w2 := ownL_ok h0
  obtain ⟨a, vs, q1, q2, q3⟩ := R.own i _ _ w2
  obtain ⟨v, h2, h3⟩ := q3.get h1
  obtain ⟨R1, s1, g1⟩ := R.put w2 q1 q3.dropLast
  refine ⟨.ref a, q1, .inl ⟨rfl, vs, SqL.of q2⟩, a, vs, v, rfl, rfl, q2, by rw [q3.length]; exact h2, ?_⟩
  exact k v _ R1 s1 g1 (g1.dat s1 h3)
/-- x[i] = e -/
def sSetI (i : Nat) (fe fi : EF) : SF := fun env => (fe env).bind fun p => (frz p.2 p.1).bind fun q => (ownL q.2 i).bind fun _ => (fi q.2).bind fun r => (asI r.2 r.1).bind fun n => (ownL r.2 i).bind fun w => (ixN w.2.length n).map fun j => .nx (r.2.set i (.own w.1 (w.2.set j q.1)))
theorem rs_setI {i : Nat} {te ti : TE} {fe fi : EF} (he : RE te fe) (hi : RE ti fi) : RS (tAsg te (gSub (tVar i) ti rSetL)) (sSetI i fe fi) := fun C env σ H D o h R k => by
  unfold sSetI at h
  obtain ⟨⟨x, e1⟩, h1, h⟩ := Option.bind_eq_some_iff.mp h
  obtain ⟨⟨d, e2⟩, h2, h⟩ := Option.bind_eq_some_iff.mp h
  obtain ⟨⟨b0, zs⟩, h3, h⟩ := Option.bind_eq_some_iff.mp h
  obtain ⟨⟨y, e3⟩, h4, h⟩ := Option.bind_eq_some_iff.mp h
  obtain ⟨n, h5, h⟩ := Option.bind_eq_some_iff.mp h
  obtain ⟨⟨b, xs⟩, h6, h⟩ := Option.bind_eq_some_iff.mp h
  obtain ⟨j, h7, h⟩ := Option.map_eq_some_iff.mp h
  cases h
  refine he C env σ H _ x e1 h1 R fun v H1 R1 s1 g1 r1 => ?_
  obtain ⟨R2, s2, d2⟩ := frz_ok R1 r1 h2
  obtain ⟨a, vs, q1, q2, q3⟩ := R2.own i _ _ (ownL_ok h3)
  refine ⟨.ref a, q1, ?_⟩
  refine hi C e2 σ H1 _ y e3 h4 R2 fun w H2 R3 s3 g3 r3 => ?_
  have w2 := ownL_ok h6
  obtain ⟨a', ws, z1, z2, z3⟩ := R3.own i b xs w2
  rw [q1] at z1
  cases z1
  refine ⟨a, ws, n, j, rfl, asI_ok R3 r3 h5, z2, by rw [z3.length]; exact h7, ?_⟩
  exact k σ _ (R3.put w2 q1 (z3.set j (g3.dat s3 d2))).1
theorem asI_v (R : Rel C env σ H) {i : Nat} {a : Int} (h : asI env (.v i) = some a) : σ[i]? = some (some (.int a)) := by
  cases e : env[i]? with
  | none => simp [asI, val, e] at h
  | some s =>
    cases s with
    | non => simp [asI, val, e] at h
    | own b xs => simp [asI, val, e] at h
    | dat d =>
      obtain ⟨v, q1, q2⟩ := R.dat i d e
      cases d <;> simp [asI, val, e] at h
      subst h
      unfold Dat at q2
      rw [q1, q2]
/-- x += e (ints) -/
def sAug (i : Nat) (fe : EF) (f : Int → Int → Int) : SF := fun env => (fe env).bind fun p => (asI env (.v i)).bind fun a => (asI p.2 p.1).bind fun b => (fName i (.int (f a b)) p.2).map Out.nx
theorem rs_aug {i : Nat} {te : TE} {fe : EF} {f : Int → Int → Int} (he : RE te fe) : RS (tAug i te (ipI f)) (sAug i fe f) := fun C env σ H D o h R k => by
  unfold sAug at h
  obtain ⟨⟨x, e1⟩, h1, h⟩ := Option.bind_eq_some_iff.mp h
  obtain ⟨a, h2, h⟩ := Option.bind_eq_some_iff.mp h
  obtain ⟨b, h3, h⟩ := Option.bind_eq_some_iff.mp h
  obtain ⟨e2, h4, h⟩ := Option.map_eq_some_iff.mp h
  cases h
  have hv := asI_v R h2
  refine ⟨.int a, hv, he C env σ H _ x e1 h1 R fun v H1 R1 s1 g1 r1 => ⟨a, b, rfl, asI_ok R1 r1 h3, ?_⟩⟩
  exact rg_name C e1 σ H1 (.int (f a b)) _ _ e2 h4 R1 (by unfold Dat; rfl) fun σ' R' _ _ _ _ => k σ' H1 R'

/-! ### defs -/
abbrev FnF := List Slot → Option (Dv × List Dv)
structure SlotsOk (M : Addr → Prop) (H : Hp) (io : Option (Nat × Addr)) (as : List Slot) (vs : List V) : Prop where
  len : vs.length = as.length
  dat : ∀ (i : Nat) d, as[i]? = some (.dat d) → ∃ v, vs[i]? = some v ∧ Dat M H d v
  own : ∀ (i : Nat) b xs, as[i]? = some (.own b xs) → b = true ∧ ∃ a ws, io = some (i, a) ∧ vs[i]? = some (.ref a) ∧ H a = some (.lst ws) ∧ Dats M H xs ws
  io : ∀ i a, io = some (i, a) → M a ∧ vs[i]? = some (.ref a) ∧ ∃ xs, as[i]? = some (.own true xs)
  mem : ∀ a, M a → H a ≠ none
def spD (n : Nat) (F : FnF) : Sp := fun vs H Q _ => ∃ (M : Addr → Prop) (io : Option (Nat × Addr)) (as : List Slot) (r : Dv) (ys : List Dv), F as = some (r, ys) ∧ vs.length = n ∧ SlotsOk M H io as vs ∧
  ∀ v H', (∀ a o, (∀ i, io ≠ some (i, a)) → H a = some o → H' a = some o) → Dat M H' r v → (∀ i a, io = some (i, a) → ∃ ws, H' a = some (.lst ws) ∧ Dats M H' ys ws) → Q v H'
theorem spD_len {n : Nat} {F : FnF} {vs : List V} {H : Hp} {Q : VK} {E : XK} (h : spD n F vs H Q E) : vs.length = n := by
  obtain ⟨_, _, _, _, _, _, h, _⟩ := h
  exact h
def outIo : List Slot → DEnv → Option (List Dv)
  | [], _ => some []
  | .own _ _ :: _, .own _ xs :: _ => some xs
  | .own _ _ :: _, _ => none
  | _ :: as, _ :: e => outIo as e
  | _ :: _, [] => none
def runDef (n : Nat) (g : SF) : FnF := fun as => (g (as ++ List.replicate (n - as.length) .non)).bind fun o => match o with
  | .rt d e => (outIo as e).map fun ys => (d, ys)
  | .nx e => (outIo as e).map fun ys => (.non, ys)
  | _ => none
theorem outIo_none : ∀ {as : List Slot} {e : DEnv} {ys : List Dv}, (∀ (i : Nat) b xs, as[i]? ≠ some (.own b xs)) → True := fun _ => True.intro
theorem outIo_get : ∀ {as : List Slot} {e : DEnv} {ys xs : List Dv} {i : Nat} {b : Bool}, outIo as e = some ys → as[i]? = some (.own b xs) → (∀ (j : Nat) c zs, as[j]? = some (.own c zs) → j = i) → ∃ c, e[i]? = some (.own c ys)
  | [], _, _, _, i, _, _, h, _ => by simp at h
  | .own c zs :: as, e, ys, xs, i, b, h, hi, hu => by
    have z : 0 = i := hu 0 c zs rfl
    subst z
    match e, h with
    | .own c' ws :: e, h =>
      unfold outIo at h
      cases h
      exact ⟨c', rfl⟩
  | .dat d :: as, e, ys, xs, i, b, h, hi, hu => by
    cases i with
    | zero => cases hi
    | succ i =>
      match e, h with
      | s :: e, h =>
        unfold outIo at h
        exact outIo_get (as := as) (e := e) (i := i) h hi fun j c zs q => by
          have := hu (j + 1) c zs q
          omega
  | .non :: as, e, ys, xs, i, b, h, hi, hu => by
    cases i with
    | zero => cases hi
    | succ i =>
      match e, h with
      | s :: e, h =>
        unfold outIo at h
        exact outIo_get (as := as) (e := e) (i := i) h hi fun j c zs q => by
          have := hu (j + 1) c zs q
          omega
theorem start_get {N : List Str} {vs : List V} (i : Nat) : (L2.start N vs)[i]? = if i < vs.length then (vs[i]?).map some else if i < N.length then some none else none := by
  unfold L2.start
  by_cases h : i < vs.length
  · rw [if_pos h, List.getElem?_append_left (by rw [List.length_map]; exact h), List.getElem?_map]
  · rw [if_neg h, List.getElem?_append_right (by rw [List.length_map]; omega), List.length_map]
    by_cases h2 : i < N.length
    · rw [if_pos h2, List.getElem?_replicate, if_pos (by omega)]
    · rw [if_neg h2, List.getElem?_replicate, if_neg (by omega)]
theorem pad_get {as : List Slot} {m i : Nat} {s : Slot} (hs : s ≠ .non) (h : (as ++ List.replicate m Slot.non)[i]? = some s) : as[i]? = some s := by
  by_cases hi : i < as.length
  · rwa [List.getElem?_append_left hi] at h
  · rw [List.getElem?_append_right (by omega), List.getElem?_replicate] at h
    split at h
    · cases h
      exact absurd rfl hs
    · cases h
theorem body_ok {t : TS} {g : SF} {N ps : List Str} (hN : ps.length ≤ N.length) (hg : RS t g) {vs : List V} {H : Hp} {Q : VK} {E : XK} (h : spD ps.length (runDef N.length g) vs H Q E) :
    t { nx := fun _ H' => Q .non H', rt := Q } (L2.start N vs) H := by
  obtain ⟨M, io, as, r, ys, hF, hl, S, q⟩ := h
  unfold runDef at hF
  obtain ⟨o, ho, hF⟩ := Option.bind_eq_some_iff.mp hF
  have hlen : as.length = ps.length := by rw [← S.len, hl]
  have e0 : as.length + (N.length - as.length) = N.length := by omega
  have lt : ∀ {i : Nat} {s : Slot}, as[i]? = some s → i < vs.length := fun {i s} z => by rw [S.len]; exact (List.getElem?_eq_some_iff.mp z).1
  have stv : ∀ {i : Nat} {v : V}, vs[i]? = some v → (L2.start N vs)[i]? = some (some v) := fun {i v} z => by
    rw [start_get, if_pos (List.getElem?_eq_some_iff.mp z).1, z]
    rfl
  have R : Rel { M0 := M, H0 := H, io := io } (as ++ List.replicate (N.length - as.length) .non) (L2.start N vs) H := by
    have mm : ∀ a, MM { M0 := M, H0 := H, io := io } (as ++ List.replicate (N.length - as.length) .non) (L2.start N vs) a → M a := fun a z => by
      rcases z with z | ⟨i, b, xs, z1, z2⟩
      · exact z
      · obtain ⟨_, a', ws, y1, y2, _⟩ := S.own i b xs (pad_get (by intro z; cases z) z1)
        rw [stv y2] at z2
        cases z2
        exact (S.io i a y1).1
    refine ⟨?_, fun i d z => ?_, fun i b xs z => ?_, fun i j b c xs zs a z1 z2 y1 y2 => ?_, fun i xs z => ?_, fun i a z => ?_, fun i xs a z1 z2 => ?_, fun a o _ z => z, fun a z => S.mem a z⟩
    · rw [List.length_append, List.length_replicate]
      unfold L2.start
      rw [List.length_append, List.length_map, List.length_replicate, S.len]
    · obtain ⟨v, y1, y2⟩ := S.dat i d (pad_get (by intro z; cases z) z)
      exact ⟨v, stv y1, y2.to (fun _ _ _ q => q) fun a z => .inl (mm a z)⟩
    · obtain ⟨_, a, ws, y1, y2, y3, y4⟩ := S.own i b xs (pad_get (by intro z; cases z) z)
      exact ⟨a, ws, stv y2, y3, Dats.to (fun _ _ _ q => q) (fun a z => .inl (mm a z)) _ _ y4⟩
    · obtain ⟨_, a1, _, w1, _⟩ := S.own i b xs (pad_get (by intro z; cases z) z1)
      obtain ⟨_, a2, _, w2, _⟩ := S.own j c zs (pad_get (by intro z; cases z) z2)
      rw [w1] at w2
      exact (Prod.mk.inj (Option.some.inj w2)).1
    · obtain ⟨_, a, _, w1, _⟩ := S.own i true xs (pad_get (by intro z; cases z) z)
      exact ⟨a, w1⟩
    · obtain ⟨y1, y2, xs, y3⟩ := S.io i a z
      refine ⟨y1, xs, ?_, stv y2⟩
      rw [List.getElem?_append_left (List.getElem?_eq_some_iff.mp y3).1]
      exact y3
    · obtain ⟨z, _⟩ := S.own i false xs (pad_get (by intro z; cases z) z1)
      cases z
  have fin : ∀ {d : Dv} {e : DEnv} {v : V} {σ' : L2.St} {H' : Hp}, (outIo as e).map (fun ys => (d, ys)) = some (r, ys) → Rel { M0 := M, H0 := H, io := io } e σ' H' → Dat (MM { M0 := M, H0 := H, io := io } e σ') H' d v → Q v H' := fun {d e v σ' H'} hm R' hd => by
    obtain ⟨zs, z1, z2⟩ := Option.map_eq_some_iff.mp hm
    cases z2
    refine q v H' (fun a o n z => R'.keep a o n z) (hd.to (fun _ _ _ q => q) fun a z => .inl (.inl z)) fun i a z => ?_
    obtain ⟨_, _, xs, y3⟩ := S.io i a z
    have un : ∀ (j : Nat) c zs, as[j]? = some (.own c zs) → j = i := fun j c zs w => by
      obtain ⟨_, a2, _, w2, _⟩ := S.own j c zs w
      rw [z] at w2
      exact (Prod.mk.inj (Option.some.inj w2)).1.symm
    obtain ⟨c, w⟩ := outIo_get z1 y3 un
    obtain ⟨_, xs', y4, y5⟩ := R'.iob i a z
    obtain ⟨a2, ws, x1, x2, x3⟩ := R'.own i c ys w
    rw [y5] at x1
    cases x1
    exact ⟨ws, x2, Dats.to (fun _ _ _ q => q) (fun a z => .inl (.inl z)) _ _ x3⟩
  refine hg _ _ _ H _ o ho R ?_
  cases o with
  | nx e => exact fun σ' H' R' => fin hF R' (by unfold Dat; rfl)
  | rt d e => exact fun σ' H' v R' hd => fin hF R' hd
  | bk e => cases hF
  | ct e => cases hF
/-! ### calls of defs -/
def callF (io : Option Nat) (F : FnF) (rs : List RV) (env : DEnv) : Option (RV × DEnv) := match io with
  | none => (frzs env rs).bind fun q => (F (q.1.map .dat)).map fun r => (.d r.1, q.2)
  | some j => match rs.drop j with
    | .v i :: post => (frzs env (rs.take j)).bind fun q1 => (frzs q1.2 post).bind fun q2 => (ownL q2.2 i).bind fun w => (F (q1.1.map .dat ++ .own true w.2 :: q2.1.map .dat)).map fun r => (.d r.1, q2.2.set i (.own w.1 r.2))
    | _ => none
def fCall (n : Nat) (io : Option Nat) (F : FnF) (fa : AF) : EF := fun env => (fa env).bind fun p => if p.1.length = n then callF io F p.1 p.2 else none
theorem map_dat_get {ds : List Dv} {i : Nat} {s : Slot} (h : (ds.map Slot.dat)[i]? = some s) : ∃ d, s = .dat d ∧ ds[i]? = some d := by
  rw [List.getElem?_map] at h
  obtain ⟨d, h1, h2⟩ := Option.map_eq_some_iff.mp h
  exact ⟨d, h2.symm, h1⟩
theorem frzs_len : ∀ {rs : List RV} {env env' : DEnv} {ds : List Dv}, frzs env rs = some (ds, env') → ds.length = rs.length
  | [], _, _, _, h => by
    cases h
    rfl
  | r :: rs, _, _, _, h => by
    simp only [frzs] at h
    obtain ⟨⟨d, e1⟩, h1, h⟩ := Option.bind_eq_some_iff.mp h
    obtain ⟨⟨ds', e2⟩, h2, h⟩ := Option.map_eq_some_iff.mp h
    cases h
    simp [frzs_len h2]
theorem RVs.len {C : DC} {env : DEnv} {σ : L2.St} {H : Hp} : ∀ {rs : List RV} {vs : List V}, RVs C env σ H rs vs → vs.length = rs.length
  | [], vs, h => by
    have h : vs = [] := h
    rw [h]
    rfl
  | r :: rs, vs, h => by
    obtain ⟨v, ws, rfl, _, h2⟩ := h
    simp [RVs.len h2]
theorem RVs.split {C : DC} {env : DEnv} {σ : L2.St} {H : Hp} : ∀ {rs : List RV} {vs : List V} (j : Nat), RVs C env σ H rs vs → RVs C env σ H (rs.take j) (vs.take j) ∧ RVs C env σ H (rs.drop j) (vs.drop j)
  | rs, vs, 0, h => ⟨by simp [RVs], h⟩
  | [], vs, j + 1, h => by
    have h : vs = [] := h
    subst h
    exact ⟨rfl, rfl⟩
  | r :: rs, vs, j + 1, h => by
    obtain ⟨v, ws, rfl, h1, h2⟩ := h
    obtain ⟨a, b⟩ := RVs.split j h2
    exact ⟨⟨v, ws.take j, rfl, h1, a⟩, b⟩
/-- a list handed in comes back with another content, all else kept -/
theorem Rel.putG {C : DC} {env : DEnv} {σ : L2.St} {H H' : Hp} {a : Addr} (R : Rel C env σ H) {i : Nat} {b : Bool} {xs ys : List Dv} {ws : List V} (e : env[i]? = some (.own b xs)) (h1 : σ[i]? = some (some (.ref a))) (k : ∀ x o, x ≠ a → H x = some o → H' x = some o)
    (ha : H' a = some (.lst ws)) (hs : Dats (MM C env σ) H' ys ws) : Rel C (env.set i (.own b ys)) σ H' ∧ Sh env (env.set i (.own b ys)) ∧ Grow env σ H H' := by
  obtain ⟨a', vs, q1, q2, q3⟩ := R.own i b xs e
  rw [h1] at q1
  cases q1
  have wa : W env σ a := ⟨i, b, xs, e, h1⟩
  have R2 : Rel C env σ (upd H' a (.lst vs)) := R.grow fun x o q => by
    by_cases z : x = a
    · subst z
      rw [upd_same, ← q2, q]
    · rw [upd_ne z]
      exact k x o z q
  have hs2 : Dats (MM C env σ) (upd H' a (.lst vs)) ys ws := by
    refine Dats.to (fun x o n q => ?_) (fun _ z => .inl z) _ _ hs
    have nx : x ≠ a := fun z => n (by rw [z]; exact .inr wa)
    rw [upd_ne nx]
    exact q
  obtain ⟨R3, s3, _⟩ := R2.put e h1 hs2
  have e4 : upd (upd H' a (.lst vs)) a (.lst ws) = H' := by
    rw [upd_upd]
    funext x
    by_cases z : x = a
    · subst z
      rw [upd_same, ha]
    · rw [upd_ne z]
  rw [e4] at R3
  exact ⟨R3, s3, fun x o n q => k x o (fun z => n (z ▸ wa)) q⟩
theorem re_call {n : Nat} {io : Option Nat} {F : FnF} {E : XK} {ta : TA} {fa : AF} (ha : RA ta fa) : RE (tCall (spD n F) [] E ta) (fCall n io F fa) := fun C env σ H Q rv env' h R k => by
  unfold fCall at h
  obtain ⟨⟨rs, e1⟩, h1, h⟩ := Option.bind_eq_some_iff.mp h
  split at h
  case isFalse => cases h
  rename_i hn
  refine ha C env σ H _ rs e1 h1 R fun vs H1 R1 s1 g1 r1 => ?_
  rw [List.append_nil]
  have hvl : vs.length = n := by rw [r1.len]; exact hn
  simp only at h hn
  unfold callF at h
  cases io with
  | none =>
    simp only at h
    obtain ⟨⟨ds, e2⟩, h2, h⟩ := Option.bind_eq_some_iff.mp h
    obtain ⟨⟨r, ys⟩, h3, h⟩ := Option.map_eq_some_iff.mp h
    cases h
    obtain ⟨R2, s2, d2⟩ := frzs_ok R1 r1 h2
    refine ⟨MM C e2 σ, none, ds.map .dat, r, ys, h3, hvl, ⟨by rw [List.length_map]; exact d2.length, fun i d q => ?_, fun i b xs q => ?_, fun i a q => (by cases q), fun a q => R2.memM a q⟩, fun v H' keep hr _ => ?_⟩
    · obtain ⟨d', z, q'⟩ := map_dat_get q
      cases z
      exact d2.get q'
    · obtain ⟨d', z, q'⟩ := map_dat_get q
      cases z
    · have kk : ∀ a o, H1 a = some o → H' a = some o := fun a o q => keep a o (fun i z => by cases z) q
      exact k v H' (R2.grow kk) (s1.trans s2) (g1.trans s1 fun a o _ q => kk a o q) hr
  | some j =>
    simp only at h
    split at h
    case h_2 => cases h
    rename_i i post hd
    obtain ⟨⟨ds1, e2⟩, h2, h⟩ := Option.bind_eq_some_iff.mp h
    obtain ⟨⟨ds2, e3⟩, h3, h⟩ := Option.bind_eq_some_iff.mp h
    obtain ⟨⟨b, xs⟩, h4, h⟩ := Option.bind_eq_some_iff.mp h
    obtain ⟨⟨r, ys⟩, h5, h⟩ := Option.map_eq_some_iff.mp h
    cases h
    obtain ⟨r2, r3⟩ := RVs.split j r1
    rw [hd] at r3
    obtain ⟨v0, ws0, ev, r4, r5⟩ := r3
    have r4 : σ[i]? = some (some v0) := r4
    obtain ⟨R2, s2, d2⟩ := frzs_ok R1 r2 h2
    obtain ⟨R3, s3, d3⟩ := frzs_ok R2 (RVs.step s2 (Grow.refl _ _ _) r5) h3
    have w := ownL_ok h4
    obtain ⟨a, us, q1, q2, q3⟩ := R3.own i b xs w
    rw [r4] at q1
    cases q1
    have d2' := (Grow.refl _ _ H1).dats s3 d2
    have hj : j < rs.length := by
      by_cases z : j < rs.length
      · exact z
      · rw [List.drop_of_length_le (by omega)] at hd
        cases hd
    have l1 : ds1.length = j := by rw [frzs_len h2, List.length_take]; omega
    have evs : vs = vs.take j ++ (.ref a :: ws0) := by rw [← ev]; exact (List.take_append_drop j vs).symm
    have l2 : (vs.take j).length = j := by rw [List.length_take, hvl, ← hn]; omega
    have wm : MM C e3 σ a := .inr ⟨i, b, xs, w, r4⟩
    have vj : vs[j]? = some (.ref a) := by
      rw [evs, List.getElem?_append_right (by omega), l2, Nat.sub_self]
      rfl
    have aj : (ds1.map Slot.dat ++ Slot.own true xs :: ds2.map Slot.dat)[j]? = some (.own true xs) := by
      rw [List.getElem?_append_right (by rw [List.length_map]; omega), List.length_map, l1, Nat.sub_self]
      rfl
    have al : ∀ (m : Nat) s, (ds1.map Slot.dat ++ Slot.own true xs :: ds2.map Slot.dat)[m]? = some s → (m < j ∧ ∃ d, s = .dat d ∧ ds1[m]? = some d) ∨ (m = j ∧ s = .own true xs) ∨ (j < m ∧ ∃ d, s = .dat d ∧ ds2[m - j - 1]? = some d) := fun m s q => by
      by_cases z : m < j
      · rw [List.getElem?_append_left (by rw [List.length_map]; omega)] at q
        exact .inl ⟨z, map_dat_get q⟩
      · rw [List.getElem?_append_right (by rw [List.length_map]; omega), List.length_map, l1] at q
        by_cases z2 : m = j
        · subst z2
          rw [Nat.sub_self] at q
          exact .inr (.inl ⟨rfl, (Option.some.inj q).symm⟩)
        · obtain ⟨c, hc⟩ : ∃ c, m - j = c + 1 := ⟨m - j - 1, by omega⟩
          rw [hc] at q
          have q' : (ds2.map Slot.dat)[c]? = some s := q
          have hc2 : m - j - 1 = c := by omega
          rw [hc2]
          exact .inr (.inr ⟨by omega, map_dat_get q'⟩)
    refine ⟨MM C e3 σ, some (j, a), _, r, ys, h5, hvl, ⟨?_, fun m d q => ?_, fun m c zs q => ?_, fun m a' q => ?_, fun a' q => R3.memM a' q⟩, fun v H' keep hr hio => ?_⟩
    · rw [evs, List.length_append, List.length_append, List.length_map, List.length_cons, List.length_cons, List.length_map, l2, l1, d3.length]
    · rcases al m _ q with ⟨z, d', z1, z2⟩ | ⟨_, z1⟩ | ⟨z, d', z1, z2⟩
      · cases z1
        obtain ⟨u, y1, y2⟩ := d2'.get z2
        exact ⟨u, by rw [evs, List.getElem?_append_left (by omega)]; exact y1, y2⟩
      · cases z1
      · cases z1
        obtain ⟨u, y1, y2⟩ := d3.get z2
        refine ⟨u, ?_, y2⟩
        rw [evs, List.getElem?_append_right (by omega), l2]
        obtain ⟨c, hc⟩ : ∃ c, m - j = c + 1 := ⟨m - j - 1, by omega⟩
        have hc2 : m - j - 1 = c := by omega
        rw [hc]
        rw [hc2] at y1
        exact y1
    · rcases al m _ q with ⟨z, d', z1, z2⟩ | ⟨z, z1⟩ | ⟨z, d', z1, z2⟩
      · cases z1
      · cases z1
        subst z
        exact ⟨rfl, a, us, rfl, vj, q2, q3⟩
      · cases z1
    · cases q
      exact ⟨wm, vj, xs, aj⟩
    · obtain ⟨ws, y1, y2⟩ := hio j a rfl
      have kk : ∀ x o, x ≠ a → H1 x = some o → H' x = some o := fun x o n q => keep x o (fun i z => by cases z; exact n rfl) q
      obtain ⟨R4, s4, g4⟩ := R3.putG w r4 kk y1 y2
      have ss := (s1.trans s2).trans s3
      exact k v H' R4 (ss.trans s4) (g1.trans s1 fun x o n q => kk x o (fun z => n ((s2.trans s3).w (z ▸ ⟨i, b, xs, w, r4⟩))) q) (hr.to (fun _ _ _ q => q) fun x z => .inl (s4.mm z))
end
end DL

set_option Elab.async false
set_option linter.all false
set_option maxRecDepth 100000
set_option maxHeartbeats 4000000
namespace ZSt
open PySem
open PySem.Sem (wp)
abbrev IsZipS (h : Heap) (z TI TO : Addr) (f0 : Value) : Prop :=
  h.get? z = some { cls := .type "zip", dict := none, data := .fields #[f0, .bool false, .bool true, .ref TI, .ref TO], slots := #[] }
section
variable {prog : Program} {w : World} {A : Around} {E : Value → Shared → Prop} {s : Shared} {z TI TO i1 i2 : Addr} {fp1 fp2 : List Addr} {n1 n2 i : Nat} {P1 P2 : Nat → Value → Prop} {St1 St2 : Nat → Heap → Prop} {a1 a2 : Value}
theorem zipS_next_item {Q : Value → Shared → Prop} (S : ZipSep2 z TI TO i1 i2 fp1 fp2) (D1 : Draws prog w A i1 fp1 n1 P1 St1) (D2 : Draws prog w A i2 fp2 n2 P2 St2)
    (hz : IsZipS s.heap z TI TO .none) (hTI : IsTupOf2 s.heap TI (.ref i1) (.ref i2)) (hTO : IsTupOf2 s.heap TO a1 a2) (st1 : St1 i s.heap) (st2 : St2 i s.heap) (hlt1 : i < n1) (hlt2 : i < n2)
    (hQ : ∀ x1 x2 h' tk, P1 i x1 → P2 i x2 → IsZipS h' z TI TO (rawInt s.heap.objs.size) → IsTupOf2 h' TO x1 x2 → St1 (i + 1) h' → St2 (i + 1) h' → IsTupOf2 h' s.heap.objs.size x1 x2 → h'.objs.size = s.heap.objs.size + 1 →
      (∀ c o, c ≠ z → c ≠ TO → c ≠ i1 → c ≠ i2 → s.heap.get? c = some o → h'.get? c = some o) → Q (.ref s.heap.objs.size) { s with heap := h', toks := tk }) :
    wpAny (model prog w) A (Builtin.«zip.__next__» ⟨[.ref z], []⟩) (fun fin s' => ∃ v, fin = .done (.ret v) ∧ Q v s') E s := by
  obtain ⟨hp, g, d, tk0, os⟩ := s
  show wpAny _ _ (field (.ref z) 2 >>= _) _ _ _
  refine wpAny_bind (wpAny_field hz rfl (x := .bool true) rfl ?_)
  show wpAny _ _ (field (.ref z) 3 >>= _) _ _ _
  refine wpAny_bind (wpAny_field hz rfl (x := .ref TI) rfl ?_)
  refine wpAny_bind (wpAny_seqItems hTI rfl ?_)
  show wpAny _ _ (Builtin.SmallTypes.ownedTupleIsFree (.ref z) >>= _) _ _ _
  refine wpAny_bind ?_
  unfold Builtin.SmallTypes.ownedTupleIsFree
  refine wpAny_bind (wpAny_field hz rfl (x := .none) rfl (wpAny_pure ?_))
  simp only [if_true]
  refine wpAny_bind (wpAny_rule ?_)
  refine wpAny_bind (wpAny_field hz rfl (x := .ref TO) rfl ?_)
  refine wpAny_bind (wpAny_setField_rec hz (by simp) fun g0 hz0 hs0 => ?_)
  replace hz0 : IsZipS g0 z TI TO .ellipsis := hz0
  replace hs0 : Heap.SameBut z hp g0 := hs0
  refine wpAny_bind ?_
  simp only [List.zipIdx_cons, List.zipIdx_nil, List.forIn_cons, List.forIn_nil]
  refine wpAny_bind (wpAny_bind (wpAny_onRaise ?_))
  show wpAny _ _ (Builtin.SmallTypes.nextOrEnd (.ref i1)) _ _ ⟨g0, g, d, tk0, os⟩
  unfold Builtin.SmallTypes.nextOrEnd
  refine wpAny_bind (wpAny_attempt ?_)
  refine D1.item i _ _ _ hlt1 (D1.over st1 hs0 S.zf1) fun x1 p1 tk1 hx1 sn1 hp1 => wpAny_pure ?_
  replace hp1 : Heap.SameBut i1 g0 p1 := hp1
  have hU1 : IsTupOf2 p1 TO a1 a2 := hp1.extBut _ _ S.Ti1 (hs0.extBut _ _ S.TOz hTO)
  refine wpAny_bind (wpAny_seqItems (s := ⟨p1, g, d, tk1, os⟩) hU1 rfl ?_)
  refine wpAny_bind (updateSeq_IsTupOf2 (s := ⟨p1, g, d, tk1, os⟩) hU1 fun g1 hT1 hs1 => ?_)
  replace hT1 : IsTupOf2 g1 TO x1 a2 := hT1
  replace hs1 : Heap.SameBut TO p1 g1 := hs1
  refine wpAny_bind (wpAny_letGo (wpAny_pure ?_))
  refine wpAny_bind (wpAny_bind (wpAny_onRaise ?_))
  show wpAny _ _ (Builtin.SmallTypes.nextOrEnd (.ref i2)) _ _ ⟨g1, g, d, tk1, os⟩
  unfold Builtin.SmallTypes.nextOrEnd
  refine wpAny_bind (wpAny_attempt ?_)
  refine D2.item i _ _ _ hlt2 (D2.over (D2.over (D2.over st2 hs0 S.zf2) hp1 S.sep1_2) hs1 S.Tf2) fun x2 p2 tk2 hx2 sn2 hp2 => wpAny_pure ?_
  replace hp2 : Heap.SameBut i2 g1 p2 := hp2
  have hU2 : IsTupOf2 p2 TO x1 a2 := hp2.extBut _ _ S.Ti2 hT1
  refine wpAny_bind (wpAny_seqItems (s := ⟨p2, g, d, tk2, os⟩) hU2 rfl ?_)
  refine wpAny_bind (updateSeq_IsTupOf2 (s := ⟨p2, g, d, tk2, os⟩) hU2 fun g2 hT2 hs2 => ?_)
  replace hT2 : IsTupOf2 g2 TO x1 x2 := hT2
  replace hs2 : Heap.SameBut TO p2 g2 := hs2
  refine wpAny_bind (wpAny_letGo (wpAny_pure (wpAny_pure ?_)))
  refine wpAny_bind (wpAny_seqItems (s := ⟨g2, g, d, tk2, os⟩) hT2 rfl ?_)
  refine wpAny_bind (wpAny_newTuple ?_)
  have hsz : g2.objs.size = hp.objs.size := by rw [hs2.1, hp2.1, hs1.1, hp1.1, hs0.1]
  have hzz : IsZipS g2 z TI TO .ellipsis := (hs2.extBut _ _ S.TOz.symm (hp2.extBut _ _ S.zi2 (hs1.extBut _ _ S.TOz.symm (hp1.extBut _ _ S.zi1 hz0))))
  have hkk : ∀ c o, c ≠ z → c ≠ TO → c ≠ i1 → c ≠ i2 → hp.get? c = some o → g2.get? c = some o := fun c o cz cT c1 c2 e =>
    (hs2.extBut _ _ cT (hp2.extBut _ _ c2 (hs1.extBut _ _ cT (hp1.extBut _ _ c1 (hs0.extBut _ _ cz e)))))
  have hj1 : St1 (i + 1) g2 := (D1.over (D1.over (D1.over sn1 hs1 S.Tf1) hp2 S.sep2_1) hs2 S.Tf1)
  have hj2 : St2 (i + 1) g2 := (D2.over sn2 hs2 S.Tf2)
  have hzlt : z < g2.objs.size := Heap.lt_size hzz
  show wpAny _ _ (Builtin.SmallTypes.ownedTupleHandOut (.ref z) (.ref g2.objs.size) >>= _) _ _ ⟨g2.push { cls := .type "tuple", data := .seq #[x1, x2] }, g, d, tk2, os⟩
  refine wpAny_bind ?_
  unfold Builtin.SmallTypes.ownedTupleHandOut
  have hz₆ : IsZipS (g2.push { cls := .type "tuple", data := .seq #[x1, x2] }) z TI TO .ellipsis := Heap.get?_push_of_some _ hzz
  refine wpAny_bind (wpAny_setField_rec hz₆ (by simp) fun h₇ hz₇ hs₇ => ?_)
  replace hz₇ : IsZipS h₇ z TI TO (rawInt g2.objs.size) := hz₇
  refine wpAny_setField_rec hz₇ (by simp) fun h₈ hz₈ hs₈ => ?_
  replace hz₈ : IsZipS h₈ z TI TO (rawInt g2.objs.size) := hz₈
  replace hs₇ : Heap.SameBut z (g2.push { cls := .type "tuple", data := .seq #[x1, x2] }) h₇ := hs₇
  replace hs₈ : Heap.SameBut z h₇ h₈ := hs₈
  have up : ∀ c o, c ≠ z → g2.get? c = some o → h₈.get? c = some o := fun c o c1 e => hs₈.extBut _ _ c1 (hs₇.extBut _ _ c1 (Heap.get?_push_of_some _ e))
  have hT₈ : IsTupOf2 h₈ g2.objs.size x1 x2 := hs₈.extBut _ _ (Nat.ne_of_gt hzlt) (hs₇.extBut _ _ (Nat.ne_of_gt hzlt) (Heap.get?_push_size _ rfl))
  have hz8 : h₈.objs.size = g2.objs.size + 1 := by rw [hs₈.1, hs₇.1, Heap.size_push]
  rw [hsz] at hz₈ hT₈ hz8
  refine wpAny_pure ⟨_, rfl, ?_⟩
  show Q (.ref g2.objs.size) ⟨h₈, g, d, tk2, os⟩
  rw [hsz]
  exact hQ x1 x2 h₈ tk2 hx1 hx2 hz₈ (up _ _ S.TOz hT2) (D1.frame _ _ _ hj1 fun b hb o e => up b o (fun q => S.zf1 (q ▸ hb)) e) (D2.frame _ _ _ hj2 fun b hb o e => up b o (fun q => S.zf2 (q ▸ hb)) e) hT₈ hz8 fun c o cz cT c1 c2 e => up c o cz (hkk c o cz cT c1 c2 e)


theorem zipS_next_end {Q : Fin → Shared → Prop} (hh : A.handled = none) (S : ZipSep2 z TI TO i1 i2 fp1 fp2) (D1 : Draws prog w A i1 fp1 n1 P1 St1) (D2 : Draws prog w A i2 fp2 n2 P2 St2)
    (hz : IsZipS s.heap z TI TO .none) (hTI : IsTupOf2 s.heap TI (.ref i1) (.ref i2)) (hTO : IsTupOf2 s.heap TO a1 a2) (st1 : St1 n1 s.heap) (st2 : St2 n2 s.heap)
    (hE : ∀ h' tk e, (∀ c o, c ≠ z → c ≠ TO → c ≠ i1 → c ≠ i2 → s.heap.get? c = some o → h'.get? c = some o) → (∃ o, h'.get? e = some o ∧ o.cls = .type "StopIteration") → E (.ref e) { s with heap := h', toks := tk }) :
    wpAny (model prog w) A (Builtin.«zip.__next__» ⟨[.ref z], []⟩) Q E s := by
  obtain ⟨hp, g, d, tk0, os⟩ := s
  show wpAny _ _ (field (.ref z) 2 >>= _) _ _ _
  refine wpAny_bind (wpAny_field hz rfl (x := .bool true) rfl ?_)
  show wpAny _ _ (field (.ref z) 3 >>= _) _ _ _
  refine wpAny_bind (wpAny_field hz rfl (x := .ref TI) rfl ?_)
  refine wpAny_bind (wpAny_seqItems hTI rfl ?_)
  show wpAny _ _ (Builtin.SmallTypes.ownedTupleIsFree (.ref z) >>= _) _ _ _
  refine wpAny_bind ?_
  unfold Builtin.SmallTypes.ownedTupleIsFree
  refine wpAny_bind (wpAny_field hz rfl (x := .none) rfl (wpAny_pure ?_))
  simp only [if_true]
  refine wpAny_bind (wpAny_rule ?_)
  refine wpAny_bind (wpAny_field hz rfl (x := .ref TO) rfl ?_)
  refine wpAny_bind (wpAny_setField_rec hz (by simp) fun g0 hz0 hs0 => ?_)
  replace hz0 : IsZipS g0 z TI TO .ellipsis := hz0
  replace hs0 : Heap.SameBut z hp g0 := hs0
  refine wpAny_bind ?_
  simp only [List.zipIdx_cons, List.zipIdx_nil, List.forIn_cons, List.forIn_nil]
  refine wpAny_bind (wpAny_bind (wpAny_onRaise ?_))
  show wpAny _ _ (Builtin.SmallTypes.nextOrEnd (.ref i1)) _ _ ⟨g0, g, d, tk0, os⟩
  unfold Builtin.SmallTypes.nextOrEnd
  refine wpAny_bind (wpAny_attempt ?_)
  refine D1.done ⟨g0, g, d, tk0, os⟩ _ _ (D1.over st1 hs0 S.zf1) fun q e hq he => ?_
  replace hq : Heap.ExtBut i1 g0 q := hq
  refine wpAny_bind (wpAny_isInstance (T := "StopIteration") (b := true) he isSubtype_stop ?_)
  refine wpAny_pure ?_
  have hzq : IsZipS q z TI TO .ellipsis := hq _ _ S.zi1 hz0
  show wpAny _ _ (setField (.ref z) 0 .none >>= _) _ _ _
  refine wpAny_bind (wpAny_setField_rec (s := ⟨q, g, d, tk0, os⟩) hzq (by simp) fun q' hz' hq' => ?_)
  replace hq' : Heap.SameBut z q q' := hq'
  refine wpAny_bind ?_
  show wpAny _ _ (forIn ((([Value.ref i1, Value.ref i2] : List Value).drop 1).zipIdx 1) _ _ >>= _) _ _ _
  refine wpAny_bind ?_
  simp only [List.drop_succ_cons, List.drop_zero, List.zipIdx_cons, List.zipIdx_nil, List.forIn_cons, List.forIn_nil]
  refine wpAny_bind ?_
  refine wpAny_bind ?_
  unfold Builtin.SmallTypes.nextOrEnd
  refine wpAny_bind (wpAny_attempt ?_)
  have st2' : St2 n2 q' := D2.frame _ _ _ (D2.over st2 hs0 S.zf2) fun b hb o x => hq'.extBut _ _ (fun q => S.zf2 (q ▸ hb)) (hq _ _ (fun q => S.sep1_2 (q ▸ hb)) x)
  refine D2.done ⟨q', g, d, tk0, os⟩ _ _ st2' fun r e2 hr he2 => ?_
  replace hr : Heap.ExtBut i2 q' r := hr
  refine wpAny_bind (wpAny_isInstance (T := "StopIteration") (b := true) he2 isSubtype_stop ?_)
  refine wpAny_pure ?_
  simp only [Option.isSome_none, Bool.false_eq_true, if_false]
  refine wpAny_pure ?_
  refine wpAny_pure ?_
  refine wpAny_bind (wpAny_rule ?_)
  unfold Builtin.SmallTypes.stopIteration
  refine wpAny_bind ?_
  simp only [newExc, newTuple]
  refine wpAny_bind (wpAny_newObj_type ?_ (by size_fits))
  refine wpAny_bind (m := firstArgMember _ _) (wpAny_of_eq (a := Value.none) (by first | rfl | (simp only [firstArgMember]; rfl)) ?_)
  refine wpAny_newObj_type ?_ (by size_fits)
  simp only [raiseNew]
  refine wpAny_bind (wpAny_handled ?_)
  first | rw [show A.in1.handled = none from hh] | rw [hh]
  refine wpAny_bind (wpAny_pure (wpAny_throw ?_))
  refine hE _ _ _ (fun c o c1 c2 c3 c4 x => Heap.get?_push_of_some _ (Heap.get?_push_of_some _ (hr _ _ c4 (hq'.extBut _ _ c1 (hq _ _ c3 (hs0.extBut _ _ c1 x)))))) ⟨_, Heap.get?_push_size _ rfl, rfl⟩
theorem pyNext_zipS_item {Q : Option Value → Shared → Prop} (S : ZipSep2 z TI TO i1 i2 fp1 fp2) (D1 : Draws prog w A.in1 i1 fp1 n1 P1 St1) (D2 : Draws prog w A.in1 i2 fp2 n2 P2 St2)
    (hz : IsZipS s.heap z TI TO .none) (hTI : IsTupOf2 s.heap TI (.ref i1) (.ref i2)) (hTO : IsTupOf2 s.heap TO a1 a2) (st1 : St1 i s.heap) (st2 : St2 i s.heap) (hlt1 : i < n1) (hlt2 : i < n2)
    (hQ : ∀ x1 x2 h' tk, P1 i x1 → P2 i x2 → IsZipS h' z TI TO (rawInt s.heap.objs.size) → IsTupOf2 h' TO x1 x2 → St1 (i + 1) h' → St2 (i + 1) h' → IsTupOf2 h' s.heap.objs.size x1 x2 → h'.objs.size = s.heap.objs.size + 1 →
      (∀ c o, c ≠ z → c ≠ TO → c ≠ i1 → c ≠ i2 → s.heap.get? c = some o → h'.get? c = some o) → Q (some (.ref s.heap.objs.size)) { s with heap := h', toks := tk }) :
    wpAny (model prog w) A (pyNext (.ref z)) Q E s := by
  have hT : s.TypeIs (.ref z) "zip" := ⟨_, hz, rfl⟩
  unfold pyNext
  exact wpAny_bind (wpAny_attempt (wpAny_callSpecial?_slot (name := Str.ofString "__next__") hT F.slot_zip_next
    (wpAny_call_entry F.slot_zip_next hT F.entry_zip_next
      (zipS_next_item S D1 D2 hz hTI hTO st1 st2 hlt1 hlt2 fun x1 x2 h' tk y1 y2 b1 b2 d1 d2 b5 b6 b7 => wpAny_pure (hQ x1 x2 h' tk y1 y2 b1 b2 d1 d2 b5 b6 b7)) (F.args_zip_next_1 _))))
theorem pyNext_zipS_end {Q : Option Value → Shared → Prop} (hh : A.handled = none) (S : ZipSep2 z TI TO i1 i2 fp1 fp2) (D1 : Draws prog w A.in1 i1 fp1 n1 P1 St1) (D2 : Draws prog w A.in1 i2 fp2 n2 P2 St2)
    (hz : IsZipS s.heap z TI TO .none) (hTI : IsTupOf2 s.heap TI (.ref i1) (.ref i2)) (hTO : IsTupOf2 s.heap TO a1 a2) (st1 : St1 n1 s.heap) (st2 : St2 n2 s.heap)
    (hQ : ∀ h' tk, (∀ c o, c ≠ z → c ≠ TO → c ≠ i1 → c ≠ i2 → s.heap.get? c = some o → h'.get? c = some o) → Q none { s with heap := h', toks := tk }) : wpAny (model prog w) A (pyNext (.ref z)) Q E s := by
  have hT : s.TypeIs (.ref z) "zip" := ⟨_, hz, rfl⟩
  unfold pyNext
  refine wpAny_bind (wpAny_attempt (wpAny_callSpecial?_slot (name := Str.ofString "__next__") hT F.slot_zip_next
    (wpAny_call_entry F.slot_zip_next hT F.entry_zip_next (zipS_next_end (show A.in1.handled = none from hh) S D1 D2 hz hTI hTO st1 st2 fun h' tk e hk he => ?_) (F.args_zip_next_1 _))))
  obtain ⟨o, ho, hc⟩ := he
  refine wpAny_bind (wpAny_isInstance (T := "StopIteration") (b := true) ⟨o, ho, hc⟩ isSubtype_stop ?_)
  exact wpAny_pure (hQ _ _ hk)
theorem letOwnedTupleGo_zipS {elts : List Expr} {x1} {pos : Pos} {z TI TO T : Addr} {Q : Unit → Shared → Prop} (hz : IsZipS s.heap z TI TO (rawInt T))
    (hQ : ∀ h', IsZipS h' z TI TO .none → Heap.SameBut z s.heap h' → Q () { s with heap := h' }) :
    wpAny (model prog w) A (letOwnedTupleGo (.Tuple elts x1 pos) (.ref z) (.ref T)) Q E s := by
  unfold letOwnedTupleGo
  refine wpAny_bind (wpAny_load hz ?_)
  show wpAny _ _ (if (["enumerate", "zip", "dict_itemiterator", "dict_reverseitemiterator", "odict_iterator", "itertools.zip_longest", "itertools.pairwise"].contains "zip" &&
      (#[rawInt T, .bool false, .bool true, .ref TI, .ref TO] : Array Value)[0]? == some (rawInt T)) = true then _ else _) Q E s
  rw [if_pos (by simp)]
  refine wpAny_bind (wpAny_rule ?_)
  show wpAny _ _ (setField (.ref z) 0 .none) Q E s
  exact wpAny_setField_rec hz (by simp) fun h' hz' hs' => hQ h' hz' hs'
theorem pyIter_zipS {z TI TO : Addr} {f0 : Value} {Q : Value → Shared → Prop} (hz : IsZipS s.heap z TI TO f0) (h : Q (.ref z) s) : wpAny (model prog w) A (pyIter (.ref z)) Q E s := by
  have hT : s.TypeIs (.ref z) "zip" := ⟨_, hz, rfl⟩
  refine wpAny_pyIter_slot hT F.slot_zip_iter (wpAny_call_entry F.slot_zip_iter hT F.entry_zip_iter ?_ (F.args_zip_iter_1 _))
  show wpAny _ _ (ret (.ref z)) _ _ s
  exact wpAny_pure ⟨_, rfl, "zip", _, hT, F.slot_zip_next.lookup, h⟩
end
abbrev gzS (h : Heap) (o1 o2 : Obj) : Heap := (gzO2 h o1 o2).push { cls := .type "zip", data := .fields #[.none, .bool false, .bool true, .ref ((h.push o1).push o2).objs.size, .ref (gzT2 h o1 o2).objs.size] }
theorem typeCall_zip_s (a b c : Value) : checkTypeCall "zip" ⟨[a, b], [(Str.ofString "strict", c)]⟩ = pure () := by kernel_rfl
theorem newCall_zip_s (a b c : Value) : checkBuiltinCall "zip.__new__" ⟨[.type "zip", a, b], [(Str.ofString "strict", c)]⟩ = pure () := by kernel_rfl
theorem args_init_s (obj a b c : Value) : argsOk "object.__init__" ⟨[obj, a, b], [(Str.ofString "strict", c)]⟩ := by unfold argsOk; kernel_rfl
theorem meets_zip_newS {v1 v2 : Value} {o1 o2 : Obj} {H1 H2 : Heap → Prop} (B1 : Begins v1 o1 H1) (B2 : Begins v2 o2 H2) :
    Meets (Builtin.«zip.__new__» ⟨[.type "zip", v1, v2], [(Str.ofString "strict", .bool true)]⟩) (fun _ R s => (H1 s.heap ∧ H2 s.heap) ∧
      R (.ok (.ret (.ref (gzO2 s.heap o1 o2).objs.size))) { s with heap := gzS s.heap o1 o2 }) :=
  .of_wp fun prog w A R s h => by
    obtain ⟨hp, g, d, tk, os⟩ := s; obtain ⟨⟨h1, h2⟩, h⟩ := h
    have hsub := sub_zip
    have q1 : ∀ {A' : Around} {E : Value → Shared → Prop} {Q : Value → Shared → Prop}, Q (.ref hp.objs.size) ⟨(hp.push o1), g, d, tk, os⟩ → wpAny (model prog w) A' (pyIter v1) Q E ⟨hp, g, d, tk, os⟩ :=
      fun q => B1.iter prog w _ _ ⟨hp, g, d, tk, os⟩ _ (B1.keeps _ _ h1 fun b o' e => e) q
    have q2 : ∀ {A' : Around} {E : Value → Shared → Prop} {Q : Value → Shared → Prop}, Q (.ref (hp.push o1).objs.size) ⟨((hp.push o1).push o2), g, d, tk, os⟩ → wpAny (model prog w) A' (pyIter v2) Q E ⟨(hp.push o1), g, d, tk, os⟩ :=
      fun q => B2.iter prog w _ _ ⟨(hp.push o1), g, d, tk, os⟩ _ (B2.keeps _ _ h2 fun b o' e => (Heap.get?_push_of_some _ e)) q
    have e1 : (Str.ofString "strict" == ("strict" : Str)) = true := by decide +kernel
    have e2 : (Str.ofString "strict" != ("strict" : Str)) = false := by decide +kernel
    wp_walk using q1, q2
    exact ⟨_, rfl, h⟩
section
variable {prog : Program} {w : World} {A : Around} {E : Value → Shared → Prop} {s : Shared}
theorem zip_beginsS {v1 v2 : Value} {o1 o2 : Obj} {H1 H2 : Heap → Prop} {Q : Value → Shared → Prop} (B1 : Begins v1 o1 H1) (B2 : Begins v2 o2 H2) (h1 : H1 s.heap) (h2 : H2 s.heap)
    (h : ∀ h', IsZipS h' (s.heap.objs.size + 4) (s.heap.objs.size + 2) (s.heap.objs.size + 3) .none → IsTupOf2 h' (s.heap.objs.size + 2) (.ref s.heap.objs.size) (.ref (s.heap.objs.size + 1)) →
      IsTupOf2 h' (s.heap.objs.size + 3) .none .none → h'.get? s.heap.objs.size = some o1 → h'.get? (s.heap.objs.size + 1) = some o2 → h'.objs.size = s.heap.objs.size + 5 →
      (∀ c o, s.heap.get? c = some o → h'.get? c = some o) → Q (.ref (s.heap.objs.size + 4)) { s with heap := h' }) :
    wpAny (model prog w) A (call (.type "zip") [v1, v2] [(Str.ofString "strict", .bool true)]) Q E s := by
  refine callType_newKw F.called_zip (by decide) (typeCall_zip_s _ _ _) (newCall_zip_s _ _ _) (fun obj => args_init_s obj _ _ _) F.entry_zip_new
    (meets_zip_newS B1 B2) ⟨⟨h1, h2⟩, ?_⟩
  have z1 : (s.heap.push o1).objs.size = s.heap.objs.size + 1 := by rw [Heap.size_push]
  have z2 : ((s.heap.push o1).push o2).objs.size = s.heap.objs.size + 2 := by rw [Heap.size_push, z1]
  have zT : (gzT2 s.heap o1 o2).objs.size = s.heap.objs.size + 3 := by rw [Heap.size_push, z2]
  have zO : (gzO2 s.heap o1 o2).objs.size = s.heap.objs.size + 4 := by rw [Heap.size_push, zT]
  have zZ : (gzS s.heap o1 o2).objs.size = s.heap.objs.size + 5 := by rw [Heap.size_push, zO]
  have gZ : (gzS s.heap o1 o2).get? (gzO2 s.heap o1 o2).objs.size = some { cls := .type "zip", data := .fields #[.none, .bool false, .bool true, .ref ((s.heap.push o1).push o2).objs.size, .ref (gzT2 s.heap o1 o2).objs.size] } := Heap.get?_push_size _ rfl
  have gO : (gzS s.heap o1 o2).get? (gzT2 s.heap o1 o2).objs.size = some { cls := .type "tuple", data := .seq #[.none, .none] } := Heap.get?_push_of_some _ (Heap.get?_push_size _ rfl)
  have gT : (gzS s.heap o1 o2).get? ((s.heap.push o1).push o2).objs.size = some { cls := .type "tuple", data := .seq #[.ref s.heap.objs.size, .ref (s.heap.push o1).objs.size] } := Heap.get?_push_of_some _ (Heap.get?_push_of_some _ (Heap.get?_push_size _ rfl))
  have g1 : (gzS s.heap o1 o2).get? s.heap.objs.size = some o1 := Heap.get?_push_of_some _ (Heap.get?_push_of_some _ (Heap.get?_push_of_some _ (Heap.get?_push_of_some _ (Heap.get?_push_size _ B1.free))))
  have g2 : (gzS s.heap o1 o2).get? (s.heap.push o1).objs.size = some o2 := Heap.get?_push_of_some _ (Heap.get?_push_of_some _ (Heap.get?_push_of_some _ (Heap.get?_push_size _ B2.free)))
  rw [zO, zT, z2] at gZ
  rw [zT] at gO
  rw [z2, z1] at gT
  rw [z1] at g2
  show _ ∧ _
  rw [zO]
  exact ⟨⟨_, gZ, rfl⟩, h _ gZ gT gO g1 g2 zZ fun c o e => Heap.get?_push_of_some _ (Heap.get?_push_of_some _ (Heap.get?_push_of_some _ (Heap.get?_push_of_some _ (Heap.get?_push_of_some _ e))))⟩
theorem callWith_type_kwB {M : Model} {pos : Pos} {T : String} {first : List Value} {args : List (Bool × Sem Value)} {keywords : List (Option Str × Sem Value)} {Q : Value → Shared → Prop}
    (hplain : args.any (·.1) = false) (hkw : keywords.any (·.1.isNone) = false)
    (h : wpAny M A (evalArgs (.type T) true args keywords) (fun a s₁ => wpAny M A (call (.type T) (first ++ a.pos) a.kw) Q E s₁) E s) :
    wpAny M A (callWith pos (.type T) first args keywords) Q E s := by
  unfold callWith
  refine wpAny_bind (wpAny_holding (wpAny_mono h (fun a s₁ h₁ => wpAny_bind (wpAny_standAt ?_)) fun _ _ x => x))
  simp only [hplain, hkw, Bool.or_false]
  refine wpAny_bind (wpAny_pure ?_)
  exact wpAny_bind (wpAny_mono h₁ (fun r s₂ hr => wpAny_bind (wpAny_holding (wpAny_point (wpAny_pure hr)))) fun _ _ x => x)
theorem callWith_type_kw {M : Model} {env : Env} {pos : Pos} {T : String} {e : Expr} {rest : List Expr} {kws : List Keyword} {Q : Value → Shared → Prop}
    (h : wpAny M A (spliced (backTo pos (starEach (e :: rest) env))) (fun vs s₁ => wpAny M A (evalAll ((backToKw pos (keywordEach kws env)).map (·.2)))
      (fun kvs s₂ => wpAny M A (call (.type T) vs (((backToKw pos (keywordEach kws env)).filterMap (·.1)).zip kvs)) Q E s₂) E s₁) E s)
    (he : backTo pos (starEach (e :: rest) env) = (false, eval e env) :: backTo pos (starEach rest env) := by rfl)
    (hplain : (backTo pos (starEach (e :: rest) env)).any (·.1) = false := by rfl)
    (hall : (backToKw pos (keywordEach kws env)).all (·.1.isSome) = true := by rfl)
    (hkw : (backToKw pos (keywordEach kws env)).any (·.1.isNone) = false := by rfl) :
    wpAny M A (callWith pos (.type T) [] (backTo pos (starEach (e :: rest) env)) (backToKw pos (keywordEach kws env))) Q E s := by
  refine callWith_type_kwB hplain hkw ?_
  rw [he] at h ⊢
  exact PyProof.Rows.evalArgs_kwB hall h
end
end ZSt
namespace L2
open PySem PySem.Spec PyProof.Rows ZSt
/-! ### zip(a, b, strict=True) in a for or a comprehension: lists and tuples in any mix, of one length -/
def SqK (K : PySem.W.Frag) (k : Bool) (H : Hp) (a : Addr) (xs : List V) : Prop := if k = true then SqL K H a xs else SqT K H a xs
def ItK (k : Bool) (h : Heap) (it a : Addr) (i : Nat) : Prop := if k = true then h.IsListIter it a i else h.IsTupleIter it a i
def SeqK (k : Bool) (h : Heap) (a : Addr) (its : Array Value) : Prop := if k = true then h.IsList a its else h.IsTuple a its
def itObj (k : Bool) (a : Addr) : Obj := if k = true then { cls := .type "list_iterator", data := .fields #[.ref a, .int 0 0] } else { cls := .type "tuple_iterator", data := .fields #[.ref a, .int 0 0] }
theorem draws_k {P : Program} {w : World} {A : Around} (k : Bool) (hh : A.handled = none) (it a : Addr) (hne : a ≠ it) (items : Array Value) :
    Draws P w A it [it, a] items.size (fun i v => items[i]? = some v) (fun i h => ItK k h it a i ∧ SeqK k h a items) := by
  cases k with
  | true => exact Draws.list hh it a hne items
  | false => exact Draws.tuple hh it a hne items
theorem begins_k (k : Bool) (a : Addr) (items : Array Value) : Begins (.ref a) (itObj k a) fun h => SeqK k h a items := by
  cases k with
  | true => exact begins_list a items
  | false => exact begins_tuple a items
theorem ItK.at {k : Bool} {h h' : Heap} {it a : Addr} {i : Nat} (x : ItK k h it a i) (q : ∀ o, h.get? it = some o → h'.get? it = some o) : ItK k h' it a i := by
  cases k with
  | true => exact Heap.IsListIter.at x q
  | false => exact Heap.IsTupleIter.at x q
theorem ItK.obj {k : Bool} {h : Heap} {it a : Addr} {i : Nat} (x : ItK k h it a i) : ∃ o, h.get? it = some o ∧ ∀ v, o.data ≠ .cell v := by
  cases k with
  | true =>
    obtain ⟨o, e, _, d⟩ := x
    exact ⟨o, e, fun v q => by rw [d] at q; cases q⟩
  | false =>
    obtain ⟨o, e, _, d⟩ := x
    exact ⟨o, e, fun v q => by rw [d] at q; cases q⟩
theorem ItK.new {k : Bool} {h : Heap} {it a : Addr} (e : h.get? it = some (itObj k a)) : ItK k h it a 0 := by
  cases k with
  | true => exact ⟨_, e, rfl, rfl⟩
  | false => exact ⟨_, e, rfl, rfl⟩
section
variable {X : Cx} {pins : List (Addr × Obj)} {σ : St} {H : Hp} {s : Shared} {a : Addr} {xs ys : List V} {k : Bool}
theorem Inv.seqK (I : Inv X pins σ H s) (h : SqK X.K k H a xs) : ∃ its : List Value, Vals xs its ∧ SeqK k s.heap a its.toArray := by
  cases k with
  | true =>
    obtain ⟨its, r, p, _⟩ := I.list h
    exact ⟨its, r, p.isList⟩
  | false =>
    obtain ⟨its, r, p, _⟩ := I.tuple h
    exact ⟨its, r, p⟩
theorem Inv.seqK_inj (I : Inv X pins σ H s) (h : SqK X.K k H a xs) (h' : SqK X.K k H a ys) : xs = ys := by
  cases k with
  | true => exact I.list_inj h h'
  | false => exact I.tuple_inj h h'
end
/-- the two sequences as they stand at each turn, the items in new pairs -/
def ItzS (K : PySem.W.Frag) (k1 k2 : Bool) (a b : Addr) : It :=
  ⟨fun i H => ∃ (xs ys : List V) (x y : V), SqK K k1 H a xs ∧ SqK K k2 H b ys ∧ xs[i]? = some x ∧ ys[i]? = some y,
    fun i H v H' => ∃ T x y, v = .ref T ∧ H T = none ∧ H' = upd H T (.tup [x, y]) ∧ (∀ xs, SqK K k1 H a xs → xs[i]? = some x) ∧ ∀ ys, SqK K k2 H b ys → ys[i]? = some y,
    fun i H => ∃ xs ys : List V, SqK K k1 H a xs ∧ SqK K k2 H b ys ∧ xs.length = i ∧ ys.length = i⟩
theorem ne_succ {a N : Nat} (h : a < N) : a ≠ N + 1 := by omega
theorem lt5 {c N S : Nat} (h : N + 4 < S) (e : c = N + 4 ∨ c = N + 2 ∨ c = N + 3 ∨ c = N ∨ c = N + 1) : c < S := by omega
theorem ge5 {c N : Nat} (e : c = N + 4 ∨ c = N + 2 ∨ c = N + 3 ∨ c = N ∨ c = N + 1) : N ≤ c := by omega
/-- the five new cells lie apart -/
theorem sep_k {N a b : Addr} (ha : a < N) (hb : b < N) : ZipSep2 (N + 4) (N + 2) (N + 3) N (N + 1) [N, a] [N + 1, b] := by
  have h1 : ∀ c ∈ [a], c < N := fun c hc => by
    have e : c = a := by simpa using hc
    rw [e]
    exact ha
  have h2 : ∀ c ∈ [b], c < N := fun c hc => by
    have e : c = b := by simpa using hc
    rw [e]
    exact hb
  exact zip_sep2 (N := N) h1 h2
theorem turn_zipS {P : Program} {w : World} {K : PySem.W.Frag} {elts : List Expr} {kk : Nat} {tpos : Pos} {k1 k2 : Bool} {a b N : Addr} (ha : a < N) (hb : b < N) :
    Turn P w K (.Tuple elts kk tpos) (ItzS K k1 k2 a b) [N + 4, N + 2, N + 3, N, N + 1] (N + 4) (fun i h => IsZipS h (N + 4) (N + 2) (N + 3) .none ∧ IsTupOf2 h (N + 2) (.ref N) (.ref (N + 1)) ∧ (∃ x y, IsTupOf2 h (N + 3) x y) ∧ ItK k1 h N a i ∧ ItK k2 h (N + 1) b i) where
  mem := by simp
  obj := fun i h st c hc => by
    obtain ⟨hz, hTI, ⟨x, y, hTO⟩, h1, h2⟩ := st
    have e' : c = N + 4 ∨ c = N + 2 ∨ c = N + 3 ∨ c = N ∨ c = N + 1 := by simpa using hc
    rcases e' with q | q | q | q | q
    · rw [q]; exact ⟨_, hz, fun v q => nomatch q⟩
    · rw [q]; exact ⟨_, hTI, fun v q => nomatch q⟩
    · rw [q]; exact ⟨_, hTO, fun v q => nomatch q⟩
    · rw [q]; exact h1.obj
    · rw [q]; exact h2.obj
  keep := fun i h h' st k => by
    obtain ⟨hz, hTI, ⟨x, y, hTO⟩, h1, h2⟩ := st
    exact ⟨k _ (by simp) _ hz, k _ (by simp) _ hTI, ⟨x, y, k _ (by simp) _ hTO⟩, h1.at fun o q => k N (by simp) o q, h2.at fun o q => k (N + 1) (by simp) o q⟩
  item := by
    intro X hP hw hK hc i pins s σ H E I hf st hg
    subst hP hw hK
    have S := sep_k ha hb
    obtain ⟨hz, hTI, ⟨x0, y0, hTO⟩, h1, h2⟩ := st
    obtain ⟨xs, ys, x, y, hqx, hqy, hx, hy⟩ := hg
    obtain ⟨its, rv, p⟩ := I.seqK hqx
    obtain ⟨its2, rv2, p2⟩ := I.seqK hqy
    obtain ⟨u, hu, ru⟩ := rv.get hx
    obtain ⟨u2, hu2, ru2⟩ := rv2.get hy
    have hzl : N + 4 < s.heap.objs.size := Heap.lt_size hz
    have hi1 : i < its.toArray.size := by
      have := (List.getElem?_eq_some_iff.mp hu).1
      simpa using this
    have hi2 : i < its2.toArray.size := by
      have := (List.getElem?_eq_some_iff.mp hu2).1
      simpa using this
    have hd : X.A.in1.handled = none := I.ok.hd hc
    refine pyNext_zipS_item S (draws_k k1 hd N a (Nat.ne_of_lt ha) its.toArray) (draws_k k2 hd (N + 1) b (ne_succ hb) its2.toArray) hz hTI hTO ⟨h1, p⟩ ⟨h2, p2⟩ hi1 hi2 fun w1 w2 h' tk z1 z2 z' TO' g1 g2 hT hsz hk => ?_
    have e1 : w1 = u := by
      have q : its[i]? = some w1 := by simpa using z1
      rw [hu] at q
      exact (Option.some.inj q).symm
    have e2 : w2 = u2 := by
      have q : its2[i]? = some w2 := by simpa using z2
      rw [hu2] at q
      exact (Option.some.inj q).symm
    subst e1 e2
    refine ⟨_, rfl, letOwnedTupleGo_zipS (s := { s with heap := h', toks := tk }) z' fun h'' z'' sb => ?_⟩
    have hT2 : h''.get? s.heap.objs.size = some { cls := .type "tuple", data := .seq #[w1, w2] } := (sb.2 _ (Nat.ne_of_gt hzl)).trans hT
    have new : ObjOk X.prog X.w (upd H s.heap.objs.size (.tup [x, y])) h'' s.heap.objs.size (.tup [x, y]) :=
      ⟨by show 2 ≤ sizeLine; decide, [w1, w2], .cons ru (.cons ru2 .nil), ⟨_, hT2, rfl, _, rfl⟩⟩
    have I1 : Inv X pins σ (upd H s.heap.objs.size (.tup [x, y])) { s with heap := h'', toks := tk } :=
      I.turnedNew (t' := tk) (ch := [N + 4, N + 2, N + 3, N, N + 1]) (fun c o hb q => (sb.2 c (fun q' => hb (by simp [q']))).trans (hk c o (fun q' => hb (by simp [q'])) (fun q' => hb (by simp [q'])) (fun q' => hb (by simp [q'])) (fun q' => hb (by simp [q'])) q)) hf (Nat.le_refl _) new
    refine ⟨.ref s.heap.objs.size, _, I1, rfl, ⟨_, x, y, rfl, I.hok.fresh (Nat.le_refl _), rfl, fun l hl => by rw [I.seqK_inj hl hqx]; exact hx, fun l hl => by rw [I.seqK_inj hl hqy]; exact hy⟩, ⟨z'', ?_, ⟨w1, w2, ?_⟩, ?_, ?_⟩, fun c hcm => ?_⟩
    · exact (sb.2 _ S.TIz).trans (hk _ _ S.TIz S.TITO S.TIi1 S.TIi2 hTI)
    · exact (sb.2 _ S.TOz).trans TO'
    · exact g1.1.at fun o q => (sb.2 _ S.zi1.symm).trans q
    · exact g2.1.at fun o q => (sb.2 _ S.zi2.symm).trans q
    · have hlt : c < s.heap.objs.size := by
        have e' : c = N + 4 ∨ c = N + 2 ∨ c = N + 3 ∨ c = N ∨ c = N + 1 := by simpa using hcm
        exact lt5 hzl e'
      rw [upd_ne (Nat.ne_of_lt hlt)]
      exact (hf c hcm).1
  done := by
    intro X hP hw hK hc i pins s σ H E I hf st hg
    subst hP hw hK
    have S := sep_k ha hb
    obtain ⟨hz, hTI, ⟨x0, y0, hTO⟩, h1, h2⟩ := st
    obtain ⟨xs, ys, hqx, hqy, l1, l2⟩ := hg
    obtain ⟨its, rv, p⟩ := I.seqK hqx
    obtain ⟨its2, rv2, p2⟩ := I.seqK hqy
    have e1 := rv.length
    have e2 := rv2.length
    have hd : X.A.in1.handled = none := I.ok.hd hc
    have f1 : its.toArray.size = i := by simp; omega
    have f2 : its2.toArray.size = i := by simp; omega
    refine pyNext_zipS_end (I.ok.hd hc) S (draws_k k1 hd N a (Nat.ne_of_lt ha) its.toArray) (draws_k k2 hd (N + 1) b (ne_succ hb) its2.toArray) hz hTI hTO ⟨by rw [f1]; exact h1, p⟩ ⟨by rw [f2]; exact h2, p2⟩ fun h' tk hk => ⟨rfl, ?_⟩
    exact I.turnedL (t' := tk) (ch := [N + 4, N + 2, N + 3, N, N + 1]) (fun c o hb q =>
      hk c o (fun q' => hb (by simp [q'])) (fun q' => hb (by simp [q'])) (fun q' => hb (by simp [q'])) (fun q' => hb (by simp [q'])) q) hf
  self := fun A i s Q E st h => pyIter_zipS st.1 h
def iZipS (K : PySem.W.Frag) (ta : TA) : TI := fun σ H R => ta σ H fun vs H1 => ∃ k1 k2 a b xs ys, vs = [.ref a, .ref b] ∧ SqK K k1 H1 a xs ∧ SqK K k2 H1 b ys ∧ R (ItzS K k1 k2 a b) H1
theorem SeqK.lt {k : Bool} {h : Heap} {a : Addr} {its : Array Value} (x : SeqK k h a its) : a < h.objs.size := by
  cases k with
  | true =>
    obtain ⟨o, e, _⟩ := x
    exact Heap.lt_size e
  | false =>
    obtain ⟨o, e, _⟩ := x
    exact Heap.lt_size e
theorem pi_zipS {X : Cx} {e e2 : Expr} {j : Nat} {ta : TA} {p p3 p4 pos tpos : Pos} {elts : List Expr} {kk : Nat} (hg : Gl X "zip") (hm : X.mg "zip" = none) (ha : PA X [e, e2] ta)
    (he : backTo pos (starEach [e, e2] X.env) = (false, eval e X.env) :: backTo pos (starEach [e2] X.env) := by rfl) (hpl : (backTo pos (starEach [e, e2] X.env)).any (·.1) = false := by rfl)
    (hall : (backToKw pos (keywordEach [⟨some "strict", .Constant (.bool true) j p3, p4⟩] X.env)).all (·.1.isSome) = true := by rfl) (hnone : (backToKw pos (keywordEach [⟨some "strict", .Constant (.bool true) j p3, p4⟩] X.env)).any (·.1.isNone) = false := by rfl)
    (hks : (backToKw pos (keywordEach [⟨some "strict", .Constant (.bool true) j p3, p4⟩] X.env)).filterMap (·.1) = [("strict" : Str)] := by rfl) :
    PI X (.Tuple elts kk tpos) (.Call (.Name "zip" p) [e, e2] [⟨some "strict", .Constant (.bool true) j p3, p4⟩] pos) (iZipS X.K ta) := by
  refine ⟨fun pins s σ H R I h => ?_⟩
  refine wpAny_Call_Name_kw (ld_blt I hg hm PyProof.Rows.boot_zip ?_)
  refine callWith_type_kw (thn (ha.run pos pins s σ H _ I h) fun us s1 ⟨vs, H1, I1, r1, q1⟩ => thn ((pk_cons (pe_bl (b := true)) pk_nil).run pos pins s1 σ H1 (fun zs H2 => zs = [.bl true] ∧ H2 = H1) I1 ⟨rfl, rfl⟩) fun ws s2 ⟨zs, H2, I2, r2, ez, eH⟩ => ?_) he hpl hall hnone
  subst ez eH
  rw [hks]
  obtain ⟨k1, k2, a, b, xs, ys, ex, hqx, hqy, q⟩ := q1
  subst ex
  cases r1 with
  | cons r rr =>
    cases rr with
    | cons r' rr =>
      cases rr
      cases r
      cases r'
      cases r2 with
      | cons rz rr =>
        cases rr
        cases rz
        obtain ⟨its, rv, p1⟩ := I2.seqK hqx
        obtain ⟨its2, rv2, p2⟩ := I2.seqK hqy
        have fresh5 : ∀ c, c ∈ [s2.heap.objs.size + 4, s2.heap.objs.size + 2, s2.heap.objs.size + 3, s2.heap.objs.size, s2.heap.objs.size + 1] → FpOk X pins H2 c := fun c hcm => by
          have e' : c = s2.heap.objs.size + 4 ∨ c = s2.heap.objs.size + 2 ∨ c = s2.heap.objs.size + 3 ∨ c = s2.heap.objs.size ∨ c = s2.heap.objs.size + 1 := by simpa using hcm
          have hle : s2.heap.objs.size ≤ c := ge5 e'
          exact I2.fpOk hle (I2.hok.fresh hle)
        refine zip_beginsS (begins_k k1 a its.toArray) (begins_k k2 b its2.toArray) p1 p2 fun h' hz hTI hTO g1 g2 hsz hk => pyIter_zipS hz ?_
        have I3 : Inv X pins σ H2 { s2 with heap := h' } := I2.kept (t' := s2.toks) hk
        exact ⟨s2.heap.objs.size + 4, [s2.heap.objs.size + 4, s2.heap.objs.size + 2, s2.heap.objs.size + 3, s2.heap.objs.size, s2.heap.objs.size + 1], _, _, H2, rfl, I3, turn_zipS p1.lt p2.lt, ⟨hz, hTI, ⟨_, _, hTO⟩, ItK.new g1, ItK.new g2⟩, fresh5, q⟩
end L2
namespace DL
open PySem L2 PyProof.Rows
/-- pairs of two sequences of one length -/
def pairD : List Dv → List Dv → List Dv
  | x :: xs, y :: ys => .tup [x, y] :: pairD xs ys
  | _, _ => []
theorem pairD_len : ∀ {xs ys : List Dv}, xs.length = ys.length → (pairD xs ys).length = xs.length
  | [], [], _ => rfl
  | x :: xs, y :: ys, h => by
    show (pairD xs ys).length + 1 = xs.length + 1
    rw [pairD_len (Nat.succ.inj h)]
  | [], _ :: _, h => by cases h
  | _ :: _, [], h => by cases h
theorem pairD_get : ∀ {xs ys : List Dv} {i : Nat} {d : Dv}, (pairD xs ys)[i]? = some d → ∃ x y, xs[i]? = some x ∧ ys[i]? = some y ∧ d = .tup [x, y]
  | [], _, _, _, h => by simp [pairD] at h
  | _ :: _, [], _, _, h => by simp [pairD] at h
  | x :: xs, y :: ys, 0, d, h => by
    simp [pairD] at h
    exact ⟨x, y, rfl, rfl, h.symm⟩
  | x :: xs, y :: ys, i + 1, d, h => by
    have h' : (pairD xs ys)[i]? = some d := by simpa [pairD] using h
    obtain ⟨a, b, h1, h2, h3⟩ := pairD_get h'
    exact ⟨a, b, by simpa using h1, by simpa using h2, h3⟩
def asSeqF (env : DEnv) (x : RV) : Option (List Dv × DEnv) := (frz env x).bind fun q => match q.1 with
  | .lst xs => some (xs, q.2)
  | .tup xs => some (xs, q.2)
  | _ => none
def fZipS (fa : AF) : IF := fun env => (fa env).bind fun p => match p.1 with
  | [x, y] => (asSeqF p.2 x).bind fun q => (asSeqF q.2 y).bind fun r => if q.1.length = r.1.length then some (pairD q.1 r.1, r.2) else none
  | _ => none
theorem asSeqF_ok {K : PySem.W.Frag} {C : DC} {env env' : DEnv} {σ : L2.St} {H : Hp} {x : RV} {v : V} {xs : List Dv} (R : Rel C env σ H) (r : RVr C env σ H x v) (h : asSeqF env x = some (xs, env')) :
    Rel C env' σ H ∧ Sh env env' ∧ ∃ (k : Bool) (a : Addr) (vs : List V), v = .ref a ∧ ¬ MM C env' σ a ∧ H a = some (if k = true then .lst vs else .tup vs) ∧ Dats (MM C env' σ) H xs vs := by
  unfold asSeqF at h
  obtain ⟨⟨d, e1⟩, h1, h⟩ := Option.bind_eq_some_iff.mp h
  obtain ⟨R1, s1, d1⟩ := frz_ok R r h1
  simp only at h
  split at h
  · cases h
    unfold Dat at d1
    obtain ⟨a, vs, e, n, ha, hs⟩ := d1
    exact ⟨R1, s1, true, a, vs, e, n, ha, hs⟩
  · cases h
    unfold Dat at d1
    obtain ⟨a, vs, e, n, ha, hs⟩ := d1
    exact ⟨R1, s1, false, a, vs, e, n, ha, hs⟩
  · cases h
theorem sqK_of {K : PySem.W.Frag} {k : Bool} {H : Hp} {a : Addr} {vs : List V} (h : H a = some (if k = true then .lst vs else .tup vs)) : SqK K k H a vs := by
  cases k with
  | true => exact SqL.of h
  | false => exact SqT.of h
theorem ri_zipS {K : PySem.W.Frag} {ta : TA} {fa : AF} (ha : RA ta fa) : RI (iZipS K ta) (fZipS fa) := fun C env σ H R ds env' h Re k => by
  unfold fZipS at h
  obtain ⟨⟨rs, e1⟩, h1, h⟩ := Option.bind_eq_some_iff.mp h
  refine ha C env σ H _ rs e1 h1 Re fun vs H1 R1 s1 g1 r1 => ?_
  match rs, h with
  | [x, y], h =>
    obtain ⟨⟨xs, e2⟩, h2, h⟩ := Option.bind_eq_some_iff.mp h
    obtain ⟨⟨ys, e3⟩, h3, h⟩ := Option.bind_eq_some_iff.mp h
    split at h
    case isFalse => cases h
    rename_i hl
    cases h
    obtain ⟨v, w, rfl, q1, q2⟩ := rvs2 r1
    obtain ⟨R2, s2, k1, a, us, rfl, na, ea, da⟩ := asSeqF_ok (K := K) R1 q1 h2
    obtain ⟨R3, s3, k2, b, ws, rfl, nb, eb, db⟩ := asSeqF_ok (K := K) R2 (q2.step s2 (Grow.refl _ _ _)) h3
    have da' := (Grow.refl _ _ H1).dats s3 da
    have na' : ¬ MM C e3 σ a := fun z => na (s3.mm z)
    refine ⟨k1, k2, a, b, us, ws, rfl, sqK_of ea, sqK_of eb, k _ H1 R3 ((s1.trans s2).trans s3) g1 ⟨?_⟩⟩
    rw [pairD_len hl]
    have l1 : us.length = xs.length := da'.length
    have l2 : ws.length = ys.length := db.length
    refine ⟨fun i H hi hg => ?_, fun H hg => ?_, fun i H z H' hi hg y => ?_⟩
    · have hl : xs.length = ys.length := hl
      have hi : i < xs.length := hi
      have i1 : i < us.length := by omega
      have i2 : i < ws.length := by omega
      exact ⟨us, ws, us[i], ws[i], sqK_of (hg a _ na' ea), sqK_of (hg b _ nb eb), List.getElem?_eq_getElem i1, List.getElem?_eq_getElem i2⟩
    · have hl : xs.length = ys.length := hl
      exact ⟨us, ws, sqK_of (hg a _ na' ea), sqK_of (hg b _ nb eb), l1, by rw [l2]; exact hl.symm⟩
    · obtain ⟨T, u, v, rfl, nT, rfl, f1, f2⟩ := y
      have g1 := f1 us (sqK_of (hg a _ na' ea))
      have g2 := f2 ws (sqK_of (hg b _ nb eb))
      refine ⟨fun a o q => by rw [upd_ne (ne_of_none q nT)]; exact q, fun M2 m n d hd => ?_⟩
      obtain ⟨x', y', z1, z2, rfl⟩ := pairD_get hd
      obtain ⟨u', y1, y2⟩ := da'.get z1
      obtain ⟨v', y3, y4⟩ := db.get z2
      rw [g1] at y1
      cases y1
      rw [g2] at y3
      cases y3
      have up : ∀ {d : Dv} {v : V}, Dat (MM C e3 σ) H1 d v → Dat M2 (upd H T (.tup [u, v])) d v → True := fun _ _ => True.intro
      have c1 : Dat M2 (upd H T (.tup [u, v])) x' u := y2.to (fun a o n q => by rw [upd_ne (ne_of_none (hg a o n q) nT)]; exact hg a o n q) m
      have c2 : Dat M2 (upd H T (.tup [u, v])) y' v := y4.to (fun a o n q => by rw [upd_ne (ne_of_none (hg a o n q) nT)]; exact hg a o n q) m
      unfold Dat
      exact ⟨T, [u, v], rfl, fun z => n T z nT, upd_same, .cons c1 (.cons c2 .nil)⟩
end DL

set_option Elab.async false
set_option linter.all false
set_option maxRecDepth 100000
set_option maxHeartbeats 4000000
namespace L2
open PySem PySem.Spec PyProof.Rows ZSt
/-- the two sequences as they stand at each turn, the items in new pairs -/
def ItzN (K : PySem.W.Frag) (k1 k2 : Bool) (a b : Addr) : It :=
  ⟨fun i H => ∃ (xs ys : List V) (x y : V), SqK K k1 H a xs ∧ SqK K k2 H b ys ∧ xs[i]? = some x ∧ ys[i]? = some y,
    fun i H v H' => ∃ T x y, v = .ref T ∧ H T = none ∧ H' = upd H T (.tup [x, y]) ∧ (∀ xs, SqK K k1 H a xs → xs[i]? = some x) ∧ ∀ ys, SqK K k2 H b ys → ys[i]? = some y,
    fun i H => ∃ xs ys : List V, SqK K k1 H a xs ∧ SqK K k2 H b ys ∧ i ≤ xs.length ∧ i ≤ ys.length ∧ (i = xs.length ∨ i = ys.length)⟩
theorem turn_zipN {P : Program} {w : World} {K : PySem.W.Frag} {elts : List Expr} {kk : Nat} {tpos : Pos} {k1 k2 : Bool} {a b N : Addr} (ha : a < N) (hb : b < N) :
    Turn P w K (.Tuple elts kk tpos) (ItzN K k1 k2 a b) [N + 4, N + 2, N + 3, N, N + 1] (N + 4) (fun i h => IsZip h (N + 4) (N + 2) (N + 3) .none ∧ IsTupOf2 h (N + 2) (.ref N) (.ref (N + 1)) ∧ (∃ x y, IsTupOf2 h (N + 3) x y) ∧ ItK k1 h N a i ∧ ItK k2 h (N + 1) b i) where
  mem := by simp
  obj := fun i h st c hc => by
    obtain ⟨hz, hTI, ⟨x, y, hTO⟩, h1, h2⟩ := st
    have e' : c = N + 4 ∨ c = N + 2 ∨ c = N + 3 ∨ c = N ∨ c = N + 1 := by simpa using hc
    rcases e' with q | q | q | q | q
    · rw [q]; exact ⟨_, hz, fun v q => nomatch q⟩
    · rw [q]; exact ⟨_, hTI, fun v q => nomatch q⟩
    · rw [q]; exact ⟨_, hTO, fun v q => nomatch q⟩
    · rw [q]; exact h1.obj
    · rw [q]; exact h2.obj
  keep := fun i h h' st k => by
    obtain ⟨hz, hTI, ⟨x, y, hTO⟩, h1, h2⟩ := st
    exact ⟨k _ (by simp) _ hz, k _ (by simp) _ hTI, ⟨x, y, k _ (by simp) _ hTO⟩, h1.at fun o q => k N (by simp) o q, h2.at fun o q => k (N + 1) (by simp) o q⟩
  item := by
    intro X hP hw hK hc i pins s σ H E I hf st hg
    subst hP hw hK
    have S := sep_k ha hb
    obtain ⟨hz, hTI, ⟨x0, y0, hTO⟩, h1, h2⟩ := st
    obtain ⟨xs, ys, x, y, hqx, hqy, hx, hy⟩ := hg
    obtain ⟨its, rv, p⟩ := I.seqK hqx
    obtain ⟨its2, rv2, p2⟩ := I.seqK hqy
    obtain ⟨u, hu, ru⟩ := rv.get hx
    obtain ⟨u2, hu2, ru2⟩ := rv2.get hy
    have hzl : N + 4 < s.heap.objs.size := Heap.lt_size hz
    have hi1 : i < its.toArray.size := by
      have := (List.getElem?_eq_some_iff.mp hu).1
      simpa using this
    have hi2 : i < its2.toArray.size := by
      have := (List.getElem?_eq_some_iff.mp hu2).1
      simpa using this
    have hd : X.A.in1.handled = none := I.ok.hd hc
    refine wpAny_pyNext_zipD2_item S (draws_k k1 hd N a (Nat.ne_of_lt ha) its.toArray) (draws_k k2 hd (N + 1) b (ne_succ hb) its2.toArray) hz hTI hTO ⟨h1, p⟩ ⟨h2, p2⟩ hi1 hi2 fun w1 w2 h' tk z1 z2 z' TO' g1 g2 hT hsz hk => ?_
    have e1 : w1 = u := by
      have q : its[i]? = some w1 := by simpa using z1
      rw [hu] at q
      exact (Option.some.inj q).symm
    have e2 : w2 = u2 := by
      have q : its2[i]? = some w2 := by simpa using z2
      rw [hu2] at q
      exact (Option.some.inj q).symm
    subst e1 e2
    refine ⟨_, rfl, wpAny_letOwnedTupleGo_zip (s := { s with heap := h', toks := tk }) z' fun h'' z'' sb => ?_⟩
    have hT2 : h''.get? s.heap.objs.size = some { cls := .type "tuple", data := .seq #[w1, w2] } := (sb.2 _ (Nat.ne_of_gt hzl)).trans hT
    have new : ObjOk X.prog X.w (upd H s.heap.objs.size (.tup [x, y])) h'' s.heap.objs.size (.tup [x, y]) :=
      ⟨by show 2 ≤ sizeLine; decide, [w1, w2], .cons ru (.cons ru2 .nil), ⟨_, hT2, rfl, _, rfl⟩⟩
    have I1 : Inv X pins σ (upd H s.heap.objs.size (.tup [x, y])) { s with heap := h'', toks := tk } :=
      I.turnedNew (t' := tk) (ch := [N + 4, N + 2, N + 3, N, N + 1]) (fun c o hb q => (sb.2 c (fun q' => hb (by simp [q']))).trans (hk c o (fun q' => hb (by simp [q'])) (fun q' => hb (by simp [q'])) (fun q' => hb (by simp [q'])) (fun q' => hb (by simp [q'])) q)) hf (Nat.le_refl _) new
    refine ⟨.ref s.heap.objs.size, _, I1, rfl, ⟨_, x, y, rfl, I.hok.fresh (Nat.le_refl _), rfl, fun l hl => by rw [I.seqK_inj hl hqx]; exact hx, fun l hl => by rw [I.seqK_inj hl hqy]; exact hy⟩, ⟨z'', ?_, ⟨w1, w2, ?_⟩, ?_, ?_⟩, fun c hcm => ?_⟩
    · exact (sb.2 _ S.TIz).trans (hk _ _ S.TIz S.TITO S.TIi1 S.TIi2 hTI)
    · exact (sb.2 _ S.TOz).trans TO'
    · exact g1.1.at fun o q => (sb.2 _ S.zi1.symm).trans q
    · exact g2.1.at fun o q => (sb.2 _ S.zi2.symm).trans q
    · have hlt : c < s.heap.objs.size := by
        have e' : c = N + 4 ∨ c = N + 2 ∨ c = N + 3 ∨ c = N ∨ c = N + 1 := by simpa using hcm
        exact lt5 hzl e'
      rw [upd_ne (Nat.ne_of_lt hlt)]
      exact (hf c hcm).1
  done := by
    intro X hP hw hK hc i pins s σ H E I hf st hg
    subst hP hw hK
    have S := sep_k ha hb
    obtain ⟨hz, hTI, ⟨x0, y0, hTO⟩, h1, h2⟩ := st
    obtain ⟨xs, ys, hqx, hqy, l1, l2, l3⟩ := hg
    obtain ⟨its, rv, p⟩ := I.seqK hqx
    obtain ⟨its2, rv2, p2⟩ := I.seqK hqy
    have e1 := rv.length
    have e2 := rv2.length
    have hd : X.A.in1.handled = none := I.ok.hd hc
    have f1 : i ≤ its.toArray.size := by simp; omega
    have f2 : i ≤ its2.toArray.size := by simp; omega
    have f3 : i = its.toArray.size ∨ i = its2.toArray.size := by simp; omega
    refine wpAny_pyNext_zipD2_end S (draws_k k1 hd N a (Nat.ne_of_lt ha) its.toArray) (draws_k k2 hd (N + 1) b (ne_succ hb) its2.toArray) hz hTI hTO ⟨h1, p⟩ ⟨h2, p2⟩ f1 f2 f3 fun h' tk hk => ⟨rfl, ?_⟩
    exact I.turnedL (t' := tk) (ch := [N + 4, N + 2, N + 3, N, N + 1]) (fun c o hb q =>
      hk c o (fun q' => hb (by simp [q'])) (fun q' => hb (by simp [q'])) (fun q' => hb (by simp [q'])) (fun q' => hb (by simp [q'])) q) hf
  self := fun A i s Q E st h => wpAny_pyIter_zip st.1 h
def iZipN (K : PySem.W.Frag) (ta : TA) : TI := fun σ H R => ta σ H fun vs H1 => ∃ k1 k2 a b xs ys, vs = [.ref a, .ref b] ∧ SqK K k1 H1 a xs ∧ SqK K k2 H1 b ys ∧ R (ItzN K k1 k2 a b) H1
theorem pi_zipN {X : Cx} {e e2 : Expr} {ta : TA} {p pos tpos : Pos} {elts : List Expr} {kk : Nat} (hg : Gl X "zip") (hm : X.mg "zip" = none) (ha : PA X [e, e2] ta)
    (hs : starEach [e, e2] X.env = (false, eval e X.env) :: starEach [e2] X.env := by rfl) (hpl : (backTo pos (starEach [e2] X.env)).any (·.1) = false := by rfl) :
    PI X (.Tuple elts kk tpos) (.Call (.Name "zip" p) [e, e2] [] pos) (iZipN X.K ta) := by
  refine ⟨fun pins s σ H R I h => ?_⟩
  refine Call_ (ld_blt I hg hm PyProof.Rows.boot_zip (PyProof.Rows.callWith_type1 (thn (ha.run pos pins s σ H _ I h) fun us s2 ⟨vs, H2, I2, r1, q1⟩ => ?_) hs hpl))
  obtain ⟨k1, k2, a, b, xs, ys, ex, hqx, hqy, q⟩ := q1
  subst ex
  cases r1 with
  | cons r rr =>
    cases rr with
    | cons r' rr =>
      cases rr
      cases r
      cases r'
      obtain ⟨its, rv, p1⟩ := I2.seqK hqx
      obtain ⟨its2, rv2, p2⟩ := I2.seqK hqy
      have fresh5 : ∀ c, c ∈ [s2.heap.objs.size + 4, s2.heap.objs.size + 2, s2.heap.objs.size + 3, s2.heap.objs.size, s2.heap.objs.size + 1] → FpOk X pins H2 c := fun c hcm => by
        have e' : c = s2.heap.objs.size + 4 ∨ c = s2.heap.objs.size + 2 ∨ c = s2.heap.objs.size + 3 ∨ c = s2.heap.objs.size ∨ c = s2.heap.objs.size + 1 := by simpa using hcm
        have hle : s2.heap.objs.size ≤ c := ge5 e'
        exact I2.fpOk hle (I2.hok.fresh hle)
      refine zip_begins2 (begins_k k1 a its.toArray) (begins_k k2 b its2.toArray) p1 p2 fun h' hz hTI hTO g1 g2 hsz hk => wpAny_pyIter_zip hz ?_
      have I3 : Inv X pins σ H2 { s2 with heap := h' } := I2.kept (t' := s2.toks) hk
      exact ⟨s2.heap.objs.size + 4, [s2.heap.objs.size + 4, s2.heap.objs.size + 2, s2.heap.objs.size + 3, s2.heap.objs.size, s2.heap.objs.size + 1], _, _, H2, rfl, I3, turn_zipN p1.lt p2.lt, ⟨hz, hTI, ⟨_, _, hTO⟩, ItK.new g1, ItK.new g2⟩, fresh5, q⟩
end L2
namespace DL
open PySem L2 PyProof.Rows
theorem pairD_lenN : ∀ {xs ys : List Dv}, (pairD xs ys).length = min xs.length ys.length
  | [], [] => rfl
  | x :: xs, y :: ys => by
    show (pairD xs ys).length + 1 = min (xs.length + 1) (ys.length + 1)
    rw [pairD_lenN]
    omega
  | [], _ :: _ => by simp [pairD]
  | _ :: _, [] => by simp [pairD]
def fZipN (fa : AF) : IF := fun env => (fa env).bind fun p => match p.1 with
  | [x, y] => (asSeqF p.2 x).bind fun q => (asSeqF q.2 y).bind fun r => some (pairD q.1 r.1, r.2)
  | _ => none
theorem ri_zipN {K : PySem.W.Frag} {ta : TA} {fa : AF} (ha : RA ta fa) : RI (iZipN K ta) (fZipN fa) := fun C env σ H R ds env' h Re k => by
  unfold fZipN at h
  obtain ⟨⟨rs, e1⟩, h1, h⟩ := Option.bind_eq_some_iff.mp h
  refine ha C env σ H _ rs e1 h1 Re fun vs H1 R1 s1 g1 r1 => ?_
  match rs, h with
  | [x, y], h =>
    obtain ⟨⟨xs, e2⟩, h2, h⟩ := Option.bind_eq_some_iff.mp h
    obtain ⟨⟨ys, e3⟩, h3, h⟩ := Option.bind_eq_some_iff.mp h
    cases h
    obtain ⟨v, w, rfl, q1, q2⟩ := rvs2 r1
    obtain ⟨R2, s2, k1, a, us, rfl, na, ea, da⟩ := asSeqF_ok (K := K) R1 q1 h2
    obtain ⟨R3, s3, k2, b, ws, rfl, nb, eb, db⟩ := asSeqF_ok (K := K) R2 (q2.step s2 (Grow.refl _ _ _)) h3
    have da' := (Grow.refl _ _ H1).dats s3 da
    have na' : ¬ MM C e3 σ a := fun z => na (s3.mm z)
    refine ⟨k1, k2, a, b, us, ws, rfl, sqK_of ea, sqK_of eb, k _ H1 R3 ((s1.trans s2).trans s3) g1 ⟨?_⟩⟩
    rw [pairD_lenN]
    have l1 : us.length = xs.length := da'.length
    have l2 : ws.length = ys.length := db.length
    refine ⟨fun i H hi hg => ?_, fun H hg => ?_, fun i H z H' hi hg y => ?_⟩
    · have hi : i < min xs.length ys.length := hi
      have i1 : i < us.length := by omega
      have i2 : i < ws.length := by omega
      exact ⟨us, ws, us[i], ws[i], sqK_of (hg a _ na' ea), sqK_of (hg b _ nb eb), List.getElem?_eq_getElem i1, List.getElem?_eq_getElem i2⟩
    · refine ⟨us, ws, sqK_of (hg a _ na' ea), sqK_of (hg b _ nb eb), ?_, ?_, ?_⟩
      · show min xs.length ys.length ≤ us.length
        omega
      · show min xs.length ys.length ≤ ws.length
        omega
      · show min xs.length ys.length = us.length ∨ min xs.length ys.length = ws.length
        omega
    · obtain ⟨T, u, v, rfl, nT, rfl, f1, f2⟩ := y
      have g1 := f1 us (sqK_of (hg a _ na' ea))
      have g2 := f2 ws (sqK_of (hg b _ nb eb))
      refine ⟨fun a o q => by rw [upd_ne (ne_of_none q nT)]; exact q, fun M2 m n d hd => ?_⟩
      obtain ⟨x', y', z1, z2, rfl⟩ := pairD_get hd
      obtain ⟨u', y1, y2⟩ := da'.get z1
      obtain ⟨v', y3, y4⟩ := db.get z2
      rw [g1] at y1
      cases y1
      rw [g2] at y3
      cases y3
      have up : ∀ {d : Dv} {v : V}, Dat (MM C e3 σ) H1 d v → Dat M2 (upd H T (.tup [u, v])) d v → True := fun _ _ => True.intro
      have c1 : Dat M2 (upd H T (.tup [u, v])) x' u := y2.to (fun a o n q => by rw [upd_ne (ne_of_none (hg a o n q) nT)]; exact hg a o n q) m
      have c2 : Dat M2 (upd H T (.tup [u, v])) y' v := y4.to (fun a o n q => by rw [upd_ne (ne_of_none (hg a o n q) nT)]; exact hg a o n q) m
      unfold Dat
      exact ⟨T, [u, v], rfl, fun z => n T z nT, upd_same, .cons c1 (.cons c2 .nil)⟩

section
variable {X : Cx}
theorem callLen : CallR X (.builtin "len") (rLen X.K) := call_len
theorem callInt1 : CallR X (.type "int") rInt1 := call_int1
theorem callAbs : CallR X (.builtin "abs") (fun xs H Q => ∃ i, xs = [.int i] ∧ Q (.int (absI i)) H) := call_abs
theorem callMax2 (hc : X.calm = true) : CallR X (.builtin "max") (fun xs H Q => ∃ i j, xs = [.int i, .int j] ∧ Q (.int (maxI i j)) H) := call_max2 hc
theorem callMin2 (hc : X.calm = true) : CallR X (.builtin "min") (fun xs H Q => ∃ i j, xs = [.int i, .int j] ∧ Q (.int (minI i j)) H) := call_min2 hc
theorem callListOf : CallR X (.type "list") (rListOf X.K) := call_list_of
theorem callTupOf : CallR X (.type "tuple") (rTupOf X.K) := call_tuple_of
end
def tYesF : TF := fun env => some (true, env)
theorem rt_yes : RT tYes tYesF := fun C env σ H Q b env' h R k => by
  cases h
  exact k H R (Sh.refl _) (Grow.refl _ _ _)
def fBits (fa : EF) : EF := fun env => (fa env).bind fun p => (asI p.2 p.1).map fun i => (.d (.int (Builtin.Int.intBits i : Nat)), p.2)
theorem re_bits {ta : TE} {fa : EF} (ha : RE ta fa) : RE (tBits ta) (fBits fa) := fun C env σ H Q rv env' h R k => by
  unfold fBits at h
  obtain ⟨⟨x, e1⟩, h1, h⟩ := Option.bind_eq_some_iff.mp h
  obtain ⟨i, h3, h⟩ := Option.map_eq_some_iff.mp h
  cases h
  exact ha C env σ H _ x e1 h1 R fun vx H1 R1 s1 g1 r1 => ⟨i, asI_ok R1 r1 h3, k _ H1 R1 s1 g1 (show Dat (MM C e1 σ) H1 (.int _) _ by unfold Dat; rfl)⟩
def lLst (fa : AF) : LF := fun env => (fa env).bind fun p => (frzs p.2 p.1).bind fun q => if q.1.length ≤ szL then some (q.1, q.2) else none
def lListOf (fa : EF) : LF := fun env => (fa env).bind fun p => (asSeq p.2 p.1).map fun xs => (xs, p.2)
theorem rl_listOf {K : PySem.W.Frag} {ta : TE} {fa : EF} (ha : RE ta fa) : RL (tCB (rListOf K) (tCons ta tNil)) (lListOf fa) := fun C env σ H Q xs env' h R k => by
  unfold lListOf at h
  obtain ⟨⟨x, e1⟩, h1, h⟩ := Option.bind_eq_some_iff.mp h
  obtain ⟨ys, h3, h⟩ := Option.map_eq_some_iff.mp h
  cases h
  refine ha C env σ H _ x e1 h1 R fun v H1 R1 s1 g1 r1 => ?_
  obtain ⟨a, vs, rfl, hs, hd⟩ := asSeq_ok (K := K) R1 r1 h3
  refine ⟨a, vs, rfl, hs, fun p np => ?_⟩
  refine k p vs _ (fun d v q => (dat_plus s1 g1 np q).to (fun a u _ q => by rw [upd_ne (ne_of_none q np)]; exact q) fun _ z => .inl z) (R1.h0 np) (fun z => R1.mem p z np) (R1.plus np _) s1 (g1.trans s1 (Grow.new np)) upd_same ?_
  exact Dats.to (fun a u _ q => by rw [upd_ne (ne_of_none q np)]; exact q) (fun a z => by
    rcases z with (z | z) | z
    · exact .inl (.inl z)
    · exact .inr (z ▸ np)
    · exact .inl (.inr z)) _ _ hd
/-! ### str of a number, of a tuple of numbers (some text) -/
def rStrX (K : PySem.W.Frag) : List V → Hp → VK → Prop := fun xs H Q => (∃ i, xs = [.int i] ∧ i.natAbs.log2 < 1920 ∧ Q (.str (toString i)) H) ∨
  ∃ (a : Addr) (ns : List Int), xs = [.ref a] ∧ SqT K H a (ns.map V.int) ∧ ns.length ≤ 100 ∧ (∀ i ∈ ns, 0 ≤ i ∧ i < 10 ^ 500) ∧ ∀ m : Str, Q (.str m) H
theorem pow_log2 {i : Int} (h0 : 0 ≤ i) (h : i < 10 ^ 500) : i.natAbs.log2 < 1920 := by
  refine PySem.Flt.log2_lt_of (by decide) ?_
  have e : (i.natAbs : Int) < 2 ^ 1920 := by
    have h2 : (10 : Int) ^ 500 < 2 ^ 1920 := by decide +kernel
    omega
  have e2 : ((2 ^ 1920 : Nat) : Int) = 2 ^ 1920 := by decide +kernel
  omega
theorem num_len {i : Int} (h0 : 0 ≤ i) (h : i < 10 ^ 500) : (Str.ofString (toString i)).length ≤ 500 := by
  obtain ⟨n, rfl⟩ := Int.eq_ofNat_of_zero_le h0
  rw [TL.len_tl, TL.tl_num]
  refine TL.numL_len (by decide) ?_
  have e2 : ((10 ^ 500 : Nat) : Int) = 10 ^ 500 := by decide +kernel
  omega
theorem repr_nums {prog : Program} {w : World} : ∀ {ns : List Int} {its : List Value}, Vals (ns.map V.int) its → (∀ i ∈ ns, 0 ≤ i ∧ i < 10 ^ 500) → ∃ ts, ReprAll prog w its ts ∧ piled ts ≤ 502 * ns.length
  | [], _, r, _ => by
    cases r
    exact ⟨[], .nil, by decide⟩
  | i :: ns, _, r, h => by
    cases r with
    | cons r1 r2 =>
      obtain ⟨t, rfl⟩ := r1
      obtain ⟨ts, h1, h2⟩ := repr_nums r2 fun j hj => h j (List.mem_cons_of_mem _ hj)
      have hi := h i List.mem_cons_self
      refine ⟨_, .cons (ReprIs.int t (pow_log2 hi.1 hi.2)) h1, ?_⟩
      have := num_len hi.1 hi.2
      rw [piled_cons, List.length_cons]
      omega
theorem callStr {X : Cx} (hu : X.A.units + 64 < cLine) : CallR X (.type "str") (rStrX X.K) := by
  intro pins s σ H xs us Q I r h
  rcases h with h | ⟨a, ns, rfl, hs, hl, hb, q⟩
  · exact call_str_int pins s σ H xs us Q I r h
  · obtain ⟨u, rfl, r1⟩ := vals1 r
    cases r1
    obtain ⟨its, rv, ⟨o, ho, hc, n, hd⟩, _⟩ := I.tuple hs
    refine callType_new F.called_str (by decide) (F.typeCall_str_1 _) (F.newCall_str_1 _) (fun obj => F.args_object_init_2 obj _) F.entry_str_new
      (meets_str_new (S := fun A' R s' => A'.units + 8 < cLine ∧ s'.heap.get? a = some o ∧ ∀ m u tk, R (.ok (.ret (.str m u))) { s' with toks := tk }) fun prog' w' A' R s' hh => ?_) ⟨by show X.A.units + 1 + 8 < cLine; omega, ho, fun m u tk => ⟨typeIs_str _ _ _, .str m, H, I.tok _, ⟨u, rfl⟩, q m⟩⟩
    obtain ⟨h0, h1, h2⟩ := hh
    obtain ⟨ts, g1, g2⟩ := repr_nums (prog := prog') (w := w') rv hb
    have hz := fmt_text ts
    have hsz : (tupleText ts).length + 5 ≤ sizeLine := by
      rw [sizeLine_eq]
      omega
    refine wpAny_strOf_slot rfl (by show A'.units + 1 + 1 < cLine; omega) ⟨o, h1, hc⟩ F.slot_tuple_str F.slot_tuple_repr ?_
    exact fmt_tuple_repr h1 hc hd g1 (by omega) fun m u tk _ => ⟨m, u, rfl, h2 m u tk⟩
def gStr (env : DEnv) (x : RV) : Option RV := match val env x with
  | some (.int i) => if i.natAbs.log2 < 1920 then some (.d (.str (toString i))) else none
  | some (.tup xs) => (intL xs).bind fun ns => if ns.length ≤ 100 ∧ (∀ i ∈ ns, 0 ≤ i ∧ i < 10 ^ 500) then some (.d .anyS) else none
  | _ => none
theorem rc_str {K : PySem.W.Frag} : RC (rStrX K) (g1 gStr) := rc_1 fun C env σ H Q x v z h R r k => by
  unfold gStr at h
  split at h
  · rename_i i e
    split at h
    · rename_i hi
      cases h
      rw [val_int R r e]
      exact .inl ⟨i, rfl, hi, fin_str R k⟩
    · cases h
  · rename_i xs e
    obtain ⟨ns, e2, h⟩ := Option.bind_eq_some_iff.mp h
    split at h
    · rename_i hb
      cases h
      obtain ⟨a, vs, rfl, na, ha, hs⟩ := val_tup R r e
      rw [intL_ok e2] at hs
      rw [hs.ints] at ha
      exact .inr ⟨a, ns, rfl, SqT.of ha, hb.1, hb.2, fun m => fin_ R k (by unfold Dat; exact ⟨m, rfl⟩)⟩
    · cases h
  · cases h
end DL

set_option Elab.async false
set_option linter.all false
set_option maxRecDepth 100000
set_option maxHeartbeats 4000000
namespace DL
open PySem L2 PyProof.Rows
/-! ### new lists handed on as a list to be changed -/
def RN (t : TE) (f : LF) : Prop := ∀ (C : DC) (env : DEnv) (σ : L2.St) (H : Hp) (Q : VK) (xs : List Dv) (env' : DEnv), f env = some (xs, env') → Rel C env σ H →
  (∀ p vs H', H p = none → (∀ d v, Dat (MM C env σ) H d v → Dat (MM (C.plus p) env' σ) H' d v) → C.H0 p = none → ¬ C.M0 p → Rel (C.plus p) env' σ H' → Sh env env' → Grow env σ H H' → H' p = some (.lst vs) → Dats (MM (C.plus p) env' σ) H' xs vs → Q (.ref p) H') → t σ H Q
theorem RN.rl {t : TE} {f : LF} (h : RN t f) : RL t f := fun C env σ H Q xs env' e R k => h C env σ H Q xs env' e R fun p vs H' _ => k p vs H'
section
variable {C : DC} {env env' : DEnv} {σ σ' : L2.St} {H H' : Hp} {p : Addr} {o : HO}
def bare (env : DEnv) : Bool := env.all fun s => match s with
  | .own _ _ => false
  | _ => true
theorem bare_ok (h : bare env = true) {a : Addr} : ¬ W env σ a := fun ⟨i, b, xs, e, _⟩ => by
  have q := List.all_eq_true.mp h _ (List.mem_of_getElem? e)
  cases q
def spL (n : Nat) (F : List Dv → Option (List Dv)) : Sp := fun vs H Q _ => ∃ (M : Addr → Prop) (ds xs : List Dv), F ds = some xs ∧ vs.length = n ∧ Dats M H ds vs ∧ (∀ a, M a → H a ≠ none) ∧
  ∀ p ws H', H p = none → H' p = some (.lst ws) → (∀ a o, H a = some o → H' a = some o) → Dats (fun a => M a ∨ a = p) H' xs ws → Q (.ref p) H'
theorem spL_len {n : Nat} {F : List Dv → Option (List Dv)} {vs : List V} {H : Hp} {Q : VK} {E : XK} (h : spL n F vs H Q E) : vs.length = n := by
  obtain ⟨_, _, _, _, h, _⟩ := h
  exact h
def RSL (t : TS) (f : LF) : Prop := ∀ (C : DC) (env : DEnv) (σ : L2.St) (H : Hp) (D : Ends) (xs : List Dv) (env' : DEnv), f env = some (xs, env') → Rel C env σ H →
  (∀ p ws σ' H', C.H0 p = none → Rel (C.plus p) env' σ' H' → H' p = some (.lst ws) → Dats (MM (C.plus p) env' σ') H' xs ws → D.rt (.ref p) H') → t D σ H
theorem rsl_ret {t : TE} {f : LF} (h : RL t f) : RSL (tRet t) f := fun C env σ H D xs env' e R k =>
  h C env σ H _ xs env' e R fun p ws H' _ h0 _ Rp _ _ hp hs => k p ws σ H' h0 Rp hp hs
def fThen (g : SF) (f : LF) : LF := fun env => (g env).bind fun o => match o with
  | .nx e => f e
  | _ => none
theorem rsl_seq {t u : TS} {g : SF} {f : LF} (h : RS t g) (hu : RSL u f) : RSL (tSeq t u) (fThen g f) := fun C env σ H D xs env' e R k => by
  unfold fThen at e
  obtain ⟨o, h1, e⟩ := Option.bind_eq_some_iff.mp e
  cases o with
  | nx e1 => exact h C env σ H _ _ h1 R fun σ1 H1 R1 => hu C e1 σ1 H1 D xs env' e R1 k
  | bk e1 => cases e
  | ct e1 => cases e
  | rt d e1 => cases e
def runL (n : Nat) (f : LF) (ds : List Dv) : Option (List Dv) := (f (ds.map .dat ++ List.replicate (n - ds.length) .non)).bind fun p => if bare p.2 = true then some p.1 else none
theorem body_okL {t : TS} {f : LF} {N ps : List Str} (hN : ps.length ≤ N.length) (hg : RSL t f) {vs : List V} {H : Hp} {Q : VK} {E : XK} (h : spL ps.length (runL N.length f) vs H Q E) :
    t { nx := fun _ H' => Q .non H', rt := Q } (L2.start N vs) H := by
  obtain ⟨M, ds, xs, hF, hl, hd, hm, q⟩ := h
  unfold runL at hF
  obtain ⟨⟨ys, e'⟩, ho, hF⟩ := Option.bind_eq_some_iff.mp hF
  split at hF
  case isFalse => cases hF
  rename_i hb
  cases hF
  have hlen : ds.length = ps.length := by rw [← hd.length, hl]
  have no : ∀ (i : Nat) b xs, (ds.map Slot.dat ++ List.replicate (N.length - ds.length) Slot.non)[i]? ≠ some (.own b xs) := fun i b xs z => by
    have z := pad_get (by intro z; cases z) z
    obtain ⟨d, z1, _⟩ := map_dat_get z
    cases z1
  have R : Rel { M0 := M, H0 := H, io := none } (ds.map .dat ++ List.replicate (N.length - ds.length) .non) (L2.start N vs) H := by
    refine ⟨?_, fun i d z => ?_, fun i b xs z => (no i b xs z).elim, fun i j b c xs zs a z1 z2 y1 y2 => (no i b xs z1).elim, fun i xs z => (no i _ xs z).elim, fun i a z => (by cases z), fun i xs a z1 z2 => (no i _ xs z1).elim, fun a o _ z => z, fun a z => hm a z⟩
    · rw [List.length_append, List.length_replicate, List.length_map]
      unfold L2.start
      rw [List.length_append, List.length_map, List.length_replicate, hd.length]
    · obtain ⟨d', z1, z2⟩ := map_dat_get (pad_get (by intro z; cases z) z)
      cases z1
      obtain ⟨v, y1, y2⟩ := hd.get z2
      refine ⟨v, ?_, y2.to (fun _ _ _ q => q) fun a z => ?_⟩
      · rw [start_get, if_pos (List.getElem?_eq_some_iff.mp y1).1, y1]
        rfl
      · rcases z with z | ⟨i, b, xs, z1, _⟩
        · exact .inl z
        · exact (no i b xs z1).elim
  refine hg _ _ _ H _ _ e' ho R fun p ws σ' H' h0 Rp hp hs => ?_
  refine q p ws H' h0 hp (fun a o z => Rp.keep a o (fun i y => by cases y) z) (Dats.to (fun _ _ _ q => q) (fun a z => ?_) _ _ hs)
  exact .inl (.inl z)
def fNew (n : Nat) (F : List Dv → Option (List Dv)) (fa : AF) : LF := fun env => (fa env).bind fun p => (frzs p.2 p.1).bind fun q => if q.1.length = n ∧ bare env = true then (F q.1).map fun xs => (xs, q.2) else none
theorem rn_call {n : Nat} {F : List Dv → Option (List Dv)} {E : XK} {ta : TA} {fa : AF} (ha : RA ta fa) :
    RN (tCall (spL n F) [] E ta) (fNew n F fa) := fun C env σ H Q xs env' h R k => by
  unfold fNew at h
  obtain ⟨⟨rs, e1⟩, h1, h⟩ := Option.bind_eq_some_iff.mp h
  obtain ⟨⟨ds, e2⟩, h2, h⟩ := Option.bind_eq_some_iff.mp h
  split at h
  case isFalse => cases h
  rename_i hb
  obtain ⟨hn, hbr⟩ := hb
  obtain ⟨ys, h3, h⟩ := Option.map_eq_some_iff.mp h
  cases h
  refine ha C env σ H _ rs e1 h1 R fun vs H1 R1 s1 g1 r1 => ?_
  rw [List.append_nil]
  obtain ⟨R2, s2, d2⟩ := frzs_ok R1 r1 h2
  refine ⟨MM C e2 σ, ds, _, h3, by rw [d2.length]; exact hn, d2, fun a q => R2.memM a q, fun p ws H' np hp keep hs => ?_⟩
  have np0 : H p = none := by
    cases e : H p with
    | none => rfl
    | some o =>
      rw [g1 p o (bare_ok hbr) e] at np
      cases np
  have kp : ∀ a o, (upd H1 p (.lst ws)) a = some o → H' a = some o := fun a o q => by
    by_cases z : a = p
    · subst z
      rw [upd_same] at q
      rw [hp, q]
    · rw [upd_ne z] at q
      exact keep a o q
  have R3 := (R2.plus np (.lst ws)).grow kp
  refine k p ws H' np0 (fun d v q => (dat_plus (s1.trans s2) (g1.trans s1 (Grow.refl _ _ _)) np q).to (fun a u _ q => keep a u q) fun _ z => .inl z) (R2.h0 np) (fun z => R2.mem p z np) R3 (s1.trans s2) (g1.trans s1 fun a o _ q => keep a o q) hp ?_
  refine Dats.to (fun _ _ _ q => q) (fun a z => .inl ?_) _ _ hs
  rcases z with (z | z) | z
  · exact .inl (.inl z)
  · exact .inr z
  · exact .inl (.inr z)
def fCallN (n : Nat) (F : FnF) (fl : LF) (fa : AF) : EF := fun env => (fl env).bind fun p => (fa p.2).bind fun q => (frzs q.2 q.1).bind fun z => if z.1.length + 1 = n then (F (.own true p.1 :: z.1.map .dat)).map fun r => (.d r.1, z.2) else none
theorem re_callN {n : Nat} {F : FnF} {E : XK} {tl : TE} {fl : LF} {ta : TA} {fa : AF} (hl : RN tl fl) (ha : RA ta fa) : RE (tCall (spD n F) [] E (tCons tl ta)) (fCallN n F fl fa) := fun C env σ H Q rv env' h R k => by
  unfold fCallN at h
  obtain ⟨⟨xs, e1⟩, h1, h⟩ := Option.bind_eq_some_iff.mp h
  obtain ⟨⟨rs, e2⟩, h2, h⟩ := Option.bind_eq_some_iff.mp h
  obtain ⟨⟨ds, e3⟩, h3, h⟩ := Option.bind_eq_some_iff.mp h
  split at h
  case isFalse => cases h
  rename_i hn
  obtain ⟨⟨r, ys⟩, h4, h⟩ := Option.map_eq_some_iff.mp h
  cases h
  refine hl C env σ H _ xs e1 h1 R fun p ws H1 np _ h0 hm R1 s1 g1 hp hs => ?_
  refine ha (C.plus p) e1 σ H1 _ rs e2 h2 R1 fun vs H2 R2 s2 g2 r2 => ?_
  show spD n F ((V.ref p :: vs) ++ []) H2 Q E
  rw [List.append_nil]
  obtain ⟨R3, s3, d3⟩ := frzs_ok R2 r2 h3
  have nw : ¬ W e1 σ p := R1.notW hm R.hio
  have hp2 : H2 p = some (.lst ws) := g2 p _ nw hp
  have hs2 : Dats (MM (C.plus p) e3 σ) H2 xs ws := g2.dats (s2.trans s3) hs
  have ge : ∀ (m : Nat) s, (Slot.own true xs :: ds.map Slot.dat)[m]? = some s → (m = 0 ∧ s = .own true xs) ∨ ∃ c d, m = c + 1 ∧ s = .dat d ∧ ds[c]? = some d := fun m s q => by
    cases m with
    | zero => exact .inl ⟨rfl, (Option.some.inj q).symm⟩
    | succ c =>
      obtain ⟨d, z1, z2⟩ := map_dat_get (i := c) q
      exact .inr ⟨c, d, rfl, z1, z2⟩
  refine ⟨MM (C.plus p) e3 σ, some (0, p), _, r, ys, h4, by rw [List.length_cons, d3.length]; exact hn, ⟨?_, fun m d q => ?_, fun m c zs q => ?_, fun m a' q => ?_, fun a' q => R3.memM a' q⟩, fun v H' keep hr hio => ?_⟩
  · rw [List.length_cons, List.length_cons, List.length_map, d3.length]
  · rcases ge m _ q with ⟨_, z⟩ | ⟨c, d', rfl, z1, z2⟩
    · cases z
    · cases z1
      exact d3.get z2
  · rcases ge m _ q with ⟨rfl, z⟩ | ⟨c, d', rfl, z1, z2⟩
    · cases z
      exact ⟨rfl, p, ws, rfl, rfl, hp2, hs2⟩
    · cases z1
  · cases q
    exact ⟨.inl (.inr rfl), rfl, xs, rfl⟩
  · obtain ⟨us, y1, y2⟩ := hio 0 p rfl
    have kk : ∀ x o, x ≠ p → H2 x = some o → H' x = some o := fun x o n q => keep x o (fun i z => by cases z; exact n rfl) q
    have nw3 : ¬ W e3 σ p := fun z => nw ((s2.trans s3).w z)
    have R4 : Rel (C.plus p) e3 σ (upd H2 p (.lst us)) := R3.putD nw3 h0 ⟨_, hp2⟩
    have R5 : Rel (C.plus p) e3 σ H' := R4.grow fun a o q => by
      by_cases z : a = p
      · subst z
        rw [upd_same] at q
        rw [y1, q]
      · rw [upd_ne z] at q
        exact kk a o z q
    have R6 := R5.unplus R.hio
    have ss := s1.trans (s2.trans s3)
    refine k v H' R6 ss (fun x o n q => ?_) (hr.to (fun _ _ _ q => q) fun x z => .inl (mm_plus z))
    have nx : x ≠ p := fun z => by
      rw [z, np] at q
      cases q
    exact kk x o nx (g2 x o (fun z => n (s1.w z)) (g1 x o n q))
end
end DL

set_option Elab.async false
set_option linter.all false
set_option maxRecDepth 100000
set_option maxHeartbeats 4000000
namespace DL
open PySem L2 PyProof.Rows
/-! ### the cells of the script -/
def cellM (ns : List Int) (i : Int) : Int := if i < ns.length then (ns[i.toNat]?).getD 0 else ((ns.take 1).sum).fmod 1000003
def spCell (K : PySem.W.Frag) : Sp := fun vs H Q _ => ∃ (a : Addr) (i : Int) (ns : List Int), vs = [.ref a, .int i] ∧ 0 ≤ i ∧ SqL K H a (ns.map V.int) ∧ ∀ H', (∀ x o, H x = some o → H' x = some o) → Q (.int (cellM ns i)) H'
theorem cutV_01 (l : List V) : cutV l none (some 1) = l.take 1 := by
  unfold cutV
  rw [HT.sIx_none, List.drop_zero, Nat.sub_zero]
  have e : HT.sIx l.length l.length (some 1) = min 1 l.length := HT.sIx_nat _ _ 1
  rw [e]
  cases l with
  | nil => rfl
  | cons x l => rw [List.length_cons, Nat.min_eq_left (by omega)]
theorem spCell_len {K : PySem.W.Frag} {vs : List V} {H : Hp} {Q : VK} {E : XK} (h : spCell K vs H Q E) : vs.length = 2 := by
  obtain ⟨_, _, _, rfl, _⟩ := h
  rfl
theorem body_cell {K : PySem.W.Frag} {vs : List V} {H : Hp} {Q : VK} {E : XK} (h : spCell K vs H Q E) :
    (tSeq (tIfS (tTest (tOp (rCmpU ltI ltS) (tVar 1) (tCB (rLen K) (tCons (tVar 0) tNil)))) (tSeq (tRet (tOp (rIx K) (tVar 0) (tVar 1))) tNext) tNext)
      (tRet (tOp (rI (fun _ j => j ≠ 0) fun i j => .int (i.fmod j)) (tCB (rSum K) (tCons (tSl (rSlU K) (tVar 0) tNoPart (tPart (tC (.int 1)))) tNil)) (tC (.int 1000003)))))
      { nx := fun _ H' => Q .non H', rt := Q } (L2.start ["_law_script", "_law_index"] vs) H := by
  obtain ⟨a, i, ns, rfl, h0, hS, q⟩ := h
  refine ⟨.int i, rfl, .ref a, rfl, .ref a, ns.length, rfl, .inl ⟨_, hS, by rw [List.length_map]⟩, .inl ⟨i, ns.length, rfl, rfl, _, rfl, ?_⟩⟩
  by_cases hi : i < ns.length
  · have e : ltI i ns.length = true := decide_eq_true hi
    show (if ltI i ns.length = true then _ else _)
    rw [if_pos e]
    have e1 : cellM ns i = ns[i.toNat]'(by omega) := by
      unfold cellM
      rw [if_pos hi, List.getElem?_eq_getElem (by omega)]
      rfl
    refine ⟨.ref a, rfl, .int i, rfl, .inl ⟨a, _, i, .int (cellM ns i), rfl, rfl, hS, ?_, q H fun _ _ z => z⟩⟩
    unfold atI ixN
    rw [if_pos h0, if_pos (by rw [List.length_map]; exact hi), Option.bind_some, List.getElem?_map, List.getElem?_eq_getElem (by omega), e1]
    rfl
  · have e : ltI i ns.length = false := decide_eq_false hi
    show (if ltI i ns.length = true then _ else _)
    rw [if_neg (by rw [e]; simp)]
    have e1 : cellM ns i = ((ns.take 1).sum).fmod 1000003 := by
      unfold cellM
      rw [if_neg hi]
    refine ⟨.ref a, rfl, 1, rfl, .inl ⟨a, _, rfl, hS, fun p np => ?_⟩⟩
    refine ⟨p, ns.take 1, rfl, .inl (.inl ?_), _, _, rfl, rfl, (show (1000003 : Int) ≠ 0 by decide), ?_⟩
    · rw [upd_same, cutV_01, List.map_take]
    · have := q (upd H p (.lst (cutV (ns.map V.int) none (some 1)))) fun x o z => by
        rw [upd_ne (fun w => by rw [w, np] at z; cases z)]
        exact z
      rw [e1] at this
      exact this
open Classical in
noncomputable def fCell (K : PySem.W.Frag) (i j : Nat) : EF := fun env => match env[i]?, env[j]? with
  | some (.dat (.scr K' ns)), some (.dat (.int n)) => if K' = K ∧ 0 ≤ n then some (.d (.int (cellM ns n)), env) else none
  | _, _ => none
theorem re_cell {K : PySem.W.Frag} {E : XK} {i j : Nat} : RE (tCall (spCell K) [] E (tCons (tVar i) (tCons (tVar j) tNil))) (fCell K i j) := fun C env σ H Q rv env' h R k => by
  unfold fCell at h
  split at h
  case h_2 => cases h
  rename_i K' ns n h1 h2
  split at h
  case isFalse => cases h
  rename_i hc
  obtain ⟨rfl, h0⟩ := hc
  cases h
  obtain ⟨v, z1, z2⟩ := R.dat i _ h1
  obtain ⟨u, y1, y2⟩ := R.dat j _ h2
  unfold Dat at z2 y2
  obtain ⟨a, rfl, z2⟩ := z2
  subst y2
  refine ⟨_, z1, _, y1, a, n, ns, rfl, h0, ?_, fun H' keep => k _ H' (R.grow keep) (Sh.refl _) (fun a o _ z => keep a o z) (show Dat (MM C env σ) H' (.int _) _ by unfold Dat; rfl)⟩
  rcases z2 with ⟨_, z⟩ | z
  · exact .inl z
  · exact z H
theorem sp_law {K : PySem.W.Frag} {F : FnF} {H : Hp} {a : Addr} {ns : List Int} (hF : F [.dat (.scr K ns)] = some (.bl true, [])) (hO : Only H) (hS : SqL K H a (ns.map V.int)) : spD 1 F [.ref a] H (fun v _ => v = .bl true) fun _ _ _ => False := by
  refine ⟨fun _ => False, none, _, _, _, hF, rfl, ⟨rfl, fun i d e => ?_, fun i b xs e => ?_, fun i b e => (by cases e), fun a z => z.elim⟩, fun v H' _ hd _ => ?_⟩
  · cases i with
    | zero =>
      cases e
      refine ⟨_, rfl, ?_⟩
      unfold Dat
      refine ⟨a, rfl, ?_⟩
      rcases hS with h | h
      · exact .inl ⟨fun z => z, h⟩
      · exact .inr fun _ => .inr h
    | succ i => cases e
  · cases i with
    | zero => cases e
    | succ i => cases e
  · unfold Dat at hd
    exact hd
end DL

set_option Elab.async false
set_option linter.all false
set_option maxRecDepth 100000
set_option maxHeartbeats 4000000
namespace DL
open PySem L2 PyProof.Rows
section
variable {env : DEnv}
@[simp] theorem e_c {d : Dv} : fC d env = some (.d d, env) := rfl
@[simp] theorem e_nil : fNil env = some ([], env) := rfl
@[simp] theorem e_cons {fa : EF} {fr : AF} : fCons fa fr env = (fa env).bind fun p => (fr p.2).map fun q => (p.1 :: q.1, q.2) := rfl
@[simp] theorem e_op {g : DEnv → RV → RV → Option RV} {fa fb : EF} : fOp g fa fb env = (fa env).bind fun p => (fb p.2).bind fun q => (g q.2 p.1 q.1).map fun z => (z, q.2) := rfl
@[simp] theorem e_un {g : DEnv → RV → Option RV} {fa : EF} : fUn g fa env = (fa env).bind fun p => (g p.2 p.1).map fun z => (z, p.2) := rfl
@[simp] theorem e_cb {g : DEnv → List RV → Option RV} {fa : AF} : fCB g fa env = (fa env).bind fun p => (g p.2 p.1).map fun z => (z, p.2) := rfl
@[simp] theorem e_if {ft : TF} {fa fb : EF} : fIf ft fa fb env = (ft env).bind fun p => if p.1 = true then fa p.2 else fb p.2 := rfl
@[simp] theorem e_test {fa : EF} : fTest fa env = (fa env).bind fun p => (asB p.2 p.1).map fun b => (b, p.2) := rfl
@[simp] theorem e_and {f g : TF} : fAnd f g env = (f env).bind fun p => if p.1 = true then g p.2 else some (false, p.2) := rfl
@[simp] theorem e_or {f g : TF} : fOr f g env = (f env).bind fun p => if p.1 = true then some (true, p.2) else g p.2 := rfl
@[simp] theorem e_not {f : TF} : fNot f env = (f env).map fun p => (!p.1, p.2) := rfl
@[simp] theorem e_andV {fa fb : EF} : fAndV fa fb env = (fa env).bind fun p => (asB p.2 p.1).bind fun b => if b = true then fb p.2 else some (.d (.bl false), p.2) := rfl
@[simp] theorem e_orV {fa fb : EF} : fOrV fa fb env = (fa env).bind fun p => (asB p.2 p.1).bind fun b => if b = true then some (.d (.bl true), p.2) else fb p.2 := rfl
@[simp] theorem e_notV {fa : EF} : fNotV fa env = (fa env).bind fun p => (asB p.2 p.1).map fun b => (.d (.bl (!b)), p.2) := rfl
@[simp] theorem e_chain {g g' : DEnv → RV → RV → Option RV} {fa fb fc : EF} : fChain g g' fa fb fc env = (fa env).bind fun p => (fb p.2).bind fun q => (g q.2 p.1 q.1).bind fun z => (asB q.2 z).bind fun b =>
  if b = true then (fc q.2).bind fun r => (g' r.2 q.1 r.1).map fun z => (z, r.2) else some (.d (.bl false), q.2) := rfl
@[simp] theorem e_tup {fa : AF} : fTup' fa env = (fa env).bind fun p => (frzs p.2 p.1).bind fun q => if q.1.length ≤ szL then some (.d (.tup q.1), q.2) else none := rfl
@[simp] theorem e_lst {fa : AF} : fLst' fa env = (fa env).bind fun p => (frzs p.2 p.1).bind fun q => if q.1.length ≤ szL then some (.d (.lst q.1), q.2) else none := rfl
@[simp] theorem e_lLst {fa : AF} : lLst fa env = (fa env).bind fun p => (frzs p.2 p.1).bind fun q => if q.1.length ≤ szL then some (q.1, q.2) else none := rfl
@[simp] theorem e_lListOf {fa : EF} : lListOf fa env = (fa env).bind fun p => (asSeq p.2 p.1).map fun xs => (xs, p.2) := rfl
@[simp] theorem e_ofL {f : LF} : fOfL f env = (f env).map fun p => (.d (.lst p.1), p.2) := rfl
@[simp] theorem e_part {fa : EF} : fPart fa env = (fa env).bind fun p => (asI p.2 p.1).map fun i => (some i, p.2) := rfl
@[simp] theorem e_noPart : fNoPart env = some (none, env) := rfl
@[simp] theorem e_sl {fa : EF} {fl fh : DEnv → Option (Option Int × DEnv)} : fSl fa fl fh env = (fa env).bind fun p => (fl p.2).bind fun q => (fh q.2).bind fun r => (gSl r.2 p.1 q.1 r.1).map fun z => (z, r.2) := rfl
@[simp] theorem e_isi {T : BT} {fa : EF} : fIsi T fa env = (fa env).bind fun p => (look p.2 p.1).bind fun d => (isIt T d).map fun b => (.d (.bl b), p.2) := rfl
@[simp] theorem e_yes : tYesF env = some (true, env) := rfl
@[simp] theorem e_bits {fa : EF} : fBits fa env = (fa env).bind fun p => (asI p.2 p.1).map fun i => (.d (.int (Builtin.Int.intBits i : Nat)), p.2) := rfl
@[simp] theorem e_seq {f g : SF} : sSeq f g env = (f env).bind fun o => match o with
  | .nx e => g e
  | o => some o := rfl
@[simp] theorem e_next : sNext env = some (.nx env) := rfl
@[simp] theorem e_brk : sBreak env = some (.bk env) := rfl
@[simp] theorem e_cont : sCont env = some (.ct env) := rfl
@[simp] theorem e_never : sNever env = none := rfl
@[simp] theorem e_asg {fe : EF} {f : GF} : sAsg fe f env = (fe env).bind fun p => (frz p.2 p.1).bind fun q => (f q.1 q.2).map Out.nx := rfl
@[simp] theorem e_ret {fe : EF} : sRet fe env = (fe env).bind fun p => (frz p.2 p.1).map fun q => .rt q.1 q.2 := rfl
@[simp] theorem e_retN : sRetN env = some (.rt .non env) := rfl
@[simp] theorem e_sif {ft : TF} {f g : SF} : sIf ft f g env = (ft env).bind fun p => if p.1 = true then f p.2 else g p.2 := rfl
@[simp] theorem e_drop {fe : EF} : sDrop fe env = (fe env).map fun p => .nx p.2 := rfl
@[simp] theorem e_own {i : Nat} {f : LF} : sOwn i f env = (f env).bind fun p => if canSet p.2 i = true then some (.nx (p.2.set i (.own false p.1))) else none := rfl
@[simp] theorem e_par {i j : Nat} {fa fb : EF} : sPar i j fa fb env = (fa env).bind fun p => (fb p.2).bind fun q => (frz q.2 p.1).bind fun x => (frz x.2 q.1).bind fun y => (fName i x.1 y.2).bind fun e1 => (fName j y.1 e1).map Out.nx := rfl
@[simp] theorem e_parOD {i j : Nat} {fa : LF} {fb : EF} : sParOD i j fa fb env = (fa env).bind fun p => (fb p.2).bind fun q => (frz q.2 q.1).bind fun y => if canSet y.2 i = true then (fName j y.1 (y.2.set i (.own false p.1))).map Out.nx else none := rfl
@[simp] theorem e_parDO {i j : Nat} {fa : EF} {fb : LF} : sParDO i j fa fb env = (fa env).bind fun p => (frz p.2 p.1).bind fun x => (fb x.2).bind fun q => if canSet q.2 j = true then (fName i x.1 (q.2.set j (.own false q.1))).map Out.nx else none := rfl
@[simp] theorem e_par3 {i j l : Nat} {fa fb fc : EF} : sPar3 i j l fa fb fc env = (fa env).bind fun p => (frz p.2 p.1).bind fun x => (fb x.2).bind fun q => (frz q.2 q.1).bind fun y => (fc y.2).bind fun r => (frz r.2 r.1).bind fun z => (fName i x.1 z.2).bind fun e1 => (fName j y.1 e1).bind fun e2 => (fName l z.1 e2).map Out.nx := rfl
@[simp] theorem e_app {i : Nat} {fe : EF} : sApp i fe env = (ownL env i).bind fun _ => (fe env).bind fun p => (frz p.2 p.1).bind fun q => (ownL q.2 i).bind fun w => if w.2.length < szL then some (.nx (q.2.set i (.own w.1 (w.2 ++ [q.1])))) else none := rfl
@[simp] theorem e_setI {i : Nat} {fe fi : EF} : sSetI i fe fi env = (fe env).bind fun p => (frz p.2 p.1).bind fun q => (ownL q.2 i).bind fun _ => (fi q.2).bind fun r => (asI r.2 r.1).bind fun n => (ownL r.2 i).bind fun w => (ixN w.2.length n).map fun j => .nx (r.2.set i (.own w.1 (w.2.set j q.1))) := rfl
@[simp] theorem e_aug {i : Nat} {fe : EF} {f : Int → Int → Int} : sAug i fe f env = (fe env).bind fun p => (asI env (.v i)).bind fun a => (asI p.2 p.1).bind fun b => (fName i (.int (f a b)) p.2).map Out.nx := rfl
@[simp] theorem e_for {fi : IF} {gf : GF} {gb : SF} : sFor fi gf gb env = (fi env).bind fun p => loopF gf gb p.1 p.2 := rfl
@[simp] theorem e_call {n : Nat} {io : Option Nat} {F : FnF} {fa : AF} : fCall n io F fa env = (fa env).bind fun p => if p.1.length = n then callF io F p.1 p.2 else none := rfl
@[simp] theorem e_callN {n : Nat} {F : FnF} {fl : LF} {fa : AF} : fCallN n F fl fa env = (fl env).bind fun p => (fa p.2).bind fun q => (frzs q.2 q.1).bind fun z => if z.1.length + 1 = n then (F (.own true p.1 :: z.1.map .dat)).map fun r => (.d r.1, z.2) else none := rfl
@[simp] theorem e_new {n : Nat} {F : List Dv → Option (List Dv)} {fa : AF} : fNew n F fa env = (fa env).bind fun p => (frzs p.2 p.1).bind fun q => if q.1.length = n ∧ bare env = true then (F q.1).map fun xs => (xs, q.2) else none := rfl
@[simp] theorem e_then {g : SF} {f : LF} : fThen g f env = (g env).bind fun o => match o with
  | .nx e => f e
  | _ => none := rfl
@[simp] theorem e_callF {F : FnF} {rs : List RV} : callF none F rs env = (frzs env rs).bind fun q => (F (q.1.map .dat)).map fun r => (.d r.1, q.2) := rfl
@[simp] theorem e_callF0 {F : FnF} {i : Nat} {post : List RV} : callF (some 0) F (.v i :: post) env = (frzs env post).bind fun q2 => (ownL q2.2 i).bind fun w => (F (.own true w.2 :: q2.1.map .dat)).map fun r => (.d r.1, q2.2.set i (.own w.1 r.2)) := rfl
@[simp] theorem e_seqIt {fa : EF} : fSeqIt fa env = (fa env).bind fun p => (frz p.2 p.1).bind fun q => match q.1 with
  | .lst xs => some (xs, q.2)
  | .tup xs => some (xs, q.2)
  | _ => none := rfl
@[simp] theorem e_rng1 {fa : AF} : fRng1 fa env = (fa env).bind fun p => match p.1 with
  | [x] => (asI p.2 x).bind fun j => if rngC j then some (rangeD 0 j.toNat, p.2) else none
  | _ => none := rfl
@[simp] theorem e_rng2 {fa : AF} : fRng2 fa env = (fa env).bind fun p => match p.1 with
  | [x, y] => (asI p.2 x).bind fun i => (asI p.2 y).bind fun j => if rngC i ∧ rngC j then some (rangeD i (j - i).toNat, p.2) else none
  | _ => none := rfl
@[simp] theorem e_zipN {fa : AF} : fZipN fa env = (fa env).bind fun p => match p.1 with
  | [x, y] => (asSeqF p.2 x).bind fun q => (asSeqF q.2 y).bind fun r => some (pairD q.1 r.1, r.2)
  | _ => none := rfl
@[simp] theorem e_zipS {fa : AF} : fZipS fa env = (fa env).bind fun p => match p.1 with
  | [x, y] => (asSeqF p.2 x).bind fun q => (asSeqF q.2 y).bind fun r => if q.1.length = r.1.length then some (pairD q.1 r.1, r.2) else none
  | _ => none := rfl
@[simp] theorem e_gtup {n : Nat} {f : GFs} {xs : List Dv} : fGtup n f (.tup xs) env = if xs.length = n then f xs env else none := rfl
@[simp] theorem e_gnil : fGnil [] env = some env := rfl
@[simp] theorem e_gcons {f : GF} {g : GFs} {d : Dv} {r : List Dv} : fGcons f g (d :: r) env = (f d env).bind (g r) := rfl
@[simp] theorem e_frzs0 : frzs env [] = some ([], env) := rfl
@[simp] theorem e_frzs1 {r : RV} {rs : List RV} : frzs env (r :: rs) = (frz env r).bind fun p => (frzs p.2 rs).map fun q => (p.1 :: q.1, q.2) := rfl
@[simp] theorem e_g1 {f : DEnv → RV → Option RV} {x : RV} : g1 f env [x] = f env x := rfl
@[simp] theorem e_g2 {f : DEnv → RV → RV → Option RV} {x y : RV} : g2 f env [x, y] = f env x y := rfl
@[simp] theorem e_loop0 {gf : GF} {gb : SF} : loopF gf gb [] env = some (.nx env) := rfl
@[simp] theorem e_loop1 {gf : GF} {gb : SF} {d : Dv} {r : List Dv} : loopF gf gb (d :: r) env = (gf d env).bind fun e1 => (gb e1).bind fun o => match o with
    | .nx e2 => loopF gf gb r e2
    | .ct e2 => loopF gf gb r e2
    | .bk e2 => some (.nx e2)
    | .rt d e2 => some (.rt d e2) := rfl
@[simp] theorem e_run {n : Nat} {g : SF} {as : List Slot} : runDef n g as = (g (as ++ List.replicate (n - as.length) .non)).bind fun o => match o with
  | .rt d e => (outIo as e).map fun ys => (d, ys)
  | .nx e => (outIo as e).map fun ys => (.non, ys)
  | _ => none := rfl
@[simp] theorem e_out0 {e : DEnv} : outIo [] e = some [] := by cases e <;> rfl
@[simp] theorem e_out1 {b c : Bool} {xs ys : List Dv} {as : List Slot} {e : DEnv} : outIo (.own b xs :: as) (.own c ys :: e) = some ys := rfl
@[simp] theorem e_out2 {d : Dv} {s : Slot} {as : List Slot} {e : DEnv} : outIo (.dat d :: as) (s :: e) = outIo as e := rfl
end
/-! ### comprehensions -/
theorem back1 {e : DEnv} {t : Nat} {x : Slot} : backE e (e.set t x) [t] = e := by
  unfold backE backE
  cases h : e[t]? with
  | none =>
    simp only
    rw [List.set_eq_of_length_le (List.getElem?_eq_none_iff.mp h)]
  | some s =>
    simp only [List.set_set]
    apply List.ext_getElem?
    intro i
    rw [List.getElem?_set]
    split
    · rename_i z
      subst z
      rw [if_pos (List.getElem?_eq_some_iff.mp h).1, h]
    · rfl
theorem comp_go {α : Type} {t : Nat} {ft : TF} {fe : EF} {e0 : DEnv} (b : α → Bool) (i : α → Dv) (f : α → Dv) (ht : t < e0.length) : ∀ (l : List α) (acc : List Dv),
    (∀ x ∈ l, ft (e0.set t (.dat (i x))) = some (b x, e0.set t (.dat (i x)))) → (∀ x ∈ l, b x = true → ∃ rv, fe (e0.set t (.dat (i x))) = some (rv, e0.set t (.dat (i x))) ∧ frz (e0.set t (.dat (i x))) rv = some (f x, e0.set t (.dat (i x)))) → acc.length + l.length ≤ szL →
    compF (fName t) ft fe [t] (l.map i) (e0.set t .non) acc = some (acc ++ (l.filter b).map f, e0.set t .non)
  | [], acc, _, _, _ => by
    unfold compF
    simp
  | x :: l, acc, h1, h2, hz => by
    have g1 : fName t (i x) (e0.set t .non) = some (e0.set t (.dat (i x))) := by
      unfold fName
      rw [List.getElem?_set_self ht]
      simp
    rw [List.map_cons]
    rw [List.length_cons] at hz
    unfold compF
    rw [g1, Option.bind_some, h1 x List.mem_cons_self, Option.bind_some]
    cases hb : b x with
    | false =>
      rw [if_neg (by simp)]
      have w : wipeE (e0.set t (.dat (i x))) [t] = e0.set t .non := by
        unfold wipeE wipeE
        rw [List.set_set]
      rw [w, comp_go b i f ht l acc (fun y hy => h1 y (List.mem_cons_of_mem _ hy)) (fun y hy => h2 y (List.mem_cons_of_mem _ hy)) (by omega), List.filter_cons, if_neg (by simp [hb])]
    | true =>
      obtain ⟨rv, q1, q2⟩ := h2 x List.mem_cons_self hb
      rw [if_pos rfl, q1, Option.bind_some, q2, Option.bind_some, if_pos (by omega)]
      have w : wipeE (e0.set t (.dat (i x))) [t] = e0.set t .non := by
        unfold wipeE wipeE
        rw [List.set_set]
      rw [w, comp_go b i f ht l _ (fun y hy => h1 y (List.mem_cons_of_mem _ hy)) (fun y hy => h2 y (List.mem_cons_of_mem _ hy)) (by rw [List.length_append, List.length_singleton]; omega), List.filter_cons, if_pos hb, List.map_cons, List.append_assoc]
      rfl
theorem lc_gen {α : Type} {t : Nat} {fi : IF} {ft : TF} {fe : EF} {env e0 : DEnv} {l : List α} {i : α → Dv} (b : α → Bool) (f : α → Dv) (hi : fi env = some (l.map i, e0)) (ht : t < e0.length) (hn : noOwnB [t] e0 = true)
    (h1 : ∀ x ∈ l, ft (e0.set t (.dat (i x))) = some (b x, e0.set t (.dat (i x)))) (h2 : ∀ x ∈ l, b x = true → ∃ rv, fe (e0.set t (.dat (i x))) = some (rv, e0.set t (.dat (i x))) ∧ frz (e0.set t (.dat (i x))) rv = some (f x, e0.set t (.dat (i x))))
    (hz : l.length ≤ szL) : fLc fi (fName t) ft fe [t] env = some ((l.filter b).map f, e0) := by
  unfold fLc
  rw [hi, Option.bind_some, if_pos hn]
  have w : wipeE e0 [t] = e0.set t .non := rfl
  rw [w, comp_go b i f ht l [] h1 h2 (by simpa using hz), Option.map_some, back1, List.nil_append]
theorem lc_map {α : Type} {t : Nat} {fi : IF} {fe : EF} {env e0 : DEnv} {l : List α} {i : α → Dv} (f : α → Dv) (hi : fi env = some (l.map i, e0)) (ht : t < e0.length) (hn : noOwnB [t] e0 = true)
    (h2 : ∀ x ∈ l, fe (e0.set t (.dat (i x))) = some (.d (f x), e0.set t (.dat (i x)))) (hz : l.length ≤ szL) : fLc fi (fName t) tYesF fe [t] env = some (l.map f, e0) := by
  rw [lc_gen (fun _ => true) f hi ht hn (fun _ _ => rfl) (fun x hx _ => ⟨_, h2 x hx, rfl⟩) hz]
  congr 3
  exact List.filter_eq_self.mpr fun _ _ => rfl
theorem lc_fil {α : Type} {t : Nat} {fi : IF} {ft : TF} {env e0 : DEnv} {l : List α} {i : α → Dv} (b : α → Bool) (hi : fi env = some (l.map i, e0)) (ht : t < e0.length) (hn : noOwnB [t] e0 = true)
    (h1 : ∀ x ∈ l, ft (e0.set t (.dat (i x))) = some (b x, e0.set t (.dat (i x)))) (hz : l.length ≤ szL) : fLc fi (fName t) ft (fVar t) [t] env = some ((l.filter b).map i, e0) := by
  refine lc_gen b i hi ht hn h1 (fun x hx _ => ⟨.v t, ?_, ?_⟩) hz
  · unfold fVar
    rw [List.getElem?_set_self ht]
  · unfold frz
    simp only
    rw [List.getElem?_set_self ht]
/-! zip -/
theorem pairD_map {α β : Type} (i : α → Dv) (j : β → Dv) : ∀ (l : List α) (m : List β), pairD (l.map i) (m.map j) = (l.zip m).map fun p => .tup [i p.1, j p.2]
  | [], m => by cases m <;> rfl
  | x :: l, [] => rfl
  | x :: l, y :: m => by
    rw [List.map_cons, List.map_cons, List.zip_cons_cons, List.map_cons]
    unfold pairD
    rw [pairD_map i j l m]
theorem comp_zip {α : Type} {t u : Nat} {ft : TF} {fe : EF} {e0 : DEnv} (b : α → Bool) (i j : α → Dv) (f : α → Dv) (htu : t ≠ u) (ht : t < e0.length) (hu : u < e0.length) : ∀ (l : List α) (acc : List Dv),
    (∀ x ∈ l, ft ((e0.set t (.dat (i x))).set u (.dat (j x))) = some (b x, (e0.set t (.dat (i x))).set u (.dat (j x)))) →
    (∀ x ∈ l, b x = true → ∃ rv, fe ((e0.set t (.dat (i x))).set u (.dat (j x))) = some (rv, (e0.set t (.dat (i x))).set u (.dat (j x))) ∧ frz ((e0.set t (.dat (i x))).set u (.dat (j x))) rv = some (f x, (e0.set t (.dat (i x))).set u (.dat (j x)))) → acc.length + l.length ≤ szL →
    compF (fGtup 2 (fGcons (fName t) (fGcons (fName u) fGnil))) ft fe [t, u] (l.map fun p => .tup [i p, j p]) ((e0.set t .non).set u .non) acc = some (acc ++ (l.filter b).map f, (e0.set t .non).set u .non)
  | [], acc, _, _, _ => by
    unfold compF
    simp
  | x :: l, acc, h1, h2, hz => by
    have g1 : (fGtup 2 (fGcons (fName t) (fGcons (fName u) fGnil))) (.tup [i x, j x]) ((e0.set t .non).set u .non) = some ((e0.set t (.dat (i x))).set u (.dat (j x))) := by
      show ((fName t (i x) ((e0.set t .non).set u .non)).bind (fGcons (fName u) fGnil [j x])) = _
      have q : fName t (i x) ((e0.set t .non).set u .non) = some ((e0.set t (.dat (i x))).set u .non) := by
        unfold fName
        rw [List.getElem?_set_ne (Ne.symm htu), List.getElem?_set_self ht]
        simp only [Option.some.injEq]
        rw [List.set_comm _ _ htu.symm, List.set_set]
      rw [q, Option.bind_some]
      show ((fName u (j x) ((e0.set t (.dat (i x))).set u .non)).bind (fGnil [])) = _
      have q2 : fName u (j x) ((e0.set t (.dat (i x))).set u .non) = some ((e0.set t (.dat (i x))).set u (.dat (j x))) := by
        unfold fName
        rw [List.getElem?_set_self (by simpa using hu)]
        simp only [Option.some.injEq]
        rw [List.set_set]
      rw [q2]
      rfl
    have w : wipeE ((e0.set t (.dat (i x))).set u (.dat (j x))) [t, u] = (e0.set t .non).set u .non := by
      unfold wipeE wipeE wipeE
      rw [List.set_set, List.set_comm _ _ htu.symm, List.set_set]
    rw [List.map_cons]
    rw [List.length_cons] at hz
    unfold compF
    rw [g1, Option.bind_some, h1 x List.mem_cons_self, Option.bind_some]
    cases hb : b x with
    | false =>
      rw [if_neg (by simp)]
      rw [w, comp_zip b i j f htu ht hu l acc (fun y hy => h1 y (List.mem_cons_of_mem _ hy)) (fun y hy => h2 y (List.mem_cons_of_mem _ hy)) (by omega), List.filter_cons, if_neg (by simp [hb])]
    | true =>
      obtain ⟨rv, q1, q2⟩ := h2 x List.mem_cons_self hb
      rw [if_pos rfl, q1, Option.bind_some, q2, Option.bind_some, if_pos (by omega)]
      rw [w, comp_zip b i j f htu ht hu l _ (fun y hy => h1 y (List.mem_cons_of_mem _ hy)) (fun y hy => h2 y (List.mem_cons_of_mem _ hy)) (by rw [List.length_append, List.length_singleton]; omega), List.filter_cons, if_pos hb, List.map_cons, List.append_assoc]
      rfl
theorem back2 {e : DEnv} {t u : Nat} {x y : Slot} (htu : t ≠ u) (ht : t < e.length) (hu : u < e.length) : backE e ((e.set t x).set u y) [t, u] = e := by
  unfold backE backE backE
  rw [List.getElem?_eq_getElem ht, List.getElem?_eq_getElem hu]
  simp only
  apply List.ext_getElem?
  intro i
  rw [List.getElem?_set, List.getElem?_set, List.getElem?_set, List.getElem?_set]
  simp only [List.length_set]
  by_cases z : t = i
  · subst z
    simp [ht]
  · by_cases z2 : u = i
    · subst z2
      simp [z, hu]
    · simp [z, z2]
theorem lz_gen {α : Type} {t u : Nat} {fi : IF} {ft : TF} {fe : EF} {env e0 : DEnv} {l : List α} {i j : α → Dv} (b : α → Bool) (f : α → Dv) (hi : fi env = some (l.map (fun p => .tup [i p, j p]), e0)) (htu : t ≠ u) (ht : t < e0.length) (hu : u < e0.length) (hn : noOwnB [t, u] e0 = true)
    (h1 : ∀ x ∈ l, ft ((e0.set t (.dat (i x))).set u (.dat (j x))) = some (b x, (e0.set t (.dat (i x))).set u (.dat (j x))))
    (h2 : ∀ x ∈ l, b x = true → ∃ rv, fe ((e0.set t (.dat (i x))).set u (.dat (j x))) = some (rv, (e0.set t (.dat (i x))).set u (.dat (j x))) ∧ frz ((e0.set t (.dat (i x))).set u (.dat (j x))) rv = some (f x, (e0.set t (.dat (i x))).set u (.dat (j x))))
    (hz : l.length ≤ szL) : fLc fi (fGtup 2 (fGcons (fName t) (fGcons (fName u) fGnil))) ft fe [t, u] env = some ((l.filter b).map f, e0) := by
  unfold fLc
  rw [hi, Option.bind_some, if_pos hn]
  have w : wipeE e0 [t, u] = (e0.set t .non).set u .non := by
    unfold wipeE wipeE wipeE
    rw [List.set_comm _ _ htu.symm]
  rw [w, comp_zip b i j f htu ht hu l [] h1 h2 (by simpa using hz), Option.map_some, back2 htu ht hu, List.nil_append]
theorem lz_map {α : Type} {t u : Nat} {fi : IF} {fe : EF} {env e0 : DEnv} {l : List α} {i j : α → Dv} (f : α → Dv) (hi : fi env = some (l.map (fun p => .tup [i p, j p]), e0)) (htu : t ≠ u) (ht : t < e0.length) (hu : u < e0.length) (hn : noOwnB [t, u] e0 = true)
    (h2 : ∀ x ∈ l, fe ((e0.set t (.dat (i x))).set u (.dat (j x))) = some (.d (f x), (e0.set t (.dat (i x))).set u (.dat (j x)))) (hz : l.length ≤ szL) : fLc fi (fGtup 2 (fGcons (fName t) (fGcons (fName u) fGnil))) tYesF fe [t, u] env = some (l.map f, e0) := by
  rw [lz_gen (fun _ => true) f hi htu ht hu hn (fun _ _ => rfl) (fun x hx _ => ⟨_, h2 x hx, rfl⟩) hz]
  congr 3
  exact List.filter_eq_self.mpr fun _ _ => rfl
end DL

set_option Elab.async false
set_option linter.all false
set_option maxRecDepth 100000
set_option maxHeartbeats 4000000
namespace DL
open PySem L2 PyProof.Rows
/-! ### sizes of numbers -/
def sm (k : Nat) (i : Int) : Prop := i.natAbs < 2 ^ k
theorem sm.mono {a b : Nat} {i : Int} (h : sm a i) (ab : a ≤ b) : sm b i := Nat.lt_of_lt_of_le h (Nat.pow_le_pow_right (by decide) ab)
theorem sm.mul {a b : Nat} {i j : Int} (h : sm a i) (g : sm b j) : sm (a + b) (i * j) := by
  unfold sm at *
  rw [Int.natAbs_mul, Nat.pow_add]
  exact Nat.mul_lt_mul'' h g
theorem sm.add {a : Nat} {i j : Int} (h : sm a i) (g : sm a j) : sm (a + 1) (i + j) := by
  unfold sm at *
  have := Int.natAbs_add_le i j
  rw [Nat.pow_succ]
  omega
theorem sm.sub {a : Nat} {i j : Int} (h : sm a i) (g : sm a j) : sm (a + 1) (i - j) := by
  unfold sm at *
  have := Int.natAbs_sub_le i j
  rw [Nat.pow_succ]
  omega
theorem sm.neg {a : Nat} {i : Int} (h : sm a i) : sm a (-i) := by
  unfold sm at *
  rwa [Int.natAbs_neg]
theorem sm.log {a : Nat} {i : Int} (h : sm (a + 1) i) : i.natAbs.log2 ≤ a := by
  by_cases z : i.natAbs = 0
  · rw [z]
    exact Nat.zero_le _
  · exact Nat.le_of_lt_succ ((Nat.log2_lt z).mpr h)
theorem sm.cm {a b : Nat} {i j : Int} (h : sm a i) (g : sm b j) (l : a + b ≤ 900000) : CMulW i j := by
  unfold CMulW
  have := (h.mono (Nat.le_succ a)).log
  have := (g.mono (Nat.le_succ b)).log
  omega
theorem sm_of {k : Nat} {i : Int} (h : 0 ≤ i) (g : i < 2 ^ k) : sm k i := by
  unfold sm
  have : ((2 ^ k : Nat) : Int) = 2 ^ k := by rw [Int.natCast_pow]; rfl
  omega
theorem sm.lt {k : Nat} {i : Int} (h : sm k i) : i < 2 ^ k := by
  unfold sm at h
  have : ((2 ^ k : Nat) : Int) = 2 ^ k := by rw [Int.natCast_pow]; rfl
  omega
theorem sm.gt {k : Nat} {i : Int} (h : sm k i) : -(2 ^ k) < i := by
  unfold sm at h
  have : ((2 ^ k : Nat) : Int) = 2 ^ k := by rw [Int.natCast_pow]; rfl
  omega
theorem sm_sum {k n : Nat} : ∀ {l : List Int}, (∀ x ∈ l, sm k x) → l.length ≤ n → sm (k + n) l.sum
  | [], _, _ => by
    unfold sm
    exact Nat.pow_pos (by decide)
  | x :: l, h, hn => by
    cases n with
    | zero => simp at hn
    | succ n =>
      rw [List.sum_cons]
      have a := sm_sum (n := n) (l := l) (fun y hy => h y (List.mem_cons_of_mem _ hy)) (by simpa using hn)
      exact ((h x List.mem_cons_self).mono (Nat.le_add_right k n)).add a

/-! ### data for == -/
def okd (n : Nat) (d : Dv) : Prop := (py d).canLay0 = true ∧ (py d).depth ≤ n
theorem okd.mono {n m : Nat} {d : Dv} (h : okd n d) (k : n ≤ m) : okd m d := ⟨h.1, Nat.le_trans h.2 k⟩
theorem okd_int {n : Nat} {i : Int} : okd n (.int i) := ⟨by simp only [py, PyData.canLay0], by simp [py, PyData.depth]⟩
theorem okd_bl {n : Nat} {i : Bool} : okd n (.bl i) := ⟨by simp only [py, PyData.canLay0], by simp [py, PyData.depth]⟩
theorem okd_non {n : Nat} : okd n .non := ⟨by simp only [py, PyData.canLay0], by simp [py, PyData.depth]⟩
theorem okd_str {n : Nat} {s : Str} (h : (PyData.str s).canLay0 = true) : okd n (.str s) := ⟨by simpa only [py] using h, by simp [py, PyData.depth]⟩
theorem okds {n : Nat} : ∀ {ds : List Dv}, (∀ d ∈ ds, okd n d) → PyData.canLayAll0 (pys ds) = true ∧ PyData.depthAll (pys ds) ≤ n
  | [], _ => ⟨by simp only [pys, PyData.canLayAll0], by simp [pys, PyData.depthAll]⟩
  | d :: ds, h => by
    obtain ⟨a, b⟩ := okds fun x hx => h x (List.mem_cons_of_mem _ hx)
    obtain ⟨c, e⟩ := h d List.mem_cons_self
    refine ⟨?_, ?_⟩
    · simp only [pys, PyData.canLayAll0, a, c, Bool.and_self]
    · simp only [pys, PyData.depthAll]
      omega
theorem okd_lst {n : Nat} {ds : List Dv} (h : ∀ d ∈ ds, okd n d) : okd (n + 1) (.lst ds) := by
  obtain ⟨a, b⟩ := okds h
  exact ⟨by simpa only [py, PyData.canLay0] using a, by simp only [py, PyData.depth]; omega⟩
theorem okd_tup {n : Nat} {ds : List Dv} (h : ∀ d ∈ ds, okd n d) : okd (n + 1) (.tup ds) := by
  obtain ⟨a, b⟩ := okds h
  exact ⟨by simpa only [py, PyData.canLay0] using a, by simp only [py, PyData.depth]; omega⟩
theorem okd_ints {ns : List Int} : ∀ d ∈ ns.map Dv.int, okd 0 d := fun d h => by
  obtain ⟨i, _, rfl⟩ := List.mem_map.mp h
  exact okd_int
theorem okd_tupI {n : Nat} {ns : List Int} : okd (n + 1) (.tup (ns.map .int)) := (okd_tup okd_ints).mono (by omega)
theorem okd_lstI {n : Nat} {ns : List Int} : okd (n + 1) (.lst (ns.map .int)) := (okd_lst okd_ints).mono (by omega)
theorem eqC_ok {d e : Dv} (h : okd 64 d) (g : okd 64 e) : eqC d e = true := by
  unfold eqC SeqAt.shaped
  rw [h.1, g.1, decide_eq_true h.2, decide_eq_true g.2]
  rfl
theorem eqv_int {i j : Int} : PyData.eqv (py (.int i)) (py (.int j)) = (i == j) := by simp only [py, PyData.eqv]
theorem eqv_bl {i j : Bool} : PyData.eqv (py (.bl i)) (py (.bl j)) = (i == j) := by simp only [py, PyData.eqv]
theorem eqv_str {i j : Str} : PyData.eqv (py (.str i)) (py (.str j)) = (i == j) := by simp only [py, PyData.eqv]
theorem eqv_lst {i j : List Dv} : PyData.eqv (py (.lst i)) (py (.lst j)) = PyData.eqvAll (pys i) (pys j) := by simp only [py, PyData.eqv]
theorem eqv_tup {i j : List Dv} : PyData.eqv (py (.tup i)) (py (.tup j)) = PyData.eqvAll (pys i) (pys j) := by simp only [py, PyData.eqv]
theorem eqv_nil {i : List Dv} : PyData.eqv (py (.lst i)) (py (.lst [])) = i.isEmpty := by
  rw [eqv_lst]
  cases i <;> simp only [pys, PyData.eqvAll, List.isEmpty]
theorem eqvAll_ints : ∀ {ns ms : List Int}, PyData.eqvAll (pys (ns.map .int)) (pys (ms.map .int)) = decide (ns = ms)
  | [], [] => by simp [pys, PyData.eqvAll]
  | [], m :: ms => by simp [pys, PyData.eqvAll]
  | n :: ns, [] => by simp [pys, PyData.eqvAll]
  | n :: ns, m :: ms => by
    simp only [List.map_cons, pys, PyData.eqvAll]
    rw [eqvAll_ints, eqv_int]
    rw [Bool.eq_iff_iff]
    simp
theorem eqv_tupI {ns ms : List Int} : PyData.eqv (py (.tup (ns.map .int))) (py (.tup (ms.map .int))) = decide (ns = ms) := by rw [eqv_tup, eqvAll_ints]
theorem eqv_lstI {ns ms : List Int} : PyData.eqv (py (.lst (ns.map .int))) (py (.lst (ms.map .int))) = decide (ns = ms) := by rw [eqv_lst, eqvAll_ints]
mutual
theorem eqv_rfl : ∀ {d : Dv}, (py d).canLay0 = true → PyData.eqv (py d) (py d) = true
  | .non, _ => by simp only [py, PyData.eqv]
  | .bl b, _ => by simp only [py, PyData.eqv, beq_self_eq_true]
  | .int b, _ => by simp only [py, PyData.eqv, beq_self_eq_true]
  | .str b, _ => by simp only [py, PyData.eqv, beq_self_eq_true]
  | .lst xs, h => by
    simp only [py, PyData.canLay0] at h
    rw [eqv_lst]
    exact eqvs_rfl h
  | .tup xs, h => by
    simp only [py, PyData.canLay0] at h
    rw [eqv_tup]
    exact eqvs_rfl h
  | .ins _ _ _, h => by simp only [py, PyData.canLay0] at h; cases h
  | .ty _, h => by simp only [py, PyData.canLay0] at h; cases h
  | .cls _, h => by simp only [py, PyData.canLay0] at h; cases h
  | .anyS, h => by simp only [py, PyData.canLay0] at h; cases h
  | .scr _ _, h => by simp only [py, PyData.canLay0] at h; cases h
theorem eqvs_rfl : ∀ {ds : List Dv}, PyData.canLayAll0 (pys ds) = true → PyData.eqvAll (pys ds) (pys ds) = true
  | [], _ => by simp only [pys, PyData.eqvAll]
  | d :: ds, h => by
    simp only [pys, PyData.canLayAll0, Bool.and_eq_true] at h
    simp only [pys, PyData.eqvAll, eqv_rfl h.1, eqvs_rfl h.2, Bool.and_self]
end
/-! ### items, slices of encoded lists -/
theorem atI_pos {α : Type} {xs : List α} {i : Int} (h0 : 0 ≤ i) (h : i < xs.length) : atI xs i = xs[i.toNat]? := by
  unfold atI ixN
  rw [if_pos h0, if_pos h]
  rfl
theorem atI_nat {α : Type} {xs : List α} (i : Nat) : atI xs (i : Int) = xs[i]? := by
  by_cases h : i < xs.length
  · rw [atI_pos (by omega) (by omega)]
    simp
  · unfold atI ixN
    rw [if_pos (by omega), if_neg (by omega), List.getElem?_eq_none (by omega)]
    rfl
theorem atI_zero {α : Type} {x : α} {xs : List α} : atI (x :: xs) 0 = some x := by
  rw [atI_pos (by decide) (by simp only [List.length_cons]; omega)]
  rfl
theorem atI_map {α β : Type} {f : α → β} {xs : List α} {i : Int} : atI (xs.map f) i = (atI xs i).map f := by
  unfold atI
  rw [List.length_map]
  cases ixN xs.length i with
  | none => rfl
  | some j => simp
theorem cut_map {α β : Type} {f : α → β} {xs : List α} {lo hi : Option Int} : cut (xs.map f) lo hi = (cut xs lo hi).map f := by
  unfold cut
  rw [List.length_map, List.map_take, List.map_drop]
theorem sIx_nn {n : Nat} {i : Int} {d : Nat} (h : 0 ≤ i) : HT.sIx n d (some i) = min i.toNat n := by
  show (if i < 0 then (i + (n : Int)).toNat else min i.toNat n) = min i.toNat n
  rw [if_neg (by omega)]
theorem cut_from {α : Type} {xs : List α} {i : Int} (h : 0 ≤ i) : cut xs (some i) none = xs.drop i.toNat := by
  unfold cut
  rw [sIx_nn h, HT.sIx_none, List.take_of_length_le (by rw [List.length_drop]; omega)]
  by_cases z : i.toNat ≤ xs.length
  · rw [Nat.min_eq_left z]
  · rw [Nat.min_eq_right (by omega), List.drop_of_length_le (Nat.le_refl _), List.drop_of_length_le (by omega)]
theorem cut_to {α : Type} {xs : List α} {i : Int} (h : 0 ≤ i) : cut xs none (some i) = xs.take i.toNat := by
  unfold cut
  rw [sIx_nn h, HT.sIx_none, List.drop_zero, Nat.sub_zero]
  by_cases z : i.toNat ≤ xs.length
  · rw [Nat.min_eq_left z]
  · rw [Nat.min_eq_right (by omega), List.take_of_length_le (Nat.le_refl _), List.take_of_length_le (by omega)]
theorem cut_all {α : Type} {xs : List α} : cut xs none none = xs := by
  unfold cut
  rw [HT.sIx_none, HT.sIx_none, List.drop_zero, Nat.sub_zero, List.take_of_length_le (Nat.le_refl _)]
theorem cut_mid {α : Type} {xs : List α} {i j : Int} (h : 0 ≤ i) (g : 0 ≤ j) : cut xs (some i) (some j) = (xs.drop i.toNat).take (j.toNat - i.toNat) := by
  unfold cut
  rw [sIx_nn h, sIx_nn g]
  by_cases z : i.toNat ≤ xs.length
  · rw [Nat.min_eq_left z]
    by_cases w : j.toNat ≤ xs.length
    · rw [Nat.min_eq_left w]
    · rw [Nat.min_eq_right (by omega), List.take_of_length_le (by rw [List.length_drop]; omega), List.take_of_length_le (by rw [List.length_drop]; omega)]
  · rw [Nat.min_eq_right (a := i.toNat) (by omega), List.drop_of_length_le (Nat.le_refl _), List.drop_of_length_le (by omega)]
    simp
theorem cut_tail {α : Type} {x : α} {xs : List α} : cut (x :: xs) (some 1) none = xs := by
  rw [cut_from (by decide)]
  rfl
/-! ### plain data: isinstance asks nothing odd -/
def pl : Dv → Bool
  | .ins _ _ _ => false
  | .ty _ => false
  | .cls _ => false
  | .scr _ _ => false
  | _ => true
/-! ### loops -/
/-- a loop over items, each of which leads from one state to the next -/
theorem loop_go {α σ : Type} {gf : GF} {gb : SF} (E : σ → DEnv) (i : α → Dv) (step : σ → α → σ) (P : σ → Prop) (l : List α)
    (h : ∀ x ∈ l, ∀ s, P s → P (step s x) ∧ (gf (i x) (E s)).bind gb = some (.nx (E (step s x)))) : ∀ s, P s → loopF gf gb (l.map i) (E s) = some (.nx (E (l.foldl step s))) ∧ P (l.foldl step s) := by
  induction l with
  | nil => exact fun s p => ⟨rfl, p⟩
  | cons x l ih =>
    intro s p
    obtain ⟨p2, e⟩ := h x List.mem_cons_self s p
    obtain ⟨e1, h1, h2⟩ := Option.bind_eq_some_iff.mp e
    rw [List.map_cons, e_loop1, h1, Option.bind_some, h2, Option.bind_some]
    exact ih (fun y hy => h y (List.mem_cons_of_mem _ hy)) _ p2
/-- a loop by an invariant of what stands -/
theorem loop_inv {gf : GF} {gb : SF} (P : Nat → DEnv → Prop) (l : List Dv) (h : ∀ (i : Nat) d, l[i]? = some d → ∀ e, P i e → ∃ e1 e2, gf d e = some e1 ∧ (gb e1 = some (.nx e2) ∨ gb e1 = some (.ct e2)) ∧ P (i + 1) e2) :
    ∀ e, P 0 e → ∃ e', loopF gf gb l e = some (.nx e') ∧ P l.length e' := by
  induction l generalizing P with
  | nil => exact fun e p => ⟨e, rfl, p⟩
  | cons d l ih =>
    intro e p
    obtain ⟨e1, e2, h1, h2, p2⟩ := h 0 d rfl e p
    obtain ⟨e', h3, p3⟩ := ih (fun i => P (i + 1)) (fun i d hd e pe => h (i + 1) d hd e pe) e2 p2
    refine ⟨e', ?_, p3⟩
    rw [e_loop1, h1, Option.bind_some]
    rcases h2 with h2 | h2
    · rw [h2, Option.bind_some]
      exact h3
    · rw [h2, Option.bind_some]
      exact h3
/-- a comprehension by an invariant (what it calls may change a list) -/
theorem comp_inv {gf : GF} {ft : TF} {fe : EF} {ts : List Nat} (P : Nat → DEnv → List Dv → Prop) (l : List Dv)
    (h : ∀ (i : Nat) d, l[i]? = some d → ∀ e acc, P i e acc → ∃ e1 e2 b, gf d e = some e1 ∧ ft e1 = some (b, e2) ∧ (b = false → P (i + 1) (wipeE e2 ts) acc) ∧ (b = true → ∃ rv e3 z e4, fe e2 = some (rv, e3) ∧ frz e3 rv = some (z, e4) ∧ P (i + 1) (wipeE e4 ts) (acc ++ [z]))) :
    ∀ e acc, P 0 e acc → acc.length + l.length ≤ szL → ∃ e' xs, compF gf ft fe ts l e acc = some (xs, e') ∧ P l.length e' xs := by
  induction l generalizing P with
  | nil => exact fun e acc p _ => ⟨e, acc, rfl, p⟩
  | cons d l ih =>
    intro e acc p hz
    rw [List.length_cons] at hz
    obtain ⟨e1, e2, b, h1, h2, h3, h4⟩ := h 0 d rfl e acc p
    unfold compF
    rw [h1, Option.bind_some, h2, Option.bind_some]
    cases b with
    | false => exact ih (fun i => P (i + 1)) (fun i d hd e acc pe => h (i + 1) d hd e acc pe) _ _ (h3 rfl) (by omega)
    | true =>
      obtain ⟨rv, e3, z, e4, h5, h6, p6⟩ := h4 rfl
      rw [if_pos rfl, h5, Option.bind_some, h6, Option.bind_some, if_pos (by omega)]
      exact ih (fun i => P (i + 1)) (fun i d hd e acc pe => h (i + 1) d hd e acc pe) _ _ p6 (by rw [List.length_append, List.length_singleton]; omega)
theorem rangeD_get {lo : Int} {n i : Nat} {d : Dv} (h : (rangeD lo n)[i]? = some d) : d = .int (lo + i) ∧ i < n := by
  unfold rangeD at h
  rw [List.getElem?_map] at h
  obtain ⟨j, h1, h2⟩ := Option.map_eq_some_iff.mp h
  obtain ⟨h3, h4⟩ := List.getElem?_eq_some_iff.mp h1
  rw [List.getElem_range] at h4
  subst h4
  rw [List.length_range] at h3
  exact ⟨h2.symm, h3⟩
theorem rangeD_len {lo : Int} {n : Nat} : (rangeD lo n).length = n := by simp [rangeD]
theorem rangeD_map {lo : Int} {n : Nat} : rangeD lo n = (List.range n).map fun i : Nat => .int (lo + (i : Int)) := rfl
theorem rng_ok {i : Int} (h : -1000000000 ≤ i) (g : i ≤ 1000000000) : rngC i := ⟨by omega, by omega⟩
/-! ### unrolling -/
theorem u_lc {fi : IF} {gf : GF} {ft : TF} {fe : EF} {ts : List Nat} {env : DEnv} : fLc fi gf ft fe ts env = (fi env).bind fun p => if noOwnB ts p.2 = true then (compF gf ft fe ts p.1 (wipeE p.2 ts) []).map fun q => (q.1, backE p.2 q.2 ts) else none := rfl
theorem u_comp0 {gf : GF} {ft : TF} {fe : EF} {ts : List Nat} {env : DEnv} {acc : List Dv} : compF gf ft fe ts [] env acc = some (acc, env) := rfl
theorem u_comp1 {gf : GF} {ft : TF} {fe : EF} {ts : List Nat} {env : DEnv} {acc : List Dv} {d : Dv} {r : List Dv} : compF gf ft fe ts (d :: r) env acc = (gf d env).bind fun e1 => (ft e1).bind fun p => if p.1 = true then (fe p.2).bind fun q => (frz q.2 q.1).bind fun z => if acc.length < szL then compF gf ft fe ts r (wipeE z.2 ts) (acc ++ [z.1]) else none
    else compF gf ft fe ts r (wipeE p.2 ts) acc := rfl
theorem u_wipe0 {env : DEnv} : wipeE env [] = env := rfl
theorem u_wipe1 {env : DEnv} {i : Nat} {is : List Nat} : wipeE env (i :: is) = (wipeE env is).set i .non := rfl
theorem u_back0 {e0 env : DEnv} : backE e0 env [] = env := rfl
theorem u_back1 {e0 env : DEnv} {i : Nat} {is : List Nat} : backE e0 env (i :: is) = match e0[i]? with
    | some s => (backE e0 env is).set i s
    | none => backE e0 env is := rfl
theorem atI_1 {α : Type} {x y : α} {xs : List α} : atI (x :: y :: xs) 1 = some y := by
  rw [atI_pos (by decide) (by simp only [List.length_cons]; omega)]
  rfl
theorem atI_2 {α : Type} {x y z : α} {xs : List α} : atI (x :: y :: z :: xs) 2 = some z := by
  rw [atI_pos (by decide) (by simp only [List.length_cons]; omega)]
  rfl
theorem atI_3 {α : Type} {x y z u : α} {xs : List α} : atI (x :: y :: z :: u :: xs) 3 = some u := by
  rw [atI_pos (by decide) (by simp only [List.length_cons]; omega)]
  rfl
theorem range_00 : rangeD 1 0 = [] := rfl
theorem range_1 : rangeD 1 1 = [.int 1] := rfl
theorem range_2 : rangeD 1 2 = [.int 1, .int 2] := rfl
theorem range_3 : rangeD 1 3 = [.int 1, .int 2, .int 3] := rfl
/-! ### comprehensions whose source leaves the environment as it is -/
theorem c_gen {α : Type} {t : Nat} {fi : IF} {ft : TF} {fe : EF} {env : DEnv} {l : List α} {i : α → Dv} (b : α → Bool) (f : α → Dv) (hi : fi env = some (l.map i, env)) (ht : t < env.length) (hn : noOwnB [t] env = true)
    (h1 : ∀ x ∈ l, ft (env.set t (.dat (i x))) = some (b x, env.set t (.dat (i x)))) (h2 : ∀ x ∈ l, b x = true → ∃ rv, fe (env.set t (.dat (i x))) = some (rv, env.set t (.dat (i x))) ∧ frz (env.set t (.dat (i x))) rv = some (f x, env.set t (.dat (i x))))
    (hz : l.length ≤ szL) : fLc fi (fName t) ft fe [t] env = some ((l.filter b).map f, env) := lc_gen b f hi ht hn h1 h2 hz
theorem c_map {α : Type} {t : Nat} {fi : IF} {fe : EF} {env : DEnv} {l : List α} {i : α → Dv} (f : α → Dv) (hi : fi env = some (l.map i, env)) (ht : t < env.length) (hn : noOwnB [t] env = true)
    (h2 : ∀ x ∈ l, fe (env.set t (.dat (i x))) = some (.d (f x), env.set t (.dat (i x)))) (hz : l.length ≤ szL) : fLc fi (fName t) tYesF fe [t] env = some (l.map f, env) := lc_map f hi ht hn h2 hz
theorem c_fil {α : Type} {t : Nat} {fi : IF} {ft : TF} {env : DEnv} {l : List α} {i : α → Dv} (b : α → Bool) (hi : fi env = some (l.map i, env)) (ht : t < env.length) (hn : noOwnB [t] env = true)
    (h1 : ∀ x ∈ l, ft (env.set t (.dat (i x))) = some (b x, env.set t (.dat (i x)))) (hz : l.length ≤ szL) : fLc fi (fName t) ft (fVar t) [t] env = some ((l.filter b).map i, env) := lc_fil b hi ht hn h1 hz
theorem z_gen {α : Type} {t u : Nat} {fi : IF} {ft : TF} {fe : EF} {env : DEnv} {l : List α} {i j : α → Dv} (b : α → Bool) (f : α → Dv) (hi : fi env = some (l.map (fun p => .tup [i p, j p]), env)) (htu : t ≠ u) (ht : t < env.length) (hu : u < env.length) (hn : noOwnB [t, u] env = true)
    (h1 : ∀ x ∈ l, ft ((env.set t (.dat (i x))).set u (.dat (j x))) = some (b x, (env.set t (.dat (i x))).set u (.dat (j x))))
    (h2 : ∀ x ∈ l, b x = true → ∃ rv, fe ((env.set t (.dat (i x))).set u (.dat (j x))) = some (rv, (env.set t (.dat (i x))).set u (.dat (j x))) ∧ frz ((env.set t (.dat (i x))).set u (.dat (j x))) rv = some (f x, (env.set t (.dat (i x))).set u (.dat (j x))))
    (hz : l.length ≤ szL) : fLc fi (fGtup 2 (fGcons (fName t) (fGcons (fName u) fGnil))) ft fe [t, u] env = some ((l.filter b).map f, env) := lz_gen b f hi htu ht hu hn h1 h2 hz
theorem z_map {α : Type} {t u : Nat} {fi : IF} {fe : EF} {env : DEnv} {l : List α} {i j : α → Dv} (f : α → Dv) (hi : fi env = some (l.map (fun p => .tup [i p, j p]), env)) (htu : t ≠ u) (ht : t < env.length) (hu : u < env.length) (hn : noOwnB [t, u] env = true)
    (h2 : ∀ x ∈ l, fe ((env.set t (.dat (i x))).set u (.dat (j x))) = some (.d (f x), (env.set t (.dat (i x))).set u (.dat (j x)))) (hz : l.length ≤ szL) : fLc fi (fGtup 2 (fGcons (fName t) (fGcons (fName u) fGnil))) tYesF fe [t, u] env = some (l.map f, env) := lz_map f hi htu ht hu hn h2 hz
end DL

set_option Elab.async false
set_option linter.all false
set_option maxRecDepth 100000
set_option maxHeartbeats 4000000
/-! Defs called where no repr is under way (guards empty), by promises that also tell what is raised. -/
namespace DG
open PySem L2 PySem.Spec PyProof.Rows
structure FnG (P : Program) (w : World) (K : PySem.W.Frag) (mg : Str → Option Value) (base : Heap) (C : CXT) (k : Nat) (f : Addr) (fd : FuncData) (ps : List Str) (sp : Sp) : Prop where
  len : ∀ vs H Q E, sp vs H Q E → vs.length = ps.length
  run : ∀ (A : Around) (out : List Env) (s : Shared) (H : Hp) (ar : Args) (us : List Value) (vs : List V) (Q : VK) (E : XK), A.guards = some [] → Room k A → Env0 P w K mg base A out s H → BindsTo s fd ar (ps.zip us) → Vals vs us → sp vs H Q E →
    codeAny (model P w) A (.call (.ref f) ar) (CR C out P w H s Q E) s
theorem guards_deeper {A : Around} {e : Env} : (A.deeper e).guards = A.guards := by
  first | rfl | simp [Around.deeper]
section
variable {X : Cx} {C : CXT} {k : Nat} {f : Addr} {fd : FuncData} {ps : List Str} {sp : Sp} {dvs : List V} {ds : List Value} {E : XK} {n : Str} {po ps' : Pos} {e : Expr} {es : List Expr} {t : TA}
theorem run_g {pins : List (Addr × Obj)} {σ : L2.St} {H : Hp} {s : Shared} {Q : VK} {us : List Value} {vs : List V} (F : FnG X.prog X.w X.K X.mg X.base C k f fd ps sp) (g : X.A.guards = some []) (hr : Room k X.A) (bd : Binds X.K fd ps ds) (vd : Vals dvs ds)
    (px : Passes C X E) (I : Inv X pins σ H s) (rv : Vals vs us) (want : sp (vs ++ dvs) H Q E) : wpAny (model X.prog X.w) X.A (call (.ref f) us) (EP X pins σ Q) X.xe s := by
  have rv' := rv.append vd
  have eqn : (us ++ ds).length = ps.length := rv'.length ▸ F.len _ _ _ _ want
  apply wpAny_call
  apply codeAny_mono (F.run X.A X.stack s H ⟨us, []⟩ _ _ Q E g hr I.env0 (bd s us I.kIn eqn) rv' want)
  intro res s₂ h
  match res, h with
  | .error x, h => exact px pins σ H s x s₂ I h
  | .ok (.ret x), h => exact I.after h
  | .ok .next, h => cases h
  | .ok .brk, h => cases h
  | .ok .cont, h => cases h
theorem call_g (F : FnG X.prog X.w X.K X.mg X.base C k f fd ps sp) (g : X.A.guards = some []) (hr : Room k X.A) (gl : Gl X n) (m : X.mg n = some (.ref f)) (kp : PySem.W.keepIn X.K (.ref f) = true) (bd : Binds X.K fd ps ds) (vd : Vals dvs ds) (px : Passes C X E)
    (as : PA X (e :: es) t) (nd : (n == ("__debug__" : Str)) = false := by decide) (h1 : starEach (e :: es) X.env = (false, eval e X.env) :: starEach es X.env := by rfl) (h2 : (backTo po (starEach es X.env)).any (·.1) = false := by rfl) :
    PE X (.Call (.Name n ps') (e :: es) [] po) (tCall sp dvs E t) := ⟨fun pins s σ H Q I h =>
  wpAny_Call_Name_kw (ld_glob I gl m (PySem.W.callWith_K (h₀ := X.base) I.ok.mod.kin kp (thn (as.run po pins s σ H _ I h) fun _ _ ⟨_, _, J, rv, q⟩ => ⟨J.kIn, run_g F g hr bd vd px J rv q⟩) h1 h2) nd)⟩
theorem call0_g (F : FnG X.prog X.w X.K X.mg X.base C k f fd ps sp) (g : X.A.guards = some []) (hr : Room k X.A) (gl : Gl X n) (m : X.mg n = some (.ref f)) (kp : PySem.W.keepIn X.K (.ref f) = true) (bd : Binds X.K fd ps ds) (vd : Vals dvs ds) (px : Passes C X E)
    (nd : (n == ("__debug__" : Str)) = false := by decide) : PE X (.Call (.Name n ps') [] [] po) (tCall sp dvs E tNil) := ⟨fun pins s σ H Q I h =>
  wpAny_Call_Name_kw (ld_glob I gl m (PySem.W.callWith_K0 I.kIn kp (run_g (us := []) F g hr bd vd px I .nil h)) nd)⟩
end
section
variable {C : CXT} {P : Program} {w : World} {K : PySem.W.Frag} {mg : Str → Option Value} {base : Heap}
/-- a def by its body -/
theorem body_g {x qual : Str} {st : Stmt} {f : Addr} {fd : FuncData} {N ps : List Str} {k : Nat} {sp : Sp} (F : Fun K x qual st f fd) (S : FnScope N ps (defScope st)) (len : ∀ vs H Q E, sp vs H Q E → vs.length = ps.length)
    (hb : ∀ (cdv : Value) (A : Around) (out : List Env) (s : Shared) (H : Hp) (vs : List V) (Q : VK) (E : XK), A.guards = some [] → Room k (A.deeper (envOfC qual (defScope st) s.heap.objs.size f cdv)) → sp vs H Q E →
      ∃ t, PSs (cxOf C P w K mg base N qual (defScope st) f cdv A out s H E) (defBody st) t ∧ t { nx := fun _ H' => Q .non H', rt := Q } (L2.start N vs) H) : FnG P w K mg base C (k + 1) f fd ps sp := by
  obtain ⟨oc, od, kV, doc, pm, an, cdv, ct, osl, rfl, lk, hcd⟩ := F.ex
  refine ⟨len, ?_⟩
  intro A out s H ar us vs Q E g hr e0 bt rv want
  have size := len _ _ _ _ want
  have old : ∀ b o, base.get? b = some o → s.heap.get? b = some o := fun b o z => (e0.bs b o z).1
  have inK : K.In s.heap := e0.mod.kin.keeps old
  have kinds : ∀ y ∈ ps.zip us, (defScope st).names.lookup y.1 = some .local ∨ ((defScope st).names.lookup y.1 = some .cell ∧ ((cellsFrom (s.heap.objs.size + 1) (defScope st).names []).lookup y.1).isSome = true) := by
    rintro ⟨n, v⟩ hy
    exact (S.par n (List.of_mem_zip hy).1).imp id fun z => ⟨z, PySem.W.cellsFrom_some _ _ _ (.inl z)⟩
  apply codeAny_call_function hr.depth (inK _ _ lk) rfl S.co S.gen rfl (PySem.W.codeRec_of inK hcd) (bt _ _ _ _ _)
  apply wpAny_newFunctionEnv_cells S.kind kinds
  intro env he s1 x
  subst he
  refine ⟨(e0.mod.nolimit.keeps old).keeps x.toInCall.keep, codeAny_func ?_⟩
  obtain ⟨t, ht, hq⟩ := hb cdv A out s H vs Q E g (hr.deeper _) want
  have I : Inv (cxOf C P w K mg base N qual (defScope st) f cdv A out s H E) [] (L2.start N vs) H s1 := inv_start S hr.hd e0 size rv x
  apply wpAny_mono (ht.run [] s1 (L2.start N vs) H _ I hq) _ fun _ _ z => z
  intro fl s2 h
  have ce : ∀ {τ : L2.St} {H' : Hp} {v : V} {u : Value}, Inv (cxOf C P w K mg base N qual (defScope st) f cdv A out s H E) [] τ H' s2 → RelV v u → Q v H' → CE out P w H s Q u s2 := fun J r q => ⟨_, _, J.os, J.bare, J.base, J.hok, r, q⟩
  match fl, h with
  | .ret u, ⟨v, τ, H', J, r, q⟩ => exact ce J r q
  | .next, ⟨τ, H', J, q⟩ => exact ce (v := V.non) (u := Value.none) J rfl q
  | .brk, ⟨_, _, _, q⟩ => cases q
  | .cont, ⟨_, _, _, q⟩ => cases q
/-- a def by its body, from which no exception is let out -/
theorem body0_g {x qual : Str} {st : Stmt} {f : Addr} {fd : FuncData} {N ps : List Str} {k : Nat} {sp : Sp} (F : Fun K x qual st f fd) (S : FnScope N ps (defScope st)) (len : ∀ vs H Q E, sp vs H Q E → vs.length = ps.length)
    (hb : ∀ (cdv : Value) (A : Around) (out : List Env) (s : Shared) (H : Hp) (vs : List V) (Q : VK) (E : XK), A.guards = some [] → Room k (A.deeper (envOfC qual (defScope st) s.heap.objs.size f cdv)) → sp vs H Q E →
      ∃ t, PSs (cxOf C P w K mg base N qual (defScope st) f cdv A out s H E).nox (defBody st) t ∧ t { nx := fun _ H' => Q .non H', rt := Q } (L2.start N vs) H) : FnG P w K mg base C (k + 1) f fd ps sp :=
  body_g F S len fun cdv A out s H vs Q E g r w => by
    obtain ⟨t, a, b⟩ := hb cdv A out s H vs Q E g r w
    exact ⟨t, a.nox, b⟩
end
/-! ### the end: the law's own call -/
section
variable {P : Program} {w : World} {K : PySem.W.Frag} {mg mb : Str → Option Value} {C : CXT} {k : Nat} {fa a : Addr} {fd : FuncData} {x : Str} {sp : Sp} {s : Shared} {vs : List Value} {ns : List Int}
def Done (s : Shared) (r : Result) (t : Shared) : Prop := r = .ok (.ret (.bool true)) ∧ OldK s.heap t.heap ∧ t.os = s.os ∧ AllBare t.gens
theorem law_core (H : Hp) (only : Only H) (seq : SqL K H a (ns.map V.int)) (ok : HOk P w H s.heap) (just : ∀ b, H b ≠ none → b = a) (free : H a ≠ none → K.lookup a = none)
    (kin : K.In s.heap) (gl : s.heap.Ns mainGlobals mg) (bl : s.heap.Ns builtinsNs mb) (bq : ∀ y : Str, y ≠ "__name__" → mb y = bootBuiltins y) (lim : s.heap.NoLimit) (gens : s.gens = #[])
    (obj : s.heap.get? a = some { cls := .type "list", data := .seq vs.toArray }) (room : Room k callerA)
    (F : ∀ base : Heap, K.In base → base.Ns mainGlobals mg → FnG P w K mg base C k fa fd [x] sp) (bind : ∀ (t : Shared) (u : Value), BindsTo t fd ⟨[u], []⟩ [(x, u)])
    (want : sp [.ref a] H (fun v _ => v = .bl true) fun _ _ _ => False) (noX : ∀ G e t, C [] G s (fun _ _ _ => False) e t → False) :
    codeAny (model P w) callerA (.call (.ref fa) ⟨[.ref a], []⟩) (Done s) s := by
  have away : ∀ {b : Addr} {o : Obj} {es : Array DictEntry} {ep : Nat}, s.heap.get? b = some o → o.data = .dict es ep → H b = none := by
    intro b o es ep e d
    refine Classical.byContradiction fun z => ?_
    obtain rfl := just b z
    rw [obj] at e
    obtain rfl := Option.some.inj e
    cases (d : Data.seq vs.toArray _ = Data.dict es ep)
  have names : ∀ {b : Addr} {m : Str → Option Value}, s.heap.Ns b m → (hidT s.heap H).Ns b m := by
    rintro b m ⟨o, es, ep, e, d, r⟩
    exact ⟨o, es, ep, hidT_get e (away e d), d, r⟩
  have kb : K.In (hidT s.heap H) := by
    intro b o e
    refine hidT_get (kin b o e) (Classical.byContradiction fun z => ?_)
    obtain rfl := just b z
    rw [free z] at e
    cases e
  obtain ⟨mc, c1, c2⟩ := lim
  have e0 : Env0 P w K mg (hidT s.heap H) callerA [] s H :=
    { frames := rfl, mod := ⟨kb, names gl, ⟨mb, names bl, bq⟩, ⟨mc, names c1, c2⟩⟩, bs := fun b o e => of_hidT e, bsz := Nat.le_of_eq (hidT_size _ _), funs := trivial, frf := (by intro b hb; cases hb), hok := ok, bare := .of_eq gens }
  apply codeAny_mono ((F _ kb (names gl)).run callerA [] s H ⟨[.ref a], []⟩ [.ref a] [.ref a] _ _ rfl room e0 (bind s (.ref a)) (.cons rfl .nil) want)
  intro r t h
  match r, h with
  | .error e, h => exact (noX H e t h).elim
  | .ok .next, h => cases h
  | .ok .brk, h => cases h
  | .ok .cont, h => cases h
  | .ok (.ret u), ⟨v, H', os, bare, un, ok', rel, tv⟩ =>
    obtain rfl : v = .bl true := tv
    obtain rfl : u = Value.bool true := rel
    refine ⟨rfl, OldK.of_keep ?_, os, bare⟩
    intro b o e
    cases z : H b with
    | none => exact un.keep b o e z (by intro q; cases q) (by simp)
    | some y =>
      rcases only b with q | ⟨ob, xs, q⟩
      · rw [z] at q
        cases q
      · have old := (ok b _ q).1
        rw [e] at old
        rw [Option.some.inj old]
        exact (ok' b _ (un.frzs b ob _ q)).1
theorem law_g (kin : K.In s.heap) (gl : s.heap.Ns mainGlobals mg) (bl : s.heap.Ns builtinsNs mb) (bq : ∀ y : Str, y ≠ "__name__" → mb y = bootBuiltins y) (lim : s.heap.NoLimit) (gens : s.gens = #[])
    (obj : s.heap.get? a = some { cls := .type "list", data := .seq vs.toArray }) (nums : IntsAre vs ns) (len : ns.length ≤ sizeLine) (room : Room k callerA)
    (F : ∀ base : Heap, K.In base → base.Ns mainGlobals mg → FnG P w K mg base C k fa fd [x] sp) (bind : ∀ (t : Shared) (u : Value), BindsTo t fd ⟨[u], []⟩ [(x, u)])
    (want : ∀ H : Hp, Only H → SqL K H a (ns.map V.int) → sp [.ref a] H (fun v _ => v = .bl true) fun _ _ _ => False) (noX : ∀ G e t, C [] G s (fun _ _ _ => False) e t → False) :
    codeAny (model P w) callerA (.call (.ref fa) ⟨[.ref a], []⟩) (Done s) s := by
  have vi := vals_ints nums
  cases look : K.lookup a with
  | some o =>
    have at_ := kin a o look
    rw [obj] at at_
    obtain rfl := Option.some.inj at_
    have sq : SqL K (fun _ => none) a (ns.map V.int) := .inr ⟨_, vs.toArray, _, look, rfl, rfl, rfl, by rw [List.size_toArray, nums.length]; exact len, by simpa using vi⟩
    have on : Only fun _ => none := fun _ => .inl rfl
    exact law_core _ on sq (fun b u z => by cases (z : (none : Option HO) = some u)) (fun b z => absurd rfl z) (fun z => absurd rfl z) kin gl bl bq lim gens obj room F bind (want _ on sq) noX
  | none =>
    let H : Hp := fun b => if b = a then some (.frz { cls := .type "list", data := .seq vs.toArray } (.lst (ns.map V.int))) else none
    have yes : H a = some (.frz { cls := .type "list", data := .seq vs.toArray } (.lst (ns.map V.int))) := if_pos rfl
    have no : ∀ b, b ≠ a → H b = none := fun b z => if_neg z
    have on : Only H := fun b => if z : b = a then .inr ⟨_, _, z ▸ yes⟩ else .inl (no b z)
    have sq : SqL K H a (ns.map V.int) := .inl (.inr ⟨_, yes⟩)
    refine law_core H on sq ?_ (fun b z => Classical.byContradiction fun q => z (no b q)) (fun _ => look) kin gl bl bq lim gens obj room F bind (want H on sq) noX
    intro b u z
    by_cases q : b = a
    · subst q
      rw [yes] at z
      obtain rfl := Option.some.inj z
      exact ⟨obj, by rw [List.length_map]; exact len, vs, _, vi, obj⟩
    · rw [no b q] at z
      cases z
end
theorem walk_g {l : PySem.W.OpenLaw} {n k : Nat} {q : Program} {loose : List Str} {XP : (Str → Option Value) → Heap → Prop} {YP : World → Heap → Prop} {d : DefRec} {K : Params → PySem.W.Frag} {CX : World → CXT} {sp : World → Sp} {x : Str}
    (hn : l.most = some n) (hn2 : n ≤ sizeLine) (hdf : d.params.defaults = []) (room : Room k callerA) (hY : ∀ (w : World) (h : Heap), YP w h → (K w.params).In h)
    (F : ∀ (w : World) (mg : Str → Option Value) (fa : Addr) (h : Heap), (K w.params).In h → h.Ns mainGlobals mg → mg d.name = some (.ref fa) →
      ∃ fd : FuncData, (∀ (s : Shared) (u : Value), BindsTo s fd ⟨[u], []⟩ [(x, u)]) ∧ ∀ base : Heap, (K w.params).In base → base.Ns mainGlobals mg → FnG l.prog w (K w.params) mg base (CX w) k fa fd [x] (sp w))
    (want : ∀ (w : World) (H : Hp) (a : Addr) (ns : List Int), ns.length ≤ n → Only H → SqL (K w.params) H a (ns.map V.int) → sp w [.ref a] H (fun v _ => v = .bl true) fun _ _ _ => False)
    (noX : ∀ (w : World) (G : Hp) (s : Shared) (e : Value) (t : Shared), CX w [] G s (fun _ _ _ => False) e t → False) :
    PySem.W.WalkO q loose XP YP l.row.toRowW d [] (fun f vs => PySem.call f vs) := by
  apply Att.attach_call hn hdf
  intro w s₀ s₁ mg mb fa o pm cd doc a vs ns G Y ho hd hcd hmg hobj hints hlen hg
  obtain ⟨fd, hb, hF⟩ := F w mg fa _ (hY w _ Y) G.T.g hmg
  exact law_g (hY w _ Y) G.T.g G.T.b G.T.builtins G.T.nolimit hg hobj hints (Nat.le_trans hlen hn2) room hF hb (fun H hO hS => want w H a ns hlen hO hS) fun G e t h => noX w G s₁ e t h
end DG

set_option Elab.async false
set_option linter.all false
set_option maxRecDepth 100000
set_option maxHeartbeats 4000000
/-! repr of data; in, not in -/
namespace DL
open PySem L2 PyProof.Rows
theorem hu70 {k : Nat} {A : Around} (r : Room k A) : A.units + 70 < cLine := by
  have := r.un
  omega
def rRepr (K : PySem.W.Frag) : List V → Hp → VK → Prop := fun xs H Q => ∃ x d, xs = [x] ∧ Dp K H x d ∧ d.showable = true ∧ d.hasDict = false ∧ d.depth ≤ 64 ∧ d.shown.length ≤ sizeLine ∧ Q (.str d.shown) H
theorem callRepr {X : Cx} (g : X.A.guards = some []) (hu : X.A.units + 70 < cLine) : CallR X (.builtin "repr") (rRepr X.K) := by
  intro pins s σ H xs us Q I r h
  obtain ⟨x, d, rfl, dp, sh, nd, dep, len, q⟩ := h
  obtain ⟨u, rfl, r1⟩ := vals1 r
  obtain ⟨as, rd⟩ := Dp.reads I d x u dp r1
  have fin : ∀ {h' : Heap} {tk : Nat} {t : Tok}, (∀ b o, s.heap.get? b = some o → h'.get? b = some o) → EP X pins σ Q (.str d.shown t) { s with heap := h', toks := tk } := fun {h' tk t} k => ⟨.str _, H, I.kept (t' := tk) k, ⟨_, rfl⟩, q⟩
  have same : ∀ {tk : Nat} {t : Tok}, EP X pins σ Q (.str d.shown t) { s with toks := tk } := fun {tk t} => ⟨.str _, H, I.tok tk, ⟨_, rfl⟩, q⟩
  cases rd with
  | none => exact PySem.P.repr_of_none same
  | bool b => exact PySem.P.repr_of_bool same
  | int i t => exact PySem.P.repr_of_int (by simpa [PyData.showable] using sh) same
  | str y t => exact PySem.P.repr_of_str same len
  | list h1 h2 h3 h4 => exact repr_of_reads' (.list h1 h2 h3 h4) sh (PySem.PyData.noDict_hsm nd) g (by omega) (fun _ _ z => z) (fun h' u tk k => fin k) len
  | tuple h1 h2 h3 h4 => exact repr_of_reads' (.tuple h1 h2 h3 h4) sh (PySem.PyData.noDict_hsm nd) g (by omega) (fun _ _ z => z) (fun h' u tk k => fin k) len
  | dict _ _ _ _ _ => simp [PyData.hasDict] at nd
end DL
namespace DL
open PySem L2 PyProof.Rows
/-- what may be shown -/
def shC (d : Dv) : Prop := (py d).showable = true ∧ (py d).canLay0 = true ∧ (py d).depth ≤ 64 ∧ (py d).shown.length ≤ szL
noncomputable instance (d : Dv) : Decidable (shC d) := Classical.propDecidable _
noncomputable def gRepr (env : DEnv) (x : RV) : Option RV := (look env x).bind fun d => if shC d then some (.d (.str (py d).shown)) else none
theorem rc_repr {K : PySem.W.Frag} : RC (rRepr K) (g1 gRepr) := rc_1 fun C env σ H Q x v z h R r k => by
  unfold gRepr at h
  obtain ⟨d, h1, h⟩ := Option.bind_eq_some_iff.mp h
  split at h
  · rename_i c
    cases h
    exact ⟨v, py d, rfl, dp_of d v c.2.1 (look_ok R r h1), c.1, PyData.hasDict_of_canLay _ c.2.1, c.2.2.1, szL_le c.2.2.2, fin_str R k⟩
  · cases h
/-! ### x in xs, x not in xs -/
def flD : Dv → Bool
  | .non => true
  | .bl _ => true
  | .int _ => true
  | .str _ => true
  | _ => false
theorem fl_ok {M : Addr → Prop} {H : Hp} {d : Dv} {v : V} (h : flD d = true) (hd : Dat M H d v) : flatV v = true ∧ ∀ e w, flD e = true → Dat M H e w → eqV v w = PyData.eqv (py d) (py e) := by
  cases d <;> simp only [flD, Bool.false_eq_true] at h <;> unfold Dat at hd <;> subst hd <;> refine ⟨rfl, fun e w he hw => ?_⟩ <;>
    (cases e <;> simp only [flD, Bool.false_eq_true] at he <;> unfold Dat at hw <;> subst hw <;> simp only [eqV, py, PyData.eqv])
def inD (d : Dv) (xs : List Dv) : Bool := xs.any fun e => PyData.eqv (py e) (py d)
theorem fls_ok {M : Addr → Prop} {H : Hp} {d : Dv} {v : V} (h : flD d = true) (hd : Dat M H d v) : ∀ {xs : List Dv} {vs : List V}, xs.all flD = true → Dats M H xs vs → vs.all flatV = true ∧ inV v vs = inD d xs
  | [], vs, _, hs => by
    unfold Dats at hs
    subst hs
    exact ⟨rfl, rfl⟩
  | x :: xs, vs, hx, hs => by
    unfold Dats at hs
    obtain ⟨w, r, rfl, h1, h2⟩ := hs
    rw [List.all_cons, Bool.and_eq_true] at hx
    obtain ⟨a, b⟩ := fls_ok h hd hx.2 h2
    obtain ⟨c, e⟩ := fl_ok hx.1 h1
    refine ⟨by rw [List.all_cons, c, a]; rfl, ?_⟩
    unfold inV inD at b ⊢
    rw [List.any_cons, List.any_cons, b, e _ _ h hd]
def gIn (neg : Bool) (env : DEnv) (x y : RV) : Option RV := (look env x).bind fun d => (asSeq env y).bind fun xs => if flD d = true ∧ xs.all flD = true then some (.d (.bl (if neg = true then !inD d xs else inD d xs))) else none
theorem dat_false {M : Addr → Prop} {H : Hp} {d : Dv} {v : V} (h : Dat M H d v) : Dat (fun _ => False) H d v := h.to (fun _ _ _ q => q) fun _ z => z.elim
theorem dats_false {M : Addr → Prop} {H : Hp} {d : List Dv} {v : List V} (h : Dats M H d v) : Dats (fun _ => False) H d v := Dats.to (fun _ _ _ q => q) (fun _ z => z.elim) _ _ h
theorem rb_in {K : PySem.W.Frag} {neg : Bool} : RB (rIn K neg) (gIn neg) := fun C env σ H Q x y vx vy z h R rx ry k => by
  unfold gIn at h
  obtain ⟨d, h1, h⟩ := Option.bind_eq_some_iff.mp h
  obtain ⟨xs, h2, h⟩ := Option.bind_eq_some_iff.mp h
  split at h
  · rename_i c
    cases h
    obtain ⟨a, vs, rfl, hs, hd⟩ := asSeq_ok (K := K) R ry h2
    have dx := look_ok R rx h1
    obtain ⟨c1, c2⟩ := fls_ok c.1 dx c.2 (dats_false hd)
    refine ⟨a, vs, rfl, hs, (fl_ok c.1 dx).1, c1, ?_⟩
    rw [c2]
    exact fin_bl R k
  · cases h
/-- in, not in a tuple of the module -/
def fInK (neg : Bool) (xs : List Dv) (fa : EF) : EF := fun env => (fa env).bind fun p => (look p.2 p.1).bind fun d => if flD d = true ∧ xs.all flD = true then some (.d (.bl (if neg = true then !inD d xs else inD d xs)), p.2) else none
theorem re_inK {K : PySem.W.Frag} {neg : Bool} {a : Addr} {xs : List Dv} {vs : List V} {ta : TE} {fa : EF} (hS : ∀ H, SqT K H a vs) (hv : ∀ H, Dats (fun _ => False) H xs vs) (ha : RE ta fa) : RE (tOp (rIn K neg) ta (tC (.ref a))) (fInK neg xs fa) := fun C env σ H Q rv env' h R k => by
  unfold fInK at h
  obtain ⟨⟨x, e1⟩, h1, h⟩ := Option.bind_eq_some_iff.mp h
  obtain ⟨d, h2, h⟩ := Option.bind_eq_some_iff.mp h
  split at h
  · rename_i c
    cases h
    refine ha C env σ H _ x e1 h1 R fun vx H1 R1 s1 g1 r1 => ?_
    have dx := look_ok R1 r1 h2
    obtain ⟨c1, c2⟩ := fls_ok c.1 dx c.2 (hv H1)
    refine ⟨a, vs, rfl, .inr (hS H1), (fl_ok c.1 dx).1, c1, ?_⟩
    rw [c2]
    exact k _ H1 R1 s1 g1 (show Dat (MM C e1 σ) H1 (.bl _) _ by unfold Dat; rfl)
  · cases h
end DL

set_option Elab.async false
set_option linter.all false
set_option maxRecDepth 100000
set_option maxHeartbeats 4000000
namespace Law
open PySem L2 DL

def topS (i : Nat) : Stmt := PySem.Challenge.pw_countscribe_k76_marks_moved.main.body.getD i (.Pass ⟨0, 0, 0, 0⟩)
abbrev s_law_hash : Stmt := topS 27
abbrev s_law_random : Stmt := topS 28
abbrev s_law_form : Stmt := topS 31
abbrev s_law_added : Stmt := topS 34
abbrev s_law_part : Stmt := topS 38
abbrev s_law_spot : Stmt := topS 39
abbrev s_law_point : Stmt := topS 33
abbrev s_law_spots : Stmt := topS 37
abbrev s_is_whole : Stmt := topS 8
abbrev s_is_between : Stmt := topS 9
abbrev s_check_number : Stmt := topS 12
abbrev s_check_many : Stmt := topS 13
abbrev s_are_counts : Stmt := topS 10
abbrev s_is_form_for : Stmt := topS 11
abbrev s_check_form : Stmt := topS 14
abbrev s_check_side : Stmt := topS 22
abbrev s_form_below : Stmt := topS 18
abbrev s_check_in_order : Stmt := topS 23
abbrev s_form_sum : Stmt := topS 16
abbrev s_form_times : Stmt := topS 17
abbrev s_form_less : Stmt := topS 21
abbrev s_moved_place : Stmt := topS 24
abbrev s_mark_moved : Stmt := topS 25
abbrev s_law_below : Stmt := topS 36
abbrev s_law_less : Stmt := topS 35
abbrev s_law_due : Stmt := topS 40
abbrev s_law_value : Stmt := topS 32
abbrev s_law_at_point : Stmt := topS 41
abbrev s_law_right : Stmt := topS 42
abbrev s_law_cell : Stmt := topS 29
abbrev s_law_generator : Stmt := topS 30
abbrev s_law : Stmt := topS 43
structure Txt (K : PySem.W.Frag) (mg : Str → Option Value) where
  a_law_hash : Addr
  d_law_hash : FuncData
  F_law_hash : Fun K "_law_hash" "_law_hash" s_law_hash a_law_hash d_law_hash
  b_law_hash : Binds K d_law_hash ["_law_seed", "_law_index"] []
  m_law_hash : mg "_law_hash" = some (.ref a_law_hash)
  a_law_random : Addr
  d_law_random : FuncData
  F_law_random : Fun K "_law_random" "_law_random" s_law_random a_law_random d_law_random
  b_law_random : Binds K d_law_random ["_law_generator_here", "_law_bound"] []
  m_law_random : mg "_law_random" = some (.ref a_law_random)
  a_law_form : Addr
  d_law_form : FuncData
  F_law_form : Fun K "_law_form" "_law_form" s_law_form a_law_form d_law_form
  b_law_form : Binds K d_law_form ["_law_generator_here", "_law_many", "_law_most"] []
  m_law_form : mg "_law_form" = some (.ref a_law_form)
  a_law_added : Addr
  d_law_added : FuncData
  F_law_added : Fun K "_law_added" "_law_added" s_law_added a_law_added d_law_added
  b_law_added : Binds K d_law_added ["_law_one", "_law_other"] []
  m_law_added : mg "_law_added" = some (.ref a_law_added)
  a_law_part : Addr
  d_law_part : FuncData
  F_law_part : Fun K "_law_part" "_law_part" s_law_part a_law_part d_law_part
  b_law_part : Binds K d_law_part ["_law_generator_here", "_law_form_here"] []
  m_law_part : mg "_law_part" = some (.ref a_law_part)
  a_law_spot : Addr
  d_law_spot : FuncData
  F_law_spot : Fun K "_law_spot" "_law_spot" s_law_spot a_law_spot d_law_spot
  b_law_spot : Binds K d_law_spot ["_law_generator_here", "_law_many", "_law_most", "_law_start", "_law_stretch"] []
  m_law_spot : mg "_law_spot" = some (.ref a_law_spot)
  a_law_point : Addr
  d_law_point : FuncData
  F_law_point : Fun K "_law_point" "_law_point" s_law_point a_law_point d_law_point
  b_law_point : Binds K d_law_point ["_law_generator_here", "_law_many", "_law_most"] []
  m_law_point : mg "_law_point" = some (.ref a_law_point)
  a_law_spots : Addr
  d_law_spots : FuncData
  F_law_spots : Fun K "_law_spots" "_law_spots" s_law_spots a_law_spots d_law_spots
  b_law_spots : Binds K d_law_spots ["_law_generator_here", "_law_many"] []
  m_law_spots : mg "_law_spots" = some (.ref a_law_spots)
  a_is_whole : Addr
  d_is_whole : FuncData
  F_is_whole : Fun K "is_whole" "is_whole" s_is_whole a_is_whole d_is_whole
  b_is_whole : Binds K d_is_whole ["value"] []
  m_is_whole : mg "is_whole" = some (.ref a_is_whole)
  a_is_between : Addr
  d_is_between : FuncData
  F_is_between : Fun K "is_between" "is_between" s_is_between a_is_between d_is_between
  b_is_between : Binds K d_is_between ["value", "low", "high"] []
  m_is_between : mg "is_between" = some (.ref a_is_between)
  a_check_number : Addr
  d_check_number : FuncData
  F_check_number : Fun K "check_number" "check_number" s_check_number a_check_number d_check_number
  b_check_number : Binds K d_check_number ["number", "low", "high"] []
  m_check_number : mg "check_number" = some (.ref a_check_number)
  a_check_many : Addr
  d_check_many : FuncData
  F_check_many : Fun K "check_many" "check_many" s_check_many a_check_many d_check_many
  b_check_many : Binds K d_check_many ["many"] []
  m_check_many : mg "check_many" = some (.ref a_check_many)
  a_are_counts : Addr
  d_are_counts : FuncData
  F_are_counts : Fun K "are_counts" "are_counts" s_are_counts a_are_counts d_are_counts
  b_are_counts : Binds K d_are_counts ["items"] []
  m_are_counts : mg "are_counts" = some (.ref a_are_counts)
  a_is_form_for : Addr
  d_is_form_for : FuncData
  F_is_form_for : Fun K "is_form_for" "is_form_for" s_is_form_for a_is_form_for d_is_form_for
  b_is_form_for : Binds K d_is_form_for ["many", "value"] []
  m_is_form_for : mg "is_form_for" = some (.ref a_is_form_for)
  a_check_form : Addr
  d_check_form : FuncData
  F_check_form : Fun K "check_form" "check_form" s_check_form a_check_form d_check_form
  b_check_form : Binds K d_check_form ["many", "form"] []
  m_check_form : mg "check_form" = some (.ref a_check_form)
  a_check_side : Addr
  d_check_side : FuncData
  F_check_side : Fun K "check_side" "check_side" s_check_side a_check_side d_check_side
  b_check_side : Binds K d_check_side ["side"] []
  m_check_side : mg "check_side" = some (.ref a_check_side)
  a_form_below : Addr
  d_form_below : FuncData
  F_form_below : Fun K "form_below" "form_below" s_form_below a_form_below d_form_below
  b_form_below : Binds K d_form_below ["one", "other"] []
  m_form_below : mg "form_below" = some (.ref a_form_below)
  a_check_in_order : Addr
  d_check_in_order : FuncData
  F_check_in_order : Fun K "check_in_order" "check_in_order" s_check_in_order a_check_in_order d_check_in_order
  b_check_in_order : Binds K d_check_in_order ["start", "end"] []
  m_check_in_order : mg "check_in_order" = some (.ref a_check_in_order)
  a_form_sum : Addr
  d_form_sum : FuncData
  F_form_sum : Fun K "form_sum" "form_sum" s_form_sum a_form_sum d_form_sum
  b_form_sum : Binds K d_form_sum ["one", "other"] []
  m_form_sum : mg "form_sum" = some (.ref a_form_sum)
  a_form_times : Addr
  d_form_times : FuncData
  F_form_times : Fun K "form_times" "form_times" s_form_times a_form_times d_form_times
  b_form_times : Binds K d_form_times ["number", "form"] []
  m_form_times : mg "form_times" = some (.ref a_form_times)
  a_form_less : Addr
  d_form_less : FuncData
  F_form_less : Fun K "form_less" "form_less" s_form_less a_form_less d_form_less
  b_form_less : Binds K d_form_less ["one", "other"] []
  m_form_less : mg "form_less" = some (.ref a_form_less)
  a_moved_place : Addr
  d_moved_place : FuncData
  F_moved_place : Fun K "moved_place" "moved_place" s_moved_place a_moved_place d_moved_place
  b_moved_place : Binds K d_moved_place ["place", "side", "start", "end", "length"] []
  m_moved_place : mg "moved_place" = some (.ref a_moved_place)
  a_mark_moved : Addr
  d_mark_moved : FuncData
  F_mark_moved : Fun K "mark_moved" "mark_moved" s_mark_moved a_mark_moved d_mark_moved
  b_mark_moved : Binds K d_mark_moved ["many", "place", "side", "start", "end", "length"] []
  m_mark_moved : mg "mark_moved" = some (.ref a_mark_moved)
  a_law_below : Addr
  d_law_below : FuncData
  F_law_below : Fun K "_law_below" "_law_below" s_law_below a_law_below d_law_below
  b_law_below : Binds K d_law_below ["_law_one", "_law_other"] []
  m_law_below : mg "_law_below" = some (.ref a_law_below)
  a_law_less : Addr
  d_law_less : FuncData
  F_law_less : Fun K "_law_less" "_law_less" s_law_less a_law_less d_law_less
  b_law_less : Binds K d_law_less ["_law_one", "_law_other"] []
  m_law_less : mg "_law_less" = some (.ref a_law_less)
  a_law_due : Addr
  d_law_due : FuncData
  F_law_due : Fun K "_law_due" "_law_due" s_law_due a_law_due d_law_due
  b_law_due : Binds K d_law_due ["_law_place", "_law_side", "_law_start", "_law_end", "_law_length"] []
  m_law_due : mg "_law_due" = some (.ref a_law_due)
  a_law_value : Addr
  d_law_value : FuncData
  F_law_value : Fun K "_law_value" "_law_value" s_law_value a_law_value d_law_value
  b_law_value : Binds K d_law_value ["_law_form_here", "_law_point_here"] []
  m_law_value : mg "_law_value" = some (.ref a_law_value)
  a_law_at_point : Addr
  d_law_at_point : FuncData
  F_law_at_point : Fun K "_law_at_point" "_law_at_point" s_law_at_point a_law_at_point d_law_at_point
  b_law_at_point : Binds K d_law_at_point ["_law_found", "_law_place", "_law_side", "_law_start", "_law_end", "_law_length", "_law_point_here"] []
  m_law_at_point : mg "_law_at_point" = some (.ref a_law_at_point)
  a_law_right : Addr
  d_law_right : FuncData
  F_law_right : Fun K "_law_right" "_law_right" s_law_right a_law_right d_law_right
  b_law_right : Binds K d_law_right ["_law_generator_here"] []
  m_law_right : mg "_law_right" = some (.ref a_law_right)
  a_law_cell : Addr
  d_law_cell : FuncData
  F_law_cell : Fun K "_law_cell" "_law_cell" s_law_cell a_law_cell d_law_cell
  b_law_cell : Binds K d_law_cell ["_law_script", "_law_index"] []
  m_law_cell : mg "_law_cell" = some (.ref a_law_cell)
  a_law_generator : Addr
  d_law_generator : FuncData
  F_law_generator : Fun K "_law_generator" "_law_generator" s_law_generator a_law_generator d_law_generator
  b_law_generator : Binds K d_law_generator ["_law_script", "_law_index"] []
  m_law_generator : mg "_law_generator" = some (.ref a_law_generator)
  a_law : Addr
  d_law : FuncData
  F_law : Fun K "law" "law" s_law a_law d_law
  b_law : Binds K d_law ["_law_script"] []
  m_law : mg "law" = some (.ref a_law)
  t_MOST_UNKNOWNS : Tok
  m_MOST_UNKNOWNS : mg "MOST_UNKNOWNS" = some (.int 3 t_MOST_UNKNOWNS)
  c_SIDES : Addr
  m_SIDES : mg "SIDES" = some (.ref c_SIDES)
  s_SIDES : ∀ H : Hp, SqT K H c_SIDES [V.str "left", V.str "right"]
  n_bool : mg "bool" = none
  n_int : mg "int" = none
  n_isinstance : mg "isinstance" = none
  n_len : mg "len" = none
  n_max : mg "max" = none
  n_range : mg "range" = none
  n_repr : mg "repr" = none
  n_str : mg "str" = none
  n_sum : mg "sum" = none
  n_tuple : mg "tuple" = none
  n_zip : mg "zip" = none
section
variable {P : Program} {w : World} {K : PySem.W.Frag} {mg : Str → Option Value} {base : Heap}
theorem sc_law_hash : FnScope ["_law_seed", "_law_index", "_law_mixed"] ["_law_seed", "_law_index"] (defScope s_law_hash) := ⟨rfl, rfl, rfl, by decide +kernel, rfl, by decide +kernel, by decide +kernel⟩
noncomputable def g_law_hash : SF := (sSeq (sAsg (fOp gMod (fCB (g1 gInt1) (fCons (fOp gAdd (fOp gAdd (fOp gAdd (fOp gMul (fVar 0) (fC (.int (1140671 : Int)))) (fOp gMul (fOp gMul (fC (.int (27644437 : Int))) (fVar 1)) (fVar 1))) (fOp gMul (fC (.int (131 : Int))) (fVar 1))) (fC (.int (19 : Int)))) fNil)) (fC (.int (2147483629 : Int)))) (fName 2))
    (sSeq (sAsg (fOp gMod (fCB (g1 gInt1) (fCons (fOp gAdd (fOp gAdd (fOp gMul (fVar 2) (fVar 2)) (fOp gMul (fC (.int (62089 : Int))) (fVar 1))) (fC (.int (32416187 : Int)))) fNil)) (fC (.int (2147483587 : Int)))) (fName 2))
    (sRet (fOp gMod (fCB (g1 gInt1) (fCons (fOp gMul (fVar 2) (fC (.int (48271 : Int)))) fNil)) (fC (.int (2147483647 : Int)))))))
noncomputable def F_law_hash : FnF := runDef 3 (g_law_hash)
theorem ok_law_hash (T : Txt K mg) : DG.FnG P w K mg base CX0 1 T.a_law_hash T.d_law_hash ["_law_seed", "_law_index"] (spD 2 F_law_hash) :=
  DG.body0_g (k := 0) T.F_law_hash sc_law_hash (fun _ _ _ _ h => spD_len h) fun cdv A outer s H vs Q E gg hr h => ⟨_, (pss_cons (ps_set (i := 2) sc_law_hash.nd rfl (Or.inl rfl) (pe_op op_modN (pe_callTy callInt1 (by rfl) T.n_int (by decide +kernel) (pa_cons (pe_op opAdd (pe_op opAdd (pe_op opAdd (pe_op opMul (pv 0) pe_int) (pe_op opMul (pe_op opMul pe_int (pv 1)) (pv 1))) (pe_op opMul pe_int (pv 1))) pe_int) pa_nil)) pe_int))
    (pss_cons (ps_set (i := 2) sc_law_hash.nd rfl (Or.inl rfl) (pe_op op_modN (pe_callTy callInt1 (by rfl) T.n_int (by decide +kernel) (pa_cons (pe_op opAdd (pe_op opAdd (pe_op opMul (pv 2) (pv 2)) (pe_op opMul pe_int (pv 1))) pe_int) pa_nil)) pe_int))
    (pss_one (ps_ret (pe_op op_modN (pe_callTy callInt1 (by rfl) T.n_int (by decide +kernel) (pa_cons (pe_op opMul (pv 2) pe_int) pa_nil)) pe_int))))),
    body_ok (N := ["_law_seed", "_law_index", "_law_mixed"]) (ps := ["_law_seed", "_law_index"]) (by decide) (show RS _ (g_law_hash) from (rs_seq (rs_asg (re_op rb_mod (re_cb rc_int (ra_cons (re_op rb_add (re_op rb_add (re_op rb_add (re_op rb_mul re_var re_int) (re_op rb_mul (re_op rb_mul re_int re_var) re_var)) (re_op rb_mul re_int re_var)) re_int) ra_nil)) re_int) (rg_name (i := 2)))
    (rs_seq (rs_asg (re_op rb_mod (re_cb rc_int (ra_cons (re_op rb_add (re_op rb_add (re_op rb_mul re_var re_var) (re_op rb_mul re_int re_var)) re_int) ra_nil)) re_int) (rg_name (i := 2)))
    (rs_ret (re_op rb_mod (re_cb rc_int (ra_cons (re_op rb_mul re_var re_int) ra_nil)) re_int))))) h⟩
theorem sc_law_random : FnScope ["_law_generator_here", "_law_bound", "_law_drawn", "_law_turn"] ["_law_generator_here", "_law_bound"] (defScope s_law_random) := ⟨rfl, rfl, rfl, by decide +kernel, rfl, by decide +kernel, by decide +kernel⟩
noncomputable def g_law_random : SF := (sSeq (sIf (fTest (fOp gGt (fOp gIx (fVar 0) (fC (.int (0 : Int)))) (fC (.int (0 : Int))))) (sSeq (sAsg (fOp gMod (fCB (g1 gInt1) (fCons (fOp gIx (fVar 0) (fC (.int (0 : Int)))) fNil)) (fVar 1)) (fName 2))
    (sSeq (sSetI 0 (fOp gFdiv (fOp gIx (fVar 0) (fC (.int (0 : Int)))) (fVar 1)) (fC (.int (0 : Int))))
    (sRet (fVar 2)))) sNext)
    (sSeq (sAsg (fC (.int (0 : Int))) (fName 2))
    (sSeq (sFor (fRng1 (fCons (fOp gAdd (fC (.int (1 : Int))) (fOp gFdiv (fBits (fVar 1)) (fC (.int (30 : Int))))) fNil)) (fName 3) (sSeq (sSetI 0 (fOp gAdd (fOp gIx (fVar 0) (fC (.int (2 : Int)))) (fC (.int (1 : Int)))) (fC (.int (2 : Int))))
    (sAsg (fOp gAdd (fOp gMul (fVar 2) (fC (.int (2147483587 : Int)))) (fCall 2 none F_law_hash (fCons (fOp gIx (fVar 0) (fC (.int (1 : Int)))) (fCons (fOp gIx (fVar 0) (fC (.int (2 : Int)))) fNil)))) (fName 2))))
    (sRet (fOp gMod (fCB (g1 gInt1) (fCons (fVar 2) fNil)) (fVar 1))))))
noncomputable def F_law_random : FnF := runDef 4 (g_law_random)
theorem ok_law_random (T : Txt K mg) : DG.FnG P w K mg base CX0 2 T.a_law_random T.d_law_random ["_law_generator_here", "_law_bound"] (spD 2 F_law_random) :=
  DG.body0_g (k := 1) T.F_law_random sc_law_random (fun _ _ _ _ h => spD_len h) fun cdv A outer s H vs Q E gg hr h => ⟨_, (pss_cons (ps_if (pt_cmpR opGt (pe_ix ix_seq (pv 0) pe_int (fun _ _ => rfl)) pe_int (nomark _)) (pss_cons (ps_set (i := 2) sc_law_random.nd rfl (Or.inl rfl) (pe_op op_modN (pe_callTy callInt1 (by rfl) T.n_int (by decide +kernel) (pa_cons (pe_ix ix_seq (pv 0) pe_int (fun _ _ => rfl)) pa_nil)) (pv 1)))
    (pss_cons (ps_asg (pe_op op_fdivX (pe_ix ix_seq (pv 0) pe_int (fun _ _ => rfl)) (pv 1)) (pg_sub (pv 0) pe_int set_list))
    (pss_one (ps_ret (pv 2))))) pss_nil)
    (pss_cons (ps_set (i := 2) sc_law_random.nd rfl (Or.inl rfl) pe_int)
    (pss_cons (ps_for PassesOwn.never rfl (pi_range1 (by rfl) T.n_range (pa_cons (pe_op opAdd pe_int (pe_op op_fdivX (pe_bits (pv 1)) pe_int)) pa_nil)) (pg_name (i := 3) sc_law_random.nd rfl (Or.inl rfl)) (pss_cons (ps_asg (pe_op opAdd (pe_ix ix_seq (pv 0) pe_int (fun _ _ => rfl)) pe_int) (pg_sub (pv 0) pe_int set_list))
    (pss_one (ps_set (i := 2) sc_law_random.nd rfl (Or.inl rfl) (pe_op opAdd (pe_op opMul (pv 2) pe_int) (DG.call_g (ok_law_hash (P := P) (w := w) (base := base) T) (DG.guards_deeper.trans gg) (hr.mono (j := 1) (by decide)) rfl T.m_law_hash T.F_law_hash.kp T.b_law_hash .nil pass0 (pa_cons (pe_ix ix_seq (pv 0) pe_int (fun _ _ => rfl)) (pa_cons (pe_ix ix_seq (pv 0) pe_int (fun _ _ => rfl)) pa_nil))))))))
    (pss_one (ps_ret (pe_op op_modN (pe_callTy callInt1 (by rfl) T.n_int (by decide +kernel) (pa_cons (pv 2) pa_nil)) (pv 1))))))),
    body_ok (N := ["_law_generator_here", "_law_bound", "_law_drawn", "_law_turn"]) (ps := ["_law_generator_here", "_law_bound"]) (by decide) (show RS _ (g_law_random) from (rs_seq (rs_if (rt_test (re_op rb_gt (re_op rb_ix re_var re_int) re_int)) (rs_seq (rs_asg (re_op rb_mod (re_cb rc_int (ra_cons (re_op rb_ix re_var re_int) ra_nil)) re_var) (rg_name (i := 2)))
    (rs_seq (rs_setI (re_op rb_fdiv (re_op rb_ix re_var re_int) re_var) re_int)
    (rs_ret re_var))) rs_next)
    (rs_seq (rs_asg re_int (rg_name (i := 2)))
    (rs_seq (rs_for (ri_rng1 (ra_cons (re_op rb_add re_int (re_op rb_fdiv (re_bits re_var) re_int)) ra_nil)) (rg_name (i := 3)) (rs_seq (rs_setI (re_op rb_add (re_op rb_ix re_var re_int) re_int) re_int)
    (rs_asg (re_op rb_add (re_op rb_mul re_var re_int) (re_call (ra_cons (re_op rb_ix re_var re_int) (ra_cons (re_op rb_ix re_var re_int) ra_nil)))) (rg_name (i := 2)))))
    (rs_ret (re_op rb_mod (re_cb rc_int (ra_cons re_var ra_nil)) re_var)))))) h⟩
theorem sc_law_form : FnScope ["_law_generator_here", "_law_many", "_law_most", "_law_turn"] ["_law_generator_here", "_law_many", "_law_most"] (defScope s_law_form) := ⟨rfl, rfl, rfl, by decide +kernel, rfl, by decide +kernel, by decide +kernel⟩
noncomputable def g_law_form : SF := (sRet (fCB (g1 gTupOf) (fCons (fOfL (fLc (fRng1 (fCons (fOp gAdd (fVar 1) (fC (.int (1 : Int)))) fNil)) (fName 3) tYesF (fCall 2 (some 0) F_law_random (fCons (fVar 0) (fCons (fOp gAdd (fVar 2) (fC (.int (1 : Int)))) fNil))) [3])) fNil)))
noncomputable def F_law_form : FnF := runDef 4 (g_law_form)
theorem ok_law_form (T : Txt K mg) : DG.FnG P w K mg base CX0 3 T.a_law_form T.d_law_form ["_law_generator_here", "_law_many", "_law_most"] (spD 3 F_law_form) :=
  DG.body0_g (k := 2) T.F_law_form sc_law_form (fun _ _ _ _ h => spD_len h) fun cdv A outer s H vs Q E gg hr h => ⟨_, (pss_one (ps_ret (pe_callTy callTupOf (by rfl) T.n_tuple (by decide +kernel) (pa_cons (pe_lc (own := [("_law_turn", 3)]) (g := (gName 3)) rfl sc_law_form.nd (pi_range1 (by rfl) T.n_range (pa_cons (pe_op opAdd (pv 1) pe_int) pa_nil)) (blkOk_by (N := ["_law_generator_here", "_law_many", "_law_most", "_law_turn"]) (sc := (defScope s_law_form)) (by decide +kernel)) (fun _ _ _ _ _ => (pg_name (i := 3) sc_law_form.nd rfl (by first | exact Or.inl rfl | exact Or.inr rfl))) (fun _ _ _ _ _ => pts_nil) (fun _ _ _ _ _ => (DG.call_g (ok_law_random (P := P) (w := w) (base := base) T) (DG.guards_deeper.trans gg) (hr.mono (j := 2) (by decide)) rfl T.m_law_random T.F_law_random.kp T.b_law_random .nil pass0 (pa_cons (pv 0) (pa_cons (pe_op opAdd (pv 2) pe_int) pa_nil))))) pa_nil)))),
    body_ok (N := ["_law_generator_here", "_law_many", "_law_most", "_law_turn"]) (ps := ["_law_generator_here", "_law_many", "_law_most"]) (by decide) (show RS _ (g_law_form) from (rs_ret (re_cb rc_tupOf (ra_cons (re_ofL (rl_lc (ts := [3]) (ri_rng1 (ra_cons (re_op rb_add re_var re_int) ra_nil)) (rg_name (i := 3)) (by decide) rt_yes (re_call (ra_cons re_var (ra_cons (re_op rb_add re_var re_int) ra_nil))))) ra_nil)))) h⟩
theorem sc_law_added : FnScope ["_law_one", "_law_other", "_law_low", "_law_high"] ["_law_one", "_law_other"] (defScope s_law_added) := ⟨rfl, rfl, rfl, by decide +kernel, rfl, by decide +kernel, by decide +kernel⟩
noncomputable def g_law_added : SF := (sRet (fCB (g1 gTupOf) (fCons (fOfL (fLc (fZipN (fCons (fVar 0) (fCons (fVar 1) fNil))) (fGtup 2 (fGcons (fName 2) (fGcons (fName 3) fGnil))) tYesF (fOp gAdd (fVar 2) (fVar 3)) [2, 3])) fNil)))
noncomputable def F_law_added : FnF := runDef 4 (g_law_added)
theorem ok_law_added (T : Txt K mg) : DG.FnG P w K mg base CX0 1 T.a_law_added T.d_law_added ["_law_one", "_law_other"] (spD 2 F_law_added) :=
  DG.body0_g (k := 0) T.F_law_added sc_law_added (fun _ _ _ _ h => spD_len h) fun cdv A outer s H vs Q E gg hr h => ⟨_, (pss_one (ps_ret (pe_callTy callTupOf (by rfl) T.n_tuple (by decide +kernel) (pa_cons (pe_lc (own := [("_law_low", 2), ("_law_high", 3)]) (g := (gTup K 2 (gCons (gName 2) (gCons (gName 3) gNil)))) rfl sc_law_added.nd (pi_zipN (by rfl) T.n_zip (pa_cons (pv 0) (pa_cons (pv 1) pa_nil))) (blkOk_by (N := ["_law_one", "_law_other", "_law_low", "_law_high"]) (sc := (defScope s_law_added)) (by decide +kernel)) (fun _ _ _ _ _ => (pg_tup rfl (pgs_cons (pg_name (i := 2) sc_law_added.nd rfl (by first | exact Or.inl rfl | exact Or.inr rfl)) (pgs_cons (pg_name (i := 3) sc_law_added.nd rfl (by first | exact Or.inl rfl | exact Or.inr rfl)) pgs_nil)))) (fun _ _ _ _ _ => pts_nil) (fun _ _ _ _ _ => (pe_op opAdd (pv 2) (pv 3)))) pa_nil)))),
    body_ok (N := ["_law_one", "_law_other", "_law_low", "_law_high"]) (ps := ["_law_one", "_law_other"]) (by decide) (show RS _ (g_law_added) from (rs_ret (re_cb rc_tupOf (ra_cons (re_ofL (rl_lc (ts := [2, 3]) (ri_zipN (ra_cons re_var (ra_cons re_var ra_nil))) (rg_tup (rgs_cons (rg_name (i := 2)) (rgs_cons (rg_name (i := 3)) rgs_nil))) (by decide) rt_yes (re_op rb_add re_var re_var))) ra_nil)))) h⟩
theorem sc_law_part : FnScope ["_law_generator_here", "_law_form_here", "_law_number"] ["_law_generator_here", "_law_form_here"] (defScope s_law_part) := ⟨rfl, rfl, rfl, by decide +kernel, rfl, by decide +kernel, by decide +kernel⟩
noncomputable def g_law_part : SF := (sRet (fCB (g1 gTupOf) (fCons (fOfL (fLc (fSeqIt (fVar 1)) (fName 2) tYesF (fCall 2 (some 0) F_law_random (fCons (fVar 0) (fCons (fOp gAdd (fVar 2) (fC (.int (1 : Int)))) fNil))) [2])) fNil)))
noncomputable def F_law_part : FnF := runDef 3 (g_law_part)
theorem ok_law_part (T : Txt K mg) : DG.FnG P w K mg base CX0 3 T.a_law_part T.d_law_part ["_law_generator_here", "_law_form_here"] (spD 2 F_law_part) :=
  DG.body0_g (k := 2) T.F_law_part sc_law_part (fun _ _ _ _ h => spD_len h) fun cdv A outer s H vs Q E gg hr h => ⟨_, (pss_one (ps_ret (pe_callTy callTupOf (by rfl) T.n_tuple (by decide +kernel) (pa_cons (pe_lc (own := [("_law_number", 2)]) (g := (gName 2)) rfl sc_law_part.nd (pi_seq (pv 1)) (blkOk_by (N := ["_law_generator_here", "_law_form_here", "_law_number"]) (sc := (defScope s_law_part)) (by decide +kernel)) (fun _ _ _ _ _ => (pg_name (i := 2) sc_law_part.nd rfl (by first | exact Or.inl rfl | exact Or.inr rfl))) (fun _ _ _ _ _ => pts_nil) (fun _ _ _ _ _ => (DG.call_g (ok_law_random (P := P) (w := w) (base := base) T) (DG.guards_deeper.trans gg) (hr.mono (j := 2) (by decide)) rfl T.m_law_random T.F_law_random.kp T.b_law_random .nil pass0 (pa_cons (pv 0) (pa_cons (pe_op opAdd (pv 2) pe_int) pa_nil))))) pa_nil)))),
    body_ok (N := ["_law_generator_here", "_law_form_here", "_law_number"]) (ps := ["_law_generator_here", "_law_form_here"]) (by decide) (show RS _ (g_law_part) from (rs_ret (re_cb rc_tupOf (ra_cons (re_ofL (rl_lc (ts := [2]) (ri_seq re_var) (rg_name (i := 2)) (by decide) rt_yes (re_call (ra_cons re_var (ra_cons (re_op rb_add re_var re_int) ra_nil))))) ra_nil)))) h⟩
theorem sc_law_spot : FnScope ["_law_generator_here", "_law_many", "_law_most", "_law_start", "_law_stretch", "_law_way", "_law_end", "_law_edge", "_law_at", "_law_index"] ["_law_generator_here", "_law_many", "_law_most", "_law_start", "_law_stretch"] (defScope s_law_spot) := ⟨rfl, rfl, rfl, by decide +kernel, rfl, by decide +kernel, by decide +kernel⟩
noncomputable def g_law_spot : SF := (sSeq (sPar 5 6 (fCall 2 (some 0) F_law_random (fCons (fVar 0) (fCons (fC (.int (8 : Int))) fNil))) (fCall 2 none F_law_added (fCons (fVar 3) (fCons (fVar 4) fNil))))
    (sSeq (sIf (fTest (fOp gEq (fVar 5) (fC (.int (0 : Int))))) (sRet (fVar 3)) sNext)
    (sSeq (sIf (fTest (fOp gEq (fVar 5) (fC (.int (1 : Int))))) (sRet (fVar 6)) sNext)
    (sSeq (sIf (fTest (fOp gEq (fVar 5) (fC (.int (2 : Int))))) (sRet (fCall 2 (some 0) F_law_part (fCons (fVar 0) (fCons (fVar 3) fNil)))) sNext)
    (sSeq (sIf (fTest (fOp gEq (fVar 5) (fC (.int (3 : Int))))) (sRet (fCall 2 none F_law_added (fCons (fVar 6) (fCons (fCall 3 (some 0) F_law_form (fCons (fVar 0) (fCons (fVar 1) (fCons (fVar 2) fNil)))) fNil)))) sNext)
    (sSeq (sIf (fTest (fOp gEq (fVar 5) (fC (.int (4 : Int))))) (sRet (fCall 2 none F_law_added (fCons (fVar 3) (fCons (fCall 2 (some 0) F_law_part (fCons (fVar 0) (fCons (fVar 4) fNil))) fNil)))) sNext)
    (sSeq (sIf (fTest (fOp gEq (fVar 5) (fC (.int (5 : Int))))) (sRet (fCall 3 (some 0) F_law_form (fCons (fVar 0) (fCons (fVar 1) (fCons (fOp gMul (fC (.int (2 : Int))) (fVar 2)) fNil))))) sNext)
    (sSeq (sAsg (fTup' (fCons (fOp gIx (fLst' (fCons (fVar 3) (fCons (fVar 6) fNil))) (fOp gMod (fCB (g1 gInt1) (fCons (fVar 5) fNil)) (fC (.int (2 : Int))))) (fCons (fCall 2 (some 0) F_law_random (fCons (fVar 0) (fCons (fOp gAdd (fVar 1) (fC (.int (1 : Int)))) fNil))) fNil))) (fGtup 2 (fGcons (fName 7) (fGcons (fName 8) fGnil))))
    (sRet (fCB (g1 gTupOf) (fCons (fOfL (fLc (fRng1 (fCons (fOp gAdd (fVar 1) (fC (.int (1 : Int)))) fNil)) (fName 9) tYesF (fCB (g2 (gI2 maxI)) (fCons (fC (.int (0 : Int))) (fCons (fOp gAdd (fOp gIx (fVar 7) (fVar 9)) (fIf (fTest (fOp gEq (fVar 9) (fVar 8))) (fC (.int (1 : Int))) (fOp gMinus (fC (.int (0 : Int))) (fCall 2 (some 0) F_law_random (fCons (fVar 0) (fCons (fC (.int (2 : Int))) fNil)))))) fNil))) [9])) fNil)))))))))))
noncomputable def F_law_spot : FnF := runDef 10 (g_law_spot)
theorem ok_law_spot (T : Txt K mg) : DG.FnG P w K mg base CX0 4 T.a_law_spot T.d_law_spot ["_law_generator_here", "_law_many", "_law_most", "_law_start", "_law_stretch"] (spD 5 F_law_spot) :=
  DG.body0_g (k := 3) T.F_law_spot sc_law_spot (fun _ _ _ _ h => spD_len h) fun cdv A outer s H vs Q E gg hr h => ⟨_, (pss_cons (ps_par (i := 5) (j := 6) (by rfl) sc_law_spot.nd rfl rfl (by decide) rfl rfl (pa_cons (DG.call_g (ok_law_random (P := P) (w := w) (base := base) T) (DG.guards_deeper.trans gg) (hr.mono (j := 2) (by decide)) rfl T.m_law_random T.F_law_random.kp T.b_law_random .nil pass0 (pa_cons (pv 0) (pa_cons pe_int pa_nil))) (pa_cons (DG.call_g (ok_law_added (P := P) (w := w) (base := base) T) (DG.guards_deeper.trans gg) (hr.mono (j := 1) (by decide)) rfl T.m_law_added T.F_law_added.kp T.b_law_added .nil pass0 (pa_cons (pv 3) (pa_cons (pv 4) pa_nil))) pa_nil)) (by rfl))
    (pss_cons (ps_if (pt_cmpR (opEqU hr.units) (pv 5) pe_int (nomark _)) (pss_one (ps_ret (pv 3))) pss_nil)
    (pss_cons (ps_if (pt_cmpR (opEqU hr.units) (pv 5) pe_int (nomark _)) (pss_one (ps_ret (pv 6))) pss_nil)
    (pss_cons (ps_if (pt_cmpR (opEqU hr.units) (pv 5) pe_int (nomark _)) (pss_one (ps_ret (DG.call_g (ok_law_part (P := P) (w := w) (base := base) T) (DG.guards_deeper.trans gg) (hr.mono (j := 3) (by decide)) rfl T.m_law_part T.F_law_part.kp T.b_law_part .nil pass0 (pa_cons (pv 0) (pa_cons (pv 3) pa_nil))))) pss_nil)
    (pss_cons (ps_if (pt_cmpR (opEqU hr.units) (pv 5) pe_int (nomark _)) (pss_one (ps_ret (DG.call_g (ok_law_added (P := P) (w := w) (base := base) T) (DG.guards_deeper.trans gg) (hr.mono (j := 1) (by decide)) rfl T.m_law_added T.F_law_added.kp T.b_law_added .nil pass0 (pa_cons (pv 6) (pa_cons (DG.call_g (ok_law_form (P := P) (w := w) (base := base) T) (DG.guards_deeper.trans gg) (hr.mono (j := 3) (by decide)) rfl T.m_law_form T.F_law_form.kp T.b_law_form .nil pass0 (pa_cons (pv 0) (pa_cons (pv 1) (pa_cons (pv 2) pa_nil)))) pa_nil))))) pss_nil)
    (pss_cons (ps_if (pt_cmpR (opEqU hr.units) (pv 5) pe_int (nomark _)) (pss_one (ps_ret (DG.call_g (ok_law_added (P := P) (w := w) (base := base) T) (DG.guards_deeper.trans gg) (hr.mono (j := 1) (by decide)) rfl T.m_law_added T.F_law_added.kp T.b_law_added .nil pass0 (pa_cons (pv 3) (pa_cons (DG.call_g (ok_law_part (P := P) (w := w) (base := base) T) (DG.guards_deeper.trans gg) (hr.mono (j := 3) (by decide)) rfl T.m_law_part T.F_law_part.kp T.b_law_part .nil pass0 (pa_cons (pv 0) (pa_cons (pv 4) pa_nil))) pa_nil))))) pss_nil)
    (pss_cons (ps_if (pt_cmpR (opEqU hr.units) (pv 5) pe_int (nomark _)) (pss_one (ps_ret (DG.call_g (ok_law_form (P := P) (w := w) (base := base) T) (DG.guards_deeper.trans gg) (hr.mono (j := 3) (by decide)) rfl T.m_law_form T.F_law_form.kp T.b_law_form .nil pass0 (pa_cons (pv 0) (pa_cons (pv 1) (pa_cons (pe_op opMul pe_int (pv 2)) pa_nil)))))) pss_nil)
    (pss_cons (ps_asg (pe_tup (pa_cons (pe_ix ix_seq (pe_lst (pa_cons (pv 3) (pa_cons (pv 6) pa_nil))) (pe_op op_modN (pe_callTy callInt1 (by rfl) T.n_int (by decide +kernel) (pa_cons (pv 5) pa_nil)) pe_int) (fun _ _ => rfl)) (pa_cons (DG.call_g (ok_law_random (P := P) (w := w) (base := base) T) (DG.guards_deeper.trans gg) (hr.mono (j := 2) (by decide)) rfl T.m_law_random T.F_law_random.kp T.b_law_random .nil pass0 (pa_cons (pv 0) (pa_cons (pe_op opAdd (pv 1) pe_int) pa_nil))) pa_nil))) (pg_tup rfl (pgs_cons (pg_name (i := 7) sc_law_spot.nd rfl (Or.inr rfl)) (pgs_cons (pg_name (i := 8) sc_law_spot.nd rfl (Or.inr rfl)) pgs_nil))))
    (pss_one (ps_ret (pe_callTy callTupOf (by rfl) T.n_tuple (by decide +kernel) (pa_cons (pe_lc (own := [("_law_index", 9)]) (g := (gName 9)) rfl sc_law_spot.nd (pi_range1 (by rfl) T.n_range (pa_cons (pe_op opAdd (pv 1) pe_int) pa_nil)) (blkOk_by (N := ["_law_generator_here", "_law_many", "_law_most", "_law_start", "_law_stretch", "_law_way", "_law_end", "_law_edge", "_law_at", "_law_index"]) (sc := (defScope s_law_spot)) (by decide +kernel)) (fun _ _ _ _ _ => (pg_name (i := 9) sc_law_spot.nd rfl (by first | exact Or.inl rfl | exact Or.inr rfl))) (fun _ _ _ _ _ => pts_nil) (fun _ _ _ _ _ => (pe_callB (callMax2 rfl) (by rfl) T.n_max (by decide +kernel) (pa_cons pe_int (pa_cons (pe_op opAdd (pe_ix ix_seq (pv 7) (pv 9) (fun _ _ => rfl)) (pe_ifExp (pt_cmpR (opEqU hr.units) (pv 9) (pv 8) (nomark _)) pe_int (pe_op op_sub pe_int (DG.call_g (ok_law_random (P := P) (w := w) (base := base) T) (DG.guards_deeper.trans gg) (hr.mono (j := 2) (by decide)) rfl T.m_law_random T.F_law_random.kp T.b_law_random .nil pass0 (pa_cons (pv 0) (pa_cons pe_int pa_nil)))))) pa_nil))))) pa_nil)))))))))))),
    body_ok (N := ["_law_generator_here", "_law_many", "_law_most", "_law_start", "_law_stretch", "_law_way", "_law_end", "_law_edge", "_law_at", "_law_index"]) (ps := ["_law_generator_here", "_law_many", "_law_most", "_law_start", "_law_stretch"]) (by decide) (show RS _ (g_law_spot) from (rs_seq (rs_par (re_call (ra_cons re_var (ra_cons re_int ra_nil))) (re_call (ra_cons re_var (ra_cons re_var ra_nil))))
    (rs_seq (rs_if (rt_test (re_op rb_eq re_var re_int)) (rs_ret re_var) rs_next)
    (rs_seq (rs_if (rt_test (re_op rb_eq re_var re_int)) (rs_ret re_var) rs_next)
    (rs_seq (rs_if (rt_test (re_op rb_eq re_var re_int)) (rs_ret (re_call (ra_cons re_var (ra_cons re_var ra_nil)))) rs_next)
    (rs_seq (rs_if (rt_test (re_op rb_eq re_var re_int)) (rs_ret (re_call (ra_cons re_var (ra_cons (re_call (ra_cons re_var (ra_cons re_var (ra_cons re_var ra_nil)))) ra_nil)))) rs_next)
    (rs_seq (rs_if (rt_test (re_op rb_eq re_var re_int)) (rs_ret (re_call (ra_cons re_var (ra_cons (re_call (ra_cons re_var (ra_cons re_var ra_nil))) ra_nil)))) rs_next)
    (rs_seq (rs_if (rt_test (re_op rb_eq re_var re_int)) (rs_ret (re_call (ra_cons re_var (ra_cons re_var (ra_cons (re_op rb_mul re_int re_var) ra_nil))))) rs_next)
    (rs_seq (rs_asg (re_tup (ra_cons (re_op rb_ix (re_lst (ra_cons re_var (ra_cons re_var ra_nil))) (re_op rb_mod (re_cb rc_int (ra_cons re_var ra_nil)) re_int)) (ra_cons (re_call (ra_cons re_var (ra_cons (re_op rb_add re_var re_int) ra_nil))) ra_nil))) (rg_tup (rgs_cons (rg_name (i := 7)) (rgs_cons (rg_name (i := 8)) rgs_nil))))
    (rs_ret (re_cb rc_tupOf (ra_cons (re_ofL (rl_lc (ts := [9]) (ri_rng1 (ra_cons (re_op rb_add re_var re_int) ra_nil)) (rg_name (i := 9)) (by decide) rt_yes (re_cb rc_i2 (ra_cons re_int (ra_cons (re_op rb_add (re_op rb_ix re_var re_var) (re_if (rt_test (re_op rb_eq re_var re_var)) re_int (re_op rb_sub re_int (re_call (ra_cons re_var (ra_cons re_int ra_nil)))))) ra_nil))))) ra_nil)))))))))))) h⟩
theorem sc_law_point : FnScope ["_law_generator_here", "_law_many", "_law_most", "_law_turn"] ["_law_generator_here", "_law_many", "_law_most"] (defScope s_law_point) := ⟨rfl, rfl, rfl, by decide +kernel, rfl, by decide +kernel, by decide +kernel⟩
noncomputable def g_law_point : SF := (sRet (fOfL (fLc (fRng1 (fCons (fVar 1) fNil)) (fName 3) tYesF (fCall 2 (some 0) F_law_random (fCons (fVar 0) (fCons (fOp gAdd (fVar 2) (fC (.int (1 : Int)))) fNil))) [3])))
noncomputable def F_law_point : FnF := runDef 4 (g_law_point)
theorem ok_law_point (T : Txt K mg) : DG.FnG P w K mg base CX0 3 T.a_law_point T.d_law_point ["_law_generator_here", "_law_many", "_law_most"] (spD 3 F_law_point) :=
  DG.body0_g (k := 2) T.F_law_point sc_law_point (fun _ _ _ _ h => spD_len h) fun cdv A outer s H vs Q E gg hr h => ⟨_, (pss_one (ps_ret (pe_lc (own := [("_law_turn", 3)]) (g := (gName 3)) rfl sc_law_point.nd (pi_range1 (by rfl) T.n_range (pa_cons (pv 1) pa_nil)) (blkOk_by (N := ["_law_generator_here", "_law_many", "_law_most", "_law_turn"]) (sc := (defScope s_law_point)) (by decide +kernel)) (fun _ _ _ _ _ => (pg_name (i := 3) sc_law_point.nd rfl (by first | exact Or.inl rfl | exact Or.inr rfl))) (fun _ _ _ _ _ => pts_nil) (fun _ _ _ _ _ => (DG.call_g (ok_law_random (P := P) (w := w) (base := base) T) (DG.guards_deeper.trans gg) (hr.mono (j := 2) (by decide)) rfl T.m_law_random T.F_law_random.kp T.b_law_random .nil pass0 (pa_cons (pv 0) (pa_cons (pe_op opAdd (pv 2) pe_int) pa_nil))))))),
    body_ok (N := ["_law_generator_here", "_law_many", "_law_most", "_law_turn"]) (ps := ["_law_generator_here", "_law_many", "_law_most"]) (by decide) (show RS _ (g_law_point) from (rs_ret (re_ofL (rl_lc (ts := [3]) (ri_rng1 (ra_cons re_var ra_nil)) (rg_name (i := 3)) (by decide) rt_yes (re_call (ra_cons re_var (ra_cons (re_op rb_add re_var re_int) ra_nil))))))) h⟩
theorem sc_law_spots : FnScope ["_law_generator_here", "_law_many", "_law_turn"] ["_law_generator_here", "_law_many"] (defScope s_law_spots) := ⟨rfl, rfl, rfl, by decide +kernel, rfl, by decide +kernel, by decide +kernel⟩
noncomputable def g_law_spots : SF := (sRet (fOp gAdd (fLst' (fCons (fOp gMul (fLst' (fCons (fC (.int (0 : Int))) fNil)) (fVar 1)) fNil)) (fOfL (fLc (fRng1 (fCons (fC (.int (3 : Int))) fNil)) (fName 2) tYesF (fCall 3 (some 0) F_law_point (fCons (fVar 0) (fCons (fVar 1) (fCons (fC (.int (3 : Int))) fNil)))) [2]))))
noncomputable def F_law_spots : FnF := runDef 3 (g_law_spots)
theorem ok_law_spots (T : Txt K mg) : DG.FnG P w K mg base CX0 4 T.a_law_spots T.d_law_spots ["_law_generator_here", "_law_many"] (spD 2 F_law_spots) :=
  DG.body0_g (k := 3) T.F_law_spots sc_law_spots (fun _ _ _ _ h => spD_len h) fun cdv A outer s H vs Q E gg hr h => ⟨_, (pss_one (ps_ret (pe_op opAdd (pe_lst (pa_cons (pe_op opMul (pe_lst (pa_cons pe_int pa_nil)) (pv 1)) pa_nil)) (pe_lc (own := [("_law_turn", 2)]) (g := (gName 2)) rfl sc_law_spots.nd (pi_range1 (by rfl) T.n_range (pa_cons pe_int pa_nil)) (blkOk_by (N := ["_law_generator_here", "_law_many", "_law_turn"]) (sc := (defScope s_law_spots)) (by decide +kernel)) (fun _ _ _ _ _ => (pg_name (i := 2) sc_law_spots.nd rfl (by first | exact Or.inl rfl | exact Or.inr rfl))) (fun _ _ _ _ _ => pts_nil) (fun _ _ _ _ _ => (DG.call_g (ok_law_point (P := P) (w := w) (base := base) T) (DG.guards_deeper.trans gg) (hr.mono (j := 3) (by decide)) rfl T.m_law_point T.F_law_point.kp T.b_law_point .nil pass0 (pa_cons (pv 0) (pa_cons (pv 1) (pa_cons pe_int pa_nil))))))))),
    body_ok (N := ["_law_generator_here", "_law_many", "_law_turn"]) (ps := ["_law_generator_here", "_law_many"]) (by decide) (show RS _ (g_law_spots) from (rs_ret (re_op rb_add (re_lst (ra_cons (re_op rb_mul (re_lst (ra_cons re_int ra_nil)) re_var) ra_nil)) (re_ofL (rl_lc (ts := [2]) (ri_rng1 (ra_cons re_int ra_nil)) (rg_name (i := 2)) (by decide) rt_yes (re_call (ra_cons re_var (ra_cons re_var (ra_cons re_int ra_nil))))))))) h⟩
theorem sc_is_whole : FnScope ["value"] ["value"] (defScope s_is_whole) := ⟨rfl, rfl, rfl, by decide +kernel, rfl, by decide +kernel, by decide +kernel⟩
noncomputable def g_is_whole : SF := (sRet (fAndV (fIsi .int (fVar 0)) (fNotV (fIsi .bool (fVar 0)))))
noncomputable def F_is_whole : FnF := runDef 1 (g_is_whole)
theorem ok_is_whole (T : Txt K mg) : DG.FnG P w K mg base CX0 1 T.a_is_whole T.d_is_whole ["value"] (spD 1 F_is_whole) :=
  DG.body0_g (k := 0) T.F_is_whole sc_is_whole (fun _ _ _ _ h => spD_len h) fun cdv A outer s H vs Q E gg hr h => ⟨_, (pss_one (ps_ret (pe_and (pe_callB call_isi (by rfl) T.n_isinstance (by decide +kernel) (pa_cons (pv 0) (pa_cons (pe_bltn (v := .ty "int") (by rfl) T.n_int (by decide +kernel) rfl) pa_nil))) (pe_one (pe_not (pe_callB call_isi (by rfl) T.n_isinstance (by decide +kernel) (pa_cons (pv 0) (pa_cons (pe_bltn (v := .ty "bool") (by rfl) T.n_bool (by decide +kernel) rfl) pa_nil)))))))),
    body_ok (N := ["value"]) (ps := ["value"]) (by decide) (show RS _ (g_is_whole) from (rs_ret (re_andV (re_isi .int re_var) (re_notV (re_isi .bool re_var))))) h⟩
theorem sc_is_between : FnScope ["value", "low", "high"] ["value", "low", "high"] (defScope s_is_between) := ⟨rfl, rfl, rfl, by decide +kernel, rfl, by decide +kernel, by decide +kernel⟩
noncomputable def g_is_between : SF := (sRet (fAndV (fCall 1 none F_is_whole (fCons (fVar 0) fNil)) (fAndV (fOp gLe (fVar 1) (fVar 0)) (fOrV (fOp (gIs false) (fVar 2) (fC .non)) (fOp gLe (fVar 0) (fVar 2))))))
noncomputable def F_is_between : FnF := runDef 3 (g_is_between)
theorem ok_is_between (T : Txt K mg) : DG.FnG P w K mg base CX0 2 T.a_is_between T.d_is_between ["value", "low", "high"] (spD 3 F_is_between) :=
  DG.body0_g (k := 1) T.F_is_between sc_is_between (fun _ _ _ _ h => spD_len h) fun cdv A outer s H vs Q E gg hr h => ⟨_, (pss_one (ps_ret (pe_and (DG.call_g (ok_is_whole (P := P) (w := w) (base := base) T) (DG.guards_deeper.trans gg) (hr.mono (j := 1) (by decide)) rfl T.m_is_whole T.F_is_whole.kp T.b_is_whole .nil pass0 (pa_cons (pv 0) pa_nil)) (pe_and (pe_cmpR opLe (pv 1) (pv 0) (nomark _)) (pe_one (pe_or (pe_cmpR opIs (pv 2) pe_non (nomark _)) (pe_one (pe_cmpR opLe (pv 0) (pv 2) (nomark _))))))))),
    body_ok (N := ["value", "low", "high"]) (ps := ["value", "low", "high"]) (by decide) (show RS _ (g_is_between) from (rs_ret (re_andV (re_call (ra_cons re_var ra_nil)) (re_andV (re_op rb_le re_var re_var) (re_orV (re_op rb_is re_var re_non) (re_op rb_le re_var re_var)))))) h⟩
theorem sc_check_number : FnScope ["number", "low", "high"] ["number", "low", "high"] (defScope s_check_number) := ⟨rfl, rfl, rfl, by decide +kernel, rfl, by decide +kernel, by decide +kernel⟩
noncomputable def g_check_number : SF := (sIf (fNot (fTest (fCall 3 none F_is_between (fCons (fVar 0) (fCons (fVar 1) (fCons (fVar 2) fNil)))))) sNever sNext)
noncomputable def F_check_number : FnF := runDef 3 (g_check_number)
theorem ok_check_number (T : Txt K mg) : DG.FnG P w K mg base CX0 3 T.a_check_number T.d_check_number ["number", "low", "high"] (spD 3 F_check_number) :=
  DG.body0_g (k := 2) T.F_check_number sc_check_number (fun _ _ _ _ h => spD_len h) fun cdv A outer s H vs Q E gg hr h => ⟨_, (pss_one (ps_if (pt_not (pt_val (DG.call_g (ok_is_between (P := P) (w := w) (base := base) T) (DG.guards_deeper.trans gg) (hr.mono (j := 2) (by decide)) rfl T.m_is_between T.F_is_between.kp T.b_is_between .nil pass0 (pa_cons (pv 0) (pa_cons (pv 1) (pa_cons (pv 2) pa_nil)))))) (pss_one ps_never) pss_nil)),
    body_ok (N := ["number", "low", "high"]) (ps := ["number", "low", "high"]) (by decide) (show RS _ (g_check_number) from (rs_if (rt_not (rt_B (re_call (ra_cons re_var (ra_cons re_var (ra_cons re_var ra_nil)))))) rs_never rs_next)) h⟩
theorem sc_check_many : FnScope ["many"] ["many"] (defScope s_check_many) := ⟨rfl, rfl, rfl, by decide +kernel, rfl, by decide +kernel, by decide +kernel⟩
noncomputable def g_check_many : SF := (sDrop (fCall 3 none F_check_number (fCons (fVar 0) (fCons (fC (.int (0 : Int))) (fCons (fC (.int (3 : Int))) fNil)))))
noncomputable def F_check_many : FnF := runDef 1 (g_check_many)
theorem ok_check_many (T : Txt K mg) : DG.FnG P w K mg base CX0 4 T.a_check_many T.d_check_many ["many"] (spD 1 F_check_many) :=
  DG.body0_g (k := 3) T.F_check_many sc_check_many (fun _ _ _ _ h => spD_len h) fun cdv A outer s H vs Q E gg hr h => ⟨_, (pss_one (ps_expr (DG.call_g (ok_check_number (P := P) (w := w) (base := base) T) (DG.guards_deeper.trans gg) (hr.mono (j := 3) (by decide)) rfl T.m_check_number T.F_check_number.kp T.b_check_number .nil pass0 (pa_cons (pv 0) (pa_cons pe_int (pa_cons (pe_glob (v := .int (3 : Int)) rfl T.m_MOST_UNKNOWNS ⟨_, rfl⟩) pa_nil)))))),
    body_ok (N := ["many"]) (ps := ["many"]) (by decide) (show RS _ (g_check_many) from (rs_drop (re_call (ra_cons re_var (ra_cons re_int (ra_cons re_int ra_nil)))))) h⟩
theorem sc_are_counts : FnScope ["items", "item"] ["items"] (defScope s_are_counts) := ⟨rfl, rfl, rfl, by decide +kernel, rfl, by decide +kernel, by decide +kernel⟩
noncomputable def g_are_counts : SF := (sRet (fOp gEq (fOfL (fLc (fSeqIt (fVar 0)) (fName 1) (fNot (fTest (fCall 3 none F_is_between (fCons (fVar 1) (fCons (fC (.int (0 : Int))) (fCons (fC .non) fNil)))))) (fVar 1) [1])) (fLst' fNil)))
noncomputable def F_are_counts : FnF := runDef 2 (g_are_counts)
theorem ok_are_counts (T : Txt K mg) : DG.FnG P w K mg base CX0 3 T.a_are_counts T.d_are_counts ["items"] (spD 1 F_are_counts) :=
  DG.body0_g (k := 2) T.F_are_counts sc_are_counts (fun _ _ _ _ h => spD_len h) fun cdv A outer s H vs Q E gg hr h => ⟨_, (pss_one (ps_ret (pe_cmpR (opEqU hr.units) (pe_lc (own := [("item", 1)]) (g := (gName 1)) rfl sc_are_counts.nd (pi_seq (pv 0)) (blkOk_by (N := ["items", "item"]) (sc := (defScope s_are_counts)) (by decide +kernel)) (fun _ _ _ _ _ => (pg_name (i := 1) sc_are_counts.nd rfl (by first | exact Or.inl rfl | exact Or.inr rfl))) (fun _ _ _ _ _ => (pts_one (pt_not (pt_val (DG.call_g (ok_is_between (P := P) (w := w) (base := base) T) (DG.guards_deeper.trans gg) (hr.mono (j := 2) (by decide)) rfl T.m_is_between T.F_is_between.kp T.b_is_between .nil pass0 (pa_cons (pv 1) (pa_cons pe_int (pa_cons pe_non pa_nil)))))))) (fun _ _ _ _ _ => (pv 1))) (pe_lst pa_nil) (nomark _)))),
    body_ok (N := ["items", "item"]) (ps := ["items"]) (by decide) (show RS _ (g_are_counts) from (rs_ret (re_op rb_eq (re_ofL (rl_lc (ts := [1]) (ri_seq re_var) (rg_name (i := 1)) (by decide) (rt_not (rt_B (re_call (ra_cons re_var (ra_cons re_int (ra_cons re_non ra_nil)))))) re_var)) (re_lst ra_nil)))) h⟩
theorem sc_is_form_for : FnScope ["many", "value"] ["many", "value"] (defScope s_is_form_for) := ⟨rfl, rfl, rfl, by decide +kernel, rfl, by decide +kernel, by decide +kernel⟩
noncomputable def g_is_form_for : SF := (sRet (fAndV (fIsi .tuple (fVar 1)) (fAndV (fOp gEq (fCB (g1 gLen) (fCons (fVar 1) fNil)) (fOp gAdd (fVar 0) (fC (.int (1 : Int))))) (fCall 1 none F_are_counts (fCons (fVar 1) fNil)))))
noncomputable def F_is_form_for : FnF := runDef 2 (g_is_form_for)
theorem ok_is_form_for (T : Txt K mg) : DG.FnG P w K mg base CX0 4 T.a_is_form_for T.d_is_form_for ["many", "value"] (spD 2 F_is_form_for) :=
  DG.body0_g (k := 3) T.F_is_form_for sc_is_form_for (fun _ _ _ _ h => spD_len h) fun cdv A outer s H vs Q E gg hr h => ⟨_, (pss_one (ps_ret (pe_and (pe_callB call_isi (by rfl) T.n_isinstance (by decide +kernel) (pa_cons (pv 1) (pa_cons (pe_bltn (v := .ty "tuple") (by rfl) T.n_tuple (by decide +kernel) rfl) pa_nil))) (pe_and (pe_cmpR (opEqU hr.units) (pe_callB callLen (by rfl) T.n_len (by decide +kernel) (pa_cons (pv 1) pa_nil)) (pe_op opAdd (pv 0) pe_int) (nomark _)) (pe_one (DG.call_g (ok_are_counts (P := P) (w := w) (base := base) T) (DG.guards_deeper.trans gg) (hr.mono (j := 3) (by decide)) rfl T.m_are_counts T.F_are_counts.kp T.b_are_counts .nil pass0 (pa_cons (pv 1) pa_nil))))))),
    body_ok (N := ["many", "value"]) (ps := ["many", "value"]) (by decide) (show RS _ (g_is_form_for) from (rs_ret (re_andV (re_isi .tuple re_var) (re_andV (re_op rb_eq (re_cb rc_len (ra_cons re_var ra_nil)) (re_op rb_add re_var re_int)) (re_call (ra_cons re_var ra_nil)))))) h⟩
theorem sc_check_form : FnScope ["many", "form"] ["many", "form"] (defScope s_check_form) := ⟨rfl, rfl, rfl, by decide +kernel, rfl, by decide +kernel, by decide +kernel⟩
noncomputable def g_check_form : SF := (sIf (fNot (fTest (fCall 2 none F_is_form_for (fCons (fVar 0) (fCons (fVar 1) fNil))))) sNever sNext)
noncomputable def F_check_form : FnF := runDef 2 (g_check_form)
theorem ok_check_form (T : Txt K mg) : DG.FnG P w K mg base CX0 5 T.a_check_form T.d_check_form ["many", "form"] (spD 2 F_check_form) :=
  DG.body0_g (k := 4) T.F_check_form sc_check_form (fun _ _ _ _ h => spD_len h) fun cdv A outer s H vs Q E gg hr h => ⟨_, (pss_one (ps_if (pt_not (pt_val (DG.call_g (ok_is_form_for (P := P) (w := w) (base := base) T) (DG.guards_deeper.trans gg) (hr.mono (j := 4) (by decide)) rfl T.m_is_form_for T.F_is_form_for.kp T.b_is_form_for .nil pass0 (pa_cons (pv 0) (pa_cons (pv 1) pa_nil))))) (pss_one ps_never) pss_nil)),
    body_ok (N := ["many", "form"]) (ps := ["many", "form"]) (by decide) (show RS _ (g_check_form) from (rs_if (rt_not (rt_B (re_call (ra_cons re_var (ra_cons re_var ra_nil))))) rs_never rs_next)) h⟩
theorem sc_check_side : FnScope ["side"] ["side"] (defScope s_check_side) := ⟨rfl, rfl, rfl, by decide +kernel, rfl, by decide +kernel, by decide +kernel⟩
noncomputable def g_check_side : SF := (sIf (fOr (fNot (fTest (fIsi .str (fVar 0)))) (fTest (fInK true [.str "left", .str "right"] (fVar 0)))) sNever sNext)
noncomputable def F_check_side : FnF := runDef 1 (g_check_side)
theorem ok_check_side (T : Txt K mg) : DG.FnG P w K mg base CX0 1 T.a_check_side T.d_check_side ["side"] (spD 1 F_check_side) :=
  DG.body0_g (k := 0) T.F_check_side sc_check_side (fun _ _ _ _ h => spD_len h) fun cdv A outer s H vs Q E gg hr h => ⟨_, (pss_one (ps_if (PW.pt (pw_or (pt_not (pt_val (pe_callB call_isi (by rfl) T.n_isinstance (by decide +kernel) (pa_cons (pv 0) (pa_cons (pe_bltn (v := .ty "str") (by rfl) T.n_str (by decide +kernel) rfl) pa_nil))))) (pw_or1 (pt_cmpR op_notIn_seq (pv 0) (pe_glob (v := .ref T.c_SIDES) rfl T.m_SIDES rfl) (by rfl))))) (pss_one ps_never) pss_nil)),
    body_ok (N := ["side"]) (ps := ["side"]) (by decide) (show RS _ (g_check_side) from (rs_if (rt_or (rt_not (rt_B (re_isi .str re_var))) (rt_test (re_inK T.s_SIDES (fun H => (.cons (by unfold Dat; rfl) (.cons (by unfold Dat; rfl) .nil))) re_var))) rs_never rs_next)) h⟩
theorem sc_form_below : FnScope ["one", "other", "low", "high"] ["one", "other"] (defScope s_form_below) := ⟨rfl, rfl, rfl, by decide +kernel, rfl, by decide +kernel, by decide +kernel⟩
noncomputable def g_form_below : SF := (sRet (fOp gEq (fOfL (fLc (fZipS (fCons (fVar 0) (fCons (fVar 1) fNil))) (fGtup 2 (fGcons (fName 2) (fGcons (fName 3) fGnil))) (fTest (fOp gGt (fVar 2) (fVar 3))) (fVar 2) [2, 3])) (fLst' fNil)))
noncomputable def F_form_below : FnF := runDef 4 (g_form_below)
theorem ok_form_below (T : Txt K mg) : DG.FnG P w K mg base CX0 1 T.a_form_below T.d_form_below ["one", "other"] (spD 2 F_form_below) :=
  DG.body0_g (k := 0) T.F_form_below sc_form_below (fun _ _ _ _ h => spD_len h) fun cdv A outer s H vs Q E gg hr h => ⟨_, (pss_one (ps_ret (pe_cmpR (opEqU hr.units) (pe_lc (own := [("low", 2), ("high", 3)]) (g := (gTup K 2 (gCons (gName 2) (gCons (gName 3) gNil)))) rfl sc_form_below.nd (pi_zipS (by rfl) T.n_zip (pa_cons (pv 0) (pa_cons (pv 1) pa_nil))) (blkOk_by (N := ["one", "other", "low", "high"]) (sc := (defScope s_form_below)) (by decide +kernel)) (fun _ _ _ _ _ => (pg_tup rfl (pgs_cons (pg_name (i := 2) sc_form_below.nd rfl (by first | exact Or.inl rfl | exact Or.inr rfl)) (pgs_cons (pg_name (i := 3) sc_form_below.nd rfl (by first | exact Or.inl rfl | exact Or.inr rfl)) pgs_nil)))) (fun _ _ _ _ _ => (pts_one (pt_cmpR opGt (pv 2) (pv 3) (nomark _)))) (fun _ _ _ _ _ => (pv 2))) (pe_lst pa_nil) (nomark _)))),
    body_ok (N := ["one", "other", "low", "high"]) (ps := ["one", "other"]) (by decide) (show RS _ (g_form_below) from (rs_ret (re_op rb_eq (re_ofL (rl_lc (ts := [2, 3]) (ri_zipS (ra_cons re_var (ra_cons re_var ra_nil))) (rg_tup (rgs_cons (rg_name (i := 2)) (rgs_cons (rg_name (i := 3)) rgs_nil))) (by decide) (rt_test (re_op rb_gt re_var re_var)) re_var)) (re_lst ra_nil)))) h⟩
theorem sc_check_in_order : FnScope ["start", "end"] ["start", "end"] (defScope s_check_in_order) := ⟨rfl, rfl, rfl, by decide +kernel, rfl, by decide +kernel, by decide +kernel⟩
noncomputable def g_check_in_order : SF := (sIf (fNot (fTest (fCall 2 none F_form_below (fCons (fVar 0) (fCons (fVar 1) fNil))))) sNever sNext)
noncomputable def F_check_in_order : FnF := runDef 2 (g_check_in_order)
theorem ok_check_in_order (T : Txt K mg) : DG.FnG P w K mg base CX0 2 T.a_check_in_order T.d_check_in_order ["start", "end"] (spD 2 F_check_in_order) :=
  DG.body0_g (k := 1) T.F_check_in_order sc_check_in_order (fun _ _ _ _ h => spD_len h) fun cdv A outer s H vs Q E gg hr h => ⟨_, (pss_one (ps_if (pt_not (pt_val (DG.call_g (ok_form_below (P := P) (w := w) (base := base) T) (DG.guards_deeper.trans gg) (hr.mono (j := 1) (by decide)) rfl T.m_form_below T.F_form_below.kp T.b_form_below .nil pass0 (pa_cons (pv 0) (pa_cons (pv 1) pa_nil))))) (pss_one ps_never) pss_nil)),
    body_ok (N := ["start", "end"]) (ps := ["start", "end"]) (by decide) (show RS _ (g_check_in_order) from (rs_if (rt_not (rt_B (re_call (ra_cons re_var (ra_cons re_var ra_nil))))) rs_never rs_next)) h⟩
theorem sc_form_sum : FnScope ["one", "other", "low", "high"] ["one", "other"] (defScope s_form_sum) := ⟨rfl, rfl, rfl, by decide +kernel, rfl, by decide +kernel, by decide +kernel⟩
noncomputable def g_form_sum : SF := (sRet (fCB (g1 gTupOf) (fCons (fOfL (fLc (fZipS (fCons (fVar 0) (fCons (fVar 1) fNil))) (fGtup 2 (fGcons (fName 2) (fGcons (fName 3) fGnil))) tYesF (fOp gAdd (fVar 2) (fVar 3)) [2, 3])) fNil)))
noncomputable def F_form_sum : FnF := runDef 4 (g_form_sum)
theorem ok_form_sum (T : Txt K mg) : DG.FnG P w K mg base CX0 1 T.a_form_sum T.d_form_sum ["one", "other"] (spD 2 F_form_sum) :=
  DG.body0_g (k := 0) T.F_form_sum sc_form_sum (fun _ _ _ _ h => spD_len h) fun cdv A outer s H vs Q E gg hr h => ⟨_, (pss_one (ps_ret (pe_callTy callTupOf (by rfl) T.n_tuple (by decide +kernel) (pa_cons (pe_lc (own := [("low", 2), ("high", 3)]) (g := (gTup K 2 (gCons (gName 2) (gCons (gName 3) gNil)))) rfl sc_form_sum.nd (pi_zipS (by rfl) T.n_zip (pa_cons (pv 0) (pa_cons (pv 1) pa_nil))) (blkOk_by (N := ["one", "other", "low", "high"]) (sc := (defScope s_form_sum)) (by decide +kernel)) (fun _ _ _ _ _ => (pg_tup rfl (pgs_cons (pg_name (i := 2) sc_form_sum.nd rfl (by first | exact Or.inl rfl | exact Or.inr rfl)) (pgs_cons (pg_name (i := 3) sc_form_sum.nd rfl (by first | exact Or.inl rfl | exact Or.inr rfl)) pgs_nil)))) (fun _ _ _ _ _ => pts_nil) (fun _ _ _ _ _ => (pe_op opAdd (pv 2) (pv 3)))) pa_nil)))),
    body_ok (N := ["one", "other", "low", "high"]) (ps := ["one", "other"]) (by decide) (show RS _ (g_form_sum) from (rs_ret (re_cb rc_tupOf (ra_cons (re_ofL (rl_lc (ts := [2, 3]) (ri_zipS (ra_cons re_var (ra_cons re_var ra_nil))) (rg_tup (rgs_cons (rg_name (i := 2)) (rgs_cons (rg_name (i := 3)) rgs_nil))) (by decide) rt_yes (re_op rb_add re_var re_var))) ra_nil)))) h⟩
theorem sc_form_times : FnScope ["number", "form", "item"] ["number", "form"] (defScope s_form_times) := ⟨rfl, rfl, rfl, by decide +kernel, rfl, by decide +kernel, by decide +kernel⟩
noncomputable def g_form_times : SF := (sRet (fCB (g1 gTupOf) (fCons (fOfL (fLc (fSeqIt (fVar 1)) (fName 2) tYesF (fOp gMul (fVar 0) (fVar 2)) [2])) fNil)))
noncomputable def F_form_times : FnF := runDef 3 (g_form_times)
theorem ok_form_times (T : Txt K mg) : DG.FnG P w K mg base CX0 1 T.a_form_times T.d_form_times ["number", "form"] (spD 2 F_form_times) :=
  DG.body0_g (k := 0) T.F_form_times sc_form_times (fun _ _ _ _ h => spD_len h) fun cdv A outer s H vs Q E gg hr h => ⟨_, (pss_one (ps_ret (pe_callTy callTupOf (by rfl) T.n_tuple (by decide +kernel) (pa_cons (pe_lc (own := [("item", 2)]) (g := (gName 2)) rfl sc_form_times.nd (pi_seq (pv 1)) (blkOk_by (N := ["number", "form", "item"]) (sc := (defScope s_form_times)) (by decide +kernel)) (fun _ _ _ _ _ => (pg_name (i := 2) sc_form_times.nd rfl (by first | exact Or.inl rfl | exact Or.inr rfl))) (fun _ _ _ _ _ => pts_nil) (fun _ _ _ _ _ => (pe_op opMul (pv 0) (pv 2)))) pa_nil)))),
    body_ok (N := ["number", "form", "item"]) (ps := ["number", "form"]) (by decide) (show RS _ (g_form_times) from (rs_ret (re_cb rc_tupOf (ra_cons (re_ofL (rl_lc (ts := [2]) (ri_seq re_var) (rg_name (i := 2)) (by decide) rt_yes (re_op rb_mul re_var re_var))) ra_nil)))) h⟩
theorem sc_form_less : FnScope ["one", "other"] ["one", "other"] (defScope s_form_less) := ⟨rfl, rfl, rfl, by decide +kernel, rfl, by decide +kernel, by decide +kernel⟩
noncomputable def g_form_less : SF := (sRet (fCall 2 none F_form_sum (fCons (fVar 0) (fCons (fCall 2 none F_form_times (fCons (fUn gNeg (fC (.int (1 : Int)))) (fCons (fVar 1) fNil))) fNil))))
noncomputable def F_form_less : FnF := runDef 2 (g_form_less)
theorem ok_form_less (T : Txt K mg) : DG.FnG P w K mg base CX0 2 T.a_form_less T.d_form_less ["one", "other"] (spD 2 F_form_less) :=
  DG.body0_g (k := 1) T.F_form_less sc_form_less (fun _ _ _ _ h => spD_len h) fun cdv A outer s H vs Q E gg hr h => ⟨_, (pss_one (ps_ret (DG.call_g (ok_form_sum (P := P) (w := w) (base := base) T) (DG.guards_deeper.trans gg) (hr.mono (j := 1) (by decide)) rfl T.m_form_sum T.F_form_sum.kp T.b_form_sum .nil pass0 (pa_cons (pv 0) (pa_cons (DG.call_g (ok_form_times (P := P) (w := w) (base := base) T) (DG.guards_deeper.trans gg) (hr.mono (j := 1) (by decide)) rfl T.m_form_times T.F_form_times.kp T.b_form_times .nil pass0 (pa_cons (pe_un un_neg pe_int) (pa_cons (pv 1) pa_nil))) pa_nil))))),
    body_ok (N := ["one", "other"]) (ps := ["one", "other"]) (by decide) (show RS _ (g_form_less) from (rs_ret (re_call (ra_cons re_var (ra_cons (re_call (ra_cons (re_un ru_neg re_int) (ra_cons re_var ra_nil))) ra_nil))))) h⟩
theorem sc_moved_place : FnScope ["place", "side", "start", "end", "length"] ["place", "side", "start", "end", "length"] (defScope s_moved_place) := ⟨rfl, rfl, rfl, by decide +kernel, rfl, by decide +kernel, by decide +kernel⟩
noncomputable def g_moved_place : SF := (sSeq (sIf (fAnd (fTest (fCall 2 none F_form_below (fCons (fVar 0) (fCons (fVar 2) fNil)))) (fTest (fOp gNe (fVar 0) (fVar 2)))) (sRet (fVar 0)) sNext)
    (sSeq (sIf (fAnd (fTest (fCall 2 none F_form_below (fCons (fVar 3) (fCons (fVar 0) fNil)))) (fTest (fOp gNe (fVar 0) (fVar 3)))) (sRet (fCall 2 none F_form_sum (fCons (fCall 2 none F_form_less (fCons (fVar 0) (fCons (fVar 3) fNil))) (fCons (fCall 2 none F_form_sum (fCons (fVar 2) (fCons (fVar 4) fNil))) fNil)))) sNext)
    (sSeq (sIf (fAnd (fTest (fCall 2 none F_form_below (fCons (fVar 2) (fCons (fVar 0) fNil)))) (fTest (fCall 2 none F_form_below (fCons (fVar 0) (fCons (fVar 3) fNil))))) (sRet (fIf (fTest (fOp gEq (fVar 1) (fC (.str "left")))) (fVar 2) (fCall 2 none F_form_sum (fCons (fVar 2) (fCons (fVar 4) fNil))))) sNext)
    (sRet (fC .non)))))
noncomputable def F_moved_place : FnF := runDef 5 (g_moved_place)
theorem ok_moved_place (T : Txt K mg) : DG.FnG P w K mg base CX0 3 T.a_moved_place T.d_moved_place ["place", "side", "start", "end", "length"] (spD 5 F_moved_place) :=
  DG.body0_g (k := 2) T.F_moved_place sc_moved_place (fun _ _ _ _ h => spD_len h) fun cdv A outer s H vs Q E gg hr h => ⟨_, (pss_cons (ps_if (PW.pt (pw_and (pt_val (DG.call_g (ok_form_below (P := P) (w := w) (base := base) T) (DG.guards_deeper.trans gg) (hr.mono (j := 1) (by decide)) rfl T.m_form_below T.F_form_below.kp T.b_form_below .nil pass0 (pa_cons (pv 0) (pa_cons (pv 2) pa_nil)))) (pw_and1 (pt_cmpR (opNeU hr.units) (pv 0) (pv 2) (nomark _))))) (pss_one (ps_ret (pv 0))) pss_nil)
    (pss_cons (ps_if (PW.pt (pw_and (pt_val (DG.call_g (ok_form_below (P := P) (w := w) (base := base) T) (DG.guards_deeper.trans gg) (hr.mono (j := 1) (by decide)) rfl T.m_form_below T.F_form_below.kp T.b_form_below .nil pass0 (pa_cons (pv 3) (pa_cons (pv 0) pa_nil)))) (pw_and1 (pt_cmpR (opNeU hr.units) (pv 0) (pv 3) (nomark _))))) (pss_one (ps_ret (DG.call_g (ok_form_sum (P := P) (w := w) (base := base) T) (DG.guards_deeper.trans gg) (hr.mono (j := 1) (by decide)) rfl T.m_form_sum T.F_form_sum.kp T.b_form_sum .nil pass0 (pa_cons (DG.call_g (ok_form_less (P := P) (w := w) (base := base) T) (DG.guards_deeper.trans gg) (hr.mono (j := 2) (by decide)) rfl T.m_form_less T.F_form_less.kp T.b_form_less .nil pass0 (pa_cons (pv 0) (pa_cons (pv 3) pa_nil))) (pa_cons (DG.call_g (ok_form_sum (P := P) (w := w) (base := base) T) (DG.guards_deeper.trans gg) (hr.mono (j := 1) (by decide)) rfl T.m_form_sum T.F_form_sum.kp T.b_form_sum .nil pass0 (pa_cons (pv 2) (pa_cons (pv 4) pa_nil))) pa_nil))))) pss_nil)
    (pss_cons (ps_if (PW.pt (pw_and (pt_val (DG.call_g (ok_form_below (P := P) (w := w) (base := base) T) (DG.guards_deeper.trans gg) (hr.mono (j := 1) (by decide)) rfl T.m_form_below T.F_form_below.kp T.b_form_below .nil pass0 (pa_cons (pv 2) (pa_cons (pv 0) pa_nil)))) (pw_and1 (pt_val (DG.call_g (ok_form_below (P := P) (w := w) (base := base) T) (DG.guards_deeper.trans gg) (hr.mono (j := 1) (by decide)) rfl T.m_form_below T.F_form_below.kp T.b_form_below .nil pass0 (pa_cons (pv 0) (pa_cons (pv 3) pa_nil))))))) (pss_one (ps_ret (pe_ifExp (pt_cmpR (opEqU hr.units) (pv 1) pe_str (nomark _)) (pv 2) (DG.call_g (ok_form_sum (P := P) (w := w) (base := base) T) (DG.guards_deeper.trans gg) (hr.mono (j := 1) (by decide)) rfl T.m_form_sum T.F_form_sum.kp T.b_form_sum .nil pass0 (pa_cons (pv 2) (pa_cons (pv 4) pa_nil)))))) pss_nil)
    (pss_one (ps_ret pe_non))))),
    body_ok (N := ["place", "side", "start", "end", "length"]) (ps := ["place", "side", "start", "end", "length"]) (by decide) (show RS _ (g_moved_place) from (rs_seq (rs_if (rt_and (rt_B (re_call (ra_cons re_var (ra_cons re_var ra_nil)))) (rt_test (re_op rb_ne re_var re_var))) (rs_ret re_var) rs_next)
    (rs_seq (rs_if (rt_and (rt_B (re_call (ra_cons re_var (ra_cons re_var ra_nil)))) (rt_test (re_op rb_ne re_var re_var))) (rs_ret (re_call (ra_cons (re_call (ra_cons re_var (ra_cons re_var ra_nil))) (ra_cons (re_call (ra_cons re_var (ra_cons re_var ra_nil))) ra_nil)))) rs_next)
    (rs_seq (rs_if (rt_and (rt_B (re_call (ra_cons re_var (ra_cons re_var ra_nil)))) (rt_B (re_call (ra_cons re_var (ra_cons re_var ra_nil))))) (rs_ret (re_if (rt_test (re_op rb_eq re_var re_str)) re_var (re_call (ra_cons re_var (ra_cons re_var ra_nil))))) rs_next)
    (rs_ret re_non))))) h⟩
theorem sc_mark_moved : FnScope ["many", "place", "side", "start", "end", "length"] ["many", "place", "side", "start", "end", "length"] (defScope s_mark_moved) := ⟨rfl, rfl, rfl, by decide +kernel, rfl, by decide +kernel, by decide +kernel⟩
noncomputable def g_mark_moved : SF := (sSeq (sDrop (fCall 1 none F_check_many (fCons (fVar 0) fNil)))
    (sSeq (sDrop (fCall 2 none F_check_form (fCons (fVar 0) (fCons (fVar 1) fNil))))
    (sSeq (sDrop (fCall 1 none F_check_side (fCons (fVar 2) fNil)))
    (sSeq (sDrop (fCall 2 none F_check_form (fCons (fVar 0) (fCons (fVar 3) fNil))))
    (sSeq (sDrop (fCall 2 none F_check_form (fCons (fVar 0) (fCons (fVar 4) fNil))))
    (sSeq (sDrop (fCall 2 none F_check_in_order (fCons (fVar 3) (fCons (fVar 4) fNil))))
    (sSeq (sDrop (fCall 2 none F_check_form (fCons (fVar 0) (fCons (fVar 5) fNil))))
    (sRet (fCall 5 none F_moved_place (fCons (fVar 1) (fCons (fVar 2) (fCons (fVar 3) (fCons (fVar 4) (fCons (fVar 5) fNil))))))))))))))
noncomputable def F_mark_moved : FnF := runDef 6 (g_mark_moved)
theorem ok_mark_moved (T : Txt K mg) : DG.FnG P w K mg base CX0 6 T.a_mark_moved T.d_mark_moved ["many", "place", "side", "start", "end", "length"] (spD 6 F_mark_moved) :=
  DG.body0_g (k := 5) T.F_mark_moved sc_mark_moved (fun _ _ _ _ h => spD_len h) fun cdv A outer s H vs Q E gg hr h => ⟨_, (pss_cons (ps_expr (DG.call_g (ok_check_many (P := P) (w := w) (base := base) T) (DG.guards_deeper.trans gg) (hr.mono (j := 4) (by decide)) rfl T.m_check_many T.F_check_many.kp T.b_check_many .nil pass0 (pa_cons (pv 0) pa_nil)))
    (pss_cons (ps_expr (DG.call_g (ok_check_form (P := P) (w := w) (base := base) T) (DG.guards_deeper.trans gg) (hr.mono (j := 5) (by decide)) rfl T.m_check_form T.F_check_form.kp T.b_check_form .nil pass0 (pa_cons (pv 0) (pa_cons (pv 1) pa_nil))))
    (pss_cons (ps_expr (DG.call_g (ok_check_side (P := P) (w := w) (base := base) T) (DG.guards_deeper.trans gg) (hr.mono (j := 1) (by decide)) rfl T.m_check_side T.F_check_side.kp T.b_check_side .nil pass0 (pa_cons (pv 2) pa_nil)))
    (pss_cons (ps_expr (DG.call_g (ok_check_form (P := P) (w := w) (base := base) T) (DG.guards_deeper.trans gg) (hr.mono (j := 5) (by decide)) rfl T.m_check_form T.F_check_form.kp T.b_check_form .nil pass0 (pa_cons (pv 0) (pa_cons (pv 3) pa_nil))))
    (pss_cons (ps_expr (DG.call_g (ok_check_form (P := P) (w := w) (base := base) T) (DG.guards_deeper.trans gg) (hr.mono (j := 5) (by decide)) rfl T.m_check_form T.F_check_form.kp T.b_check_form .nil pass0 (pa_cons (pv 0) (pa_cons (pv 4) pa_nil))))
    (pss_cons (ps_expr (DG.call_g (ok_check_in_order (P := P) (w := w) (base := base) T) (DG.guards_deeper.trans gg) (hr.mono (j := 2) (by decide)) rfl T.m_check_in_order T.F_check_in_order.kp T.b_check_in_order .nil pass0 (pa_cons (pv 3) (pa_cons (pv 4) pa_nil))))
    (pss_cons (ps_expr (DG.call_g (ok_check_form (P := P) (w := w) (base := base) T) (DG.guards_deeper.trans gg) (hr.mono (j := 5) (by decide)) rfl T.m_check_form T.F_check_form.kp T.b_check_form .nil pass0 (pa_cons (pv 0) (pa_cons (pv 5) pa_nil))))
    (pss_one (ps_ret (DG.call_g (ok_moved_place (P := P) (w := w) (base := base) T) (DG.guards_deeper.trans gg) (hr.mono (j := 3) (by decide)) rfl T.m_moved_place T.F_moved_place.kp T.b_moved_place .nil pass0 (pa_cons (pv 1) (pa_cons (pv 2) (pa_cons (pv 3) (pa_cons (pv 4) (pa_cons (pv 5) pa_nil))))))))))))))),
    body_ok (N := ["many", "place", "side", "start", "end", "length"]) (ps := ["many", "place", "side", "start", "end", "length"]) (by decide) (show RS _ (g_mark_moved) from (rs_seq (rs_drop (re_call (ra_cons re_var ra_nil)))
    (rs_seq (rs_drop (re_call (ra_cons re_var (ra_cons re_var ra_nil))))
    (rs_seq (rs_drop (re_call (ra_cons re_var ra_nil)))
    (rs_seq (rs_drop (re_call (ra_cons re_var (ra_cons re_var ra_nil))))
    (rs_seq (rs_drop (re_call (ra_cons re_var (ra_cons re_var ra_nil))))
    (rs_seq (rs_drop (re_call (ra_cons re_var (ra_cons re_var ra_nil))))
    (rs_seq (rs_drop (re_call (ra_cons re_var (ra_cons re_var ra_nil))))
    (rs_ret (re_call (ra_cons re_var (ra_cons re_var (ra_cons re_var (ra_cons re_var (ra_cons re_var ra_nil))))))))))))))) h⟩
theorem sc_law_below : FnScope ["_law_one", "_law_other", "_law_low", "_law_high"] ["_law_one", "_law_other"] (defScope s_law_below) := ⟨rfl, rfl, rfl, by decide +kernel, rfl, by decide +kernel, by decide +kernel⟩
noncomputable def g_law_below : SF := (sRet (fOp gEq (fOfL (fLc (fZipN (fCons (fVar 0) (fCons (fVar 1) fNil))) (fGtup 2 (fGcons (fName 2) (fGcons (fName 3) fGnil))) (fTest (fOp gGt (fVar 2) (fVar 3))) (fVar 2) [2, 3])) (fLst' fNil)))
noncomputable def F_law_below : FnF := runDef 4 (g_law_below)
theorem ok_law_below (T : Txt K mg) : DG.FnG P w K mg base CX0 1 T.a_law_below T.d_law_below ["_law_one", "_law_other"] (spD 2 F_law_below) :=
  DG.body0_g (k := 0) T.F_law_below sc_law_below (fun _ _ _ _ h => spD_len h) fun cdv A outer s H vs Q E gg hr h => ⟨_, (pss_one (ps_ret (pe_cmpR (opEqU hr.units) (pe_lc (own := [("_law_low", 2), ("_law_high", 3)]) (g := (gTup K 2 (gCons (gName 2) (gCons (gName 3) gNil)))) rfl sc_law_below.nd (pi_zipN (by rfl) T.n_zip (pa_cons (pv 0) (pa_cons (pv 1) pa_nil))) (blkOk_by (N := ["_law_one", "_law_other", "_law_low", "_law_high"]) (sc := (defScope s_law_below)) (by decide +kernel)) (fun _ _ _ _ _ => (pg_tup rfl (pgs_cons (pg_name (i := 2) sc_law_below.nd rfl (by first | exact Or.inl rfl | exact Or.inr rfl)) (pgs_cons (pg_name (i := 3) sc_law_below.nd rfl (by first | exact Or.inl rfl | exact Or.inr rfl)) pgs_nil)))) (fun _ _ _ _ _ => (pts_one (pt_cmpR opGt (pv 2) (pv 3) (nomark _)))) (fun _ _ _ _ _ => (pv 2))) (pe_lst pa_nil) (nomark _)))),
    body_ok (N := ["_law_one", "_law_other", "_law_low", "_law_high"]) (ps := ["_law_one", "_law_other"]) (by decide) (show RS _ (g_law_below) from (rs_ret (re_op rb_eq (re_ofL (rl_lc (ts := [2, 3]) (ri_zipN (ra_cons re_var (ra_cons re_var ra_nil))) (rg_tup (rgs_cons (rg_name (i := 2)) (rgs_cons (rg_name (i := 3)) rgs_nil))) (by decide) (rt_test (re_op rb_gt re_var re_var)) re_var)) (re_lst ra_nil)))) h⟩
theorem sc_law_less : FnScope ["_law_one", "_law_other", "_law_low", "_law_high"] ["_law_one", "_law_other"] (defScope s_law_less) := ⟨rfl, rfl, rfl, by decide +kernel, rfl, by decide +kernel, by decide +kernel⟩
noncomputable def g_law_less : SF := (sRet (fCB (g1 gTupOf) (fCons (fOfL (fLc (fZipN (fCons (fVar 0) (fCons (fVar 1) fNil))) (fGtup 2 (fGcons (fName 2) (fGcons (fName 3) fGnil))) tYesF (fOp gMinus (fVar 2) (fVar 3)) [2, 3])) fNil)))
noncomputable def F_law_less : FnF := runDef 4 (g_law_less)
theorem ok_law_less (T : Txt K mg) : DG.FnG P w K mg base CX0 1 T.a_law_less T.d_law_less ["_law_one", "_law_other"] (spD 2 F_law_less) :=
  DG.body0_g (k := 0) T.F_law_less sc_law_less (fun _ _ _ _ h => spD_len h) fun cdv A outer s H vs Q E gg hr h => ⟨_, (pss_one (ps_ret (pe_callTy callTupOf (by rfl) T.n_tuple (by decide +kernel) (pa_cons (pe_lc (own := [("_law_low", 2), ("_law_high", 3)]) (g := (gTup K 2 (gCons (gName 2) (gCons (gName 3) gNil)))) rfl sc_law_less.nd (pi_zipN (by rfl) T.n_zip (pa_cons (pv 0) (pa_cons (pv 1) pa_nil))) (blkOk_by (N := ["_law_one", "_law_other", "_law_low", "_law_high"]) (sc := (defScope s_law_less)) (by decide +kernel)) (fun _ _ _ _ _ => (pg_tup rfl (pgs_cons (pg_name (i := 2) sc_law_less.nd rfl (by first | exact Or.inl rfl | exact Or.inr rfl)) (pgs_cons (pg_name (i := 3) sc_law_less.nd rfl (by first | exact Or.inl rfl | exact Or.inr rfl)) pgs_nil)))) (fun _ _ _ _ _ => pts_nil) (fun _ _ _ _ _ => (pe_op op_sub (pv 2) (pv 3)))) pa_nil)))),
    body_ok (N := ["_law_one", "_law_other", "_law_low", "_law_high"]) (ps := ["_law_one", "_law_other"]) (by decide) (show RS _ (g_law_less) from (rs_ret (re_cb rc_tupOf (ra_cons (re_ofL (rl_lc (ts := [2, 3]) (ri_zipN (ra_cons re_var (ra_cons re_var ra_nil))) (rg_tup (rgs_cons (rg_name (i := 2)) (rgs_cons (rg_name (i := 3)) rgs_nil))) (by decide) rt_yes (re_op rb_sub re_var re_var))) ra_nil)))) h⟩
theorem sc_law_due : FnScope ["_law_place", "_law_side", "_law_start", "_law_end", "_law_length"] ["_law_place", "_law_side", "_law_start", "_law_end", "_law_length"] (defScope s_law_due) := ⟨rfl, rfl, rfl, by decide +kernel, rfl, by decide +kernel, by decide +kernel⟩
noncomputable def g_law_due : SF := (sSeq (sIf (fAnd (fTest (fCall 2 none F_law_below (fCons (fVar 0) (fCons (fVar 2) fNil)))) (fTest (fOp gNe (fVar 0) (fVar 2)))) (sRet (fVar 0)) sNext)
    (sSeq (sIf (fAnd (fTest (fCall 2 none F_law_below (fCons (fVar 3) (fCons (fVar 0) fNil)))) (fTest (fOp gNe (fVar 0) (fVar 3)))) (sRet (fCall 2 none F_law_added (fCons (fCall 2 none F_law_less (fCons (fVar 0) (fCons (fVar 3) fNil))) (fCons (fCall 2 none F_law_added (fCons (fVar 2) (fCons (fVar 4) fNil))) fNil)))) sNext)
    (sSeq (sIf (fOr (fNot (fTest (fCall 2 none F_law_below (fCons (fVar 2) (fCons (fVar 0) fNil))))) (fNot (fTest (fCall 2 none F_law_below (fCons (fVar 0) (fCons (fVar 3) fNil)))))) (sRet (fC .non)) sNext)
    (sRet (fIf (fTest (fOp gEq (fVar 1) (fC (.str "left")))) (fVar 2) (fCall 2 none F_law_added (fCons (fVar 2) (fCons (fVar 4) fNil))))))))
noncomputable def F_law_due : FnF := runDef 5 (g_law_due)
theorem ok_law_due (T : Txt K mg) : DG.FnG P w K mg base CX0 2 T.a_law_due T.d_law_due ["_law_place", "_law_side", "_law_start", "_law_end", "_law_length"] (spD 5 F_law_due) :=
  DG.body0_g (k := 1) T.F_law_due sc_law_due (fun _ _ _ _ h => spD_len h) fun cdv A outer s H vs Q E gg hr h => ⟨_, (pss_cons (ps_if (PW.pt (pw_and (pt_val (DG.call_g (ok_law_below (P := P) (w := w) (base := base) T) (DG.guards_deeper.trans gg) (hr.mono (j := 1) (by decide)) rfl T.m_law_below T.F_law_below.kp T.b_law_below .nil pass0 (pa_cons (pv 0) (pa_cons (pv 2) pa_nil)))) (pw_and1 (pt_cmpR (opNeU hr.units) (pv 0) (pv 2) (nomark _))))) (pss_one (ps_ret (pv 0))) pss_nil)
    (pss_cons (ps_if (PW.pt (pw_and (pt_val (DG.call_g (ok_law_below (P := P) (w := w) (base := base) T) (DG.guards_deeper.trans gg) (hr.mono (j := 1) (by decide)) rfl T.m_law_below T.F_law_below.kp T.b_law_below .nil pass0 (pa_cons (pv 3) (pa_cons (pv 0) pa_nil)))) (pw_and1 (pt_cmpR (opNeU hr.units) (pv 0) (pv 3) (nomark _))))) (pss_one (ps_ret (DG.call_g (ok_law_added (P := P) (w := w) (base := base) T) (DG.guards_deeper.trans gg) (hr.mono (j := 1) (by decide)) rfl T.m_law_added T.F_law_added.kp T.b_law_added .nil pass0 (pa_cons (DG.call_g (ok_law_less (P := P) (w := w) (base := base) T) (DG.guards_deeper.trans gg) (hr.mono (j := 1) (by decide)) rfl T.m_law_less T.F_law_less.kp T.b_law_less .nil pass0 (pa_cons (pv 0) (pa_cons (pv 3) pa_nil))) (pa_cons (DG.call_g (ok_law_added (P := P) (w := w) (base := base) T) (DG.guards_deeper.trans gg) (hr.mono (j := 1) (by decide)) rfl T.m_law_added T.F_law_added.kp T.b_law_added .nil pass0 (pa_cons (pv 2) (pa_cons (pv 4) pa_nil))) pa_nil))))) pss_nil)
    (pss_cons (ps_if (PW.pt (pw_or (pt_not (pt_val (DG.call_g (ok_law_below (P := P) (w := w) (base := base) T) (DG.guards_deeper.trans gg) (hr.mono (j := 1) (by decide)) rfl T.m_law_below T.F_law_below.kp T.b_law_below .nil pass0 (pa_cons (pv 2) (pa_cons (pv 0) pa_nil))))) (pw_or1 (pt_not (pt_val (DG.call_g (ok_law_below (P := P) (w := w) (base := base) T) (DG.guards_deeper.trans gg) (hr.mono (j := 1) (by decide)) rfl T.m_law_below T.F_law_below.kp T.b_law_below .nil pass0 (pa_cons (pv 0) (pa_cons (pv 3) pa_nil)))))))) (pss_one (ps_ret pe_non)) pss_nil)
    (pss_one (ps_ret (pe_ifExp (pt_cmpR (opEqU hr.units) (pv 1) pe_str (nomark _)) (pv 2) (DG.call_g (ok_law_added (P := P) (w := w) (base := base) T) (DG.guards_deeper.trans gg) (hr.mono (j := 1) (by decide)) rfl T.m_law_added T.F_law_added.kp T.b_law_added .nil pass0 (pa_cons (pv 2) (pa_cons (pv 4) pa_nil))))))))),
    body_ok (N := ["_law_place", "_law_side", "_law_start", "_law_end", "_law_length"]) (ps := ["_law_place", "_law_side", "_law_start", "_law_end", "_law_length"]) (by decide) (show RS _ (g_law_due) from (rs_seq (rs_if (rt_and (rt_B (re_call (ra_cons re_var (ra_cons re_var ra_nil)))) (rt_test (re_op rb_ne re_var re_var))) (rs_ret re_var) rs_next)
    (rs_seq (rs_if (rt_and (rt_B (re_call (ra_cons re_var (ra_cons re_var ra_nil)))) (rt_test (re_op rb_ne re_var re_var))) (rs_ret (re_call (ra_cons (re_call (ra_cons re_var (ra_cons re_var ra_nil))) (ra_cons (re_call (ra_cons re_var (ra_cons re_var ra_nil))) ra_nil)))) rs_next)
    (rs_seq (rs_if (rt_or (rt_not (rt_B (re_call (ra_cons re_var (ra_cons re_var ra_nil))))) (rt_not (rt_B (re_call (ra_cons re_var (ra_cons re_var ra_nil)))))) (rs_ret re_non) rs_next)
    (rs_ret (re_if (rt_test (re_op rb_eq re_var re_str)) re_var (re_call (ra_cons re_var (ra_cons re_var ra_nil))))))))) h⟩
theorem sc_law_value : FnScope ["_law_form_here", "_law_point_here", "_law_number", "_law_count"] ["_law_form_here", "_law_point_here"] (defScope s_law_value) := ⟨rfl, rfl, rfl, by decide +kernel, rfl, by decide +kernel, by decide +kernel⟩
noncomputable def g_law_value : SF := (sRet (fOp gAdd (fOp gIx (fVar 0) (fC (.int (0 : Int)))) (fCB (g1 gSum) (fCons (fOfL (fLc (fZipN (fCons (fSl (fVar 0) (fPart (fC (.int (1 : Int)))) fNoPart) (fCons (fVar 1) fNil))) (fGtup 2 (fGcons (fName 2) (fGcons (fName 3) fGnil))) tYesF (fOp gMul (fVar 2) (fVar 3)) [2, 3])) fNil))))
noncomputable def F_law_value : FnF := runDef 4 (g_law_value)
theorem ok_law_value (T : Txt K mg) : DG.FnG P w K mg base CX0 1 T.a_law_value T.d_law_value ["_law_form_here", "_law_point_here"] (spD 2 F_law_value) :=
  DG.body0_g (k := 0) T.F_law_value sc_law_value (fun _ _ _ _ h => spD_len h) fun cdv A outer s H vs Q E gg hr h => ⟨_, (pss_one (ps_ret (pe_op opAdd (pe_ix ix_seq (pv 0) pe_int (fun _ _ => rfl)) (pe_callB (cr_sum rfl) (by rfl) T.n_sum (by decide +kernel) (pa_cons (pe_lc (own := [("_law_number", 2), ("_law_count", 3)]) (g := (gTup K 2 (gCons (gName 2) (gCons (gName 3) gNil)))) rfl sc_law_value.nd (pi_zipN (by rfl) T.n_zip (pa_cons (pe_slice slU (pv 0) (po_some pe_int) po_none) (pa_cons (pv 1) pa_nil))) (blkOk_by (N := ["_law_form_here", "_law_point_here", "_law_number", "_law_count"]) (sc := (defScope s_law_value)) (by decide +kernel)) (fun _ _ _ _ _ => (pg_tup rfl (pgs_cons (pg_name (i := 2) sc_law_value.nd rfl (by first | exact Or.inl rfl | exact Or.inr rfl)) (pgs_cons (pg_name (i := 3) sc_law_value.nd rfl (by first | exact Or.inl rfl | exact Or.inr rfl)) pgs_nil)))) (fun _ _ _ _ _ => pts_nil) (fun _ _ _ _ _ => (pe_op opMul (pv 2) (pv 3)))) pa_nil))))),
    body_ok (N := ["_law_form_here", "_law_point_here", "_law_number", "_law_count"]) (ps := ["_law_form_here", "_law_point_here"]) (by decide) (show RS _ (g_law_value) from (rs_ret (re_op rb_add (re_op rb_ix re_var re_int) (re_cb rc_sum (ra_cons (re_ofL (rl_lc (ts := [2, 3]) (ri_zipN (ra_cons (re_sl re_var (ro_some re_int) ro_none) (ra_cons re_var ra_nil))) (rg_tup (rgs_cons (rg_name (i := 2)) (rgs_cons (rg_name (i := 3)) rgs_nil))) (by decide) rt_yes (re_op rb_mul re_var re_var))) ra_nil))))) h⟩
theorem sc_law_at_point : FnScope ["_law_found", "_law_place", "_law_side", "_law_start", "_law_end", "_law_length", "_law_point_here", "_law_stands", "_law_spot_here", "_law_low", "_law_high", "_law_more"] ["_law_found", "_law_place", "_law_side", "_law_start", "_law_end", "_law_length", "_law_point_here"] (defScope s_law_at_point) := ⟨rfl, rfl, rfl, by decide +kernel, rfl, by decide +kernel, by decide +kernel⟩
noncomputable def g_law_at_point : SF := (sSeq (sPar 7 8 (fCall 2 none F_law_value (fCons (fVar 0) (fCons (fVar 6) fNil))) (fCall 2 none F_law_value (fCons (fVar 1) (fCons (fVar 6) fNil))))
    (sSeq (sPar3 9 10 11 (fCall 2 none F_law_value (fCons (fVar 3) (fCons (fVar 6) fNil))) (fCall 2 none F_law_value (fCons (fVar 4) (fCons (fVar 6) fNil))) (fCall 2 none F_law_value (fCons (fVar 5) (fCons (fVar 6) fNil))))
    (sSeq (sIf (fTest (fOp gLt (fVar 8) (fVar 9))) (sRet (fOp gEq (fVar 7) (fVar 8))) sNext)
    (sSeq (sIf (fTest (fOp gGt (fVar 8) (fVar 10))) (sRet (fOp gEq (fVar 7) (fOp gAdd (fOp gAdd (fOp gMinus (fVar 8) (fVar 10)) (fVar 9)) (fVar 11)))) sNext)
    (sSeq (sIf (fTest (fChain gLt gLt (fVar 9) (fVar 8) (fVar 10))) (sRet (fOp gEq (fVar 7) (fIf (fTest (fOp gEq (fVar 2) (fC (.str "left")))) (fVar 9) (fOp gAdd (fVar 9) (fVar 11))))) sNext)
    (sRet (fOp (gIn false) (fVar 7) (fLst' (fCons (fVar 9) (fCons (fOp gAdd (fVar 9) (fVar 11)) fNil))))))))))
noncomputable def F_law_at_point : FnF := runDef 12 (g_law_at_point)
theorem ok_law_at_point (T : Txt K mg) : DG.FnG P w K mg base CX0 2 T.a_law_at_point T.d_law_at_point ["_law_found", "_law_place", "_law_side", "_law_start", "_law_end", "_law_length", "_law_point_here"] (spD 7 F_law_at_point) :=
  DG.body0_g (k := 1) T.F_law_at_point sc_law_at_point (fun _ _ _ _ h => spD_len h) fun cdv A outer s H vs Q E gg hr h => ⟨_, (pss_cons (ps_par (i := 7) (j := 8) (by rfl) sc_law_at_point.nd rfl rfl (by decide) rfl rfl (pa_cons (DG.call_g (ok_law_value (P := P) (w := w) (base := base) T) (DG.guards_deeper.trans gg) (hr.mono (j := 1) (by decide)) rfl T.m_law_value T.F_law_value.kp T.b_law_value .nil pass0 (pa_cons (pv 0) (pa_cons (pv 6) pa_nil))) (pa_cons (DG.call_g (ok_law_value (P := P) (w := w) (base := base) T) (DG.guards_deeper.trans gg) (hr.mono (j := 1) (by decide)) rfl T.m_law_value T.F_law_value.kp T.b_law_value .nil pass0 (pa_cons (pv 1) (pa_cons (pv 6) pa_nil))) pa_nil)) (by rfl))
    (pss_cons (ps_par3 (i := 9) (j := 10) (l := 11) (by rfl) sc_law_at_point.nd rfl rfl rfl (by decide) (by decide) (by decide) rfl rfl rfl (pa_cons (DG.call_g (ok_law_value (P := P) (w := w) (base := base) T) (DG.guards_deeper.trans gg) (hr.mono (j := 1) (by decide)) rfl T.m_law_value T.F_law_value.kp T.b_law_value .nil pass0 (pa_cons (pv 3) (pa_cons (pv 6) pa_nil))) (pa_cons (DG.call_g (ok_law_value (P := P) (w := w) (base := base) T) (DG.guards_deeper.trans gg) (hr.mono (j := 1) (by decide)) rfl T.m_law_value T.F_law_value.kp T.b_law_value .nil pass0 (pa_cons (pv 4) (pa_cons (pv 6) pa_nil))) (pa_cons (DG.call_g (ok_law_value (P := P) (w := w) (base := base) T) (DG.guards_deeper.trans gg) (hr.mono (j := 1) (by decide)) rfl T.m_law_value T.F_law_value.kp T.b_law_value .nil pass0 (pa_cons (pv 5) (pa_cons (pv 6) pa_nil))) pa_nil))) (by rfl))
    (pss_cons (ps_if (pt_cmpR opLt (pv 8) (pv 9) (nomark _)) (pss_one (ps_ret (pe_cmpR (opEqU hr.units) (pv 7) (pv 8) (nomark _)))) pss_nil)
    (pss_cons (ps_if (pt_cmpR opGt (pv 8) (pv 10) (nomark _)) (pss_one (ps_ret (pe_cmpR (opEqU hr.units) (pv 7) (pe_op opAdd (pe_op opAdd (pe_op op_sub (pv 8) (pv 10)) (pv 9)) (pv 11)) (nomark _)))) pss_nil)
    (pss_cons (ps_if (pt_chain opLt opLt (pv 9) (pv 8) (pv 10)) (pss_one (ps_ret (pe_cmpR (opEqU hr.units) (pv 7) (pe_ifExp (pt_cmpR (opEqU hr.units) (pv 2) pe_str (nomark _)) (pv 9) (pe_op opAdd (pv 9) (pv 11))) (nomark _)))) pss_nil)
    (pss_one (ps_ret (pe_cmpR op_in_seq (pv 7) (pe_lst (pa_cons (pv 9) (pa_cons (pe_op opAdd (pv 9) (pv 11)) pa_nil))) (by rfl))))))))),
    body_ok (N := ["_law_found", "_law_place", "_law_side", "_law_start", "_law_end", "_law_length", "_law_point_here", "_law_stands", "_law_spot_here", "_law_low", "_law_high", "_law_more"]) (ps := ["_law_found", "_law_place", "_law_side", "_law_start", "_law_end", "_law_length", "_law_point_here"]) (by decide) (show RS _ (g_law_at_point) from (rs_seq (rs_par (re_call (ra_cons re_var (ra_cons re_var ra_nil))) (re_call (ra_cons re_var (ra_cons re_var ra_nil))))
    (rs_seq (rs_par3 (re_call (ra_cons re_var (ra_cons re_var ra_nil))) (re_call (ra_cons re_var (ra_cons re_var ra_nil))) (re_call (ra_cons re_var (ra_cons re_var ra_nil))))
    (rs_seq (rs_if (rt_test (re_op rb_lt re_var re_var)) (rs_ret (re_op rb_eq re_var re_var)) rs_next)
    (rs_seq (rs_if (rt_test (re_op rb_gt re_var re_var)) (rs_ret (re_op rb_eq re_var (re_op rb_add (re_op rb_add (re_op rb_sub re_var re_var) re_var) re_var))) rs_next)
    (rs_seq (rs_if (rt_test (re_chain rb_lt rb_lt re_var re_var re_var)) (rs_ret (re_op rb_eq re_var (re_if (rt_test (re_op rb_eq re_var re_str)) re_var (re_op rb_add re_var re_var)))) rs_next)
    (rs_ret (re_op rb_in re_var (re_lst (ra_cons re_var (ra_cons (re_op rb_add re_var re_var) ra_nil))))))))))) h⟩
theorem sc_law_right : FnScope ["_law_generator_here", "_law_many", "_law_most", "_law_start", "_law_length", "_law_stretch", "_law_place", "_law_end", "_law_points", "_law_side", "_law_found", "_law_point_here"] ["_law_generator_here"] (defScope s_law_right) := ⟨rfl, rfl, rfl, by decide +kernel, rfl, by decide +kernel, by decide +kernel⟩
noncomputable def g_law_right : SF := (sSeq (sPar 1 2 (fCall 2 (some 0) F_law_random (fCons (fVar 0) (fCons (fC (.int (4 : Int))) fNil))) (fOp gIx (fLst' (fCons (fC (.int (1 : Int))) (fCons (fC (.int (2 : Int))) (fCons (fC (.int (9 : Int))) (fCons (fOp gPow (fC (.int (10 : Int))) (fC (.int (6 : Int)))) (fCons (fOp gPow (fC (.int (10 : Int))) (fC (.int (20 : Int)))) fNil)))))) (fCall 2 (some 0) F_law_random (fCons (fVar 0) (fCons (fC (.int (5 : Int))) fNil)))))
    (sSeq (sPar 3 4 (fCall 3 (some 0) F_law_form (fCons (fVar 0) (fCons (fVar 1) (fCons (fVar 2) fNil)))) (fCall 3 (some 0) F_law_form (fCons (fVar 0) (fCons (fVar 1) (fCons (fVar 2) fNil)))))
    (sSeq (sAsg (fCall 3 (some 0) F_law_form (fCons (fVar 0) (fCons (fVar 1) (fCons (fOp gMul (fVar 2) (fCall 2 (some 0) F_law_random (fCons (fVar 0) (fCons (fC (.int (2 : Int))) fNil)))) fNil)))) (fName 5))
    (sSeq (sPar 6 7 (fCall 5 (some 0) F_law_spot (fCons (fVar 0) (fCons (fVar 1) (fCons (fVar 2) (fCons (fVar 3) (fCons (fVar 5) fNil)))))) (fCall 2 none F_law_added (fCons (fVar 3) (fCons (fVar 5) fNil))))
    (sSeq (sAsg (fOp gAdd (fCall 2 (some 0) F_law_spots (fCons (fVar 0) (fCons (fVar 1) fNil))) (fLst' (fCons (fCall 3 (some 0) F_law_point (fCons (fVar 0) (fCons (fVar 1) (fCons (fOp gPow (fC (.int (10 : Int))) (fC (.int (9 : Int)))) fNil)))) fNil))) (fName 8))
    (sSeq (sFor (fSeqIt (fLst' (fCons (fC (.str "left")) (fCons (fC (.str "right")) fNil)))) (fName 9) (sSeq (sAsg (fCall 6 none F_mark_moved (fCons (fVar 1) (fCons (fVar 6) (fCons (fVar 9) (fCons (fVar 3) (fCons (fVar 7) (fCons (fVar 4) fNil))))))) (fName 10))
    (sSeq (sIf (fTest (fOp gNe (fCB (g1 gRepr) (fCons (fVar 10) fNil)) (fCB (g1 gRepr) (fCons (fCall 5 none F_law_due (fCons (fVar 6) (fCons (fVar 9) (fCons (fVar 3) (fCons (fVar 7) (fCons (fVar 4) fNil)))))) fNil)))) (sRet (fC (.bl false))) sNext)
    (sIf (fTest (fOp (gIs true) (fVar 10) (fC .non))) (sFor (fSeqIt (fVar 8)) (fName 11) (sIf (fNot (fTest (fCall 7 none F_law_at_point (fCons (fVar 10) (fCons (fVar 6) (fCons (fVar 9) (fCons (fVar 3) (fCons (fVar 7) (fCons (fVar 4) (fCons (fVar 11) fNil)))))))))) (sRet (fC (.bl false))) sNext)) sNext))))
    (sRet (fC (.bl true)))))))))
noncomputable def F_law_right : FnF := runDef 12 (g_law_right)
theorem ok_law_right (T : Txt K mg) : DG.FnG P w K mg base CX0 7 T.a_law_right T.d_law_right ["_law_generator_here"] (spD 1 F_law_right) :=
  DG.body0_g (k := 6) T.F_law_right sc_law_right (fun _ _ _ _ h => spD_len h) fun cdv A outer s H vs Q E gg hr h => ⟨_, (pss_cons (ps_par (i := 1) (j := 2) (by rfl) sc_law_right.nd rfl rfl (by decide) rfl rfl (pa_cons (DG.call_g (ok_law_random (P := P) (w := w) (base := base) T) (DG.guards_deeper.trans gg) (hr.mono (j := 2) (by decide)) rfl T.m_law_random T.F_law_random.kp T.b_law_random .nil pass0 (pa_cons (pv 0) (pa_cons pe_int pa_nil))) (pa_cons (pe_ix ix_seq (pe_lst (pa_cons pe_int (pa_cons pe_int (pa_cons pe_int (pa_cons (pe_op op_powX pe_int pe_int) (pa_cons (pe_op op_powX pe_int pe_int) pa_nil)))))) (DG.call_g (ok_law_random (P := P) (w := w) (base := base) T) (DG.guards_deeper.trans gg) (hr.mono (j := 2) (by decide)) rfl T.m_law_random T.F_law_random.kp T.b_law_random .nil pass0 (pa_cons (pv 0) (pa_cons pe_int pa_nil))) (fun _ _ => rfl)) pa_nil)) (by rfl))
    (pss_cons (ps_par (i := 3) (j := 4) (by rfl) sc_law_right.nd rfl rfl (by decide) rfl rfl (pa_cons (DG.call_g (ok_law_form (P := P) (w := w) (base := base) T) (DG.guards_deeper.trans gg) (hr.mono (j := 3) (by decide)) rfl T.m_law_form T.F_law_form.kp T.b_law_form .nil pass0 (pa_cons (pv 0) (pa_cons (pv 1) (pa_cons (pv 2) pa_nil)))) (pa_cons (DG.call_g (ok_law_form (P := P) (w := w) (base := base) T) (DG.guards_deeper.trans gg) (hr.mono (j := 3) (by decide)) rfl T.m_law_form T.F_law_form.kp T.b_law_form .nil pass0 (pa_cons (pv 0) (pa_cons (pv 1) (pa_cons (pv 2) pa_nil)))) pa_nil)) (by rfl))
    (pss_cons (ps_set (i := 5) sc_law_right.nd rfl (Or.inl rfl) (DG.call_g (ok_law_form (P := P) (w := w) (base := base) T) (DG.guards_deeper.trans gg) (hr.mono (j := 3) (by decide)) rfl T.m_law_form T.F_law_form.kp T.b_law_form .nil pass0 (pa_cons (pv 0) (pa_cons (pv 1) (pa_cons (pe_op opMul (pv 2) (DG.call_g (ok_law_random (P := P) (w := w) (base := base) T) (DG.guards_deeper.trans gg) (hr.mono (j := 2) (by decide)) rfl T.m_law_random T.F_law_random.kp T.b_law_random .nil pass0 (pa_cons (pv 0) (pa_cons pe_int pa_nil)))) pa_nil)))))
    (pss_cons (ps_par (i := 6) (j := 7) (by rfl) sc_law_right.nd rfl rfl (by decide) rfl rfl (pa_cons (DG.call_g (ok_law_spot (P := P) (w := w) (base := base) T) (DG.guards_deeper.trans gg) (hr.mono (j := 4) (by decide)) rfl T.m_law_spot T.F_law_spot.kp T.b_law_spot .nil pass0 (pa_cons (pv 0) (pa_cons (pv 1) (pa_cons (pv 2) (pa_cons (pv 3) (pa_cons (pv 5) pa_nil)))))) (pa_cons (DG.call_g (ok_law_added (P := P) (w := w) (base := base) T) (DG.guards_deeper.trans gg) (hr.mono (j := 1) (by decide)) rfl T.m_law_added T.F_law_added.kp T.b_law_added .nil pass0 (pa_cons (pv 3) (pa_cons (pv 5) pa_nil))) pa_nil)) (by rfl))
    (pss_cons (ps_set (i := 8) sc_law_right.nd rfl (Or.inl rfl) (pe_op opAdd (DG.call_g (ok_law_spots (P := P) (w := w) (base := base) T) (DG.guards_deeper.trans gg) (hr.mono (j := 4) (by decide)) rfl T.m_law_spots T.F_law_spots.kp T.b_law_spots .nil pass0 (pa_cons (pv 0) (pa_cons (pv 1) pa_nil))) (pe_lst (pa_cons (DG.call_g (ok_law_point (P := P) (w := w) (base := base) T) (DG.guards_deeper.trans gg) (hr.mono (j := 3) (by decide)) rfl T.m_law_point T.F_law_point.kp T.b_law_point .nil pass0 (pa_cons (pv 0) (pa_cons (pv 1) (pa_cons (pe_op op_powX pe_int pe_int) pa_nil)))) pa_nil))))
    (pss_cons (ps_for PassesOwn.never rfl (pi_seq (pe_lst (pa_cons pe_str (pa_cons pe_str pa_nil)))) (pg_name (i := 9) sc_law_right.nd rfl (Or.inl rfl)) (pss_cons (ps_set (i := 10) sc_law_right.nd rfl (Or.inl rfl) (DG.call_g (ok_mark_moved (P := P) (w := w) (base := base) T) (DG.guards_deeper.trans gg) (hr.mono (j := 6) (by decide)) rfl T.m_mark_moved T.F_mark_moved.kp T.b_mark_moved .nil pass0 (pa_cons (pv 1) (pa_cons (pv 6) (pa_cons (pv 9) (pa_cons (pv 3) (pa_cons (pv 7) (pa_cons (pv 4) pa_nil))))))))
    (pss_cons (ps_if (pt_cmpR (opNeU hr.units) (pe_callB (callRepr (DG.guards_deeper.trans gg) (hu70 hr)) (by rfl) T.n_repr (by decide +kernel) (pa_cons (pv 10) pa_nil)) (pe_callB (callRepr (DG.guards_deeper.trans gg) (hu70 hr)) (by rfl) T.n_repr (by decide +kernel) (pa_cons (DG.call_g (ok_law_due (P := P) (w := w) (base := base) T) (DG.guards_deeper.trans gg) (hr.mono (j := 2) (by decide)) rfl T.m_law_due T.F_law_due.kp T.b_law_due .nil pass0 (pa_cons (pv 6) (pa_cons (pv 9) (pa_cons (pv 3) (pa_cons (pv 7) (pa_cons (pv 4) pa_nil)))))) pa_nil)) (nomark _)) (pss_one (ps_ret pe_bl)) pss_nil)
    (pss_one (ps_if (pt_cmpR opNot (pv 10) pe_non (nomark _)) (pss_one (ps_for PassesOwn.never rfl (pi_seq (pv 8)) (pg_name (i := 11) sc_law_right.nd rfl (Or.inl rfl)) (pss_one (ps_if (pt_not (pt_val (DG.call_g (ok_law_at_point (P := P) (w := w) (base := base) T) (DG.guards_deeper.trans gg) (hr.mono (j := 2) (by decide)) rfl T.m_law_at_point T.F_law_at_point.kp T.b_law_at_point .nil pass0 (pa_cons (pv 10) (pa_cons (pv 6) (pa_cons (pv 9) (pa_cons (pv 3) (pa_cons (pv 7) (pa_cons (pv 4) (pa_cons (pv 11) pa_nil)))))))))) (pss_one (ps_ret pe_bl)) pss_nil)))) pss_nil)))))
    (pss_one (ps_ret pe_bl)))))))),
    body_ok (N := ["_law_generator_here", "_law_many", "_law_most", "_law_start", "_law_length", "_law_stretch", "_law_place", "_law_end", "_law_points", "_law_side", "_law_found", "_law_point_here"]) (ps := ["_law_generator_here"]) (by decide) (show RS _ (g_law_right) from (rs_seq (rs_par (re_call (ra_cons re_var (ra_cons re_int ra_nil))) (re_op rb_ix (re_lst (ra_cons re_int (ra_cons re_int (ra_cons re_int (ra_cons (re_op rb_pow re_int re_int) (ra_cons (re_op rb_pow re_int re_int) ra_nil)))))) (re_call (ra_cons re_var (ra_cons re_int ra_nil)))))
    (rs_seq (rs_par (re_call (ra_cons re_var (ra_cons re_var (ra_cons re_var ra_nil)))) (re_call (ra_cons re_var (ra_cons re_var (ra_cons re_var ra_nil)))))
    (rs_seq (rs_asg (re_call (ra_cons re_var (ra_cons re_var (ra_cons (re_op rb_mul re_var (re_call (ra_cons re_var (ra_cons re_int ra_nil)))) ra_nil)))) (rg_name (i := 5)))
    (rs_seq (rs_par (re_call (ra_cons re_var (ra_cons re_var (ra_cons re_var (ra_cons re_var (ra_cons re_var ra_nil)))))) (re_call (ra_cons re_var (ra_cons re_var ra_nil))))
    (rs_seq (rs_asg (re_op rb_add (re_call (ra_cons re_var (ra_cons re_var ra_nil))) (re_lst (ra_cons (re_call (ra_cons re_var (ra_cons re_var (ra_cons (re_op rb_pow re_int re_int) ra_nil)))) ra_nil))) (rg_name (i := 8)))
    (rs_seq (rs_for (ri_seq (re_lst (ra_cons re_str (ra_cons re_str ra_nil)))) (rg_name (i := 9)) (rs_seq (rs_asg (re_call (ra_cons re_var (ra_cons re_var (ra_cons re_var (ra_cons re_var (ra_cons re_var (ra_cons re_var ra_nil))))))) (rg_name (i := 10)))
    (rs_seq (rs_if (rt_test (re_op rb_ne (re_cb rc_repr (ra_cons re_var ra_nil)) (re_cb rc_repr (ra_cons (re_call (ra_cons re_var (ra_cons re_var (ra_cons re_var (ra_cons re_var (ra_cons re_var ra_nil)))))) ra_nil)))) (rs_ret re_bl) rs_next)
    (rs_if (rt_test (re_op rb_isnot re_var re_non)) (rs_for (ri_seq re_var) (rg_name (i := 11)) (rs_if (rt_not (rt_B (re_call (ra_cons re_var (ra_cons re_var (ra_cons re_var (ra_cons re_var (ra_cons re_var (ra_cons re_var (ra_cons re_var ra_nil)))))))))) (rs_ret re_bl) rs_next)) rs_next))))
    (rs_ret re_bl)))))))) h⟩
theorem sc_law_cell : FnScope ["_law_script", "_law_index"] ["_law_script", "_law_index"] (defScope s_law_cell) := ⟨rfl, rfl, rfl, by decide +kernel, rfl, by decide +kernel, by decide +kernel⟩
theorem ok_law_cell (T : Txt K mg) : DG.FnG P w K mg base CX0 1 T.a_law_cell T.d_law_cell ["_law_script", "_law_index"] (spCell K) :=
  DG.body0_g (k := 0) T.F_law_cell sc_law_cell (fun _ _ _ _ h => spCell_len h) fun cdv A outer s H vs Q E gg hr h => ⟨_, (pss_cons (ps_if (pt_cmpR opLt (pv 1) (pe_callB callLen (by rfl) T.n_len (by decide +kernel) (pa_cons (pv 0) pa_nil)) (nomark _)) (pss_one (ps_ret (pe_ix ix_seq (pv 0) (pv 1) (fun _ _ => rfl)))) pss_nil)
    (pss_one (ps_ret (pe_op op_modN (pe_callB (cr_sum rfl) (by rfl) T.n_sum (by decide +kernel) (pa_cons (pe_slice slU (pv 0) po_none (po_some pe_int)) pa_nil)) pe_int)))), body_cell h⟩
theorem sc_law_generator : FnScope ["_law_script", "_law_index", "_law_seed"] ["_law_script", "_law_index"] (defScope s_law_generator) := ⟨rfl, rfl, rfl, by decide +kernel, rfl, by decide +kernel, by decide +kernel⟩
noncomputable def g_law_generator (K : PySem.W.Frag) : LF := (fThen (sAsg (fCell K 0 1) (fName 2))
    (lLst (fCons (fOp gMod (fCB (g1 gInt1) (fCons (fCB (g2 (gI2 maxI)) (fCons (fOp gMinus (fVar 2) (fOp gPow (fC (.int (10 : Int))) (fC (.int (18 : Int))))) (fCons (fC (.int (0 : Int))) fNil))) fNil)) (fOp gPow (fOp gPow (fC (.int (10 : Int))) (fC (.int (60 : Int)))) (fC (.int (10 : Int))))) (fCons (fOp gMod (fCB (g1 gInt1) (fCons (fVar 2) fNil)) (fC (.int (2147483647 : Int)))) (fCons (fOp gMul (fC (.int (1000 : Int))) (fVar 1)) fNil)))))
noncomputable def F_law_generator (K : PySem.W.Frag) : List Dv → Option (List Dv) := runL 3 (g_law_generator K)
theorem ok_law_generator (T : Txt K mg) : DG.FnG P w K mg base CX0 2 T.a_law_generator T.d_law_generator ["_law_script", "_law_index"] (spL 2 (F_law_generator K)) :=
  DG.body0_g (k := 1) T.F_law_generator sc_law_generator (fun _ _ _ _ h => spL_len h) fun cdv A outer s H vs Q E gg hr h => ⟨_, (pss_cons (ps_set (i := 2) sc_law_generator.nd rfl (Or.inl rfl) (DG.call_g (ok_law_cell (P := P) (w := w) (base := base) T) (DG.guards_deeper.trans gg) (hr.mono (j := 1) (by decide)) rfl T.m_law_cell T.F_law_cell.kp T.b_law_cell .nil pass0 (pa_cons (pv 0) (pa_cons (pv 1) pa_nil))))
    (pss_one (ps_ret (pe_lst (pa_cons (pe_op op_modN (pe_callTy callInt1 (by rfl) T.n_int (by decide +kernel) (pa_cons (pe_callB (callMax2 rfl) (by rfl) T.n_max (by decide +kernel) (pa_cons (pe_op op_sub (pv 2) (pe_op op_powX pe_int pe_int)) (pa_cons pe_int pa_nil))) pa_nil)) (pe_op op_powX (pe_op op_powX pe_int pe_int) pe_int)) (pa_cons (pe_op op_modN (pe_callTy callInt1 (by rfl) T.n_int (by decide +kernel) (pa_cons (pv 2) pa_nil)) pe_int) (pa_cons (pe_op opMul pe_int (pv 1)) pa_nil))))))),
    body_okL (N := ["_law_script", "_law_index", "_law_seed"]) (ps := ["_law_script", "_law_index"]) (by decide) (show RSL _ (g_law_generator K) from (rsl_seq (rs_asg re_cell (rg_name (i := 2)))
    (rsl_ret (rl_lst (ra_cons (re_op rb_mod (re_cb rc_int (ra_cons (re_cb rc_i2 (ra_cons (re_op rb_sub re_var (re_op rb_pow re_int re_int)) (ra_cons re_int ra_nil))) ra_nil)) (re_op rb_pow (re_op rb_pow re_int re_int) re_int)) (ra_cons (re_op rb_mod (re_cb rc_int (ra_cons re_var ra_nil)) re_int) (ra_cons (re_op rb_mul re_int re_var) ra_nil))))))) h⟩
theorem sc_law : FnScope ["_law_script", "_law_index"] ["_law_script"] (defScope s_law) := ⟨rfl, rfl, rfl, by decide +kernel, rfl, by decide +kernel, by decide +kernel⟩
noncomputable def g_law (K : PySem.W.Frag) : SF := (sSeq (sFor (fRng1 (fCons (fC (.int (3 : Int))) fNil)) (fName 1) (sIf (fNot (fTest (fCallN 1 F_law_right (fNew 2 (F_law_generator K) (fCons (fVar 0) (fCons (fVar 1) fNil))) fNil))) (sRet (fC (.bl false))) sNext))
    (sRet (fC (.bl true))))
noncomputable def F_law (K : PySem.W.Frag) : FnF := runDef 2 (g_law K)
theorem ok_law (T : Txt K mg) : DG.FnG P w K mg base CX0 8 T.a_law T.d_law ["_law_script"] (spD 1 (F_law K)) :=
  DG.body0_g (k := 7) T.F_law sc_law (fun _ _ _ _ h => spD_len h) fun cdv A outer s H vs Q E gg hr h => ⟨_, (pss_cons (ps_for PassesOwn.never rfl (pi_range1 (by rfl) T.n_range (pa_cons pe_int pa_nil)) (pg_name (i := 1) sc_law.nd rfl (Or.inl rfl)) (pss_one (ps_if (pt_not (pt_val (DG.call_g (ok_law_right (P := P) (w := w) (base := base) T) (DG.guards_deeper.trans gg) (hr.mono (j := 7) (by decide)) rfl T.m_law_right T.F_law_right.kp T.b_law_right .nil pass0 (pa_cons (DG.call_g (ok_law_generator (P := P) (w := w) (base := base) T) (DG.guards_deeper.trans gg) (hr.mono (j := 2) (by decide)) rfl T.m_law_generator T.F_law_generator.kp T.b_law_generator .nil pass0 (pa_cons (pv 0) (pa_cons (pv 1) pa_nil))) pa_nil)))) (pss_one (ps_ret pe_bl)) pss_nil)))
    (pss_one (ps_ret pe_bl))),
    body_ok (N := ["_law_script", "_law_index"]) (ps := ["_law_script"]) (by decide) (show RS _ (g_law K) from (rs_seq (rs_for (ri_rng1 (ra_cons re_int ra_nil)) (rg_name (i := 1)) (rs_if (rt_not (rt_B (re_callN (rn_call (ra_cons re_var (ra_cons re_var ra_nil))) ra_nil))) (rs_ret re_bl) rs_next))
    (rs_ret re_bl))) h⟩
end
theorem all_mk {l : PySem.W.OpenLaw} {w : World} {K : PySem.W.Frag} {h : Heap} {mg : Str → Option Value} {fa f0 f1 f2 f3 f4 f5 f6 f7 f8 f9 f10 f11 f12 f13 f14 f15 f16 f17 f18 f19 f20 f21 f22 f23 f24 f25 f26 f27 f28 f29 f30 f31 : Addr} (X : K.In h) (G : h.Ns mainGlobals mg) (hfa : mg "law" = some (.ref fa))
    {od0 an0 od1 an1 od2 an2 od3 an3 od4 an4 od5 an5 od6 an6 od7 an7 od8 an8 od9 an9 od10 an10 od11 an11 od12 an12 od13 an13 od14 an14 od15 an15 od16 an16 od17 an17 od18 an18 od19 an19 od20 an20 od21 an21 od22 an22 od23 an23 od24 an24 od25 an25 od26 an26 od27 an27 od28 an28 od29 an29 od30 an30 od31 an31 : Option Addr}
    {sl0 sl1 sl2 sl3 sl4 sl5 sl6 sl7 sl8 sl9 sl10 sl11 sl12 sl13 sl14 sl15 sl16 sl17 sl18 sl19 sl20 sl21 sl22 sl23 sl24 sl25 sl26 sl27 sl28 sl29 sl30 sl31 : Array (Option Value)}
    {oc0 kV0 dc0 pm0 cd0 ct0 oc1 kV1 dc1 pm1 cd1 ct1 oc2 kV2 dc2 pm2 cd2 ct2 oc3 kV3 dc3 pm3 cd3 ct3 oc4 kV4 dc4 pm4 cd4 ct4 oc5 kV5 dc5 pm5 cd5 ct5 oc6 kV6 dc6 pm6 cd6 ct6 oc7 kV7 dc7 pm7 cd7 ct7 oc8 kV8 dc8 pm8 cd8 ct8 oc9 kV9 dc9 pm9 cd9 ct9 oc10 kV10 dc10 pm10 cd10 ct10 oc11 kV11 dc11 pm11 cd11 ct11 oc12 kV12 dc12 pm12 cd12 ct12 oc13 kV13 dc13 pm13 cd13 ct13 oc14 kV14 dc14 pm14 cd14 ct14 oc15 kV15 dc15 pm15 cd15 ct15 oc16 kV16 dc16 pm16 cd16 ct16 oc17 kV17 dc17 pm17 cd17 ct17 oc18 kV18 dc18 pm18 cd18 ct18 oc19 kV19 dc19 pm19 cd19 ct19 oc20 kV20 dc20 pm20 cd20 ct20 oc21 kV21 dc21 pm21 cd21 ct21 oc22 kV22 dc22 pm22 cd22 ct22 oc23 kV23 dc23 pm23 cd23 ct23 oc24 kV24 dc24 pm24 cd24 ct24 oc25 kV25 dc25 pm25 cd25 ct25 oc26 kV26 dc26 pm26 cd26 ct26 oc27 kV27 dc27 pm27 cd27 ct27 oc28 kV28 dc28 pm28 cd28 ct28 oc29 kV29 dc29 pm29 cd29 ct29 oc30 kV30 dc30 pm30 cd30 ct30 oc31 kV31 dc31 pm31 cd31 ct31 : Value}
    {tk_MOST_UNKNOWNS : Tok}
    {c_SIDES : Addr} {od_SIDES : Option Addr} {sl_SIDES : Array (Option Value)} {n_SIDES : Nat} {tk_SIDES_0 tk_SIDES_1 : Tok}
    (a0 : PySem.W.nsIn K mainGlobals "_law_hash" = some (some (.ref f0))) (l0 : K.lookup f0 = some ⟨oc0, od0, .func (PySem.W.fnOf "_law_hash" "_law_hash" (defArgs s_law_hash) (defBody s_law_hash) (defScope s_law_hash) .none kV0 dc0 pm0 an0 cd0 ct0), sl0⟩) (c0 : PySem.W.codeIn K cd0 "_law_hash" = true) (k0 : PySem.W.keepIn K (.ref f0) = true)
    (a1 : PySem.W.nsIn K mainGlobals "_law_random" = some (some (.ref f1))) (l1 : K.lookup f1 = some ⟨oc1, od1, .func (PySem.W.fnOf "_law_random" "_law_random" (defArgs s_law_random) (defBody s_law_random) (defScope s_law_random) .none kV1 dc1 pm1 an1 cd1 ct1), sl1⟩) (c1 : PySem.W.codeIn K cd1 "_law_random" = true) (k1 : PySem.W.keepIn K (.ref f1) = true)
    (a2 : PySem.W.nsIn K mainGlobals "_law_form" = some (some (.ref f2))) (l2 : K.lookup f2 = some ⟨oc2, od2, .func (PySem.W.fnOf "_law_form" "_law_form" (defArgs s_law_form) (defBody s_law_form) (defScope s_law_form) .none kV2 dc2 pm2 an2 cd2 ct2), sl2⟩) (c2 : PySem.W.codeIn K cd2 "_law_form" = true) (k2 : PySem.W.keepIn K (.ref f2) = true)
    (a3 : PySem.W.nsIn K mainGlobals "_law_added" = some (some (.ref f3))) (l3 : K.lookup f3 = some ⟨oc3, od3, .func (PySem.W.fnOf "_law_added" "_law_added" (defArgs s_law_added) (defBody s_law_added) (defScope s_law_added) .none kV3 dc3 pm3 an3 cd3 ct3), sl3⟩) (c3 : PySem.W.codeIn K cd3 "_law_added" = true) (k3 : PySem.W.keepIn K (.ref f3) = true)
    (a4 : PySem.W.nsIn K mainGlobals "_law_part" = some (some (.ref f4))) (l4 : K.lookup f4 = some ⟨oc4, od4, .func (PySem.W.fnOf "_law_part" "_law_part" (defArgs s_law_part) (defBody s_law_part) (defScope s_law_part) .none kV4 dc4 pm4 an4 cd4 ct4), sl4⟩) (c4 : PySem.W.codeIn K cd4 "_law_part" = true) (k4 : PySem.W.keepIn K (.ref f4) = true)
    (a5 : PySem.W.nsIn K mainGlobals "_law_spot" = some (some (.ref f5))) (l5 : K.lookup f5 = some ⟨oc5, od5, .func (PySem.W.fnOf "_law_spot" "_law_spot" (defArgs s_law_spot) (defBody s_law_spot) (defScope s_law_spot) .none kV5 dc5 pm5 an5 cd5 ct5), sl5⟩) (c5 : PySem.W.codeIn K cd5 "_law_spot" = true) (k5 : PySem.W.keepIn K (.ref f5) = true)
    (a6 : PySem.W.nsIn K mainGlobals "_law_point" = some (some (.ref f6))) (l6 : K.lookup f6 = some ⟨oc6, od6, .func (PySem.W.fnOf "_law_point" "_law_point" (defArgs s_law_point) (defBody s_law_point) (defScope s_law_point) .none kV6 dc6 pm6 an6 cd6 ct6), sl6⟩) (c6 : PySem.W.codeIn K cd6 "_law_point" = true) (k6 : PySem.W.keepIn K (.ref f6) = true)
    (a7 : PySem.W.nsIn K mainGlobals "_law_spots" = some (some (.ref f7))) (l7 : K.lookup f7 = some ⟨oc7, od7, .func (PySem.W.fnOf "_law_spots" "_law_spots" (defArgs s_law_spots) (defBody s_law_spots) (defScope s_law_spots) .none kV7 dc7 pm7 an7 cd7 ct7), sl7⟩) (c7 : PySem.W.codeIn K cd7 "_law_spots" = true) (k7 : PySem.W.keepIn K (.ref f7) = true)
    (a8 : PySem.W.nsIn K mainGlobals "is_whole" = some (some (.ref f8))) (l8 : K.lookup f8 = some ⟨oc8, od8, .func (PySem.W.fnOf "is_whole" "is_whole" (defArgs s_is_whole) (defBody s_is_whole) (defScope s_is_whole) .none kV8 dc8 pm8 an8 cd8 ct8), sl8⟩) (c8 : PySem.W.codeIn K cd8 "is_whole" = true) (k8 : PySem.W.keepIn K (.ref f8) = true)
    (a9 : PySem.W.nsIn K mainGlobals "is_between" = some (some (.ref f9))) (l9 : K.lookup f9 = some ⟨oc9, od9, .func (PySem.W.fnOf "is_between" "is_between" (defArgs s_is_between) (defBody s_is_between) (defScope s_is_between) .none kV9 dc9 pm9 an9 cd9 ct9), sl9⟩) (c9 : PySem.W.codeIn K cd9 "is_between" = true) (k9 : PySem.W.keepIn K (.ref f9) = true)
    (a10 : PySem.W.nsIn K mainGlobals "check_number" = some (some (.ref f10))) (l10 : K.lookup f10 = some ⟨oc10, od10, .func (PySem.W.fnOf "check_number" "check_number" (defArgs s_check_number) (defBody s_check_number) (defScope s_check_number) .none kV10 dc10 pm10 an10 cd10 ct10), sl10⟩) (c10 : PySem.W.codeIn K cd10 "check_number" = true) (k10 : PySem.W.keepIn K (.ref f10) = true)
    (a11 : PySem.W.nsIn K mainGlobals "check_many" = some (some (.ref f11))) (l11 : K.lookup f11 = some ⟨oc11, od11, .func (PySem.W.fnOf "check_many" "check_many" (defArgs s_check_many) (defBody s_check_many) (defScope s_check_many) .none kV11 dc11 pm11 an11 cd11 ct11), sl11⟩) (c11 : PySem.W.codeIn K cd11 "check_many" = true) (k11 : PySem.W.keepIn K (.ref f11) = true)
    (a12 : PySem.W.nsIn K mainGlobals "are_counts" = some (some (.ref f12))) (l12 : K.lookup f12 = some ⟨oc12, od12, .func (PySem.W.fnOf "are_counts" "are_counts" (defArgs s_are_counts) (defBody s_are_counts) (defScope s_are_counts) .none kV12 dc12 pm12 an12 cd12 ct12), sl12⟩) (c12 : PySem.W.codeIn K cd12 "are_counts" = true) (k12 : PySem.W.keepIn K (.ref f12) = true)
    (a13 : PySem.W.nsIn K mainGlobals "is_form_for" = some (some (.ref f13))) (l13 : K.lookup f13 = some ⟨oc13, od13, .func (PySem.W.fnOf "is_form_for" "is_form_for" (defArgs s_is_form_for) (defBody s_is_form_for) (defScope s_is_form_for) .none kV13 dc13 pm13 an13 cd13 ct13), sl13⟩) (c13 : PySem.W.codeIn K cd13 "is_form_for" = true) (k13 : PySem.W.keepIn K (.ref f13) = true)
    (a14 : PySem.W.nsIn K mainGlobals "check_form" = some (some (.ref f14))) (l14 : K.lookup f14 = some ⟨oc14, od14, .func (PySem.W.fnOf "check_form" "check_form" (defArgs s_check_form) (defBody s_check_form) (defScope s_check_form) .none kV14 dc14 pm14 an14 cd14 ct14), sl14⟩) (c14 : PySem.W.codeIn K cd14 "check_form" = true) (k14 : PySem.W.keepIn K (.ref f14) = true)
    (a15 : PySem.W.nsIn K mainGlobals "check_side" = some (some (.ref f15))) (l15 : K.lookup f15 = some ⟨oc15, od15, .func (PySem.W.fnOf "check_side" "check_side" (defArgs s_check_side) (defBody s_check_side) (defScope s_check_side) .none kV15 dc15 pm15 an15 cd15 ct15), sl15⟩) (c15 : PySem.W.codeIn K cd15 "check_side" = true) (k15 : PySem.W.keepIn K (.ref f15) = true)
    (a16 : PySem.W.nsIn K mainGlobals "form_below" = some (some (.ref f16))) (l16 : K.lookup f16 = some ⟨oc16, od16, .func (PySem.W.fnOf "form_below" "form_below" (defArgs s_form_below) (defBody s_form_below) (defScope s_form_below) .none kV16 dc16 pm16 an16 cd16 ct16), sl16⟩) (c16 : PySem.W.codeIn K cd16 "form_below" = true) (k16 : PySem.W.keepIn K (.ref f16) = true)
    (a17 : PySem.W.nsIn K mainGlobals "check_in_order" = some (some (.ref f17))) (l17 : K.lookup f17 = some ⟨oc17, od17, .func (PySem.W.fnOf "check_in_order" "check_in_order" (defArgs s_check_in_order) (defBody s_check_in_order) (defScope s_check_in_order) .none kV17 dc17 pm17 an17 cd17 ct17), sl17⟩) (c17 : PySem.W.codeIn K cd17 "check_in_order" = true) (k17 : PySem.W.keepIn K (.ref f17) = true)
    (a18 : PySem.W.nsIn K mainGlobals "form_sum" = some (some (.ref f18))) (l18 : K.lookup f18 = some ⟨oc18, od18, .func (PySem.W.fnOf "form_sum" "form_sum" (defArgs s_form_sum) (defBody s_form_sum) (defScope s_form_sum) .none kV18 dc18 pm18 an18 cd18 ct18), sl18⟩) (c18 : PySem.W.codeIn K cd18 "form_sum" = true) (k18 : PySem.W.keepIn K (.ref f18) = true)
    (a19 : PySem.W.nsIn K mainGlobals "form_times" = some (some (.ref f19))) (l19 : K.lookup f19 = some ⟨oc19, od19, .func (PySem.W.fnOf "form_times" "form_times" (defArgs s_form_times) (defBody s_form_times) (defScope s_form_times) .none kV19 dc19 pm19 an19 cd19 ct19), sl19⟩) (c19 : PySem.W.codeIn K cd19 "form_times" = true) (k19 : PySem.W.keepIn K (.ref f19) = true)
    (a20 : PySem.W.nsIn K mainGlobals "form_less" = some (some (.ref f20))) (l20 : K.lookup f20 = some ⟨oc20, od20, .func (PySem.W.fnOf "form_less" "form_less" (defArgs s_form_less) (defBody s_form_less) (defScope s_form_less) .none kV20 dc20 pm20 an20 cd20 ct20), sl20⟩) (c20 : PySem.W.codeIn K cd20 "form_less" = true) (k20 : PySem.W.keepIn K (.ref f20) = true)
    (a21 : PySem.W.nsIn K mainGlobals "moved_place" = some (some (.ref f21))) (l21 : K.lookup f21 = some ⟨oc21, od21, .func (PySem.W.fnOf "moved_place" "moved_place" (defArgs s_moved_place) (defBody s_moved_place) (defScope s_moved_place) .none kV21 dc21 pm21 an21 cd21 ct21), sl21⟩) (c21 : PySem.W.codeIn K cd21 "moved_place" = true) (k21 : PySem.W.keepIn K (.ref f21) = true)
    (a22 : PySem.W.nsIn K mainGlobals "mark_moved" = some (some (.ref f22))) (l22 : K.lookup f22 = some ⟨oc22, od22, .func (PySem.W.fnOf "mark_moved" "mark_moved" (defArgs s_mark_moved) (defBody s_mark_moved) (defScope s_mark_moved) .none kV22 dc22 pm22 an22 cd22 ct22), sl22⟩) (c22 : PySem.W.codeIn K cd22 "mark_moved" = true) (k22 : PySem.W.keepIn K (.ref f22) = true)
    (a23 : PySem.W.nsIn K mainGlobals "_law_below" = some (some (.ref f23))) (l23 : K.lookup f23 = some ⟨oc23, od23, .func (PySem.W.fnOf "_law_below" "_law_below" (defArgs s_law_below) (defBody s_law_below) (defScope s_law_below) .none kV23 dc23 pm23 an23 cd23 ct23), sl23⟩) (c23 : PySem.W.codeIn K cd23 "_law_below" = true) (k23 : PySem.W.keepIn K (.ref f23) = true)
    (a24 : PySem.W.nsIn K mainGlobals "_law_less" = some (some (.ref f24))) (l24 : K.lookup f24 = some ⟨oc24, od24, .func (PySem.W.fnOf "_law_less" "_law_less" (defArgs s_law_less) (defBody s_law_less) (defScope s_law_less) .none kV24 dc24 pm24 an24 cd24 ct24), sl24⟩) (c24 : PySem.W.codeIn K cd24 "_law_less" = true) (k24 : PySem.W.keepIn K (.ref f24) = true)
    (a25 : PySem.W.nsIn K mainGlobals "_law_due" = some (some (.ref f25))) (l25 : K.lookup f25 = some ⟨oc25, od25, .func (PySem.W.fnOf "_law_due" "_law_due" (defArgs s_law_due) (defBody s_law_due) (defScope s_law_due) .none kV25 dc25 pm25 an25 cd25 ct25), sl25⟩) (c25 : PySem.W.codeIn K cd25 "_law_due" = true) (k25 : PySem.W.keepIn K (.ref f25) = true)
    (a26 : PySem.W.nsIn K mainGlobals "_law_value" = some (some (.ref f26))) (l26 : K.lookup f26 = some ⟨oc26, od26, .func (PySem.W.fnOf "_law_value" "_law_value" (defArgs s_law_value) (defBody s_law_value) (defScope s_law_value) .none kV26 dc26 pm26 an26 cd26 ct26), sl26⟩) (c26 : PySem.W.codeIn K cd26 "_law_value" = true) (k26 : PySem.W.keepIn K (.ref f26) = true)
    (a27 : PySem.W.nsIn K mainGlobals "_law_at_point" = some (some (.ref f27))) (l27 : K.lookup f27 = some ⟨oc27, od27, .func (PySem.W.fnOf "_law_at_point" "_law_at_point" (defArgs s_law_at_point) (defBody s_law_at_point) (defScope s_law_at_point) .none kV27 dc27 pm27 an27 cd27 ct27), sl27⟩) (c27 : PySem.W.codeIn K cd27 "_law_at_point" = true) (k27 : PySem.W.keepIn K (.ref f27) = true)
    (a28 : PySem.W.nsIn K mainGlobals "_law_right" = some (some (.ref f28))) (l28 : K.lookup f28 = some ⟨oc28, od28, .func (PySem.W.fnOf "_law_right" "_law_right" (defArgs s_law_right) (defBody s_law_right) (defScope s_law_right) .none kV28 dc28 pm28 an28 cd28 ct28), sl28⟩) (c28 : PySem.W.codeIn K cd28 "_law_right" = true) (k28 : PySem.W.keepIn K (.ref f28) = true)
    (a29 : PySem.W.nsIn K mainGlobals "_law_cell" = some (some (.ref f29))) (l29 : K.lookup f29 = some ⟨oc29, od29, .func (PySem.W.fnOf "_law_cell" "_law_cell" (defArgs s_law_cell) (defBody s_law_cell) (defScope s_law_cell) .none kV29 dc29 pm29 an29 cd29 ct29), sl29⟩) (c29 : PySem.W.codeIn K cd29 "_law_cell" = true) (k29 : PySem.W.keepIn K (.ref f29) = true)
    (a30 : PySem.W.nsIn K mainGlobals "_law_generator" = some (some (.ref f30))) (l30 : K.lookup f30 = some ⟨oc30, od30, .func (PySem.W.fnOf "_law_generator" "_law_generator" (defArgs s_law_generator) (defBody s_law_generator) (defScope s_law_generator) .none kV30 dc30 pm30 an30 cd30 ct30), sl30⟩) (c30 : PySem.W.codeIn K cd30 "_law_generator" = true) (k30 : PySem.W.keepIn K (.ref f30) = true)
    (a31 : PySem.W.nsIn K mainGlobals "law" = some (some (.ref f31))) (l31 : K.lookup f31 = some ⟨oc31, od31, .func (PySem.W.fnOf "law" "law" (defArgs s_law) (defBody s_law) (defScope s_law) .none kV31 dc31 pm31 an31 cd31 ct31), sl31⟩) (c31 : PySem.W.codeIn K cd31 "law" = true) (k31 : PySem.W.keepIn K (.ref f31) = true)
    (v_MOST_UNKNOWNS : PySem.W.nsIn K mainGlobals "MOST_UNKNOWNS" = some (some (.int 3 tk_MOST_UNKNOWNS)))
    (v_SIDES : PySem.W.nsIn K mainGlobals "SIDES" = some (some (.ref c_SIDES))) (k_SIDES : K.lookup c_SIDES = some ⟨.type "tuple", od_SIDES, .seq #[.str "left" tk_SIDES_0, .str "right" tk_SIDES_1] n_SIDES, sl_SIDES⟩)
    (z_bool : PySem.W.nsIn K mainGlobals "bool" = some none)
    (z_int : PySem.W.nsIn K mainGlobals "int" = some none)
    (z_isinstance : PySem.W.nsIn K mainGlobals "isinstance" = some none)
    (z_len : PySem.W.nsIn K mainGlobals "len" = some none)
    (z_max : PySem.W.nsIn K mainGlobals "max" = some none)
    (z_range : PySem.W.nsIn K mainGlobals "range" = some none)
    (z_repr : PySem.W.nsIn K mainGlobals "repr" = some none)
    (z_str : PySem.W.nsIn K mainGlobals "str" = some none)
    (z_sum : PySem.W.nsIn K mainGlobals "sum" = some none)
    (z_tuple : PySem.W.nsIn K mainGlobals "tuple" = some none)
    (z_zip : PySem.W.nsIn K mainGlobals "zip" = some none)
    : ∃ fd : FuncData, (∀ (s : Shared) (v : Value), BindsTo s fd ⟨[v], []⟩ [("_law_script", v)]) ∧ ∀ base : Heap, K.In base → base.Ns mainGlobals mg → DG.FnG l.prog w K mg base CX0 8 fa fd ["_law_script"] (spD 1 (F_law K)) := by
  have e := hfa.symm.trans (PySem.W.mg_of X G a31)
  cases e
  have F0 := fun_mk (st := s_law_hash) l0 c0 k0
  have F1 := fun_mk (st := s_law_random) l1 c1 k1
  have F2 := fun_mk (st := s_law_form) l2 c2 k2
  have F3 := fun_mk (st := s_law_added) l3 c3 k3
  have F4 := fun_mk (st := s_law_part) l4 c4 k4
  have F5 := fun_mk (st := s_law_spot) l5 c5 k5
  have F6 := fun_mk (st := s_law_point) l6 c6 k6
  have F7 := fun_mk (st := s_law_spots) l7 c7 k7
  have F8 := fun_mk (st := s_is_whole) l8 c8 k8
  have F9 := fun_mk (st := s_is_between) l9 c9 k9
  have F10 := fun_mk (st := s_check_number) l10 c10 k10
  have F11 := fun_mk (st := s_check_many) l11 c11 k11
  have F12 := fun_mk (st := s_are_counts) l12 c12 k12
  have F13 := fun_mk (st := s_is_form_for) l13 c13 k13
  have F14 := fun_mk (st := s_check_form) l14 c14 k14
  have F15 := fun_mk (st := s_check_side) l15 c15 k15
  have F16 := fun_mk (st := s_form_below) l16 c16 k16
  have F17 := fun_mk (st := s_check_in_order) l17 c17 k17
  have F18 := fun_mk (st := s_form_sum) l18 c18 k18
  have F19 := fun_mk (st := s_form_times) l19 c19 k19
  have F20 := fun_mk (st := s_form_less) l20 c20 k20
  have F21 := fun_mk (st := s_moved_place) l21 c21 k21
  have F22 := fun_mk (st := s_mark_moved) l22 c22 k22
  have F23 := fun_mk (st := s_law_below) l23 c23 k23
  have F24 := fun_mk (st := s_law_less) l24 c24 k24
  have F25 := fun_mk (st := s_law_due) l25 c25 k25
  have F26 := fun_mk (st := s_law_value) l26 c26 k26
  have F27 := fun_mk (st := s_law_at_point) l27 c27 k27
  have F28 := fun_mk (st := s_law_right) l28 c28 k28
  have F29 := fun_mk (st := s_law_cell) l29 c29 k29
  have F30 := fun_mk (st := s_law_generator) l30 c30 k30
  have F31 := fun_mk (st := s_law) l31 c31 k31
  have b0 := F0.binds (ps := ["_law_seed", "_law_index"]) fun _ _ _ _ _ _ us hl => match us, hl with | [_, _], _ => rfl
  have b1 := F1.binds (ps := ["_law_generator_here", "_law_bound"]) fun _ _ _ _ _ _ us hl => match us, hl with | [_, _], _ => rfl
  have b2 := F2.binds (ps := ["_law_generator_here", "_law_many", "_law_most"]) fun _ _ _ _ _ _ us hl => match us, hl with | [_, _, _], _ => rfl
  have b3 := F3.binds (ps := ["_law_one", "_law_other"]) fun _ _ _ _ _ _ us hl => match us, hl with | [_, _], _ => rfl
  have b4 := F4.binds (ps := ["_law_generator_here", "_law_form_here"]) fun _ _ _ _ _ _ us hl => match us, hl with | [_, _], _ => rfl
  have b5 := F5.binds (ps := ["_law_generator_here", "_law_many", "_law_most", "_law_start", "_law_stretch"]) fun _ _ _ _ _ _ us hl => match us, hl with | [_, _, _, _, _], _ => rfl
  have b6 := F6.binds (ps := ["_law_generator_here", "_law_many", "_law_most"]) fun _ _ _ _ _ _ us hl => match us, hl with | [_, _, _], _ => rfl
  have b7 := F7.binds (ps := ["_law_generator_here", "_law_many"]) fun _ _ _ _ _ _ us hl => match us, hl with | [_, _], _ => rfl
  have b8 := F8.binds (ps := ["value"]) fun _ _ _ _ _ _ us hl => match us, hl with | [_], _ => rfl
  have b9 := F9.binds (ps := ["value", "low", "high"]) fun _ _ _ _ _ _ us hl => match us, hl with | [_, _, _], _ => rfl
  have b10 := F10.binds (ps := ["number", "low", "high"]) fun _ _ _ _ _ _ us hl => match us, hl with | [_, _, _], _ => rfl
  have b11 := F11.binds (ps := ["many"]) fun _ _ _ _ _ _ us hl => match us, hl with | [_], _ => rfl
  have b12 := F12.binds (ps := ["items"]) fun _ _ _ _ _ _ us hl => match us, hl with | [_], _ => rfl
  have b13 := F13.binds (ps := ["many", "value"]) fun _ _ _ _ _ _ us hl => match us, hl with | [_, _], _ => rfl
  have b14 := F14.binds (ps := ["many", "form"]) fun _ _ _ _ _ _ us hl => match us, hl with | [_, _], _ => rfl
  have b15 := F15.binds (ps := ["side"]) fun _ _ _ _ _ _ us hl => match us, hl with | [_], _ => rfl
  have b16 := F16.binds (ps := ["one", "other"]) fun _ _ _ _ _ _ us hl => match us, hl with | [_, _], _ => rfl
  have b17 := F17.binds (ps := ["start", "end"]) fun _ _ _ _ _ _ us hl => match us, hl with | [_, _], _ => rfl
  have b18 := F18.binds (ps := ["one", "other"]) fun _ _ _ _ _ _ us hl => match us, hl with | [_, _], _ => rfl
  have b19 := F19.binds (ps := ["number", "form"]) fun _ _ _ _ _ _ us hl => match us, hl with | [_, _], _ => rfl
  have b20 := F20.binds (ps := ["one", "other"]) fun _ _ _ _ _ _ us hl => match us, hl with | [_, _], _ => rfl
  have b21 := F21.binds (ps := ["place", "side", "start", "end", "length"]) fun _ _ _ _ _ _ us hl => match us, hl with | [_, _, _, _, _], _ => rfl
  have b22 := F22.binds (ps := ["many", "place", "side", "start", "end", "length"]) fun _ _ _ _ _ _ us hl => match us, hl with | [_, _, _, _, _, _], _ => rfl
  have b23 := F23.binds (ps := ["_law_one", "_law_other"]) fun _ _ _ _ _ _ us hl => match us, hl with | [_, _], _ => rfl
  have b24 := F24.binds (ps := ["_law_one", "_law_other"]) fun _ _ _ _ _ _ us hl => match us, hl with | [_, _], _ => rfl
  have b25 := F25.binds (ps := ["_law_place", "_law_side", "_law_start", "_law_end", "_law_length"]) fun _ _ _ _ _ _ us hl => match us, hl with | [_, _, _, _, _], _ => rfl
  have b26 := F26.binds (ps := ["_law_form_here", "_law_point_here"]) fun _ _ _ _ _ _ us hl => match us, hl with | [_, _], _ => rfl
  have b27 := F27.binds (ps := ["_law_found", "_law_place", "_law_side", "_law_start", "_law_end", "_law_length", "_law_point_here"]) fun _ _ _ _ _ _ us hl => match us, hl with | [_, _, _, _, _, _, _], _ => rfl
  have b28 := F28.binds (ps := ["_law_generator_here"]) fun _ _ _ _ _ _ us hl => match us, hl with | [_], _ => rfl
  have b29 := F29.binds (ps := ["_law_script", "_law_index"]) fun _ _ _ _ _ _ us hl => match us, hl with | [_, _], _ => rfl
  have b30 := F30.binds (ps := ["_law_script", "_law_index"]) fun _ _ _ _ _ _ us hl => match us, hl with | [_, _], _ => rfl
  have b31 := F31.binds (ps := ["_law_script"]) fun _ _ _ _ _ _ us hl => match us, hl with | [_], _ => rfl
  let T : Txt K mg := ⟨_, _, F0, b0, PySem.W.mg_of X G a0, _, _, F1, b1, PySem.W.mg_of X G a1, _, _, F2, b2, PySem.W.mg_of X G a2, _, _, F3, b3, PySem.W.mg_of X G a3, _, _, F4, b4, PySem.W.mg_of X G a4, _, _, F5, b5, PySem.W.mg_of X G a5, _, _, F6, b6, PySem.W.mg_of X G a6, _, _, F7, b7, PySem.W.mg_of X G a7, _, _, F8, b8, PySem.W.mg_of X G a8, _, _, F9, b9, PySem.W.mg_of X G a9, _, _, F10, b10, PySem.W.mg_of X G a10, _, _, F11, b11, PySem.W.mg_of X G a11, _, _, F12, b12, PySem.W.mg_of X G a12, _, _, F13, b13, PySem.W.mg_of X G a13, _, _, F14, b14, PySem.W.mg_of X G a14, _, _, F15, b15, PySem.W.mg_of X G a15, _, _, F16, b16, PySem.W.mg_of X G a16, _, _, F17, b17, PySem.W.mg_of X G a17, _, _, F18, b18, PySem.W.mg_of X G a18, _, _, F19, b19, PySem.W.mg_of X G a19, _, _, F20, b20, PySem.W.mg_of X G a20, _, _, F21, b21, PySem.W.mg_of X G a21, _, _, F22, b22, PySem.W.mg_of X G a22, _, _, F23, b23, PySem.W.mg_of X G a23, _, _, F24, b24, PySem.W.mg_of X G a24, _, _, F25, b25, PySem.W.mg_of X G a25, _, _, F26, b26, PySem.W.mg_of X G a26, _, _, F27, b27, PySem.W.mg_of X G a27, _, _, F28, b28, PySem.W.mg_of X G a28, _, _, F29, b29, PySem.W.mg_of X G a29, _, _, F30, b30, PySem.W.mg_of X G a30, _, _, F31, b31, PySem.W.mg_of X G a31, tk_MOST_UNKNOWNS, PySem.W.mg_of X G v_MOST_UNKNOWNS, _, PySem.W.mg_of X G v_SIDES, fun H => .inr ⟨_, _, _, k_SIDES, rfl, rfl, (by rw [sizeLine_eq]; exact (by decide : 2 ≤ 16777216)), (.cons ⟨_, rfl⟩ (.cons ⟨_, rfl⟩ .nil))⟩, PySem.W.mg_none_of X G z_bool, PySem.W.mg_none_of X G z_int, PySem.W.mg_none_of X G z_isinstance, PySem.W.mg_none_of X G z_len, PySem.W.mg_none_of X G z_max, PySem.W.mg_none_of X G z_range, PySem.W.mg_none_of X G z_repr, PySem.W.mg_none_of X G z_str, PySem.W.mg_none_of X G z_sum, PySem.W.mg_none_of X G z_tuple, PySem.W.mg_none_of X G z_zip⟩
  exact ⟨PySem.W.fnOf "law" "law" (defArgs s_law) (defBody s_law) (defScope s_law) .none kV31 dc31 pm31 an31 cd31 ct31, fun s v => .of_eq rfl, fun base _ _ => ok_law T⟩
end Law

set_option Elab.async false
set_option linter.all false
set_option maxRecDepth 100000
set_option maxHeartbeats 4000000
namespace Law
open PySem L2 DL
theorem cm {i j : Int} (h1 : i.natAbs < 2 ^ 1000) (h2 : j.natAbs < 2 ^ 1000) : CMulW i j := by
  unfold CMulW
  have a : ∀ n : Nat, n < 2 ^ 1000 → n.log2 < 1000 := fun n h => by
    by_cases z : n = 0
    · subst z
      decide
    · exact (Nat.log2_lt z).mpr h
  have := a _ h1
  have := a _ h2
  omega
theorem hash_ok {s i : Int} (h0 : 0 ≤ s) (h1 : s < 2 ^ 31) (g0 : 0 ≤ i) (g1 : i < 2 ^ 31) : ∃ h, F_law_hash [.dat (.int s), .dat (.int i)] = some (.int h, []) ∧ 0 ≤ h ∧ h < 2147483647 := by
  have m : ∀ {a b : Int} {k l : Nat}, 0 ≤ a → 0 ≤ b → a < 2 ^ k → b < 2 ^ l → 0 ≤ a * b ∧ a * b < 2 ^ (k + l) := fun {a b k l} ha hb h1 h2 => by
    refine ⟨Int.mul_nonneg ha hb, ?_⟩
    rw [Int.pow_add]
    exact Int.lt_of_le_of_lt (Int.mul_le_mul_of_nonneg_left (Int.le_of_lt h2) ha) (Int.mul_lt_mul_of_pos_right h1 (Int.pow_pos (by decide)))
  have c1 : CMulW s 1140671 := cm (by omega) (by omega)
  have c2 : CMulW 27644437 i := cm (by omega) (by omega)
  have e3 := m (a := 27644437 * i) (k := 60) (l := 31) (by omega) g0 (by omega) g1
  have c3 : CMulW (27644437 * i) i := cm (by omega) (by omega)
  have c4 : CMulW 131 i := cm (by omega) (by omega)
  have f1 := Int.fmod_nonneg_of_pos (a := s * 1140671 + 27644437 * i * i + 131 * i + 19) (b := 2147483629) (by decide)
  have f2 := Int.fmod_lt_of_pos (a := s * 1140671 + 27644437 * i * i + 131 * i + 19) (b := 2147483629) (by decide)
  generalize hx : (s * 1140671 + 27644437 * i * i + 131 * i + 19).fmod 2147483629 = x at f1 f2
  have e5 := m (k := 31) (l := 31) f1 f1 (by omega) (by omega)
  have c5 : CMulW x x := cm (by omega) (by omega)
  have c6 : CMulW 62089 i := cm (by omega) (by omega)
  have f3 := Int.fmod_nonneg_of_pos (a := x * x + 62089 * i + 32416187) (b := 2147483587) (by decide)
  have f4 := Int.fmod_lt_of_pos (a := x * x + 62089 * i + 32416187) (b := 2147483587) (by decide)
  generalize hy : (x * x + 62089 * i + 32416187).fmod 2147483587 = y at f3 f4
  have c7 : CMulW y 48271 := cm (by omega) (by omega)
  refine ⟨(y * 48271).fmod 2147483647, ?_, Int.fmod_nonneg_of_pos _ (by decide), Int.fmod_lt_of_pos _ (by decide)⟩
  simp only [F_law_hash, g_law_hash, e_c, e_nil, e_cons, e_op, e_un, e_cb, e_if, e_test, e_and, e_or, e_not, e_andV, e_orV, e_notV, e_chain, e_tup, e_lst, e_lLst, e_lListOf, e_ofL, e_part, e_noPart, e_sl, e_isi, e_yes, e_bits, e_seq, e_next, e_brk, e_cont, e_never, e_asg, e_ret, e_retN, e_sif, e_drop, e_own, e_par, e_parOD, e_parDO, e_par3, e_app, e_setI, e_aug, e_for, e_call, e_callN, e_new, e_then, e_callF, e_callF0, e_seqIt, e_rng1, e_rng2, e_zipN, e_zipS, e_gtup, e_gnil, e_gcons, e_frzs0, e_frzs1, e_g1, e_g2, e_loop0, e_loop1, e_run, e_out0, e_out1, e_out2, Nat.zero_le, Option.bind_some, Option.bind_none, Option.map_some, Option.map_none, List.length_cons, List.length_nil, List.cons_append, List.nil_append, List.replicate_succ, List.replicate_zero, List.append_nil, List.getElem?_cons_zero, List.getElem?_cons_succ, List.set_cons_zero, List.set_cons_succ, List.map_cons, List.map_nil, Nat.reduceAdd, Nat.reduceSub, Nat.reduceLT, Nat.reduceLeDiff, Nat.reduceEqDiff, if_true, if_false, reduceIte, Bool.false_eq_true, Bool.not_true, Bool.not_false, ne_eq, Int.reduceEq, Int.reduceNe, not_false_eq_true, not_true_eq_false, Int.reduceLT, Int.reduceLE, Int.reduceNeg, Int.reduceSub, Int.reduceAdd, decide_true, decide_false, true_and, and_true, and_false, false_and, and_self, fVar, fName, val, frz, look, asB, asI, gAdd, gMul, gMod, gFdiv, gMinus, gInt, gInt1, gI1, gI2, gGt, gLt, gLe, gGe, gCmp, gIx, seqL, asSeq, asSeqF, ownL, gSl, gLen, gListOf, gTupOf, gIs, canSet, noOwnB, c1, c2, c3, c4, c5, c6, c7, hx, hy]
def Good (n : Nat) (xs : List Dv) : Prop := ∃ a s c : Int, xs = [.int a, .int s, .int c] ∧ 0 ≤ a ∧ 0 ≤ s ∧ s < 2 ^ 31 ∧ 0 ≤ c ∧ c ≤ n
noncomputable def rbody : SF := (sSeq (sSetI 0 (fOp gAdd (fOp gIx (fVar 0) (fC (.int (2 : Int)))) (fC (.int (1 : Int)))) (fC (.int (2 : Int))))
    (sAsg (fOp gAdd (fOp gMul (fVar 2) (fC (.int (2147483587 : Int)))) (fCall 2 none F_law_hash (fCons (fOp gIx (fVar 0) (fC (.int (1 : Int)))) (fCons (fOp gIx (fVar 0) (fC (.int (2 : Int)))) fNil)))) (fName 2)))
theorem atI3 {a b c : Dv} : atI [a, b, c] 0 = some a ∧ atI [a, b, c] 1 = some b ∧ atI [a, b, c] 2 = some c := ⟨rfl, rfl, rfl⟩
theorem ixN3 : ixN 3 0 = some 0 ∧ ixN 3 1 = some 1 ∧ ixN 3 2 = some 2 := ⟨rfl, rfl, rfl⟩
theorem rbody_ok {a s b c d : Int} {x : Slot} {h : Int} (hh : F_law_hash [.dat (.int s), .dat (.int (c + 1))] = some (.int h, [])) (hc : CMulW d 2147483587) :
    rbody [.own true [.int a, .int s, .int c], .dat (.int b), .dat (.int d), x] = some (.nx [.own true [.int a, .int s, .int (c + 1)], .dat (.int b), .dat (.int (d * 2147483587 + h)), x]) := by
  simp only [rbody, e_c, e_nil, e_cons, e_op, e_un, e_cb, e_if, e_test, e_and, e_or, e_not, e_andV, e_orV, e_notV, e_chain, e_tup, e_lst, e_lLst, e_lListOf, e_ofL, e_part, e_noPart, e_sl, e_isi, e_yes, e_bits, e_seq, e_next, e_brk, e_cont, e_never, e_asg, e_ret, e_retN, e_sif, e_drop, e_own, e_par, e_parOD, e_parDO, e_par3, e_app, e_setI, e_aug, e_for, e_call, e_callN, e_new, e_then, e_callF, e_callF0, e_seqIt, e_rng1, e_rng2, e_zipN, e_zipS, e_gtup, e_gnil, e_gcons, e_frzs0, e_frzs1, e_g1, e_g2, e_loop0, e_loop1, e_run, e_out0, e_out1, e_out2, Nat.zero_le, Option.bind_some, Option.bind_none, Option.map_some, Option.map_none, List.length_cons, List.length_nil, List.cons_append, List.nil_append, List.replicate_succ, List.replicate_zero, List.append_nil, List.getElem?_cons_zero, List.getElem?_cons_succ, List.set_cons_zero, List.set_cons_succ, List.map_cons, List.map_nil, Nat.reduceAdd, Nat.reduceSub, Nat.reduceLT, Nat.reduceLeDiff, Nat.reduceEqDiff, if_true, if_false, reduceIte, Bool.false_eq_true, Bool.not_true, Bool.not_false, ne_eq, Int.reduceEq, Int.reduceNe, not_false_eq_true, not_true_eq_false, Int.reduceLT, Int.reduceLE, Int.reduceNeg, Int.reduceSub, Int.reduceAdd, decide_true, decide_false, true_and, and_true, and_false, false_and, and_self, fVar, fName, val, frz, look, asB, asI, gAdd, gMul, gMod, gFdiv, gMinus, gInt, gInt1, gI1, gI2, gGt, gLt, gLe, gGe, gCmp, gIx, seqL, asSeq, asSeqF, ownL, gSl, gLen, gListOf, gTupOf, gIs, canSet, noOwnB, hc, atI3.1, atI3.2.1, atI3.2.2, ixN3.1, ixN3.2.1, ixN3.2.2, hh]
theorem rloop_ok {a s b : Int} (h0 : 0 ≤ s) (h1 : s < 2 ^ 31) : ∀ (l : List Dv) (c d : Int) (x : Slot) (m : Nat), 0 ≤ c → c + l.length < 2 ^ 31 → 0 ≤ d → d < 2 ^ (32 * m) → m + l.length ≤ 30 → (∀ b xs, x ≠ .own b xs) →
    ∃ d' x', loopF (fName 3) rbody l [.own true [.int a, .int s, .int c], .dat (.int b), .dat (.int d), x] = some (.nx [.own true [.int a, .int s, .int (c + l.length)], .dat (.int b), .dat (.int d'), x']) ∧ 0 ≤ d'
  | [], c, d, x, m, _, _, hd, _, _, hx => ⟨d, x, by simp, hd⟩
  | v :: l, c, d, x, m, hc, hl, hd, hd2, hm, hx => by
    rw [List.length_cons] at hl hm
    obtain ⟨h, q1, q2, q3⟩ := hash_ok h0 h1 (i := c + 1) (by omega) (by omega)
    have e1 : (2 : Int) ^ (32 * m) ≤ 2 ^ 960 := by
      have := Nat.pow_le_pow_right (n := 2) (by decide) (show 32 * m ≤ 960 by omega)
      have := Int.ofNat_le.mpr this
      rwa [Int.natCast_pow, Int.natCast_pow] at this
    have hcm : CMulW d 2147483587 := cm (by
      have : (2 : Int) ^ 960 < 2 ^ 1000 := by decide +kernel
      have : ((2 ^ 1000 : Nat) : Int) = 2 ^ 1000 := by decide +kernel
      omega) (by decide +kernel)
    have e2 : d * 2147483587 + h < 2 ^ (32 * (m + 1)) := by
      have : (2 : Int) ^ (32 * (m + 1)) = 2 ^ (32 * m) * 2 ^ 32 := by rw [Nat.mul_add, Int.pow_add]
      rw [this]
      generalize (2 : Int) ^ (32 * m) = z at *
      omega
    obtain ⟨d', x', w1, w2⟩ := rloop_ok h0 h1 (a := a) (b := b) l (c + 1) (d * 2147483587 + h) (.dat v) (m + 1) (by omega) (by omega) (by omega) e2 (by omega) (fun _ _ z => by cases z)
    refine ⟨d', x', ?_, w2⟩
    have g : fName 3 v [.own true [.int a, .int s, .int c], .dat (.int b), .dat (.int d), x] = some [.own true [.int a, .int s, .int c], .dat (.int b), .dat (.int d), .dat v] := by
      cases x with
      | non => rfl
      | dat e => rfl
      | own b xs => exact absurd rfl (hx b xs)
    rw [e_loop1, g, Option.bind_some, rbody_ok q1 hcm, Option.bind_some]
    simp only
    rw [w1, List.length_cons]
    have e : c + 1 + (l.length : Int) = c + ((l.length + 1 : Nat) : Int) := by omega
    rw [e]
theorem rnd_ok {n : Nat} {xs : List Dv} {b : Int} (g : Good n xs) (hn : n ≤ 2 ^ 30) (hb : 0 < b) (hb2 : b < 2 ^ 200) :
    ∃ r xs', F_law_random [.own true xs, .dat (.int b)] = some (.int r, xs') ∧ 0 ≤ r ∧ r < b ∧ Good (n + 10) xs' := by
  obtain ⟨a, s, c, rfl, h1, h2, h3, h4, h5⟩ := g
  by_cases ha : 0 < a
  · have hb0 : ¬ b = 0 := by omega
    have hl : b.natAbs.log2 < 9000 := by
      have : b.natAbs.log2 < 200 := (Nat.log2_lt (by omega)).mpr (by omega)
      omega
    refine ⟨a.fmod b, [.int (a.fdiv b), .int s, .int c], ?_, Int.fmod_nonneg_of_pos _ hb, Int.fmod_lt_of_pos _ hb, _, _, _, rfl, Int.fdiv_nonneg h1 (by omega), h2, h3, h4, by omega⟩
    simp only [F_law_random, g_law_random, e_c, e_nil, e_cons, e_op, e_un, e_cb, e_if, e_test, e_and, e_or, e_not, e_andV, e_orV, e_notV, e_chain, e_tup, e_lst, e_lLst, e_lListOf, e_ofL, e_part, e_noPart, e_sl, e_isi, e_yes, e_bits, e_seq, e_next, e_brk, e_cont, e_never, e_asg, e_ret, e_retN, e_sif, e_drop, e_own, e_par, e_parOD, e_parDO, e_par3, e_app, e_setI, e_aug, e_for, e_call, e_callN, e_new, e_then, e_callF, e_callF0, e_seqIt, e_rng1, e_rng2, e_zipN, e_zipS, e_gtup, e_gnil, e_gcons, e_frzs0, e_frzs1, e_g1, e_g2, e_loop0, e_loop1, e_run, e_out0, e_out1, e_out2, Nat.zero_le, Option.bind_some, Option.bind_none, Option.map_some, Option.map_none, List.length_cons, List.length_nil, List.cons_append, List.nil_append, List.replicate_succ, List.replicate_zero, List.append_nil, List.getElem?_cons_zero, List.getElem?_cons_succ, List.set_cons_zero, List.set_cons_succ, List.map_cons, List.map_nil, Nat.reduceAdd, Nat.reduceSub, Nat.reduceLT, Nat.reduceLeDiff, Nat.reduceEqDiff, if_true, if_false, reduceIte, Bool.false_eq_true, Bool.not_true, Bool.not_false, ne_eq, Int.reduceEq, Int.reduceNe, not_false_eq_true, not_true_eq_false, Int.reduceLT, Int.reduceLE, Int.reduceNeg, Int.reduceSub, Int.reduceAdd, decide_true, decide_false, true_and, and_true, and_false, false_and, and_self, fVar, fName, val, frz, look, asB, asI, gAdd, gMul, gMod, gFdiv, gMinus, gInt, gInt1, gI1, gI2, gGt, gLt, gLe, gGe, gCmp, gIx, seqL, asSeq, asSeqF, ownL, gSl, gLen, gListOf, gTupOf, gIs, canSet, noOwnB, gtI, ha, atI3.1, atI3.2.1, atI3.2.2, ixN3.1, ixN3.2.1, ixN3.2.2, hb0, hl]
  · have hb0 : ¬ b = 0 := by omega
    have hk : Builtin.Int.intBits b ≤ 200 := by
      have : b.natAbs.log2 < 200 := (Nat.log2_lt (by omega)).mpr (by omega)
      unfold Builtin.Int.intBits
      split <;> omega
    have f1 : (0 : Int) ≤ ((Builtin.Int.intBits b : Nat) : Int).fdiv 30 := Int.fdiv_nonneg (by omega) (by decide)
    have f2 : ((Builtin.Int.intBits b : Nat) : Int).fdiv 30 ≤ 6 := by
      rw [Int.fdiv_eq_ediv_of_nonneg _ (by decide)]
      omega
    generalize hq : ((Builtin.Int.intBits b : Nat) : Int).fdiv 30 = q at f1 f2
    have hr1 : rngC (1 + q) := rng_ok (by omega) (by omega)
    have ll : (rangeD 0 (1 + q).toNat).length = (1 + q).toNat := by simp [rangeD]
    obtain ⟨d', x', w1, w2⟩ := rloop_ok (a := a) (b := b) h2 h3 (rangeD 0 (1 + q).toNat) c 0 .non 0 h4 (by omega) (by decide) (by decide) (by omega) (fun _ _ z => by cases z)
    refine ⟨d'.fmod b, _, ?_, Int.fmod_nonneg_of_pos _ hb, Int.fmod_lt_of_pos _ hb, a, s, c + (rangeD 0 (1 + q).toNat).length, rfl, h1, h2, h3, by omega, by omega⟩
    unfold rbody at w1
    simp only [F_law_random, g_law_random, e_c, e_nil, e_cons, e_op, e_un, e_cb, e_if, e_test, e_and, e_or, e_not, e_andV, e_orV, e_notV, e_chain, e_tup, e_lst, e_lLst, e_lListOf, e_ofL, e_part, e_noPart, e_sl, e_isi, e_yes, e_bits, e_seq, e_next, e_brk, e_cont, e_never, e_asg, e_ret, e_retN, e_sif, e_drop, e_own, e_par, e_parOD, e_parDO, e_par3, e_app, e_setI, e_aug, e_for, e_call, e_callN, e_new, e_then, e_callF, e_callF0, e_seqIt, e_rng1, e_rng2, e_zipN, e_zipS, e_gtup, e_gnil, e_gcons, e_frzs0, e_frzs1, e_g1, e_g2, e_loop0, e_loop1, e_run, e_out0, e_out1, e_out2, Nat.zero_le, Option.bind_some, Option.bind_none, Option.map_some, Option.map_none, List.length_cons, List.length_nil, List.cons_append, List.nil_append, List.replicate_succ, List.replicate_zero, List.append_nil, List.getElem?_cons_zero, List.getElem?_cons_succ, List.set_cons_zero, List.set_cons_succ, List.map_cons, List.map_nil, Nat.reduceAdd, Nat.reduceSub, Nat.reduceLT, Nat.reduceLeDiff, Nat.reduceEqDiff, if_true, if_false, reduceIte, Bool.false_eq_true, Bool.not_true, Bool.not_false, ne_eq, Int.reduceEq, Int.reduceNe, not_false_eq_true, not_true_eq_false, Int.reduceLT, Int.reduceLE, Int.reduceNeg, Int.reduceSub, Int.reduceAdd, decide_true, decide_false, true_and, and_true, and_false, false_and, and_self, fVar, fName, val, frz, look, asB, asI, gAdd, gMul, gMod, gFdiv, gMinus, gInt, gInt1, gI1, gI2, gGt, gLt, gLe, gGe, gCmp, gIx, seqL, asSeq, asSeqF, ownL, gSl, gLen, gListOf, gTupOf, gIs, canSet, noOwnB, gtI, ha, atI3.1, atI3.2.1, atI3.2.2, ixN3.1, ixN3.2.1, ixN3.2.2, hb0, hq, hr1, (show (30 : Int).natAbs.log2 < 9000 by decide)]
    rw [w1]
    simp only [e_c, e_nil, e_cons, e_op, e_un, e_cb, e_if, e_test, e_and, e_or, e_not, e_andV, e_orV, e_notV, e_chain, e_tup, e_lst, e_lLst, e_lListOf, e_ofL, e_part, e_noPart, e_sl, e_isi, e_yes, e_bits, e_seq, e_next, e_brk, e_cont, e_never, e_asg, e_ret, e_retN, e_sif, e_drop, e_own, e_par, e_parOD, e_parDO, e_par3, e_app, e_setI, e_aug, e_for, e_call, e_callN, e_new, e_then, e_callF, e_callF0, e_seqIt, e_rng1, e_rng2, e_zipN, e_zipS, e_gtup, e_gnil, e_gcons, e_frzs0, e_frzs1, e_g1, e_g2, e_loop0, e_loop1, e_run, e_out0, e_out1, e_out2, Nat.zero_le, Option.bind_some, Option.bind_none, Option.map_some, Option.map_none, List.length_cons, List.length_nil, List.cons_append, List.nil_append, List.replicate_succ, List.replicate_zero, List.append_nil, List.getElem?_cons_zero, List.getElem?_cons_succ, List.set_cons_zero, List.set_cons_succ, List.map_cons, List.map_nil, Nat.reduceAdd, Nat.reduceSub, Nat.reduceLT, Nat.reduceLeDiff, Nat.reduceEqDiff, if_true, if_false, reduceIte, Bool.false_eq_true, Bool.not_true, Bool.not_false, ne_eq, Int.reduceEq, Int.reduceNe, not_false_eq_true, not_true_eq_false, Int.reduceLT, Int.reduceLE, Int.reduceNeg, Int.reduceSub, Int.reduceAdd, decide_true, decide_false, true_and, and_true, and_false, false_and, and_self, fVar, fName, val, frz, look, asB, asI, gAdd, gMul, gMod, gFdiv, gMinus, gInt, gInt1, gI1, gI2, gGt, gLt, gLe, gGe, gCmp, gIx, seqL, asSeq, asSeqF, ownL, gSl, gLen, gListOf, gTupOf, gIs, canSet, noOwnB, hb0]
def isCount : Dv → Bool
  | .int i => decide (0 ≤ i)
  | _ => false
def isW : Dv → Bool
  | .int _ => true
  | _ => false
theorem whole_ok {d : Dv} (h : pl d = true) : F_is_whole [.dat d] = some (.bl (isW d), []) := by
  cases d <;> simp only [pl, Bool.false_eq_true] at h <;> simp only [F_is_whole, g_is_whole, e_c, e_nil, e_cons, e_op, e_un, e_cb, e_if, e_test, e_and, e_or, e_not, e_andV, e_orV, e_notV, e_chain, e_tup, e_lst, e_lLst, e_lListOf, e_ofL, e_part, e_noPart, e_sl, e_isi, e_yes, e_bits, e_seq, e_next, e_brk, e_cont, e_never, e_asg, e_ret, e_retN, e_sif, e_drop, e_own, e_par, e_parOD, e_parDO, e_par3, e_app, e_setI, e_aug, e_for, e_call, e_callN, e_new, e_then, e_callF, e_callF0, e_seqIt, e_rng1, e_rng2, e_zipN, e_zipS, e_gtup, e_gnil, e_gcons, e_frzs0, e_frzs1, e_g1, e_g2, e_loop0, e_loop1, e_run, e_out0, e_out1, e_out2, Nat.zero_le, Option.bind_some, Option.bind_none, Option.map_some, Option.map_none, List.length_cons, List.length_nil, List.cons_append, List.nil_append, List.replicate_succ, List.replicate_zero, List.append_nil, List.getElem?_cons_zero, List.getElem?_cons_succ, List.set_cons_zero, List.set_cons_succ, List.map_cons, List.map_nil, Nat.reduceAdd, Nat.reduceSub, Nat.reduceLT, Nat.reduceLeDiff, Nat.reduceEqDiff, if_true, if_false, reduceIte, Bool.false_eq_true, Bool.not_true, Bool.not_false, ne_eq, Int.reduceEq, Int.reduceNe, not_false_eq_true, not_true_eq_false, Int.reduceLT, Int.reduceLE, Int.reduceNeg, Int.reduceSub, Int.reduceAdd, decide_true, decide_false, true_and, and_true, and_false, false_and, and_self, fVar, fName, val, frz, look, asB, asI, gAdd, gMul, gMod, gFdiv, gMinus, gInt, gInt1, gI1, gI2, gGt, gLt, gLe, gGe, gCmp, gIx, seqL, asSeq, asSeqF, ownL, gSl, gLen, gListOf, gTupOf, gIs, canSet, noOwnB, isIt, isW]
theorem between_inf {d : Dv} (h : pl d = true) : F_is_between [.dat d, .dat (.int 0), .dat .non] = some (.bl (isCount d), []) := by
  have w := whole_ok h
  cases hb : isW d with
  | false =>
    rw [hb] at w
    have e : isCount d = false := by cases d <;> simp only [isW, Bool.true_eq_false] at hb <;> rfl
    simp only [F_is_between, g_is_between, e_c, e_nil, e_cons, e_op, e_un, e_cb, e_if, e_test, e_and, e_or, e_not, e_andV, e_orV, e_notV, e_chain, e_tup, e_lst, e_lLst, e_lListOf, e_ofL, e_part, e_noPart, e_sl, e_isi, e_yes, e_bits, e_seq, e_next, e_brk, e_cont, e_never, e_asg, e_ret, e_retN, e_sif, e_drop, e_own, e_par, e_parOD, e_parDO, e_par3, e_app, e_setI, e_aug, e_for, e_call, e_callN, e_new, e_then, e_callF, e_callF0, e_seqIt, e_rng1, e_rng2, e_zipN, e_zipS, e_gtup, e_gnil, e_gcons, e_frzs0, e_frzs1, e_g1, e_g2, e_loop0, e_loop1, e_run, e_out0, e_out1, e_out2, Nat.zero_le, Option.bind_some, Option.bind_none, Option.map_some, Option.map_none, List.length_cons, List.length_nil, List.cons_append, List.nil_append, List.replicate_succ, List.replicate_zero, List.append_nil, List.getElem?_cons_zero, List.getElem?_cons_succ, List.set_cons_zero, List.set_cons_succ, List.map_cons, List.map_nil, Nat.reduceAdd, Nat.reduceSub, Nat.reduceLT, Nat.reduceLeDiff, Nat.reduceEqDiff, if_true, if_false, reduceIte, Bool.false_eq_true, Bool.not_true, Bool.not_false, ne_eq, Int.reduceEq, Int.reduceNe, not_false_eq_true, not_true_eq_false, Int.reduceLT, Int.reduceLE, Int.reduceNeg, Int.reduceSub, Int.reduceAdd, decide_true, decide_false, true_and, and_true, and_false, false_and, and_self, fVar, fName, val, frz, look, asB, asI, gAdd, gMul, gMod, gFdiv, gMinus, gInt, gInt1, gI1, gI2, gGt, gLt, gLe, gGe, gCmp, gIx, seqL, asSeq, asSeqF, ownL, gSl, gLen, gListOf, gTupOf, gIs, canSet, noOwnB, w, e]
  | true =>
    rw [hb] at w
    cases d <;> simp only [isW, Bool.false_eq_true] at hb
    rename_i i
    cases hi : decide (0 ≤ i) <;> simp only [F_is_between, g_is_between, e_c, e_nil, e_cons, e_op, e_un, e_cb, e_if, e_test, e_and, e_or, e_not, e_andV, e_orV, e_notV, e_chain, e_tup, e_lst, e_lLst, e_lListOf, e_ofL, e_part, e_noPart, e_sl, e_isi, e_yes, e_bits, e_seq, e_next, e_brk, e_cont, e_never, e_asg, e_ret, e_retN, e_sif, e_drop, e_own, e_par, e_parOD, e_parDO, e_par3, e_app, e_setI, e_aug, e_for, e_call, e_callN, e_new, e_then, e_callF, e_callF0, e_seqIt, e_rng1, e_rng2, e_zipN, e_zipS, e_gtup, e_gnil, e_gcons, e_frzs0, e_frzs1, e_g1, e_g2, e_loop0, e_loop1, e_run, e_out0, e_out1, e_out2, Nat.zero_le, Option.bind_some, Option.bind_none, Option.map_some, Option.map_none, List.length_cons, List.length_nil, List.cons_append, List.nil_append, List.replicate_succ, List.replicate_zero, List.append_nil, List.getElem?_cons_zero, List.getElem?_cons_succ, List.set_cons_zero, List.set_cons_succ, List.map_cons, List.map_nil, Nat.reduceAdd, Nat.reduceSub, Nat.reduceLT, Nat.reduceLeDiff, Nat.reduceEqDiff, if_true, if_false, reduceIte, Bool.false_eq_true, Bool.not_true, Bool.not_false, ne_eq, Int.reduceEq, Int.reduceNe, not_false_eq_true, not_true_eq_false, Int.reduceLT, Int.reduceLE, Int.reduceNeg, Int.reduceSub, Int.reduceAdd, decide_true, decide_false, true_and, and_true, and_false, false_and, and_self, fVar, fName, val, frz, look, asB, asI, gAdd, gMul, gMod, gFdiv, gMinus, gInt, gInt1, gI1, gI2, gGt, gLt, gLe, gGe, gCmp, gIx, seqL, asSeq, asSeqF, ownL, gSl, gLen, gListOf, gTupOf, gIs, canSet, noOwnB, w, leI, isNon, isCount, hi, Bool.false_xor]
theorem between_fin {i lo hi : Int} : F_is_between [.dat (.int i), .dat (.int lo), .dat (.int hi)] = some (.bl (decide (lo ≤ i) && decide (i ≤ hi)), []) := by
  have w := whole_ok (d := .int i) rfl
  cases h1 : decide (lo ≤ i) <;> cases h2 : decide (i ≤ hi) <;> simp only [F_is_between, g_is_between, e_c, e_nil, e_cons, e_op, e_un, e_cb, e_if, e_test, e_and, e_or, e_not, e_andV, e_orV, e_notV, e_chain, e_tup, e_lst, e_lLst, e_lListOf, e_ofL, e_part, e_noPart, e_sl, e_isi, e_yes, e_bits, e_seq, e_next, e_brk, e_cont, e_never, e_asg, e_ret, e_retN, e_sif, e_drop, e_own, e_par, e_parOD, e_parDO, e_par3, e_app, e_setI, e_aug, e_for, e_call, e_callN, e_new, e_then, e_callF, e_callF0, e_seqIt, e_rng1, e_rng2, e_zipN, e_zipS, e_gtup, e_gnil, e_gcons, e_frzs0, e_frzs1, e_g1, e_g2, e_loop0, e_loop1, e_run, e_out0, e_out1, e_out2, Nat.zero_le, Option.bind_some, Option.bind_none, Option.map_some, Option.map_none, List.length_cons, List.length_nil, List.cons_append, List.nil_append, List.replicate_succ, List.replicate_zero, List.append_nil, List.getElem?_cons_zero, List.getElem?_cons_succ, List.set_cons_zero, List.set_cons_succ, List.map_cons, List.map_nil, Nat.reduceAdd, Nat.reduceSub, Nat.reduceLT, Nat.reduceLeDiff, Nat.reduceEqDiff, if_true, if_false, reduceIte, Bool.false_eq_true, Bool.not_true, Bool.not_false, ne_eq, Int.reduceEq, Int.reduceNe, not_false_eq_true, not_true_eq_false, Int.reduceLT, Int.reduceLE, Int.reduceNeg, Int.reduceSub, Int.reduceAdd, decide_true, decide_false, true_and, and_true, and_false, false_and, and_self, fVar, fName, val, frz, look, asB, asI, gAdd, gMul, gMod, gFdiv, gMinus, gInt, gInt1, gI1, gI2, gGt, gLt, gLe, gGe, gCmp, gIx, seqL, asSeq, asSeqF, ownL, gSl, gLen, gListOf, gTupOf, gIs, canSet, noOwnB, w, leI, isNon, isW, h1, h2, Bool.false_xor, Bool.and_true, Bool.and_false, Bool.false_and, Bool.true_and]
theorem counts_ok {ds : List Dv} {q : Dv} (hq : q = .lst ds ∨ q = .tup ds) (h : ∀ d ∈ ds, pl d = true ∧ okd 60 d) (hz : ds.length ≤ szL) : F_are_counts [.dat q] = some (.bl (ds.all isCount), []) := by
  have e1 : eqC (.lst (ds.filter fun d => !isCount d)) (.lst []) = true := eqC_ok ((okd_lst fun d hd => (h d (List.mem_filter.mp hd).1).2).mono (by decide)) ((okd_lst (n := 0) fun d hd => by cases hd).mono (by decide))
  have e2 : (ds.filter fun d => !isCount d).isEmpty = ds.all isCount := by
    clear e1 h hz hq
    induction ds with
    | nil => rfl
    | cons d ds ih =>
      rw [List.filter_cons, List.all_cons]
      cases isCount d
      · rfl
      · exact ih
  have e3 : fLc (fSeqIt (fVar 0)) (fName 1) (fNot (fTest (fCall 3 none F_is_between (fCons (fVar 1) (fCons (fC (.int (0 : Int))) (fCons (fC .non) fNil)))))) (fVar 1) [1] [.dat q, .non] = some (ds.filter fun d => !isCount d, [.dat q, .non]) := by
    have := lc_fil (t := 1) (fi := fSeqIt (fVar 0)) (ft := fNot (fTest (fCall 3 none F_is_between (fCons (fVar 1) (fCons (fC (.int (0 : Int))) (fCons (fC .non) fNil)))))) (env := [.dat q, .non]) (e0 := [.dat q, .non]) (l := ds) (i := id) (fun d => !isCount d)
      (by rcases hq with rfl | rfl <;> simp only [e_c, e_nil, e_cons, e_op, e_un, e_cb, e_if, e_test, e_and, e_or, e_not, e_andV, e_orV, e_notV, e_chain, e_tup, e_lst, e_lLst, e_lListOf, e_ofL, e_part, e_noPart, e_sl, e_isi, e_yes, e_bits, e_seq, e_next, e_brk, e_cont, e_never, e_asg, e_ret, e_retN, e_sif, e_drop, e_own, e_par, e_parOD, e_parDO, e_par3, e_app, e_setI, e_aug, e_for, e_call, e_callN, e_new, e_then, e_callF, e_callF0, e_seqIt, e_rng1, e_rng2, e_zipN, e_zipS, e_gtup, e_gnil, e_gcons, e_frzs0, e_frzs1, e_g1, e_g2, e_loop0, e_loop1, e_run, e_out0, e_out1, e_out2, Nat.zero_le, Option.bind_some, Option.bind_none, Option.map_some, Option.map_none, List.length_cons, List.length_nil, List.cons_append, List.nil_append, List.replicate_succ, List.replicate_zero, List.append_nil, List.getElem?_cons_zero, List.getElem?_cons_succ, List.set_cons_zero, List.set_cons_succ, List.map_cons, List.map_nil, Nat.reduceAdd, Nat.reduceSub, Nat.reduceLT, Nat.reduceLeDiff, Nat.reduceEqDiff, if_true, if_false, reduceIte, Bool.false_eq_true, Bool.not_true, Bool.not_false, ne_eq, Int.reduceEq, Int.reduceNe, not_false_eq_true, not_true_eq_false, Int.reduceLT, Int.reduceLE, Int.reduceNeg, Int.reduceSub, Int.reduceAdd, decide_true, decide_false, true_and, and_true, and_false, false_and, and_self, fVar, fName, val, frz, look, asB, asI, gAdd, gMul, gMod, gFdiv, gMinus, gInt, gInt1, gI1, gI2, gGt, gLt, gLe, gGe, gCmp, gIx, seqL, asSeq, asSeqF, ownL, gSl, gLen, gListOf, gTupOf, gIs, canSet, noOwnB, List.map_id]) (by simp) rfl (fun d hd => by simp only [e_c, e_nil, e_cons, e_op, e_un, e_cb, e_if, e_test, e_and, e_or, e_not, e_andV, e_orV, e_notV, e_chain, e_tup, e_lst, e_lLst, e_lListOf, e_ofL, e_part, e_noPart, e_sl, e_isi, e_yes, e_bits, e_seq, e_next, e_brk, e_cont, e_never, e_asg, e_ret, e_retN, e_sif, e_drop, e_own, e_par, e_parOD, e_parDO, e_par3, e_app, e_setI, e_aug, e_for, e_call, e_callN, e_new, e_then, e_callF, e_callF0, e_seqIt, e_rng1, e_rng2, e_zipN, e_zipS, e_gtup, e_gnil, e_gcons, e_frzs0, e_frzs1, e_g1, e_g2, e_loop0, e_loop1, e_run, e_out0, e_out1, e_out2, Nat.zero_le, Option.bind_some, Option.bind_none, Option.map_some, Option.map_none, List.length_cons, List.length_nil, List.cons_append, List.nil_append, List.replicate_succ, List.replicate_zero, List.append_nil, List.getElem?_cons_zero, List.getElem?_cons_succ, List.set_cons_zero, List.set_cons_succ, List.map_cons, List.map_nil, Nat.reduceAdd, Nat.reduceSub, Nat.reduceLT, Nat.reduceLeDiff, Nat.reduceEqDiff, if_true, if_false, reduceIte, Bool.false_eq_true, Bool.not_true, Bool.not_false, ne_eq, Int.reduceEq, Int.reduceNe, not_false_eq_true, not_true_eq_false, Int.reduceLT, Int.reduceLE, Int.reduceNeg, Int.reduceSub, Int.reduceAdd, decide_true, decide_false, true_and, and_true, and_false, false_and, and_self, fVar, fName, val, frz, look, asB, asI, gAdd, gMul, gMod, gFdiv, gMinus, gInt, gInt1, gI1, gI2, gGt, gLt, gLe, gGe, gCmp, gIx, seqL, asSeq, asSeqF, ownL, gSl, gLen, gListOf, gTupOf, gIs, canSet, noOwnB, id_eq, between_inf (h d hd).1]) hz
    rwa [List.map_id] at this
  simp only [F_are_counts, g_are_counts, e_c, e_nil, e_cons, e_op, e_un, e_cb, e_if, e_test, e_and, e_or, e_not, e_andV, e_orV, e_notV, e_chain, e_tup, e_lst, e_lLst, e_lListOf, e_ofL, e_part, e_noPart, e_sl, e_isi, e_yes, e_bits, e_seq, e_next, e_brk, e_cont, e_never, e_asg, e_ret, e_retN, e_sif, e_drop, e_own, e_par, e_parOD, e_parDO, e_par3, e_app, e_setI, e_aug, e_for, e_call, e_callN, e_new, e_then, e_callF, e_callF0, e_seqIt, e_rng1, e_rng2, e_zipN, e_zipS, e_gtup, e_gnil, e_gcons, e_frzs0, e_frzs1, e_g1, e_g2, e_loop0, e_loop1, e_run, e_out0, e_out1, e_out2, Nat.zero_le, Option.bind_some, Option.bind_none, Option.map_some, Option.map_none, List.length_cons, List.length_nil, List.cons_append, List.nil_append, List.replicate_succ, List.replicate_zero, List.append_nil, List.getElem?_cons_zero, List.getElem?_cons_succ, List.set_cons_zero, List.set_cons_succ, List.map_cons, List.map_nil, Nat.reduceAdd, Nat.reduceSub, Nat.reduceLT, Nat.reduceLeDiff, Nat.reduceEqDiff, if_true, if_false, reduceIte, Bool.false_eq_true, Bool.not_true, Bool.not_false, ne_eq, Int.reduceEq, Int.reduceNe, not_false_eq_true, not_true_eq_false, Int.reduceLT, Int.reduceLE, Int.reduceNeg, Int.reduceSub, Int.reduceAdd, decide_true, decide_false, true_and, and_true, and_false, false_and, and_self, fVar, fName, val, frz, look, asB, asI, gAdd, gMul, gMod, gFdiv, gMinus, gInt, gInt1, gI1, gI2, gGt, gLt, gLe, gGe, gCmp, gIx, seqL, asSeq, asSeqF, ownL, gSl, gLen, gListOf, gTupOf, gIs, canSet, noOwnB, e3, gEq, e1, eqv_nil, e2]
theorem formFor_ok {many : Int} {ds : List Dv} (h : ∀ d ∈ ds, pl d = true ∧ okd 60 d) (hz : ds.length ≤ szL) : F_is_form_for [.dat (.int many), .dat (.tup ds)] = some (.bl (decide ((ds.length : Int) = many + 1) && ds.all isCount), []) := by
  have w := counts_ok (.inr rfl) h hz
  have e : ∀ i j : Int, eqC (.int i) (.int j) = true := fun i j => eqC_ok okd_int okd_int
  cases h1 : decide ((ds.length : Int) = many + 1) <;> simp only [F_is_form_for, g_is_form_for, e_c, e_nil, e_cons, e_op, e_un, e_cb, e_if, e_test, e_and, e_or, e_not, e_andV, e_orV, e_notV, e_chain, e_tup, e_lst, e_lLst, e_lListOf, e_ofL, e_part, e_noPart, e_sl, e_isi, e_yes, e_bits, e_seq, e_next, e_brk, e_cont, e_never, e_asg, e_ret, e_retN, e_sif, e_drop, e_own, e_par, e_parOD, e_parDO, e_par3, e_app, e_setI, e_aug, e_for, e_call, e_callN, e_new, e_then, e_callF, e_callF0, e_seqIt, e_rng1, e_rng2, e_zipN, e_zipS, e_gtup, e_gnil, e_gcons, e_frzs0, e_frzs1, e_g1, e_g2, e_loop0, e_loop1, e_run, e_out0, e_out1, e_out2, Nat.zero_le, Option.bind_some, Option.bind_none, Option.map_some, Option.map_none, List.length_cons, List.length_nil, List.cons_append, List.nil_append, List.replicate_succ, List.replicate_zero, List.append_nil, List.getElem?_cons_zero, List.getElem?_cons_succ, List.set_cons_zero, List.set_cons_succ, List.map_cons, List.map_nil, Nat.reduceAdd, Nat.reduceSub, Nat.reduceLT, Nat.reduceLeDiff, Nat.reduceEqDiff, if_true, if_false, reduceIte, Bool.false_eq_true, Bool.not_true, Bool.not_false, ne_eq, Int.reduceEq, Int.reduceNe, not_false_eq_true, not_true_eq_false, Int.reduceLT, Int.reduceLE, Int.reduceNeg, Int.reduceSub, Int.reduceAdd, decide_true, decide_false, true_and, and_true, and_false, false_and, and_self, fVar, fName, val, frz, look, asB, asI, gAdd, gMul, gMod, gFdiv, gMinus, gInt, gInt1, gI1, gI2, gGt, gLt, gLe, gGe, gCmp, gIx, seqL, asSeq, asSeqF, ownL, gSl, gLen, gListOf, gTupOf, gIs, canSet, noOwnB, isIt, gEq, e, eqv_int, w, Bool.false_and, Bool.true_and]
  · have : ((ds.length : Int) == many + 1) = false := h1
    simp only [this, e_c, e_nil, e_cons, e_op, e_un, e_cb, e_if, e_test, e_and, e_or, e_not, e_andV, e_orV, e_notV, e_chain, e_tup, e_lst, e_lLst, e_lListOf, e_ofL, e_part, e_noPart, e_sl, e_isi, e_yes, e_bits, e_seq, e_next, e_brk, e_cont, e_never, e_asg, e_ret, e_retN, e_sif, e_drop, e_own, e_par, e_parOD, e_parDO, e_par3, e_app, e_setI, e_aug, e_for, e_call, e_callN, e_new, e_then, e_callF, e_callF0, e_seqIt, e_rng1, e_rng2, e_zipN, e_zipS, e_gtup, e_gnil, e_gcons, e_frzs0, e_frzs1, e_g1, e_g2, e_loop0, e_loop1, e_run, e_out0, e_out1, e_out2, Nat.zero_le, Option.bind_some, Option.bind_none, Option.map_some, Option.map_none, List.length_cons, List.length_nil, List.cons_append, List.nil_append, List.replicate_succ, List.replicate_zero, List.append_nil, List.getElem?_cons_zero, List.getElem?_cons_succ, List.set_cons_zero, List.set_cons_succ, List.map_cons, List.map_nil, Nat.reduceAdd, Nat.reduceSub, Nat.reduceLT, Nat.reduceLeDiff, Nat.reduceEqDiff, if_true, if_false, reduceIte, Bool.false_eq_true, Bool.not_true, Bool.not_false, ne_eq, Int.reduceEq, Int.reduceNe, not_false_eq_true, not_true_eq_false, Int.reduceLT, Int.reduceLE, Int.reduceNeg, Int.reduceSub, Int.reduceAdd, decide_true, decide_false, true_and, and_true, and_false, false_and, and_self]
  · have : ((ds.length : Int) == many + 1) = true := h1
    simp only [this, e_c, e_nil, e_cons, e_op, e_un, e_cb, e_if, e_test, e_and, e_or, e_not, e_andV, e_orV, e_notV, e_chain, e_tup, e_lst, e_lLst, e_lListOf, e_ofL, e_part, e_noPart, e_sl, e_isi, e_yes, e_bits, e_seq, e_next, e_brk, e_cont, e_never, e_asg, e_ret, e_retN, e_sif, e_drop, e_own, e_par, e_parOD, e_parDO, e_par3, e_app, e_setI, e_aug, e_for, e_call, e_callN, e_new, e_then, e_callF, e_callF0, e_seqIt, e_rng1, e_rng2, e_zipN, e_zipS, e_gtup, e_gnil, e_gcons, e_frzs0, e_frzs1, e_g1, e_g2, e_loop0, e_loop1, e_run, e_out0, e_out1, e_out2, Nat.zero_le, Option.bind_some, Option.bind_none, Option.map_some, Option.map_none, List.length_cons, List.length_nil, List.cons_append, List.nil_append, List.replicate_succ, List.replicate_zero, List.append_nil, List.getElem?_cons_zero, List.getElem?_cons_succ, List.set_cons_zero, List.set_cons_succ, List.map_cons, List.map_nil, Nat.reduceAdd, Nat.reduceSub, Nat.reduceLT, Nat.reduceLeDiff, Nat.reduceEqDiff, if_true, if_false, reduceIte, Bool.false_eq_true, Bool.not_true, Bool.not_false, ne_eq, Int.reduceEq, Int.reduceNe, not_false_eq_true, not_true_eq_false, Int.reduceLT, Int.reduceLE, Int.reduceNeg, Int.reduceSub, Int.reduceAdd, decide_true, decide_false, true_and, and_true, and_false, false_and, and_self]
/-- a form: counts -/
def Fm (f : List Int) : Prop := ∀ x ∈ f, 0 ≤ x
theorem all_counts {f : List Int} (h : Fm f) : (f.map Dv.int).all isCount = true := by
  rw [List.all_eq_true]
  intro d hd
  obtain ⟨i, hi, rfl⟩ := List.mem_map.mp hd
  exact decide_eq_true (h i hi)
theorem pl_ints {f : List Int} : ∀ d ∈ f.map Dv.int, pl d = true ∧ okd 60 d := fun d hd => by
  obtain ⟨i, hi, rfl⟩ := List.mem_map.mp hd
  exact ⟨rfl, okd_int⟩
theorem form_ok {many : Int} {f : List Int} (h : Fm f) (hz : f.length ≤ szL) : F_is_form_for [.dat (.int many), .dat (.tup (f.map .int))] = some (.bl (decide ((f.length : Int) = many + 1)), []) := by
  rw [formFor_ok pl_ints (by simpa using hz), all_counts h, Bool.and_true, List.length_map]
theorem szL_ge {n : Nat} (h : n ≤ 1000) : n ≤ szL := Nat.le_trans h (by decide)
theorem checkNumber_fin {i lo hi : Int} (h1 : lo ≤ i) (h2 : i ≤ hi) : F_check_number [.dat (.int i), .dat (.int lo), .dat (.int hi)] = some (.non, []) := by
  have w := between_fin (i := i) (lo := lo) (hi := hi)
  rw [decide_eq_true h1, decide_eq_true h2] at w
  simp only [F_check_number, g_check_number, e_c, e_nil, e_cons, e_op, e_un, e_cb, e_if, e_test, e_and, e_or, e_not, e_andV, e_orV, e_notV, e_chain, e_tup, e_lst, e_lLst, e_lListOf, e_ofL, e_part, e_noPart, e_sl, e_isi, e_yes, e_bits, e_seq, e_next, e_brk, e_cont, e_never, e_asg, e_ret, e_retN, e_sif, e_drop, e_own, e_par, e_parOD, e_parDO, e_par3, e_app, e_setI, e_aug, e_for, e_call, e_callN, e_new, e_then, e_callF, e_callF0, e_seqIt, e_rng1, e_rng2, e_zipN, e_zipS, e_gtup, e_gnil, e_gcons, e_frzs0, e_frzs1, e_g1, e_g2, e_loop0, e_loop1, e_run, e_out0, e_out1, e_out2, Nat.zero_le, Option.bind_some, Option.bind_none, Option.map_some, Option.map_none, List.length_cons, List.length_nil, List.cons_append, List.nil_append, List.replicate_succ, List.replicate_zero, List.append_nil, List.getElem?_cons_zero, List.getElem?_cons_succ, List.set_cons_zero, List.set_cons_succ, List.map_cons, List.map_nil, Nat.reduceAdd, Nat.reduceSub, Nat.reduceLT, Nat.reduceLeDiff, Nat.reduceEqDiff, if_true, if_false, reduceIte, Bool.false_eq_true, Bool.not_true, Bool.not_false, ne_eq, Int.reduceEq, Int.reduceNe, not_false_eq_true, not_true_eq_false, Int.reduceLT, Int.reduceLE, Int.reduceNeg, Int.reduceSub, Int.reduceAdd, decide_true, decide_false, true_and, and_true, and_false, false_and, and_self, fVar, fName, val, frz, look, asB, asI, gAdd, gMul, gMod, gFdiv, gMinus, gInt, gInt1, gI1, gI2, gGt, gLt, gLe, gGe, gCmp, gIx, seqL, asSeq, asSeqF, ownL, gSl, gLen, gListOf, gTupOf, gIs, canSet, noOwnB, w, Bool.and_true]
theorem checkMany_ok {i : Int} (h1 : 0 ≤ i) (h2 : i ≤ 3) : F_check_many [.dat (.int i)] = some (.non, []) := by
  have w := checkNumber_fin h1 h2
  simp only [F_check_many, g_check_many, e_c, e_nil, e_cons, e_op, e_un, e_cb, e_if, e_test, e_and, e_or, e_not, e_andV, e_orV, e_notV, e_chain, e_tup, e_lst, e_lLst, e_lListOf, e_ofL, e_part, e_noPart, e_sl, e_isi, e_yes, e_bits, e_seq, e_next, e_brk, e_cont, e_never, e_asg, e_ret, e_retN, e_sif, e_drop, e_own, e_par, e_parOD, e_parDO, e_par3, e_app, e_setI, e_aug, e_for, e_call, e_callN, e_new, e_then, e_callF, e_callF0, e_seqIt, e_rng1, e_rng2, e_zipN, e_zipS, e_gtup, e_gnil, e_gcons, e_frzs0, e_frzs1, e_g1, e_g2, e_loop0, e_loop1, e_run, e_out0, e_out1, e_out2, Nat.zero_le, Option.bind_some, Option.bind_none, Option.map_some, Option.map_none, List.length_cons, List.length_nil, List.cons_append, List.nil_append, List.replicate_succ, List.replicate_zero, List.append_nil, List.getElem?_cons_zero, List.getElem?_cons_succ, List.set_cons_zero, List.set_cons_succ, List.map_cons, List.map_nil, Nat.reduceAdd, Nat.reduceSub, Nat.reduceLT, Nat.reduceLeDiff, Nat.reduceEqDiff, if_true, if_false, reduceIte, Bool.false_eq_true, Bool.not_true, Bool.not_false, ne_eq, Int.reduceEq, Int.reduceNe, not_false_eq_true, not_true_eq_false, Int.reduceLT, Int.reduceLE, Int.reduceNeg, Int.reduceSub, Int.reduceAdd, decide_true, decide_false, true_and, and_true, and_false, false_and, and_self, fVar, fName, val, frz, look, asB, asI, gAdd, gMul, gMod, gFdiv, gMinus, gInt, gInt1, gI1, gI2, gGt, gLt, gLe, gGe, gCmp, gIx, seqL, asSeq, asSeqF, ownL, gSl, gLen, gListOf, gTupOf, gIs, canSet, noOwnB, w]
def dot (f p : List Int) : Int := ((f.zip p).map fun x => x.1 * x.2).sum
def fsum (f g : List Int) : List Int := (f.zip g).map fun x => x.1 + x.2
def ftimes (n : Int) (f : List Int) : List Int := f.map fun x => n * x
def fbelow (f g : List Int) : Bool := (f.zip g).all fun x => decide (x.1 ≤ x.2)
theorem pairD_ints (f g : List Int) : pairD (f.map .int) (g.map .int) = (f.zip g).map fun p => Dv.tup [.int p.1, .int p.2] := pairD_map _ _ _ _
theorem zip_len {α β : Type} {f : List α} {g : List β} (h : f.length = g.length) : (f.zip g).length = f.length := by
  rw [List.length_zip, h, Nat.min_self]
theorem form_sum_ok {f g : List Int} (hl : f.length = g.length) (hz : f.length ≤ 1000) : F_form_sum [.dat (.tup (f.map .int)), .dat (.tup (g.map .int))] = some (.tup ((fsum f g).map .int), []) := by
  simp only [F_form_sum, g_form_sum, e_c, e_nil, e_cons, e_op, e_un, e_cb, e_if, e_test, e_and, e_or, e_not, e_andV, e_orV, e_notV, e_chain, e_tup, e_lst, e_lLst, e_lListOf, e_ofL, e_part, e_noPart, e_sl, e_isi, e_yes, e_bits, e_seq, e_next, e_brk, e_cont, e_never, e_asg, e_ret, e_retN, e_sif, e_drop, e_own, e_par, e_parOD, e_parDO, e_par3, e_app, e_setI, e_aug, e_for, e_call, e_callN, e_new, e_then, e_callF, e_callF0, e_seqIt, e_rng1, e_rng2, e_zipN, e_zipS, e_gtup, e_gnil, e_gcons, e_frzs0, e_frzs1, e_g1, e_g2, e_loop0, e_loop1, e_run, e_out0, e_out1, e_out2, Nat.zero_le, Option.bind_some, Option.bind_none, Option.map_some, Option.map_none, List.length_cons, List.length_nil, List.cons_append, List.nil_append, List.replicate_succ, List.replicate_zero, List.append_nil, List.getElem?_cons_zero, List.getElem?_cons_succ, List.set_cons_zero, List.set_cons_succ, List.map_cons, List.map_nil, Nat.reduceAdd, Nat.reduceSub, Nat.reduceLT, Nat.reduceLeDiff, Nat.reduceEqDiff, if_true, if_false, reduceIte, Bool.false_eq_true, Bool.not_true, Bool.not_false, ne_eq, Int.reduceEq, Int.reduceNe, not_false_eq_true, not_true_eq_false, Int.reduceLT, Int.reduceLE, Int.reduceNeg, Int.reduceSub, Int.reduceAdd, decide_true, decide_false, true_and, and_true, and_false, false_and, and_self]
  rw [z_map (l := f.zip g) (i := fun p => .int p.1) (j := fun p => .int p.2) (fun p => .int (p.1 + p.2)) (by simp only [e_c, e_nil, e_cons, e_op, e_un, e_cb, e_if, e_test, e_and, e_or, e_not, e_andV, e_orV, e_notV, e_chain, e_tup, e_lst, e_lLst, e_lListOf, e_ofL, e_part, e_noPart, e_sl, e_isi, e_yes, e_bits, e_seq, e_next, e_brk, e_cont, e_never, e_asg, e_ret, e_retN, e_sif, e_drop, e_own, e_par, e_parOD, e_parDO, e_par3, e_app, e_setI, e_aug, e_for, e_call, e_callN, e_new, e_then, e_callF, e_callF0, e_seqIt, e_rng1, e_rng2, e_zipN, e_zipS, e_gtup, e_gnil, e_gcons, e_frzs0, e_frzs1, e_g1, e_g2, e_loop0, e_loop1, e_run, e_out0, e_out1, e_out2, Nat.zero_le, Option.bind_some, Option.bind_none, Option.map_some, Option.map_none, List.length_cons, List.length_nil, List.cons_append, List.nil_append, List.replicate_succ, List.replicate_zero, List.append_nil, List.getElem?_cons_zero, List.getElem?_cons_succ, List.set_cons_zero, List.set_cons_succ, List.map_cons, List.map_nil, Nat.reduceAdd, Nat.reduceSub, Nat.reduceLT, Nat.reduceLeDiff, Nat.reduceEqDiff, if_true, if_false, reduceIte, Bool.false_eq_true, Bool.not_true, Bool.not_false, ne_eq, Int.reduceEq, Int.reduceNe, not_false_eq_true, not_true_eq_false, Int.reduceLT, Int.reduceLE, Int.reduceNeg, Int.reduceSub, Int.reduceAdd, decide_true, decide_false, true_and, and_true, and_false, false_and, and_self, fVar, fName, val, frz, look, asB, asI, gAdd, gMul, gMod, gFdiv, gMinus, gInt, gInt1, gI1, gI2, gGt, gLt, gLe, gGe, gCmp, gIx, seqL, asSeq, asSeqF, ownL, gSl, gLen, gListOf, gTupOf, gIs, canSet, noOwnB, List.length_map, hl, pairD_ints]) (by decide) (by simp) (by simp) rfl (fun x _ => by simp only [e_c, e_nil, e_cons, e_op, e_un, e_cb, e_if, e_test, e_and, e_or, e_not, e_andV, e_orV, e_notV, e_chain, e_tup, e_lst, e_lLst, e_lListOf, e_ofL, e_part, e_noPart, e_sl, e_isi, e_yes, e_bits, e_seq, e_next, e_brk, e_cont, e_never, e_asg, e_ret, e_retN, e_sif, e_drop, e_own, e_par, e_parOD, e_parDO, e_par3, e_app, e_setI, e_aug, e_for, e_call, e_callN, e_new, e_then, e_callF, e_callF0, e_seqIt, e_rng1, e_rng2, e_zipN, e_zipS, e_gtup, e_gnil, e_gcons, e_frzs0, e_frzs1, e_g1, e_g2, e_loop0, e_loop1, e_run, e_out0, e_out1, e_out2, Nat.zero_le, Option.bind_some, Option.bind_none, Option.map_some, Option.map_none, List.length_cons, List.length_nil, List.cons_append, List.nil_append, List.replicate_succ, List.replicate_zero, List.append_nil, List.getElem?_cons_zero, List.getElem?_cons_succ, List.set_cons_zero, List.set_cons_succ, List.map_cons, List.map_nil, Nat.reduceAdd, Nat.reduceSub, Nat.reduceLT, Nat.reduceLeDiff, Nat.reduceEqDiff, if_true, if_false, reduceIte, Bool.false_eq_true, Bool.not_true, Bool.not_false, ne_eq, Int.reduceEq, Int.reduceNe, not_false_eq_true, not_true_eq_false, Int.reduceLT, Int.reduceLE, Int.reduceNeg, Int.reduceSub, Int.reduceAdd, decide_true, decide_false, true_and, and_true, and_false, false_and, and_self, fVar, fName, val, frz, look, asB, asI, gAdd, gMul, gMod, gFdiv, gMinus, gInt, gInt1, gI1, gI2, gGt, gLt, gLe, gGe, gCmp, gIx, seqL, asSeq, asSeqF, ownL, gSl, gLen, gListOf, gTupOf, gIs, canSet, noOwnB]) (by rw [zip_len hl]; exact szL_ge hz)]
  simp only [e_c, e_nil, e_cons, e_op, e_un, e_cb, e_if, e_test, e_and, e_or, e_not, e_andV, e_orV, e_notV, e_chain, e_tup, e_lst, e_lLst, e_lListOf, e_ofL, e_part, e_noPart, e_sl, e_isi, e_yes, e_bits, e_seq, e_next, e_brk, e_cont, e_never, e_asg, e_ret, e_retN, e_sif, e_drop, e_own, e_par, e_parOD, e_parDO, e_par3, e_app, e_setI, e_aug, e_for, e_call, e_callN, e_new, e_then, e_callF, e_callF0, e_seqIt, e_rng1, e_rng2, e_zipN, e_zipS, e_gtup, e_gnil, e_gcons, e_frzs0, e_frzs1, e_g1, e_g2, e_loop0, e_loop1, e_run, e_out0, e_out1, e_out2, Nat.zero_le, Option.bind_some, Option.bind_none, Option.map_some, Option.map_none, List.length_cons, List.length_nil, List.cons_append, List.nil_append, List.replicate_succ, List.replicate_zero, List.append_nil, List.getElem?_cons_zero, List.getElem?_cons_succ, List.set_cons_zero, List.set_cons_succ, List.map_cons, List.map_nil, Nat.reduceAdd, Nat.reduceSub, Nat.reduceLT, Nat.reduceLeDiff, Nat.reduceEqDiff, if_true, if_false, reduceIte, Bool.false_eq_true, Bool.not_true, Bool.not_false, ne_eq, Int.reduceEq, Int.reduceNe, not_false_eq_true, not_true_eq_false, Int.reduceLT, Int.reduceLE, Int.reduceNeg, Int.reduceSub, Int.reduceAdd, decide_true, decide_false, true_and, and_true, and_false, false_and, and_self, fVar, fName, val, frz, look, asB, asI, gAdd, gMul, gMod, gFdiv, gMinus, gInt, gInt1, gI1, gI2, gGt, gLt, gLe, gGe, gCmp, gIx, seqL, asSeq, asSeqF, ownL, gSl, gLen, gListOf, gTupOf, gIs, canSet, noOwnB, fsum, List.map_map]
  rfl
theorem form_times_ok {n : Int} {f : List Int} {k : Nat} (hn : sm k n) (hf : ∀ x ∈ f, sm k x) (hk : k ≤ 400000) (hz : f.length ≤ 1000) : F_form_times [.dat (.int n), .dat (.tup (f.map .int))] = some (.tup ((ftimes n f).map .int), []) := by
  simp only [F_form_times, g_form_times, e_c, e_nil, e_cons, e_op, e_un, e_cb, e_if, e_test, e_and, e_or, e_not, e_andV, e_orV, e_notV, e_chain, e_tup, e_lst, e_lLst, e_lListOf, e_ofL, e_part, e_noPart, e_sl, e_isi, e_yes, e_bits, e_seq, e_next, e_brk, e_cont, e_never, e_asg, e_ret, e_retN, e_sif, e_drop, e_own, e_par, e_parOD, e_parDO, e_par3, e_app, e_setI, e_aug, e_for, e_call, e_callN, e_new, e_then, e_callF, e_callF0, e_seqIt, e_rng1, e_rng2, e_zipN, e_zipS, e_gtup, e_gnil, e_gcons, e_frzs0, e_frzs1, e_g1, e_g2, e_loop0, e_loop1, e_run, e_out0, e_out1, e_out2, Nat.zero_le, Option.bind_some, Option.bind_none, Option.map_some, Option.map_none, List.length_cons, List.length_nil, List.cons_append, List.nil_append, List.replicate_succ, List.replicate_zero, List.append_nil, List.getElem?_cons_zero, List.getElem?_cons_succ, List.set_cons_zero, List.set_cons_succ, List.map_cons, List.map_nil, Nat.reduceAdd, Nat.reduceSub, Nat.reduceLT, Nat.reduceLeDiff, Nat.reduceEqDiff, if_true, if_false, reduceIte, Bool.false_eq_true, Bool.not_true, Bool.not_false, ne_eq, Int.reduceEq, Int.reduceNe, not_false_eq_true, not_true_eq_false, Int.reduceLT, Int.reduceLE, Int.reduceNeg, Int.reduceSub, Int.reduceAdd, decide_true, decide_false, true_and, and_true, and_false, false_and, and_self]
  rw [c_map (l := f) (i := .int) (fun p => .int (n * p)) (by simp only [e_c, e_nil, e_cons, e_op, e_un, e_cb, e_if, e_test, e_and, e_or, e_not, e_andV, e_orV, e_notV, e_chain, e_tup, e_lst, e_lLst, e_lListOf, e_ofL, e_part, e_noPart, e_sl, e_isi, e_yes, e_bits, e_seq, e_next, e_brk, e_cont, e_never, e_asg, e_ret, e_retN, e_sif, e_drop, e_own, e_par, e_parOD, e_parDO, e_par3, e_app, e_setI, e_aug, e_for, e_call, e_callN, e_new, e_then, e_callF, e_callF0, e_seqIt, e_rng1, e_rng2, e_zipN, e_zipS, e_gtup, e_gnil, e_gcons, e_frzs0, e_frzs1, e_g1, e_g2, e_loop0, e_loop1, e_run, e_out0, e_out1, e_out2, Nat.zero_le, Option.bind_some, Option.bind_none, Option.map_some, Option.map_none, List.length_cons, List.length_nil, List.cons_append, List.nil_append, List.replicate_succ, List.replicate_zero, List.append_nil, List.getElem?_cons_zero, List.getElem?_cons_succ, List.set_cons_zero, List.set_cons_succ, List.map_cons, List.map_nil, Nat.reduceAdd, Nat.reduceSub, Nat.reduceLT, Nat.reduceLeDiff, Nat.reduceEqDiff, if_true, if_false, reduceIte, Bool.false_eq_true, Bool.not_true, Bool.not_false, ne_eq, Int.reduceEq, Int.reduceNe, not_false_eq_true, not_true_eq_false, Int.reduceLT, Int.reduceLE, Int.reduceNeg, Int.reduceSub, Int.reduceAdd, decide_true, decide_false, true_and, and_true, and_false, false_and, and_self, fVar, fName, val, frz, look, asB, asI, gAdd, gMul, gMod, gFdiv, gMinus, gInt, gInt1, gI1, gI2, gGt, gLt, gLe, gGe, gCmp, gIx, seqL, asSeq, asSeqF, ownL, gSl, gLen, gListOf, gTupOf, gIs, canSet, noOwnB]) (by simp) rfl (fun x hx => by simp only [e_c, e_nil, e_cons, e_op, e_un, e_cb, e_if, e_test, e_and, e_or, e_not, e_andV, e_orV, e_notV, e_chain, e_tup, e_lst, e_lLst, e_lListOf, e_ofL, e_part, e_noPart, e_sl, e_isi, e_yes, e_bits, e_seq, e_next, e_brk, e_cont, e_never, e_asg, e_ret, e_retN, e_sif, e_drop, e_own, e_par, e_parOD, e_parDO, e_par3, e_app, e_setI, e_aug, e_for, e_call, e_callN, e_new, e_then, e_callF, e_callF0, e_seqIt, e_rng1, e_rng2, e_zipN, e_zipS, e_gtup, e_gnil, e_gcons, e_frzs0, e_frzs1, e_g1, e_g2, e_loop0, e_loop1, e_run, e_out0, e_out1, e_out2, Nat.zero_le, Option.bind_some, Option.bind_none, Option.map_some, Option.map_none, List.length_cons, List.length_nil, List.cons_append, List.nil_append, List.replicate_succ, List.replicate_zero, List.append_nil, List.getElem?_cons_zero, List.getElem?_cons_succ, List.set_cons_zero, List.set_cons_succ, List.map_cons, List.map_nil, Nat.reduceAdd, Nat.reduceSub, Nat.reduceLT, Nat.reduceLeDiff, Nat.reduceEqDiff, if_true, if_false, reduceIte, Bool.false_eq_true, Bool.not_true, Bool.not_false, ne_eq, Int.reduceEq, Int.reduceNe, not_false_eq_true, not_true_eq_false, Int.reduceLT, Int.reduceLE, Int.reduceNeg, Int.reduceSub, Int.reduceAdd, decide_true, decide_false, true_and, and_true, and_false, false_and, and_self, fVar, fName, val, frz, look, asB, asI, gAdd, gMul, gMod, gFdiv, gMinus, gInt, gInt1, gI1, gI2, gGt, gLt, gLe, gGe, gCmp, gIx, seqL, asSeq, asSeqF, ownL, gSl, gLen, gListOf, gTupOf, gIs, canSet, noOwnB, hn.cm (hf x hx) (by omega)]) (szL_ge hz)]
  simp only [e_c, e_nil, e_cons, e_op, e_un, e_cb, e_if, e_test, e_and, e_or, e_not, e_andV, e_orV, e_notV, e_chain, e_tup, e_lst, e_lLst, e_lListOf, e_ofL, e_part, e_noPart, e_sl, e_isi, e_yes, e_bits, e_seq, e_next, e_brk, e_cont, e_never, e_asg, e_ret, e_retN, e_sif, e_drop, e_own, e_par, e_parOD, e_parDO, e_par3, e_app, e_setI, e_aug, e_for, e_call, e_callN, e_new, e_then, e_callF, e_callF0, e_seqIt, e_rng1, e_rng2, e_zipN, e_zipS, e_gtup, e_gnil, e_gcons, e_frzs0, e_frzs1, e_g1, e_g2, e_loop0, e_loop1, e_run, e_out0, e_out1, e_out2, Nat.zero_le, Option.bind_some, Option.bind_none, Option.map_some, Option.map_none, List.length_cons, List.length_nil, List.cons_append, List.nil_append, List.replicate_succ, List.replicate_zero, List.append_nil, List.getElem?_cons_zero, List.getElem?_cons_succ, List.set_cons_zero, List.set_cons_succ, List.map_cons, List.map_nil, Nat.reduceAdd, Nat.reduceSub, Nat.reduceLT, Nat.reduceLeDiff, Nat.reduceEqDiff, if_true, if_false, reduceIte, Bool.false_eq_true, Bool.not_true, Bool.not_false, ne_eq, Int.reduceEq, Int.reduceNe, not_false_eq_true, not_true_eq_false, Int.reduceLT, Int.reduceLE, Int.reduceNeg, Int.reduceSub, Int.reduceAdd, decide_true, decide_false, true_and, and_true, and_false, false_and, and_self, fVar, fName, val, frz, look, asB, asI, gAdd, gMul, gMod, gFdiv, gMinus, gInt, gInt1, gI1, gI2, gGt, gLt, gLe, gGe, gCmp, gIx, seqL, asSeq, asSeqF, ownL, gSl, gLen, gListOf, gTupOf, gIs, canSet, noOwnB, ftimes, List.map_map]
  rfl
theorem form_below_ok {f g : List Int} (hl : f.length = g.length) (hz : f.length ≤ 1000) : F_form_below [.dat (.tup (f.map .int)), .dat (.tup (g.map .int))] = some (.bl (fbelow f g), []) := by
  simp only [F_form_below, g_form_below, e_c, e_nil, e_cons, e_op, e_un, e_cb, e_if, e_test, e_and, e_or, e_not, e_andV, e_orV, e_notV, e_chain, e_tup, e_lst, e_lLst, e_lListOf, e_ofL, e_part, e_noPart, e_sl, e_isi, e_yes, e_bits, e_seq, e_next, e_brk, e_cont, e_never, e_asg, e_ret, e_retN, e_sif, e_drop, e_own, e_par, e_parOD, e_parDO, e_par3, e_app, e_setI, e_aug, e_for, e_call, e_callN, e_new, e_then, e_callF, e_callF0, e_seqIt, e_rng1, e_rng2, e_zipN, e_zipS, e_gtup, e_gnil, e_gcons, e_frzs0, e_frzs1, e_g1, e_g2, e_loop0, e_loop1, e_run, e_out0, e_out1, e_out2, Nat.zero_le, Option.bind_some, Option.bind_none, Option.map_some, Option.map_none, List.length_cons, List.length_nil, List.cons_append, List.nil_append, List.replicate_succ, List.replicate_zero, List.append_nil, List.getElem?_cons_zero, List.getElem?_cons_succ, List.set_cons_zero, List.set_cons_succ, List.map_cons, List.map_nil, Nat.reduceAdd, Nat.reduceSub, Nat.reduceLT, Nat.reduceLeDiff, Nat.reduceEqDiff, if_true, if_false, reduceIte, Bool.false_eq_true, Bool.not_true, Bool.not_false, ne_eq, Int.reduceEq, Int.reduceNe, not_false_eq_true, not_true_eq_false, Int.reduceLT, Int.reduceLE, Int.reduceNeg, Int.reduceSub, Int.reduceAdd, decide_true, decide_false, true_and, and_true, and_false, false_and, and_self]
  rw [z_gen (l := f.zip g) (i := fun p => .int p.1) (j := fun p => .int p.2) (fun p => gtI p.1 p.2) (fun p => .int p.1) (by simp only [e_c, e_nil, e_cons, e_op, e_un, e_cb, e_if, e_test, e_and, e_or, e_not, e_andV, e_orV, e_notV, e_chain, e_tup, e_lst, e_lLst, e_lListOf, e_ofL, e_part, e_noPart, e_sl, e_isi, e_yes, e_bits, e_seq, e_next, e_brk, e_cont, e_never, e_asg, e_ret, e_retN, e_sif, e_drop, e_own, e_par, e_parOD, e_parDO, e_par3, e_app, e_setI, e_aug, e_for, e_call, e_callN, e_new, e_then, e_callF, e_callF0, e_seqIt, e_rng1, e_rng2, e_zipN, e_zipS, e_gtup, e_gnil, e_gcons, e_frzs0, e_frzs1, e_g1, e_g2, e_loop0, e_loop1, e_run, e_out0, e_out1, e_out2, Nat.zero_le, Option.bind_some, Option.bind_none, Option.map_some, Option.map_none, List.length_cons, List.length_nil, List.cons_append, List.nil_append, List.replicate_succ, List.replicate_zero, List.append_nil, List.getElem?_cons_zero, List.getElem?_cons_succ, List.set_cons_zero, List.set_cons_succ, List.map_cons, List.map_nil, Nat.reduceAdd, Nat.reduceSub, Nat.reduceLT, Nat.reduceLeDiff, Nat.reduceEqDiff, if_true, if_false, reduceIte, Bool.false_eq_true, Bool.not_true, Bool.not_false, ne_eq, Int.reduceEq, Int.reduceNe, not_false_eq_true, not_true_eq_false, Int.reduceLT, Int.reduceLE, Int.reduceNeg, Int.reduceSub, Int.reduceAdd, decide_true, decide_false, true_and, and_true, and_false, false_and, and_self, fVar, fName, val, frz, look, asB, asI, gAdd, gMul, gMod, gFdiv, gMinus, gInt, gInt1, gI1, gI2, gGt, gLt, gLe, gGe, gCmp, gIx, seqL, asSeq, asSeqF, ownL, gSl, gLen, gListOf, gTupOf, gIs, canSet, noOwnB, List.length_map, hl, pairD_ints]) (by decide) (by simp) (by simp) rfl (fun x _ => by simp only [e_c, e_nil, e_cons, e_op, e_un, e_cb, e_if, e_test, e_and, e_or, e_not, e_andV, e_orV, e_notV, e_chain, e_tup, e_lst, e_lLst, e_lListOf, e_ofL, e_part, e_noPart, e_sl, e_isi, e_yes, e_bits, e_seq, e_next, e_brk, e_cont, e_never, e_asg, e_ret, e_retN, e_sif, e_drop, e_own, e_par, e_parOD, e_parDO, e_par3, e_app, e_setI, e_aug, e_for, e_call, e_callN, e_new, e_then, e_callF, e_callF0, e_seqIt, e_rng1, e_rng2, e_zipN, e_zipS, e_gtup, e_gnil, e_gcons, e_frzs0, e_frzs1, e_g1, e_g2, e_loop0, e_loop1, e_run, e_out0, e_out1, e_out2, Nat.zero_le, Option.bind_some, Option.bind_none, Option.map_some, Option.map_none, List.length_cons, List.length_nil, List.cons_append, List.nil_append, List.replicate_succ, List.replicate_zero, List.append_nil, List.getElem?_cons_zero, List.getElem?_cons_succ, List.set_cons_zero, List.set_cons_succ, List.map_cons, List.map_nil, Nat.reduceAdd, Nat.reduceSub, Nat.reduceLT, Nat.reduceLeDiff, Nat.reduceEqDiff, if_true, if_false, reduceIte, Bool.false_eq_true, Bool.not_true, Bool.not_false, ne_eq, Int.reduceEq, Int.reduceNe, not_false_eq_true, not_true_eq_false, Int.reduceLT, Int.reduceLE, Int.reduceNeg, Int.reduceSub, Int.reduceAdd, decide_true, decide_false, true_and, and_true, and_false, false_and, and_self, fVar, fName, val, frz, look, asB, asI, gAdd, gMul, gMod, gFdiv, gMinus, gInt, gInt1, gI1, gI2, gGt, gLt, gLe, gGe, gCmp, gIx, seqL, asSeq, asSeqF, ownL, gSl, gLen, gListOf, gTupOf, gIs, canSet, noOwnB]) (fun x _ _ => ⟨.v 2, by simp only [e_c, e_nil, e_cons, e_op, e_un, e_cb, e_if, e_test, e_and, e_or, e_not, e_andV, e_orV, e_notV, e_chain, e_tup, e_lst, e_lLst, e_lListOf, e_ofL, e_part, e_noPart, e_sl, e_isi, e_yes, e_bits, e_seq, e_next, e_brk, e_cont, e_never, e_asg, e_ret, e_retN, e_sif, e_drop, e_own, e_par, e_parOD, e_parDO, e_par3, e_app, e_setI, e_aug, e_for, e_call, e_callN, e_new, e_then, e_callF, e_callF0, e_seqIt, e_rng1, e_rng2, e_zipN, e_zipS, e_gtup, e_gnil, e_gcons, e_frzs0, e_frzs1, e_g1, e_g2, e_loop0, e_loop1, e_run, e_out0, e_out1, e_out2, Nat.zero_le, Option.bind_some, Option.bind_none, Option.map_some, Option.map_none, List.length_cons, List.length_nil, List.cons_append, List.nil_append, List.replicate_succ, List.replicate_zero, List.append_nil, List.getElem?_cons_zero, List.getElem?_cons_succ, List.set_cons_zero, List.set_cons_succ, List.map_cons, List.map_nil, Nat.reduceAdd, Nat.reduceSub, Nat.reduceLT, Nat.reduceLeDiff, Nat.reduceEqDiff, if_true, if_false, reduceIte, Bool.false_eq_true, Bool.not_true, Bool.not_false, ne_eq, Int.reduceEq, Int.reduceNe, not_false_eq_true, not_true_eq_false, Int.reduceLT, Int.reduceLE, Int.reduceNeg, Int.reduceSub, Int.reduceAdd, decide_true, decide_false, true_and, and_true, and_false, false_and, and_self, fVar, fName, val, frz, look, asB, asI, gAdd, gMul, gMod, gFdiv, gMinus, gInt, gInt1, gI1, gI2, gGt, gLt, gLe, gGe, gCmp, gIx, seqL, asSeq, asSeqF, ownL, gSl, gLen, gListOf, gTupOf, gIs, canSet, noOwnB], by simp only [e_c, e_nil, e_cons, e_op, e_un, e_cb, e_if, e_test, e_and, e_or, e_not, e_andV, e_orV, e_notV, e_chain, e_tup, e_lst, e_lLst, e_lListOf, e_ofL, e_part, e_noPart, e_sl, e_isi, e_yes, e_bits, e_seq, e_next, e_brk, e_cont, e_never, e_asg, e_ret, e_retN, e_sif, e_drop, e_own, e_par, e_parOD, e_parDO, e_par3, e_app, e_setI, e_aug, e_for, e_call, e_callN, e_new, e_then, e_callF, e_callF0, e_seqIt, e_rng1, e_rng2, e_zipN, e_zipS, e_gtup, e_gnil, e_gcons, e_frzs0, e_frzs1, e_g1, e_g2, e_loop0, e_loop1, e_run, e_out0, e_out1, e_out2, Nat.zero_le, Option.bind_some, Option.bind_none, Option.map_some, Option.map_none, List.length_cons, List.length_nil, List.cons_append, List.nil_append, List.replicate_succ, List.replicate_zero, List.append_nil, List.getElem?_cons_zero, List.getElem?_cons_succ, List.set_cons_zero, List.set_cons_succ, List.map_cons, List.map_nil, Nat.reduceAdd, Nat.reduceSub, Nat.reduceLT, Nat.reduceLeDiff, Nat.reduceEqDiff, if_true, if_false, reduceIte, Bool.false_eq_true, Bool.not_true, Bool.not_false, ne_eq, Int.reduceEq, Int.reduceNe, not_false_eq_true, not_true_eq_false, Int.reduceLT, Int.reduceLE, Int.reduceNeg, Int.reduceSub, Int.reduceAdd, decide_true, decide_false, true_and, and_true, and_false, false_and, and_self, fVar, fName, val, frz, look, asB, asI, gAdd, gMul, gMod, gFdiv, gMinus, gInt, gInt1, gI1, gI2, gGt, gLt, gLe, gGe, gCmp, gIx, seqL, asSeq, asSeqF, ownL, gSl, gLen, gListOf, gTupOf, gIs, canSet, noOwnB]⟩) (by rw [zip_len hl]; exact szL_ge hz)]
  have e1 : eqC (.lst (((f.zip g).filter fun p => gtI p.1 p.2).map fun p => Dv.int p.1)) (.lst []) = true := eqC_ok ((okd_lst (n := 0) fun d hd => by
    obtain ⟨x, _, rfl⟩ := List.mem_map.mp hd
    exact okd_int).mono (by decide)) ((okd_lst (n := 0) fun d hd => by cases hd).mono (by decide))
  have e2 : (((f.zip g).filter fun p => gtI p.1 p.2).map fun p => Dv.int p.1).isEmpty = fbelow f g := by
    unfold fbelow
    rw [List.isEmpty_map]
    clear e1
    induction f.zip g with
    | nil => rfl
    | cons p l ih =>
      rw [List.filter_cons, List.all_cons]
      by_cases h : p.1 ≤ p.2
      · rw [if_neg (by simp only [gtI, decide_eq_true_eq]; omega), ih, decide_eq_true h, Bool.true_and]
      · rw [if_pos (by simp only [gtI, decide_eq_true_eq]; omega), decide_eq_false h]
        rfl
  simp only [e_c, e_nil, e_cons, e_op, e_un, e_cb, e_if, e_test, e_and, e_or, e_not, e_andV, e_orV, e_notV, e_chain, e_tup, e_lst, e_lLst, e_lListOf, e_ofL, e_part, e_noPart, e_sl, e_isi, e_yes, e_bits, e_seq, e_next, e_brk, e_cont, e_never, e_asg, e_ret, e_retN, e_sif, e_drop, e_own, e_par, e_parOD, e_parDO, e_par3, e_app, e_setI, e_aug, e_for, e_call, e_callN, e_new, e_then, e_callF, e_callF0, e_seqIt, e_rng1, e_rng2, e_zipN, e_zipS, e_gtup, e_gnil, e_gcons, e_frzs0, e_frzs1, e_g1, e_g2, e_loop0, e_loop1, e_run, e_out0, e_out1, e_out2, Nat.zero_le, Option.bind_some, Option.bind_none, Option.map_some, Option.map_none, List.length_cons, List.length_nil, List.cons_append, List.nil_append, List.replicate_succ, List.replicate_zero, List.append_nil, List.getElem?_cons_zero, List.getElem?_cons_succ, List.set_cons_zero, List.set_cons_succ, List.map_cons, List.map_nil, Nat.reduceAdd, Nat.reduceSub, Nat.reduceLT, Nat.reduceLeDiff, Nat.reduceEqDiff, if_true, if_false, reduceIte, Bool.false_eq_true, Bool.not_true, Bool.not_false, ne_eq, Int.reduceEq, Int.reduceNe, not_false_eq_true, not_true_eq_false, Int.reduceLT, Int.reduceLE, Int.reduceNeg, Int.reduceSub, Int.reduceAdd, decide_true, decide_false, true_and, and_true, and_false, false_and, and_self, fVar, fName, val, frz, look, asB, asI, gAdd, gMul, gMod, gFdiv, gMinus, gInt, gInt1, gI1, gI2, gGt, gLt, gLe, gGe, gCmp, gIx, seqL, asSeq, asSeqF, ownL, gSl, gLen, gListOf, gTupOf, gIs, canSet, noOwnB, gEq, e1, eqv_nil, e2]
theorem law_value_ok {c : Int} {f p : List Int} {k : Nat} (hl : f.length = p.length) (hf : ∀ x ∈ f, sm k x) (hp : ∀ x ∈ p, sm k x) (hk : k ≤ 400000) (hz : f.length ≤ 1000) : F_law_value [.dat (.tup (.int c :: f.map .int)), .dat (.lst (p.map .int))] = some (.int (c + dot f p), []) := by
  simp only [F_law_value, g_law_value, e_c, e_nil, e_cons, e_op, e_un, e_cb, e_if, e_test, e_and, e_or, e_not, e_andV, e_orV, e_notV, e_chain, e_tup, e_lst, e_lLst, e_lListOf, e_ofL, e_part, e_noPart, e_sl, e_isi, e_yes, e_bits, e_seq, e_next, e_brk, e_cont, e_never, e_asg, e_ret, e_retN, e_sif, e_drop, e_own, e_par, e_parOD, e_parDO, e_par3, e_app, e_setI, e_aug, e_for, e_call, e_callN, e_new, e_then, e_callF, e_callF0, e_seqIt, e_rng1, e_rng2, e_zipN, e_zipS, e_gtup, e_gnil, e_gcons, e_frzs0, e_frzs1, e_g1, e_g2, e_loop0, e_loop1, e_run, e_out0, e_out1, e_out2, Nat.zero_le, Option.bind_some, Option.bind_none, Option.map_some, Option.map_none, List.length_cons, List.length_nil, List.cons_append, List.nil_append, List.replicate_succ, List.replicate_zero, List.append_nil, List.getElem?_cons_zero, List.getElem?_cons_succ, List.set_cons_zero, List.set_cons_succ, List.map_cons, List.map_nil, Nat.reduceAdd, Nat.reduceSub, Nat.reduceLT, Nat.reduceLeDiff, Nat.reduceEqDiff, if_true, if_false, reduceIte, Bool.false_eq_true, Bool.not_true, Bool.not_false, ne_eq, Int.reduceEq, Int.reduceNe, not_false_eq_true, not_true_eq_false, Int.reduceLT, Int.reduceLE, Int.reduceNeg, Int.reduceSub, Int.reduceAdd, decide_true, decide_false, true_and, and_true, and_false, false_and, and_self, fVar, fName, val, frz, look, asB, asI, gAdd, gMul, gMod, gFdiv, gMinus, gInt, gInt1, gI1, gI2, gGt, gLt, gLe, gGe, gCmp, gIx, seqL, asSeq, asSeqF, ownL, gSl, gLen, gListOf, gTupOf, gIs, canSet, noOwnB, atI_zero]
  rw [z_map (l := f.zip p) (i := fun p => .int p.1) (j := fun p => .int p.2) (fun p => .int (p.1 * p.2)) (by simp only [e_c, e_nil, e_cons, e_op, e_un, e_cb, e_if, e_test, e_and, e_or, e_not, e_andV, e_orV, e_notV, e_chain, e_tup, e_lst, e_lLst, e_lListOf, e_ofL, e_part, e_noPart, e_sl, e_isi, e_yes, e_bits, e_seq, e_next, e_brk, e_cont, e_never, e_asg, e_ret, e_retN, e_sif, e_drop, e_own, e_par, e_parOD, e_parDO, e_par3, e_app, e_setI, e_aug, e_for, e_call, e_callN, e_new, e_then, e_callF, e_callF0, e_seqIt, e_rng1, e_rng2, e_zipN, e_zipS, e_gtup, e_gnil, e_gcons, e_frzs0, e_frzs1, e_g1, e_g2, e_loop0, e_loop1, e_run, e_out0, e_out1, e_out2, Nat.zero_le, Option.bind_some, Option.bind_none, Option.map_some, Option.map_none, List.length_cons, List.length_nil, List.cons_append, List.nil_append, List.replicate_succ, List.replicate_zero, List.append_nil, List.getElem?_cons_zero, List.getElem?_cons_succ, List.set_cons_zero, List.set_cons_succ, List.map_cons, List.map_nil, Nat.reduceAdd, Nat.reduceSub, Nat.reduceLT, Nat.reduceLeDiff, Nat.reduceEqDiff, if_true, if_false, reduceIte, Bool.false_eq_true, Bool.not_true, Bool.not_false, ne_eq, Int.reduceEq, Int.reduceNe, not_false_eq_true, not_true_eq_false, Int.reduceLT, Int.reduceLE, Int.reduceNeg, Int.reduceSub, Int.reduceAdd, decide_true, decide_false, true_and, and_true, and_false, false_and, and_self, fVar, fName, val, frz, look, asB, asI, gAdd, gMul, gMod, gFdiv, gMinus, gInt, gInt1, gI1, gI2, gGt, gLt, gLe, gGe, gCmp, gIx, seqL, asSeq, asSeqF, ownL, gSl, gLen, gListOf, gTupOf, gIs, canSet, noOwnB, cut_tail, pairD_ints]) (by decide) (by simp) (by simp) rfl (fun x hx => by simp only [e_c, e_nil, e_cons, e_op, e_un, e_cb, e_if, e_test, e_and, e_or, e_not, e_andV, e_orV, e_notV, e_chain, e_tup, e_lst, e_lLst, e_lListOf, e_ofL, e_part, e_noPart, e_sl, e_isi, e_yes, e_bits, e_seq, e_next, e_brk, e_cont, e_never, e_asg, e_ret, e_retN, e_sif, e_drop, e_own, e_par, e_parOD, e_parDO, e_par3, e_app, e_setI, e_aug, e_for, e_call, e_callN, e_new, e_then, e_callF, e_callF0, e_seqIt, e_rng1, e_rng2, e_zipN, e_zipS, e_gtup, e_gnil, e_gcons, e_frzs0, e_frzs1, e_g1, e_g2, e_loop0, e_loop1, e_run, e_out0, e_out1, e_out2, Nat.zero_le, Option.bind_some, Option.bind_none, Option.map_some, Option.map_none, List.length_cons, List.length_nil, List.cons_append, List.nil_append, List.replicate_succ, List.replicate_zero, List.append_nil, List.getElem?_cons_zero, List.getElem?_cons_succ, List.set_cons_zero, List.set_cons_succ, List.map_cons, List.map_nil, Nat.reduceAdd, Nat.reduceSub, Nat.reduceLT, Nat.reduceLeDiff, Nat.reduceEqDiff, if_true, if_false, reduceIte, Bool.false_eq_true, Bool.not_true, Bool.not_false, ne_eq, Int.reduceEq, Int.reduceNe, not_false_eq_true, not_true_eq_false, Int.reduceLT, Int.reduceLE, Int.reduceNeg, Int.reduceSub, Int.reduceAdd, decide_true, decide_false, true_and, and_true, and_false, false_and, and_self, fVar, fName, val, frz, look, asB, asI, gAdd, gMul, gMod, gFdiv, gMinus, gInt, gInt1, gI1, gI2, gGt, gLt, gLe, gGe, gCmp, gIx, seqL, asSeq, asSeqF, ownL, gSl, gLen, gListOf, gTupOf, gIs, canSet, noOwnB, (hf x.1 (List.of_mem_zip hx).1).cm (hp x.2 (List.of_mem_zip hx).2) (by omega)]) (by rw [zip_len hl]; exact szL_ge hz)]
  have e : ((f.zip p).map fun p => Dv.int (p.1 * p.2)) = ((f.zip p).map fun p => p.1 * p.2).map .int := by rw [List.map_map]; rfl
  simp only [e_c, e_nil, e_cons, e_op, e_un, e_cb, e_if, e_test, e_and, e_or, e_not, e_andV, e_orV, e_notV, e_chain, e_tup, e_lst, e_lLst, e_lListOf, e_ofL, e_part, e_noPart, e_sl, e_isi, e_yes, e_bits, e_seq, e_next, e_brk, e_cont, e_never, e_asg, e_ret, e_retN, e_sif, e_drop, e_own, e_par, e_parOD, e_parDO, e_par3, e_app, e_setI, e_aug, e_for, e_call, e_callN, e_new, e_then, e_callF, e_callF0, e_seqIt, e_rng1, e_rng2, e_zipN, e_zipS, e_gtup, e_gnil, e_gcons, e_frzs0, e_frzs1, e_g1, e_g2, e_loop0, e_loop1, e_run, e_out0, e_out1, e_out2, Nat.zero_le, Option.bind_some, Option.bind_none, Option.map_some, Option.map_none, List.length_cons, List.length_nil, List.cons_append, List.nil_append, List.replicate_succ, List.replicate_zero, List.append_nil, List.getElem?_cons_zero, List.getElem?_cons_succ, List.set_cons_zero, List.set_cons_succ, List.map_cons, List.map_nil, Nat.reduceAdd, Nat.reduceSub, Nat.reduceLT, Nat.reduceLeDiff, Nat.reduceEqDiff, if_true, if_false, reduceIte, Bool.false_eq_true, Bool.not_true, Bool.not_false, ne_eq, Int.reduceEq, Int.reduceNe, not_false_eq_true, not_true_eq_false, Int.reduceLT, Int.reduceLE, Int.reduceNeg, Int.reduceSub, Int.reduceAdd, decide_true, decide_false, true_and, and_true, and_false, false_and, and_self, fVar, fName, val, frz, look, asB, asI, gAdd, gMul, gMod, gFdiv, gMinus, gInt, gInt1, gI1, gI2, gGt, gLt, gLe, gGe, gCmp, gIx, seqL, asSeq, asSeqF, ownL, gSl, gLen, gListOf, gTupOf, gIs, canSet, noOwnB, atI_zero, gSum, e, intL_map, dot]
theorem fsum_len {f g : List Int} (h : f.length = g.length) : (fsum f g).length = f.length := by
  unfold fsum
  rw [List.length_map, zip_len h]
theorem ftimes_len {n : Int} {g : List Int} : (ftimes n g).length = g.length := by
  unfold ftimes
  rw [List.length_map]
theorem Good.mono {n m : Nat} {xs : List Dv} (h : Good n xs) (k : n ≤ m) : Good m xs := by
  obtain ⟨a, s, c, e, h1, h2, h3, h4, h5⟩ := h
  exact ⟨a, s, c, e, h1, h2, h3, h4, by omega⟩
def Up (b : Int) (f : List Int) : Prop := ∀ x ∈ f, 0 ≤ x ∧ x ≤ b
theorem Up.fm {b : Int} {f : List Int} (h : Up b f) : Fm f := fun x hx => (h x hx).1
theorem Up.sm {b : Int} {f : List Int} {k : Nat} (h : Up b f) (hb : b < 2 ^ k) : ∀ x ∈ f, sm k x := fun x hx => sm_of (h x hx).1 (by have := (h x hx).2; omega)
/-- a comprehension of draws below a bound -/
theorem draws_ok {n : Nat} {xs : List Dv} {b : Int} {ds : List Dv} {A B : Dv} {fe : EF} (g : Good n xs) (hn : n + 10 * ds.length ≤ 2 ^ 30) (hb : 0 < b) (hb2 : b < 2 ^ 200) (hz : ds.length ≤ 1000)
    (hfe : ∀ ys d, fe [.own true ys, .dat A, .dat B, .dat d] = (F_law_random [.own true ys, .dat (.int b)]).map fun r => (.d r.1, [.own true r.2, .dat A, .dat B, .dat d])) :
    ∃ (f : List Int) (ys : List Dv), compF (fName 3) tYesF fe [3] ds [.own true xs, .dat A, .dat B, .non] [] = some (f.map .int, [.own true ys, .dat A, .dat B, .non]) ∧ f.length = ds.length ∧ (∀ x ∈ f, 0 ≤ x ∧ x < b) ∧ Good (n + 10 * ds.length) ys := by
  obtain ⟨e', zs, h1, f, ys, rfl, rfl, h2, h3, h4⟩ := comp_inv (gf := fName 3) (ft := tYesF) (fe := fe) (ts := [3]) (fun i e acc => ∃ (f : List Int) (ys : List Dv), acc = f.map .int ∧ e = [.own true ys, .dat A, .dat B, .non] ∧ f.length = i ∧ (∀ x ∈ f, 0 ≤ x ∧ x < b) ∧ Good (n + 10 * i) ys) ds
    (fun i d hd e acc ⟨f, ys, ea, ee, h2, h3, h4⟩ => by
      subst ea ee
      have hi : i < ds.length := (List.getElem?_eq_some_iff.mp hd).1
      obtain ⟨r, ws, q1, q2, q3, q4⟩ := rnd_ok h4 (by omega) hb hb2
      refine ⟨[.own true ys, .dat A, .dat B, .dat d], _, true, rfl, rfl, (fun z => by cases z), fun _ => ⟨.d (.int r), [.own true ws, .dat A, .dat B, .dat d], .int r, [.own true ws, .dat A, .dat B, .dat d], by rw [hfe, q1]; rfl, rfl, f ++ [r], ws, by rw [List.map_append]; rfl, rfl, by rw [List.length_append, h2]; rfl, fun x hx => ?_, q4⟩⟩
      rcases List.mem_append.mp hx with hx | hx
      · exact h3 x hx
      · have : x = r := by simpa using hx
        subst this
        exact ⟨q2, q3⟩) _ [] ⟨[], xs, rfl, rfl, rfl, (fun x hx => by cases hx), g⟩ (by simpa using szL_ge hz)
  exact ⟨f, ys, h1, h2, h3, h4⟩
theorem form_draw {n : Nat} {xs : List Dv} {many b : Int} (g : Good n xs) (hn : n + 40 ≤ 2 ^ 30) (h0 : 0 ≤ many) (h3 : many ≤ 3) (hb : 0 ≤ b) (hb2 : b < 2 ^ 199) :
    ∃ (f : List Int) (ys : List Dv), F_law_form [.own true xs, .dat (.int many), .dat (.int b)] = some (.tup (f.map .int), ys) ∧ (f.length : Int) = many + 1 ∧ Up b f ∧ Good (n + 40) ys := by
  have ll : (rangeD 0 (many + 1).toNat).length = (many + 1).toNat := rangeD_len
  obtain ⟨f, ys, h1, h2, h4, h5⟩ := draws_ok (b := b + 1) (ds := rangeD 0 (many + 1).toNat) (A := .int many) (B := .int b) (fe := fCall 2 (some 0) F_law_random (fCons (fVar 0) (fCons (fOp gAdd (fVar 2) (fC (.int (1 : Int)))) fNil))) g (by omega) (by omega) (by omega) (by omega) (fun ys d => by
    simp only [e_c, e_nil, e_cons, e_op, e_un, e_cb, e_if, e_test, e_and, e_or, e_not, e_andV, e_orV, e_notV, e_chain, e_tup, e_lst, e_lLst, e_lListOf, e_ofL, e_part, e_noPart, e_sl, e_isi, e_yes, e_bits, e_seq, e_next, e_brk, e_cont, e_never, e_asg, e_ret, e_retN, e_sif, e_drop, e_own, e_par, e_parOD, e_parDO, e_par3, e_app, e_setI, e_aug, e_for, e_call, e_callN, e_new, e_then, e_callF, e_callF0, e_seqIt, e_rng1, e_rng2, e_zipN, e_zipS, e_gtup, e_gnil, e_gcons, e_frzs0, e_frzs1, e_g1, e_g2, e_loop0, e_loop1, e_run, e_out0, e_out1, e_out2, Nat.zero_le, Option.bind_some, Option.bind_none, Option.map_some, Option.map_none, List.length_cons, List.length_nil, List.cons_append, List.nil_append, List.replicate_succ, List.replicate_zero, List.append_nil, List.getElem?_cons_zero, List.getElem?_cons_succ, List.set_cons_zero, List.set_cons_succ, List.map_cons, List.map_nil, Nat.reduceAdd, Nat.reduceSub, Nat.reduceLT, Nat.reduceLeDiff, Nat.reduceEqDiff, if_true, if_false, reduceIte, Bool.false_eq_true, Bool.not_true, Bool.not_false, ne_eq, Int.reduceEq, Int.reduceNe, not_false_eq_true, not_true_eq_false, Int.reduceLT, Int.reduceLE, Int.reduceNeg, Int.reduceSub, Int.reduceAdd, decide_true, decide_false, true_and, and_true, and_false, false_and, and_self, fVar, fName, val, frz, look, asB, asI, gAdd, gMul, gMod, gFdiv, gMinus, gInt, gInt1, gI1, gI2, gGt, gLt, gLe, gGe, gCmp, gIx, seqL, asSeq, asSeqF, ownL, gSl, gLen, gListOf, gTupOf, gIs, canSet, noOwnB])
  refine ⟨f, ys, ?_, by omega, fun x hx => by have := h4 x hx; omega, h5.mono (by omega)⟩
  have t1 : rngC (many + 1) := rng_ok (by omega) (by omega)
  simp only [F_law_form, g_law_form, e_c, e_nil, e_cons, e_op, e_un, e_cb, e_if, e_test, e_and, e_or, e_not, e_andV, e_orV, e_notV, e_chain, e_tup, e_lst, e_lLst, e_lListOf, e_ofL, e_part, e_noPart, e_sl, e_isi, e_yes, e_bits, e_seq, e_next, e_brk, e_cont, e_never, e_asg, e_ret, e_retN, e_sif, e_drop, e_own, e_par, e_parOD, e_parDO, e_par3, e_app, e_setI, e_aug, e_for, e_call, e_callN, e_new, e_then, e_callF, e_callF0, e_seqIt, e_rng1, e_rng2, e_zipN, e_zipS, e_gtup, e_gnil, e_gcons, e_frzs0, e_frzs1, e_g1, e_g2, e_loop0, e_loop1, e_run, e_out0, e_out1, e_out2, Nat.zero_le, Option.bind_some, Option.bind_none, Option.map_some, Option.map_none, List.length_cons, List.length_nil, List.cons_append, List.nil_append, List.replicate_succ, List.replicate_zero, List.append_nil, List.getElem?_cons_zero, List.getElem?_cons_succ, List.set_cons_zero, List.set_cons_succ, List.map_cons, List.map_nil, Nat.reduceAdd, Nat.reduceSub, Nat.reduceLT, Nat.reduceLeDiff, Nat.reduceEqDiff, if_true, if_false, reduceIte, Bool.false_eq_true, Bool.not_true, Bool.not_false, ne_eq, Int.reduceEq, Int.reduceNe, not_false_eq_true, not_true_eq_false, Int.reduceLT, Int.reduceLE, Int.reduceNeg, Int.reduceSub, Int.reduceAdd, decide_true, decide_false, true_and, and_true, and_false, false_and, and_self, fVar, fName, val, frz, look, asB, asI, gAdd, gMul, gMod, gFdiv, gMinus, gInt, gInt1, gI1, gI2, gGt, gLt, gLe, gGe, gCmp, gIx, seqL, asSeq, asSeqF, ownL, gSl, gLen, gListOf, gTupOf, gIs, canSet, noOwnB, fLc, t1]
  have w : wipeE [Slot.own true xs, .dat (.int many), .dat (.int b), .non] [3] = [Slot.own true xs, .dat (.int many), .dat (.int b), .non] := rfl
  have w2 : backE [Slot.own true xs, .dat (.int many), .dat (.int b), .non] [Slot.own true ys, .dat (.int many), .dat (.int b), .non] [3] = [Slot.own true ys, .dat (.int many), .dat (.int b), .non] := rfl
  simp only [List.all_cons, List.all_nil, e_c, e_nil, e_cons, e_op, e_un, e_cb, e_if, e_test, e_and, e_or, e_not, e_andV, e_orV, e_notV, e_chain, e_tup, e_lst, e_lLst, e_lListOf, e_ofL, e_part, e_noPart, e_sl, e_isi, e_yes, e_bits, e_seq, e_next, e_brk, e_cont, e_never, e_asg, e_ret, e_retN, e_sif, e_drop, e_own, e_par, e_parOD, e_parDO, e_par3, e_app, e_setI, e_aug, e_for, e_call, e_callN, e_new, e_then, e_callF, e_callF0, e_seqIt, e_rng1, e_rng2, e_zipN, e_zipS, e_gtup, e_gnil, e_gcons, e_frzs0, e_frzs1, e_g1, e_g2, e_loop0, e_loop1, e_run, e_out0, e_out1, e_out2, Nat.zero_le, Option.bind_some, Option.bind_none, Option.map_some, Option.map_none, List.length_cons, List.length_nil, List.cons_append, List.nil_append, List.replicate_succ, List.replicate_zero, List.append_nil, List.getElem?_cons_zero, List.getElem?_cons_succ, List.set_cons_zero, List.set_cons_succ, List.map_cons, List.map_nil, Nat.reduceAdd, Nat.reduceSub, Nat.reduceLT, Nat.reduceLeDiff, Nat.reduceEqDiff, if_true, if_false, reduceIte, Bool.false_eq_true, Bool.not_true, Bool.not_false, ne_eq, Int.reduceEq, Int.reduceNe, not_false_eq_true, not_true_eq_false, Int.reduceLT, Int.reduceLE, Int.reduceNeg, Int.reduceSub, Int.reduceAdd, decide_true, decide_false, true_and, and_true, and_false, false_and, and_self, fVar, fName, val, frz, look, asB, asI, gAdd, gMul, gMod, gFdiv, gMinus, gInt, gInt1, gI1, gI2, gGt, gLt, gLe, gGe, gCmp, gIx, seqL, asSeq, asSeqF, ownL, gSl, gLen, gListOf, gTupOf, gIs, canSet, noOwnB, w, h1, w2, Bool.and_self]
theorem point_draw {n : Nat} {xs : List Dv} {many b : Int} (g : Good n xs) (hn : n + 40 ≤ 2 ^ 30) (h0 : 0 ≤ many) (h3 : many ≤ 3) (hb : 0 ≤ b) (hb2 : b < 2 ^ 199) :
    ∃ (f : List Int) (ys : List Dv), F_law_point [.own true xs, .dat (.int many), .dat (.int b)] = some (.lst (f.map .int), ys) ∧ (f.length : Int) = many ∧ Up b f ∧ Good (n + 40) ys := by
  have ll : (rangeD 0 many.toNat).length = many.toNat := rangeD_len
  obtain ⟨f, ys, h1, h2, h4, h5⟩ := draws_ok (b := b + 1) (ds := rangeD 0 many.toNat) (A := .int many) (B := .int b) (fe := fCall 2 (some 0) F_law_random (fCons (fVar 0) (fCons (fOp gAdd (fVar 2) (fC (.int (1 : Int)))) fNil))) g (by omega) (by omega) (by omega) (by omega) (fun ys d => by
    simp only [e_c, e_nil, e_cons, e_op, e_un, e_cb, e_if, e_test, e_and, e_or, e_not, e_andV, e_orV, e_notV, e_chain, e_tup, e_lst, e_lLst, e_lListOf, e_ofL, e_part, e_noPart, e_sl, e_isi, e_yes, e_bits, e_seq, e_next, e_brk, e_cont, e_never, e_asg, e_ret, e_retN, e_sif, e_drop, e_own, e_par, e_parOD, e_parDO, e_par3, e_app, e_setI, e_aug, e_for, e_call, e_callN, e_new, e_then, e_callF, e_callF0, e_seqIt, e_rng1, e_rng2, e_zipN, e_zipS, e_gtup, e_gnil, e_gcons, e_frzs0, e_frzs1, e_g1, e_g2, e_loop0, e_loop1, e_run, e_out0, e_out1, e_out2, Nat.zero_le, Option.bind_some, Option.bind_none, Option.map_some, Option.map_none, List.length_cons, List.length_nil, List.cons_append, List.nil_append, List.replicate_succ, List.replicate_zero, List.append_nil, List.getElem?_cons_zero, List.getElem?_cons_succ, List.set_cons_zero, List.set_cons_succ, List.map_cons, List.map_nil, Nat.reduceAdd, Nat.reduceSub, Nat.reduceLT, Nat.reduceLeDiff, Nat.reduceEqDiff, if_true, if_false, reduceIte, Bool.false_eq_true, Bool.not_true, Bool.not_false, ne_eq, Int.reduceEq, Int.reduceNe, not_false_eq_true, not_true_eq_false, Int.reduceLT, Int.reduceLE, Int.reduceNeg, Int.reduceSub, Int.reduceAdd, decide_true, decide_false, true_and, and_true, and_false, false_and, and_self, fVar, fName, val, frz, look, asB, asI, gAdd, gMul, gMod, gFdiv, gMinus, gInt, gInt1, gI1, gI2, gGt, gLt, gLe, gGe, gCmp, gIx, seqL, asSeq, asSeqF, ownL, gSl, gLen, gListOf, gTupOf, gIs, canSet, noOwnB])
  refine ⟨f, ys, ?_, by omega, fun x hx => by have := h4 x hx; omega, h5.mono (by omega)⟩
  have t1 : rngC many := rng_ok (by omega) (by omega)
  simp only [F_law_point, g_law_point, e_c, e_nil, e_cons, e_op, e_un, e_cb, e_if, e_test, e_and, e_or, e_not, e_andV, e_orV, e_notV, e_chain, e_tup, e_lst, e_lLst, e_lListOf, e_ofL, e_part, e_noPart, e_sl, e_isi, e_yes, e_bits, e_seq, e_next, e_brk, e_cont, e_never, e_asg, e_ret, e_retN, e_sif, e_drop, e_own, e_par, e_parOD, e_parDO, e_par3, e_app, e_setI, e_aug, e_for, e_call, e_callN, e_new, e_then, e_callF, e_callF0, e_seqIt, e_rng1, e_rng2, e_zipN, e_zipS, e_gtup, e_gnil, e_gcons, e_frzs0, e_frzs1, e_g1, e_g2, e_loop0, e_loop1, e_run, e_out0, e_out1, e_out2, Nat.zero_le, Option.bind_some, Option.bind_none, Option.map_some, Option.map_none, List.length_cons, List.length_nil, List.cons_append, List.nil_append, List.replicate_succ, List.replicate_zero, List.append_nil, List.getElem?_cons_zero, List.getElem?_cons_succ, List.set_cons_zero, List.set_cons_succ, List.map_cons, List.map_nil, Nat.reduceAdd, Nat.reduceSub, Nat.reduceLT, Nat.reduceLeDiff, Nat.reduceEqDiff, if_true, if_false, reduceIte, Bool.false_eq_true, Bool.not_true, Bool.not_false, ne_eq, Int.reduceEq, Int.reduceNe, not_false_eq_true, not_true_eq_false, Int.reduceLT, Int.reduceLE, Int.reduceNeg, Int.reduceSub, Int.reduceAdd, decide_true, decide_false, true_and, and_true, and_false, false_and, and_self, fVar, fName, val, frz, look, asB, asI, gAdd, gMul, gMod, gFdiv, gMinus, gInt, gInt1, gI1, gI2, gGt, gLt, gLe, gGe, gCmp, gIx, seqL, asSeq, asSeqF, ownL, gSl, gLen, gListOf, gTupOf, gIs, canSet, noOwnB, fLc, t1]
  have w : wipeE [Slot.own true xs, .dat (.int many), .dat (.int b), .non] [3] = [Slot.own true xs, .dat (.int many), .dat (.int b), .non] := rfl
  have w2 : backE [Slot.own true xs, .dat (.int many), .dat (.int b), .non] [Slot.own true ys, .dat (.int many), .dat (.int b), .non] [3] = [Slot.own true ys, .dat (.int many), .dat (.int b), .non] := rfl
  simp only [List.all_cons, List.all_nil, e_c, e_nil, e_cons, e_op, e_un, e_cb, e_if, e_test, e_and, e_or, e_not, e_andV, e_orV, e_notV, e_chain, e_tup, e_lst, e_lLst, e_lListOf, e_ofL, e_part, e_noPart, e_sl, e_isi, e_yes, e_bits, e_seq, e_next, e_brk, e_cont, e_never, e_asg, e_ret, e_retN, e_sif, e_drop, e_own, e_par, e_parOD, e_parDO, e_par3, e_app, e_setI, e_aug, e_for, e_call, e_callN, e_new, e_then, e_callF, e_callF0, e_seqIt, e_rng1, e_rng2, e_zipN, e_zipS, e_gtup, e_gnil, e_gcons, e_frzs0, e_frzs1, e_g1, e_g2, e_loop0, e_loop1, e_run, e_out0, e_out1, e_out2, Nat.zero_le, Option.bind_some, Option.bind_none, Option.map_some, Option.map_none, List.length_cons, List.length_nil, List.cons_append, List.nil_append, List.replicate_succ, List.replicate_zero, List.append_nil, List.getElem?_cons_zero, List.getElem?_cons_succ, List.set_cons_zero, List.set_cons_succ, List.map_cons, List.map_nil, Nat.reduceAdd, Nat.reduceSub, Nat.reduceLT, Nat.reduceLeDiff, Nat.reduceEqDiff, if_true, if_false, reduceIte, Bool.false_eq_true, Bool.not_true, Bool.not_false, ne_eq, Int.reduceEq, Int.reduceNe, not_false_eq_true, not_true_eq_false, Int.reduceLT, Int.reduceLE, Int.reduceNeg, Int.reduceSub, Int.reduceAdd, decide_true, decide_false, true_and, and_true, and_false, false_and, and_self, fVar, fName, val, frz, look, asB, asI, gAdd, gMul, gMod, gFdiv, gMinus, gInt, gInt1, gI1, gI2, gGt, gLt, gLe, gGe, gCmp, gIx, seqL, asSeq, asSeqF, ownL, gSl, gLen, gListOf, gTupOf, gIs, canSet, noOwnB, w, h1, w2, Bool.and_self]
theorem eq_ints {i j : Int} : eqC (.int i) (.int j) = true := eqC_ok okd_int okd_int
theorem dot_nil {p : List Int} : dot [] p = 0 := by simp [dot]
theorem dot_cons {a b : Int} {f p : List Int} : dot (a :: f) (b :: p) = a * b + dot f p := by simp [dot]
theorem dot_fsum : ∀ {f g p : List Int}, f.length = g.length → f.length = p.length → dot (fsum f g) p = dot f p + dot g p
  | [], [], p, _, _ => by simp [dot, fsum]
  | a :: f, b :: g, x :: p, h1, h2 => by
    have e : fsum (a :: f) (b :: g) = (a + b) :: fsum f g := by simp [fsum]
    rw [e, dot_cons, dot_cons, dot_cons, dot_fsum (by simpa using h1) (by simpa using h2), Int.add_mul]
    omega
  | _ :: _, [], _, h, _ => by simp at h
  | [], _ :: _, _, h, _ => by simp at h
  | _ :: _, _, [], _, h => by simp at h
theorem dot_ftimes {n : Int} : ∀ {f p : List Int}, dot (ftimes n f) p = n * dot f p
  | [], p => by simp [dot, ftimes]
  | a :: f, [] => by simp [dot, ftimes]
  | a :: f, x :: p => by
    have e : ftimes n (a :: f) = (n * a) :: ftimes n f := rfl
    rw [e, dot_cons, dot_cons, dot_ftimes, Int.mul_add, Int.mul_assoc]
theorem dot_zeros {m : Nat} : ∀ {p : List Int}, dot (List.replicate m 0) p = 0 := by
  induction m with
  | zero => intro p; simp [dot]
  | succ m ih =>
    intro p
    cases p with
    | nil => simp [dot]
    | cons x p => rw [List.replicate_succ, dot_cons, ih]; simp
def fval (f p : List Int) : Int := f.headD 0 + dot f.tail p
theorem fval_cons {c : Int} {f p : List Int} : fval (c :: f) p = c + dot f p := rfl
theorem fval_fsum {f g p : List Int} (h : f.length = g.length) (h2 : f.length = p.length + 1) : fval (fsum f g) p = fval f p + fval g p := by
  match f, g, h, h2 with
  | a :: f, b :: g, h, h2 =>
    have e : fsum (a :: f) (b :: g) = (a + b) :: fsum f g := by simp [fsum]
    rw [e, fval_cons, fval_cons, fval_cons, dot_fsum (by simpa using h) (by simpa using h2)]
    omega
theorem fval_ftimes {n : Int} {f p : List Int} : fval (ftimes n f) p = n * fval f p := by
  match f with
  | [] => simp [fval, ftimes, dot]
  | a :: f =>
    have e : ftimes n (a :: f) = (n * a) :: ftimes n f := rfl
    rw [e, fval_cons, fval_cons, dot_ftimes, Int.mul_add]
theorem getD_some {f : List Int} {i : Nat} (h : i < f.length) : f[i]? = some (f.getD i 0) := by
  rw [List.getElem?_eq_getElem h, List.getD_eq_getElem?_getD, List.getElem?_eq_getElem h]
  rfl
theorem sm1 {k : Nat} : sm (k + 1) 1 := by
  unfold sm
  have := Nat.pow_le_pow_right (n := 2) (by decide) (show 1 ≤ k + 1 by omega)
  simp only [Int.natAbs_one]
  omega
theorem sm0 {k : Nat} : sm k 0 := Nat.pow_pos (by decide)
theorem fbelow_iff {f g : List Int} (hl : f.length = g.length) : fbelow f g = true ↔ ∀ i, i < f.length → f.getD i 0 ≤ g.getD i 0 := by
  unfold fbelow
  rw [List.all_eq_true]
  constructor
  · intro h i hi
    have := h (f.getD i 0, g.getD i 0) (List.mem_of_getElem? (i := i) (List.getElem?_zip_eq_some.mpr ⟨getD_some hi, getD_some (by omega)⟩))
    simpa using this
  · intro h x hx
    obtain ⟨i, hi⟩ := List.mem_iff_getElem?.mp hx
    obtain ⟨h1, h2⟩ := List.getElem?_zip_eq_some.mp hi
    have hi2 : i < f.length := (List.getElem?_eq_some_iff.mp h1).1
    have := h i hi2
    rw [getD_some hi2] at h1
    rw [getD_some (by omega)] at h2
    rw [← Option.some.inj h1, ← Option.some.inj h2]
    exact decide_eq_true this
theorem Fm.cons {c : Int} {f : List Int} (hc : 0 ≤ c) (hf : Fm f) : Fm (c :: f) := fun x hx => (List.mem_cons.mp hx).elim (fun e => e ▸ hc) (hf x)
theorem mapI {c : Int} {f : List Int} : (Dv.int c :: f.map .int) = (c :: f).map .int := rfl
theorem split_f {g : List Int} {m : Int} (h : (g.length : Int) = m + 1) (hm : 0 ≤ m) : ∃ a t, g = a :: t ∧ (t.length : Int) = m := by
  cases g with
  | nil => simp at h; omega
  | cons a t => exact ⟨a, t, rfl, by rw [List.length_cons] at h; omega⟩
def Fin (o : Option Out) : Prop := ∃ ys rest, o = some (.rt (.bl true) (.own true ys :: rest))
theorem fin_end {o : Option Out} {ys : List Dv} {r : DEnv} (h : o = some (.rt (.bl true) (.own true ys :: r))) : Fin o := ⟨ys, r, h⟩
theorem fin_go {f g : SF} {e e' : DEnv} (h : f e = some (.nx e')) (k : Fin (g e')) : Fin (sSeq f g e) := by
  rw [e_seq, h, Option.bind_some]
  exact k
theorem Up.mono' {a b : Int} {f : List Int} (h : Up a f) (k : a ≤ b) : Up b f := fun x hx => ⟨(h x hx).1, by have := (h x hx).2; omega⟩
theorem dot_le' : ∀ {f g p : List Int}, f.length = g.length → (∀ i, i < f.length → f.getD i 0 ≤ g.getD i 0) → Fm p → dot f p ≤ dot g p
  | [], [], p, _, _, _ => Int.le_refl _
  | a :: f, b :: g, [], _, _, _ => by simp [dot]
  | a :: f, b :: g, x :: p, hl, h, hp => by
    rw [dot_cons, dot_cons]
    have h0 : a ≤ b := h 0 (by simp)
    have h1 := dot_le' (f := f) (g := g) (p := p) (by simpa using hl) (fun i hi => h (i + 1) (by simpa using hi)) (fun y hy => hp y (List.mem_cons_of_mem _ hy))
    have := Int.mul_le_mul_of_nonneg_right h0 (hp x List.mem_cons_self)
    omega
  | _ :: _, [], _, h, _, _ => by simp at h
  | [], _ :: _, _, h, _, _ => by simp at h
theorem dot_le {c d : Int} {f g p : List Int} (h : fbelow (c :: f) (d :: g) = true) (hl : f.length = g.length) (hp : Fm p) : c + dot f p ≤ d + dot g p := by
  have q := (fbelow_iff (by simpa using hl)).mp h
  have h0 : c ≤ d := q 0 (by simp)
  have := dot_le' (p := p) hl (fun i hi => q (i + 1) (by simpa using hi)) hp
  omega
theorem cell_ok {K : PySem.W.Frag} {ns : List Int} {i : Int} (h0 : 0 ≤ i) : fCell K 0 1 [.dat (.scr K ns), .dat (.int i), .non] = some (.d (.int (cellM ns i)), [.dat (.scr K ns), .dat (.int i), .non]) := by
  unfold fCell
  simp only [List.getElem?_cons_zero, List.getElem?_cons_succ]
  rw [if_pos ⟨trivial, h0⟩]
theorem gen_ok {K : PySem.W.Frag} {ns : List Int} {i : Int} (h0 : 0 ≤ i) (h1 : i ≤ 10000) : ∃ xs, F_law_generator K [.scr K ns, .int i] = some xs ∧ Good (1000 * i.toNat) xs := by
  have hz := cell_ok (K := K) (ns := ns) h0
  generalize cellM ns i = z at hz
  have p1 : CPw 10 18 := by decide +kernel
  have p2 : CPw 10 60 := by decide +kernel
  have p3 : CPw (10 ^ (60 : Int).toNat) 10 := by decide +kernel
  have c1 : CMulW 1000 i := (sm_of (k := 100) (by decide) (by decide)).cm (sm_of (k := 100) h0 (by omega)) (by decide)
  have q0 : (0 : Int) < (10 ^ (60 : Int).toNat) ^ (10 : Int).toNat := by decide +kernel
  have q : ¬ ((10 : Int) ^ (60 : Int).toNat) ^ (10 : Int).toNat = 0 := by omega
  have s1 : (3 ≤ szL) = True := by decide
  refine ⟨[.int ((maxI (z - 10 ^ (18 : Int).toNat) 0).fmod ((10 ^ (60 : Int).toNat) ^ (10 : Int).toNat)), .int (z.fmod 2147483647), .int (1000 * i)], ?_, _, _, _, rfl, Int.fmod_nonneg_of_pos _ q0, Int.fmod_nonneg_of_pos _ (by decide), ?_, by omega, by omega⟩
  · simp only [F_law_generator, runL, g_law_generator, e_c, e_nil, e_cons, e_op, e_un, e_cb, e_if, e_test, e_and, e_or, e_not, e_andV, e_orV, e_notV, e_chain, e_tup, e_lst, e_lLst, e_lListOf, e_ofL, e_part, e_noPart, e_sl, e_isi, e_yes, e_bits, e_seq, e_next, e_brk, e_cont, e_never, e_asg, e_ret, e_retN, e_sif, e_drop, e_own, e_par, e_parOD, e_parDO, e_par3, e_app, e_setI, e_aug, e_for, e_call, e_callN, e_new, e_then, e_callF, e_callF0, e_seqIt, e_rng1, e_rng2, e_zipN, e_zipS, e_gtup, e_gnil, e_gcons, e_frzs0, e_frzs1, e_g1, e_g2, e_loop0, e_loop1, e_run, e_out0, e_out1, e_out2, Nat.zero_le, Option.bind_some, Option.bind_none, Option.map_some, Option.map_none, List.length_cons, List.length_nil, List.cons_append, List.nil_append, List.replicate_succ, List.replicate_zero, List.append_nil, List.getElem?_cons_zero, List.getElem?_cons_succ, List.set_cons_zero, List.set_cons_succ, List.map_cons, List.map_nil, Nat.reduceAdd, Nat.reduceSub, Nat.reduceLT, Nat.reduceLeDiff, Nat.reduceEqDiff, if_true, if_false, reduceIte, Bool.false_eq_true, Bool.not_true, Bool.not_false, ne_eq, Int.reduceEq, Int.reduceNe, not_false_eq_true, not_true_eq_false, Int.reduceLT, Int.reduceLE, Int.reduceNeg, Int.reduceSub, Int.reduceAdd, decide_true, decide_false, true_and, and_true, and_false, false_and, and_self, fVar, fName, val, frz, look, asB, asI, gAdd, gMul, gMod, gFdiv, gMinus, gInt, gInt1, gI1, gI2, gGt, gLt, gLe, gGe, gCmp, gIx, seqL, asSeq, asSeqF, ownL, gSl, gLen, gListOf, gTupOf, gIs, canSet, noOwnB, hz, gPow, p1, p2, p3, c1, q, s1]
    rfl
  · have := Int.fmod_lt_of_pos (a := z) (b := 2147483647) (by decide)
    omega
end Law

set_option Elab.async false
set_option linter.all false
set_option maxRecDepth 100000
set_option maxHeartbeats 8000000
namespace Law
open PySem L2 DL
theorem ite_andB {α : Type} {b c : Bool} {e : α} : (if b = true then some (c, e) else some (false, e)) = some (b && c, e) := by cases b <;> rfl
def fless (f g : List Int) : List Int := (f.zip g).map fun x => x.1 - x.2
theorem law_added_ok {f g : List Int} (hl : f.length = g.length) (hz : f.length ≤ 1000) : F_law_added [.dat (.tup (f.map .int)), .dat (.tup (g.map .int))] = some (.tup ((fsum f g).map .int), []) := by
  simp only [F_law_added, g_law_added, e_c, e_nil, e_cons, e_op, e_un, e_cb, e_if, e_test, e_and, e_or, e_not, e_andV, e_orV, e_notV, e_chain, e_tup, e_lst, e_lLst, e_lListOf, e_ofL, e_part, e_noPart, e_sl, e_isi, e_yes, e_bits, e_seq, e_next, e_brk, e_cont, e_never, e_asg, e_ret, e_retN, e_sif, e_drop, e_own, e_par, e_parOD, e_parDO, e_par3, e_app, e_setI, e_aug, e_for, e_call, e_callN, e_new, e_then, e_callF, e_callF0, e_seqIt, e_rng1, e_rng2, e_zipN, e_zipS, e_gtup, e_gnil, e_gcons, e_frzs0, e_frzs1, e_g1, e_g2, e_loop0, e_loop1, e_run, e_out0, e_out1, e_out2, Nat.zero_le, Option.bind_some, Option.bind_none, Option.map_some, Option.map_none, List.length_cons, List.length_nil, List.cons_append, List.nil_append, List.replicate_succ, List.replicate_zero, List.append_nil, List.getElem?_cons_zero, List.getElem?_cons_succ, List.set_cons_zero, List.set_cons_succ, List.map_cons, List.map_nil, Nat.reduceAdd, Nat.reduceSub, Nat.reduceLT, Nat.reduceLeDiff, Nat.reduceEqDiff, if_true, if_false, reduceIte, Bool.false_eq_true, Bool.not_true, Bool.not_false, ne_eq, Int.reduceEq, Int.reduceNe, not_false_eq_true, not_true_eq_false, Int.reduceLT, Int.reduceLE, Int.reduceNeg, Int.reduceSub, Int.reduceAdd, decide_true, decide_false, true_and, and_true, and_false, false_and, and_self]
  rw [z_map (l := f.zip g) (i := fun p => .int p.1) (j := fun p => .int p.2) (fun p => .int (p.1 + p.2)) (by simp only [e_c, e_nil, e_cons, e_op, e_un, e_cb, e_if, e_test, e_and, e_or, e_not, e_andV, e_orV, e_notV, e_chain, e_tup, e_lst, e_lLst, e_lListOf, e_ofL, e_part, e_noPart, e_sl, e_isi, e_yes, e_bits, e_seq, e_next, e_brk, e_cont, e_never, e_asg, e_ret, e_retN, e_sif, e_drop, e_own, e_par, e_parOD, e_parDO, e_par3, e_app, e_setI, e_aug, e_for, e_call, e_callN, e_new, e_then, e_callF, e_callF0, e_seqIt, e_rng1, e_rng2, e_zipN, e_zipS, e_gtup, e_gnil, e_gcons, e_frzs0, e_frzs1, e_g1, e_g2, e_loop0, e_loop1, e_run, e_out0, e_out1, e_out2, Nat.zero_le, Option.bind_some, Option.bind_none, Option.map_some, Option.map_none, List.length_cons, List.length_nil, List.cons_append, List.nil_append, List.replicate_succ, List.replicate_zero, List.append_nil, List.getElem?_cons_zero, List.getElem?_cons_succ, List.set_cons_zero, List.set_cons_succ, List.map_cons, List.map_nil, Nat.reduceAdd, Nat.reduceSub, Nat.reduceLT, Nat.reduceLeDiff, Nat.reduceEqDiff, if_true, if_false, reduceIte, Bool.false_eq_true, Bool.not_true, Bool.not_false, ne_eq, Int.reduceEq, Int.reduceNe, not_false_eq_true, not_true_eq_false, Int.reduceLT, Int.reduceLE, Int.reduceNeg, Int.reduceSub, Int.reduceAdd, decide_true, decide_false, true_and, and_true, and_false, false_and, and_self, fVar, fName, val, frz, look, asB, asI, gAdd, gMul, gMod, gFdiv, gMinus, gInt, gInt1, gI1, gI2, gGt, gLt, gLe, gGe, gCmp, gIx, seqL, asSeq, asSeqF, ownL, gSl, gLen, gListOf, gTupOf, gIs, canSet, noOwnB, pairD_ints]) (by decide) (by simp) (by simp) rfl (fun x _ => by simp only [e_c, e_nil, e_cons, e_op, e_un, e_cb, e_if, e_test, e_and, e_or, e_not, e_andV, e_orV, e_notV, e_chain, e_tup, e_lst, e_lLst, e_lListOf, e_ofL, e_part, e_noPart, e_sl, e_isi, e_yes, e_bits, e_seq, e_next, e_brk, e_cont, e_never, e_asg, e_ret, e_retN, e_sif, e_drop, e_own, e_par, e_parOD, e_parDO, e_par3, e_app, e_setI, e_aug, e_for, e_call, e_callN, e_new, e_then, e_callF, e_callF0, e_seqIt, e_rng1, e_rng2, e_zipN, e_zipS, e_gtup, e_gnil, e_gcons, e_frzs0, e_frzs1, e_g1, e_g2, e_loop0, e_loop1, e_run, e_out0, e_out1, e_out2, Nat.zero_le, Option.bind_some, Option.bind_none, Option.map_some, Option.map_none, List.length_cons, List.length_nil, List.cons_append, List.nil_append, List.replicate_succ, List.replicate_zero, List.append_nil, List.getElem?_cons_zero, List.getElem?_cons_succ, List.set_cons_zero, List.set_cons_succ, List.map_cons, List.map_nil, Nat.reduceAdd, Nat.reduceSub, Nat.reduceLT, Nat.reduceLeDiff, Nat.reduceEqDiff, if_true, if_false, reduceIte, Bool.false_eq_true, Bool.not_true, Bool.not_false, ne_eq, Int.reduceEq, Int.reduceNe, not_false_eq_true, not_true_eq_false, Int.reduceLT, Int.reduceLE, Int.reduceNeg, Int.reduceSub, Int.reduceAdd, decide_true, decide_false, true_and, and_true, and_false, false_and, and_self, fVar, fName, val, frz, look, asB, asI, gAdd, gMul, gMod, gFdiv, gMinus, gInt, gInt1, gI1, gI2, gGt, gLt, gLe, gGe, gCmp, gIx, seqL, asSeq, asSeqF, ownL, gSl, gLen, gListOf, gTupOf, gIs, canSet, noOwnB]) (by rw [zip_len hl]; exact szL_ge hz)]
  simp only [e_c, e_nil, e_cons, e_op, e_un, e_cb, e_if, e_test, e_and, e_or, e_not, e_andV, e_orV, e_notV, e_chain, e_tup, e_lst, e_lLst, e_lListOf, e_ofL, e_part, e_noPart, e_sl, e_isi, e_yes, e_bits, e_seq, e_next, e_brk, e_cont, e_never, e_asg, e_ret, e_retN, e_sif, e_drop, e_own, e_par, e_parOD, e_parDO, e_par3, e_app, e_setI, e_aug, e_for, e_call, e_callN, e_new, e_then, e_callF, e_callF0, e_seqIt, e_rng1, e_rng2, e_zipN, e_zipS, e_gtup, e_gnil, e_gcons, e_frzs0, e_frzs1, e_g1, e_g2, e_loop0, e_loop1, e_run, e_out0, e_out1, e_out2, Nat.zero_le, Option.bind_some, Option.bind_none, Option.map_some, Option.map_none, List.length_cons, List.length_nil, List.cons_append, List.nil_append, List.replicate_succ, List.replicate_zero, List.append_nil, List.getElem?_cons_zero, List.getElem?_cons_succ, List.set_cons_zero, List.set_cons_succ, List.map_cons, List.map_nil, Nat.reduceAdd, Nat.reduceSub, Nat.reduceLT, Nat.reduceLeDiff, Nat.reduceEqDiff, if_true, if_false, reduceIte, Bool.false_eq_true, Bool.not_true, Bool.not_false, ne_eq, Int.reduceEq, Int.reduceNe, not_false_eq_true, not_true_eq_false, Int.reduceLT, Int.reduceLE, Int.reduceNeg, Int.reduceSub, Int.reduceAdd, decide_true, decide_false, true_and, and_true, and_false, false_and, and_self, fVar, fName, val, frz, look, asB, asI, gAdd, gMul, gMod, gFdiv, gMinus, gInt, gInt1, gI1, gI2, gGt, gLt, gLe, gGe, gCmp, gIx, seqL, asSeq, asSeqF, ownL, gSl, gLen, gListOf, gTupOf, gIs, canSet, noOwnB, fsum, List.map_map]
  rfl
theorem law_less_ok {f g : List Int} (hl : f.length = g.length) (hz : f.length ≤ 1000) : F_law_less [.dat (.tup (f.map .int)), .dat (.tup (g.map .int))] = some (.tup ((fless f g).map .int), []) := by
  simp only [F_law_less, g_law_less, e_c, e_nil, e_cons, e_op, e_un, e_cb, e_if, e_test, e_and, e_or, e_not, e_andV, e_orV, e_notV, e_chain, e_tup, e_lst, e_lLst, e_lListOf, e_ofL, e_part, e_noPart, e_sl, e_isi, e_yes, e_bits, e_seq, e_next, e_brk, e_cont, e_never, e_asg, e_ret, e_retN, e_sif, e_drop, e_own, e_par, e_parOD, e_parDO, e_par3, e_app, e_setI, e_aug, e_for, e_call, e_callN, e_new, e_then, e_callF, e_callF0, e_seqIt, e_rng1, e_rng2, e_zipN, e_zipS, e_gtup, e_gnil, e_gcons, e_frzs0, e_frzs1, e_g1, e_g2, e_loop0, e_loop1, e_run, e_out0, e_out1, e_out2, Nat.zero_le, Option.bind_some, Option.bind_none, Option.map_some, Option.map_none, List.length_cons, List.length_nil, List.cons_append, List.nil_append, List.replicate_succ, List.replicate_zero, List.append_nil, List.getElem?_cons_zero, List.getElem?_cons_succ, List.set_cons_zero, List.set_cons_succ, List.map_cons, List.map_nil, Nat.reduceAdd, Nat.reduceSub, Nat.reduceLT, Nat.reduceLeDiff, Nat.reduceEqDiff, if_true, if_false, reduceIte, Bool.false_eq_true, Bool.not_true, Bool.not_false, ne_eq, Int.reduceEq, Int.reduceNe, not_false_eq_true, not_true_eq_false, Int.reduceLT, Int.reduceLE, Int.reduceNeg, Int.reduceSub, Int.reduceAdd, decide_true, decide_false, true_and, and_true, and_false, false_and, and_self]
  rw [z_map (l := f.zip g) (i := fun p => .int p.1) (j := fun p => .int p.2) (fun p => .int (p.1 - p.2)) (by simp only [e_c, e_nil, e_cons, e_op, e_un, e_cb, e_if, e_test, e_and, e_or, e_not, e_andV, e_orV, e_notV, e_chain, e_tup, e_lst, e_lLst, e_lListOf, e_ofL, e_part, e_noPart, e_sl, e_isi, e_yes, e_bits, e_seq, e_next, e_brk, e_cont, e_never, e_asg, e_ret, e_retN, e_sif, e_drop, e_own, e_par, e_parOD, e_parDO, e_par3, e_app, e_setI, e_aug, e_for, e_call, e_callN, e_new, e_then, e_callF, e_callF0, e_seqIt, e_rng1, e_rng2, e_zipN, e_zipS, e_gtup, e_gnil, e_gcons, e_frzs0, e_frzs1, e_g1, e_g2, e_loop0, e_loop1, e_run, e_out0, e_out1, e_out2, Nat.zero_le, Option.bind_some, Option.bind_none, Option.map_some, Option.map_none, List.length_cons, List.length_nil, List.cons_append, List.nil_append, List.replicate_succ, List.replicate_zero, List.append_nil, List.getElem?_cons_zero, List.getElem?_cons_succ, List.set_cons_zero, List.set_cons_succ, List.map_cons, List.map_nil, Nat.reduceAdd, Nat.reduceSub, Nat.reduceLT, Nat.reduceLeDiff, Nat.reduceEqDiff, if_true, if_false, reduceIte, Bool.false_eq_true, Bool.not_true, Bool.not_false, ne_eq, Int.reduceEq, Int.reduceNe, not_false_eq_true, not_true_eq_false, Int.reduceLT, Int.reduceLE, Int.reduceNeg, Int.reduceSub, Int.reduceAdd, decide_true, decide_false, true_and, and_true, and_false, false_and, and_self, fVar, fName, val, frz, look, asB, asI, gAdd, gMul, gMod, gFdiv, gMinus, gInt, gInt1, gI1, gI2, gGt, gLt, gLe, gGe, gCmp, gIx, seqL, asSeq, asSeqF, ownL, gSl, gLen, gListOf, gTupOf, gIs, canSet, noOwnB, pairD_ints]) (by decide) (by simp) (by simp) rfl (fun x _ => by simp only [e_c, e_nil, e_cons, e_op, e_un, e_cb, e_if, e_test, e_and, e_or, e_not, e_andV, e_orV, e_notV, e_chain, e_tup, e_lst, e_lLst, e_lListOf, e_ofL, e_part, e_noPart, e_sl, e_isi, e_yes, e_bits, e_seq, e_next, e_brk, e_cont, e_never, e_asg, e_ret, e_retN, e_sif, e_drop, e_own, e_par, e_parOD, e_parDO, e_par3, e_app, e_setI, e_aug, e_for, e_call, e_callN, e_new, e_then, e_callF, e_callF0, e_seqIt, e_rng1, e_rng2, e_zipN, e_zipS, e_gtup, e_gnil, e_gcons, e_frzs0, e_frzs1, e_g1, e_g2, e_loop0, e_loop1, e_run, e_out0, e_out1, e_out2, Nat.zero_le, Option.bind_some, Option.bind_none, Option.map_some, Option.map_none, List.length_cons, List.length_nil, List.cons_append, List.nil_append, List.replicate_succ, List.replicate_zero, List.append_nil, List.getElem?_cons_zero, List.getElem?_cons_succ, List.set_cons_zero, List.set_cons_succ, List.map_cons, List.map_nil, Nat.reduceAdd, Nat.reduceSub, Nat.reduceLT, Nat.reduceLeDiff, Nat.reduceEqDiff, if_true, if_false, reduceIte, Bool.false_eq_true, Bool.not_true, Bool.not_false, ne_eq, Int.reduceEq, Int.reduceNe, not_false_eq_true, not_true_eq_false, Int.reduceLT, Int.reduceLE, Int.reduceNeg, Int.reduceSub, Int.reduceAdd, decide_true, decide_false, true_and, and_true, and_false, false_and, and_self, fVar, fName, val, frz, look, asB, asI, gAdd, gMul, gMod, gFdiv, gMinus, gInt, gInt1, gI1, gI2, gGt, gLt, gLe, gGe, gCmp, gIx, seqL, asSeq, asSeqF, ownL, gSl, gLen, gListOf, gTupOf, gIs, canSet, noOwnB]) (by rw [zip_len hl]; exact szL_ge hz)]
  simp only [e_c, e_nil, e_cons, e_op, e_un, e_cb, e_if, e_test, e_and, e_or, e_not, e_andV, e_orV, e_notV, e_chain, e_tup, e_lst, e_lLst, e_lListOf, e_ofL, e_part, e_noPart, e_sl, e_isi, e_yes, e_bits, e_seq, e_next, e_brk, e_cont, e_never, e_asg, e_ret, e_retN, e_sif, e_drop, e_own, e_par, e_parOD, e_parDO, e_par3, e_app, e_setI, e_aug, e_for, e_call, e_callN, e_new, e_then, e_callF, e_callF0, e_seqIt, e_rng1, e_rng2, e_zipN, e_zipS, e_gtup, e_gnil, e_gcons, e_frzs0, e_frzs1, e_g1, e_g2, e_loop0, e_loop1, e_run, e_out0, e_out1, e_out2, Nat.zero_le, Option.bind_some, Option.bind_none, Option.map_some, Option.map_none, List.length_cons, List.length_nil, List.cons_append, List.nil_append, List.replicate_succ, List.replicate_zero, List.append_nil, List.getElem?_cons_zero, List.getElem?_cons_succ, List.set_cons_zero, List.set_cons_succ, List.map_cons, List.map_nil, Nat.reduceAdd, Nat.reduceSub, Nat.reduceLT, Nat.reduceLeDiff, Nat.reduceEqDiff, if_true, if_false, reduceIte, Bool.false_eq_true, Bool.not_true, Bool.not_false, ne_eq, Int.reduceEq, Int.reduceNe, not_false_eq_true, not_true_eq_false, Int.reduceLT, Int.reduceLE, Int.reduceNeg, Int.reduceSub, Int.reduceAdd, decide_true, decide_false, true_and, and_true, and_false, false_and, and_self, fVar, fName, val, frz, look, asB, asI, gAdd, gMul, gMod, gFdiv, gMinus, gInt, gInt1, gI1, gI2, gGt, gLt, gLe, gGe, gCmp, gIx, seqL, asSeq, asSeqF, ownL, gSl, gLen, gListOf, gTupOf, gIs, canSet, noOwnB, fless, List.map_map]
  rfl
theorem law_below_ok {f g : List Int} (hl : f.length = g.length) (hz : f.length ≤ 1000) : F_law_below [.dat (.tup (f.map .int)), .dat (.tup (g.map .int))] = some (.bl (fbelow f g), []) := by
  have w := form_below_ok hl hz
  have e : F_law_below [.dat (.tup (f.map .int)), .dat (.tup (g.map .int))] = F_form_below [.dat (.tup (f.map .int)), .dat (.tup (g.map .int))] := by
    have e1 : fZipN (fCons (fVar 0) (fCons (fVar 1) fNil)) [.dat (.tup (f.map .int)), .dat (.tup (g.map .int)), .non, .non] = fZipS (fCons (fVar 0) (fCons (fVar 1) fNil)) [.dat (.tup (f.map .int)), .dat (.tup (g.map .int)), .non, .non] := by
      simp only [e_c, e_nil, e_cons, e_op, e_un, e_cb, e_if, e_test, e_and, e_or, e_not, e_andV, e_orV, e_notV, e_chain, e_tup, e_lst, e_lLst, e_lListOf, e_ofL, e_part, e_noPart, e_sl, e_isi, e_yes, e_bits, e_seq, e_next, e_brk, e_cont, e_never, e_asg, e_ret, e_retN, e_sif, e_drop, e_own, e_par, e_parOD, e_parDO, e_par3, e_app, e_setI, e_aug, e_for, e_call, e_callN, e_new, e_then, e_callF, e_callF0, e_seqIt, e_rng1, e_rng2, e_zipN, e_zipS, e_gtup, e_gnil, e_gcons, e_frzs0, e_frzs1, e_g1, e_g2, e_loop0, e_loop1, e_run, e_out0, e_out1, e_out2, Nat.zero_le, Option.bind_some, Option.bind_none, Option.map_some, Option.map_none, List.length_cons, List.length_nil, List.cons_append, List.nil_append, List.replicate_succ, List.replicate_zero, List.append_nil, List.getElem?_cons_zero, List.getElem?_cons_succ, List.set_cons_zero, List.set_cons_succ, List.map_cons, List.map_nil, Nat.reduceAdd, Nat.reduceSub, Nat.reduceLT, Nat.reduceLeDiff, Nat.reduceEqDiff, if_true, if_false, reduceIte, Bool.false_eq_true, Bool.not_true, Bool.not_false, ne_eq, Int.reduceEq, Int.reduceNe, not_false_eq_true, not_true_eq_false, Int.reduceLT, Int.reduceLE, Int.reduceNeg, Int.reduceSub, Int.reduceAdd, decide_true, decide_false, true_and, and_true, and_false, false_and, and_self, fVar, fName, val, frz, look, asB, asI, gAdd, gMul, gMod, gFdiv, gMinus, gInt, gInt1, gI1, gI2, gGt, gLt, gLe, gGe, gCmp, gIx, seqL, asSeq, asSeqF, ownL, gSl, gLen, gListOf, gTupOf, gIs, canSet, noOwnB, List.length_map, hl]
    simp only [F_law_below, g_law_below, F_form_below, g_form_below, e_c, e_nil, e_cons, e_op, e_un, e_cb, e_if, e_test, e_and, e_or, e_not, e_andV, e_orV, e_notV, e_chain, e_tup, e_lst, e_lLst, e_lListOf, e_ofL, e_part, e_noPart, e_sl, e_isi, e_yes, e_bits, e_seq, e_next, e_brk, e_cont, e_never, e_asg, e_ret, e_retN, e_sif, e_drop, e_own, e_par, e_parOD, e_parDO, e_par3, e_app, e_setI, e_aug, e_for, e_call, e_callN, e_new, e_then, e_callF, e_callF0, e_seqIt, e_rng1, e_rng2, e_zipN, e_zipS, e_gtup, e_gnil, e_gcons, e_frzs0, e_frzs1, e_g1, e_g2, e_loop0, e_loop1, e_run, e_out0, e_out1, e_out2, Nat.zero_le, Option.bind_some, Option.bind_none, Option.map_some, Option.map_none, List.length_cons, List.length_nil, List.cons_append, List.nil_append, List.replicate_succ, List.replicate_zero, List.append_nil, List.getElem?_cons_zero, List.getElem?_cons_succ, List.set_cons_zero, List.set_cons_succ, List.map_cons, List.map_nil, Nat.reduceAdd, Nat.reduceSub, Nat.reduceLT, Nat.reduceLeDiff, Nat.reduceEqDiff, if_true, if_false, reduceIte, Bool.false_eq_true, Bool.not_true, Bool.not_false, ne_eq, Int.reduceEq, Int.reduceNe, not_false_eq_true, not_true_eq_false, Int.reduceLT, Int.reduceLE, Int.reduceNeg, Int.reduceSub, Int.reduceAdd, decide_true, decide_false, true_and, and_true, and_false, false_and, and_self, u_lc]
    simp only [e_c, e_nil, e_cons, e_op, e_un, e_cb, e_if, e_test, e_and, e_or, e_not, e_andV, e_orV, e_notV, e_chain, e_tup, e_lst, e_lLst, e_lListOf, e_ofL, e_part, e_noPart, e_sl, e_isi, e_yes, e_bits, e_seq, e_next, e_brk, e_cont, e_never, e_asg, e_ret, e_retN, e_sif, e_drop, e_own, e_par, e_parOD, e_parDO, e_par3, e_app, e_setI, e_aug, e_for, e_call, e_callN, e_new, e_then, e_callF, e_callF0, e_seqIt, e_rng1, e_rng2, e_zipN, e_zipS, e_gtup, e_gnil, e_gcons, e_frzs0, e_frzs1, e_g1, e_g2, e_loop0, e_loop1, e_run, e_out0, e_out1, e_out2, Nat.zero_le, Option.bind_some, Option.bind_none, Option.map_some, Option.map_none, List.length_cons, List.length_nil, List.cons_append, List.nil_append, List.replicate_succ, List.replicate_zero, List.append_nil, List.getElem?_cons_zero, List.getElem?_cons_succ, List.set_cons_zero, List.set_cons_succ, List.map_cons, List.map_nil, Nat.reduceAdd, Nat.reduceSub, Nat.reduceLT, Nat.reduceLeDiff, Nat.reduceEqDiff, if_true, if_false, reduceIte, Bool.false_eq_true, Bool.not_true, Bool.not_false, ne_eq, Int.reduceEq, Int.reduceNe, not_false_eq_true, not_true_eq_false, Int.reduceLT, Int.reduceLE, Int.reduceNeg, Int.reduceSub, Int.reduceAdd, decide_true, decide_false, true_and, and_true, and_false, false_and, and_self] at e1
    rw [e1]
  rw [e, w]
theorem fless_len {f g : List Int} (h : f.length = g.length) : (fless f g).length = f.length := by
  unfold fless
  rw [List.length_map, zip_len h]
theorem fless_eq : ∀ {f g : List Int}, fsum f (ftimes (-1) g) = fless f g
  | [], g => by simp [fsum, fless]
  | a :: f, [] => by simp [fsum, fless, ftimes]
  | a :: f, b :: g => by
    have e1 : fsum (a :: f) (ftimes (-1) (b :: g)) = (a + -1 * b) :: fsum f (ftimes (-1) g) := rfl
    have e2 : fless (a :: f) (b :: g) = (a - b) :: fless f g := rfl
    rw [e1, e2, fless_eq]
    congr 1
    omega
theorem form_less_ok {f g : List Int} {k : Nat} (hl : f.length = g.length) (hz : f.length ≤ 1000) (hg : ∀ x ∈ g, sm (k + 1) x) (hk : k + 1 ≤ 400000) : F_form_less [.dat (.tup (f.map .int)), .dat (.tup (g.map .int))] = some (.tup ((fless f g).map .int), []) := by
  have w1 := form_times_ok (n := -1) (sm1 (k := k)).neg hg hk (by omega)
  have w2 := form_sum_ok (f := f) (g := ftimes (-1) g) (by rw [ftimes_len]; exact hl) hz
  rw [fless_eq] at w2
  simp only [F_form_less, g_form_less, e_c, e_nil, e_cons, e_op, e_un, e_cb, e_if, e_test, e_and, e_or, e_not, e_andV, e_orV, e_notV, e_chain, e_tup, e_lst, e_lLst, e_lListOf, e_ofL, e_part, e_noPart, e_sl, e_isi, e_yes, e_bits, e_seq, e_next, e_brk, e_cont, e_never, e_asg, e_ret, e_retN, e_sif, e_drop, e_own, e_par, e_parOD, e_parDO, e_par3, e_app, e_setI, e_aug, e_for, e_call, e_callN, e_new, e_then, e_callF, e_callF0, e_seqIt, e_rng1, e_rng2, e_zipN, e_zipS, e_gtup, e_gnil, e_gcons, e_frzs0, e_frzs1, e_g1, e_g2, e_loop0, e_loop1, e_run, e_out0, e_out1, e_out2, Nat.zero_le, Option.bind_some, Option.bind_none, Option.map_some, Option.map_none, List.length_cons, List.length_nil, List.cons_append, List.nil_append, List.replicate_succ, List.replicate_zero, List.append_nil, List.getElem?_cons_zero, List.getElem?_cons_succ, List.set_cons_zero, List.set_cons_succ, List.map_cons, List.map_nil, Nat.reduceAdd, Nat.reduceSub, Nat.reduceLT, Nat.reduceLeDiff, Nat.reduceEqDiff, if_true, if_false, reduceIte, Bool.false_eq_true, Bool.not_true, Bool.not_false, ne_eq, Int.reduceEq, Int.reduceNe, not_false_eq_true, not_true_eq_false, Int.reduceLT, Int.reduceLE, Int.reduceNeg, Int.reduceSub, Int.reduceAdd, decide_true, decide_false, true_and, and_true, and_false, false_and, and_self, fVar, fName, val, frz, look, asB, asI, gAdd, gMul, gMod, gFdiv, gMinus, gInt, gInt1, gI1, gI2, gGt, gLt, gLe, gGe, gCmp, gIx, seqL, asSeq, asSeqF, ownL, gSl, gLen, gListOf, gTupOf, gIs, canSet, noOwnB, gNeg, w1, w2]
theorem checkForm_ok {many : Int} {f : List Int} (h : Fm f) (hl : (f.length : Int) = many + 1) (hz : f.length ≤ 1000) : F_check_form [.dat (.int many), .dat (.tup (f.map .int))] = some (.non, []) := by
  have w := form_ok (many := many) h (szL_ge hz)
  rw [decide_eq_true hl] at w
  simp only [F_check_form, g_check_form, e_c, e_nil, e_cons, e_op, e_un, e_cb, e_if, e_test, e_and, e_or, e_not, e_andV, e_orV, e_notV, e_chain, e_tup, e_lst, e_lLst, e_lListOf, e_ofL, e_part, e_noPart, e_sl, e_isi, e_yes, e_bits, e_seq, e_next, e_brk, e_cont, e_never, e_asg, e_ret, e_retN, e_sif, e_drop, e_own, e_par, e_parOD, e_parDO, e_par3, e_app, e_setI, e_aug, e_for, e_call, e_callN, e_new, e_then, e_callF, e_callF0, e_seqIt, e_rng1, e_rng2, e_zipN, e_zipS, e_gtup, e_gnil, e_gcons, e_frzs0, e_frzs1, e_g1, e_g2, e_loop0, e_loop1, e_run, e_out0, e_out1, e_out2, Nat.zero_le, Option.bind_some, Option.bind_none, Option.map_some, Option.map_none, List.length_cons, List.length_nil, List.cons_append, List.nil_append, List.replicate_succ, List.replicate_zero, List.append_nil, List.getElem?_cons_zero, List.getElem?_cons_succ, List.set_cons_zero, List.set_cons_succ, List.map_cons, List.map_nil, Nat.reduceAdd, Nat.reduceSub, Nat.reduceLT, Nat.reduceLeDiff, Nat.reduceEqDiff, if_true, if_false, reduceIte, Bool.false_eq_true, Bool.not_true, Bool.not_false, ne_eq, Int.reduceEq, Int.reduceNe, not_false_eq_true, not_true_eq_false, Int.reduceLT, Int.reduceLE, Int.reduceNeg, Int.reduceSub, Int.reduceAdd, decide_true, decide_false, true_and, and_true, and_false, false_and, and_self, fVar, fName, val, frz, look, asB, asI, gAdd, gMul, gMod, gFdiv, gMinus, gInt, gInt1, gI1, gI2, gGt, gLt, gLe, gGe, gCmp, gIx, seqL, asSeq, asSeqF, ownL, gSl, gLen, gListOf, gTupOf, gIs, canSet, noOwnB, w]
def sd : Bool → Str
  | true => "left"
  | false => "right"
theorem sd_in (l : Bool) : (flD (.str (sd l)) = true ∧ [Dv.str "left", .str "right"].all flD = true) ∧ inD (.str (sd l)) [.str "left", .str "right"] = true := by
  cases l <;> refine ⟨⟨rfl, rfl⟩, ?_⟩ <;> simp only [inD, List.any_cons, List.any_nil, eqv_str, sd] <;> decide +kernel
theorem sd_left (l : Bool) : (sd l == "left") = l := by cases l <;> decide +kernel
theorem checkSide_ok (l : Bool) : F_check_side [.dat (.str (sd l))] = some (.non, []) := by
  have w := sd_in l
  simp only [F_check_side, g_check_side, e_c, e_nil, e_cons, e_op, e_un, e_cb, e_if, e_test, e_and, e_or, e_not, e_andV, e_orV, e_notV, e_chain, e_tup, e_lst, e_lLst, e_lListOf, e_ofL, e_part, e_noPart, e_sl, e_isi, e_yes, e_bits, e_seq, e_next, e_brk, e_cont, e_never, e_asg, e_ret, e_retN, e_sif, e_drop, e_own, e_par, e_parOD, e_parDO, e_par3, e_app, e_setI, e_aug, e_for, e_call, e_callN, e_new, e_then, e_callF, e_callF0, e_seqIt, e_rng1, e_rng2, e_zipN, e_zipS, e_gtup, e_gnil, e_gcons, e_frzs0, e_frzs1, e_g1, e_g2, e_loop0, e_loop1, e_run, e_out0, e_out1, e_out2, Nat.zero_le, Option.bind_some, Option.bind_none, Option.map_some, Option.map_none, List.length_cons, List.length_nil, List.cons_append, List.nil_append, List.replicate_succ, List.replicate_zero, List.append_nil, List.getElem?_cons_zero, List.getElem?_cons_succ, List.set_cons_zero, List.set_cons_succ, List.map_cons, List.map_nil, Nat.reduceAdd, Nat.reduceSub, Nat.reduceLT, Nat.reduceLeDiff, Nat.reduceEqDiff, if_true, if_false, reduceIte, Bool.false_eq_true, Bool.not_true, Bool.not_false, ne_eq, Int.reduceEq, Int.reduceNe, not_false_eq_true, not_true_eq_false, Int.reduceLT, Int.reduceLE, Int.reduceNeg, Int.reduceSub, Int.reduceAdd, decide_true, decide_false, true_and, and_true, and_false, false_and, and_self, fVar, fName, val, frz, look, asB, asI, gAdd, gMul, gMod, gFdiv, gMinus, gInt, gInt1, gI1, gI2, gGt, gLt, gLe, gGe, gCmp, gIx, seqL, asSeq, asSeqF, ownL, gSl, gLen, gListOf, gTupOf, gIs, canSet, noOwnB, fInK, isIt, w]
theorem checkOrder_ok {f g : List Int} (hl : f.length = g.length) (hz : f.length ≤ 1000) (h : fbelow f g = true) : F_check_in_order [.dat (.tup (f.map .int)), .dat (.tup (g.map .int))] = some (.non, []) := by
  have w := form_below_ok hl hz
  rw [h] at w
  simp only [F_check_in_order, g_check_in_order, e_c, e_nil, e_cons, e_op, e_un, e_cb, e_if, e_test, e_and, e_or, e_not, e_andV, e_orV, e_notV, e_chain, e_tup, e_lst, e_lLst, e_lListOf, e_ofL, e_part, e_noPart, e_sl, e_isi, e_yes, e_bits, e_seq, e_next, e_brk, e_cont, e_never, e_asg, e_ret, e_retN, e_sif, e_drop, e_own, e_par, e_parOD, e_parDO, e_par3, e_app, e_setI, e_aug, e_for, e_call, e_callN, e_new, e_then, e_callF, e_callF0, e_seqIt, e_rng1, e_rng2, e_zipN, e_zipS, e_gtup, e_gnil, e_gcons, e_frzs0, e_frzs1, e_g1, e_g2, e_loop0, e_loop1, e_run, e_out0, e_out1, e_out2, Nat.zero_le, Option.bind_some, Option.bind_none, Option.map_some, Option.map_none, List.length_cons, List.length_nil, List.cons_append, List.nil_append, List.replicate_succ, List.replicate_zero, List.append_nil, List.getElem?_cons_zero, List.getElem?_cons_succ, List.set_cons_zero, List.set_cons_succ, List.map_cons, List.map_nil, Nat.reduceAdd, Nat.reduceSub, Nat.reduceLT, Nat.reduceLeDiff, Nat.reduceEqDiff, if_true, if_false, reduceIte, Bool.false_eq_true, Bool.not_true, Bool.not_false, ne_eq, Int.reduceEq, Int.reduceNe, not_false_eq_true, not_true_eq_false, Int.reduceLT, Int.reduceLE, Int.reduceNeg, Int.reduceSub, Int.reduceAdd, decide_true, decide_false, true_and, and_true, and_false, false_and, and_self, fVar, fName, val, frz, look, asB, asI, gAdd, gMul, gMod, gFdiv, gMinus, gInt, gInt1, gI1, gI2, gGt, gLt, gLe, gGe, gCmp, gIx, seqL, asSeq, asSeqF, ownL, gSl, gLen, gListOf, gTupOf, gIs, canSet, noOwnB, w]
def mvd (pl : List Int) (l : Bool) (st en ln : List Int) : Option (List Int) :=
  if (fbelow pl st && !decide (pl = st)) = true then some pl
  else if (fbelow en pl && !decide (pl = en)) = true then some (fsum (fless pl en) (fsum st ln))
  else if (fbelow st pl && fbelow pl en) = true then some (if l = true then st else fsum st ln) else none
def encO : Option (List Int) → Dv
  | none => .non
  | some f => .tup (f.map .int)
theorem eqC_tt {f g : List Int} : eqC (.tup (f.map .int)) (.tup (g.map .int)) = true := eqC_ok okd_tupI okd_tupI
theorem moved_ok {pl st en ln : List Int} {l : Bool} (h1 : st.length = pl.length) (h2 : en.length = pl.length) (h3 : ln.length = pl.length) (hz : pl.length ≤ 1000) (he : ∀ x ∈ en, sm 201 x) :
    F_moved_place [.dat (.tup (pl.map .int)), .dat (.str (sd l)), .dat (.tup (st.map .int)), .dat (.tup (en.map .int)), .dat (.tup (ln.map .int))] = some (encO (mvd pl l st en ln), []) := by
  have w1 := form_below_ok (f := pl) (g := st) (by omega) (by omega)
  have w2 := form_below_ok (f := en) (g := pl) (by omega) (by omega)
  have w3 := form_below_ok (f := st) (g := pl) (by omega) (by omega)
  have w4 := form_below_ok (f := pl) (g := en) (by omega) (by omega)
  have w5 := form_less_ok (f := pl) (g := en) (k := 200) (by omega) (by omega) he (by omega)
  have w6 := form_sum_ok (f := st) (g := ln) (by omega) (by omega)
  have w7 := form_sum_ok (f := fless pl en) (g := fsum st ln) (by rw [fless_len (by omega), fsum_len (by omega)]; omega) (by rw [fless_len (by omega)]; omega)
  unfold mvd
  cases hA : (fbelow pl st && !decide (pl = st))
  · cases hB : (fbelow en pl && !decide (pl = en))
    · cases hC : (fbelow st pl && fbelow pl en)
      · simp only [F_moved_place, g_moved_place, e_c, e_nil, e_cons, e_op, e_un, e_cb, e_if, e_test, e_and, e_or, e_not, e_andV, e_orV, e_notV, e_chain, e_tup, e_lst, e_lLst, e_lListOf, e_ofL, e_part, e_noPart, e_sl, e_isi, e_yes, e_bits, e_seq, e_next, e_brk, e_cont, e_never, e_asg, e_ret, e_retN, e_sif, e_drop, e_own, e_par, e_parOD, e_parDO, e_par3, e_app, e_setI, e_aug, e_for, e_call, e_callN, e_new, e_then, e_callF, e_callF0, e_seqIt, e_rng1, e_rng2, e_zipN, e_zipS, e_gtup, e_gnil, e_gcons, e_frzs0, e_frzs1, e_g1, e_g2, e_loop0, e_loop1, e_run, e_out0, e_out1, e_out2, Nat.zero_le, Option.bind_some, Option.bind_none, Option.map_some, Option.map_none, List.length_cons, List.length_nil, List.cons_append, List.nil_append, List.replicate_succ, List.replicate_zero, List.append_nil, List.getElem?_cons_zero, List.getElem?_cons_succ, List.set_cons_zero, List.set_cons_succ, List.map_cons, List.map_nil, Nat.reduceAdd, Nat.reduceSub, Nat.reduceLT, Nat.reduceLeDiff, Nat.reduceEqDiff, if_true, if_false, reduceIte, Bool.false_eq_true, Bool.not_true, Bool.not_false, ne_eq, Int.reduceEq, Int.reduceNe, not_false_eq_true, not_true_eq_false, Int.reduceLT, Int.reduceLE, Int.reduceNeg, Int.reduceSub, Int.reduceAdd, decide_true, decide_false, true_and, and_true, and_false, false_and, and_self, fVar, fName, val, frz, look, asB, asI, gAdd, gMul, gMod, gFdiv, gMinus, gInt, gInt1, gI1, gI2, gGt, gLt, gLe, gGe, gCmp, gIx, seqL, asSeq, asSeqF, ownL, gSl, gLen, gListOf, gTupOf, gIs, canSet, noOwnB, w1, w2, w3, w4, gNe, eqC_tt, eqv_tupI, ite_andB, hA, hB, hC, encO]
      · cases l <;> simp only [F_moved_place, g_moved_place, e_c, e_nil, e_cons, e_op, e_un, e_cb, e_if, e_test, e_and, e_or, e_not, e_andV, e_orV, e_notV, e_chain, e_tup, e_lst, e_lLst, e_lListOf, e_ofL, e_part, e_noPart, e_sl, e_isi, e_yes, e_bits, e_seq, e_next, e_brk, e_cont, e_never, e_asg, e_ret, e_retN, e_sif, e_drop, e_own, e_par, e_parOD, e_parDO, e_par3, e_app, e_setI, e_aug, e_for, e_call, e_callN, e_new, e_then, e_callF, e_callF0, e_seqIt, e_rng1, e_rng2, e_zipN, e_zipS, e_gtup, e_gnil, e_gcons, e_frzs0, e_frzs1, e_g1, e_g2, e_loop0, e_loop1, e_run, e_out0, e_out1, e_out2, Nat.zero_le, Option.bind_some, Option.bind_none, Option.map_some, Option.map_none, List.length_cons, List.length_nil, List.cons_append, List.nil_append, List.replicate_succ, List.replicate_zero, List.append_nil, List.getElem?_cons_zero, List.getElem?_cons_succ, List.set_cons_zero, List.set_cons_succ, List.map_cons, List.map_nil, Nat.reduceAdd, Nat.reduceSub, Nat.reduceLT, Nat.reduceLeDiff, Nat.reduceEqDiff, if_true, if_false, reduceIte, Bool.false_eq_true, Bool.not_true, Bool.not_false, ne_eq, Int.reduceEq, Int.reduceNe, not_false_eq_true, not_true_eq_false, Int.reduceLT, Int.reduceLE, Int.reduceNeg, Int.reduceSub, Int.reduceAdd, decide_true, decide_false, true_and, and_true, and_false, false_and, and_self, fVar, fName, val, frz, look, asB, asI, gAdd, gMul, gMod, gFdiv, gMinus, gInt, gInt1, gI1, gI2, gGt, gLt, gLe, gGe, gCmp, gIx, seqL, asSeq, asSeqF, ownL, gSl, gLen, gListOf, gTupOf, gIs, canSet, noOwnB, w1, w2, w3, w4, w6, gNe, gEq, sd_left, eqC_tt, eqv_tupI, ite_andB, hA, hB, hC, encO]
    · simp only [F_moved_place, g_moved_place, e_c, e_nil, e_cons, e_op, e_un, e_cb, e_if, e_test, e_and, e_or, e_not, e_andV, e_orV, e_notV, e_chain, e_tup, e_lst, e_lLst, e_lListOf, e_ofL, e_part, e_noPart, e_sl, e_isi, e_yes, e_bits, e_seq, e_next, e_brk, e_cont, e_never, e_asg, e_ret, e_retN, e_sif, e_drop, e_own, e_par, e_parOD, e_parDO, e_par3, e_app, e_setI, e_aug, e_for, e_call, e_callN, e_new, e_then, e_callF, e_callF0, e_seqIt, e_rng1, e_rng2, e_zipN, e_zipS, e_gtup, e_gnil, e_gcons, e_frzs0, e_frzs1, e_g1, e_g2, e_loop0, e_loop1, e_run, e_out0, e_out1, e_out2, Nat.zero_le, Option.bind_some, Option.bind_none, Option.map_some, Option.map_none, List.length_cons, List.length_nil, List.cons_append, List.nil_append, List.replicate_succ, List.replicate_zero, List.append_nil, List.getElem?_cons_zero, List.getElem?_cons_succ, List.set_cons_zero, List.set_cons_succ, List.map_cons, List.map_nil, Nat.reduceAdd, Nat.reduceSub, Nat.reduceLT, Nat.reduceLeDiff, Nat.reduceEqDiff, if_true, if_false, reduceIte, Bool.false_eq_true, Bool.not_true, Bool.not_false, ne_eq, Int.reduceEq, Int.reduceNe, not_false_eq_true, not_true_eq_false, Int.reduceLT, Int.reduceLE, Int.reduceNeg, Int.reduceSub, Int.reduceAdd, decide_true, decide_false, true_and, and_true, and_false, false_and, and_self, fVar, fName, val, frz, look, asB, asI, gAdd, gMul, gMod, gFdiv, gMinus, gInt, gInt1, gI1, gI2, gGt, gLt, gLe, gGe, gCmp, gIx, seqL, asSeq, asSeqF, ownL, gSl, gLen, gListOf, gTupOf, gIs, canSet, noOwnB, w1, w2, w5, w6, w7, gNe, eqC_tt, eqv_tupI, ite_andB, hA, hB, encO]
  · simp only [F_moved_place, g_moved_place, e_c, e_nil, e_cons, e_op, e_un, e_cb, e_if, e_test, e_and, e_or, e_not, e_andV, e_orV, e_notV, e_chain, e_tup, e_lst, e_lLst, e_lListOf, e_ofL, e_part, e_noPart, e_sl, e_isi, e_yes, e_bits, e_seq, e_next, e_brk, e_cont, e_never, e_asg, e_ret, e_retN, e_sif, e_drop, e_own, e_par, e_parOD, e_parDO, e_par3, e_app, e_setI, e_aug, e_for, e_call, e_callN, e_new, e_then, e_callF, e_callF0, e_seqIt, e_rng1, e_rng2, e_zipN, e_zipS, e_gtup, e_gnil, e_gcons, e_frzs0, e_frzs1, e_g1, e_g2, e_loop0, e_loop1, e_run, e_out0, e_out1, e_out2, Nat.zero_le, Option.bind_some, Option.bind_none, Option.map_some, Option.map_none, List.length_cons, List.length_nil, List.cons_append, List.nil_append, List.replicate_succ, List.replicate_zero, List.append_nil, List.getElem?_cons_zero, List.getElem?_cons_succ, List.set_cons_zero, List.set_cons_succ, List.map_cons, List.map_nil, Nat.reduceAdd, Nat.reduceSub, Nat.reduceLT, Nat.reduceLeDiff, Nat.reduceEqDiff, if_true, if_false, reduceIte, Bool.false_eq_true, Bool.not_true, Bool.not_false, ne_eq, Int.reduceEq, Int.reduceNe, not_false_eq_true, not_true_eq_false, Int.reduceLT, Int.reduceLE, Int.reduceNeg, Int.reduceSub, Int.reduceAdd, decide_true, decide_false, true_and, and_true, and_false, false_and, and_self, fVar, fName, val, frz, look, asB, asI, gAdd, gMul, gMod, gFdiv, gMinus, gInt, gInt1, gI1, gI2, gGt, gLt, gLe, gGe, gCmp, gIx, seqL, asSeq, asSeqF, ownL, gSl, gLen, gListOf, gTupOf, gIs, canSet, noOwnB, w1, gNe, eqC_tt, eqv_tupI, ite_andB, hA, encO]
theorem due_ok {pl st en ln : List Int} {l : Bool} (h1 : st.length = pl.length) (h2 : en.length = pl.length) (h3 : ln.length = pl.length) (hz : pl.length ≤ 1000) :
    F_law_due [.dat (.tup (pl.map .int)), .dat (.str (sd l)), .dat (.tup (st.map .int)), .dat (.tup (en.map .int)), .dat (.tup (ln.map .int))] = some (encO (mvd pl l st en ln), []) := by
  have w1 := law_below_ok (f := pl) (g := st) (by omega) (by omega)
  have w2 := law_below_ok (f := en) (g := pl) (by omega) (by omega)
  have w3 := law_below_ok (f := st) (g := pl) (by omega) (by omega)
  have w4 := law_below_ok (f := pl) (g := en) (by omega) (by omega)
  have w5 := law_less_ok (f := pl) (g := en) (by omega) (by omega)
  have w6 := law_added_ok (f := st) (g := ln) (by omega) (by omega)
  have w7 := law_added_ok (f := fless pl en) (g := fsum st ln) (by rw [fless_len (by omega), fsum_len (by omega)]; omega) (by rw [fless_len (by omega)]; omega)
  unfold mvd
  cases hA : (fbelow pl st && !decide (pl = st))
  · cases hB : (fbelow en pl && !decide (pl = en))
    · cases hC : fbelow st pl
      · rw [hC] at w3
        simp only [F_law_due, g_law_due, e_c, e_nil, e_cons, e_op, e_un, e_cb, e_if, e_test, e_and, e_or, e_not, e_andV, e_orV, e_notV, e_chain, e_tup, e_lst, e_lLst, e_lListOf, e_ofL, e_part, e_noPart, e_sl, e_isi, e_yes, e_bits, e_seq, e_next, e_brk, e_cont, e_never, e_asg, e_ret, e_retN, e_sif, e_drop, e_own, e_par, e_parOD, e_parDO, e_par3, e_app, e_setI, e_aug, e_for, e_call, e_callN, e_new, e_then, e_callF, e_callF0, e_seqIt, e_rng1, e_rng2, e_zipN, e_zipS, e_gtup, e_gnil, e_gcons, e_frzs0, e_frzs1, e_g1, e_g2, e_loop0, e_loop1, e_run, e_out0, e_out1, e_out2, Nat.zero_le, Option.bind_some, Option.bind_none, Option.map_some, Option.map_none, List.length_cons, List.length_nil, List.cons_append, List.nil_append, List.replicate_succ, List.replicate_zero, List.append_nil, List.getElem?_cons_zero, List.getElem?_cons_succ, List.set_cons_zero, List.set_cons_succ, List.map_cons, List.map_nil, Nat.reduceAdd, Nat.reduceSub, Nat.reduceLT, Nat.reduceLeDiff, Nat.reduceEqDiff, if_true, if_false, reduceIte, Bool.false_eq_true, Bool.not_true, Bool.not_false, ne_eq, Int.reduceEq, Int.reduceNe, not_false_eq_true, not_true_eq_false, Int.reduceLT, Int.reduceLE, Int.reduceNeg, Int.reduceSub, Int.reduceAdd, decide_true, decide_false, true_and, and_true, and_false, false_and, and_self, fVar, fName, val, frz, look, asB, asI, gAdd, gMul, gMod, gFdiv, gMinus, gInt, gInt1, gI1, gI2, gGt, gLt, gLe, gGe, gCmp, gIx, seqL, asSeq, asSeqF, ownL, gSl, gLen, gListOf, gTupOf, gIs, canSet, noOwnB, w1, w2, w3, gNe, eqC_tt, eqv_tupI, ite_andB, hA, hB, Bool.false_and, encO]
      · rw [hC] at w3
        cases hD : fbelow pl en
        · rw [hD] at w4
          simp only [F_law_due, g_law_due, e_c, e_nil, e_cons, e_op, e_un, e_cb, e_if, e_test, e_and, e_or, e_not, e_andV, e_orV, e_notV, e_chain, e_tup, e_lst, e_lLst, e_lListOf, e_ofL, e_part, e_noPart, e_sl, e_isi, e_yes, e_bits, e_seq, e_next, e_brk, e_cont, e_never, e_asg, e_ret, e_retN, e_sif, e_drop, e_own, e_par, e_parOD, e_parDO, e_par3, e_app, e_setI, e_aug, e_for, e_call, e_callN, e_new, e_then, e_callF, e_callF0, e_seqIt, e_rng1, e_rng2, e_zipN, e_zipS, e_gtup, e_gnil, e_gcons, e_frzs0, e_frzs1, e_g1, e_g2, e_loop0, e_loop1, e_run, e_out0, e_out1, e_out2, Nat.zero_le, Option.bind_some, Option.bind_none, Option.map_some, Option.map_none, List.length_cons, List.length_nil, List.cons_append, List.nil_append, List.replicate_succ, List.replicate_zero, List.append_nil, List.getElem?_cons_zero, List.getElem?_cons_succ, List.set_cons_zero, List.set_cons_succ, List.map_cons, List.map_nil, Nat.reduceAdd, Nat.reduceSub, Nat.reduceLT, Nat.reduceLeDiff, Nat.reduceEqDiff, if_true, if_false, reduceIte, Bool.false_eq_true, Bool.not_true, Bool.not_false, ne_eq, Int.reduceEq, Int.reduceNe, not_false_eq_true, not_true_eq_false, Int.reduceLT, Int.reduceLE, Int.reduceNeg, Int.reduceSub, Int.reduceAdd, decide_true, decide_false, true_and, and_true, and_false, false_and, and_self, fVar, fName, val, frz, look, asB, asI, gAdd, gMul, gMod, gFdiv, gMinus, gInt, gInt1, gI1, gI2, gGt, gLt, gLe, gGe, gCmp, gIx, seqL, asSeq, asSeqF, ownL, gSl, gLen, gListOf, gTupOf, gIs, canSet, noOwnB, w1, w2, w3, w4, gNe, eqC_tt, eqv_tupI, ite_andB, hA, hB, Bool.true_and, encO]
        · rw [hD] at w4
          cases l <;> simp only [F_law_due, g_law_due, e_c, e_nil, e_cons, e_op, e_un, e_cb, e_if, e_test, e_and, e_or, e_not, e_andV, e_orV, e_notV, e_chain, e_tup, e_lst, e_lLst, e_lListOf, e_ofL, e_part, e_noPart, e_sl, e_isi, e_yes, e_bits, e_seq, e_next, e_brk, e_cont, e_never, e_asg, e_ret, e_retN, e_sif, e_drop, e_own, e_par, e_parOD, e_parDO, e_par3, e_app, e_setI, e_aug, e_for, e_call, e_callN, e_new, e_then, e_callF, e_callF0, e_seqIt, e_rng1, e_rng2, e_zipN, e_zipS, e_gtup, e_gnil, e_gcons, e_frzs0, e_frzs1, e_g1, e_g2, e_loop0, e_loop1, e_run, e_out0, e_out1, e_out2, Nat.zero_le, Option.bind_some, Option.bind_none, Option.map_some, Option.map_none, List.length_cons, List.length_nil, List.cons_append, List.nil_append, List.replicate_succ, List.replicate_zero, List.append_nil, List.getElem?_cons_zero, List.getElem?_cons_succ, List.set_cons_zero, List.set_cons_succ, List.map_cons, List.map_nil, Nat.reduceAdd, Nat.reduceSub, Nat.reduceLT, Nat.reduceLeDiff, Nat.reduceEqDiff, if_true, if_false, reduceIte, Bool.false_eq_true, Bool.not_true, Bool.not_false, ne_eq, Int.reduceEq, Int.reduceNe, not_false_eq_true, not_true_eq_false, Int.reduceLT, Int.reduceLE, Int.reduceNeg, Int.reduceSub, Int.reduceAdd, decide_true, decide_false, true_and, and_true, and_false, false_and, and_self, fVar, fName, val, frz, look, asB, asI, gAdd, gMul, gMod, gFdiv, gMinus, gInt, gInt1, gI1, gI2, gGt, gLt, gLe, gGe, gCmp, gIx, seqL, asSeq, asSeqF, ownL, gSl, gLen, gListOf, gTupOf, gIs, canSet, noOwnB, w1, w2, w3, w4, w6, gNe, gEq, sd_left, eqC_tt, eqv_tupI, ite_andB, hA, hB, Bool.true_and, encO]
    · simp only [F_law_due, g_law_due, e_c, e_nil, e_cons, e_op, e_un, e_cb, e_if, e_test, e_and, e_or, e_not, e_andV, e_orV, e_notV, e_chain, e_tup, e_lst, e_lLst, e_lListOf, e_ofL, e_part, e_noPart, e_sl, e_isi, e_yes, e_bits, e_seq, e_next, e_brk, e_cont, e_never, e_asg, e_ret, e_retN, e_sif, e_drop, e_own, e_par, e_parOD, e_parDO, e_par3, e_app, e_setI, e_aug, e_for, e_call, e_callN, e_new, e_then, e_callF, e_callF0, e_seqIt, e_rng1, e_rng2, e_zipN, e_zipS, e_gtup, e_gnil, e_gcons, e_frzs0, e_frzs1, e_g1, e_g2, e_loop0, e_loop1, e_run, e_out0, e_out1, e_out2, Nat.zero_le, Option.bind_some, Option.bind_none, Option.map_some, Option.map_none, List.length_cons, List.length_nil, List.cons_append, List.nil_append, List.replicate_succ, List.replicate_zero, List.append_nil, List.getElem?_cons_zero, List.getElem?_cons_succ, List.set_cons_zero, List.set_cons_succ, List.map_cons, List.map_nil, Nat.reduceAdd, Nat.reduceSub, Nat.reduceLT, Nat.reduceLeDiff, Nat.reduceEqDiff, if_true, if_false, reduceIte, Bool.false_eq_true, Bool.not_true, Bool.not_false, ne_eq, Int.reduceEq, Int.reduceNe, not_false_eq_true, not_true_eq_false, Int.reduceLT, Int.reduceLE, Int.reduceNeg, Int.reduceSub, Int.reduceAdd, decide_true, decide_false, true_and, and_true, and_false, false_and, and_self, fVar, fName, val, frz, look, asB, asI, gAdd, gMul, gMod, gFdiv, gMinus, gInt, gInt1, gI1, gI2, gGt, gLt, gLe, gGe, gCmp, gIx, seqL, asSeq, asSeqF, ownL, gSl, gLen, gListOf, gTupOf, gIs, canSet, noOwnB, w1, w2, w5, w6, w7, gNe, eqC_tt, eqv_tupI, ite_andB, hA, hB, encO]
  · simp only [F_law_due, g_law_due, e_c, e_nil, e_cons, e_op, e_un, e_cb, e_if, e_test, e_and, e_or, e_not, e_andV, e_orV, e_notV, e_chain, e_tup, e_lst, e_lLst, e_lListOf, e_ofL, e_part, e_noPart, e_sl, e_isi, e_yes, e_bits, e_seq, e_next, e_brk, e_cont, e_never, e_asg, e_ret, e_retN, e_sif, e_drop, e_own, e_par, e_parOD, e_parDO, e_par3, e_app, e_setI, e_aug, e_for, e_call, e_callN, e_new, e_then, e_callF, e_callF0, e_seqIt, e_rng1, e_rng2, e_zipN, e_zipS, e_gtup, e_gnil, e_gcons, e_frzs0, e_frzs1, e_g1, e_g2, e_loop0, e_loop1, e_run, e_out0, e_out1, e_out2, Nat.zero_le, Option.bind_some, Option.bind_none, Option.map_some, Option.map_none, List.length_cons, List.length_nil, List.cons_append, List.nil_append, List.replicate_succ, List.replicate_zero, List.append_nil, List.getElem?_cons_zero, List.getElem?_cons_succ, List.set_cons_zero, List.set_cons_succ, List.map_cons, List.map_nil, Nat.reduceAdd, Nat.reduceSub, Nat.reduceLT, Nat.reduceLeDiff, Nat.reduceEqDiff, if_true, if_false, reduceIte, Bool.false_eq_true, Bool.not_true, Bool.not_false, ne_eq, Int.reduceEq, Int.reduceNe, not_false_eq_true, not_true_eq_false, Int.reduceLT, Int.reduceLE, Int.reduceNeg, Int.reduceSub, Int.reduceAdd, decide_true, decide_false, true_and, and_true, and_false, false_and, and_self, fVar, fName, val, frz, look, asB, asI, gAdd, gMul, gMod, gFdiv, gMinus, gInt, gInt1, gI1, gI2, gGt, gLt, gLe, gGe, gCmp, gIx, seqL, asSeq, asSeqF, ownL, gSl, gLen, gListOf, gTupOf, gIs, canSet, noOwnB, w1, gNe, eqC_tt, eqv_tupI, ite_andB, hA, encO]
theorem marked_ok {many : Int} {pl st en ln : List Int} {l : Bool} (hm : 0 ≤ many) (hm3 : many ≤ 3) (h0 : (pl.length : Int) = many + 1) (h1 : st.length = pl.length) (h2 : en.length = pl.length) (h3 : ln.length = pl.length)
    (f0 : Fm pl) (f1 : Fm st) (f2 : Fm en) (f3 : Fm ln) (he : ∀ x ∈ en, sm 201 x) (ho : fbelow st en = true) :
    F_mark_moved [.dat (.int many), .dat (.tup (pl.map .int)), .dat (.str (sd l)), .dat (.tup (st.map .int)), .dat (.tup (en.map .int)), .dat (.tup (ln.map .int))] = some (encO (mvd pl l st en ln), []) := by
  have w0 := checkMany_ok hm hm3
  have w1 := checkForm_ok f0 h0 (by omega)
  have w2 := checkSide_ok l
  have w3 := checkForm_ok (many := many) f1 (by omega) (by omega)
  have w4 := checkForm_ok (many := many) f2 (by omega) (by omega)
  have w5 := checkOrder_ok (f := st) (g := en) (by omega) (by omega) ho
  have w6 := checkForm_ok (many := many) f3 (by omega) (by omega)
  have w7 := moved_ok (l := l) h1 h2 h3 (by omega) he
  simp only [F_mark_moved, g_mark_moved, e_c, e_nil, e_cons, e_op, e_un, e_cb, e_if, e_test, e_and, e_or, e_not, e_andV, e_orV, e_notV, e_chain, e_tup, e_lst, e_lLst, e_lListOf, e_ofL, e_part, e_noPart, e_sl, e_isi, e_yes, e_bits, e_seq, e_next, e_brk, e_cont, e_never, e_asg, e_ret, e_retN, e_sif, e_drop, e_own, e_par, e_parOD, e_parDO, e_par3, e_app, e_setI, e_aug, e_for, e_call, e_callN, e_new, e_then, e_callF, e_callF0, e_seqIt, e_rng1, e_rng2, e_zipN, e_zipS, e_gtup, e_gnil, e_gcons, e_frzs0, e_frzs1, e_g1, e_g2, e_loop0, e_loop1, e_run, e_out0, e_out1, e_out2, Nat.zero_le, Option.bind_some, Option.bind_none, Option.map_some, Option.map_none, List.length_cons, List.length_nil, List.cons_append, List.nil_append, List.replicate_succ, List.replicate_zero, List.append_nil, List.getElem?_cons_zero, List.getElem?_cons_succ, List.set_cons_zero, List.set_cons_succ, List.map_cons, List.map_nil, Nat.reduceAdd, Nat.reduceSub, Nat.reduceLT, Nat.reduceLeDiff, Nat.reduceEqDiff, if_true, if_false, reduceIte, Bool.false_eq_true, Bool.not_true, Bool.not_false, ne_eq, Int.reduceEq, Int.reduceNe, not_false_eq_true, not_true_eq_false, Int.reduceLT, Int.reduceLE, Int.reduceNeg, Int.reduceSub, Int.reduceAdd, decide_true, decide_false, true_and, and_true, and_false, false_and, and_self, fVar, fName, val, frz, look, asB, asI, gAdd, gMul, gMod, gFdiv, gMinus, gInt, gInt1, gI1, gI2, gGt, gLt, gLe, gGe, gCmp, gIx, seqL, asSeq, asSeqF, ownL, gSl, gLen, gListOf, gTupOf, gIs, canSet, noOwnB, w0, w1, w2, w3, w4, w5, w6, w7]
/-! ### at a point -/
def atB (l : Bool) (r p s e n : Int) : Bool := if p < s then r == p else if e < p then r == p - e + s + n else if s < p ∧ p < e then r == (if l = true then s else s + n) else (s == r || (s + n == r || false))
theorem lvalue_ok {f p : List Int} (hl : f.length = p.length + 1) (hf : ∀ x ∈ f, sm 300 x) (hp : ∀ x ∈ p, sm 300 x) (hz : p.length ≤ 1000) : F_law_value [.dat (.tup (f.map .int)), .dat (.lst (p.map .int))] = some (.int (fval f p), []) := by
  match f, hl with
  | c :: t, hl =>
    rw [List.length_cons] at hl
    exact law_value_ok (c := c) (f := t) (p := p) (k := 300) (by omega) (fun x hx => hf x (List.mem_cons_of_mem _ hx)) hp (by decide) (by omega)
theorem at_val {fr fp fs fe fn p : List Int} {l : Bool} {r pv s e n : Int} (w1 : F_law_value [.dat (.tup (fr.map .int)), .dat (.lst (p.map .int))] = some (.int r, [])) (w2 : F_law_value [.dat (.tup (fp.map .int)), .dat (.lst (p.map .int))] = some (.int pv, []))
    (w3 : F_law_value [.dat (.tup (fs.map .int)), .dat (.lst (p.map .int))] = some (.int s, [])) (w4 : F_law_value [.dat (.tup (fe.map .int)), .dat (.lst (p.map .int))] = some (.int e, [])) (w5 : F_law_value [.dat (.tup (fn.map .int)), .dat (.lst (p.map .int))] = some (.int n, [])) :
    F_law_at_point [.dat (.tup (fr.map .int)), .dat (.tup (fp.map .int)), .dat (.str (sd l)), .dat (.tup (fs.map .int)), .dat (.tup (fe.map .int)), .dat (.tup (fn.map .int)), .dat (.lst (p.map .int))] = some (.bl (atB l r pv s e n), []) := by
  have s2 : (2 ≤ szL) = True := by decide
  have fl : ∀ i j k : Int, (flD (.int k) = true ∧ [Dv.int i, .int j].all flD = true) = True := fun i j k => eq_true ⟨rfl, rfl⟩
  have n2 : inD (.int r) [.int s, .int (s + n)] = (s == r || (s + n == r || false)) := by simp only [inD, List.any_cons, List.any_nil, eqv_int]
  unfold atB
  by_cases c1 : pv < s
  · have d1 : ltI pv s = true := decide_eq_true c1
    simp only [F_law_at_point, g_law_at_point, e_c, e_nil, e_cons, e_op, e_un, e_cb, e_if, e_test, e_and, e_or, e_not, e_andV, e_orV, e_notV, e_chain, e_tup, e_lst, e_lLst, e_lListOf, e_ofL, e_part, e_noPart, e_sl, e_isi, e_yes, e_bits, e_seq, e_next, e_brk, e_cont, e_never, e_asg, e_ret, e_retN, e_sif, e_drop, e_own, e_par, e_parOD, e_parDO, e_par3, e_app, e_setI, e_aug, e_for, e_call, e_callN, e_new, e_then, e_callF, e_callF0, e_seqIt, e_rng1, e_rng2, e_zipN, e_zipS, e_gtup, e_gnil, e_gcons, e_frzs0, e_frzs1, e_g1, e_g2, e_loop0, e_loop1, e_run, e_out0, e_out1, e_out2, Nat.zero_le, Option.bind_some, Option.bind_none, Option.map_some, Option.map_none, List.length_cons, List.length_nil, List.cons_append, List.nil_append, List.replicate_succ, List.replicate_zero, List.append_nil, List.getElem?_cons_zero, List.getElem?_cons_succ, List.set_cons_zero, List.set_cons_succ, List.map_cons, List.map_nil, Nat.reduceAdd, Nat.reduceSub, Nat.reduceLT, Nat.reduceLeDiff, Nat.reduceEqDiff, if_true, if_false, reduceIte, Bool.false_eq_true, Bool.not_true, Bool.not_false, ne_eq, Int.reduceEq, Int.reduceNe, not_false_eq_true, not_true_eq_false, Int.reduceLT, Int.reduceLE, Int.reduceNeg, Int.reduceSub, Int.reduceAdd, decide_true, decide_false, true_and, and_true, and_false, false_and, and_self, fVar, fName, val, frz, look, asB, asI, gAdd, gMul, gMod, gFdiv, gMinus, gInt, gInt1, gI1, gI2, gGt, gLt, gLe, gGe, gCmp, gIx, seqL, asSeq, asSeqF, ownL, gSl, gLen, gListOf, gTupOf, gIs, canSet, noOwnB, w1, w2, w3, w4, w5, d1, c1, gEq, eq_ints, eqv_int]
  · have d1 : ltI pv s = false := decide_eq_false c1
    by_cases c2 : e < pv
    · have d2 : gtI pv e = true := decide_eq_true c2
      simp only [F_law_at_point, g_law_at_point, e_c, e_nil, e_cons, e_op, e_un, e_cb, e_if, e_test, e_and, e_or, e_not, e_andV, e_orV, e_notV, e_chain, e_tup, e_lst, e_lLst, e_lListOf, e_ofL, e_part, e_noPart, e_sl, e_isi, e_yes, e_bits, e_seq, e_next, e_brk, e_cont, e_never, e_asg, e_ret, e_retN, e_sif, e_drop, e_own, e_par, e_parOD, e_parDO, e_par3, e_app, e_setI, e_aug, e_for, e_call, e_callN, e_new, e_then, e_callF, e_callF0, e_seqIt, e_rng1, e_rng2, e_zipN, e_zipS, e_gtup, e_gnil, e_gcons, e_frzs0, e_frzs1, e_g1, e_g2, e_loop0, e_loop1, e_run, e_out0, e_out1, e_out2, Nat.zero_le, Option.bind_some, Option.bind_none, Option.map_some, Option.map_none, List.length_cons, List.length_nil, List.cons_append, List.nil_append, List.replicate_succ, List.replicate_zero, List.append_nil, List.getElem?_cons_zero, List.getElem?_cons_succ, List.set_cons_zero, List.set_cons_succ, List.map_cons, List.map_nil, Nat.reduceAdd, Nat.reduceSub, Nat.reduceLT, Nat.reduceLeDiff, Nat.reduceEqDiff, if_true, if_false, reduceIte, Bool.false_eq_true, Bool.not_true, Bool.not_false, ne_eq, Int.reduceEq, Int.reduceNe, not_false_eq_true, not_true_eq_false, Int.reduceLT, Int.reduceLE, Int.reduceNeg, Int.reduceSub, Int.reduceAdd, decide_true, decide_false, true_and, and_true, and_false, false_and, and_self, fVar, fName, val, frz, look, asB, asI, gAdd, gMul, gMod, gFdiv, gMinus, gInt, gInt1, gI1, gI2, gGt, gLt, gLe, gGe, gCmp, gIx, seqL, asSeq, asSeqF, ownL, gSl, gLen, gListOf, gTupOf, gIs, canSet, noOwnB, w1, w2, w3, w4, w5, d1, d2, c1, c2, gEq, eq_ints, eqv_int]
    · have d2 : gtI pv e = false := decide_eq_false c2
      by_cases c3 : s < pv
      · have d3 : ltI s pv = true := decide_eq_true c3
        by_cases c4 : pv < e
        · have d4 : ltI pv e = true := decide_eq_true c4
          cases l <;> simp only [F_law_at_point, g_law_at_point, e_c, e_nil, e_cons, e_op, e_un, e_cb, e_if, e_test, e_and, e_or, e_not, e_andV, e_orV, e_notV, e_chain, e_tup, e_lst, e_lLst, e_lListOf, e_ofL, e_part, e_noPart, e_sl, e_isi, e_yes, e_bits, e_seq, e_next, e_brk, e_cont, e_never, e_asg, e_ret, e_retN, e_sif, e_drop, e_own, e_par, e_parOD, e_parDO, e_par3, e_app, e_setI, e_aug, e_for, e_call, e_callN, e_new, e_then, e_callF, e_callF0, e_seqIt, e_rng1, e_rng2, e_zipN, e_zipS, e_gtup, e_gnil, e_gcons, e_frzs0, e_frzs1, e_g1, e_g2, e_loop0, e_loop1, e_run, e_out0, e_out1, e_out2, Nat.zero_le, Option.bind_some, Option.bind_none, Option.map_some, Option.map_none, List.length_cons, List.length_nil, List.cons_append, List.nil_append, List.replicate_succ, List.replicate_zero, List.append_nil, List.getElem?_cons_zero, List.getElem?_cons_succ, List.set_cons_zero, List.set_cons_succ, List.map_cons, List.map_nil, Nat.reduceAdd, Nat.reduceSub, Nat.reduceLT, Nat.reduceLeDiff, Nat.reduceEqDiff, if_true, if_false, reduceIte, Bool.false_eq_true, Bool.not_true, Bool.not_false, ne_eq, Int.reduceEq, Int.reduceNe, not_false_eq_true, not_true_eq_false, Int.reduceLT, Int.reduceLE, Int.reduceNeg, Int.reduceSub, Int.reduceAdd, decide_true, decide_false, true_and, and_true, and_false, false_and, and_self, fVar, fName, val, frz, look, asB, asI, gAdd, gMul, gMod, gFdiv, gMinus, gInt, gInt1, gI1, gI2, gGt, gLt, gLe, gGe, gCmp, gIx, seqL, asSeq, asSeqF, ownL, gSl, gLen, gListOf, gTupOf, gIs, canSet, noOwnB, w1, w2, w3, w4, w5, d1, d2, d3, d4, c1, c2, c3, c4, gEq, sd_left, eq_ints, eqv_int]
        · have d4 : ltI pv e = false := decide_eq_false c4
          simp only [F_law_at_point, g_law_at_point, e_c, e_nil, e_cons, e_op, e_un, e_cb, e_if, e_test, e_and, e_or, e_not, e_andV, e_orV, e_notV, e_chain, e_tup, e_lst, e_lLst, e_lListOf, e_ofL, e_part, e_noPart, e_sl, e_isi, e_yes, e_bits, e_seq, e_next, e_brk, e_cont, e_never, e_asg, e_ret, e_retN, e_sif, e_drop, e_own, e_par, e_parOD, e_parDO, e_par3, e_app, e_setI, e_aug, e_for, e_call, e_callN, e_new, e_then, e_callF, e_callF0, e_seqIt, e_rng1, e_rng2, e_zipN, e_zipS, e_gtup, e_gnil, e_gcons, e_frzs0, e_frzs1, e_g1, e_g2, e_loop0, e_loop1, e_run, e_out0, e_out1, e_out2, Nat.zero_le, Option.bind_some, Option.bind_none, Option.map_some, Option.map_none, List.length_cons, List.length_nil, List.cons_append, List.nil_append, List.replicate_succ, List.replicate_zero, List.append_nil, List.getElem?_cons_zero, List.getElem?_cons_succ, List.set_cons_zero, List.set_cons_succ, List.map_cons, List.map_nil, Nat.reduceAdd, Nat.reduceSub, Nat.reduceLT, Nat.reduceLeDiff, Nat.reduceEqDiff, if_true, if_false, reduceIte, Bool.false_eq_true, Bool.not_true, Bool.not_false, ne_eq, Int.reduceEq, Int.reduceNe, not_false_eq_true, not_true_eq_false, Int.reduceLT, Int.reduceLE, Int.reduceNeg, Int.reduceSub, Int.reduceAdd, decide_true, decide_false, true_and, and_true, and_false, false_and, and_self, fVar, fName, val, frz, look, asB, asI, gAdd, gMul, gMod, gFdiv, gMinus, gInt, gInt1, gI1, gI2, gGt, gLt, gLe, gGe, gCmp, gIx, seqL, asSeq, asSeqF, ownL, gSl, gLen, gListOf, gTupOf, gIs, canSet, noOwnB, w1, w2, w3, w4, w5, d1, d2, d3, d4, c1, c2, c3, c4, gIn, s2, fl, n2]
      · have d3 : ltI s pv = false := decide_eq_false c3
        simp only [F_law_at_point, g_law_at_point, e_c, e_nil, e_cons, e_op, e_un, e_cb, e_if, e_test, e_and, e_or, e_not, e_andV, e_orV, e_notV, e_chain, e_tup, e_lst, e_lLst, e_lListOf, e_ofL, e_part, e_noPart, e_sl, e_isi, e_yes, e_bits, e_seq, e_next, e_brk, e_cont, e_never, e_asg, e_ret, e_retN, e_sif, e_drop, e_own, e_par, e_parOD, e_parDO, e_par3, e_app, e_setI, e_aug, e_for, e_call, e_callN, e_new, e_then, e_callF, e_callF0, e_seqIt, e_rng1, e_rng2, e_zipN, e_zipS, e_gtup, e_gnil, e_gcons, e_frzs0, e_frzs1, e_g1, e_g2, e_loop0, e_loop1, e_run, e_out0, e_out1, e_out2, Nat.zero_le, Option.bind_some, Option.bind_none, Option.map_some, Option.map_none, List.length_cons, List.length_nil, List.cons_append, List.nil_append, List.replicate_succ, List.replicate_zero, List.append_nil, List.getElem?_cons_zero, List.getElem?_cons_succ, List.set_cons_zero, List.set_cons_succ, List.map_cons, List.map_nil, Nat.reduceAdd, Nat.reduceSub, Nat.reduceLT, Nat.reduceLeDiff, Nat.reduceEqDiff, if_true, if_false, reduceIte, Bool.false_eq_true, Bool.not_true, Bool.not_false, ne_eq, Int.reduceEq, Int.reduceNe, not_false_eq_true, not_true_eq_false, Int.reduceLT, Int.reduceLE, Int.reduceNeg, Int.reduceSub, Int.reduceAdd, decide_true, decide_false, true_and, and_true, and_false, false_and, and_self, fVar, fName, val, frz, look, asB, asI, gAdd, gMul, gMod, gFdiv, gMinus, gInt, gInt1, gI1, gI2, gGt, gLt, gLe, gGe, gCmp, gIx, seqL, asSeq, asSeqF, ownL, gSl, gLen, gListOf, gTupOf, gIs, canSet, noOwnB, w1, w2, w3, w4, w5, d1, d2, d3, c1, c2, c3, gIn, s2, fl, n2]
theorem fval_le {f g p : List Int} (h : fbelow f g = true) (hl : f.length = g.length) (hp : Fm p) (h1 : 0 < f.length) : fval f p ≤ fval g p := by
  match f, g, hl, h1 with
  | c :: f, d :: g, hl, _ =>
    rw [fval_cons, fval_cons]
    exact dot_le h (by simpa using hl) hp
theorem fval_fless {f g p : List Int} (h : f.length = g.length) (h2 : f.length = p.length + 1) : fval (fless f g) p = fval f p - fval g p := by
  rw [← fless_eq, fval_fsum (by rw [ftimes_len]; exact h) h2, fval_ftimes]
  omega
theorem atB_ok {pl st en ln r p : List Int} {l : Bool} (hm : mvd pl l st en ln = some r) (h0 : pl.length = p.length + 1) (h1 : st.length = pl.length) (h2 : en.length = pl.length) (h3 : ln.length = pl.length) (ho : fbelow st en = true) (hp : Fm p) :
    atB l (fval r p) (fval pl p) (fval st p) (fval en p) (fval ln p) = true := by
  have hse := fval_le ho (by omega) hp (by omega)
  unfold mvd at hm
  split at hm
  · rename_i hA
    rw [Bool.and_eq_true] at hA
    have q := fval_le hA.1 (by omega) hp (by omega)
    cases hm
    unfold atB
    split
    · simp
    · split
      · omega
      · split
        · omega
        · simp only [Bool.or_eq_true, beq_iff_eq]
          left
          omega
  · split at hm
    · rename_i hB
      rw [Bool.and_eq_true] at hB
      have q := fval_le hB.1 (by omega) hp (by omega)
      cases hm
      rw [fval_fsum (by rw [fless_len (by omega), fsum_len (by omega)]; omega) (by rw [fless_len (by omega)]; omega), fval_fless (by omega) (by omega), fval_fsum (by omega) (by omega)]
      unfold atB
      split
      · omega
      · split
        · simp only [beq_iff_eq]
          omega
        · split
          · omega
          · simp only [Bool.or_eq_true, beq_iff_eq]
            right
            left
            omega
    · split at hm
      · rename_i hC
        rw [Bool.and_eq_true] at hC
        have q1 := fval_le hC.1 (by omega) hp (by omega)
        have q2 := fval_le hC.2 (by omega) hp (by omega)
        cases hm
        unfold atB
        rw [if_neg (by omega), if_neg (by omega)]
        cases l
        · simp only [Bool.false_eq_true, if_false]
          rw [fval_fsum (by omega) (by omega)]
          split <;> simp
        · simp only [if_true]
          split <;> simp
      · cases hm
end Law

set_option Elab.async false
set_option linter.all false
set_option maxRecDepth 100000
set_option maxHeartbeats 8000000
namespace Law
open PySem L2 DL
theorem part_draw {n : Nat} {xs : List Dv} {f : List Int} {b : Int} (g : Good n xs) (hn : n + 40 ≤ 2 ^ 30) (hf : Up b f) (hb2 : b < 2 ^ 199) (hz : f.length ≤ 4) :
    ∃ (h : List Int) (ys : List Dv), F_law_part [.own true xs, .dat (.tup (f.map .int))] = some (.tup (h.map .int), ys) ∧ h.length = f.length ∧ Up b h ∧ Good (n + 40) ys := by
  obtain ⟨e', zs, h1, h, ys, rfl, rfl, h2, h3, h4⟩ := comp_inv (gf := fName 2) (ft := tYesF) (fe := fCall 2 (some 0) F_law_random (fCons (fVar 0) (fCons (fOp gAdd (fVar 2) (fC (.int (1 : Int)))) fNil))) (ts := [2])
    (fun i e acc => ∃ (h : List Int) (ys : List Dv), acc = h.map .int ∧ e = [.own true ys, .dat (.tup (f.map .int)), .non] ∧ h.length = i ∧ Up b h ∧ Good (n + 10 * i) ys) (f.map .int)
    (fun i d hd e acc ⟨h, ys, ea, ee, h2, h3, h4⟩ => by
      subst ea ee
      rw [List.getElem?_map] at hd
      obtain ⟨v, hv, rfl⟩ := Option.map_eq_some_iff.mp hd
      have hi : i < f.length := (List.getElem?_eq_some_iff.mp hv).1
      have hvb := hf v (List.mem_of_getElem? hv)
      obtain ⟨r, ws, q1, q2, q3, q4⟩ := rnd_ok (b := v + 1) h4 (by omega) (by omega) (by omega)
      refine ⟨[.own true ys, .dat (.tup (f.map .int)), .dat (.int v)], _, true, rfl, rfl, (fun z => by cases z), fun _ => ⟨.d (.int r), [.own true ws, .dat (.tup (f.map .int)), .dat (.int v)], .int r, [.own true ws, .dat (.tup (f.map .int)), .dat (.int v)], by simp only [e_c, e_nil, e_cons, e_op, e_un, e_cb, e_if, e_test, e_and, e_or, e_not, e_andV, e_orV, e_notV, e_chain, e_tup, e_lst, e_lLst, e_lListOf, e_ofL, e_part, e_noPart, e_sl, e_isi, e_yes, e_bits, e_seq, e_next, e_brk, e_cont, e_never, e_asg, e_ret, e_retN, e_sif, e_drop, e_own, e_par, e_parOD, e_parDO, e_par3, e_app, e_setI, e_aug, e_for, e_call, e_callN, e_new, e_then, e_callF, e_callF0, e_seqIt, e_rng1, e_rng2, e_zipN, e_zipS, e_gtup, e_gnil, e_gcons, e_frzs0, e_frzs1, e_g1, e_g2, e_loop0, e_loop1, e_run, e_out0, e_out1, e_out2, Nat.zero_le, Option.bind_some, Option.bind_none, Option.map_some, Option.map_none, List.length_cons, List.length_nil, List.cons_append, List.nil_append, List.replicate_succ, List.replicate_zero, List.append_nil, List.getElem?_cons_zero, List.getElem?_cons_succ, List.set_cons_zero, List.set_cons_succ, List.map_cons, List.map_nil, Nat.reduceAdd, Nat.reduceSub, Nat.reduceLT, Nat.reduceLeDiff, Nat.reduceEqDiff, if_true, if_false, reduceIte, Bool.false_eq_true, Bool.not_true, Bool.not_false, ne_eq, Int.reduceEq, Int.reduceNe, not_false_eq_true, not_true_eq_false, Int.reduceLT, Int.reduceLE, Int.reduceNeg, Int.reduceSub, Int.reduceAdd, decide_true, decide_false, true_and, and_true, and_false, false_and, and_self, fVar, fName, val, frz, look, asB, asI, gAdd, gMul, gMod, gFdiv, gMinus, gInt, gInt1, gI1, gI2, gGt, gLt, gLe, gGe, gCmp, gIx, seqL, asSeq, asSeqF, ownL, gSl, gLen, gListOf, gTupOf, gIs, canSet, noOwnB, q1], rfl, h ++ [r], ws, by rw [List.map_append]; rfl, rfl, by rw [List.length_append, h2]; rfl, fun x hx => ?_, q4⟩⟩
      rcases List.mem_append.mp hx with hx | hx
      · exact h3 x hx
      · rw [List.mem_singleton.mp hx]
        omega) [.own true xs, .dat (.tup (f.map .int)), .non] [] ⟨[], xs, rfl, rfl, rfl, (fun x hx => by cases hx), g⟩ (by simpa using szL_ge (by omega))
  rw [List.length_map] at h2 h4
  refine ⟨h, ys, ?_, h2, h3, h4.mono (by omega)⟩
  have w : wipeE [Slot.own true xs, .dat (.tup (f.map .int)), .non] [2] = [Slot.own true xs, .dat (.tup (f.map .int)), .non] := rfl
  have w2 : backE [Slot.own true xs, .dat (.tup (f.map .int)), .non] [Slot.own true ys, .dat (.tup (f.map .int)), .non] [2] = [Slot.own true ys, .dat (.tup (f.map .int)), .non] := rfl
  simp only [F_law_part, g_law_part, e_c, e_nil, e_cons, e_op, e_un, e_cb, e_if, e_test, e_and, e_or, e_not, e_andV, e_orV, e_notV, e_chain, e_tup, e_lst, e_lLst, e_lListOf, e_ofL, e_part, e_noPart, e_sl, e_isi, e_yes, e_bits, e_seq, e_next, e_brk, e_cont, e_never, e_asg, e_ret, e_retN, e_sif, e_drop, e_own, e_par, e_parOD, e_parDO, e_par3, e_app, e_setI, e_aug, e_for, e_call, e_callN, e_new, e_then, e_callF, e_callF0, e_seqIt, e_rng1, e_rng2, e_zipN, e_zipS, e_gtup, e_gnil, e_gcons, e_frzs0, e_frzs1, e_g1, e_g2, e_loop0, e_loop1, e_run, e_out0, e_out1, e_out2, Nat.zero_le, Option.bind_some, Option.bind_none, Option.map_some, Option.map_none, List.length_cons, List.length_nil, List.cons_append, List.nil_append, List.replicate_succ, List.replicate_zero, List.append_nil, List.getElem?_cons_zero, List.getElem?_cons_succ, List.set_cons_zero, List.set_cons_succ, List.map_cons, List.map_nil, Nat.reduceAdd, Nat.reduceSub, Nat.reduceLT, Nat.reduceLeDiff, Nat.reduceEqDiff, if_true, if_false, reduceIte, Bool.false_eq_true, Bool.not_true, Bool.not_false, ne_eq, Int.reduceEq, Int.reduceNe, not_false_eq_true, not_true_eq_false, Int.reduceLT, Int.reduceLE, Int.reduceNeg, Int.reduceSub, Int.reduceAdd, decide_true, decide_false, true_and, and_true, and_false, false_and, and_self, fVar, fName, val, frz, look, asB, asI, gAdd, gMul, gMod, gFdiv, gMinus, gInt, gInt1, gI1, gI2, gGt, gLt, gLe, gGe, gCmp, gIx, seqL, asSeq, asSeqF, ownL, gSl, gLen, gListOf, gTupOf, gIs, canSet, noOwnB, fLc, List.all_cons, List.all_nil, w, h1, w2, Bool.and_self]
noncomputable def sfe : EF := fCB (g2 (gI2 maxI)) (fCons (fC (.int (0 : Int))) (fCons (fOp gAdd (fOp gIx (fVar 7) (fVar 9)) (fIf (fTest (fOp gEq (fVar 9) (fVar 8))) (fC (.int (1 : Int))) (fOp gMinus (fC (.int (0 : Int))) (fCall 2 (some 0) F_law_random (fCons (fVar 0) (fCons (fC (.int (2 : Int))) fNil)))))) fNil))
def senv (ys : List Dv) (A1 A2 A3 A4 A5 A6 : Dv) (ed : List Int) (at' : Int) (s : Slot) : DEnv := [.own true ys, .dat A1, .dat A2, .dat A3, .dat A4, .dat A5, .dat A6, .dat (.tup (ed.map .int)), .dat (.int at'), s]
theorem edge_draw {n : Nat} {xs : List Dv} {A1 A2 A3 A4 A5 A6 : Dv} {ed : List Int} {at' b : Int} (g : Good n xs) (hn : n + 40 ≤ 2 ^ 30) (hf : Up b ed) (hz : ed.length ≤ 4) :
    ∃ (h : List Int) (ys : List Dv), compF (fName 9) tYesF sfe [9] (rangeD 0 ed.length) (senv xs A1 A2 A3 A4 A5 A6 ed at' .non) [] = some (h.map .int, senv ys A1 A2 A3 A4 A5 A6 ed at' .non) ∧ h.length = ed.length ∧ Up (b + 1) h ∧ Good (n + 40) ys := by
  obtain ⟨e', zs, h1, h, ys, rfl, rfl, h2, h3, h4⟩ := comp_inv (gf := fName 9) (ft := tYesF) (fe := sfe) (ts := [9])
    (fun i e acc => ∃ (h : List Int) (ys : List Dv), acc = h.map .int ∧ e = senv ys A1 A2 A3 A4 A5 A6 ed at' .non ∧ h.length = i ∧ Up (b + 1) h ∧ Good (n + 10 * i) ys) (rangeD 0 ed.length)
    (fun i d hd e acc ⟨h, ys, ea, ee, h2, h3, h4⟩ => by
      subst ea ee
      obtain ⟨rfl, hi⟩ := rangeD_get hd
      have a1 : atI (ed.map Dv.int) (0 + (i : Int)) = some (.int (ed.getD i 0)) := by
        rw [atI_map, atI_pos (by omega) (by omega), show (0 + (i : Int)).toNat = i by omega, getD_some hi]
        rfl
      have hv := hf _ (List.mem_of_getElem? (getD_some hi))
      generalize ed.getD i 0 = v at a1 hv
      have key : ∃ (r : Int) (ws : List Dv), sfe (senv ys A1 A2 A3 A4 A5 A6 ed at' (.dat (.int (0 + (i : Int))))) = some (.d (.int r), senv ws A1 A2 A3 A4 A5 A6 ed at' (.dat (.int (0 + (i : Int))))) ∧ 0 ≤ r ∧ r ≤ b + 1 ∧ Good (n + 10 * (i + 1)) ws := by
        cases z : (0 + (i : Int) == at')
        · obtain ⟨r, ws, q1, q2, q3, q4⟩ := rnd_ok (b := 2) h4 (by omega) (by decide) (by decide)
          refine ⟨maxI 0 (v + (0 - r)), ws, ?_, ?_, ?_, q4⟩
          · simp only [sfe, senv, e_c, e_nil, e_cons, e_op, e_un, e_cb, e_if, e_test, e_and, e_or, e_not, e_andV, e_orV, e_notV, e_chain, e_tup, e_lst, e_lLst, e_lListOf, e_ofL, e_part, e_noPart, e_sl, e_isi, e_yes, e_bits, e_seq, e_next, e_brk, e_cont, e_never, e_asg, e_ret, e_retN, e_sif, e_drop, e_own, e_par, e_parOD, e_parDO, e_par3, e_app, e_setI, e_aug, e_for, e_call, e_callN, e_new, e_then, e_callF, e_callF0, e_seqIt, e_rng1, e_rng2, e_zipN, e_zipS, e_gtup, e_gnil, e_gcons, e_frzs0, e_frzs1, e_g1, e_g2, e_loop0, e_loop1, e_run, e_out0, e_out1, e_out2, Nat.zero_le, Option.bind_some, Option.bind_none, Option.map_some, Option.map_none, List.length_cons, List.length_nil, List.cons_append, List.nil_append, List.replicate_succ, List.replicate_zero, List.append_nil, List.getElem?_cons_zero, List.getElem?_cons_succ, List.set_cons_zero, List.set_cons_succ, List.map_cons, List.map_nil, Nat.reduceAdd, Nat.reduceSub, Nat.reduceLT, Nat.reduceLeDiff, Nat.reduceEqDiff, if_true, if_false, reduceIte, Bool.false_eq_true, Bool.not_true, Bool.not_false, ne_eq, Int.reduceEq, Int.reduceNe, not_false_eq_true, not_true_eq_false, Int.reduceLT, Int.reduceLE, Int.reduceNeg, Int.reduceSub, Int.reduceAdd, decide_true, decide_false, true_and, and_true, and_false, false_and, and_self, fVar, fName, val, frz, look, asB, asI, gAdd, gMul, gMod, gFdiv, gMinus, gInt, gInt1, gI1, gI2, gGt, gLt, gLe, gGe, gCmp, gIx, seqL, asSeq, asSeqF, ownL, gSl, gLen, gListOf, gTupOf, gIs, canSet, noOwnB, a1, gEq, eq_ints, eqv_int, z, q1]
          · unfold maxI
            split <;> omega
          · unfold maxI
            split <;> omega
        · refine ⟨maxI 0 (v + 1), ys, ?_, ?_, ?_, h4.mono (by omega)⟩
          · simp only [sfe, senv, e_c, e_nil, e_cons, e_op, e_un, e_cb, e_if, e_test, e_and, e_or, e_not, e_andV, e_orV, e_notV, e_chain, e_tup, e_lst, e_lLst, e_lListOf, e_ofL, e_part, e_noPart, e_sl, e_isi, e_yes, e_bits, e_seq, e_next, e_brk, e_cont, e_never, e_asg, e_ret, e_retN, e_sif, e_drop, e_own, e_par, e_parOD, e_parDO, e_par3, e_app, e_setI, e_aug, e_for, e_call, e_callN, e_new, e_then, e_callF, e_callF0, e_seqIt, e_rng1, e_rng2, e_zipN, e_zipS, e_gtup, e_gnil, e_gcons, e_frzs0, e_frzs1, e_g1, e_g2, e_loop0, e_loop1, e_run, e_out0, e_out1, e_out2, Nat.zero_le, Option.bind_some, Option.bind_none, Option.map_some, Option.map_none, List.length_cons, List.length_nil, List.cons_append, List.nil_append, List.replicate_succ, List.replicate_zero, List.append_nil, List.getElem?_cons_zero, List.getElem?_cons_succ, List.set_cons_zero, List.set_cons_succ, List.map_cons, List.map_nil, Nat.reduceAdd, Nat.reduceSub, Nat.reduceLT, Nat.reduceLeDiff, Nat.reduceEqDiff, if_true, if_false, reduceIte, Bool.false_eq_true, Bool.not_true, Bool.not_false, ne_eq, Int.reduceEq, Int.reduceNe, not_false_eq_true, not_true_eq_false, Int.reduceLT, Int.reduceLE, Int.reduceNeg, Int.reduceSub, Int.reduceAdd, decide_true, decide_false, true_and, and_true, and_false, false_and, and_self, fVar, fName, val, frz, look, asB, asI, gAdd, gMul, gMod, gFdiv, gMinus, gInt, gInt1, gI1, gI2, gGt, gLt, gLe, gGe, gCmp, gIx, seqL, asSeq, asSeqF, ownL, gSl, gLen, gListOf, gTupOf, gIs, canSet, noOwnB, a1, gEq, eq_ints, eqv_int, z]
          · unfold maxI
            split <;> omega
          · unfold maxI
            split <;> omega
      obtain ⟨r, ws, q1, q2, q3, q4⟩ := key
      refine ⟨senv ys A1 A2 A3 A4 A5 A6 ed at' (.dat (.int (0 + (i : Int)))), _, true, rfl, rfl, (fun z => by cases z), fun _ => ⟨.d (.int r), senv ws A1 A2 A3 A4 A5 A6 ed at' (.dat (.int (0 + (i : Int)))), .int r, senv ws A1 A2 A3 A4 A5 A6 ed at' (.dat (.int (0 + (i : Int)))), q1, rfl, h ++ [r], ws, by rw [List.map_append]; rfl, rfl, by rw [List.length_append, h2]; rfl, fun x hx => ?_, q4⟩⟩
      rcases List.mem_append.mp hx with hx | hx
      · exact h3 x hx
      · rw [List.mem_singleton.mp hx]
        omega) (senv xs A1 A2 A3 A4 A5 A6 ed at' .non) [] ⟨[], xs, rfl, rfl, rfl, (fun x hx => by cases hx), g⟩ (by rw [rangeD_len]; exact szL_ge (by simp; omega))
  rw [rangeD_len] at h2 h4
  exact ⟨h, ys, h1, h2, h3, h4.mono (by omega)⟩
theorem Up.fsum {a b : Int} {f g : List Int} (hf : Up a f) (hg : Up b g) : Up (a + b) (fsum f g) := fun x hx => by
  obtain ⟨y, hy, rfl⟩ := List.mem_map.mp hx
  have h1 := hf _ (List.of_mem_zip hy).1
  have h2 := hg _ (List.of_mem_zip hy).2
  constructor <;> omega
theorem spot_draw {n : Nat} {xs : List Dv} {many most : Int} {st sr : List Int} (g : Good n xs) (hn : n + 100 ≤ 2 ^ 29) (h0 : 0 ≤ many) (h3 : many ≤ 3) (m0 : 0 ≤ most) (m1 : most < 2 ^ 100) (l1 : (st.length : Int) = many + 1) (l2 : (sr.length : Int) = many + 1) (u1 : Up most st) (u2 : Up most sr) :
    ∃ (f : List Int) (ys : List Dv), F_law_spot [.own true xs, .dat (.int many), .dat (.int most), .dat (.tup (st.map .int)), .dat (.tup (sr.map .int))] = some (.tup (f.map .int), ys) ∧ (f.length : Int) = many + 1 ∧ Up (3 * most + 1) f ∧ Good (n + 100) ys := by
  obtain ⟨w, x1, a1, a2, a3, a4⟩ := rnd_ok (b := 8) g (by omega) (by decide) (by decide)
  have ad := law_added_ok (f := st) (g := sr) (by omega) (by omega)
  have le : (fsum st sr).length = st.length := fsum_len (by omega)
  have ue : Up (most + most) (fsum st sr) := u1.fsum u2
  have s2 : (2 ≤ szL) = True := by decide
  by_cases c0 : w = 0
  · subst c0
    refine ⟨st, x1, ?_, l1, u1.mono' (by omega), a4.mono (by omega)⟩
    simp only [F_law_spot, g_law_spot, e_c, e_nil, e_cons, e_op, e_un, e_cb, e_if, e_test, e_and, e_or, e_not, e_andV, e_orV, e_notV, e_chain, e_tup, e_lst, e_lLst, e_lListOf, e_ofL, e_part, e_noPart, e_sl, e_isi, e_yes, e_bits, e_seq, e_next, e_brk, e_cont, e_never, e_asg, e_ret, e_retN, e_sif, e_drop, e_own, e_par, e_parOD, e_parDO, e_par3, e_app, e_setI, e_aug, e_for, e_call, e_callN, e_new, e_then, e_callF, e_callF0, e_seqIt, e_rng1, e_rng2, e_zipN, e_zipS, e_gtup, e_gnil, e_gcons, e_frzs0, e_frzs1, e_g1, e_g2, e_loop0, e_loop1, e_run, e_out0, e_out1, e_out2, Nat.zero_le, Option.bind_some, Option.bind_none, Option.map_some, Option.map_none, List.length_cons, List.length_nil, List.cons_append, List.nil_append, List.replicate_succ, List.replicate_zero, List.append_nil, List.getElem?_cons_zero, List.getElem?_cons_succ, List.set_cons_zero, List.set_cons_succ, List.map_cons, List.map_nil, Nat.reduceAdd, Nat.reduceSub, Nat.reduceLT, Nat.reduceLeDiff, Nat.reduceEqDiff, if_true, if_false, reduceIte, Bool.false_eq_true, Bool.not_true, Bool.not_false, ne_eq, Int.reduceEq, Int.reduceNe, not_false_eq_true, not_true_eq_false, Int.reduceLT, Int.reduceLE, Int.reduceNeg, Int.reduceSub, Int.reduceAdd, decide_true, decide_false, true_and, and_true, and_false, false_and, and_self, fVar, fName, val, frz, look, asB, asI, gAdd, gMul, gMod, gFdiv, gMinus, gInt, gInt1, gI1, gI2, gGt, gLt, gLe, gGe, gCmp, gIx, seqL, asSeq, asSeqF, ownL, gSl, gLen, gListOf, gTupOf, gIs, canSet, noOwnB, a1, ad, gEq, eq_ints, eqv_int, beq_self_eq_true]
  · have b0 : (w == 0) = false := by simpa using c0
    by_cases c1 : w = 1
    · subst c1
      refine ⟨fsum st sr, x1, ?_, by omega, ue.mono' (by omega), a4.mono (by omega)⟩
      simp only [F_law_spot, g_law_spot, e_c, e_nil, e_cons, e_op, e_un, e_cb, e_if, e_test, e_and, e_or, e_not, e_andV, e_orV, e_notV, e_chain, e_tup, e_lst, e_lLst, e_lListOf, e_ofL, e_part, e_noPart, e_sl, e_isi, e_yes, e_bits, e_seq, e_next, e_brk, e_cont, e_never, e_asg, e_ret, e_retN, e_sif, e_drop, e_own, e_par, e_parOD, e_parDO, e_par3, e_app, e_setI, e_aug, e_for, e_call, e_callN, e_new, e_then, e_callF, e_callF0, e_seqIt, e_rng1, e_rng2, e_zipN, e_zipS, e_gtup, e_gnil, e_gcons, e_frzs0, e_frzs1, e_g1, e_g2, e_loop0, e_loop1, e_run, e_out0, e_out1, e_out2, Nat.zero_le, Option.bind_some, Option.bind_none, Option.map_some, Option.map_none, List.length_cons, List.length_nil, List.cons_append, List.nil_append, List.replicate_succ, List.replicate_zero, List.append_nil, List.getElem?_cons_zero, List.getElem?_cons_succ, List.set_cons_zero, List.set_cons_succ, List.map_cons, List.map_nil, Nat.reduceAdd, Nat.reduceSub, Nat.reduceLT, Nat.reduceLeDiff, Nat.reduceEqDiff, if_true, if_false, reduceIte, Bool.false_eq_true, Bool.not_true, Bool.not_false, ne_eq, Int.reduceEq, Int.reduceNe, not_false_eq_true, not_true_eq_false, Int.reduceLT, Int.reduceLE, Int.reduceNeg, Int.reduceSub, Int.reduceAdd, decide_true, decide_false, true_and, and_true, and_false, false_and, and_self, fVar, fName, val, frz, look, asB, asI, gAdd, gMul, gMod, gFdiv, gMinus, gInt, gInt1, gI1, gI2, gGt, gLt, gLe, gGe, gCmp, gIx, seqL, asSeq, asSeqF, ownL, gSl, gLen, gListOf, gTupOf, gIs, canSet, noOwnB, a1, ad, gEq, eq_ints, eqv_int, b0, beq_self_eq_true]
    · have b1 : (w == 1) = false := by simpa using c1
      by_cases c2 : w = 2
      · subst c2
        obtain ⟨h, ys, q1, q2, q3, q4⟩ := part_draw a4 (by omega) u1 (by omega) (by omega)
        refine ⟨h, ys, ?_, by omega, q3.mono' (by omega), q4.mono (by omega)⟩
        simp only [F_law_spot, g_law_spot, e_c, e_nil, e_cons, e_op, e_un, e_cb, e_if, e_test, e_and, e_or, e_not, e_andV, e_orV, e_notV, e_chain, e_tup, e_lst, e_lLst, e_lListOf, e_ofL, e_part, e_noPart, e_sl, e_isi, e_yes, e_bits, e_seq, e_next, e_brk, e_cont, e_never, e_asg, e_ret, e_retN, e_sif, e_drop, e_own, e_par, e_parOD, e_parDO, e_par3, e_app, e_setI, e_aug, e_for, e_call, e_callN, e_new, e_then, e_callF, e_callF0, e_seqIt, e_rng1, e_rng2, e_zipN, e_zipS, e_gtup, e_gnil, e_gcons, e_frzs0, e_frzs1, e_g1, e_g2, e_loop0, e_loop1, e_run, e_out0, e_out1, e_out2, Nat.zero_le, Option.bind_some, Option.bind_none, Option.map_some, Option.map_none, List.length_cons, List.length_nil, List.cons_append, List.nil_append, List.replicate_succ, List.replicate_zero, List.append_nil, List.getElem?_cons_zero, List.getElem?_cons_succ, List.set_cons_zero, List.set_cons_succ, List.map_cons, List.map_nil, Nat.reduceAdd, Nat.reduceSub, Nat.reduceLT, Nat.reduceLeDiff, Nat.reduceEqDiff, if_true, if_false, reduceIte, Bool.false_eq_true, Bool.not_true, Bool.not_false, ne_eq, Int.reduceEq, Int.reduceNe, not_false_eq_true, not_true_eq_false, Int.reduceLT, Int.reduceLE, Int.reduceNeg, Int.reduceSub, Int.reduceAdd, decide_true, decide_false, true_and, and_true, and_false, false_and, and_self, fVar, fName, val, frz, look, asB, asI, gAdd, gMul, gMod, gFdiv, gMinus, gInt, gInt1, gI1, gI2, gGt, gLt, gLe, gGe, gCmp, gIx, seqL, asSeq, asSeqF, ownL, gSl, gLen, gListOf, gTupOf, gIs, canSet, noOwnB, a1, ad, q1, gEq, eq_ints, eqv_int, b0, b1, beq_self_eq_true]
      · have b2 : (w == 2) = false := by simpa using c2
        by_cases c3 : w = 3
        · subst c3
          obtain ⟨h, ys, q1, q2, q3, q4⟩ := form_draw (many := many) (b := most) a4 (by omega) h0 h3 m0 (by omega)
          have ad2 := law_added_ok (f := fsum st sr) (g := h) (by omega) (by omega)
          refine ⟨fsum (fsum st sr) h, ys, ?_, by rw [fsum_len (by omega)]; omega, (ue.fsum q3).mono' (by omega), q4.mono (by omega)⟩
          simp only [F_law_spot, g_law_spot, e_c, e_nil, e_cons, e_op, e_un, e_cb, e_if, e_test, e_and, e_or, e_not, e_andV, e_orV, e_notV, e_chain, e_tup, e_lst, e_lLst, e_lListOf, e_ofL, e_part, e_noPart, e_sl, e_isi, e_yes, e_bits, e_seq, e_next, e_brk, e_cont, e_never, e_asg, e_ret, e_retN, e_sif, e_drop, e_own, e_par, e_parOD, e_parDO, e_par3, e_app, e_setI, e_aug, e_for, e_call, e_callN, e_new, e_then, e_callF, e_callF0, e_seqIt, e_rng1, e_rng2, e_zipN, e_zipS, e_gtup, e_gnil, e_gcons, e_frzs0, e_frzs1, e_g1, e_g2, e_loop0, e_loop1, e_run, e_out0, e_out1, e_out2, Nat.zero_le, Option.bind_some, Option.bind_none, Option.map_some, Option.map_none, List.length_cons, List.length_nil, List.cons_append, List.nil_append, List.replicate_succ, List.replicate_zero, List.append_nil, List.getElem?_cons_zero, List.getElem?_cons_succ, List.set_cons_zero, List.set_cons_succ, List.map_cons, List.map_nil, Nat.reduceAdd, Nat.reduceSub, Nat.reduceLT, Nat.reduceLeDiff, Nat.reduceEqDiff, if_true, if_false, reduceIte, Bool.false_eq_true, Bool.not_true, Bool.not_false, ne_eq, Int.reduceEq, Int.reduceNe, not_false_eq_true, not_true_eq_false, Int.reduceLT, Int.reduceLE, Int.reduceNeg, Int.reduceSub, Int.reduceAdd, decide_true, decide_false, true_and, and_true, and_false, false_and, and_self, fVar, fName, val, frz, look, asB, asI, gAdd, gMul, gMod, gFdiv, gMinus, gInt, gInt1, gI1, gI2, gGt, gLt, gLe, gGe, gCmp, gIx, seqL, asSeq, asSeqF, ownL, gSl, gLen, gListOf, gTupOf, gIs, canSet, noOwnB, a1, ad, q1, ad2, gEq, eq_ints, eqv_int, b0, b1, b2, beq_self_eq_true]
        · have b3 : (w == 3) = false := by simpa using c3
          by_cases c4 : w = 4
          · subst c4
            obtain ⟨h, ys, q1, q2, q3, q4⟩ := part_draw a4 (by omega) u2 (by omega) (by omega)
            have ad2 := law_added_ok (f := st) (g := h) (by omega) (by omega)
            refine ⟨fsum st h, ys, ?_, by rw [fsum_len (by omega)]; omega, (u1.fsum q3).mono' (by omega), q4.mono (by omega)⟩
            simp only [F_law_spot, g_law_spot, e_c, e_nil, e_cons, e_op, e_un, e_cb, e_if, e_test, e_and, e_or, e_not, e_andV, e_orV, e_notV, e_chain, e_tup, e_lst, e_lLst, e_lListOf, e_ofL, e_part, e_noPart, e_sl, e_isi, e_yes, e_bits, e_seq, e_next, e_brk, e_cont, e_never, e_asg, e_ret, e_retN, e_sif, e_drop, e_own, e_par, e_parOD, e_parDO, e_par3, e_app, e_setI, e_aug, e_for, e_call, e_callN, e_new, e_then, e_callF, e_callF0, e_seqIt, e_rng1, e_rng2, e_zipN, e_zipS, e_gtup, e_gnil, e_gcons, e_frzs0, e_frzs1, e_g1, e_g2, e_loop0, e_loop1, e_run, e_out0, e_out1, e_out2, Nat.zero_le, Option.bind_some, Option.bind_none, Option.map_some, Option.map_none, List.length_cons, List.length_nil, List.cons_append, List.nil_append, List.replicate_succ, List.replicate_zero, List.append_nil, List.getElem?_cons_zero, List.getElem?_cons_succ, List.set_cons_zero, List.set_cons_succ, List.map_cons, List.map_nil, Nat.reduceAdd, Nat.reduceSub, Nat.reduceLT, Nat.reduceLeDiff, Nat.reduceEqDiff, if_true, if_false, reduceIte, Bool.false_eq_true, Bool.not_true, Bool.not_false, ne_eq, Int.reduceEq, Int.reduceNe, not_false_eq_true, not_true_eq_false, Int.reduceLT, Int.reduceLE, Int.reduceNeg, Int.reduceSub, Int.reduceAdd, decide_true, decide_false, true_and, and_true, and_false, false_and, and_self, fVar, fName, val, frz, look, asB, asI, gAdd, gMul, gMod, gFdiv, gMinus, gInt, gInt1, gI1, gI2, gGt, gLt, gLe, gGe, gCmp, gIx, seqL, asSeq, asSeqF, ownL, gSl, gLen, gListOf, gTupOf, gIs, canSet, noOwnB, a1, ad, q1, ad2, gEq, eq_ints, eqv_int, b0, b1, b2, b3, beq_self_eq_true]
          · have b4 : (w == 4) = false := by simpa using c4
            by_cases c5 : w = 5
            · subst c5
              obtain ⟨h, ys, q1, q2, q3, q4⟩ := form_draw (many := many) (b := 2 * most) a4 (by omega) h0 h3 (by omega) (by omega)
              have k1 : CMulW 2 most := (sm_of (k := 100) (by decide) (by decide)).cm (sm_of (k := 100) m0 m1) (by decide)
              refine ⟨h, ys, ?_, q2, q3.mono' (by omega), q4.mono (by omega)⟩
              simp only [F_law_spot, g_law_spot, e_c, e_nil, e_cons, e_op, e_un, e_cb, e_if, e_test, e_and, e_or, e_not, e_andV, e_orV, e_notV, e_chain, e_tup, e_lst, e_lLst, e_lListOf, e_ofL, e_part, e_noPart, e_sl, e_isi, e_yes, e_bits, e_seq, e_next, e_brk, e_cont, e_never, e_asg, e_ret, e_retN, e_sif, e_drop, e_own, e_par, e_parOD, e_parDO, e_par3, e_app, e_setI, e_aug, e_for, e_call, e_callN, e_new, e_then, e_callF, e_callF0, e_seqIt, e_rng1, e_rng2, e_zipN, e_zipS, e_gtup, e_gnil, e_gcons, e_frzs0, e_frzs1, e_g1, e_g2, e_loop0, e_loop1, e_run, e_out0, e_out1, e_out2, Nat.zero_le, Option.bind_some, Option.bind_none, Option.map_some, Option.map_none, List.length_cons, List.length_nil, List.cons_append, List.nil_append, List.replicate_succ, List.replicate_zero, List.append_nil, List.getElem?_cons_zero, List.getElem?_cons_succ, List.set_cons_zero, List.set_cons_succ, List.map_cons, List.map_nil, Nat.reduceAdd, Nat.reduceSub, Nat.reduceLT, Nat.reduceLeDiff, Nat.reduceEqDiff, if_true, if_false, reduceIte, Bool.false_eq_true, Bool.not_true, Bool.not_false, ne_eq, Int.reduceEq, Int.reduceNe, not_false_eq_true, not_true_eq_false, Int.reduceLT, Int.reduceLE, Int.reduceNeg, Int.reduceSub, Int.reduceAdd, decide_true, decide_false, true_and, and_true, and_false, false_and, and_self, fVar, fName, val, frz, look, asB, asI, gAdd, gMul, gMod, gFdiv, gMinus, gInt, gInt1, gI1, gI2, gGt, gLt, gLe, gGe, gCmp, gIx, seqL, asSeq, asSeqF, ownL, gSl, gLen, gListOf, gTupOf, gIs, canSet, noOwnB, a1, ad, q1, k1, gEq, eq_ints, eqv_int, b0, b1, b2, b3, b4, beq_self_eq_true]
            · have b5 : (w == 5) = false := by simpa using c5
              obtain ⟨at', x2, d1, d2, d3, d4⟩ := rnd_ok (b := many + 1) a4 (by omega) (by omega) (by omega)
              obtain ⟨ed, e1, e2, e3⟩ : ∃ ed : List Int, atI [Dv.tup (st.map .int), .tup ((fsum st sr).map .int)] (w.fmod 2) = some (.tup (ed.map .int)) ∧ ed.length = st.length ∧ Up (most + most) ed := by
                rcases (show w = 6 ∨ w = 7 by omega) with rfl | rfl
                · exact ⟨st, rfl, rfl, u1.mono' (by omega)⟩
                · exact ⟨fsum st sr, rfl, le, ue⟩
              obtain ⟨h, ys, q1, q2, q3, q4⟩ := edge_draw (A1 := .int many) (A2 := .int most) (A3 := .tup (st.map .int)) (A4 := .tup (sr.map .int)) (A5 := .int w) (A6 := .tup ((fsum st sr).map .int)) (at' := at') d4 (by omega) e3 (by omega)
              have t1 : rngC (many + 1) := rng_ok (by omega) (by omega)
              have rl : (many + 1).toNat = ed.length := by omega
              refine ⟨h, ys, ?_, by omega, q3.mono' (by omega), q4.mono (by omega)⟩
              have w1 : ∀ zs, wipeE (senv zs (.int many) (.int most) (.tup (st.map .int)) (.tup (sr.map .int)) (.int w) (.tup ((fsum st sr).map .int)) ed at' .non) [9] = senv zs (.int many) (.int most) (.tup (st.map .int)) (.tup (sr.map .int)) (.int w) (.tup ((fsum st sr).map .int)) ed at' .non := fun _ => rfl
              have w2 : backE (senv x2 (.int many) (.int most) (.tup (st.map .int)) (.tup (sr.map .int)) (.int w) (.tup ((fsum st sr).map .int)) ed at' .non) (senv ys (.int many) (.int most) (.tup (st.map .int)) (.tup (sr.map .int)) (.int w) (.tup ((fsum st sr).map .int)) ed at' .non) [9] = senv ys (.int many) (.int most) (.tup (st.map .int)) (.tup (sr.map .int)) (.int w) (.tup ((fsum st sr).map .int)) ed at' .non := rfl
              have lc : fLc (fRng1 (fCons (fOp gAdd (fVar 1) (fC (.int (1 : Int)))) fNil)) (fName 9) tYesF sfe [9] (senv x2 (.int many) (.int most) (.tup (st.map .int)) (.tup (sr.map .int)) (.int w) (.tup ((fsum st sr).map .int)) ed at' .non) = some (h.map .int, senv ys (.int many) (.int most) (.tup (st.map .int)) (.tup (sr.map .int)) (.int w) (.tup ((fsum st sr).map .int)) ed at' .non) := by
                have i1 : fRng1 (fCons (fOp gAdd (fVar 1) (fC (.int (1 : Int)))) fNil) (senv x2 (.int many) (.int most) (.tup (st.map .int)) (.tup (sr.map .int)) (.int w) (.tup ((fsum st sr).map .int)) ed at' .non) = some (rangeD 0 ed.length, senv x2 (.int many) (.int most) (.tup (st.map .int)) (.tup (sr.map .int)) (.int w) (.tup ((fsum st sr).map .int)) ed at' .non) := by
                  simp only [senv, e_c, e_nil, e_cons, e_op, e_un, e_cb, e_if, e_test, e_and, e_or, e_not, e_andV, e_orV, e_notV, e_chain, e_tup, e_lst, e_lLst, e_lListOf, e_ofL, e_part, e_noPart, e_sl, e_isi, e_yes, e_bits, e_seq, e_next, e_brk, e_cont, e_never, e_asg, e_ret, e_retN, e_sif, e_drop, e_own, e_par, e_parOD, e_parDO, e_par3, e_app, e_setI, e_aug, e_for, e_call, e_callN, e_new, e_then, e_callF, e_callF0, e_seqIt, e_rng1, e_rng2, e_zipN, e_zipS, e_gtup, e_gnil, e_gcons, e_frzs0, e_frzs1, e_g1, e_g2, e_loop0, e_loop1, e_run, e_out0, e_out1, e_out2, Nat.zero_le, Option.bind_some, Option.bind_none, Option.map_some, Option.map_none, List.length_cons, List.length_nil, List.cons_append, List.nil_append, List.replicate_succ, List.replicate_zero, List.append_nil, List.getElem?_cons_zero, List.getElem?_cons_succ, List.set_cons_zero, List.set_cons_succ, List.map_cons, List.map_nil, Nat.reduceAdd, Nat.reduceSub, Nat.reduceLT, Nat.reduceLeDiff, Nat.reduceEqDiff, if_true, if_false, reduceIte, Bool.false_eq_true, Bool.not_true, Bool.not_false, ne_eq, Int.reduceEq, Int.reduceNe, not_false_eq_true, not_true_eq_false, Int.reduceLT, Int.reduceLE, Int.reduceNeg, Int.reduceSub, Int.reduceAdd, decide_true, decide_false, true_and, and_true, and_false, false_and, and_self, fVar, fName, val, frz, look, asB, asI, gAdd, gMul, gMod, gFdiv, gMinus, gInt, gInt1, gI1, gI2, gGt, gLt, gLe, gGe, gCmp, gIx, seqL, asSeq, asSeqF, ownL, gSl, gLen, gListOf, gTupOf, gIs, canSet, noOwnB, t1, rl]
                rw [u_lc, i1, Option.bind_some, show noOwnB [9] (rangeD 0 ed.length, senv x2 (.int many) (.int most) (.tup (st.map .int)) (.tup (sr.map .int)) (.int w) (.tup ((fsum st sr).map .int)) ed at' .non).snd = true from rfl, if_pos rfl]
                dsimp only
                rw [w1, q1, Option.map_some, w2]
              unfold sfe senv gMinus at lc
              simp only [F_law_spot, g_law_spot, e_c, e_nil, e_cons, e_op, e_un, e_cb, e_if, e_test, e_and, e_or, e_not, e_andV, e_orV, e_notV, e_chain, e_tup, e_lst, e_lLst, e_lListOf, e_ofL, e_part, e_noPart, e_sl, e_isi, e_yes, e_bits, e_seq, e_next, e_brk, e_cont, e_never, e_asg, e_ret, e_retN, e_sif, e_drop, e_own, e_par, e_parOD, e_parDO, e_par3, e_app, e_setI, e_aug, e_for, e_call, e_callN, e_new, e_then, e_callF, e_callF0, e_seqIt, e_rng1, e_rng2, e_zipN, e_zipS, e_gtup, e_gnil, e_gcons, e_frzs0, e_frzs1, e_g1, e_g2, e_loop0, e_loop1, e_run, e_out0, e_out1, e_out2, Nat.zero_le, Option.bind_some, Option.bind_none, Option.map_some, Option.map_none, List.length_cons, List.length_nil, List.cons_append, List.nil_append, List.replicate_succ, List.replicate_zero, List.append_nil, List.getElem?_cons_zero, List.getElem?_cons_succ, List.set_cons_zero, List.set_cons_succ, List.map_cons, List.map_nil, Nat.reduceAdd, Nat.reduceSub, Nat.reduceLT, Nat.reduceLeDiff, Nat.reduceEqDiff, if_true, if_false, reduceIte, Bool.false_eq_true, Bool.not_true, Bool.not_false, ne_eq, Int.reduceEq, Int.reduceNe, not_false_eq_true, not_true_eq_false, Int.reduceLT, Int.reduceLE, Int.reduceNeg, Int.reduceSub, Int.reduceAdd, decide_true, decide_false, true_and, and_true, and_false, false_and, and_self, fVar, fName, val, frz, look, asB, asI, gAdd, gMul, gMod, gFdiv, gMinus, gInt, gInt1, gI1, gI2, gGt, gLt, gLe, gGe, gCmp, gIx, seqL, asSeq, asSeqF, ownL, gSl, gLen, gListOf, gTupOf, gIs, canSet, noOwnB, a1, ad, d1, e1, s2, lc, gEq, eq_ints, eqv_int, b0, b1, b2, b3, b4, b5, (show ¬ (2 : Int) = 0 by decide)]
end Law

set_option Elab.async false
set_option linter.all false
set_option maxRecDepth 100000
set_option maxHeartbeats 8000000
namespace Law
open PySem L2 DL
theorem shown_ints : ∀ {ns : List Int}, (∀ i ∈ ns, 0 ≤ i ∧ i < 10 ^ 500) → piled (PyData.shownAll (pys (ns.map Dv.int))) ≤ 502 * ns.length ∧ PyData.showableAll (pys (ns.map Dv.int)) = true
  | [], _ => by simp [pys, PyData.shownAll, PyData.showableAll, piled_nil]
  | i :: ns, h => by
    obtain ⟨a, b⟩ := shown_ints fun j hj => h j (List.mem_cons_of_mem _ hj)
    have hi := h i List.mem_cons_self
    have := num_len hi.1 hi.2
    refine ⟨?_, ?_⟩
    · simp only [List.map_cons, pys, py, PyData.shownAll, PyData.shown]
      rw [piled_cons, List.length_cons]
      omega
    · simp only [List.map_cons, pys, py, PyData.showableAll, PyData.showable, b, Bool.and_true]
      exact decide_eq_true (pow_log2 hi.1 hi.2)
theorem shC_tupI {ns : List Int} (h : ∀ i ∈ ns, 0 ≤ i ∧ i < 10 ^ 500) (hz : ns.length ≤ 100) : shC (.tup (ns.map .int)) := by
  obtain ⟨a, b⟩ := shown_ints h
  have o := okd_tupI (n := 0) (ns := ns)
  refine ⟨?_, o.1, Nat.le_trans o.2 (by decide), ?_⟩
  · simp only [py, PyData.showable, b]
  · simp only [py, PyData.shown]
    have := fmt_text (PyData.shownAll (pys (ns.map Dv.int)))
    have e : szL = 16000000 := rfl
    omega
theorem shC_non : shC .non := by
  refine ⟨by simp only [py, PyData.showable], by simp only [py, PyData.canLay0], by simp only [py, PyData.depth]; omega, ?_⟩
  simp only [py, PyData.shown]
  decide +kernel
theorem Up.fless {b : Int} {f g : List Int} (hf : Up b f) (hg : Fm g) (h : fbelow g f = true) (hl : f.length = g.length) : Up b (fless f g) := fun x hx => by
  obtain ⟨y, hy, rfl⟩ := List.mem_map.mp hx
  obtain ⟨i, hi⟩ := List.mem_iff_getElem?.mp hy
  obtain ⟨h1, h2⟩ := List.getElem?_zip_eq_some.mp hi
  have hi2 : i < f.length := (List.getElem?_eq_some_iff.mp h1).1
  have q := (fbelow_iff hl.symm).mp h i (by omega)
  rw [getD_some hi2] at h1
  rw [getD_some (by omega)] at h2
  have e1 := Option.some.inj h1
  have e2 := Option.some.inj h2
  have u1 := hf _ (List.mem_of_getElem? (getD_some hi2))
  have u2 := hg _ (List.mem_of_getElem? (getD_some (i := i) (f := g) (by omega)))
  rw [e1] at q u1
  rw [e2] at q u2
  constructor <;> omega
theorem mvd_up {b : Int} {pl st en ln r : List Int} {l : Bool} (hm : mvd pl l st en ln = some r) (h1 : st.length = pl.length) (h2 : en.length = pl.length) (h3 : ln.length = pl.length) (u0 : Up b pl) (u1 : Up b st) (u2 : Up b en) (u3 : Up b ln) (hb : 0 ≤ b) : Up (b + (b + b)) r ∧ r.length = pl.length := by
  unfold mvd at hm
  split at hm
  · cases hm
    exact ⟨u0.mono' (by omega), rfl⟩
  · split at hm
    · rename_i hB
      rw [Bool.and_eq_true] at hB
      cases hm
      exact ⟨(u0.fless u2.fm hB.1 (by omega)).fsum (u1.fsum u3), by rw [fsum_len (by rw [fless_len (by omega), fsum_len (by omega)]; omega), fless_len (by omega)]⟩
    · split at hm
      · cases hm
        cases l
        · simp only [Bool.false_eq_true, if_false]
          exact ⟨(u1.fsum u3).mono' (by omega), by rw [fsum_len (by omega)]; omega⟩
        · simp only [if_true]
          exact ⟨u1.mono' (by omega), h1⟩
      · cases hm
theorem fbelow_sum : ∀ {f g : List Int}, f.length = g.length → Fm g → fbelow f (fsum f g) = true
  | [], [], _, _ => rfl
  | a :: f, b :: g, hl, h => by
    have ih := fbelow_sum (f := f) (g := g) (by simpa using hl) fun x hx => h x (List.mem_cons_of_mem _ hx)
    have h0 := h b List.mem_cons_self
    have e : fbelow (a :: f) (fsum (a :: f) (b :: g)) = (decide (a ≤ a + b) && fbelow f (fsum f g)) := rfl
    rw [e, ih, decide_eq_true (by omega)]
    rfl
  | _ :: _, [], h, _ => by simp at h
  | [], _ :: _, h, _ => by simp at h
def encP (ps : List (List Int)) : List Dv := ps.map fun p => .lst (p.map .int)
theorem spots_draw {n : Nat} {xs : List Dv} {many : Int} (g : Good n xs) (hn : n + 200 ≤ 2 ^ 29) (h0 : 0 ≤ many) (h3 : many ≤ 3) :
    ∃ (ps : List (List Int)) (ys : List Dv), F_law_spots [.own true xs, .dat (.int many)] = some (.lst (encP ps), ys) ∧ ps.length = 4 ∧ (∀ p ∈ ps, (p.length : Int) = many ∧ Up 3 p) ∧ Good (n + 120) ys := by
  obtain ⟨e', zs, h1, ps, ys, rfl, rfl, h2, h3', h4⟩ := comp_inv (gf := fName 2) (ft := tYesF) (fe := fCall 3 (some 0) F_law_point (fCons (fVar 0) (fCons (fVar 1) (fCons (fC (.int (3 : Int))) fNil)))) (ts := [2])
    (fun i e acc => ∃ (ps : List (List Int)) (ys : List Dv), acc = encP ps ∧ e = [.own true ys, .dat (.int many), .non] ∧ ps.length = i ∧ (∀ p ∈ ps, (p.length : Int) = many ∧ Up 3 p) ∧ Good (n + 40 * i) ys) (rangeD 0 3)
    (fun i d hd e acc ⟨ps, ys, ea, ee, h2, h3', h4⟩ => by
      subst ea ee
      have hi := (rangeD_get hd).2
      obtain ⟨p, ws, q1, q2, q3, q4⟩ := point_draw (many := many) (b := 3) h4 (by omega) h0 h3 (by decide) (by decide)
      refine ⟨[.own true ys, .dat (.int many), .dat d], _, true, rfl, rfl, (fun z => by cases z), fun _ => ⟨.d (.lst (p.map .int)), [.own true ws, .dat (.int many), .dat d], .lst (p.map .int), [.own true ws, .dat (.int many), .dat d], by simp only [e_c, e_nil, e_cons, e_op, e_un, e_cb, e_if, e_test, e_and, e_or, e_not, e_andV, e_orV, e_notV, e_chain, e_tup, e_lst, e_lLst, e_lListOf, e_ofL, e_part, e_noPart, e_sl, e_isi, e_yes, e_bits, e_seq, e_next, e_brk, e_cont, e_never, e_asg, e_ret, e_retN, e_sif, e_drop, e_own, e_par, e_parOD, e_parDO, e_par3, e_app, e_setI, e_aug, e_for, e_call, e_callN, e_new, e_then, e_callF, e_callF0, e_seqIt, e_rng1, e_rng2, e_zipN, e_zipS, e_gtup, e_gnil, e_gcons, e_frzs0, e_frzs1, e_g1, e_g2, e_loop0, e_loop1, e_run, e_out0, e_out1, e_out2, Nat.zero_le, Option.bind_some, Option.bind_none, Option.map_some, Option.map_none, List.length_cons, List.length_nil, List.cons_append, List.nil_append, List.replicate_succ, List.replicate_zero, List.append_nil, List.getElem?_cons_zero, List.getElem?_cons_succ, List.set_cons_zero, List.set_cons_succ, List.map_cons, List.map_nil, Nat.reduceAdd, Nat.reduceSub, Nat.reduceLT, Nat.reduceLeDiff, Nat.reduceEqDiff, if_true, if_false, reduceIte, Bool.false_eq_true, Bool.not_true, Bool.not_false, ne_eq, Int.reduceEq, Int.reduceNe, not_false_eq_true, not_true_eq_false, Int.reduceLT, Int.reduceLE, Int.reduceNeg, Int.reduceSub, Int.reduceAdd, decide_true, decide_false, true_and, and_true, and_false, false_and, and_self, fVar, fName, val, frz, look, asB, asI, gAdd, gMul, gMod, gFdiv, gMinus, gInt, gInt1, gI1, gI2, gGt, gLt, gLe, gGe, gCmp, gIx, seqL, asSeq, asSeqF, ownL, gSl, gLen, gListOf, gTupOf, gIs, canSet, noOwnB, q1], rfl, ps ++ [p], ws, by unfold encP; rw [List.map_append]; rfl, rfl, by rw [List.length_append, h2]; rfl, fun x hx => ?_, q4⟩⟩
      rcases List.mem_append.mp hx with hx | hx
      · exact h3' x hx
      · rw [List.mem_singleton.mp hx]
        exact ⟨q2, q3⟩) [.own true xs, .dat (.int many), .non] [] ⟨[], xs, rfl, rfl, rfl, (fun x hx => by cases hx), g⟩ (by rw [rangeD_len]; exact szL_ge (by decide))
  rw [rangeD_len] at h2 h4
  refine ⟨List.replicate many.toNat 0 :: ps, ys, ?_, by rw [List.length_cons, h2], fun p hp => ?_, h4⟩
  · have w : wipeE [Slot.own true xs, .dat (.int many), .non] [2] = [Slot.own true xs, .dat (.int many), .non] := rfl
    have w2 : backE [Slot.own true xs, .dat (.int many), .non] [Slot.own true ys, .dat (.int many), .non] [2] = [Slot.own true ys, .dat (.int many), .non] := rfl
    have t1 : rngC 3 := rng_ok (by decide) (by decide)
    have t2 : mulC3 1 many := ⟨by omega, by omega, szL_ge (by omega)⟩
    have s1 : (1 ≤ szL) = True := by decide
    have s4 : (1 + (encP ps).length ≤ szL) = True := eq_true (szL_ge (by unfold encP; rw [List.length_map, h2]; decide))
    have e3 : (3 : Int).toNat = 3 := rfl
    have e : (List.replicate many.toNat [Dv.int 0]).flatten = (List.replicate many.toNat 0).map .int := by
      generalize many.toNat = n
      induction n with
      | zero => rfl
      | succ n ih =>
        rw [List.replicate_succ, List.flatten_cons, ih, List.replicate_succ]
        rfl
    simp only [F_law_spots, g_law_spots, e_c, e_nil, e_cons, e_op, e_un, e_cb, e_if, e_test, e_and, e_or, e_not, e_andV, e_orV, e_notV, e_chain, e_tup, e_lst, e_lLst, e_lListOf, e_ofL, e_part, e_noPart, e_sl, e_isi, e_yes, e_bits, e_seq, e_next, e_brk, e_cont, e_never, e_asg, e_ret, e_retN, e_sif, e_drop, e_own, e_par, e_parOD, e_parDO, e_par3, e_app, e_setI, e_aug, e_for, e_call, e_callN, e_new, e_then, e_callF, e_callF0, e_seqIt, e_rng1, e_rng2, e_zipN, e_zipS, e_gtup, e_gnil, e_gcons, e_frzs0, e_frzs1, e_g1, e_g2, e_loop0, e_loop1, e_run, e_out0, e_out1, e_out2, Nat.zero_le, Option.bind_some, Option.bind_none, Option.map_some, Option.map_none, List.length_cons, List.length_nil, List.cons_append, List.nil_append, List.replicate_succ, List.replicate_zero, List.append_nil, List.getElem?_cons_zero, List.getElem?_cons_succ, List.set_cons_zero, List.set_cons_succ, List.map_cons, List.map_nil, Nat.reduceAdd, Nat.reduceSub, Nat.reduceLT, Nat.reduceLeDiff, Nat.reduceEqDiff, if_true, if_false, reduceIte, Bool.false_eq_true, Bool.not_true, Bool.not_false, ne_eq, Int.reduceEq, Int.reduceNe, not_false_eq_true, not_true_eq_false, Int.reduceLT, Int.reduceLE, Int.reduceNeg, Int.reduceSub, Int.reduceAdd, decide_true, decide_false, true_and, and_true, and_false, false_and, and_self, fVar, fName, val, frz, look, asB, asI, gAdd, gMul, gMod, gFdiv, gMinus, gInt, gInt1, gI1, gI2, gGt, gLt, gLe, gGe, gCmp, gIx, seqL, asSeq, asSeqF, ownL, gSl, gLen, gListOf, gTupOf, gIs, canSet, noOwnB, fLc, List.all_cons, List.all_nil, t1, t2, s1, e, e3, w, h1, w2, s4, Bool.and_self]
    rfl
  · rcases List.mem_cons.mp hp with rfl | hp
    · refine ⟨by rw [List.length_replicate]; omega, fun x hx => ?_⟩
      rw [List.eq_of_mem_replicate hx]
      omega
    · exact h3' p hp
/-! ### the whole -/
def lenv (x : List Dv) (many most : Int) (st ln sr pl en : List Int) (ps : List (List Int)) (s9 s10 s11 : Slot) : DEnv :=
  [.own true x, .dat (.int many), .dat (.int most), .dat (.tup (st.map .int)), .dat (.tup (ln.map .int)), .dat (.tup (sr.map .int)), .dat (.tup (pl.map .int)), .dat (.tup (en.map .int)), .dat (.lst (encP ps)), s9, s10, s11]
noncomputable def ibody : SF := sIf (fNot (fTest (fCall 7 none F_law_at_point (fCons (fVar 10) (fCons (fVar 6) (fCons (fVar 9) (fCons (fVar 3) (fCons (fVar 7) (fCons (fVar 4) (fCons (fVar 11) fNil)))))))))) (sRet (fC (.bl false))) sNext
noncomputable def obody : SF := (sSeq (sAsg (fCall 6 none F_mark_moved (fCons (fVar 1) (fCons (fVar 6) (fCons (fVar 9) (fCons (fVar 3) (fCons (fVar 7) (fCons (fVar 4) fNil))))))) (fName 10))
    (sSeq (sIf (fTest (fOp gNe (fCB (g1 gRepr) (fCons (fVar 10) fNil)) (fCB (g1 gRepr) (fCons (fCall 5 none F_law_due (fCons (fVar 6) (fCons (fVar 9) (fCons (fVar 3) (fCons (fVar 7) (fCons (fVar 4) fNil)))))) fNil)))) (sRet (fC (.bl false))) sNext)
    (sIf (fTest (fOp (gIs true) (fVar 10) (fC .non))) (sFor (fSeqIt (fVar 8)) (fName 11) ibody) sNext)))
def nOwn (s : Slot) : Prop := s = .non ∨ ∃ d, s = .dat d
theorem obody_ok {x : List Dv} {many most b : Int} {st ln sr pl en : List Int} {ps : List (List Int)} {l : Bool} {s10 s11 : Slot} (k10 : nOwn s10) (k11 : nOwn s11) (hm : 0 ≤ many) (hm3 : many ≤ 3) (h0 : (pl.length : Int) = many + 1) (h1 : st.length = pl.length) (h2 : en.length = pl.length) (h3 : ln.length = pl.length)
    (u0 : Up b pl) (u1 : Up b st) (u2 : Up b en) (u3 : Up b ln) (hb : 0 ≤ b) (hb2 : b < 2 ^ 190) (ho : fbelow st en = true) (hp : ∀ p ∈ ps, (p.length : Int) = many ∧ Up 1000000000 p) :
    ∃ t10 t11, nOwn t10 ∧ nOwn t11 ∧ obody (lenv x many most st ln sr pl en ps (.dat (.str (sd l))) s10 s11) = some (.nx (lenv x many most st ln sr pl en ps (.dat (.str (sd l))) t10 t11)) := by
  have w1 := marked_ok (l := l) hm hm3 h0 h1 h2 h3 u0.fm u1.fm u2.fm u3.fm (u2.sm (by omega)) ho
  have w2 := due_ok (l := l) (pl := pl) (st := st) (en := en) (ln := ln) h1 h2 h3 (by omega)
  cases hr : mvd pl l st en ln with
  | none =>
    rw [hr] at w1 w2
    simp only [encO] at w1 w2
    refine ⟨.dat .non, s11, .inr ⟨_, rfl⟩, k11, ?_⟩
    rcases k10 with rfl | ⟨d, rfl⟩ <;> simp only [obody, lenv, e_c, e_nil, e_cons, e_op, e_un, e_cb, e_if, e_test, e_and, e_or, e_not, e_andV, e_orV, e_notV, e_chain, e_tup, e_lst, e_lLst, e_lListOf, e_ofL, e_part, e_noPart, e_sl, e_isi, e_yes, e_bits, e_seq, e_next, e_brk, e_cont, e_never, e_asg, e_ret, e_retN, e_sif, e_drop, e_own, e_par, e_parOD, e_parDO, e_par3, e_app, e_setI, e_aug, e_for, e_call, e_callN, e_new, e_then, e_callF, e_callF0, e_seqIt, e_rng1, e_rng2, e_zipN, e_zipS, e_gtup, e_gnil, e_gcons, e_frzs0, e_frzs1, e_g1, e_g2, e_loop0, e_loop1, e_run, e_out0, e_out1, e_out2, Nat.zero_le, Option.bind_some, Option.bind_none, Option.map_some, Option.map_none, List.length_cons, List.length_nil, List.cons_append, List.nil_append, List.replicate_succ, List.replicate_zero, List.append_nil, List.getElem?_cons_zero, List.getElem?_cons_succ, List.set_cons_zero, List.set_cons_succ, List.map_cons, List.map_nil, Nat.reduceAdd, Nat.reduceSub, Nat.reduceLT, Nat.reduceLeDiff, Nat.reduceEqDiff, if_true, if_false, reduceIte, Bool.false_eq_true, Bool.not_true, Bool.not_false, ne_eq, Int.reduceEq, Int.reduceNe, not_false_eq_true, not_true_eq_false, Int.reduceLT, Int.reduceLE, Int.reduceNeg, Int.reduceSub, Int.reduceAdd, decide_true, decide_false, true_and, and_true, and_false, false_and, and_self, fVar, fName, val, frz, look, asB, asI, gAdd, gMul, gMod, gFdiv, gMinus, gInt, gInt1, gI1, gI2, gGt, gLt, gLe, gGe, gCmp, gIx, seqL, asSeq, asSeqF, ownL, gSl, gLen, gListOf, gTupOf, gIs, canSet, noOwnB, w1, w2, gRepr, shC_non, gNe, beq_self_eq_true, isNon, Bool.true_xor]
  | some r =>
    rw [hr] at w1 w2
    simp only [encO] at w1 w2
    obtain ⟨ur, lr⟩ := mvd_up hr h1 h2 h3 u0 u1 u2 u3 hb
    have h500 : (2 : Int) ^ 190 + 2 ^ 190 + 2 ^ 190 < 10 ^ 500 := by decide +kernel
    have sh : shC (.tup (r.map .int)) := shC_tupI (fun i hi => by have := ur i hi; omega) (by omega)
    obtain ⟨e', q1, t, kt, rfl⟩ := loop_inv (gf := fName 11) (gb := ibody) (fun i e => ∃ s, nOwn s ∧ e = lenv x many most st ln sr pl en ps (.dat (.str (sd l))) (.dat (.tup (r.map .int))) s) (encP ps) (fun i d hd e ⟨s, ks, ee⟩ => by
      subst ee
      unfold encP at hd
      rw [List.getElem?_map] at hd
      obtain ⟨p, hv, rfl⟩ := Option.map_eq_some_iff.mp hd
      obtain ⟨p1, p2⟩ := hp p (List.mem_of_getElem? hv)
      have kp := p2.sm (k := 300) (by decide)
      have v1 := lvalue_ok (f := r) (p := p) (by omega) (ur.sm (by omega)) kp (by omega)
      have v2 := lvalue_ok (f := pl) (p := p) (by omega) (u0.sm (by omega)) kp (by omega)
      have v3 := lvalue_ok (f := st) (p := p) (by omega) (u1.sm (by omega)) kp (by omega)
      have v4 := lvalue_ok (f := en) (p := p) (by omega) (u2.sm (by omega)) kp (by omega)
      have v5 := lvalue_ok (f := ln) (p := p) (by omega) (u3.sm (by omega)) kp (by omega)
      have v := at_val (l := l) v1 v2 v3 v4 v5
      rw [atB_ok hr (by omega) h1 h2 h3 ho p2.fm] at v
      refine ⟨lenv x many most st ln sr pl en ps (.dat (.str (sd l))) (.dat (.tup (r.map .int))) (.dat (.lst (p.map .int))), lenv x many most st ln sr pl en ps (.dat (.str (sd l))) (.dat (.tup (r.map .int))) (.dat (.lst (p.map .int))), ?_, .inl ?_, .dat (.lst (p.map .int)), .inr ⟨_, rfl⟩, rfl⟩
      · rcases ks with rfl | ⟨d, rfl⟩ <;> rfl
      · simp only [ibody, lenv, e_c, e_nil, e_cons, e_op, e_un, e_cb, e_if, e_test, e_and, e_or, e_not, e_andV, e_orV, e_notV, e_chain, e_tup, e_lst, e_lLst, e_lListOf, e_ofL, e_part, e_noPart, e_sl, e_isi, e_yes, e_bits, e_seq, e_next, e_brk, e_cont, e_never, e_asg, e_ret, e_retN, e_sif, e_drop, e_own, e_par, e_parOD, e_parDO, e_par3, e_app, e_setI, e_aug, e_for, e_call, e_callN, e_new, e_then, e_callF, e_callF0, e_seqIt, e_rng1, e_rng2, e_zipN, e_zipS, e_gtup, e_gnil, e_gcons, e_frzs0, e_frzs1, e_g1, e_g2, e_loop0, e_loop1, e_run, e_out0, e_out1, e_out2, Nat.zero_le, Option.bind_some, Option.bind_none, Option.map_some, Option.map_none, List.length_cons, List.length_nil, List.cons_append, List.nil_append, List.replicate_succ, List.replicate_zero, List.append_nil, List.getElem?_cons_zero, List.getElem?_cons_succ, List.set_cons_zero, List.set_cons_succ, List.map_cons, List.map_nil, Nat.reduceAdd, Nat.reduceSub, Nat.reduceLT, Nat.reduceLeDiff, Nat.reduceEqDiff, if_true, if_false, reduceIte, Bool.false_eq_true, Bool.not_true, Bool.not_false, ne_eq, Int.reduceEq, Int.reduceNe, not_false_eq_true, not_true_eq_false, Int.reduceLT, Int.reduceLE, Int.reduceNeg, Int.reduceSub, Int.reduceAdd, decide_true, decide_false, true_and, and_true, and_false, false_and, and_self, fVar, fName, val, frz, look, asB, asI, gAdd, gMul, gMod, gFdiv, gMinus, gInt, gInt1, gI1, gI2, gGt, gLt, gLe, gGe, gCmp, gIx, seqL, asSeq, asSeqF, ownL, gSl, gLen, gListOf, gTupOf, gIs, canSet, noOwnB, v]) (lenv x many most st ln sr pl en ps (.dat (.str (sd l))) (.dat (.tup (r.map .int))) s11) ⟨s11, k11, rfl⟩
    refine ⟨.dat (.tup (r.map .int)), t, .inr ⟨_, rfl⟩, kt, ?_⟩
    unfold lenv at q1
    rcases k10 with rfl | ⟨d, rfl⟩ <;> simp only [obody, lenv, e_c, e_nil, e_cons, e_op, e_un, e_cb, e_if, e_test, e_and, e_or, e_not, e_andV, e_orV, e_notV, e_chain, e_tup, e_lst, e_lLst, e_lListOf, e_ofL, e_part, e_noPart, e_sl, e_isi, e_yes, e_bits, e_seq, e_next, e_brk, e_cont, e_never, e_asg, e_ret, e_retN, e_sif, e_drop, e_own, e_par, e_parOD, e_parDO, e_par3, e_app, e_setI, e_aug, e_for, e_call, e_callN, e_new, e_then, e_callF, e_callF0, e_seqIt, e_rng1, e_rng2, e_zipN, e_zipS, e_gtup, e_gnil, e_gcons, e_frzs0, e_frzs1, e_g1, e_g2, e_loop0, e_loop1, e_run, e_out0, e_out1, e_out2, Nat.zero_le, Option.bind_some, Option.bind_none, Option.map_some, Option.map_none, List.length_cons, List.length_nil, List.cons_append, List.nil_append, List.replicate_succ, List.replicate_zero, List.append_nil, List.getElem?_cons_zero, List.getElem?_cons_succ, List.set_cons_zero, List.set_cons_succ, List.map_cons, List.map_nil, Nat.reduceAdd, Nat.reduceSub, Nat.reduceLT, Nat.reduceLeDiff, Nat.reduceEqDiff, if_true, if_false, reduceIte, Bool.false_eq_true, Bool.not_true, Bool.not_false, ne_eq, Int.reduceEq, Int.reduceNe, not_false_eq_true, not_true_eq_false, Int.reduceLT, Int.reduceLE, Int.reduceNeg, Int.reduceSub, Int.reduceAdd, decide_true, decide_false, true_and, and_true, and_false, false_and, and_self, fVar, fName, val, frz, look, asB, asI, gAdd, gMul, gMod, gFdiv, gMinus, gInt, gInt1, gI1, gI2, gGt, gLt, gLe, gGe, gCmp, gIx, seqL, asSeq, asSeqF, ownL, gSl, gLen, gListOf, gTupOf, gIs, canSet, noOwnB, w1, w2, gRepr, sh, gNe, beq_self_eq_true, isNon, Bool.true_xor, q1]
theorem right_ok {n : Nat} {xs : List Dv} (g : Good n xs) (hn : n + 2000 ≤ 2 ^ 29) : ∃ ys, F_law_right [.own true xs] = some (.bl true, ys) := by
  suffices h : Fin (g_law_right [.own true xs, .non, .non, .non, .non, .non, .non, .non, .non, .non, .non, .non]) by
    obtain ⟨ys, rest, h⟩ := h
    exact ⟨ys, by simp only [F_law_right, e_c, e_nil, e_cons, e_op, e_un, e_cb, e_if, e_test, e_and, e_or, e_not, e_andV, e_orV, e_notV, e_chain, e_tup, e_lst, e_lLst, e_lListOf, e_ofL, e_part, e_noPart, e_sl, e_isi, e_yes, e_bits, e_seq, e_next, e_brk, e_cont, e_never, e_asg, e_ret, e_retN, e_sif, e_drop, e_own, e_par, e_parOD, e_parDO, e_par3, e_app, e_setI, e_aug, e_for, e_call, e_callN, e_new, e_then, e_callF, e_callF0, e_seqIt, e_rng1, e_rng2, e_zipN, e_zipS, e_gtup, e_gnil, e_gcons, e_frzs0, e_frzs1, e_g1, e_g2, e_loop0, e_loop1, e_run, e_out0, e_out1, e_out2, Nat.zero_le, Option.bind_some, Option.bind_none, Option.map_some, Option.map_none, List.length_cons, List.length_nil, List.cons_append, List.nil_append, List.replicate_succ, List.replicate_zero, List.append_nil, List.getElem?_cons_zero, List.getElem?_cons_succ, List.set_cons_zero, List.set_cons_succ, List.map_cons, List.map_nil, Nat.reduceAdd, Nat.reduceSub, Nat.reduceLT, Nat.reduceLeDiff, Nat.reduceEqDiff, if_true, if_false, reduceIte, Bool.false_eq_true, Bool.not_true, Bool.not_false, ne_eq, Int.reduceEq, Int.reduceNe, not_false_eq_true, not_true_eq_false, Int.reduceLT, Int.reduceLE, Int.reduceNeg, Int.reduceSub, Int.reduceAdd, decide_true, decide_false, true_and, and_true, and_false, false_and, and_self, h]⟩
  obtain ⟨many, x1, a1, a2, a3, a4⟩ := rnd_ok (b := 4) g (by omega) (by decide) (by decide)
  obtain ⟨w, x2, b1, b2, b3, b4⟩ := rnd_ok (b := 5) a4 (by omega) (by decide) (by decide)
  have p1 : CPw 10 6 := by decide +kernel
  have p2 : CPw 10 20 := by decide +kernel
  have p3 : CPw 10 9 := by decide +kernel
  have s5 : (5 ≤ szL) = True := by decide
  have s2 : (2 ≤ szL) = True := by decide
  have s1 : (1 ≤ szL) = True := by decide
  obtain ⟨most, m1, m2, m3⟩ : ∃ most, atI [Dv.int 1, .int 2, .int 9, .int (10 ^ (6 : Int).toNat), .int (10 ^ (20 : Int).toNat)] w = some (.int most) ∧ 0 ≤ most ∧ most ≤ 10 ^ 20 := by
    rcases (show w = 0 ∨ w = 1 ∨ w = 2 ∨ w = 3 ∨ w = 4 by omega) with rfl | rfl | rfl | rfl | rfl
    · exact ⟨1, rfl, by decide, by decide +kernel⟩
    · exact ⟨2, rfl, by decide, by decide +kernel⟩
    · exact ⟨9, rfl, by decide, by decide +kernel⟩
    · exact ⟨10 ^ 6, rfl, by decide +kernel, by decide +kernel⟩
    · exact ⟨10 ^ 20, rfl, by decide +kernel, by decide +kernel⟩
  have m4 : most < 2 ^ 67 := Int.lt_of_le_of_lt m3 (by decide +kernel)
  obtain ⟨st, x3, c1, c2, c3, c4⟩ := form_draw (many := many) (b := most) b4 (by omega) a2 (by omega) m2 (by omega)
  obtain ⟨ln, x4, d1, d2, d3, d4⟩ := form_draw (many := many) (b := most) c4 (by omega) a2 (by omega) m2 (by omega)
  obtain ⟨r, x5, e1, e2, e3, e4⟩ := rnd_ok (b := 2) d4 (by omega) (by decide) (by decide)
  have mr : 0 ≤ most * r ∧ most * r ≤ most := by
    rcases (show r = 0 ∨ r = 1 by omega) with rfl | rfl <;> simp <;> omega
  have k1 : CMulW most r := (sm_of (k := 100) m2 (by omega)).cm (sm_of (k := 100) e2 (by omega)) (by decide)
  obtain ⟨sr, x6, f1, f2, f3, f4⟩ := form_draw (many := many) (b := most * r) e4 (by omega) a2 (by omega) mr.1 (by omega)
  have f3 := f3.mono' mr.2
  obtain ⟨pl, x7, h1, h2, h3, h4⟩ := spot_draw f4 (by omega) a2 (by omega) m2 (by omega) c2 f2 c3 f3
  have ad := law_added_ok (f := st) (g := sr) (by omega) (by omega)
  obtain ⟨qs, x8, i1, i2, i3, i4⟩ := spots_draw (many := many) h4 (by omega) a2 (by omega)
  obtain ⟨pt, x9, j1, j2, j3, j4⟩ := point_draw (many := many) (b := 10 ^ (9 : Int).toNat) i4 (by omega) a2 (by omega) (by decide +kernel) (by decide +kernel)
  have le : (fsum st sr).length = st.length := fsum_len (by omega)
  have hps : ∀ p ∈ qs ++ [pt], (p.length : Int) = many ∧ Up 1000000000 p := fun p hp => by
    rcases List.mem_append.mp hp with hp | hp
    · exact ⟨(i3 p hp).1, (i3 p hp).2.mono' (by decide)⟩
    · rw [List.mem_singleton.mp hp]
      exact ⟨j2, j3.mono' (by decide +kernel)⟩
  have zl : ((encP qs).length + 1 ≤ szL) = True := eq_true (szL_ge (by unfold encP; rw [List.length_map, i2]; decide))
  have ep : encP qs ++ [.lst (pt.map .int)] = encP (qs ++ [pt]) := by unfold encP; rw [List.map_append]; rfl
  have body := fun (l : Bool) {s10 s11 : Slot} (k10 : nOwn s10) (k11 : nOwn s11) => obody_ok (x := x9) (most := most) (sr := sr) (l := l) (b := 3 * most + 1) (ps := qs ++ [pt]) k10 k11 a2 (by omega) h2 (by omega) (by omega) (by omega) h3 (c3.mono' (by omega)) ((c3.fsum f3).mono' (by omega)) (d3.mono' (by omega)) (by omega) (by omega) (fbelow_sum (f := st) (g := sr) (by omega) f3.fm) hps
  obtain ⟨t10, t11, k10, k11, o1⟩ := body true (.inl rfl) (.inl rfl)
  obtain ⟨u10, u11, _, _, o2⟩ := body false k10 k11
  have lp : loopF (fName 9) obody [.str (sd true), .str (sd false)] (lenv x9 many most st ln sr pl (fsum st sr) (qs ++ [pt]) .non .non .non) = some (.nx (lenv x9 many most st ln sr pl (fsum st sr) (qs ++ [pt]) (.dat (.str (sd false))) u10 u11)) := by
    have n1 : fName 9 (.str (sd true)) (lenv x9 many most st ln sr pl (fsum st sr) (qs ++ [pt]) .non .non .non) = some (lenv x9 many most st ln sr pl (fsum st sr) (qs ++ [pt]) (.dat (.str (sd true))) .non .non) := rfl
    have n2 : fName 9 (.str (sd false)) (lenv x9 many most st ln sr pl (fsum st sr) (qs ++ [pt]) (.dat (.str (sd true))) t10 t11) = some (lenv x9 many most st ln sr pl (fsum st sr) (qs ++ [pt]) (.dat (.str (sd false))) t10 t11) := by
      unfold lenv
      rfl
    rw [e_loop1, n1, Option.bind_some, o1, Option.bind_some]
    dsimp only
    rw [e_loop1, n2, Option.bind_some, o2, Option.bind_some]
    rfl
  have fi1 : fSeqIt (fLst' (fCons (fC (.str "left")) (fCons (fC (.str "right")) fNil))) (lenv x9 many most st ln sr pl (fsum st sr) (qs ++ [pt]) .non .non .non) = some ([.str (sd true), .str (sd false)], lenv x9 many most st ln sr pl (fsum st sr) (qs ++ [pt]) .non .non .non) := by
    simp only [e_c, e_nil, e_cons, e_op, e_un, e_cb, e_if, e_test, e_and, e_or, e_not, e_andV, e_orV, e_notV, e_chain, e_tup, e_lst, e_lLst, e_lListOf, e_ofL, e_part, e_noPart, e_sl, e_isi, e_yes, e_bits, e_seq, e_next, e_brk, e_cont, e_never, e_asg, e_ret, e_retN, e_sif, e_drop, e_own, e_par, e_parOD, e_parDO, e_par3, e_app, e_setI, e_aug, e_for, e_call, e_callN, e_new, e_then, e_callF, e_callF0, e_seqIt, e_rng1, e_rng2, e_zipN, e_zipS, e_gtup, e_gnil, e_gcons, e_frzs0, e_frzs1, e_g1, e_g2, e_loop0, e_loop1, e_run, e_out0, e_out1, e_out2, Nat.zero_le, Option.bind_some, Option.bind_none, Option.map_some, Option.map_none, List.length_cons, List.length_nil, List.cons_append, List.nil_append, List.replicate_succ, List.replicate_zero, List.append_nil, List.getElem?_cons_zero, List.getElem?_cons_succ, List.set_cons_zero, List.set_cons_succ, List.map_cons, List.map_nil, Nat.reduceAdd, Nat.reduceSub, Nat.reduceLT, Nat.reduceLeDiff, Nat.reduceEqDiff, if_true, if_false, reduceIte, Bool.false_eq_true, Bool.not_true, Bool.not_false, ne_eq, Int.reduceEq, Int.reduceNe, not_false_eq_true, not_true_eq_false, Int.reduceLT, Int.reduceLE, Int.reduceNeg, Int.reduceSub, Int.reduceAdd, decide_true, decide_false, true_and, and_true, and_false, false_and, and_self, fVar, fName, val, frz, look, asB, asI, gAdd, gMul, gMod, gFdiv, gMinus, gInt, gInt1, gI1, gI2, gGt, gLt, gLe, gGe, gCmp, gIx, seqL, asSeq, asSeqF, ownL, gSl, gLen, gListOf, gTupOf, gIs, canSet, noOwnB, s2, sd]
  have ls : sFor (fSeqIt (fLst' (fCons (fC (.str "left")) (fCons (fC (.str "right")) fNil)))) (fName 9) obody (lenv x9 many most st ln sr pl (fsum st sr) (qs ++ [pt]) .non .non .non) = some (.nx (lenv x9 many most st ln sr pl (fsum st sr) (qs ++ [pt]) (.dat (.str (sd false))) u10 u11)) := by
    show (fSeqIt _ _).bind _ = _
    rw [fi1, Option.bind_some]
    exact lp
  unfold g_law_right
  refine fin_go (by (simp only [e_c, e_nil, e_cons, e_op, e_un, e_cb, e_if, e_test, e_and, e_or, e_not, e_andV, e_orV, e_notV, e_chain, e_tup, e_lst, e_lLst, e_lListOf, e_ofL, e_part, e_noPart, e_sl, e_isi, e_yes, e_bits, e_seq, e_next, e_brk, e_cont, e_never, e_asg, e_ret, e_retN, e_sif, e_drop, e_own, e_par, e_parOD, e_parDO, e_par3, e_app, e_setI, e_aug, e_for, e_call, e_callN, e_new, e_then, e_callF, e_callF0, e_seqIt, e_rng1, e_rng2, e_zipN, e_zipS, e_gtup, e_gnil, e_gcons, e_frzs0, e_frzs1, e_g1, e_g2, e_loop0, e_loop1, e_run, e_out0, e_out1, e_out2, Nat.zero_le, Option.bind_some, Option.bind_none, Option.map_some, Option.map_none, List.length_cons, List.length_nil, List.cons_append, List.nil_append, List.replicate_succ, List.replicate_zero, List.append_nil, List.getElem?_cons_zero, List.getElem?_cons_succ, List.set_cons_zero, List.set_cons_succ, List.map_cons, List.map_nil, Nat.reduceAdd, Nat.reduceSub, Nat.reduceLT, Nat.reduceLeDiff, Nat.reduceEqDiff, if_true, if_false, reduceIte, Bool.false_eq_true, Bool.not_true, Bool.not_false, ne_eq, Int.reduceEq, Int.reduceNe, not_false_eq_true, not_true_eq_false, Int.reduceLT, Int.reduceLE, Int.reduceNeg, Int.reduceSub, Int.reduceAdd, decide_true, decide_false, true_and, and_true, and_false, false_and, and_self, fVar, fName, val, frz, look, asB, asI, gAdd, gMul, gMod, gFdiv, gMinus, gInt, gInt1, gI1, gI2, gGt, gLt, gLe, gGe, gCmp, gIx, seqL, asSeq, asSeqF, ownL, gSl, gLen, gListOf, gTupOf, gIs, canSet, noOwnB, gPow, p1, p2, a1, b1, s5, m1]) <;> rfl) ?_
  refine fin_go (by (simp only [e_c, e_nil, e_cons, e_op, e_un, e_cb, e_if, e_test, e_and, e_or, e_not, e_andV, e_orV, e_notV, e_chain, e_tup, e_lst, e_lLst, e_lListOf, e_ofL, e_part, e_noPart, e_sl, e_isi, e_yes, e_bits, e_seq, e_next, e_brk, e_cont, e_never, e_asg, e_ret, e_retN, e_sif, e_drop, e_own, e_par, e_parOD, e_parDO, e_par3, e_app, e_setI, e_aug, e_for, e_call, e_callN, e_new, e_then, e_callF, e_callF0, e_seqIt, e_rng1, e_rng2, e_zipN, e_zipS, e_gtup, e_gnil, e_gcons, e_frzs0, e_frzs1, e_g1, e_g2, e_loop0, e_loop1, e_run, e_out0, e_out1, e_out2, Nat.zero_le, Option.bind_some, Option.bind_none, Option.map_some, Option.map_none, List.length_cons, List.length_nil, List.cons_append, List.nil_append, List.replicate_succ, List.replicate_zero, List.append_nil, List.getElem?_cons_zero, List.getElem?_cons_succ, List.set_cons_zero, List.set_cons_succ, List.map_cons, List.map_nil, Nat.reduceAdd, Nat.reduceSub, Nat.reduceLT, Nat.reduceLeDiff, Nat.reduceEqDiff, if_true, if_false, reduceIte, Bool.false_eq_true, Bool.not_true, Bool.not_false, ne_eq, Int.reduceEq, Int.reduceNe, not_false_eq_true, not_true_eq_false, Int.reduceLT, Int.reduceLE, Int.reduceNeg, Int.reduceSub, Int.reduceAdd, decide_true, decide_false, true_and, and_true, and_false, false_and, and_self, fVar, fName, val, frz, look, asB, asI, gAdd, gMul, gMod, gFdiv, gMinus, gInt, gInt1, gI1, gI2, gGt, gLt, gLe, gGe, gCmp, gIx, seqL, asSeq, asSeqF, ownL, gSl, gLen, gListOf, gTupOf, gIs, canSet, noOwnB, c1, d1]) <;> rfl) ?_
  refine fin_go (by (simp only [e_c, e_nil, e_cons, e_op, e_un, e_cb, e_if, e_test, e_and, e_or, e_not, e_andV, e_orV, e_notV, e_chain, e_tup, e_lst, e_lLst, e_lListOf, e_ofL, e_part, e_noPart, e_sl, e_isi, e_yes, e_bits, e_seq, e_next, e_brk, e_cont, e_never, e_asg, e_ret, e_retN, e_sif, e_drop, e_own, e_par, e_parOD, e_parDO, e_par3, e_app, e_setI, e_aug, e_for, e_call, e_callN, e_new, e_then, e_callF, e_callF0, e_seqIt, e_rng1, e_rng2, e_zipN, e_zipS, e_gtup, e_gnil, e_gcons, e_frzs0, e_frzs1, e_g1, e_g2, e_loop0, e_loop1, e_run, e_out0, e_out1, e_out2, Nat.zero_le, Option.bind_some, Option.bind_none, Option.map_some, Option.map_none, List.length_cons, List.length_nil, List.cons_append, List.nil_append, List.replicate_succ, List.replicate_zero, List.append_nil, List.getElem?_cons_zero, List.getElem?_cons_succ, List.set_cons_zero, List.set_cons_succ, List.map_cons, List.map_nil, Nat.reduceAdd, Nat.reduceSub, Nat.reduceLT, Nat.reduceLeDiff, Nat.reduceEqDiff, if_true, if_false, reduceIte, Bool.false_eq_true, Bool.not_true, Bool.not_false, ne_eq, Int.reduceEq, Int.reduceNe, not_false_eq_true, not_true_eq_false, Int.reduceLT, Int.reduceLE, Int.reduceNeg, Int.reduceSub, Int.reduceAdd, decide_true, decide_false, true_and, and_true, and_false, false_and, and_self, fVar, fName, val, frz, look, asB, asI, gAdd, gMul, gMod, gFdiv, gMinus, gInt, gInt1, gI1, gI2, gGt, gLt, gLe, gGe, gCmp, gIx, seqL, asSeq, asSeqF, ownL, gSl, gLen, gListOf, gTupOf, gIs, canSet, noOwnB, e1, k1, f1]) <;> rfl) ?_
  refine fin_go (by (simp only [e_c, e_nil, e_cons, e_op, e_un, e_cb, e_if, e_test, e_and, e_or, e_not, e_andV, e_orV, e_notV, e_chain, e_tup, e_lst, e_lLst, e_lListOf, e_ofL, e_part, e_noPart, e_sl, e_isi, e_yes, e_bits, e_seq, e_next, e_brk, e_cont, e_never, e_asg, e_ret, e_retN, e_sif, e_drop, e_own, e_par, e_parOD, e_parDO, e_par3, e_app, e_setI, e_aug, e_for, e_call, e_callN, e_new, e_then, e_callF, e_callF0, e_seqIt, e_rng1, e_rng2, e_zipN, e_zipS, e_gtup, e_gnil, e_gcons, e_frzs0, e_frzs1, e_g1, e_g2, e_loop0, e_loop1, e_run, e_out0, e_out1, e_out2, Nat.zero_le, Option.bind_some, Option.bind_none, Option.map_some, Option.map_none, List.length_cons, List.length_nil, List.cons_append, List.nil_append, List.replicate_succ, List.replicate_zero, List.append_nil, List.getElem?_cons_zero, List.getElem?_cons_succ, List.set_cons_zero, List.set_cons_succ, List.map_cons, List.map_nil, Nat.reduceAdd, Nat.reduceSub, Nat.reduceLT, Nat.reduceLeDiff, Nat.reduceEqDiff, if_true, if_false, reduceIte, Bool.false_eq_true, Bool.not_true, Bool.not_false, ne_eq, Int.reduceEq, Int.reduceNe, not_false_eq_true, not_true_eq_false, Int.reduceLT, Int.reduceLE, Int.reduceNeg, Int.reduceSub, Int.reduceAdd, decide_true, decide_false, true_and, and_true, and_false, false_and, and_self, fVar, fName, val, frz, look, asB, asI, gAdd, gMul, gMod, gFdiv, gMinus, gInt, gInt1, gI1, gI2, gGt, gLt, gLe, gGe, gCmp, gIx, seqL, asSeq, asSeqF, ownL, gSl, gLen, gListOf, gTupOf, gIs, canSet, noOwnB, h1, ad]) <;> rfl) ?_
  refine fin_go (by (simp only [e_c, e_nil, e_cons, e_op, e_un, e_cb, e_if, e_test, e_and, e_or, e_not, e_andV, e_orV, e_notV, e_chain, e_tup, e_lst, e_lLst, e_lListOf, e_ofL, e_part, e_noPart, e_sl, e_isi, e_yes, e_bits, e_seq, e_next, e_brk, e_cont, e_never, e_asg, e_ret, e_retN, e_sif, e_drop, e_own, e_par, e_parOD, e_parDO, e_par3, e_app, e_setI, e_aug, e_for, e_call, e_callN, e_new, e_then, e_callF, e_callF0, e_seqIt, e_rng1, e_rng2, e_zipN, e_zipS, e_gtup, e_gnil, e_gcons, e_frzs0, e_frzs1, e_g1, e_g2, e_loop0, e_loop1, e_run, e_out0, e_out1, e_out2, Nat.zero_le, Option.bind_some, Option.bind_none, Option.map_some, Option.map_none, List.length_cons, List.length_nil, List.cons_append, List.nil_append, List.replicate_succ, List.replicate_zero, List.append_nil, List.getElem?_cons_zero, List.getElem?_cons_succ, List.set_cons_zero, List.set_cons_succ, List.map_cons, List.map_nil, Nat.reduceAdd, Nat.reduceSub, Nat.reduceLT, Nat.reduceLeDiff, Nat.reduceEqDiff, if_true, if_false, reduceIte, Bool.false_eq_true, Bool.not_true, Bool.not_false, ne_eq, Int.reduceEq, Int.reduceNe, not_false_eq_true, not_true_eq_false, Int.reduceLT, Int.reduceLE, Int.reduceNeg, Int.reduceSub, Int.reduceAdd, decide_true, decide_false, true_and, and_true, and_false, false_and, and_self, fVar, fName, val, frz, look, asB, asI, gAdd, gMul, gMod, gFdiv, gMinus, gInt, gInt1, gI1, gI2, gGt, gLt, gLe, gGe, gCmp, gIx, seqL, asSeq, asSeqF, ownL, gSl, gLen, gListOf, gTupOf, gIs, canSet, noOwnB, gPow, p3, i1, j1, s1, zl, ep]) <;> rfl) ?_
  refine fin_go ls ?_
  exact fin_end rfl
theorem law_ok {K : PySem.W.Frag} {ns : List Int} : F_law K [.dat (.scr K ns)] = some (.bl true, []) := by
  obtain ⟨x0, a0, b0⟩ := gen_ok (K := K) (ns := ns) (i := 0) (by decide) (by decide)
  obtain ⟨x1, a1, b1⟩ := gen_ok (K := K) (ns := ns) (i := 1) (by decide) (by decide)
  obtain ⟨x2, a2, b2⟩ := gen_ok (K := K) (ns := ns) (i := 2) (by decide) (by decide)
  obtain ⟨y0, r0⟩ := right_ok b0 (by decide)
  obtain ⟨y1, r1⟩ := right_ok b1 (by decide)
  obtain ⟨y2, r2⟩ := right_ok b2 (by decide)
  have e : rangeD 0 (3 : Int).toNat = [.int 0, .int 1, .int 2] := rfl
  have hb : ∀ s d, bare [.dat s, .dat d] = true := fun _ _ => rfl
  have t1 : rngC 3 := rng_ok (by decide) (by decide)
  simp only [F_law, g_law, e_c, e_nil, e_cons, e_op, e_un, e_cb, e_if, e_test, e_and, e_or, e_not, e_andV, e_orV, e_notV, e_chain, e_tup, e_lst, e_lLst, e_lListOf, e_ofL, e_part, e_noPart, e_sl, e_isi, e_yes, e_bits, e_seq, e_next, e_brk, e_cont, e_never, e_asg, e_ret, e_retN, e_sif, e_drop, e_own, e_par, e_parOD, e_parDO, e_par3, e_app, e_setI, e_aug, e_for, e_call, e_callN, e_new, e_then, e_callF, e_callF0, e_seqIt, e_rng1, e_rng2, e_zipN, e_zipS, e_gtup, e_gnil, e_gcons, e_frzs0, e_frzs1, e_g1, e_g2, e_loop0, e_loop1, e_run, e_out0, e_out1, e_out2, Nat.zero_le, Option.bind_some, Option.bind_none, Option.map_some, Option.map_none, List.length_cons, List.length_nil, List.cons_append, List.nil_append, List.replicate_succ, List.replicate_zero, List.append_nil, List.getElem?_cons_zero, List.getElem?_cons_succ, List.set_cons_zero, List.set_cons_succ, List.map_cons, List.map_nil, Nat.reduceAdd, Nat.reduceSub, Nat.reduceLT, Nat.reduceLeDiff, Nat.reduceEqDiff, if_true, if_false, reduceIte, Bool.false_eq_true, Bool.not_true, Bool.not_false, ne_eq, Int.reduceEq, Int.reduceNe, not_false_eq_true, not_true_eq_false, Int.reduceLT, Int.reduceLE, Int.reduceNeg, Int.reduceSub, Int.reduceAdd, decide_true, decide_false, true_and, and_true, and_false, false_and, and_self, fVar, fName, val, frz, look, asB, asI, gAdd, gMul, gMod, gFdiv, gMinus, gInt, gInt1, gI1, gI2, gGt, gLt, gLe, gGe, gCmp, gIx, seqL, asSeq, asSeqF, ownL, gSl, gLen, gListOf, gTupOf, gIs, canSet, noOwnB, t1, e, hb, a0, a1, a2, r0, r1, r2]
end Law

set_option Elab.async false
set_option linter.all false
set_option maxRecDepth 100000
open PySem PySem.W PyProof.Rows
set_option maxHeartbeats 0 in
theorem PySem.Challenge.cw_countscribe_k76_marks_moved_holds : PySem.Challenge.rw_countscribe_k76_marks_moved.Holds := by
  w_on; o_law; k_head; (case hw => w_witness2)
  k_fill
  refine DG.walk_g (l := PySem.Challenge.rw_countscribe_k76_marks_moved) (n := 63) (k := 8) (x := "_law_script") (CX := fun _ => L2.CX0) (sp := fun w => DL.spD 1 (Law.F_law _)) rfl (by decide) rfl ⟨rfl, by decide, by decide⟩ (fun w h Y => PySem.W.kIn_of Y) ?F (fun _ _ a ns hl hO hS => DL.sp_law Law.law_ok hO hS) (fun _ _ _ _ _ h => h)
  case F =>
    intro w mg fa h KX G hmg
    refine' Law.all_mk KX G hmg ?a0 ?l0 ?c0 ?k0 ?a1 ?l1 ?c1 ?k1 ?a2 ?l2 ?c2 ?k2 ?a3 ?l3 ?c3 ?k3 ?a4 ?l4 ?c4 ?k4 ?a5 ?l5 ?c5 ?k5 ?a6 ?l6 ?c6 ?k6 ?a7 ?l7 ?c7 ?k7 ?a8 ?l8 ?c8 ?k8 ?a9 ?l9 ?c9 ?k9 ?a10 ?l10 ?c10 ?k10 ?a11 ?l11 ?c11 ?k11 ?a12 ?l12 ?c12 ?k12 ?a13 ?l13 ?c13 ?k13 ?a14 ?l14 ?c14 ?k14 ?a15 ?l15 ?c15 ?k15 ?a16 ?l16 ?c16 ?k16 ?a17 ?l17 ?c17 ?k17 ?a18 ?l18 ?c18 ?k18 ?a19 ?l19 ?c19 ?k19 ?a20 ?l20 ?c20 ?k20 ?a21 ?l21 ?c21 ?k21 ?a22 ?l22 ?c22 ?k22 ?a23 ?l23 ?c23 ?k23 ?a24 ?l24 ?c24 ?k24 ?a25 ?l25 ?c25 ?k25 ?a26 ?l26 ?c26 ?k26 ?a27 ?l27 ?c27 ?k27 ?a28 ?l28 ?c28 ?k28 ?a29 ?l29 ?c29 ?k29 ?a30 ?l30 ?c30 ?k30 ?a31 ?l31 ?c31 ?k31 ?v_MOST_UNKNOWNS ?v_SIDES ?k_SIDES ?z_bool ?z_int ?z_isinstance ?z_len ?z_max ?z_range ?z_repr ?z_str ?z_sum ?z_tuple ?z_zip
    (case a0 => k_is); (case l0 => k_is); (case c0 => k_is); (case k0 => k_is); (case a1 => k_is); (case l1 => k_is); (case c1 => k_is); (case k1 => k_is)
    (case a2 => k_is); (case l2 => k_is); (case c2 => k_is); (case k2 => k_is); (case a3 => k_is); (case l3 => k_is); (case c3 => k_is); (case k3 => k_is)
    (case a4 => k_is); (case l4 => k_is); (case c4 => k_is); (case k4 => k_is); (case a5 => k_is); (case l5 => k_is); (case c5 => k_is); (case k5 => k_is)
    (case a6 => k_is); (case l6 => k_is); (case c6 => k_is); (case k6 => k_is); (case a7 => k_is); (case l7 => k_is); (case c7 => k_is); (case k7 => k_is)
    (case a8 => k_is); (case l8 => k_is); (case c8 => k_is); (case k8 => k_is); (case a9 => k_is); (case l9 => k_is); (case c9 => k_is); (case k9 => k_is)
    (case a10 => k_is); (case l10 => k_is); (case c10 => k_is); (case k10 => k_is); (case a11 => k_is); (case l11 => k_is); (case c11 => k_is); (case k11 => k_is)
    (case a12 => k_is); (case l12 => k_is); (case c12 => k_is); (case k12 => k_is); (case a13 => k_is); (case l13 => k_is); (case c13 => k_is); (case k13 => k_is)
    (case a14 => k_is); (case l14 => k_is); (case c14 => k_is); (case k14 => k_is); (case a15 => k_is); (case l15 => k_is); (case c15 => k_is); (case k15 => k_is)
    (case a16 => k_is); (case l16 => k_is); (case c16 => k_is); (case k16 => k_is); (case a17 => k_is); (case l17 => k_is); (case c17 => k_is); (case k17 => k_is)
    (case a18 => k_is); (case l18 => k_is); (case c18 => k_is); (case k18 => k_is); (case a19 => k_is); (case l19 => k_is); (case c19 => k_is); (case k19 => k_is)
    (case a20 => k_is); (case l20 => k_is); (case c20 => k_is); (case k20 => k_is); (case a21 => k_is); (case l21 => k_is); (case c21 => k_is); (case k21 => k_is)
    (case a22 => k_is); (case l22 => k_is); (case c22 => k_is); (case k22 => k_is); (case a23 => k_is); (case l23 => k_is); (case c23 => k_is); (case k23 => k_is)
    (case a24 => k_is); (case l24 => k_is); (case c24 => k_is); (case k24 => k_is); (case a25 => k_is); (case l25 => k_is); (case c25 => k_is); (case k25 => k_is)
    (case a26 => k_is); (case l26 => k_is); (case c26 => k_is); (case k26 => k_is); (case a27 => k_is); (case l27 => k_is); (case c27 => k_is); (case k27 => k_is)
    (case a28 => k_is); (case l28 => k_is); (case c28 => k_is); (case k28 => k_is); (case a29 => k_is); (case l29 => k_is); (case c29 => k_is); (case k29 => k_is)
    (case a30 => k_is); (case l30 => k_is); (case c30 => k_is); (case k30 => k_is); (case a31 => k_is); (case l31 => k_is); (case c31 => k_is); (case k31 => k_is)
    (case v_MOST_UNKNOWNS => k_is); (case v_SIDES => k_is); (case k_SIDES => k_is); (case z_bool => k_is); (case z_int => k_is); (case z_isinstance => k_is); (case z_len => k_is); (case z_max => k_is)
    (case z_range => k_is); (case z_repr => k_is); (case z_str => k_is); (case z_sum => k_is); (case z_tuple => k_is); (case z_zip => k_is)
