import PyProof.Rows.All
import Wide.All
import OpenK.AllK
import Wide.FinOn
import HandS.ForMost
import HandS.ForExc
import HandS.HeadHook2
import HandS.Wide
import HandS.IsInst
import HandS.Walk
import HandS.Defaults
import HandS.Zip
import HandS.Style
import HandS.MakeKw
import HandS.Head0
import HandS.Head1
import HandS.Head2
import HandS.HeadEnd
import HandS.HeadHook1
import HandS.EndBits
import HandS.Words
import PySem.Challenge.RW_mendworth_k02_moduli_and_letters
set_option Elab.async false
set_option linter.all false
set_option maxRecDepth 100000
namespace VM
open PySem PySem.Spec PyProof.Rows L2
inductive D where
  | non | bl (b : Bool) | int (i : Int) | str (s : Str)
  | lst (l : List D) | tup (l : List D)
  | dk (ks : List Key) (vs : List D) | dt (ks : List (List Key)) (vs : List D)
  | obj (c : Str) (ns : List Str) (vs : List D)
  | ref (k : Nat) | fn (x : Str) | scr (ns : List Int) | ktp (l : List D)
  deriving Inhabited
abbrev Store := List (Option D)
inductive Res (α : Type) where
  | ok (a : α) (S : Store)
  | exc (c : Str) (ns : List Str) (vs : List D) (S : Store)
  | bad
def M (α : Type) : Type := Store → Res α
def M.pure {α : Type} (a : α) : M α := fun S => .ok a S
def M.bind {α β : Type} (m : M α) (f : α → M β) : M β := fun S => match m S with
  | .ok a S' => f a S'
  | .exc c ns vs S' => .exc c ns vs S'
  | .bad => .bad
def M.bad {α : Type} : M α := fun _ => .bad
def M.raise {α : Type} (c : Str) (ns : List Str) (vs : List D) : M α := fun S => .exc c ns vs S
@[simp] theorem M.pure_bind {α β : Type} (a : α) (f : α → M β) : (M.pure a).bind f = f a := rfl
@[simp] theorem M.bad_bind {α β : Type} (f : α → M β) : (M.bad : M α).bind f = M.bad := rfl
@[simp] theorem M.raise_bind {α β : Type} (c : Str) (ns : List Str) (vs : List D) (f : α → M β) : (M.raise c ns vs : M α).bind f = M.raise c ns vs := rfl
@[simp] theorem M.bind_pure {α : Type} (m : M α) : m.bind M.pure = m := by
  funext S; unfold M.bind; cases m S <;> rfl
theorem M.bind_assoc {α β γ : Type} (m : M α) (f : α → M β) (g : β → M γ) : (m.bind f).bind g = m.bind fun a => (f a).bind g := by
  funext S; unfold M.bind; cases m S <;> rfl
theorem M.bind_ok {α β : Type} {m : M α} {f : α → M β} {S S' : Store} {a : α} (h : m S = .ok a S') : (m.bind f) S = f a S' := by unfold M.bind; rw [h]
/-! ### data in the heap -/
section
variable (K : PySem.W.Frag) (F : Hp) (μ : List Addr)
mutual
def rep : D → V → Prop
  | .non, v => v = .non
  | .bl b, v => v = .bl b
  | .int i, v => v = .int i
  | .str s, v => v = .str s
  | .lst l, v => ∃ p xs, v = .ref p ∧ F p = some (.lst xs) ∧ xs.length ≤ sizeLine ∧ repL l xs
  | .tup l, v => ∃ p xs, v = .ref p ∧ F p = some (.tup xs) ∧ xs.length ≤ sizeLine ∧ repL l xs
  | .ktp l, v => ∃ p xs, v = .ref p ∧ SqT K F p xs ∧ xs.length ≤ sizeLine ∧ repL l xs
  | .dk ks vs, v => ∃ p kvs, v = .ref p ∧ Rd F p (.dK kvs) ∧ kvs.map (·.1) = ks ∧ ks.Nodup ∧ ks.length ≤ sizeLine ∧ repL vs (kvs.map (·.2))
  | .dt ks vs, v => ∃ p kvs, v = .ref p ∧ Rd F p (.dT kvs) ∧ kvs.map (·.1) = ks ∧ ks.Nodup ∧ ks.length ≤ sizeLine ∧ repL vs (kvs.map (·.2))
  | .obj c ns vs, v => ∃ p dx fs, v = .ref p ∧ F p = some (.ins (He.ga K c) dx fs) ∧ fs.map (·.1) = ns ∧ fs.length < 1000 ∧ repL vs (fs.map (·.2))
  | .ref k, v => ∃ a, μ[k]? = some a ∧ v = .ref a
  | .fn x, v => v = .ref (He.ga K x)
  | .scr ns, v => ∃ p, v = .ref p ∧ SqL K F p (ns.map V.int) ∧ ns.length ≤ sizeLine
def repL : List D → List V → Prop
  | [], xs => xs = []
  | d :: l, xs => ∃ v r, xs = v :: r ∧ rep d v ∧ repL l r
end
end
def LeF (F F' : Hp) : Prop := ∀ a o, F a = some o → F' a = some o
theorem LeF.refl (F : Hp) : LeF F F := fun _ _ h => h
theorem LeF.trans {F G J : Hp} (a : LeF F G) (b : LeF G J) : LeF F J := fun x o h => b x o (a x o h)
theorem LeF.rd {F F' : Hp} (h : LeF F F') {a : Addr} {u : HO} (r : Rd F a u) : Rd F' a u := by
  rcases r with r | ⟨o, r⟩
  · exact .inl (h _ _ r)
  · exact .inr ⟨o, h _ _ r⟩
theorem LeF.sqL {K : PySem.W.Frag} {F F' : Hp} (h : LeF F F') {a : Addr} {xs : List V} (r : SqL K F a xs) : SqL K F' a xs := by
  rcases r with r | r
  · exact .inl (h.rd r)
  · exact .inr r
theorem LeF.sqT {K : PySem.W.Frag} {F F' : Hp} (h : LeF F F') {a : Addr} {xs : List V} (r : SqT K F a xs) : SqT K F' a xs := by
  rcases r with r | r
  · exact .inl (h.rd r)
  · exact .inr r
section
variable {K : PySem.W.Frag} {F F' : Hp} {μ μ' : List Addr}
theorem pre_get {α : Type} {l l' : List α} (h : l <+: l') {k : Nat} {a : α} (e : l[k]? = some a) : l'[k]? = some a := by
  obtain ⟨t, rfl⟩ := h
  rw [List.getElem?_append_left (List.getElem?_eq_some_iff.mp e).1]
  exact e
mutual
theorem rep_mono (h : LeF F F') (hm : μ <+: μ') : ∀ (d : D) (v : V), rep K F μ d v → rep K F' μ' d v
  | .non, v, r => by simpa only [rep] using r
  | .bl b, v, r => by simpa only [rep] using r
  | .int i, v, r => by simpa only [rep] using r
  | .str s, v, r => by simpa only [rep] using r
  | .lst l, v, r => by
    simp only [rep] at r ⊢
    obtain ⟨p, xs, e, a, z, b⟩ := r
    exact ⟨p, xs, e, h _ _ a, z, repL_mono h hm l xs b⟩
  | .tup l, v, r => by
    simp only [rep] at r ⊢
    obtain ⟨p, xs, e, a, z, b⟩ := r
    exact ⟨p, xs, e, h _ _ a, z, repL_mono h hm l xs b⟩
  | .ktp l, v, r => by
    simp only [rep] at r ⊢
    obtain ⟨p, xs, e, a, z, b⟩ := r
    exact ⟨p, xs, e, h.sqT a, z, repL_mono h hm l xs b⟩
  | .dk ks vs, v, r => by
    simp only [rep] at r ⊢
    obtain ⟨p, kvs, e, a, z, n, s, b⟩ := r
    exact ⟨p, kvs, e, h.rd a, z, n, s, repL_mono h hm vs _ b⟩
  | .dt ks vs, v, r => by
    simp only [rep] at r ⊢
    obtain ⟨p, kvs, e, a, z, n, s, b⟩ := r
    exact ⟨p, kvs, e, h.rd a, z, n, s, repL_mono h hm vs _ b⟩
  | .obj c ns vs, v, r => by
    simp only [rep] at r ⊢
    obtain ⟨p, dx, fs, e, a, z, s, b⟩ := r
    exact ⟨p, dx, fs, e, h _ _ a, z, s, repL_mono h hm vs _ b⟩
  | .ref k, v, r => by
    simp only [rep] at r ⊢
    obtain ⟨a, e, r⟩ := r
    exact ⟨a, pre_get hm e, r⟩
  | .fn x, v, r => by simpa only [rep] using r
  | .scr ns, v, r => by
    simp only [rep] at r ⊢
    obtain ⟨p, e, a, z⟩ := r
    exact ⟨p, e, h.sqL a, z⟩
theorem repL_mono (h : LeF F F') (hm : μ <+: μ') : ∀ (l : List D) (xs : List V), repL K F μ l xs → repL K F' μ' l xs
  | [], xs, r => by simpa only [repL] using r
  | d :: l, xs, r => by
    simp only [repL] at r ⊢
    obtain ⟨v, t, e, a, b⟩ := r
    exact ⟨v, t, e, rep_mono h hm d v a, repL_mono h hm l t b⟩
end
theorem repL_length : ∀ {l : List D} {xs : List V}, repL K F μ l xs → xs.length = l.length
  | [], xs, r => by simp only [repL] at r; subst r; rfl
  | d :: l, xs, r => by
    simp only [repL] at r
    obtain ⟨v, t, rfl, _, b⟩ := r
    simp [repL_length b]
theorem repL_get : ∀ {l : List D} {xs : List V} {i : Nat} {v : V}, repL K F μ l xs → xs[i]? = some v → ∃ d, l[i]? = some d ∧ rep K F μ d v
  | [], xs, i, v, r, e => by simp only [repL] at r; subst r; simp at e
  | d :: l, xs, i, v, r, e => by
    simp only [repL] at r
    obtain ⟨w, t, rfl, a, b⟩ := r
    cases i with
    | zero => simp at e; subst e; exact ⟨d, rfl, a⟩
    | succ i => exact repL_get (i := i) b (by simpa using e)
theorem repL_at : ∀ {l : List D} {xs : List V} {i : Nat} {d : D}, repL K F μ l xs → l[i]? = some d → ∃ v, xs[i]? = some v ∧ rep K F μ d v
  | [], xs, i, d, r, e => by simp at e
  | d' :: l, xs, i, d, r, e => by
    simp only [repL] at r
    obtain ⟨w, t, rfl, a, b⟩ := r
    cases i with
    | zero => simp at e; subst e; exact ⟨w, rfl, a⟩
    | succ i => exact repL_at (i := i) b (by simpa using e)
theorem repL_append : ∀ {l m : List D} {xs ys : List V}, repL K F μ l xs → repL K F μ m ys → repL K F μ (l ++ m) (xs ++ ys)
  | [], m, xs, ys, r, s => by simp only [repL] at r; subst r; exact s
  | d :: l, m, xs, ys, r, s => by
    simp only [repL] at r
    obtain ⟨v, t, rfl, a, b⟩ := r
    show repL K F μ (d :: (l ++ m)) (v :: (t ++ ys))
    simp only [repL]
    exact ⟨v, _, rfl, a, repL_append b s⟩
theorem repL_one {d : D} {v : V} (r : rep K F μ d v) : repL K F μ [d] [v] := by
  simp only [repL]; exact ⟨v, [], rfl, r, rfl⟩
theorem repL_nil : repL K F μ [] [] := by simp only [repL]
theorem repL_cons {d : D} {v : V} {l : List D} {xs : List V} (r : rep K F μ d v) (s : repL K F μ l xs) : repL K F μ (d :: l) (v :: xs) := by
  simp only [repL]; exact ⟨v, xs, rfl, r, s⟩
theorem repL_take : ∀ {l : List D} {xs : List V} (n : Nat), repL K F μ l xs → repL K F μ (l.take n) (xs.take n)
  | [], xs, n, r => by simp only [repL] at r; subst r; simp [repL]
  | d :: l, xs, n, r => by
    simp only [repL] at r
    obtain ⟨v, t, rfl, a, b⟩ := r
    cases n with
    | zero => simp [repL]
    | succ n => exact repL_cons a (repL_take n b)
theorem repL_drop : ∀ {l : List D} {xs : List V} (n : Nat), repL K F μ l xs → repL K F μ (l.drop n) (xs.drop n)
  | [], xs, n, r => by simp only [repL] at r; subst r; simp [repL]
  | d :: l, xs, n, r => by
    simp only [repL] at r
    obtain ⟨v, t, rfl, a, b⟩ := r
    cases n with
    | zero => exact repL_cons a b
    | succ n => exact repL_drop n b
theorem repL_reverse : ∀ {l : List D} {xs : List V}, repL K F μ l xs → repL K F μ l.reverse xs.reverse
  | [], xs, r => by simp only [repL] at r; subst r; simp [repL]
  | d :: l, xs, r => by
    simp only [repL] at r
    obtain ⟨v, t, rfl, a, b⟩ := r
    rw [List.reverse_cons, List.reverse_cons]
    exact repL_append (repL_reverse b) (repL_one a)
theorem repL_set : ∀ {l : List D} {xs : List V} (i : Nat) {d : D} {v : V}, repL K F μ l xs → rep K F μ d v → repL K F μ (l.set i d) (xs.set i v)
  | [], xs, i, d, v, r, s => by simp only [repL] at r; subst r; simp [repL]
  | e :: l, xs, i, d, v, r, s => by
    simp only [repL] at r
    obtain ⟨w, t, rfl, a, b⟩ := r
    cases i with
    | zero => exact repL_cons s b
    | succ i => exact repL_cons a (repL_set i b s)
end
/-- what a mutable object at p holds -/
def ownAt (K : PySem.W.Frag) (H F : Hp) (μ : List Addr) (p : Addr) : D → Prop
  | .lst l => ∃ xs, H p = some (.lst xs) ∧ xs.length ≤ sizeLine ∧ repL K F μ l xs
  | .dk ks vs => ∃ kvs, H p = some (.dK kvs) ∧ kvs.map (·.1) = ks ∧ ks.Nodup ∧ ks.length ≤ sizeLine ∧ repL K F μ vs (kvs.map (·.2))
  | .dt ks vs => ∃ kvs, H p = some (.dT kvs) ∧ kvs.map (·.1) = ks ∧ ks.Nodup ∧ ks.length ≤ sizeLine ∧ repL K F μ vs (kvs.map (·.2))
  | .obj c ns vs => ∃ dx fs, H p = some (.ins (He.ga K c) dx fs) ∧ fs.map (·.1) = ns ∧ fs.length < 1000 ∧ repL K F μ vs (fs.map (·.2))
  | _ => False
theorem ownAt_mono {K : PySem.W.Frag} {H H' F F' : Hp} {μ μ' : List Addr} {p : Addr} {d : D} (r : ownAt K H F μ p d) (e : H' p = H p) (h : LeF F F') (hm : μ <+: μ') : ownAt K H' F' μ' p d := by
  cases d with
  | lst l => obtain ⟨xs, a, z, b⟩ := r; exact ⟨xs, e.trans a, z, repL_mono h hm _ _ b⟩
  | dk ks vs => obtain ⟨xs, a, z, n, s, b⟩ := r; exact ⟨xs, e.trans a, z, n, s, repL_mono h hm _ _ b⟩
  | dt ks vs => obtain ⟨xs, a, z, n, s, b⟩ := r; exact ⟨xs, e.trans a, z, n, s, repL_mono h hm _ _ b⟩
  | obj c ns vs => obtain ⟨dx, fs, a, z, s, b⟩ := r; exact ⟨dx, fs, e.trans a, z, s, repL_mono h hm _ _ b⟩
  | _ => exact r.elim
theorem ownAt_some {K : PySem.W.Frag} {H F : Hp} {μ : List Addr} {p : Addr} {d : D} (r : ownAt K H F μ p d) : ∃ o, H p = some o := by
  cases d with
  | lst l => obtain ⟨xs, a, _⟩ := r; exact ⟨_, a⟩
  | dk ks vs => obtain ⟨xs, a, _⟩ := r; exact ⟨_, a⟩
  | dt ks vs => obtain ⟨xs, a, _⟩ := r; exact ⟨_, a⟩
  | obj c ns vs => obtain ⟨dx, fs, a, _⟩ := r; exact ⟨_, a⟩
  | _ => exact r.elim
/-! ### slots -/
inductive SL where
  | un | dat (d : D) | own (d : D)
abbrev Env' := List SL
/-- the ghosts: what never changes, the store's addresses, the addresses that slots own -/
structure G where
  F : Hp
  μ : List Addr
  ω : List Addr
def SlotOk (K : PySem.W.Frag) (H : Hp) (g : G) : SL → Option (Option V) → Prop
  | .un, _ => True
  | .dat d, x => ∃ v, x = some (some v) ∧ rep K g.F g.μ d v
  | .own d, x => ∃ p, x = some (some (.ref p)) ∧ p ∈ g.ω ∧ p ∉ g.μ ∧ g.F p = none ∧ ownAt K H g.F g.μ p d
def IsOwn (env : Env') (i : Nat) : Prop := ∃ d, env[i]? = some (.own d)
/-- the store and the frozen part -/
structure SG (K : PySem.W.Frag) (H : Hp) (g : G) (S : Store) : Prop where
  sub : LeF g.F H
  stl : S.length = g.μ.length
  st : ∀ (k : Nat) (d : D) (p : Addr), S[k]? = some (some d) → g.μ[k]? = some p → g.F p = none ∧ ownAt K H g.F g.μ p d
  dead : ∀ (k : Nat) (p : Addr), S[k]? = some none → g.μ[k]? = some p → g.F p ≠ none
  mund : ∀ (k l : Nat) (p : Addr), g.μ[k]? = some p → g.μ[l]? = some p → k = l
structure SI (K : PySem.W.Frag) (σ : L2.St) (H : Hp) (g : G) (env : Env') (S : Store) : Prop where
  sg : SG K H g S
  len : env.length = σ.length
  slot : ∀ (i : Nat) (s : SL), env[i]? = some s → SlotOk K H g s σ[i]?
  dist : ∀ (i j : Nat) (p : Addr), IsOwn env i → IsOwn env j → σ[i]? = some (some (.ref p)) → σ[j]? = some (some (.ref p)) → i = j
  omp : ∀ a, a ∈ g.ω → H a ≠ none
/-- what may have changed -/
structure Nx (H : Hp) (g : G) (H' : Hp) (g' : G) : Prop where
  keep : ∀ a o, H a = some o → a ∉ g.μ → a ∉ g.ω → H' a = some o
  stay : ∀ a, H a ≠ none → H' a ≠ none
  grow : LeF g.F g'.F
  new : ∀ a o, g'.F a = some o → g.F a = none → H a = none ∨ a ∈ g.μ ∨ a ∈ g.ω
  pre : g.μ <+: g'.μ
  nmu : ∀ a, a ∈ g'.μ → a ∈ g.μ ∨ H a = none ∨ a ∈ g.ω
  nom : ∀ a, a ∈ g'.ω → a ∈ g.ω ∨ H a = none ∨ a ∈ g.μ
theorem Nx.refl (H : Hp) (g : G) : Nx H g H g :=
  ⟨fun _ _ h _ _ => h, fun _ h => h, LeF.refl _, fun a o h e => by (rw [e] at h; cases h), List.prefix_refl _, fun _ h => .inl h, fun _ h => .inl h⟩
theorem Nx.trans {H H1 H2 : Hp} {g g1 g2 : G} (a : Nx H g H1 g1) (b : Nx H1 g1 H2 g2) : Nx H g H2 g2 := by
  have hn : ∀ x, H1 x = none → H x = none ∨ x ∈ g.μ ∨ x ∈ g.ω := fun x h1 => by
    cases h : H x with
    | none => exact .inl rfl
    | some o =>
      by_cases m1 : x ∈ g.μ
      · exact .inr (.inl m1)
      · by_cases m2 : x ∈ g.ω
        · exact .inr (.inr m2)
        · have := a.keep x o h m1 m2
          rw [h1] at this; cases this
  refine ⟨fun x o h h1 h2 => ?_, fun x h => b.stay x (a.stay x h), a.grow.trans b.grow, fun x o h e => ?_, a.pre.trans b.pre, fun x h => ?_, fun x h => ?_⟩
  · refine b.keep x o (a.keep x o h h1 h2) (fun z => ?_) fun z => ?_
    · rcases a.nmu x z with q | q | q
      · exact h1 q
      · rw [h] at q; cases q
      · exact h2 q
    · rcases a.nom x z with q | q | q
      · exact h2 q
      · rw [h] at q; cases q
      · exact h1 q
  · cases e1 : g1.F x with
    | some o1 => exact a.new x o1 e1 e
    | none =>
      rcases b.new x o h e1 with q | q | q
      · exact hn x q
      · rcases a.nmu x q with q | q | q
        · exact .inr (.inl q)
        · exact .inl q
        · exact .inr (.inr q)
      · rcases a.nom x q with q | q | q
        · exact .inr (.inr q)
        · exact .inl q
        · exact .inr (.inl q)
  · rcases b.nmu x h with q | q | q
    · exact a.nmu x q
    · rcases hn x q with q | q | q
      · exact .inr (.inl q)
      · exact .inl q
      · exact .inr (.inr q)
    · rcases a.nom x q with q | q | q
      · exact .inr (.inr q)
      · exact .inr (.inl q)
      · exact .inl q
  · rcases b.nom x h with q | q | q
    · exact a.nom x q
    · rcases hn x q with q | q | q
      · exact .inr (.inl q)
      · exact .inr (.inr q)
      · exact .inl q
    · rcases a.nmu x q with q | q | q
      · exact .inr (.inr q)
      · exact .inr (.inl q)
      · exact .inl q
end VM
namespace VM
open PySem PySem.Spec PyProof.Rows L2
section
variable {K : PySem.W.Frag} {σ : L2.St} {H H' : Hp} {g g' : G} {env env' : Env'} {S S' : Store} {p : Addr} {d : D} {i : Nat}
theorem SG.mup (s : SG K H g S) {a : Addr} (h : a ∈ g.μ) : H a ≠ none := by
  obtain ⟨k, hk⟩ := List.getElem?_of_mem h
  have hl : k < S.length := by rw [s.stl]; exact (List.getElem?_eq_some_iff.mp hk).1
  cases e : S[k]? with
  | none => rw [List.getElem?_eq_none_iff] at e; omega
  | some o =>
    cases o with
    | none =>
      intro z
      cases q : g.F a with
      | none => exact s.dead k a e hk q
      | some u => rw [s.sub a u q] at z; cases z
    | some d =>
      obtain ⟨_, r⟩ := s.st k d a e hk
      obtain ⟨o, h⟩ := ownAt_some r
      rw [h]; simp
/-- the frozen part and the store's part move on -/
theorem SG.fresh (s : SG K H g S) (hp : H p = none) {o : HO} : SG K (upd H p o) g S := by
  refine ⟨fun a u h => ?_, s.stl, fun k d a h1 h2 => ?_, s.dead, s.mund⟩
  · have := s.sub a u h
    rw [upd_ne (ne_of_none this hp)]
    exact this
  · obtain ⟨z, r⟩ := s.st k d a h1 h2
    obtain ⟨u, hu⟩ := ownAt_some r
    exact ⟨z, ownAt_mono r (upd_ne (ne_of_none hu hp)) (LeF.refl _) (List.prefix_refl _)⟩
theorem SI.fresh (s : SI K σ H g env S) (hp : H p = none) {o : HO} : SI K σ (upd H p o) g env S := by
  refine ⟨s.sg.fresh hp, s.len, fun j t h => ?_, s.dist, fun a h z => ?_⟩
  · have q := s.slot j t h
    cases t with
    | un => exact trivial
    | dat d => exact q
    | own d =>
      obtain ⟨a, e, h1, h2, h3, r⟩ := q
      obtain ⟨u, hu⟩ := ownAt_some r
      exact ⟨a, e, h1, h2, h3, ownAt_mono r (upd_ne (ne_of_none hu hp)) (LeF.refl _) (List.prefix_refl _)⟩
  · by_cases e : a = p
    · rw [e, upd_same] at z; cases z
    · rw [upd_ne e] at z; exact s.omp a h z
theorem Nx.fresh (hp : H p = none) {o : HO} : Nx H g (upd H p o) g := by
  refine ⟨fun a u h _ _ => ?_, fun a h => ?_, LeF.refl _, fun a o h e => (by rw [e] at h; cases h), List.prefix_refl _, fun _ h => .inl h, fun _ h => .inl h⟩
  · rw [upd_ne (ne_of_none h hp)]; exact h
  · by_cases e : a = p
    · rw [e, upd_same]; simp
    · rw [upd_ne e]; exact h
/-- an object that nobody holds as yet -/
structure Loose (K : PySem.W.Frag) (H : Hp) (g : G) (p : Addr) (d : D) : Prop where
  nm : p ∉ g.μ
  no : p ∉ g.ω
  nf : g.F p = none
  at_ : ownAt K H g.F g.μ p d
structure Loose0 (H : Hp) (g : G) (p : Addr) : Prop where
  nm : p ∉ g.μ
  no : p ∉ g.ω
  nf : g.F p = none
  hp : H p ≠ none
theorem Loose.to0 (L : Loose K H g p d) : Loose0 H g p := ⟨L.nm, L.no, L.nf, by obtain ⟨o, ho⟩ := ownAt_some L.at_; rw [ho]; simp⟩
theorem SI.loose (s : SI K σ H g env S) (hp : H p = none) {o : HO} (r : ownAt K (upd H p o) g.F g.μ p d) : Loose K (upd H p o) g p d := by
  refine ⟨fun z => s.sg.mup z hp, fun z => s.omp p z hp, ?_, r⟩
  cases e : g.F p with
  | none => rfl
  | some u => rw [s.sg.sub p u e] at hp; cases hp
/-- freezing -/
def G.frz (g : G) (H : Hp) (p : Addr) : G := { g with F := fun a => if a = p then H p else g.F a }
theorem frzF_le (nf : g.F p = none) : LeF g.F (g.frz H p).F := fun a o h => by
  show (if a = p then H p else g.F a) = some o
  by_cases e : a = p
  · rw [e, nf] at h; cases h
  · rw [if_neg e]; exact h
theorem rep_frz (hs : LeF g.F H) (r : ownAt K H g.F g.μ p d) (nf : g.F p = none) : rep K (g.frz H p).F g.μ d (.ref p) := by
  have le := frzF_le (H := H) nf
  have at_ : (g.frz H p).F p = H p := if_pos rfl
  cases d with
  | lst l => obtain ⟨xs, a, z, b⟩ := r; simp only [rep]; exact ⟨p, xs, rfl, at_.trans a, z, repL_mono le (List.prefix_refl _) _ _ b⟩
  | dk ks vs => obtain ⟨xs, a, z, n, s, b⟩ := r; simp only [rep]; exact ⟨p, xs, rfl, .inl (at_.trans a), z, n, s, repL_mono le (List.prefix_refl _) _ _ b⟩
  | dt ks vs => obtain ⟨xs, a, z, n, s, b⟩ := r; simp only [rep]; exact ⟨p, xs, rfl, .inl (at_.trans a), z, n, s, repL_mono le (List.prefix_refl _) _ _ b⟩
  | obj c ns vs => obtain ⟨dx, fs, a, z, s, b⟩ := r; simp only [rep]; exact ⟨p, dx, fs, rfl, at_.trans a, z, s, repL_mono le (List.prefix_refl _) _ _ b⟩
  | _ => exact r.elim
theorem SG.frz (s : SG K H g S) (nm : p ∉ g.μ) (hp : H p ≠ none) (nf : g.F p = none) : SG K H (g.frz H p) S := by
  refine ⟨fun a o h => ?_, s.stl, fun k d a h1 h2 => ?_, fun k a h1 h2 => ?_, s.mund⟩
  · have h' : (if a = p then H p else g.F a) = some o := h
    by_cases e : a = p
    · rw [if_pos e] at h'; rw [e]; exact h'
    · rw [if_neg e] at h'; exact s.sub a o h'
  · obtain ⟨z, r⟩ := s.st k d a h1 h2
    have ne : a ≠ p := fun e => nm (e ▸ List.mem_of_getElem? h2)
    exact ⟨(if_neg ne).trans z, ownAt_mono r rfl (frzF_le nf) (List.prefix_refl _)⟩
  · show (if a = p then H p else g.F a) ≠ none
    by_cases e : a = p
    · rw [if_pos e]; exact hp
    · rw [if_neg e]; exact s.dead k a h1 h2
theorem Nx.frz (hn : H p = none ∨ p ∈ g.μ ∨ p ∈ g.ω) (nf : g.F p = none) {H₁ : Hp} (n : Nx H g H₁ g') (nf' : g'.F p = none) : Nx H g H₁ (g'.frz H₁ p) := by
  refine ⟨n.keep, n.stay, n.grow.trans (frzF_le nf'), fun a o h e => ?_, n.pre, n.nmu, n.nom⟩
  have h' : (if a = p then H₁ p else g'.F a) = some o := h
  by_cases e' : a = p
  · rw [e']; exact hn
  · rw [if_neg e'] at h'; exact n.new a o h' e
theorem SI.frz (s : SI K σ H g env S) (L : Loose0 H g p) : SI K σ H (g.frz H p) env S := by
  refine ⟨s.sg.frz L.nm L.hp L.nf, s.len, fun j t h => ?_, s.dist, s.omp⟩
  have q := s.slot j t h
  cases t with
  | un => exact trivial
  | dat d =>
    obtain ⟨v, e, r⟩ := q
    exact ⟨v, e, rep_mono (frzF_le L.nf) (List.prefix_refl _) _ _ r⟩
  | own d =>
    obtain ⟨a, e, h1, h2, h3, r⟩ := q
    have ne : a ≠ p := fun z => L.no (z ▸ h1)
    exact ⟨a, e, h1, h2, (if_neg ne).trans h3, ownAt_mono r rfl (frzF_le L.nf) (List.prefix_refl _)⟩
/-- slots are set -/
theorem set_get {α : Type} {l : List α} {i j : Nat} {a s : α} (h : (l.set i a)[j]? = some s) : (j = i ∧ s = a) ∨ (j ≠ i ∧ l[j]? = some s) := by
  by_cases e : j = i
  · subst e
    by_cases hl : j < l.length
    · rw [List.getElem?_set_self hl] at h; cases h; exact .inl ⟨rfl, rfl⟩
    · rw [List.getElem?_eq_none (by simpa using hl)] at h; cases h
  · rw [List.getElem?_set_ne (Ne.symm e)] at h
    exact .inr ⟨e, h⟩
theorem SI.setDat {v : V} (s : SI K σ H g env S) (r : rep K g.F g.μ d v) : SI K (σ.set i (some v)) H g (env.set i (.dat d)) S := by
  have own' : ∀ j, IsOwn (env.set i (.dat d)) j → j ≠ i ∧ IsOwn env j := fun j ⟨d', h⟩ => by
    rcases set_get h with ⟨_, e⟩ | ⟨e, h⟩
    · cases e
    · exact ⟨e, d', h⟩
  refine ⟨s.sg, by rw [List.length_set, List.length_set, s.len], fun j t h => ?_, fun j k a h1 h2 h3 h4 => ?_, s.omp⟩
  · have hl : j < σ.length := by
      have := (List.getElem?_eq_some_iff.mp h).1
      rw [List.length_set] at this
      rw [← s.len]; exact this
    rcases set_get h with ⟨e, e2⟩ | ⟨e, h⟩
    · subst e; subst e2
      exact ⟨v, List.getElem?_set_self hl, r⟩
    · rw [List.getElem?_set_ne (Ne.symm e)]
      exact s.slot j t h
  · obtain ⟨n1, o1⟩ := own' j h1
    obtain ⟨n2, o2⟩ := own' k h2
    rw [List.getElem?_set_ne (Ne.symm n1)] at h3
    rw [List.getElem?_set_ne (Ne.symm n2)] at h4
    exact s.dist j k a o1 o2 h3 h4
def G.hold (g : G) (p : Addr) : G := { g with ω := p :: g.ω }
theorem SI.setOwn (s : SI K σ H g env S) (L : Loose K H g p d) : SI K (σ.set i (some (.ref p))) H (g.hold p) (env.set i (.own d)) S := by
  have own' : ∀ j, IsOwn (env.set i (.own d)) j → j = i ∨ (j ≠ i ∧ IsOwn env j) := fun j ⟨d', h⟩ => by
    rcases set_get h with ⟨e, _⟩ | ⟨e, h⟩
    · exact .inl e
    · exact .inr ⟨e, d', h⟩
  have el : ∀ j, IsOwn env j → ∀ a, σ[j]? = some (some (.ref a)) → a ∈ g.ω := fun j ⟨d', h⟩ a ha => by
    obtain ⟨b, e, h1, _⟩ := s.slot j _ h
    rw [e] at ha; cases ha; exact h1
  have hi : ∀ j (a : Addr), j = i → (σ.set i (some (.ref p)))[j]? = some (some (.ref a)) → a = p := fun j a e h => by
    rcases set_get h with ⟨_, z⟩ | ⟨z, _⟩
    · cases z; rfl
    · exact absurd e z
  obtain ⟨o, ho⟩ := ownAt_some L.at_
  refine ⟨⟨s.sg.sub, s.sg.stl, s.sg.st, s.sg.dead, s.sg.mund⟩, by rw [List.length_set, List.length_set, s.len], fun j t h => ?_, fun j k a h1 h2 h3 h4 => ?_, fun a h => ?_⟩
  · have hl : j < σ.length := by
      have := (List.getElem?_eq_some_iff.mp h).1
      rw [List.length_set] at this
      rw [← s.len]; exact this
    rcases set_get h with ⟨e, e2⟩ | ⟨e, h⟩
    · subst e; subst e2
      exact ⟨p, List.getElem?_set_self hl, List.mem_cons_self, L.nm, L.nf, L.at_⟩
    · rw [List.getElem?_set_ne (Ne.symm e)]
      have q := s.slot j t h
      cases t with
      | un => exact trivial
      | dat d => exact q
      | own d =>
        obtain ⟨a, e, h1, h2, h3, r⟩ := q
        exact ⟨a, e, List.mem_cons_of_mem _ h1, h2, h3, r⟩
  · rcases own' j h1 with e1 | ⟨n1, o1⟩
    · rcases own' k h2 with e2 | ⟨n2, o2⟩
      · rw [e1, e2]
      · have ea := hi j a e1 h3
        rw [List.getElem?_set_ne (Ne.symm n2)] at h4
        exact absurd (ea ▸ el k o2 a h4) L.no
    · rw [List.getElem?_set_ne (Ne.symm n1)] at h3
      rcases own' k h2 with e2 | ⟨n2, o2⟩
      · have ea := hi k a e2 h4
        exact absurd (ea ▸ el j o1 a h3) L.no
      · rw [List.getElem?_set_ne (Ne.symm n2)] at h4
        exact s.dist j k a o1 o2 h3 h4
  · rcases List.mem_cons.mp h with e | h
    · rw [e, ho]; simp
    · exact s.omp a h
theorem Nx.hold {H₁ : Hp} (n : Nx H g H₁ g') (hp : H p = none) : Nx H g H₁ (g'.hold p) :=
  ⟨n.keep, n.stay, n.grow, n.new, n.pre, n.nmu, fun a h => by
    rcases List.mem_cons.mp h with e | h
    · rw [e]; exact .inr (.inl hp)
    · exact n.nom a h⟩
/-- forgetting -/
def Sub : Env' → Env' → Prop
  | [], [] => True
  | s :: e, t :: f => (t = .un ∨ s = t) ∧ Sub e f
  | _, _ => False
theorem Sub.len : ∀ {e f : Env'}, Sub e f → f.length = e.length
  | [], [], _ => rfl
  | _ :: _, _ :: _, h => by simp [Sub.len h.2]
  | [], _ :: _, h => h.elim
  | _ :: _, [], h => h.elim
theorem Sub.get : ∀ {e f : Env'}, Sub e f → ∀ {i : Nat} {t : SL}, f[i]? = some t → t = .un ∨ e[i]? = some t
  | [], [], _, i, t, h => by simp at h
  | s :: e, u :: f, hs, i, t, h => by
    cases i with
    | zero =>
      simp at h; subst h
      rcases hs.1 with z | z
      · exact .inl z
      · exact .inr (by simp [z])
    | succ i => exact Sub.get (i := i) hs.2 (by simpa using h)
  | [], _ :: _, h, _, _, _ => h.elim
  | _ :: _, [], h, _, _, _ => h.elim
theorem Sub.refl : ∀ (e : Env'), Sub e e
  | [] => trivial
  | _ :: e => ⟨.inr rfl, Sub.refl e⟩
theorem SI.weak (s : SI K σ H g env S) (h : Sub env env') : SI K σ H g env' S := by
  have ow : ∀ j, IsOwn env' j → IsOwn env j := fun j ⟨d, e⟩ => by
    rcases h.get e with z | z
    · cases z
    · exact ⟨d, z⟩
  refine ⟨s.sg, h.len.trans s.len, fun j t e => ?_, fun j k a h1 h2 => s.dist j k a (ow j h1) (ow k h2), s.omp⟩
  rcases h.get e with z | z
  · rw [z]; exact trivial
  · exact s.slot j t z
/-- a slot's object is frozen -/
theorem SI.frzSlot (s : SI K σ H g env S) (h : env[i]? = some (.own d)) : ∃ p, SI K σ H (g.frz H p) (env.set i (.dat d)) S ∧ p ∈ g.ω ∧ g.F p = none := by
  obtain ⟨p, e, h1, h2, h3, r⟩ := s.slot i _ h
  obtain ⟨o, ho⟩ := ownAt_some r
  refine ⟨p, ⟨s.sg.frz h2 (by rw [ho]; simp) h3, by rw [List.length_set, s.len], fun j t hj => ?_, fun j k a o1 o2 e1 e2 => ?_, s.omp⟩, h1, h3⟩
  · rcases set_get hj with ⟨ej, e2⟩ | ⟨ej, hj⟩
    · subst ej; subst e2
      exact ⟨_, e, rep_frz s.sg.sub r h3⟩
    · have q := s.slot j t hj
      cases t with
      | un => exact trivial
      | dat d =>
        obtain ⟨v, e, r⟩ := q
        exact ⟨v, e, rep_mono (frzF_le h3) (List.prefix_refl _) _ _ r⟩
      | own d' =>
        obtain ⟨a, e', g1, g2, g3, r'⟩ := q
        have ne : a ≠ p := fun z => ej (s.dist j i p ⟨_, hj⟩ ⟨_, h⟩ (z ▸ e') e)
        exact ⟨a, e', g1, g2, (if_neg ne).trans g3, ownAt_mono r' rfl (frzF_le h3) (List.prefix_refl _)⟩
  · have ow : ∀ j, IsOwn (env.set i (.dat d)) j → IsOwn env j := fun j ⟨d', hj⟩ => by
      rcases set_get hj with ⟨_, z⟩ | ⟨_, z⟩
      · cases z
      · exact ⟨d', z⟩
    exact s.dist j k a (ow j o1) (ow k o2) e1 e2
/-- a slot's object is written -/
theorem SI.writeOwn {d' : D} {o' : HO} (s : SI K σ H g env S) (h : env[i]? = some (.own d)) (hp : σ[i]? = some (some (.ref p))) (r' : ownAt K (upd H p o') g.F g.μ p d') : SI K σ (upd H p o') g (env.set i (.own d')) S ∧ Nx H g (upd H p o') g := by
  obtain ⟨p', e, h1, h2, h3, r⟩ := s.slot i _ h
  rw [e] at hp; cases hp
  obtain ⟨o, ho⟩ := ownAt_some r
  refine ⟨⟨⟨fun a u q => ?_, s.sg.stl, fun k d2 a q1 q2 => ?_, s.sg.dead, s.sg.mund⟩, by rw [List.length_set, s.len], fun j t hj => ?_, fun j k a o1 o2 e1 e2 => ?_, fun a q z => ?_⟩, ?_⟩
  · have ne : a ≠ p := fun z => by rw [z, h3] at q; cases q
    rw [upd_ne ne]; exact s.sg.sub a u q
  · have ne : a ≠ p := fun z => h2 (z ▸ List.mem_of_getElem? q2)
    obtain ⟨z, r2⟩ := s.sg.st k d2 a q1 q2
    exact ⟨z, ownAt_mono r2 (upd_ne ne) (LeF.refl _) (List.prefix_refl _)⟩
  · rcases set_get hj with ⟨ej, e2⟩ | ⟨ej, hj⟩
    · subst ej; subst e2
      exact ⟨p, e, h1, h2, h3, r'⟩
    · have q := s.slot j t hj
      cases t with
      | un => exact trivial
      | dat d => exact q
      | own d2 =>
        obtain ⟨a, e', g1, g2, g3, r2⟩ := q
        have ne : a ≠ p := fun z => ej (s.dist j i p ⟨_, hj⟩ ⟨_, h⟩ (z ▸ e') e)
        exact ⟨a, e', g1, g2, g3, ownAt_mono r2 (upd_ne ne) (LeF.refl _) (List.prefix_refl _)⟩
  · have ow : ∀ j, IsOwn (env.set i (.own d')) j → IsOwn env j := fun j ⟨d2, hj⟩ => by
      rcases set_get hj with ⟨z, _⟩ | ⟨_, z⟩
      · exact z ▸ ⟨d, h⟩
      · exact ⟨d2, z⟩
    exact s.dist j k a (ow j o1) (ow k o2) e1 e2
  · by_cases ea : a = p
    · rw [ea, upd_same] at z; cases z
    · rw [upd_ne ea] at z; exact s.omp a q z
  · refine ⟨fun a u q _ q2 => ?_, fun a q => ?_, LeF.refl _, fun a o q z => (by rw [z] at q; cases q), List.prefix_refl _, fun _ q => .inl q, fun _ q => .inl q⟩
    · have ne : a ≠ p := fun z => q2 (z ▸ h1)
      rw [upd_ne ne]; exact q
    · by_cases ea : a = p
      · rw [ea, upd_same]; simp
      · rw [upd_ne ea]; exact q
/-- a store's object is written -/
theorem SI.writeSt {d d' : D} {o' : HO} {k : Nat} (s : SI K σ H g env S) (h : S[k]? = some (some d)) (hp : g.μ[k]? = some p) (r' : ownAt K (upd H p o') g.F g.μ p d') : SI K σ (upd H p o') g env (S.set k (some d')) ∧ Nx H g (upd H p o') g := by
  obtain ⟨h3, r⟩ := s.sg.st k d p h hp
  have hm : p ∈ g.μ := List.mem_of_getElem? hp
  refine ⟨⟨⟨fun a u q => ?_, by rw [List.length_set]; exact s.sg.stl, fun l d2 a q1 q2 => ?_, fun l a q1 q2 => ?_, s.sg.mund⟩, s.len, fun j t hj => ?_, s.dist, fun a q z => ?_⟩, ?_⟩
  · have ne : a ≠ p := fun z => by rw [z, h3] at q; cases q
    rw [upd_ne ne]; exact s.sg.sub a u q
  · rcases set_get q1 with ⟨el, e2⟩ | ⟨el, q1⟩
    · cases e2
      subst el
      rw [hp] at q2; cases q2
      exact ⟨h3, r'⟩
    · have ne : a ≠ p := fun z => el (s.sg.mund l k p (z ▸ q2) hp)
      obtain ⟨z, r2⟩ := s.sg.st l d2 a q1 q2
      exact ⟨z, ownAt_mono r2 (upd_ne ne) (LeF.refl _) (List.prefix_refl _)⟩
  · rcases set_get q1 with ⟨el, e2⟩ | ⟨el, q1⟩
    · cases e2
    · exact s.sg.dead l a q1 q2
  · have q := s.slot j t hj
    cases t with
    | un => exact trivial
    | dat d => exact q
    | own d2 =>
      obtain ⟨a, e', g1, g2, g3, r2⟩ := q
      have ne : a ≠ p := fun z => g2 (z ▸ hm)
      exact ⟨a, e', g1, g2, g3, ownAt_mono r2 (upd_ne ne) (LeF.refl _) (List.prefix_refl _)⟩
  · by_cases ea : a = p
    · rw [ea, upd_same] at z; cases z
    · rw [upd_ne ea] at z; exact s.omp a q z
  · refine ⟨fun a u q q1 _ => ?_, fun a q => ?_, LeF.refl _, fun a o q z => (by rw [z] at q; cases q), List.prefix_refl _, fun _ q => .inl q, fun _ q => .inl q⟩
    · have ne : a ≠ p := fun z => q1 (z ▸ hm)
      rw [upd_ne ne]; exact q
    · by_cases ea : a = p
      · rw [ea, upd_same]; simp
      · rw [upd_ne ea]; exact q
/-- a loose object becomes the store's -/
def G.keepS (g : G) (p : Addr) : G := { g with μ := g.μ ++ [p] }
theorem SI.alloc (s : SI K σ H g env S) (L : Loose K H g p d) : SI K σ H (g.keepS p) env (S ++ [some d]) := by
  have pre : g.μ <+: (g.keepS p).μ := ⟨[p], rfl⟩
  have at_ : ∀ (k : Nat) (a : Addr), (g.μ ++ [p])[k]? = some a → (k < g.μ.length ∧ g.μ[k]? = some a) ∨ (k = g.μ.length ∧ a = p) := fun k a h => by
    by_cases hk : k < g.μ.length
    · rw [List.getElem?_append_left hk] at h; exact .inl ⟨hk, h⟩
    · rw [List.getElem?_append_right (by omega)] at h
      have e : k - g.μ.length = 0 := by
        have := (List.getElem?_eq_some_iff.mp h).1
        simp at this; omega
      rw [e] at h
      simp at h
      exact .inr ⟨by omega, h.symm⟩
  refine ⟨⟨s.sg.sub, by rw [List.length_append, s.sg.stl]; show _ = (g.μ ++ [p]).length; simp, fun k d2 a q1 q2 => ?_, fun k a q1 q2 => ?_, fun k l a q1 q2 => ?_⟩, s.len, fun j t hj => ?_, s.dist, s.omp⟩
  · rcases at_ k a q2 with ⟨hk, e⟩ | ⟨hk, e⟩
    · rw [List.getElem?_append_left (by rw [s.sg.stl]; exact hk)] at q1
      obtain ⟨z, r⟩ := s.sg.st k d2 a q1 e
      exact ⟨z, ownAt_mono r rfl (LeF.refl _) pre⟩
    · rw [List.getElem?_append_right (by rw [s.sg.stl]; omega)] at q1
      have e0 : k - S.length = 0 := by rw [s.sg.stl]; omega
      rw [e0] at q1
      simp at q1
      rw [e, ← q1]
      exact ⟨L.nf, ownAt_mono L.at_ rfl (LeF.refl _) pre⟩
  · rcases at_ k a q2 with ⟨hk, e⟩ | ⟨hk, e⟩
    · rw [List.getElem?_append_left (by rw [s.sg.stl]; exact hk)] at q1
      exact s.sg.dead k a q1 e
    · rw [List.getElem?_append_right (by rw [s.sg.stl]; omega)] at q1
      have e0 : k - S.length = 0 := by rw [s.sg.stl]; omega
      rw [e0] at q1
      simp at q1
  · rcases at_ k a q1 with ⟨hk, e⟩ | ⟨hk, e⟩
    · rcases at_ l a q2 with ⟨hl, e2⟩ | ⟨hl, e2⟩
      · exact s.sg.mund k l a e e2
      · exact absurd (e2 ▸ List.mem_of_getElem? e) L.nm
    · rcases at_ l a q2 with ⟨hl, e2⟩ | ⟨hl, e2⟩
      · exact absurd (e ▸ List.mem_of_getElem? e2) L.nm
      · omega
  · have q := s.slot j t hj
    cases t with
    | un => exact trivial
    | dat d =>
      obtain ⟨v, e, r⟩ := q
      exact ⟨v, e, rep_mono (LeF.refl _) pre _ _ r⟩
    | own d2 =>
      obtain ⟨a, e', g1, g2, g3, r2⟩ := q
      refine ⟨a, e', g1, fun z => ?_, g3, ownAt_mono r2 rfl (LeF.refl _) pre⟩
      rcases List.mem_append.mp z with z | z
      · exact g2 z
      · have : a = p := by simpa using z
        exact L.no (this ▸ g1)
theorem Nx.keepS {H₁ : Hp} (n : Nx H g H₁ g') (hp : H p = none) : Nx H g H₁ (g'.keepS p) :=
  ⟨n.keep, n.stay, n.grow, n.new, n.pre.trans ⟨[p], rfl⟩, fun a h => by
    rcases List.mem_append.mp h with h | h
    · exact n.nmu a h
    · have : a = p := by simpa using h
      rw [this]; exact .inr (.inl hp), n.nom⟩
/-- behind a call: the callee ran with no slots of ours -/
def G.bare (g : G) : G := { g with ω := [] }
theorem SG.bare (s : SG K H g S) : SG K H g.bare S := ⟨s.sub, s.stl, s.st, s.dead, s.mund⟩
theorem Nx.call (n : Nx H g.bare H' g') : Nx H g H' { g' with ω := g.ω } :=
  ⟨fun a o h h1 _ => n.keep a o h h1 (by simp [G.bare]), n.stay, n.grow, fun a o h e => by
    rcases n.new a o h e with z | z | z
    · exact .inl z
    · exact .inr (.inl z)
    · exact absurd z (by simp [G.bare]), n.pre, fun a h => by
    rcases n.nmu a h with z | z | z
    · exact .inl z
    · exact .inr (.inl z)
    · exact absurd z (by simp [G.bare]), fun a h => .inl h⟩
theorem SI.call (s : SI K σ H g env S) (n : Nx H g.bare H' g') (sg : SG K H' g' S') : SI K σ H' { g' with ω := g.ω } env S' := by
  refine ⟨⟨sg.sub, sg.stl, sg.st, sg.dead, sg.mund⟩, s.len, fun j t h => ?_, s.dist, fun a h => n.stay a (s.omp a h)⟩
  have q := s.slot j t h
  cases t with
  | un => exact trivial
  | dat d =>
    obtain ⟨v, e, r⟩ := q
    exact ⟨v, e, rep_mono n.grow n.pre _ _ r⟩
  | own d =>
    obtain ⟨a, e, h1, h2, h3, r⟩ := q
    obtain ⟨o, ho⟩ := ownAt_some r
    have hk := n.keep a o ho h2 (by simp [G.bare])
    refine ⟨a, e, h1, fun z => ?_, ?_, ownAt_mono r (hk.trans ho.symm) n.grow n.pre⟩
    · rcases n.nmu a z with q | q | q
      · exact h2 q
      · rw [ho] at q; cases q
      · exact absurd q (by simp [G.bare])
    · cases q : g'.F a with
      | none => rfl
      | some u =>
        rcases n.new a u q h3 with z | z | z
        · rw [ho] at z; cases z
        · exact absurd z h2
        · exact absurd z (by simp [G.bare])
end
/-! ### the judgements -/
/-- an exception's own dict -/
def XdAt (K : PySem.W.Frag) (H : Hp) (g : G) (dx : Addr) (ns : List Str) (vs : List D) : Prop := ∃ fs, H dx = some (.xd fs) ∧ fs.map (·.1) = ns ∧ repL K g.F g.μ vs (fs.map (·.2))
/-- behind an expression: the slots are as they were -/
def Pst {α : Type} (K : PySem.W.Frag) (W : WX) (σ : L2.St) (H : Hp) (g : G) (env : Env') (Q : α → Store → Hp → G → Prop) : Res α → Prop
  | .ok a S' => ∀ H' g', Nx H g H' g' → SI K σ H' g' env S' → Q a S' H' g'
  | .exc c ns vs S' => ∀ H' g' dx, Nx H g H' g' → SI K σ H' g' env S' → XdAt K H' g' dx ns vs → W (.ref (He.ga K c)) (some dx) σ H'
  | .bad => False
section
variable {α β : Type} {K : PySem.W.Frag} {W : WX} {σ : L2.St} {H H' : Hp} {g g' : G} {env : Env'} {S : Store} {Q Q' : α → Store → Hp → G → Prop}
theorem Pst.step {r : Res α} (h : Pst K W σ H g env Q r) (n : Nx H g H' g') : Pst K W σ H' g' env Q r := by
  cases r with
  | ok a S' => exact fun H2 g2 n2 s2 => h H2 g2 (n.trans n2) s2
  | exc c ns vs S' => exact fun H2 g2 dx n2 s2 => h H2 g2 dx (n.trans n2) s2
  | bad => exact h
theorem Pst.mono {r : Res α} (h : Pst K W σ H g env Q r) (f : ∀ a S' H' g', Nx H g H' g' → SI K σ H' g' env S' → Q a S' H' g' → Q' a S' H' g') : Pst K W σ H g env Q' r := by
  cases r with
  | ok a S' => exact fun H2 g2 n2 s2 => f _ _ _ _ n2 s2 (h H2 g2 n2 s2)
  | exc c ns vs S' => exact h
  | bad => exact h
theorem Pst.bind {m : M β} {f : β → M α} (h : Pst K W σ H g env Q ((m.bind f) S)) : Pst K W σ H g env (fun b S1 H1 g1 => Pst K W σ H1 g1 env Q (f b S1)) (m S) := by
  unfold M.bind at h
  cases e : m S with
  | ok b S1 => rw [e] at h; exact fun H2 g2 n2 s2 => Pst.step (r := f b S1) h n2
  | exc c ns vs S' => rw [e] at h; exact h
  | bad => rw [e] at h; exact h
end
def TV (K : PySem.W.Frag) (W : WX) (env : Env') (m : M D) : TE := fun σ H Q => ∃ g S, SI K σ H g env S ∧ Pst K W σ H g env (fun d _ H' g' => ∀ v, rep K g'.F g'.μ d v → Q v H') (m S)
/-- a new object -/
def TN (K : PySem.W.Frag) (W : WX) (env : Env') (m : M D) : TE := fun σ H Q => ∃ g S, SI K σ H g env S ∧ Pst K W σ H g env (fun d _ H' g' => ∀ p, Loose K H' g' p d → H p = none → Q (.ref p) H') (m S)
/-- a test -/
def TTb (K : PySem.W.Frag) (W : WX) (env : Env') (m : M Bool) : L2.TT := fun σ H Q => ∃ g S, SI K σ H g env S ∧ Pst K W σ H g env (fun b _ H' _ => Q b H') (m S)
/-- an argument list -/
def TAs (K : PySem.W.Frag) (W : WX) (env : Env') (m : M (List D)) : TA := fun σ H Q => ∃ g S, SI K σ H g env S ∧ Pst K W σ H g env (fun ds _ H' g' => ∀ vs, repL K g'.F g'.μ ds vs → Q vs H') (m S)
inductive Out (τ β : Type) where
  | next (t : τ) | ret (d : D) | brk (b : β) | cnt (b : β)
/-- what a def hands back: data (rk = false) or an object of its caller's own (rk = true) -/
def RetOk (K : PySem.W.Frag) (rk : Bool) (H : Hp) (g : G) (d : D) (S' : Store) (Q : VK) : Prop :=
  match rk with
  | false => ∀ v H' g', Nx H g H' g' → SG K H' g' S' → rep K g'.F g'.μ d v → Q v H'
  | true => ∀ p H' g', Nx H g H' g' → SG K H' g' S' → p ∉ g'.μ → g'.F p = none → ownAt K H' g'.F g'.μ p d → H p = none → Q (.ref p) H'
/-- behind a block -/
def PstB {τ β : Type} (K : PySem.W.Frag) (W : WX) (rk : Bool) (vx : Env') (vb : β → Env') (vw : τ → Env') (E : Ends) (σ : L2.St) (H : Hp) (g : G) : Res (Out τ β) → Prop
  | .ok (.next t) S' => ∀ σ' H' g', Nx H g H' g' → SI K σ' H' g' (vw t) S' → E.nx σ' H'
  | .ok (.brk b) S' => ∀ σ' H' g', Nx H g H' g' → SI K σ' H' g' (vb b) S' → E.bk σ' H'
  | .ok (.cnt b) S' => ∀ σ' H' g', Nx H g H' g' → SI K σ' H' g' (vb b) S' → E.ct σ' H'
  | .ok (.ret d) S' => RetOk K rk H g d S' E.rt
  | .exc c ns vs S' => ∀ σ' H' g' dx, Nx H g H' g' → SI K σ' H' g' vx S' → XdAt K H' g' dx ns vs → W (.ref (He.ga K c)) (some dx) σ' H'
  | .bad => False
def TB {τ β : Type} (K : PySem.W.Frag) (W : WX) (rk : Bool) (vx : Env') (vb : β → Env') (env : Env') (vw : τ → Env') (m : M (Out τ β)) : TS := fun E σ H => ∃ g S, SI K σ H g env S ∧ PstB K W rk vx vb vw E σ H g (m S)
/-- behind a simple statement -/
def PstS {α : Type} (K : PySem.W.Frag) (W : WX) (vx : Env') (en : α → Env') (E : Ends) (H : Hp) (g : G) : Res α → Prop
  | .ok a S' => ∀ σ' H' g', Nx H g H' g' → SI K σ' H' g' (en a) S' → E.nx σ' H'
  | .exc c ns vs S' => ∀ σ' H' g' dx, Nx H g H' g' → SI K σ' H' g' vx S' → XdAt K H' g' dx ns vs → W (.ref (He.ga K c)) (some dx) σ' H'
  | .bad => False
/-- a simple statement: its slots behind it -/
def TSim {α : Type} (K : PySem.W.Frag) (W : WX) (vx : Env') (env : Env') (en : α → Env') (m : M α) : TS := fun E σ H => ∃ g S, SI K σ H g env S ∧ PstS K W vx en E H g (m S)
def VE (X : Cx) (W : WX) (env : Env') (e : Expr) (m : M D) : Prop := PE X e (TV X.K W env m)
def VN (X : Cx) (W : WX) (env : Env') (e : Expr) (m : M D) : Prop := PE X e (TN X.K W env m)
def VT (X : Cx) (W : WX) (env : Env') (e : Expr) (m : M Bool) : Prop := PT X e (TTb X.K W env m)
def VA (X : Cx) (W : WX) (env : Env') (es : List Expr) (m : M (List D)) : Prop := PA X es (TAs X.K W env m)
def VS {α : Type} (X : Cx) (W : WX) (vx : Env') (env : Env') (st : Stmt) (en : α → Env') (m : M α) : Prop := PS X st (TSim X.K W vx env en m)
def VB {τ β : Type} (X : Cx) (W : WX) (rk : Bool) (vx : Env') (vb : β → Env') (env : Env') (st : List Stmt) (vw : τ → Env') (m : M (Out τ β)) : Prop := PSs X st (TB X.K W rk vx vb env vw m)
def VO {τ β : Type} (X : Cx) (W : WX) (rk : Bool) (vx : Env') (vb : β → Env') (env : Env') (st : Stmt) (vw : τ → Env') (m : M (Out τ β)) : Prop := PS X st (TB X.K W rk vx vb env vw m)
/-- a def's promise -/
def spOf (K : PySem.W.Frag) (n : Nat) (rk : Bool) (m : List D → M D) : Sp := fun vs H Q E => ∃ g S ds, g.ω = [] ∧ SG K H g S ∧ repL K g.F g.μ ds vs ∧ ds.length = n ∧ match m ds S with
  | .ok d S' => RetOk K rk H g d S' Q
  | .exc c ns vs S' => ∀ H' g' dx, Nx H g H' g' → SG K H' g' S' → XdAt K H' g' dx ns vs → E (.ref (He.ga K c)) (some dx) H'
  | .bad => False
end VM
namespace VM
open PySem PySem.Spec PyProof.Rows L2
theorem PE.imp {X : Cx} {e : Expr} {t t' : TE} (h : PE X e t) (f : ∀ σ H Q, t' σ H Q → t σ H Q) : PE X e t' := ⟨fun pins s σ H Q I q => h.run pins s σ H Q I (f σ H Q q)⟩
theorem PT.imp {X : Cx} {e : Expr} {t t' : L2.TT} (h : PT X e t) (f : ∀ σ H Q, t' σ H Q → t σ H Q) : PT X e t' := ⟨fun pins s σ H Q I q => h.run pins s σ H Q I (f σ H Q q)⟩
theorem PW.imp {X : Cx} {e : Expr} {t t' : L2.TT} (h : PW X e t) (f : ∀ σ H Q, t' σ H Q → t σ H Q) : PW X e t' := ⟨fun w pins s σ H Q I q => h.run w pins s σ H Q I (f σ H Q q)⟩
theorem PA.imp {X : Cx} {es : List Expr} {t t' : TA} (h : PA X es t) (f : ∀ σ H Q, t' σ H Q → t σ H Q) : PA X es t' := ⟨fun p pins s σ H Q I q => h.run p pins s σ H Q I (f σ H Q q)⟩
theorem PS.imp {X : Cx} {e : Stmt} {t t' : TS} (h : PS X e t) (f : ∀ E σ H, t' E σ H → t E σ H) : PS X e t' := ⟨fun pins s σ H E I q => h.run pins s σ H E I (f E σ H q)⟩
theorem PSs.imp {X : Cx} {e : List Stmt} {t t' : TS} (h : PSs X e t) (f : ∀ E σ H, t' E σ H → t E σ H) : PSs X e t' := ⟨fun pins s σ H E I q => h.run pins s σ H E I (f E σ H q)⟩
theorem PSs.ex {α : Type} {X : Cx} {e : List Stmt} {t : α → TS} (h : ∀ a, PSs X e (t a)) : PSs X e (fun E σ H => ∃ a, t a E σ H) := ⟨fun pins s σ H E I ⟨a, q⟩ => (h a).run pins s σ H E I q⟩
section
variable {X : Cx} {W : WX} {rk : Bool} {vx env env' : Env'} {K : PySem.W.Frag} {σ : L2.St} {H H' : Hp} {g g' : G} {S S' : Store}
/-! ### values that are read: data, or what a slot owns -/
def repR (K : PySem.W.Frag) (σ : L2.St) (g : G) (env : Env') (d : D) (v : V) : Prop := rep K g.F g.μ d v ∨ ∃ j : Nat, env[j]? = some (SL.own d) ∧ σ[j]? = some (some v)
theorem repR.mono {d : D} {v : V} (r : repR K σ g env d v) (n : Nx H g H' g') : repR K σ g' env d v := by
  rcases r with r | r
  · exact .inl (rep_mono n.grow n.pre _ _ r)
  · exact .inr r
def TR (K : PySem.W.Frag) (W : WX) (env : Env') (m : M D) : TE := fun σ H Q => ∃ g S, SI K σ H g env S ∧ Pst K W σ H g env (fun d _ H' g' => ∀ v, repR K σ g' env d v → Q v H') (m S)
def VR (X : Cx) (W : WX) (env : Env') (e : Expr) (m : M D) : Prop := PE X e (TR X.K W env m)
theorem VE.r {e : Expr} {m : M D} (h : VE X W env e m) : VR X W env e m := PE.imp h fun σ H Q ⟨g, S, s, p⟩ => ⟨g, S, s, p.mono fun _ _ _ _ _ _ q v r => q v (Or.inl r)⟩
/-- what the readings of things that are read ask of it -/
theorem repR.lst {l : List D} {v : V} (s : SI K σ H g env S) (r : repR K σ g env (.lst l) v) : ∃ p xs, v = .ref p ∧ H p = some (.lst xs) ∧ xs.length ≤ sizeLine ∧ repL K g.F g.μ l xs := by
  rcases r with r | ⟨j, h1, h2⟩
  · simp only [rep] at r
    obtain ⟨p, xs, e, a, z, b⟩ := r
    exact ⟨p, xs, e, s.sg.sub _ _ a, z, b⟩
  · obtain ⟨p, e, _, _, _, r⟩ := s.slot j _ h1
    rw [h2] at e; cases e
    obtain ⟨xs, a, z, b⟩ := r
    exact ⟨p, xs, rfl, a, z, b⟩
theorem repR.tup {l : List D} {v : V} (s : SI K σ H g env S) (r : repR K σ g env (.tup l) v) : ∃ p xs, v = .ref p ∧ H p = some (.tup xs) ∧ xs.length ≤ sizeLine ∧ repL K g.F g.μ l xs := by
  rcases r with r | ⟨j, h1, h2⟩
  · simp only [rep] at r
    obtain ⟨p, xs, e, a, z, b⟩ := r
    exact ⟨p, xs, e, s.sg.sub _ _ a, z, b⟩
  · obtain ⟨p, e, _, _, _, r⟩ := s.slot j _ h1
    exact r.elim
theorem repR.dk {ks : List Key} {vs : List D} {v : V} (s : SI K σ H g env S) (r : repR K σ g env (.dk ks vs) v) : ∃ p kvs, v = .ref p ∧ Rd H p (.dK kvs) ∧ kvs.map (·.1) = ks ∧ ks.Nodup ∧ ks.length ≤ sizeLine ∧ repL K g.F g.μ vs (kvs.map (·.2)) := by
  rcases r with r | ⟨j, h1, h2⟩
  · simp only [rep] at r
    obtain ⟨p, xs, e, a, z⟩ := r
    exact ⟨p, xs, e, s.sg.sub.rd a, z⟩
  · obtain ⟨p, e, _, _, _, r⟩ := s.slot j _ h1
    rw [h2] at e; cases e
    obtain ⟨xs, a, z⟩ := r
    exact ⟨p, xs, rfl, .inl a, z⟩
theorem repR.dt {ks : List (List Key)} {vs : List D} {v : V} (s : SI K σ H g env S) (r : repR K σ g env (.dt ks vs) v) : ∃ p kvs, v = .ref p ∧ Rd H p (.dT kvs) ∧ kvs.map (·.1) = ks ∧ ks.Nodup ∧ ks.length ≤ sizeLine ∧ repL K g.F g.μ vs (kvs.map (·.2)) := by
  rcases r with r | ⟨j, h1, h2⟩
  · simp only [rep] at r
    obtain ⟨p, xs, e, a, z⟩ := r
    exact ⟨p, xs, e, s.sg.sub.rd a, z⟩
  · obtain ⟨p, e, _, _, _, r⟩ := s.slot j _ h1
    rw [h2] at e; cases e
    obtain ⟨xs, a, z⟩ := r
    exact ⟨p, xs, rfl, .inl a, z⟩
theorem own_no {j : Nat} {v : V} {d : D} (s : SI K σ H g env S) (h1 : env[j]? = some (.own d)) : ∃ p, ownAt K H g.F g.μ p d := by
  obtain ⟨p, e, _, _, _, r⟩ := s.slot j _ h1
  exact ⟨p, r⟩
theorem repR.sc {d : D} {v : V} (s : SI K σ H g env S) (r : repR K σ g env d v) (h : ∀ p, ¬ ownAt K H g.F g.μ p d) : rep K g.F g.μ d v := by
  rcases r with r | ⟨j, h1, _⟩
  · exact r
  · obtain ⟨p, q⟩ := own_no (v := v) s h1
    exact absurd q (h p)
theorem repR.int {i : Int} {v : V} (s : SI K σ H g env S) (r : repR K σ g env (.int i) v) : v = .int i := by simpa only [rep] using r.sc s fun p q => q
theorem repR.bl {b : Bool} {v : V} (s : SI K σ H g env S) (r : repR K σ g env (.bl b) v) : v = .bl b := by simpa only [rep] using r.sc s fun p q => q
theorem repR.str {z : Str} {v : V} (s : SI K σ H g env S) (r : repR K σ g env (.str z) v) : v = .str z := by simpa only [rep] using r.sc s fun p q => q
theorem repR.non {v : V} (s : SI K σ H g env S) (r : repR K σ g env .non v) : v = .non := by simpa only [rep] using r.sc s fun p q => q
/-! ### names, constants -/
theorem VE.var {i : Nat} {x : Str} {pos : Pos} {d : D} (h : PE X (.Name x pos) (tVar i)) (he : env[i]? = some (.dat d)) : VE X W env (.Name x pos) (M.pure d) := PE.imp h fun σ H Q ⟨g, S, s, p⟩ => by
  obtain ⟨v, e, r⟩ := s.slot i _ he
  exact ⟨v, e, p H g (Nx.refl _ _) s v r⟩
theorem VR.own {i : Nat} {x : Str} {pos : Pos} {d : D} (h : PE X (.Name x pos) (tVar i)) (he : env[i]? = some (.own d)) : VR X W env (.Name x pos) (M.pure d) := PE.imp h fun σ H Q ⟨g, S, s, p⟩ => by
  obtain ⟨a, e, _⟩ := s.slot i _ he
  exact ⟨.ref a, e, p H g (Nx.refl _ _) s _ (Or.inr ⟨i, he, e⟩)⟩
theorem VE.con {e : Expr} {v : V} {d : D} (h : PE X e (tC v)) (r : ∀ F μ, rep X.K F μ d v) : VE X W env e (M.pure d) := PE.imp h fun σ H Q ⟨g, S, s, p⟩ => p H g (Nx.refl _ _) s v (r _ _)
theorem VE.int {i j pos} : VE X W env (.Constant (.int i) j pos) (M.pure (.int i)) := VE.con pe_int fun _ _ => by simp only [rep]
theorem VE.bl {b j pos} : VE X W env (.Constant (.bool b) j pos) (M.pure (.bl b)) := VE.con pe_bl fun _ _ => by simp only [rep]
theorem VE.non {j pos} : VE X W env (.Constant .none j pos) (M.pure .non) := VE.con pe_non fun _ _ => by simp only [rep]
theorem VE.str {x j pos} : VE X W env (.Constant (.str x) j pos) (M.pure (.str x)) := VE.con pe_str fun _ _ => by simp only [rep]
/-! ### new objects -/
theorem SI.newN {p : Addr} {o : HO} {d : D} (s : SI K σ H g env S) (hp : H p = none) (r : ownAt K (upd H p o) g.F g.μ p d) : Nx H g (upd H p o) g ∧ SI K σ (upd H p o) g env S ∧ Loose K (upd H p o) g p d := ⟨Nx.fresh hp, s.fresh hp, s.loose hp r⟩
theorem Loose.frz {p : Addr} {d : D} {H₀ : Hp} {g₀ : G} (s : SI K σ H g env S) (L : Loose K H g p d) (n : Nx H₀ g₀ H g) (hp : H₀ p = none) : Nx H₀ g₀ H (g.frz H p) ∧ SI K σ H (g.frz H p) env S ∧ rep K (g.frz H p).F (g.frz H p).μ d (.ref p) :=
  ⟨Nx.frz (.inl hp) (by
    cases e : g₀.F p with
    | none => rfl
    | some u => have := n.grow p u e; rw [L.nf] at this; cases this) n L.nf, s.frz L.to0, rep_frz s.sg.sub L.at_ L.nf⟩
/-- a new tuple: frozen at once -/
theorem SI.newT {p : Addr} {l : List D} {xs : List V} (s : SI K σ H g env S) (hp : H p = none) (z : xs.length ≤ sizeLine) (r : repL K g.F g.μ l xs) :
    Nx H g (upd H p (.tup xs)) (g.frz (upd H p (.tup xs)) p) ∧ SI K σ (upd H p (.tup xs)) (g.frz (upd H p (.tup xs)) p) env S ∧ rep K (g.frz (upd H p (.tup xs)) p).F (g.frz (upd H p (.tup xs)) p).μ (.tup l) (.ref p) := by
  have nf : g.F p = none := by
    cases e : g.F p with
    | none => rfl
    | some u => rw [s.sg.sub p u e] at hp; cases hp
  have L : Loose0 (upd H p (.tup xs)) g p := ⟨fun z => s.sg.mup z hp, fun z => s.omp p z hp, nf, by rw [upd_same]; simp⟩
  refine ⟨Nx.frz (.inl hp) nf (Nx.fresh hp) nf, (s.fresh hp).frz L, ?_⟩
  simp only [rep]
  exact ⟨p, xs, rfl, (if_pos rfl).trans upd_same, z, repL_mono (frzF_le nf) (List.prefix_refl _) _ _ r⟩
theorem VE.ofN {e : Expr} {m : M D} (h : VN X W env e m) : VE X W env e m := PE.imp h fun σ H Q ⟨g, S, s, p⟩ => ⟨g, S, s, by
  cases hm : m S with
  | ok d S' =>
    rw [hm] at p
    intro H' g' n s' q L hq
    obtain ⟨n2, s2, r⟩ := L.frz s' n hq
    exact p H' _ n2 s2 _ r
  | exc c ns vs S' => rw [hm] at p; exact p
  | bad => rw [hm] at p; exact p⟩
/-- what a reading with a new object asks -/
theorem newE {o : HO} {d : D} {Q : VK} (s : SI K σ H g env S) (r : ∀ p, H p = none → ownAt K (upd H p o) g.F g.μ p d) (h : Pst K W σ H g env (fun d _ H' g' => ∀ v, rep K g'.F g'.μ d v → Q v H') (.ok d S)) : ∀ p, H p = none → Q (.ref p) (upd H p o) := fun p hp => by
  obtain ⟨n, s1, L⟩ := s.newN hp (r p hp)
  obtain ⟨n2, s2, r2⟩ := L.frz s1 n hp
  exact h _ _ n2 s2 _ r2
theorem newN {o : HO} {d : D} {Q : VK} (s : SI K σ H g env S) (r : ∀ p, H p = none → ownAt K (upd H p o) g.F g.μ p d) (h : Pst K W σ H g env (fun d _ H' g' => ∀ p, Loose K H' g' p d → H p = none → Q (.ref p) H') (.ok d S)) : ∀ p, H p = none → Q (.ref p) (upd H p o) := fun p hp => by
  obtain ⟨n, s1, L⟩ := s.newN hp (r p hp)
  exact h _ _ n s1 _ L hp
theorem own_lst {l : List D} {xs : List V} {p : Addr} (z : xs.length ≤ sizeLine) (r : repL K g.F g.μ l xs) : ownAt K (upd H p (.lst xs)) g.F g.μ p (.lst l) := ⟨xs, upd_same, z, r⟩
theorem newTE {xs : List V} {l : List D} {Q : VK} (s : SI K σ H g env S) (z : xs.length ≤ sizeLine) (r : repL K g.F g.μ l xs) (h : Pst K W σ H g env (fun d _ H' g' => ∀ v, rep K g'.F g'.μ d v → Q v H') (.ok (.tup l) S)) : ∀ p, H p = none → Q (.ref p) (upd H p (.tup xs)) := fun p hp => by
  obtain ⟨n, s1, r1⟩ := s.newT hp z r
  exact h _ _ n s1 _ r1
/-! ### operators by values -/
/-- the wish of data -/
abbrev QE (K : PySem.W.Frag) (Q : VK) : D → Store → Hp → G → Prop := fun d _ H' g' => ∀ v, rep K g'.F g'.μ d v → Q v H'
abbrev QN (K : PySem.W.Frag) (H : Hp) (Q : VK) : D → Store → Hp → G → Prop := fun d _ H' g' => ∀ p, Loose K H' g' p d → H p = none → Q (.ref p) H'
def Sp2 (K : PySem.W.Frag) (r : R2) (f : D → D → M D) : Prop := ∀ (W : WX) (σ : L2.St) (H : Hp) (g : G) (env : Env') (S : Store) (x y : D) (v w : V) (Q : VK), SI K σ H g env S → repR K σ g env x v → repR K σ g env y w → Pst K W σ H g env (QE K Q) (f x y S) → r v w H Q
def Sp1 (K : PySem.W.Frag) (r : V → Hp → VK → Prop) (f : D → M D) : Prop := ∀ (W : WX) (σ : L2.St) (H : Hp) (g : G) (env : Env') (S : Store) (x : D) (v : V) (Q : VK), SI K σ H g env S → repR K σ g env x v → Pst K W σ H g env (QE K Q) (f x S) → r v H Q
def req {α : Type} (c : Prop) [Decidable c] (m : M α) : M α := if c then m else M.bad
theorem Pst.req {α : Type} {c : Prop} [Decidable c] {m : M α} {Q : α → Store → Hp → G → Prop} (h : Pst K W σ H g env Q (req c m S)) : c ∧ Pst K W σ H g env Q (m S) := by
  unfold VM.req at h
  by_cases hc : c
  · rw [if_pos hc] at h; exact ⟨hc, h⟩
  · rw [if_neg hc] at h; exact h.elim
@[simp] theorem req_pos {α : Type} {c : Prop} [Decidable c] {m : M α} (h : c) : VM.req c m = m := if_pos h
theorem Pst.ret {d : D} {v : V} {Q : VK} (s : SI K σ H g env S) (h : Pst K W σ H g env (QE K Q) (.ok d S)) (r : rep K g.F g.μ d v) : Q v H := h H g (Nx.refl _ _) s v r
theorem tv2 {a b : Expr} {ma mb : M D} {f : D → D → M D} {r : R2} (hf : Sp2 X.K r f) {Q : VK} (h : TV X.K W env (ma.bind fun x => mb.bind fun y => f x y) σ H Q) : TR X.K W env ma σ H (fun v H1 => TR X.K W env mb σ H1 fun w H2 => r v w H2 Q) := by
  obtain ⟨g, S, s, p⟩ := h
  refine ⟨g, S, s, p.bind.mono fun x S1 H1 g1 n1 s1 p1 v rv => ⟨g1, S1, s1, p1.bind.mono fun y S2 H2 g2 n2 s2 p2 w rw' => ?_⟩⟩
  exact hf W σ H2 g2 env S2 x y v w Q s2 (rv.mono n2) rw' p2
theorem VE.bin {op : Operator} {a b : Expr} {pos : Pos} {ma mb : M D} {f : D → D → M D} {r : R2} (ho : OpR X (binaryOp op) r) (hf : Sp2 X.K r f) (ha : VR X W env a ma) (hb : VR X W env b mb) : VE X W env (.BinOp a op b pos) (ma.bind fun x => mb.bind fun y => f x y) :=
  PE.imp (pe_op ho ha hb) fun σ H Q h => tv2 (a := a) (b := b) hf h
theorem VE.un {op : UnaryOp} {a : Expr} {pos : Pos} {ma : M D} {f : D → M D} {r : V → Hp → VK → Prop} (ho : UnR X (unaryOp op) r) (hf : Sp1 X.K r f) (ha : VR X W env a ma) : VE X W env (.UnaryOp op a pos) (ma.bind f) :=
  PE.imp (pe_un ho ha) fun σ H Q ⟨g, S, s, p⟩ => ⟨g, S, s, p.bind.mono fun x S1 H1 g1 n1 s1 p1 v rv => hf W σ H1 g1 env S1 x v Q s1 rv p1⟩
theorem VE.cmp {op : CmpOp} {a b : Expr} {pos : Pos} {ma mb : M D} {f : D → D → M D} {r : R2} (ho : OpR X (compareOp op) r) (hf : Sp2 X.K r f) (ha : VR X W env a ma) (hb : VR X W env b mb) (hm : behindInMarks op b = false) : VE X W env (.Compare a [op] [b] pos) (ma.bind fun x => mb.bind fun y => f x y) :=
  PE.imp (pe_cmpR ho ha hb hm) fun σ H Q h => tv2 (a := a) (b := b) hf h
/-- a value that is True or False, as a test -/
def toB : D → M Bool
  | .bl b => M.pure b
  | _ => M.bad
def ofB (m : M Bool) : M D := m.bind fun b => M.pure (.bl b)
theorem tst {m : M D} {Q : Bool → Hp → Prop} (h : TTb X.K W env (m.bind toB) σ H Q) : TR X.K W env m σ H (fun v H1 => ∃ k, v = .bl k ∧ Q k H1) := by
  obtain ⟨g, S, s, p⟩ := h
  refine ⟨g, S, s, p.bind.mono fun x S1 H1 g1 n1 s1 p1 v rv => ?_⟩
  cases x with
  | bl b => exact ⟨b, rv.bl s1, p1 H1 g1 (Nx.refl _ _) s1⟩
  | _ => exact p1.elim
theorem TTb.bind2 {m : M D} {Q : Bool → Hp → Prop} {Q' : VK} (h : TTb X.K W env (m.bind toB) σ H Q) (f : ∀ k H', Q k H' → Q' (.bl k) H') : TV X.K W env m σ H Q' := by
  obtain ⟨g, S, s, p⟩ := h
  refine ⟨g, S, s, p.bind.mono fun x S1 H1 g1 n1 s1 p1 v rv => ?_⟩
  cases x with
  | bl b =>
    have e : v = .bl b := by simpa only [rep] using rv
    subst e
    exact f _ _ (p1 H1 g1 (Nx.refl _ _) s1)
  | _ => exact p1.elim
theorem VT.cmp {op : CmpOp} {a b : Expr} {pos : Pos} {ma mb : M D} {f : D → D → M D} {r : R2} (ho : OpR X (compareOp op) r) (hf : Sp2 X.K r f) (ha : VR X W env a ma) (hb : VR X W env b mb) (hm : behindInMarks op b = false) : VT X W env (.Compare a [op] [b] pos) ((ma.bind fun x => mb.bind fun y => f x y).bind toB) :=
  PT.imp (pt_cmpR ho ha hb hm) fun σ H Q h => tv2 (a := a) (b := b) hf (TTb.bind2 h fun k H' q => ⟨k, rfl, q⟩)
theorem VT.val {e : Expr} {m : M D} (h : VR X W env e m) (he : ∀ whole, isTrue e X.env whole = (do let v ← whole; standAt e.pos; holding [v] (truthy v))) : VT X W env e (m.bind toB) :=
  PT.imp (pt_val h he) fun σ H Q q => tst q
def mNot (m : M Bool) : M Bool := m.bind fun b => M.pure (!b)
def mAnd (m k : M Bool) : M Bool := m.bind fun b => if b = true then k else M.pure false
def mOr (m k : M Bool) : M Bool := m.bind fun b => if b = true then M.pure true else k
theorem VT.not {a : Expr} {pos : Pos} {m : M Bool} (h : VT X W env a m) : VT X W env (.UnaryOp .Not a pos) (mNot m) := PT.imp (pt_not h) fun σ H Q ⟨g, S, s, p⟩ => ⟨g, S, s, p.bind.mono fun b S1 H1 g1 n1 s1 p1 => p1 H1 g1 (Nx.refl _ _) s1⟩
def VW (X : Cx) (W : WX) (env : Env') (e : Expr) (m : M Bool) : Prop := PW X e (TTb X.K W env m)
theorem VW.t {e : Expr} {m : M Bool} (h : VW X W env e m) : VT X W env e m := L2.PW.pt h
theorem VW.and1 {a : Expr} {pos : Pos} {m : M Bool} (h : VT X W env a m) : VW X W env (.BoolOp .And [a] pos) m := pw_and1 h
theorem VW.or1 {a : Expr} {pos : Pos} {m : M Bool} (h : VT X W env a m) : VW X W env (.BoolOp .Or [a] pos) m := pw_or1 h
theorem VW.and {a b : Expr} {r : List Expr} {pos : Pos} {m k : M Bool} (h : VT X W env a m) (h2 : VW X W env (.BoolOp .And (b :: r) pos) k) : VW X W env (.BoolOp .And (a :: b :: r) pos) (mAnd m k) :=
  PW.imp (pw_and h h2) fun σ H Q ⟨g, S, s, p⟩ => ⟨g, S, s, p.bind.mono fun c S1 H1 g1 n1 s1 p1 => by
    cases c with
    | true => rw [if_pos rfl] at p1 ⊢; exact ⟨g1, S1, s1, p1⟩
    | false => rw [if_neg (by decide)] at p1 ⊢; exact p1 H1 g1 (Nx.refl _ _) s1⟩
theorem VW.or {a b : Expr} {r : List Expr} {pos : Pos} {m k : M Bool} (h : VT X W env a m) (h2 : VW X W env (.BoolOp .Or (b :: r) pos) k) : VW X W env (.BoolOp .Or (a :: b :: r) pos) (mOr m k) :=
  PW.imp (pw_or h h2) fun σ H Q ⟨g, S, s, p⟩ => ⟨g, S, s, p.bind.mono fun c S1 H1 g1 n1 s1 p1 => by
    cases c with
    | false => rw [if_neg (by decide)] at p1 ⊢; exact ⟨g1, S1, s1, p1⟩
    | true => rw [if_pos rfl] at p1 ⊢; exact p1 H1 g1 (Nx.refl _ _) s1⟩
/-- and, or, not as values -/
def dAnd (m k : M D) : M D := m.bind fun x => (toB x).bind fun b => if b = true then k else M.pure (.bl false)
def dOr (m k : M D) : M D := m.bind fun x => (toB x).bind fun b => if b = true then M.pure (.bl true) else k
def dNot (m : M D) : M D := m.bind fun x => (toB x).bind fun b => M.pure (.bl !b)
theorem toB_bind {α : Type} {x : D} {f : Bool → M α} {Q : α → Store → Hp → G → Prop} (h : Pst K W σ H g env Q (((toB x).bind f) S)) : ∃ b, x = .bl b ∧ Pst K W σ H g env Q (f b S) := by
  cases x with
  | bl b => exact ⟨b, rfl, h⟩
  | _ => exact h.elim
theorem VE.and1 {op : BoolOp} {a : Expr} {pos : Pos} {m : M D} (h : VE X W env a m) : VE X W env (.BoolOp op [a] pos) m := pe_one h
theorem VE.and {a b : Expr} {r : List Expr} {pos : Pos} {m k : M D} (h : VE X W env a m) (h2 : VE X W env (.BoolOp .And (b :: r) pos) k) : VE X W env (.BoolOp .And (a :: b :: r) pos) (dAnd m k) :=
  PE.imp (pe_and h h2) fun σ H Q ⟨g, S, s, p⟩ => ⟨g, S, s, p.bind.mono fun x S1 H1 g1 n1 s1 p1 v rv => by
    obtain ⟨b, rfl, p2⟩ := toB_bind p1
    have e : v = .bl b := by simpa only [rep] using rv
    refine ⟨b, e, ?_⟩
    cases b with
    | true => rw [if_pos rfl] at p2 ⊢; exact ⟨g1, S1, s1, p2⟩
    | false => rw [if_neg (by decide)] at p2 ⊢; exact p2 H1 g1 (Nx.refl _ _) s1 _ (by simp only [rep])⟩
theorem VE.or {a b : Expr} {r : List Expr} {pos : Pos} {m k : M D} (h : VE X W env a m) (h2 : VE X W env (.BoolOp .Or (b :: r) pos) k) : VE X W env (.BoolOp .Or (a :: b :: r) pos) (dOr m k) :=
  PE.imp (pe_or h h2) fun σ H Q ⟨g, S, s, p⟩ => ⟨g, S, s, p.bind.mono fun x S1 H1 g1 n1 s1 p1 v rv => by
    obtain ⟨b, rfl, p2⟩ := toB_bind p1
    have e : v = .bl b := by simpa only [rep] using rv
    refine ⟨b, e, ?_⟩
    cases b with
    | false => rw [if_neg (by decide)] at p2 ⊢; exact ⟨g1, S1, s1, p2⟩
    | true => rw [if_pos rfl] at p2 ⊢; exact p2 H1 g1 (Nx.refl _ _) s1 _ (by simp only [rep])⟩
theorem VE.not {a : Expr} {pos : Pos} {m : M D} (h : VE X W env a m) : VE X W env (.UnaryOp .Not a pos) (dNot m) :=
  PE.imp (pe_not h) fun σ H Q ⟨g, S, s, p⟩ => ⟨g, S, s, p.bind.mono fun x S1 H1 g1 n1 s1 p1 v rv => by
    obtain ⟨b, rfl, p2⟩ := toB_bind p1
    have e : v = .bl b := by simpa only [rep] using rv
    exact ⟨b, e, p2 H1 g1 (Nx.refl _ _) s1 _ (by simp only [rep])⟩⟩
def mIte {α : Type} (c : M Bool) (a b : M α) : M α := c.bind fun k => if k = true then a else b
theorem VE.ife {c a b : Expr} {pos : Pos} {mc : M Bool} {ma mb : M D} (hc : VT X W env c mc) (ha : VE X W env a ma) (hb : VE X W env b mb) : VE X W env (.IfExp c a b pos) (mIte mc ma mb) :=
  PE.imp (pe_ifExp hc ha hb) fun σ H Q ⟨g, S, s, p⟩ => ⟨g, S, s, p.bind.mono fun k S1 H1 g1 n1 s1 p1 => by
    cases k with
    | true => rw [if_pos rfl] at p1 ⊢; exact ⟨g1, S1, s1, p1⟩
    | false => rw [if_neg (by decide)] at p1 ⊢; exact ⟨g1, S1, s1, p1⟩⟩
end
end VM
namespace VM
open PySem PySem.Spec PyProof.Rows L2
section
variable {τ τ' β β' α : Type} {X : Cx} {W : WX} {rk : Bool} {vx env env' : Env'} {vb : β → Env'} {vw : τ → Env'} {K : PySem.W.Frag} {σ : L2.St} {H H' : Hp} {g g' : G} {S S' : Store} {E : Ends}
theorem RetOk.step {d : D} {Q : VK} (h : RetOk K rk H g d S Q) (n : Nx H g H' g') : RetOk K rk H' g' d S Q := by
  cases rk with
  | false => exact fun v H2 g2 n2 s2 r => h v H2 g2 (n.trans n2) s2 r
  | true => exact fun p H2 g2 n2 s2 h1 h2 r hp => h p H2 g2 (n.trans n2) s2 h1 h2 r (by
      cases e : H p with
      | none => rfl
      | some u => exact absurd hp (n.stay p (by rw [e]; simp)))
theorem PstB.step {r : Res (Out τ β)} (h : PstB K W rk vx vb vw E σ H g r) (n : Nx H g H' g') : PstB K W rk vx vb vw E σ H' g' r := by
  cases r with
  | ok o S1 =>
    cases o with
    | next t => exact fun s2 H2 g2 n2 i2 => h s2 H2 g2 (n.trans n2) i2
    | brk t => exact fun s2 H2 g2 n2 i2 => h s2 H2 g2 (n.trans n2) i2
    | cnt t => exact fun s2 H2 g2 n2 i2 => h s2 H2 g2 (n.trans n2) i2
    | ret d => exact RetOk.step (show RetOk K rk H g d S1 E.rt from h) n
  | exc c ns vs S1 => exact fun s2 H2 g2 dx n2 i2 x => h s2 H2 g2 dx (n.trans n2) i2 x
  | bad => exact h
/-- what follows a first part -/
theorem PstB.bind {m : M α} {f : α → M (Out τ β)} (h : PstB K W rk vx vb vw E σ H g ((m.bind f) S)) (hx : Sub env vx) : Pst K W σ H g env (fun a S1 H1 g1 => PstB K W rk vx vb vw E σ H1 g1 (f a S1)) (m S) := by
  unfold M.bind at h
  cases e : m S with
  | ok b S1 => rw [e] at h; exact fun H2 g2 n2 s2 => PstB.step (r := f b S1) h n2
  | exc c ns vs S' => rw [e] at h; exact fun H2 g2 dx n2 s2 x => h σ H2 g2 dx n2 (s2.weak hx) x
  | bad => rw [e] at h; exact h
theorem PstB.sig {σ' : L2.St} {r : Res (Out τ β)} (h : PstB K W rk vx vb vw E σ H g r) : PstB K W rk vx vb vw E σ' H g r := by
  cases r with
  | ok o S1 => cases o <;> exact h
  | exc c ns vs S1 => exact h
  | bad => exact h
theorem TSim.bind {m1 : M α} {en : α → Env'} {k : α → M (Out τ β)} (h : TB K W rk vx vb env vw (m1.bind k) E σ H) : TSim K W vx env en m1 { E with nx := fun σ' H' => ∃ a, TB K W rk vx vb (en a) vw (k a) E σ' H' } σ H := by
  obtain ⟨g, S, s, p⟩ := h
  refine ⟨g, S, s, ?_⟩
  unfold M.bind at p
  unfold PstS
  cases e : m1 S with
  | ok a S1 => rw [e] at p; exact fun σ' H' g' n s' => ⟨a, g', S1, s', (PstB.step (r := k a S1) p n).sig⟩
  | exc c ns vs S1 => rw [e] at p; exact p
  | bad => rw [e] at p; exact p
/-! ### blocks -/
theorem VB.nil {t : τ} (h : Sub env (vw t)) : VB X W rk vx vb env [] vw (M.pure (.next t)) := PSs.imp pss_nil fun E σ H ⟨g, S, s, p⟩ => p σ H g (Nx.refl _ _) (s.weak h)
theorem VB.cons {st : Stmt} {rest : List Stmt} {en : α → Env'} {m1 : M α} {k : α → M (Out τ β)} (h1 : VS X W vx env st en m1) (h2 : ∀ a, VB X W rk vx vb (en a) rest vw (k a)) : VB X W rk vx vb env (st :: rest) vw (m1.bind k) :=
  PSs.imp (pss_cons h1 (PSs.ex h2)) fun E σ H h => TSim.bind h
def seqO (m : M (Out τ' β)) (k : τ' → M (Out τ β)) : M (Out τ β) := m.bind fun o => match o with
  | .next t => k t
  | .ret d => M.pure (.ret d)
  | .brk b => M.pure (.brk b)
  | .cnt b => M.pure (.cnt b)
theorem TB.bind {vw1 : τ' → Env'} {m1 : M (Out τ' β)} {k : τ' → M (Out τ β)} (h : TB K W rk vx vb env vw (seqO m1 k) E σ H) : TB K W rk vx vb env vw1 m1 { E with nx := fun σ' H' => ∃ t, TB K W rk vx vb (vw1 t) vw (k t) E σ' H' } σ H := by
  obtain ⟨g, S, s, p⟩ := h
  refine ⟨g, S, s, ?_⟩
  unfold seqO M.bind at p
  cases e : m1 S with
  | ok o S1 =>
    rw [e] at p
    cases o with
    | next t => exact fun σ' H' g' n s' => ⟨t, g', S1, s', (PstB.step (r := k t S1) p n).sig⟩
    | ret d => exact p
    | brk b => exact p
    | cnt b => exact p
  | exc c ns vs S1 => rw [e] at p; exact p
  | bad => rw [e] at p; exact p
theorem VB.consO {st : Stmt} {rest : List Stmt} {vw1 : τ' → Env'} {m1 : M (Out τ' β)} {k : τ' → M (Out τ β)} (h1 : VO X W rk vx vb env st vw1 m1) (h2 : ∀ t, VB X W rk vx vb (vw1 t) rest vw (k t)) : VB X W rk vx vb env (st :: rest) vw (seqO m1 k) :=
  PSs.imp (pss_cons h1 (PSs.ex h2)) fun E σ H h => TB.bind h
theorem VB.one {st : Stmt} {m : M (Out τ β)} (h : VO X W rk vx vb env st vw m) : VB X W rk vx vb env [st] vw m := pss_one h
/-- a ghost step: a slot's object is frozen -/
theorem VB.frz {i : Nat} {d : D} {sts : List Stmt} {m : M (Out τ β)} (he : env[i]? = some (.own d)) (h : VB X W rk vx vb (env.set i (.dat d)) sts vw m) : VB X W rk vx vb env sts vw m := PSs.imp h fun E σ H ⟨g, S, s, p⟩ => by
  obtain ⟨a, s1, h1, h2⟩ := s.frzSlot he
  exact ⟨_, S, s1, p.step (Nx.frz (.inr (.inr h1)) h2 (Nx.refl _ _) h2)⟩
/-- a ghost step: what is known of slots is forgotten -/
theorem VB.weak {sts : List Stmt} {m : M (Out τ β)} (he : Sub env env') (h : VB X W rk vx vb env' sts vw m) : VB X W rk vx vb env sts vw m := PSs.imp h fun E σ H ⟨g, S, s, p⟩ => ⟨g, S, s.weak he, p⟩
/-- no way through -/
def NoNx (m : M (Out τ β)) : Prop := ∀ S t S', m S ≠ .ok (.next t) S'
theorem NoNx.ret {m : M D} : NoNx (m.bind fun d => (M.pure (.ret d) : M (Out τ β))) := fun S t S' h => by
  unfold M.bind at h
  cases e : m S <;> rw [e] at h <;> cases h
theorem NoNx.raise {c ns vs} : NoNx (M.raise c ns vs : M (Out τ β)) := fun S t S' h => by cases h
theorem NoNx.bind {m : M α} {k : α → M (Out τ β)} (h : ∀ a, NoNx (k a)) : NoNx (m.bind k) := fun S t S' q => by
  unfold M.bind at q
  cases e : m S with
  | ok a S1 => rw [e] at q; exact h a _ _ _ q
  | exc c ns vs S1 => rw [e] at q; cases q
  | bad => rw [e] at q; cases q
theorem NoNx.ite {c : M Bool} {a b : M (Out τ β)} (ha : NoNx a) (hb : NoNx b) : NoNx (mIte c a b) := NoNx.bind fun k => by
  cases k with
  | true => exact ha
  | false => exact hb
theorem NoNx.seq {m : M (Out τ' β)} {k : τ' → M (Out τ β)} (h : ∀ t, NoNx (k t)) : NoNx (seqO m k) := NoNx.bind fun o => by
  cases o with
  | next t => exact h t
  | _ => exact fun S t S' h => by cases h
theorem NoNx.brk {b : β} : NoNx (M.pure (.brk b) : M (Out τ β)) := fun S t S' h => by cases h
theorem NoNx.cnt {b : β} : NoNx (M.pure (.cnt b) : M (Out τ β)) := fun S t S' h => by cases h
theorem TTb.ofB {c : M Bool} {f : Bool → M (Out τ β)} {t u : L2.St → Hp → Prop} (hx : Sub env vx) (h : ∃ g S, SI K σ H g env S ∧ PstB K W rk vx vb vw E σ H g ((c.bind f) S))
    (ht : ∀ g1 S1 H1, SI K σ H1 g1 env S1 → PstB K W rk vx vb vw E σ H1 g1 (f true S1) → t σ H1) (hu : ∀ g1 S1 H1, SI K σ H1 g1 env S1 → PstB K W rk vx vb vw E σ H1 g1 (f false S1) → u σ H1) :
    TTb K W env c σ H (fun b H1 => if b = true then t σ H1 else u σ H1) := by
  obtain ⟨g, S, s, p⟩ := h
  refine ⟨g, S, s, (p.bind hx).mono fun k S1 H1 g1 n1 s1 p1 => ?_⟩
  cases k with
  | true => rw [if_pos rfl]; exact ht g1 S1 H1 s1 p1
  | false => rw [if_neg (by decide)]; exact hu g1 S1 H1 s1 p1
theorem VO.ite {c : Expr} {a b : List Stmt} {pos : Pos} {mc : M Bool} {ma mb : M (Out τ β)} (hx : Sub env vx) (hc : VT X W env c mc) (ha : VB X W rk vx vb env a vw ma) (hb : VB X W rk vx vb env b vw mb) : VO X W rk vx vb env (.If c a b pos) vw (mIte mc ma mb) :=
  PS.imp (ps_if hc ha hb) fun E σ H h => TTb.ofB (t := fun σ H1 => TB X.K W rk vx vb env vw ma E σ H1) (u := fun σ H1 => TB X.K W rk vx vb env vw mb E σ H1) hx h (fun g1 S1 H1 s1 p1 => ⟨g1, S1, s1, p1⟩) fun g1 S1 H1 s1 p1 => ⟨g1, S1, s1, p1⟩
theorem PstB.noNx {vw1 : τ' → Env'} {E' : Ends} {m : M (Out τ β)} (nn : NoNx m) (h : PstB K W rk vx vb vw E σ H g (m S)) (e1 : E'.rt = E.rt) (e2 : E'.bk = E.bk) (e3 : E'.ct = E.ct) : PstB K W rk vx vb vw E' σ H g (m S) := by
  cases e : m S with
  | ok o S1 =>
    rw [e] at h
    cases o with
    | next t => exact absurd e (nn _ _ _)
    | ret d => show RetOk K rk H g d S1 E'.rt; rw [e1]; exact h
    | brk t => show ∀ σ' H' g', _ → _ → E'.bk σ' H'; rw [e2]; exact h
    | cnt t => show ∀ σ' H' g', _ → _ → E'.ct σ' H'; rw [e3]; exact h
  | exc c ns vs S1 => rw [e] at h; exact h
  | bad => rw [e] at h; exact h
/-- if c: .. (never through) -/
theorem VB.guard {c : Expr} {a rest : List Stmt} {pos : Pos} {mc : M Bool} {ma k : M (Out τ β)} (hx : Sub env vx) (hc : VT X W env c mc) (ha : VB X W rk vx vb env a vw ma) (nn : NoNx ma) (hk : VB X W rk vx vb env rest vw k) : VB X W rk vx vb env (.If c a [] pos :: rest) vw (mIte mc ma k) :=
  PSs.imp (pss_cons (ps_if hc ha pss_nil) hk) fun E σ H h => TTb.ofB (t := fun σ H1 => TB X.K W rk vx vb env vw ma { E with nx := TB X.K W rk vx vb env vw k E } σ H1) (u := fun σ H1 => TB X.K W rk vx vb env vw k E σ H1) hx h (fun g1 S1 H1 s1 p1 => ⟨g1, S1, s1, PstB.noNx (vw1 := vw) nn p1 rfl rfl rfl⟩) fun g1 S1 H1 s1 p1 => ⟨g1, S1, s1, p1⟩
/-! ### simple statements -/
theorem VO.ret {e : Expr} {pos : Pos} {m : M D} (hx : Sub env vx) (he : VE X W env e m) : VO X W false vx vb env (.Return (some e) pos) vw (m.bind fun d => (M.pure (.ret d) : M (Out τ β))) :=
  PS.imp (ps_ret he) fun E σ H ⟨g, S, s, p⟩ => ⟨g, S, s, (p.bind hx).mono fun d S1 H1 g1 n1 s1 p1 v r => p1 v H1 g1 (Nx.refl _ _) s1.sg r⟩
theorem VO.retN {e : Expr} {pos : Pos} {m : M D} (hx : Sub env vx) (he : VN X W env e m) : VO X W true vx vb env (.Return (some e) pos) vw (m.bind fun d => (M.pure (.ret d) : M (Out τ β))) :=
  PS.imp (ps_ret he) fun E σ H ⟨g, S, s, p⟩ => ⟨g, S, s, by
    have q := PstB.step (r := (m.bind fun d => (M.pure (.ret d) : M (Out τ β))) S) p (Nx.refl _ _)
    unfold M.bind at p
    cases hm : m S with
    | ok d S1 => rw [hm] at p; exact fun H1 g1 n1 s1 a L ha => p a H1 g1 n1 s1.sg L.nm L.nf L.at_ ha
    | exc c ns vs S1 => rw [hm] at p; exact fun H1 g1 dx n1 s1 x => p σ H1 g1 dx n1 (s1.weak hx) x
    | bad => rw [hm] at p; exact p⟩
theorem VO.retNone {pos : Pos} : VO X W false vx vb env (.Return none pos) vw (M.pure (.ret .non) : M (Out τ β)) :=
  PS.imp ps_retN fun E σ H ⟨g, S, s, p⟩ => p .non H g (Nx.refl _ _) s.sg (by simp only [rep])
theorem VO.brk {b : β} {pos : Pos} (h : Sub env (vb b)) : VO X W rk vx vb env (.Break pos) vw (M.pure (.brk b) : M (Out τ β)) := PS.imp ps_break fun E σ H ⟨g, S, s, p⟩ => p σ H g (Nx.refl _ _) (s.weak h)
theorem VO.cnt {b : β} {pos : Pos} (h : Sub env (vb b)) : VO X W rk vx vb env (.Continue pos) vw (M.pure (.cnt b) : M (Out τ β)) := PS.imp ps_continue fun E σ H ⟨g, S, s, p⟩ => p σ H g (Nx.refl _ _) (s.weak h)
theorem VS.pass {pos : Pos} : VS X W vx env (.Pass pos) (fun _ : Unit => env) (M.pure ()) := PS.imp ps_pass fun E σ H ⟨g, S, s, p⟩ => p σ H g (Nx.refl _ _) s
/-- a first part of a simple statement, an expression -/
theorem TSim.ofE {m : M D} {en : D → Env'} {Q : VK} (hx : Sub env vx) (h : TSim K W vx env en m E σ H) (f : ∀ d S1 v H1 g1, SI K σ H1 g1 env S1 → rep K g1.F g1.μ d v → (∀ σ' H' g', Nx H1 g1 H' g' → SI K σ' H' g' (en d) S1 → E.nx σ' H') → Q v H1) : TV K W env m σ H Q := by
  obtain ⟨g, S, s, p⟩ := h
  refine ⟨g, S, s, ?_⟩
  cases hm : m S with
  | ok d S1 => rw [hm] at p; exact fun H1 g1 n1 s1 v r => f d S1 v H1 g1 s1 r fun σ' H' g' n2 s2 => p σ' H' g' (n1.trans n2) s2
  | exc c ns vs S1 => rw [hm] at p; exact fun H1 g1 dx n1 s1 x => p σ H1 g1 dx n1 (s1.weak hx) x
  | bad => rw [hm] at p; exact p
theorem VS.asg {i : Nat} {x : Str} {e : Expr} {pos pos' : Pos} {m : M D} (hN : X.N.Nodup) (hi : X.N[i]? = some x) (hl : Loc X.env.scope x) (hx : Sub env vx) (he : VE X W env e m) (hs : swapsWith e (some (.Name x pos')) pos.line X.env = pure false := by rfl)
    (hf : X.fn x = true ∨ X.env.scope.names.lookup x = some .local := by first | exact .inl rfl | exact .inr rfl | assumption) : VS X W vx env (.Assign [.Name x pos'] e pos) (fun d => env.set i (.dat d)) m :=
  PS.imp (ps_set hN hi hl he hs hf) fun E σ H h => TSim.ofE hx h fun d S1 v H1 g1 s1 r k => k _ H1 g1 (Nx.refl _ _) (s1.setDat r)
theorem TSim.ofN {m : M D} {en : D → Env'} {Q : VK} (hx : Sub env vx) (h : TSim K W vx env en m E σ H) (f : ∀ d S1 p H1 g1, SI K σ H1 g1 env S1 → Loose K H1 g1 p d → H p = none → (∀ σ' H' g', Nx H1 (g1.hold p) H' g' → SI K σ' H' g' (en d) S1 → E.nx σ' H') → Q (.ref p) H1) : TN K W env m σ H Q := by
  obtain ⟨g, S, s, p⟩ := h
  refine ⟨g, S, s, ?_⟩
  cases hm : m S with
  | ok d S1 => rw [hm] at p; exact fun H1 g1 n1 s1 a L ha => f d S1 a H1 g1 s1 L ha fun σ' H' g' n2 s2 => p σ' H' g' ((n1.hold ha).trans n2) s2
  | exc c ns vs S1 => rw [hm] at p; exact fun H1 g1 dx n1 s1 x => p σ H1 g1 dx n1 (s1.weak hx) x
  | bad => rw [hm] at p; exact p
theorem VS.asgN {i : Nat} {x : Str} {e : Expr} {pos pos' : Pos} {m : M D} (hN : X.N.Nodup) (hi : X.N[i]? = some x) (hl : Loc X.env.scope x) (hx : Sub env vx) (he : VN X W env e m) (hs : swapsWith e (some (.Name x pos')) pos.line X.env = pure false := by rfl)
    (hf : X.fn x = true ∨ X.env.scope.names.lookup x = some .local := by first | exact .inl rfl | exact .inr rfl | assumption) : VS X W vx env (.Assign [.Name x pos'] e pos) (fun d => env.set i (.own d)) m :=
  PS.imp (ps_set hN hi hl he hs hf) fun E σ H h => TSim.ofN hx h fun d S1 p H1 g1 s1 L hp k => k _ H1 _ (Nx.refl _ _) (s1.setOwn L)
/-- an expression as a statement -/
theorem VS.expr {e : Expr} {pos : Pos} {m : M D} (hx : Sub env vx) (he : VE X W env e m) (hs : swapsWith e none pos.line X.env = pure false := by rfl) : VS X W vx env (.Expr e pos) (fun _ : D => env) m :=
  PS.imp (ps_expr he hs) fun E σ H h => TSim.ofE hx h fun d S1 v H1 g1 s1 r k => k _ H1 g1 (Nx.refl _ _) s1
/-- x += e -/
def dIAdd : D → D → M D
  | .int i, .int j => M.pure (.int (i + j))
  | _, _ => M.bad
def dISub : D → D → M D
  | .int i, .int j => M.pure (.int (i - j))
  | _, _ => M.bad
theorem PstS.step {en : α → Env'} {r : Res α} (h : PstS K W vx en E H g r) (n : Nx H g H' g') : PstS K W vx en E H' g' r := by
  cases r with
  | ok a S1 => exact fun s2 H2 g2 n2 i2 => h s2 H2 g2 (n.trans n2) i2
  | exc c ns vs S1 => exact fun s2 H2 g2 dx n2 i2 x => h s2 H2 g2 dx (n.trans n2) i2 x
  | bad => exact h
theorem PstS.bind {γ : Type} {en : α → Env'} {m : M γ} {f : γ → M α} (h : PstS K W vx en E H g ((m.bind f) S)) (hx : Sub env vx) : Pst K W σ H g env (fun a S1 H1 g1 => PstS K W vx en E H1 g1 (f a S1)) (m S) := by
  unfold M.bind at h
  cases e : m S with
  | ok b S1 => rw [e] at h; exact fun H2 g2 n2 s2 => PstS.step (r := f b S1) h n2
  | exc c ns vs S' => rw [e] at h; exact fun H2 g2 dx n2 s2 x => h σ H2 g2 dx n2 (s2.weak hx) x
  | bad => rw [e] at h; exact h
theorem TSim.aug {i : Nat} {f : Int → Int → Int} {fd : D → D → M D} {x : D} {m : M D} (hf : ∀ a b, fd a b = (match a, b with | .int i, .int j => M.pure (.int (f i j)) | _, _ => M.bad)) (he : env[i]? = some (.dat x)) (hx : Sub env vx)
    (h : TSim K W vx env (fun d => env.set i (.dat d)) (m.bind (fd x)) E σ H) : tAug i (TV K W env m) (ipI f) E σ H := by
  obtain ⟨g, S, s, p⟩ := h
  obtain ⟨v, ev, rv⟩ := s.slot i _ he
  refine ⟨v, ev, g, S, s, (p.bind hx).mono fun y S1 H1 g1 n1 s1 p1 w rw' => ?_⟩
  rw [hf x y] at p1
  cases x with
  | int a =>
    cases y with
    | int b =>
      have e1 : v = .int a := by simpa only [rep] using rv
      have e2 : w = .int b := by simpa only [rep] using rw'
      exact ⟨a, b, e1, e2, p1 _ H1 g1 (Nx.refl _ _) (s1.setDat (d := .int (f a b)) (by simp only [rep]))⟩
    | _ => exact p1.elim
  | _ => exact p1.elim
theorem VS.augAdd {i : Nat} {x : Str} {e : Expr} {pos pos' : Pos} {d : D} {m : M D} (hN : X.N.Nodup) (hi : X.N[i]? = some x) (hl : Loc X.env.scope x) (hx : Sub env vx) (hd : env[i]? = some (.dat d)) (he : VE X W env e m)
    (hf : X.fn x = true ∨ X.env.scope.names.lookup x = some .local := by first | exact .inl rfl | exact .inr rfl | assumption) : VS X W vx env (.AugAssign (.Name x pos') .Add e pos) (fun d => env.set i (.dat d)) (m.bind (dIAdd d)) :=
  PS.imp (ps_aug hN hi hl he ip_add hf) fun E σ H h => TSim.aug (f := fun i j => i + j) (fun a b => by unfold dIAdd; rfl) hd hx h
theorem VS.augSub {i : Nat} {x : Str} {e : Expr} {pos pos' : Pos} {d : D} {m : M D} (hN : X.N.Nodup) (hi : X.N[i]? = some x) (hl : Loc X.env.scope x) (hx : Sub env vx) (hd : env[i]? = some (.dat d)) (he : VE X W env e m)
    (hf : X.fn x = true ∨ X.env.scope.names.lookup x = some .local := by first | exact .inl rfl | exact .inr rfl | assumption) : VS X W vx env (.AugAssign (.Name x pos') .Sub e pos) (fun d => env.set i (.dat d)) (m.bind (dISub d)) :=
  PS.imp (ps_aug hN hi hl he ip_sub hf) fun E σ H h => TSim.aug (f := fun i j => i - j) (fun a b => by unfold dISub; rfl) hd hx h
/-! ### loops -/
def contL (k : τ → M (Out τ β)) : Out τ τ → M (Out τ β)
  | .next t => k t
  | .cnt t => k t
  | .brk t => M.pure (.next t)
  | .ret d => M.pure (.ret d)
def whileM (c : τ → M Bool) (b : τ → M (Out τ τ)) : Nat → τ → M (Out τ β)
  | 0, _ => M.bad
  | n + 1, t => (c t).bind fun k => if k = true then (b t).bind (contL (whileM c b n)) else M.pure (.next t)
def forL (f : D → τ → M (Out τ τ)) : List D → τ → M (Out τ β)
  | [], t => M.pure (.next t)
  | d :: ds, t => (f d t).bind (contL (forL f ds))
/-- a turn: its block ends as the loop goes on -/
theorem turn_end {vwL : τ → Env'} {m : M (Out τ τ)} {k : τ → M (Out τ β)} {N : L2.St → Hp → Prop} (h : PstB K W rk vx vb vwL E σ H g ((m.bind (contL k)) S)) (hn : ∀ t S1 σ' H' g', Nx H g H' g' → SI K σ' H' g' (vwL t) S1 → PstB K W rk vx vb vwL E σ' H' g' (k t S1) → N σ' H') :
    PstB K W rk vx vwL vwL { E with nx := N, ct := N, bk := E.nx } σ H g (m S) := by
  unfold M.bind at h
  cases e : m S with
  | ok o S1 =>
    rw [e] at h
    cases o with
    | next t => exact fun σ' H' g' n s' => hn t S1 σ' H' g' n s' (PstB.step (r := k t S1) h n).sig
    | cnt t => exact fun σ' H' g' n s' => hn t S1 σ' H' g' n s' (PstB.step (r := k t S1) h n).sig
    | brk t => exact fun σ' H' g' n s' => h σ' H' g' n s'
    | ret d => exact h
  | exc c ns vs S1 => rw [e] at h; exact h
  | bad => rw [e] at h; exact h
theorem VO.whil {c : Expr} {body : List Stmt} {pos : Pos} {vwL : τ → Env'} {mc : τ → M Bool} {mb : τ → M (Out τ τ)} {t0 : τ} (fuel : Nat) (hp : PassesOwn (model X.prog X.w) X.A X.env X.xe) (h0 : Sub env (vwL t0)) (hx : ∀ t, Sub (vwL t) vx)
    (hc : ∀ t, VT X W (vwL t) c (mc t)) (hb : ∀ t, VB X W rk vx vwL (vwL t) body vwL (mb t)) : VO X W rk vx vb env (.While c body [] pos) vwL (whileM mc mb fuel t0) := by
  have hc' : PT X c (fun σ H Q => ∃ t, TTb X.K W (vwL t) (mc t) σ H Q) := ⟨fun pins s σ H Q I ⟨t, q⟩ => (hc t).run pins s σ H Q I q⟩
  refine PS.imp (ps_while hp hc' (PSs.ex hb)) fun E σ H ⟨g, S, s, p⟩ => ?_
  refine ⟨fun n σ' H' => ∃ t g S, SI X.K σ' H' g (vwL t) S ∧ PstB X.K W rk vx vb vwL E σ' H' g (whileM mc mb n t S), ⟨fuel, t0, g, S, s.weak h0, p⟩, fun n σ1 H1 ⟨t, g1, S1, s1, p1⟩ => ?_⟩
  cases n with
  | zero => exact p1.elim
  | succ n =>
    refine ⟨t, ?_⟩
    refine TTb.ofB (t := fun σ H1 => ∃ N : L2.St → Hp → Prop, (∀ σ' H', N σ' H' → ∃ m', m' < n + 1 ∧ ∃ t g S, SI X.K σ' H' g (vwL t) S ∧ PstB X.K W rk vx vb vwL E σ' H' g (whileM mc mb m' t S)) ∧ ∃ a, TB X.K W rk vx vwL (vwL a) vwL (mb a) { E with nx := N, ct := N, bk := E.nx } σ H1)
      (u := fun σ H1 => E.nx σ H1) (hx t) ⟨g1, S1, s1, p1⟩ (fun g2 S2 H2 s2 p2 => ?_) fun g2 S2 H2 s2 p2 => ?_
    · refine ⟨fun σ' H' => ∃ t g S, SI X.K σ' H' g (vwL t) S ∧ PstB X.K W rk vx vb vwL E σ' H' g (whileM mc mb n t S), fun σ' H' q => ⟨n, Nat.lt_succ_self n, q⟩, t, g2, S2, s2, ?_⟩
      rw [if_pos rfl] at p2
      exact turn_end p2 fun t S1 σ' H' g' n s' q => ⟨t, g', S1, s', q⟩
    · rw [if_neg (by decide)] at p2
      exact p2 σ1 H2 g2 (Nx.refl _ _) s2
/-- what is walked: its items, wherever what is frozen stays -/
structure ItOk (K : PySem.W.Frag) (J : It) (F₀ : Hp) (μ₀ : List Addr) (ds : List D) : Prop where
  ex : ∃ (GG : Hp → Prop) (Y : Nat → Hp → V → Hp → Prop), Walk J ds.length GG Y ∧ (∀ F H, LeF F₀ F → LeF F H → GG H) ∧
    ∀ (σ : L2.St) (env : Env') (S : Store) (H : Hp) (g : G) (i : Nat) (d : D) (x : V) (H' : Hp), SI K σ H g env S → LeF F₀ g.F → μ₀ <+: g.μ → ds[i]? = some d → Y i H x H' → ∃ g', Nx H g H' g' ∧ SI K σ H' g' env S ∧ rep K g'.F g'.μ d x
def VI (X : Cx) (W : WX) (env : Env') (tg iter : Expr) (m : M (List D)) : Prop := PI X tg iter (fun σ H R => ∃ g S, SI X.K σ H g env S ∧ Pst X.K W σ H g env (fun ds _ H' g' => ∀ J, ItOk X.K J g'.F g'.μ ds → R J H') (m S))
/-- a target: dest what it takes of an item, en the slots behind it, js the places that it stores -/
def TGv (K : PySem.W.Frag) (dest : D → Option α) (en : α → Env' → Env') (js : List Nat) : TG := fun v σ H Q => ∃ g S env d a, SI K σ H g env S ∧ rep K g.F g.μ d v ∧ dest d = some a ∧ ∀ σ' H' g', Nx H g H' g' → SI K σ' H' g' (en a env) S → (∀ vs : List Nat, (∀ i ∈ js, i ∈ vs) → wipe σ' vs = wipe σ vs) → Q σ' H'
structure VG (X : Cx) (tg : Expr) (dest : D → Option α) (en : α → Env' → Env') (js : List Nat) : Prop where
  pg : PG X tg (TGv X.K dest en js)
  out : ∀ (a : α) (e : Env') (j : Nat), j ∉ js → (en a e)[j]? = e[j]?
  len : ∀ (a : α) (e : Env'), (en a e).length = e.length
theorem wipe_set {i : Nat} {v : Option V} : ∀ {vs : List Nat} {σ : L2.St}, i ∈ vs → wipe (σ.set i v) vs = wipe σ vs
  | [], _, h => by simp at h
  | j :: vs, σ, h => by
    show (wipe (σ.set i v) vs).set j none = (wipe σ vs).set j none
    by_cases hm : i ∈ vs
    · rw [wipe_set hm]
    · have e : i = j := by
        rcases List.mem_cons.mp h with e | e
        · exact e
        · exact absurd e hm
      subst e
      apply List.ext_getElem?
      intro k
      by_cases hk : k = i
      · subst hk
        have l1 : (wipe (σ.set k v) vs).length = σ.length := by rw [wipe_length, List.length_set]
        have l2 : (wipe σ vs).length = σ.length := wipe_length _ _
        by_cases hl : k < σ.length
        · rw [List.getElem?_set_self (by omega), List.getElem?_set_self (by omega)]
        · rw [List.getElem?_eq_none (by rw [List.length_set]; omega), List.getElem?_eq_none (by rw [List.length_set]; omega)]
      · rw [List.getElem?_set_ne (Ne.symm hk), List.getElem?_set_ne (Ne.symm hk)]
        by_cases hv : k ∈ vs
        · have out : ∀ (w : L2.St) (us : List Nat), k ∈ us → k < w.length → (wipe w us)[k]? = some none := by
            intro w us
            induction us with
            | nil => intro h; simp at h
            | cons u us ih =>
              intro h hl
              show ((wipe w us).set u none)[k]? = some none
              by_cases e : k = u
              · subst e; rw [List.getElem?_set_self (by rw [wipe_length]; exact hl)]
              · rw [List.getElem?_set_ne (Ne.symm e)]
                exact ih (by rcases List.mem_cons.mp h with z | z; exact absurd z e; exact z) hl
          by_cases hl : k < σ.length
          · rw [out _ _ hv (by rw [List.length_set]; exact hl), out _ _ hv hl]
          · rw [List.getElem?_eq_none (by rw [wipe_length, List.length_set]; omega), List.getElem?_eq_none (by rw [wipe_length]; omega)]
        · rw [wipe_out hv, wipe_out hv, List.getElem?_set_ne (Ne.symm hk)]
def ofO (o : Option α) : M α := match o with
  | some a => M.pure a
  | none => M.bad
theorem VG.name {i : Nat} {x : Str} {pos : Pos} (hN : X.N.Nodup) (hi : X.N[i]? = some x) (hl : Loc X.env.scope x) (hf : X.fn x = true ∨ X.env.scope.names.lookup x = some .local := by first | exact .inl rfl | exact .inr rfl | assumption) : VG X (.Name x pos) (fun d => some d) (fun d env => env.set i (.dat d)) [i] :=
  ⟨⟨fun pins s σ H v u Q I r ⟨g, S, env, d, a, si, rp, e, k⟩ => (pg_name hN hi hl hf).run pins s σ H v u Q I r (by cases e; exact k _ H g (Nx.refl _ _) (si.setDat rp) fun vs hv => wipe_set (hv i (by simp)))⟩,
    fun a e j h => List.getElem?_set_ne (by simp at h; exact Ne.symm h), fun a e => List.length_set⟩
theorem VO.forI {tg iter : Expr} {body : List Stmt} {pos : Pos} {vwL : τ → Env'} {mi : M (List D)} {dest : D → Option α} {en : α → Env' → Env'} {mb : α → τ → M (Out τ τ)} {t0 : τ} {js : List Nat} (hp : PassesOwn (model X.prog X.w) X.A X.env X.xe) (hc : X.calm = true) (h0 : Sub env (vwL t0)) (hx : Sub env vx)
    (hi : VI X W env tg iter mi) (hg : VG X tg dest en js) (hb : ∀ a t, VB X W rk vx vwL (en a (vwL t)) body vwL (mb a t)) (hs : ∀ x, foldedSetIterable iter X.env x = pure x := by intro _; rfl) :
    VO X W rk vx vb env (.For tg iter body [] pos) vwL (mi.bind fun ds => forL (fun d t => (ofO (dest d)).bind fun a => mb a t) ds t0) := by
  have hb' : PSs X body (fun E σ H => ∃ a t, TB X.K W rk vx vwL (en a (vwL t)) vwL (mb a t) E σ H) := ⟨fun pins s σ H E I ⟨a, t, q⟩ => (hb a t).run pins s σ H E I q⟩
  refine PS.imp (ps_for hp hc hi hg.pg hb' hs) fun E σ H ⟨g, S, s, p⟩ => ⟨g, S, s, (p.bind hx).mono fun ds S1 H1 g1 n1 s1 p1 J hJ => ?_⟩
  obtain ⟨GG, Y, w, hG, hY⟩ := hJ.ex
  refine for_it (D := E) (g := TGv X.K dest en js) (tb := fun E σ H => ∃ a t, TB X.K W rk vx vwL (en a (vwL t)) vwL (mb a t) E σ H) w (fun i σ' H' => ∃ t g' S', SI X.K σ' H' g' (vwL t) S' ∧ LeF g1.F g'.F ∧ g1.μ <+: g'.μ ∧ PstB X.K W rk vx vb vwL E σ' H' g' (forL (fun d t => (ofO (dest d)).bind fun a => mb a t) (ds.drop i) t S'))
    ⟨t0, g1, S1, s1.weak h0, LeF.refl _, List.prefix_refl _, by rw [List.drop_zero]; exact p1⟩ (fun i σ' H' _ ⟨t, g', S', s', l1, l2, _⟩ => hG g'.F H' l1 s'.sg.sub) (fun i x σ' H' H2 hi' ⟨t, g', S', s', l1, l2, p'⟩ hy => ?_) fun σ' H' ⟨t, g', S', s', l1, l2, p'⟩ => ?_
  · have ed : ds[i]? = some ds[i] := List.getElem?_eq_getElem hi'
    obtain ⟨g2, n2, s2, r2⟩ := hY σ' _ S' H' g' i ds[i] x H2 s' l1 l2 ed hy
    rw [List.drop_eq_getElem_cons hi'] at p'
    have p2 : PstB X.K W rk vx vb vwL E σ' H2 g2 ((((ofO (dest ds[i])).bind fun a => mb a t).bind (contL (forL (fun d t => (ofO (dest d)).bind fun a => mb a t) (ds.drop (i + 1))))) S') := PstB.step (r := (((ofO (dest ds[i])).bind fun a => mb a t).bind (contL (forL (fun d t => (ofO (dest d)).bind fun a => mb a t) (ds.drop (i + 1))))) S') p' n2
    cases e : dest ds[i] with
    | none => rw [e] at p2; exact p2.elim
    | some a =>
      rw [e] at p2
      refine ⟨g2, S', vwL t, ds[i], a, s2, r2, e, fun σ3 H3 g3 n3 s3 _ => ⟨a, t, g3, S', s3, ?_⟩⟩
      have p3 : PstB X.K W rk vx vb vwL E σ3 H3 g3 (((mb a t).bind (contL (forL (fun d t => (ofO (dest d)).bind fun a => mb a t) (ds.drop (i + 1))))) S') := (PstB.step (r := (((mb a t).bind (contL (forL (fun d t => (ofO (dest d)).bind fun a => mb a t) (ds.drop (i + 1))))) S')) p2 n3).sig
      have hp3 : ∀ t4 S4 σ4 H4 g4, Nx H3 g3 H4 g4 → SI X.K σ4 H4 g4 (vwL t4) S4 → PstB X.K W rk vx vb vwL E σ4 H4 g4 (forL (fun d t => (ofO (dest d)).bind fun a => mb a t) (ds.drop (i + 1)) t4 S4) → ∃ t g' S', SI X.K σ4 H4 g' (vwL t) S' ∧ LeF g1.F g'.F ∧ g1.μ <+: g'.μ ∧ PstB X.K W rk vx vb vwL E σ4 H4 g' (forL (fun d t => (ofO (dest d)).bind fun a => mb a t) (ds.drop (i + 1)) t S') :=
        fun t4 S4 σ4 H4 g4 n4 s4 q => ⟨t4, g4, S4, s4, ((l1.trans n2.grow).trans n3.grow).trans n4.grow, ((l2.trans n2.pre).trans n3.pre).trans n4.pre, q⟩
      exact turn_end p3 hp3
  · rw [List.drop_length] at p'
    exact p' σ' H' g' (Nx.refl _ _) s'
end
end VM
namespace VM
open PySem PySem.Spec PyProof.Rows L2
section
variable {τ β α : Type} {X : Cx} {W : WX} {rk : Bool} {vx env env' : Env'} {K : PySem.W.Frag} {σ : L2.St} {H H' : Hp} {g g' : G} {S S' : Store}
/-! ### argument lists -/
abbrev QA (K : PySem.W.Frag) (Q : List V → Hp → Prop) : List D → Store → Hp → G → Prop := fun ds _ H' g' => ∀ vs, repL K g'.F g'.μ ds vs → Q vs H'
def consM (m : M D) (ms : M (List D)) : M (List D) := m.bind fun d => ms.bind fun ds => M.pure (d :: ds)
theorem VA.nil : VA X W env [] (M.pure []) := PA.imp pa_nil fun σ H Q ⟨g, S, s, p⟩ => p H g (Nx.refl _ _) s [] repL_nil
theorem tas_cons {e : M D} {ms : M (List D)} {Q : List V → Hp → Prop} (h : TAs K W env (consM e ms) σ H Q) : tCons (TV K W env e) (TAs K W env ms) σ H Q := by
  obtain ⟨g, S, s, p⟩ := h
  refine ⟨g, S, s, p.bind.mono fun d S1 H1 g1 n1 s1 p1 v r => ⟨g1, S1, s1, p1.bind.mono fun ds S2 H2 g2 n2 s2 p2 vs rs => ?_⟩⟩
  exact p2 H2 g2 (Nx.refl _ _) s2 (v :: vs) (repL_cons (rep_mono n2.grow n2.pre _ _ r) rs)
theorem VA.cons {e : Expr} {es : List Expr} {m : M D} {ms : M (List D)} (h1 : VE X W env e m) (h2 : VA X W env es ms) (hs : starEach (e :: es) X.env = (false, eval e X.env) :: starEach es X.env := by rfl) : VA X W env (e :: es) (consM m ms) :=
  PA.imp (pa_cons h1 h2 hs) fun σ H Q h => tas_cons h
/-- keywords' values -/
def VKw (X : Cx) (W : WX) (env : Env') (kws : List Keyword) (m : M (List D)) : Prop := PK X kws (TAs X.K W env m)
theorem PK.imp {X : Cx} {es : List Keyword} {t t' : TA} (h : PK X es t) (f : ∀ σ H Q, t' σ H Q → t σ H Q) : PK X es t' := ⟨fun p pins s σ H Q I q => h.run p pins s σ H Q I (f σ H Q q)⟩
theorem VKw.nil : VKw X W env [] (M.pure []) := PK.imp pk_nil fun σ H Q ⟨g, S, s, p⟩ => p H g (Nx.refl _ _) s [] repL_nil
theorem VKw.cons {nm : Option Str} {e : Expr} {kpos : Pos} {kws : List Keyword} {m : M D} {ms : M (List D)} (h1 : VE X W env e m) (h2 : VKw X W env kws ms) : VKw X W env (⟨nm, e, kpos⟩ :: kws) (consM m ms) := PK.imp (pk_cons h1 h2) fun σ H Q h => tas_cons h
/-! ### read arguments (of built-ins) -/
def repRL (K : PySem.W.Frag) (σ : L2.St) (g : G) (env : Env') : List D → List V → Prop
  | [], vs => vs = []
  | d :: ds, vs => ∃ v r, vs = v :: r ∧ repR K σ g env d v ∧ repRL K σ g env ds r
theorem repRL.mono : ∀ {ds : List D} {vs : List V}, repRL K σ g env ds vs → Nx H g H' g' → repRL K σ g' env ds vs
  | [], _, r, _ => r
  | _ :: _, _, ⟨v, t, e, r1, r2⟩, n => ⟨v, t, e, r1.mono n, repRL.mono r2 n⟩
def TAr (K : PySem.W.Frag) (W : WX) (env : Env') (m : M (List D)) : TA := fun σ H Q => ∃ g S, SI K σ H g env S ∧ Pst K W σ H g env (fun ds _ H' g' => ∀ vs, repRL K σ g' env ds vs → Q vs H') (m S)
def VAr (X : Cx) (W : WX) (env : Env') (es : List Expr) (m : M (List D)) : Prop := PA X es (TAr X.K W env m)
theorem VAr.nil : VAr X W env [] (M.pure []) := PA.imp pa_nil fun σ H Q ⟨g, S, s, p⟩ => p H g (Nx.refl _ _) s [] rfl
theorem VAr.cons {e : Expr} {es : List Expr} {m : M D} {ms : M (List D)} (h1 : VR X W env e m) (h2 : VAr X W env es ms) (hs : starEach (e :: es) X.env = (false, eval e X.env) :: starEach es X.env := by rfl) : VAr X W env (e :: es) (consM m ms) :=
  PA.imp (pa_cons h1 h2 hs) fun σ H Q ⟨g, S, s, p⟩ => ⟨g, S, s, p.bind.mono fun d S1 H1 g1 n1 s1 p1 v r => ⟨g1, S1, s1, p1.bind.mono fun ds S2 H2 g2 n2 s2 p2 vs rs => p2 H2 g2 (Nx.refl _ _) s2 (v :: vs) ⟨v, vs, rfl, r.mono n2, rs⟩⟩⟩
/-- what a built-in's reading asks, by data -/
def SpC (K : PySem.W.Frag) (r : List V → Hp → VK → Prop) (f : List D → M D) : Prop := ∀ (W : WX) (σ : L2.St) (H : Hp) (g : G) (env : Env') (S : Store) (ds : List D) (vs : List V) (Q : L2.VK), SI K σ H g env S → repRL K σ g env ds vs → Pst K W σ H g env (QE K Q) (f ds S) → r vs H Q
def SpCN (K : PySem.W.Frag) (r : List V → Hp → VK → Prop) (f : List D → M D) : Prop := ∀ (W : WX) (σ : L2.St) (H : Hp) (g : G) (env : Env') (S : Store) (ds : List D) (vs : List V) (Q : L2.VK), SI K σ H g env S → repRL K σ g env ds vs → Pst K W σ H g env (QN K H Q) (f ds S) → r vs H Q
theorem VE.callB {x : Str} {p pos : Pos} {id : String} {e : Expr} {es : List Expr} {r : List V → Hp → L2.VK → Prop} {f : List D → M D} {ma : M (List D)} (hc : CallR X (.builtin id) r) (hf : SpC X.K r f) (hg : Gl X x) (hm : X.mg x = none) (hv : bootBuiltins x = some (.builtin id)) (ha : VAr X W env (e :: es) ma)
    (hn : x ≠ "__name__" := by decide) (hdb : (x == ("__debug__" : Str)) = false := by decide) (he : starEach (e :: es) X.env = (false, eval e X.env) :: starEach es X.env := by rfl) (hpl : (backTo pos (starEach es X.env)).any (·.1) = false := by rfl) : VE X W env (.Call (.Name x p) (e :: es) [] pos) (ma.bind f) :=
  PE.imp (pe_callB hc hg hm hv ha hn hdb he hpl) fun σ H Q ⟨g, S, s, q⟩ => ⟨g, S, s, q.bind.mono fun ds S1 H1 g1 n1 s1 p1 vs rs => hf W σ H1 g1 env S1 ds vs Q s1 rs p1⟩
theorem VE.callTy {x : Str} {p pos : Pos} {T : String} {e : Expr} {es : List Expr} {r : List V → Hp → L2.VK → Prop} {f : List D → M D} {ma : M (List D)} (hc : CallR X (.type T) r) (hf : SpC X.K r f) (hg : Gl X x) (hm : X.mg x = none) (hv : bootBuiltins x = some (.type T)) (ha : VAr X W env (e :: es) ma)
    (hn : x ≠ "__name__" := by decide) (hdb : (x == ("__debug__" : Str)) = false := by decide) (he : starEach (e :: es) X.env = (false, eval e X.env) :: starEach es X.env := by rfl) (hpl : (backTo pos (starEach es X.env)).any (·.1) = false := by rfl) : VE X W env (.Call (.Name x p) (e :: es) [] pos) (ma.bind f) :=
  PE.imp (pe_callTy hc hg hm hv ha hn hdb he hpl) fun σ H Q ⟨g, S, s, q⟩ => ⟨g, S, s, q.bind.mono fun ds S1 H1 g1 n1 s1 p1 vs rs => hf W σ H1 g1 env S1 ds vs Q s1 rs p1⟩
theorem Pst.newN {r : Res D} {Q : L2.VK} (n1 : Nx H g H' g') (h : Pst K W σ H' g' env (QN K H Q) r) : Pst K W σ H' g' env (QN K H' Q) r := h.mono fun d S2 H2 g2 n2 s2 q p L hp => q p L (by
  cases e : H p with
  | none => rfl
  | some u => exact absurd hp (n1.stay p (by rw [e]; simp)))
theorem VN.callTy {x : Str} {p pos : Pos} {T : String} {e : Expr} {es : List Expr} {r : List V → Hp → L2.VK → Prop} {f : List D → M D} {ma : M (List D)} (hc : CallR X (.type T) r) (hf : SpCN X.K r f) (hg : Gl X x) (hm : X.mg x = none) (hv : bootBuiltins x = some (.type T)) (ha : VAr X W env (e :: es) ma)
    (hn : x ≠ "__name__" := by decide) (hdb : (x == ("__debug__" : Str)) = false := by decide) (he : starEach (e :: es) X.env = (false, eval e X.env) :: starEach es X.env := by rfl) (hpl : (backTo pos (starEach es X.env)).any (·.1) = false := by rfl) : VN X W env (.Call (.Name x p) (e :: es) [] pos) (ma.bind f) :=
  PE.imp (pe_callTy hc hg hm hv ha hn hdb he hpl) fun σ H Q ⟨g, S, s, q⟩ => ⟨g, S, s, q.bind.mono fun ds S1 H1 g1 n1 s1 p1 vs rs => hf W σ H1 g1 env S1 ds vs Q s1 rs (Pst.newN n1 p1)⟩
theorem VN.callB {x : Str} {p pos : Pos} {id : String} {e : Expr} {es : List Expr} {r : List V → Hp → L2.VK → Prop} {f : List D → M D} {ma : M (List D)} (hc : CallR X (.builtin id) r) (hf : SpCN X.K r f) (hg : Gl X x) (hm : X.mg x = none) (hv : bootBuiltins x = some (.builtin id)) (ha : VAr X W env (e :: es) ma)
    (hn : x ≠ "__name__" := by decide) (hdb : (x == ("__debug__" : Str)) = false := by decide) (he : starEach (e :: es) X.env = (false, eval e X.env) :: starEach es X.env := by rfl) (hpl : (backTo pos (starEach es X.env)).any (·.1) = false := by rfl) : VN X W env (.Call (.Name x p) (e :: es) [] pos) (ma.bind f) :=
  PE.imp (pe_callB hc hg hm hv ha hn hdb he hpl) fun σ H Q ⟨g, S, s, q⟩ => ⟨g, S, s, q.bind.mono fun ds S1 H1 g1 n1 s1 p1 vs rs => hf W σ H1 g1 env S1 ds vs Q s1 rs (Pst.newN n1 p1)⟩
/-! ### displays -/
def mkL (ds : List D) : M D := req (ds.length ≤ sizeLine) (M.pure (.lst ds))
def mkT (ds : List D) : M D := req (ds.length ≤ sizeLine) (M.pure (.tup ds))
theorem VN.lst {es : List Expr} {pos : Pos} {ma : M (List D)} (ha : VA X W env es ma) : VN X W env (.List es pos) (ma.bind mkL) :=
  PE.imp (pe_lst ha) fun σ H Q ⟨g, S, s, q⟩ => ⟨g, S, s, q.bind.mono fun ds S1 H1 g1 n1 s1 p1 vs rs => by
    have hl := repL_length rs
    obtain ⟨hz, p2⟩ := p1.req
    exact ⟨by omega, newN s1 (fun p hp => own_lst (by omega) rs) (Pst.newN n1 p2)⟩⟩
theorem VE.tup {es : List Expr} {x1} {pos : Pos} {ma : M (List D)} (ha : VA X W env es ma) : VE X W env (.Tuple es x1 pos) (ma.bind mkT) :=
  PE.imp (pe_tup ha) fun σ H Q ⟨g, S, s, q⟩ => ⟨g, S, s, q.bind.mono fun ds S1 H1 g1 n1 s1 p1 vs rs => by
    have hl := repL_length rs
    obtain ⟨hz, p2⟩ := p1.req
    exact ⟨by omega, newTE s1 (by omega) rs p2⟩⟩
end
/-! ### calls of defs -/
def PstC (K : PySem.W.Frag) (rk : Bool) (H : Hp) (g : G) (Q : L2.VK) (E : XK) : Res D → Prop
  | .ok d S' => RetOk K rk H g d S' Q
  | .exc c ns vs S' => ∀ H' g' dx, Nx H g H' g' → SG K H' g' S' → XdAt K H' g' dx ns vs → E (.ref (He.ga K c)) (some dx) H'
  | .bad => False
/-- the function at f, called with keywords ks: its mirror m of the positional data and the keywords' data -/
def CallOk (P : Program) (w : World) (K : PySem.W.Frag) (mg : Str → Option Value) (base : Heap) (k : Nat) (f : Addr) (ks : List Str) (rk : Bool) (m : List D → List D → M D) : Prop :=
  ∀ (A : Around) (outer : List Env) (s : Shared) (H : Hp) (us ws : List Value) (vs zs : List V) (Q : L2.VK) (E : XK) (g : G) (S : Store) (ds es : List D), Room k A → Env0 P w K mg base A outer s H → Vals vs us → Vals zs ws →
    g.ω = [] → SG K H g S → repL K g.F g.μ ds vs → repL K g.F g.μ es zs → es.length = ks.length → PstC K rk H g Q E (m ds es S) → codeAny (model P w) A (.call (.ref f) ⟨us, ks.zip ws⟩) (CR (L2.CX P w) outer P w H s Q E) s
section
variable {X : Cx} {W : WX} {rk : Bool} {env : Env'} {K : PySem.W.Frag} {σ : L2.St} {H H' : Hp} {g g' : G} {S S' : Store}
abbrev QK (K : PySem.W.Frag) (rk : Bool) (H₀ : Hp) (Q : L2.VK) : D → Store → Hp → G → Prop := match rk with
  | false => QE K Q
  | true => QN K H₀ Q
theorem run_call {pins : List (Addr × Obj)} {s : Shared} {Q : L2.VK} {us ws : List Value} {vs zs : List V} {ds es : List D} {k : Nat} {f : Addr} {ks : List Str} {m : List D → List D → M D} (C : CallOk X.prog X.w X.K X.mg X.base k f ks rk m) (hr : Room k X.A) (tk : Takes X W) (I : Inv X pins σ H s)
    (r : Vals vs us) (rz : Vals zs ws) (si : SI X.K σ H g env S) (rd : repL X.K g.F g.μ ds vs) (re : repL X.K g.F g.μ es zs) (hl : es.length = ks.length)
    (h : Pst X.K W σ H g env (QK X.K rk H Q) (m ds es S)) : wpAny (model X.prog X.w) X.A (call (.ref f) us (ks.zip ws)) (EP X pins σ Q) X.xe s := by
  have hp : PstC X.K rk H g.bare Q (WE W σ) (m ds es S) := by
    cases rk with
    | false =>
      cases e : m ds es S with
      | ok d S1 =>
        rw [e] at h
        exact fun v H' g' n sg r => h H' _ n.call (si.call n sg) v r
      | exc c ns xs S1 =>
        rw [e] at h
        exact fun H' g' dx n sg x => h H' _ dx n.call (si.call n sg) x
      | bad => rw [e] at h; exact h
    | true =>
      cases e : m ds es S with
      | ok d S1 =>
        rw [e] at h
        refine fun p H' g' n sg h1 h2 r hp => h H' { g' with ω := g.ω } n.call (si.call n sg) p ⟨h1, fun z => ?_, h2, r⟩ hp
        exact si.omp p z hp
      | exc c ns xs S1 =>
        rw [e] at h
        exact fun H' g' dx n sg x => h H' _ dx n.call (si.call n sg) x
      | bad => rw [e] at h; exact h
  refine wpAny_call (codeAny_mono (C X.A X.stack s H us ws vs zs Q (WE W σ) g.bare S ds es hr I.env0 r rz rfl si.sg.bare rd re hl hp) fun r s' hq => ?_)
  cases r with
  | error e => exact passAt tk σ pins H s e s' I hq
  | ok fl =>
    cases fl with
    | ret u => exact I.after hq
    | next => exact False.elim hq
    | brk => exact False.elim hq
    | cont => exact False.elim hq
def callM (ma mk : M (List D)) (m : List D → List D → M D) : M D := ma.bind fun ds => mk.bind fun es => m ds es
theorem repL_len2 {ds : List D} {vs : List V} {us : List Value} (r : repL K g.F g.μ ds vs) (v : Vals vs us) : ds.length = us.length := by rw [← repL_length r, v.length]
section
variable {x : Str} {p pos : Pos} {e : Expr} {es : List Expr} {kws : List Keyword} {k : Nat} {f : Addr} {ks : List Str} {m : List D → List D → M D} {ma mk : M (List D)}
theorem QK.step {r : Res D} {Q : L2.VK} (n1 : Nx H g H' g') (h : Pst K W σ H' g' env (QK K rk H Q) r) : Pst K W σ H' g' env (QK K rk H' Q) r := by
  cases rk with
  | false => exact h
  | true => exact Pst.newN n1 h
/-- f(e, .., k = v, ..) -/
theorem call_core (C : CallOk X.prog X.w X.K X.mg X.base k f ks rk m) (hr : Room k X.A) (tk : Takes X W) (hg : Gl X x) (hm : X.mg x = some (.ref f)) (hk : PySem.W.keepIn X.K (.ref f) = true) (ha : VA X W env (e :: es) ma) (hkw : VKw X W env kws mk)
    (hks : (backToKw pos (keywordEach kws X.env)).filterMap (·.1) = ks) (hall : (backToKw pos (keywordEach kws X.env)).all (·.1.isSome) = true) (hdb : (x == ("__debug__" : Str)) = false)
    (hl : ∀ S es S', mk S = .ok es S' → es.length = ks.length)
    (he : starEach (e :: es) X.env = (false, eval e X.env) :: starEach es X.env) (hpl : ((backTo pos (starEach (e :: es) X.env)).any (·.1) || (backToKw pos (keywordEach kws X.env)).any (·.1.isNone)) = false)
    {pins : List (Addr × Obj)} {s : Shared} {Q : L2.VK} (I : Inv X pins σ H s) (si : SI X.K σ H g env S)
    (h : Pst X.K W σ H g env (QK X.K rk H Q) (callM ma mk m S)) : wpAny (model X.prog X.w) X.A (eval (.Call (.Name x p) (e :: es) kws pos) X.env) (EP X pins σ Q) X.xe s := by
  refine wpAny_Call_Name_kw (ld_glob I hg hm ?_ hdb)
  have h1 : Pst X.K W σ H g env (fun ds S1 H1 g1 => Pst X.K W σ H1 g1 env (fun zs S2 H2 g2 => Pst X.K W σ H2 g2 env (QK X.K rk H Q) (m ds zs S2)) (mk S1)) (ma S) :=
    (Pst.bind (f := fun ds => mk.bind fun es => m ds es) h).mono fun ds S1 H1 g1 n1 s1 p1 => Pst.bind p1
  refine PySem.W.callWith_KW (h₀ := X.base) I.ok.mod.kin hk hall (thn (ha.run pos pins s σ H (fun vs H1 => ∃ g1 S1 ds, Nx H g H1 g1 ∧ SI X.K σ H1 g1 env S1 ∧ repL X.K g1.F g1.μ ds vs ∧ Pst X.K W σ H1 g1 env (fun zs S2 H2 g2 => Pst X.K W σ H2 g2 env (QK X.K rk H Q) (m ds zs S2)) (mk S1)) I
    ⟨g, S, si, h1.mono fun ds S1 H1 g1 n1 s1 p1 vs rs => ⟨g1, S1, ds, n1, s1, rs, p1⟩⟩) fun us s1 ⟨vs, H1, I1, r, g1, S1, ds, n1, si1, rd, q⟩ => ?_) hpl he
  refine thn (hkw.run pos pins s1 σ H1 (fun zs H2 => ∃ g2 S2 es, Nx H g H2 g2 ∧ SI X.K σ H2 g2 env S2 ∧ repL X.K g2.F g2.μ ds vs ∧ repL X.K g2.F g2.μ es zs ∧ es.length = ks.length ∧ Pst X.K W σ H2 g2 env (QK X.K rk H Q) (m ds es S2)) I1 ⟨g1, S1, si1, ?_⟩) fun ws s2 ⟨zs, H2, I2, rz, g2, S2, es', n2, si2, rd2, re2, hl2, q2⟩ => ⟨I2.kIn, ?_⟩
  · cases e1 : mk S1 with
    | ok es1 S2 =>
      rw [e1] at q
      have hl1 := hl _ _ _ e1
      exact fun H2 g2 n2 s2 zs rz => ⟨g2, S2, es1, n1.trans n2, s2, repL_mono n2.grow n2.pre _ _ rd, rz, hl1, q H2 g2 n2 s2⟩
    | exc c ns xs S2 => rw [e1] at q; exact q
    | bad => rw [e1] at q; exact q
  · rw [hks]
    exact run_call C hr tk I2 r rz si2 rd2 re2 hl2 (QK.step n2 q2)
/-- f(k = v, ..) -/
theorem call_core0 (C : CallOk X.prog X.w X.K X.mg X.base k f ks rk m) (hr : Room k X.A) (tk : Takes X W) (hg : Gl X x) (hm : X.mg x = some (.ref f)) (hk : PySem.W.keepIn X.K (.ref f) = true) (hkw : VKw X W env kws mk)
    (hks : (backToKw pos (keywordEach kws X.env)).filterMap (·.1) = ks) (hall : (backToKw pos (keywordEach kws X.env)).all (·.1.isSome) = true) (hdb : (x == ("__debug__" : Str)) = false)
    (hl : ∀ S es S', mk S = .ok es S' → es.length = ks.length)
    (hpl : ((backTo pos (starEach [] X.env)).any (·.1) || (backToKw pos (keywordEach kws X.env)).any (·.1.isNone)) = false)
    {pins : List (Addr × Obj)} {s : Shared} {Q : L2.VK} (I : Inv X pins σ H s) (si : SI X.K σ H g env S)
    (h : Pst X.K W σ H g env (QK X.K rk H Q) (callM (M.pure []) mk m S)) : wpAny (model X.prog X.w) X.A (eval (.Call (.Name x p) [] kws pos) X.env) (EP X pins σ Q) X.xe s := by
  refine wpAny_Call_Name_kw (ld_glob I hg hm ?_ hdb)
  have q : Pst X.K W σ H g env (fun zs S2 H2 g2 => Pst X.K W σ H2 g2 env (QK X.K rk H Q) (m [] zs S2)) (mk S) := Pst.bind (f := fun es => m [] es) h
  refine PySem.W.callWith_KW0 (h₀ := X.base) I.ok.mod.kin hk hall ?_ hpl
  refine thn (hkw.run pos pins s σ H (fun zs H2 => ∃ g2 S2 es, Nx H g H2 g2 ∧ SI X.K σ H2 g2 env S2 ∧ repL X.K g2.F g2.μ es zs ∧ es.length = ks.length ∧ Pst X.K W σ H2 g2 env (QK X.K rk H Q) (m [] es S2)) I ⟨g, S, si, ?_⟩) fun ws s2 ⟨zs, H2, I2, rz, g2, S2, es', n2, si2, re2, hl2, q2⟩ => ⟨I2.kIn, ?_⟩
  · cases e1 : mk S with
    | ok es1 S2 =>
      rw [e1] at q
      have hl1 := hl _ _ _ e1
      exact fun H2 g2 n2 s2 zs rz => ⟨g2, S2, es1, n2, s2, rz, hl1, q H2 g2 n2 s2⟩
    | exc c ns xs S2 => rw [e1] at q; exact q
    | bad => rw [e1] at q; exact q
  · rw [hks]
    exact run_call (ds := []) C hr tk I2 .nil rz si2 repL_nil re2 hl2 (QK.step n2 q2)
theorem len_nil : ∀ (S : Store) (es : List D) (S' : Store), (M.pure [] : M (List D)) S = .ok es S' → es.length = 0 := fun S es S' h => by cases h; rfl
theorem len_cons {a : M D} {b : M (List D)} {n : Nat} (h : ∀ (S : Store) (es : List D) (S' : Store), b S = .ok es S' → es.length = n) : ∀ (S : Store) (es : List D) (S' : Store), consM a b S = .ok es S' → es.length = n + 1 := fun S es S' q => by
  unfold consM M.bind at q
  cases e1 : a S with
  | ok d S1 =>
    rw [e1] at q
    dsimp only at q
    cases e2 : b S1 with
    | ok ds S2 =>
      rw [e2] at q
      cases q
      rw [List.length_cons, h _ _ _ e2]
    | exc c ns xs S2 => rw [e2] at q; cases q
    | bad => rw [e2] at q; cases q
  | exc c ns xs S2 => rw [e1] at q; cases q
  | bad => rw [e1] at q; cases q
theorem VE.call (C : CallOk X.prog X.w X.K X.mg X.base k f ks false m) (hr : Room k X.A) (tk : Takes X W) (hg : Gl X x) (hm : X.mg x = some (.ref f)) (hk : PySem.W.keepIn X.K (.ref f) = true) (ha : VA X W env (e :: es) ma) (hkw : VKw X W env kws mk)
    (hl : ∀ S es S', mk S = .ok es S' → es.length = ks.length) (hks : (backToKw pos (keywordEach kws X.env)).filterMap (·.1) = ks := by rfl) (hall : (backToKw pos (keywordEach kws X.env)).all (·.1.isSome) = true := by rfl) (hdb : (x == ("__debug__" : Str)) = false := by decide)
    (he : starEach (e :: es) X.env = (false, eval e X.env) :: starEach es X.env := by rfl) (hpl : ((backTo pos (starEach (e :: es) X.env)).any (·.1) || (backToKw pos (keywordEach kws X.env)).any (·.1.isNone)) = false := by rfl) :
    VE X W env (.Call (.Name x p) (e :: es) kws pos) (callM ma mk m) := ⟨fun pins s σ H Q I ⟨g, S, si, h⟩ => call_core C hr tk hg hm hk ha hkw hks hall hdb hl he hpl I si h⟩
theorem VN.call (C : CallOk X.prog X.w X.K X.mg X.base k f ks true m) (hr : Room k X.A) (tk : Takes X W) (hg : Gl X x) (hm : X.mg x = some (.ref f)) (hk : PySem.W.keepIn X.K (.ref f) = true) (ha : VA X W env (e :: es) ma) (hkw : VKw X W env kws mk)
    (hl : ∀ S es S', mk S = .ok es S' → es.length = ks.length) (hks : (backToKw pos (keywordEach kws X.env)).filterMap (·.1) = ks := by rfl) (hall : (backToKw pos (keywordEach kws X.env)).all (·.1.isSome) = true := by rfl) (hdb : (x == ("__debug__" : Str)) = false := by decide)
    (he : starEach (e :: es) X.env = (false, eval e X.env) :: starEach es X.env := by rfl) (hpl : ((backTo pos (starEach (e :: es) X.env)).any (·.1) || (backToKw pos (keywordEach kws X.env)).any (·.1.isNone)) = false := by rfl) :
    VN X W env (.Call (.Name x p) (e :: es) kws pos) (callM ma mk m) := ⟨fun pins s σ H Q I ⟨g, S, si, h⟩ => call_core C hr tk hg hm hk ha hkw hks hall hdb hl he hpl I si h⟩
theorem VE.call0 (C : CallOk X.prog X.w X.K X.mg X.base k f ks false m) (hr : Room k X.A) (tk : Takes X W) (hg : Gl X x) (hm : X.mg x = some (.ref f)) (hk : PySem.W.keepIn X.K (.ref f) = true) (hkw : VKw X W env kws mk)
    (hl : ∀ S es S', mk S = .ok es S' → es.length = ks.length) (hks : (backToKw pos (keywordEach kws X.env)).filterMap (·.1) = ks := by rfl) (hall : (backToKw pos (keywordEach kws X.env)).all (·.1.isSome) = true := by rfl) (hdb : (x == ("__debug__" : Str)) = false := by decide)
    (hpl : ((backTo pos (starEach [] X.env)).any (·.1) || (backToKw pos (keywordEach kws X.env)).any (·.1.isNone)) = false := by rfl) :
    VE X W env (.Call (.Name x p) [] kws pos) (callM (M.pure []) mk m) := ⟨fun pins s σ H Q I ⟨g, S, si, h⟩ => call_core0 C hr tk hg hm hk hkw hks hall hdb hl hpl I si h⟩
theorem VN.call0 (C : CallOk X.prog X.w X.K X.mg X.base k f ks true m) (hr : Room k X.A) (tk : Takes X W) (hg : Gl X x) (hm : X.mg x = some (.ref f)) (hk : PySem.W.keepIn X.K (.ref f) = true) (hkw : VKw X W env kws mk)
    (hl : ∀ S es S', mk S = .ok es S' → es.length = ks.length) (hks : (backToKw pos (keywordEach kws X.env)).filterMap (·.1) = ks := by rfl) (hall : (backToKw pos (keywordEach kws X.env)).all (·.1.isSome) = true := by rfl) (hdb : (x == ("__debug__" : Str)) = false := by decide)
    (hpl : ((backTo pos (starEach [] X.env)).any (·.1) || (backToKw pos (keywordEach kws X.env)).any (·.1.isNone)) = false := by rfl) :
    VN X W env (.Call (.Name x p) [] kws pos) (callM (M.pure []) mk m) := ⟨fun pins s σ H Q I ⟨g, S, si, h⟩ => call_core0 C hr tk hg hm hk hkw hks hall hdb hl hpl I si h⟩
end
end
/-! ### a def by its body -/
def unE (n : Nat) : Env' := List.replicate n .un
def env0 (N : List Str) (ds : List D) : Env' := ds.map .dat ++ unE (N.length - ds.length)
def fin (rk : Bool) (m : M (Out Unit Empty)) : M D := m.bind fun o => match o with
  | .ret d => M.pure d
  | .next _ => if rk = true then M.bad else M.pure .non
  | .brk b => b.elim
  | .cnt b => b.elim
section
variable {P : Program} {w : World} {K : PySem.W.Frag} {mg : Str → Option Value} {base : Heap} {H : Hp} {g : G} {S : Store}
theorem SI.enter {N : List Str} {ds : List D} {vs : List V} (sg : SG K H g S) (h : g.ω = []) (r : repL K g.F g.μ ds vs) : SI K (start N vs) H g (env0 N ds) S := by
  have hl := repL_length r
  refine ⟨sg, ?_, fun i s e => ?_, fun i j p ⟨d, e⟩ => ?_, fun a z => by rw [h] at z; simp at z⟩
  · unfold env0 L2.start unE
    simp [hl]
  · unfold env0 at e
    by_cases hi : i < ds.length
    · rw [List.getElem?_append_left (by simpa using hi), List.getElem?_map] at e
      rw [List.getElem?_eq_getElem hi] at e
      simp at e
      subst e
      obtain ⟨v, hv, rv⟩ := repL_at r (List.getElem?_eq_getElem hi)
      refine ⟨v, ?_, rv⟩
      unfold L2.start
      rw [List.getElem?_append_left (by simp; omega), List.getElem?_map, hv]; rfl
    · rw [List.getElem?_append_right (by simpa using hi)] at e
      unfold unE at e
      rw [List.getElem?_replicate] at e
      split at e
      · cases e; exact trivial
      · cases e
  · unfold env0 at e
    by_cases hi : i < ds.length
    · rw [List.getElem?_append_left (by simpa using hi), List.getElem?_map, List.getElem?_eq_getElem hi] at e
      simp at e
    · rw [List.getElem?_append_right (by simpa using hi)] at e
      unfold unE at e
      rw [List.getElem?_replicate] at e
      split at e <;> cases e
/-- the wish of a body's exceptions -/
abbrev WF (E : XK) : WX := fun c d _ H => E c d H
theorem fn_ok {x qual : Str} {params : Arguments} {body : List Stmt} {scope : Scope} {dvs : List V} {kws : List (Str × V)} {f : Addr} {fd : FuncData} {N ps : List Str} {n k : Nat} {rk : Bool} {m : List D → M D} (F : FunD K x qual params body scope dvs kws f fd) (Sc : FnScope N ps scope) (hn : ps.length = n)
    (hb : ∀ ds : List D, ds.length = n → ∃ mb : M (Out Unit Empty), m ds = fin rk mb ∧ ∀ (cdv : Value) (A : Around) (outer : List Env) (s : Shared) (H : Hp) (E : XK), Room k (A.deeper (envOfC qual scope s.heap.objs.size f cdv)) →
      VB (cxOf (L2.CX P w) P w K mg base N qual scope f cdv A outer s H E) (WF E) rk (unE N.length) Empty.elim (env0 N ds) body (fun _ => unE N.length) mb) :
    FnOk P w K mg base (L2.CX P w) (k + 1) f fd ps (spOf K n rk m) := by
  refine F.ok Sc (fun vs H Q E ⟨g, S, ds, _, _, r, hl, _⟩ => (repL_length r).trans (hl.trans hn.symm)) fun cdv A outer s H vs Q E hr ⟨g, S, ds, h1, sg, r, hl, p⟩ => ?_
  obtain ⟨mb, em, h⟩ := hb ds hl
  refine ⟨_, h cdv A outer s H E hr, g, S, SI.enter sg h1 r, ?_⟩
  rw [em] at p
  unfold fin M.bind at p
  cases e : mb S with
  | ok o S1 =>
    rw [e] at p
    cases o with
    | ret d => exact p
    | next t =>
      intro σ' H' g' n' s'
      cases rk with
      | true => exact p.elim
      | false => exact p .non H' g' n' s'.sg (by simp only [rep])
    | brk b => exact b.elim
    | cnt b => exact b.elim
  | exc c ns vs S1 =>
    rw [e] at p
    exact fun σ' H' g' dx n' s' x => p H' g' dx n' s'.sg x
  | bad => rw [e] at p; exact p
/-- how a call's arguments bind, by data -/
structure Bd (K : PySem.W.Frag) (fd : FuncData) (ps : List Str) (n : Nat) (ks : List Str) (gD : List D → List D → List D) : Prop where
  ex : ∃ (g : List Value → List Value → List Value) (gV : List V → List V → List V), KBn K fd ps n ks g gV ∧ ∀ (F : Hp) (μ : List Addr) (ds es : List D) (vs zs : List V), repL K F μ ds vs → repL K F μ es zs → repL K F μ (gD ds es) (gV vs zs)
def mCall (n : Nat) (gD : List D → List D → List D) (m : List D → M D) : List D → List D → M D := fun ds es => if ds.length = n then m (gD ds es) else M.bad
theorem callOk {f : Addr} {fd : FuncData} {ps ks : List Str} {n N k : Nat} {rk : Bool} {m : List D → M D} {gD : List D → List D → List D} (F : FnOk P w K mg base (L2.CX P w) k f fd ps (spOf K N rk m)) (B : Bd K fd ps n ks gD)
    (hN : ∀ ds es : List D, ds.length = n → es.length = ks.length → (gD ds es).length = N) : CallOk P w K mg base k f ks rk (mCall n gD m) := by
  intro A outer s H us ws vs zs Q E g S ds es hr e0 r rz hω sg rd re hl p
  unfold mCall at p
  split at p
  · rename_i hd
    obtain ⟨gg, gV, hb, hrel⟩ := B.ex
    have l1 : us.length = n := by rw [← r.length, repL_length rd]; exact hd
    have l2 : ws.length = ks.length := by rw [← rz.length, repL_length re]; exact hl
    have KX : K.In s.heap := e0.mod.kin.keeps fun b o e => (e0.bs b o e).1
    refine F.run A outer s H ⟨us, ks.zip ws⟩ (gg us ws) (gV vs zs) Q E hr e0 (hb.to s us ws KX l1 l2) (hb.rel r rz) ⟨g, S, gD ds es, hω, sg, hrel _ _ _ _ _ _ rd re, hN _ _ hd hl, ?_⟩
    unfold PstC at p
    cases e : m (gD ds es) S <;> rw [e] at p <;> exact p
  · exact p.elim
/-- every parameter is given by its place -/
theorem Bd.plain {fd : FuncData} {ps : List Str} {n : Nat} (hb : Binds K fd ps []) (hn : ps.length = n) : Bd K fd ps n [] (fun ds _ => ds) :=
  ⟨fun us _ => us, fun vs _ => vs, ⟨fun s us ws X l1 _ => by have := hb s us X (by rw [List.append_nil, l1, hn]); rw [List.append_nil] at this; exact this, fun r _ => r⟩, fun _ _ _ _ _ _ r _ => r⟩
end
end VM
namespace VM
open PySem PySem.Spec PyProof.Rows L2
/-- a store's cell is looked into -/
def vw : D → M D
  | .ref k => fun S => match S[k]? with
    | some (some d) => .ok d S
    | _ => .bad
  | d => M.pure d
def repH (K : PySem.W.Frag) (H : Hp) (g : G) : D → V → Prop
  | .lst l, v => ∃ p xs, v = .ref p ∧ H p = some (.lst xs) ∧ xs.length ≤ sizeLine ∧ repL K g.F g.μ l xs
  | .tup l, v => ∃ p xs, v = .ref p ∧ g.F p = some (.tup xs) ∧ xs.length ≤ sizeLine ∧ repL K g.F g.μ l xs
  | .ktp l, v => ∃ p xs, v = .ref p ∧ SqT K g.F p xs ∧ xs.length ≤ sizeLine ∧ repL K g.F g.μ l xs
  | .dk ks vs, v => ∃ p kvs, v = .ref p ∧ Rd H p (.dK kvs) ∧ kvs.map (·.1) = ks ∧ ks.Nodup ∧ ks.length ≤ sizeLine ∧ repL K g.F g.μ vs (kvs.map (·.2))
  | .dt ks vs, v => ∃ p kvs, v = .ref p ∧ Rd H p (.dT kvs) ∧ kvs.map (·.1) = ks ∧ ks.Nodup ∧ ks.length ≤ sizeLine ∧ repL K g.F g.μ vs (kvs.map (·.2))
  | .obj c ns vs, v => ∃ p dx fs, v = .ref p ∧ H p = some (.ins (He.ga K c) dx fs) ∧ fs.map (·.1) = ns ∧ fs.length < 1000 ∧ repL K g.F g.μ vs (fs.map (·.2))
  | .scr ns, v => ∃ p, v = .ref p ∧ SqL K H p (ns.map V.int) ∧ ns.length ≤ sizeLine
  | .int i, v => v = .int i
  | .bl b, v => v = .bl b
  | .str z, v => v = .str z
  | .non, v => v = .non
  | .fn x, v => v = .ref (He.ga K x)
  | .ref _, _ => False
section
variable {X : Cx} {W : WX} {rk : Bool} {env : Env'} {K : PySem.W.Frag} {σ : L2.St} {H H' : Hp} {g g' : G} {S S' : Store} {α : Type}
theorem ownAt_H {p : Addr} {d : D} (r : ownAt K H g.F g.μ p d) : repH K H g d (.ref p) := by
  cases d with
  | lst l => obtain ⟨xs, a, z, b⟩ := r; exact ⟨p, xs, rfl, a, z, b⟩
  | dk ks vs => obtain ⟨xs, a, z⟩ := r; exact ⟨p, xs, rfl, .inl a, z⟩
  | dt ks vs => obtain ⟨xs, a, z⟩ := r; exact ⟨p, xs, rfl, .inl a, z⟩
  | obj c ns vs => obtain ⟨dx, fs, a, z⟩ := r; exact ⟨p, dx, fs, rfl, a, z⟩
  | _ => exact r.elim
theorem rep_H {d : D} {v : V} (s : SG K H g S) (r : rep K g.F g.μ d v) (h : ∀ k, d ≠ .ref k) : repH K H g d v := by
  cases d with
  | ref k => exact absurd rfl (h k)
  | lst l => simp only [rep] at r; obtain ⟨p, xs, e, a, z⟩ := r; exact ⟨p, xs, e, s.sub _ _ a, z⟩
  | tup l => simp only [rep] at r; obtain ⟨p, xs, e, a, z⟩ := r; exact ⟨p, xs, e, a, z⟩
  | dk ks vs => simp only [rep] at r; obtain ⟨p, xs, e, a, z⟩ := r; exact ⟨p, xs, e, s.sub.rd a, z⟩
  | dt ks vs => simp only [rep] at r; obtain ⟨p, xs, e, a, z⟩ := r; exact ⟨p, xs, e, s.sub.rd a, z⟩
  | obj c ns vs => simp only [rep] at r; obtain ⟨p, dx, fs, e, a, z⟩ := r; exact ⟨p, dx, fs, e, s.sub _ _ a, z⟩
  | ktp l => simp only [rep] at r; exact r
  | scr ns => simp only [rep] at r; obtain ⟨p, e, a, z⟩ := r; exact ⟨p, e, s.sub.sqL a, z⟩
  | _ => simpa only [rep, repH] using r
theorem vw_spec {d : D} {v : V} {f : D → M α} {Q : α → Store → Hp → G → Prop} (s : SI K σ H g env S) (r : repR K σ g env d v) (h : Pst K W σ H g env Q (((vw d).bind f) S)) : ∃ d', Pst K W σ H g env Q (f d' S) ∧ repH K H g d' v := by
  by_cases hk : ∃ k, d = .ref k
  · obtain ⟨k, rfl⟩ := hk
    have r' : rep K g.F g.μ (.ref k) v := r.sc s fun p q => q
    simp only [rep] at r'
    obtain ⟨a, ha, rfl⟩ := r'
    unfold vw M.bind at h
    dsimp only at h
    cases e : S[k]? with
    | none => rw [e] at h; exact h.elim
    | some o =>
      cases o with
      | none => rw [e] at h; exact h.elim
      | some d =>
        rw [e] at h
        exact ⟨d, h, ownAt_H (s.sg.st k d a e ha).2⟩
  · have hn : ∀ k, d ≠ .ref k := fun k e => hk ⟨k, e⟩
    refine ⟨d, ?_, ?_⟩
    · have : vw d = M.pure d := by cases d <;> first | rfl | exact absurd rfl (hn _)
      rw [this] at h; exact h
    · rcases r with r | ⟨j, h1, h2⟩
      · exact rep_H s.sg r hn
      · obtain ⟨p, e, _, _, _, r⟩ := s.slot j _ h1
        rw [h2] at e; cases e
        exact ownAt_H r
def Sp2H (K : PySem.W.Frag) (r : R2) (f : D → D → M D) : Prop := ∀ (W : WX) (σ : L2.St) (H : Hp) (g : G) (env : Env') (S : Store) (x y : D) (v w : V) (Q : L2.VK), SI K σ H g env S → repH K H g x v → repH K H g y w → Pst K W σ H g env (QE K Q) (f x y S) → r v w H Q
def vw2 (f : D → D → M D) : D → D → M D := fun x y => (vw x).bind fun a => (vw y).bind fun b => f a b
theorem Sp2H.to {r : R2} {f : D → D → M D} (h : Sp2H K r f) : Sp2 K r (vw2 f) := fun W σ H g env S x y v w Q s r1 r2 p => by
  obtain ⟨a, p1, q1⟩ := vw_spec s r1 p
  obtain ⟨b, p2, q2⟩ := vw_spec s r2 p1
  exact h W σ H g env S a b v w Q s q1 q2 p2
def SpCH (K : PySem.W.Frag) (r : List V → Hp → L2.VK → Prop) (f : D → M D) : Prop := ∀ (W : WX) (σ : L2.St) (H : Hp) (g : G) (env : Env') (S : Store) (x : D) (v : V) (Q : L2.VK), SI K σ H g env S → repH K H g x v → Pst K W σ H g env (QE K Q) (f x S) → r [v] H Q
def SpCHN (K : PySem.W.Frag) (r : List V → Hp → L2.VK → Prop) (f : D → M D) : Prop := ∀ (W : WX) (σ : L2.St) (H : Hp) (g : G) (env : Env') (S : Store) (x : D) (v : V) (Q : L2.VK), SI K σ H g env S → repH K H g x v → Pst K W σ H g env (QN K H Q) (f x S) → r [v] H Q
def one1 (f : D → M D) : List D → M D
  | [x] => (vw x).bind f
  | _ => M.bad
def two2 (f : D → D → M D) : List D → M D
  | [x, y] => (vw x).bind fun a => (vw y).bind fun b => f a b
  | _ => M.bad
theorem SpCH.to {r : List V → Hp → L2.VK → Prop} {f : D → M D} (h : SpCH K r f) : SpC K r (one1 f) := fun W σ H g env S ds vs Q s rs p => by
  cases ds with
  | nil => exact p.elim
  | cons x ds =>
    cases ds with
    | cons y ds => exact p.elim
    | nil =>
      obtain ⟨v, t, e, r1, r2⟩ := rs
      have r2' : t = [] := r2
      subst r2'; subst e
      obtain ⟨a, p1, q1⟩ := vw_spec s r1 p
      exact h W σ H g env S a v Q s q1 p1
theorem SpCHN.to {r : List V → Hp → L2.VK → Prop} {f : D → M D} (h : SpCHN K r f) : SpCN K r (one1 f) := fun W σ H g env S ds vs Q s rs p => by
  cases ds with
  | nil => exact p.elim
  | cons x ds =>
    cases ds with
    | cons y ds => exact p.elim
    | nil =>
      obtain ⟨v, t, e, r1, r2⟩ := rs
      have r2' : t = [] := r2
      subst r2'; subst e
      obtain ⟨a, p1, q1⟩ := vw_spec s r1 p
      exact h W σ H g env S a v Q s q1 p1
theorem two2.to {r : List V → Hp → L2.VK → Prop} {f : D → D → M D} (h : ∀ (W : WX) (σ : L2.St) (H : Hp) (g : G) (env : Env') (S : Store) (x y : D) (v w : V) (Q : L2.VK), SI K σ H g env S → repH K H g x v → repH K H g y w → Pst K W σ H g env (QE K Q) (f x y S) → r [v, w] H Q) : SpC K r (two2 f) := fun W σ H g env S ds vs Q s rs p => by
  cases ds with
  | nil => exact p.elim
  | cons x ds =>
    cases ds with
    | nil => exact p.elim
    | cons y ds =>
      cases ds with
      | cons z ds => exact p.elim
      | nil =>
        obtain ⟨v, t, e, r1, w, u, e2, r2, r3⟩ := rs
        have r3' : u = [] := r3
        subst r3'; subst e2; subst e
        obtain ⟨a, p1, q1⟩ := vw_spec s r1 p
        obtain ⟨b, p2, q2⟩ := vw_spec s r2 p1
        exact h W σ H g env S a b v w Q s q1 q2 p2
theorem QE.now {d : D} {v : V} {Q : L2.VK} (s : SI K σ H g env S) (h : Pst K W σ H g env (QE K Q) (.ok d S)) (r : rep K g.F g.μ d v) : Q v H := h H g (Nx.refl _ _) s v r
/-! ### numbers -/
def aAdd : D → D → M D
  | .int i, .int j => M.pure (.int (i + j))
  | .str a, .str b => req (a.length + b.length ≤ sizeLine) (M.pure (.str (a ++ b)))
  | .lst l, .lst m => req (l.length + m.length ≤ sizeLine) (M.pure (.lst (l ++ m)))
  | .tup l, .tup m => req (l.length ≠ 0 ∧ l.length + m.length ≤ sizeLine) (M.pure (.tup (l ++ m)))
  | _, _ => M.bad
def dAdd := vw2 aAdd
abbrev rAddD (K : PySem.W.Frag) : R2 := fun x y H Q => (rI0 fun i j => .int (i + j)) x y H Q ∨ (∃ i j, x = .str i ∧ y = .str j ∧ i.length + j.length ≤ sizeLine ∧ Q (.str (i ++ j)) H) ∨ rCat x y H Q ∨ rCatT K x y H Q
theorem op_addD : OpR X (binaryOp .Add) (rAddD X.K) := op_add.or (op_add_str.or (op_cat.or op_catT))
theorem repL_nil_iff {l : List D} {xs : List V} (r : repL K g.F g.μ l xs) (e : xs = []) : l = [] := by
  have := repL_length r
  rw [e] at this
  exact List.length_eq_zero_iff.mp this.symm
theorem sp_add : Sp2 K (rAddD K) dAdd := Sp2H.to fun W σ H g env S x y v w Q s r1 r2 p => by
  cases x with
  | int i =>
    cases y with
    | int j => exact .inl ⟨i, j, r1, r2, QE.now s p (by simp only [rep])⟩
    | _ => exact p.elim
  | str a =>
    cases y with
    | str b =>
      obtain ⟨hz, p⟩ := Pst.req p
      exact .inr (.inl ⟨a, b, r1, r2, hz, QE.now s p (by simp only [rep])⟩)
    | _ => exact p.elim
  | lst l =>
    cases y with
    | lst m =>
      obtain ⟨hz, p⟩ := Pst.req p
      obtain ⟨a, xs, e1, h1, z1, b1⟩ := r1
      obtain ⟨b, ys, e2, h2, z2, b2⟩ := r2
      have l1 := repL_length b1
      have l2 := repL_length b2
      have z3 : xs.length + ys.length ≤ sizeLine := by omega
      exact .inr (.inr (.inl ⟨a, b, xs, ys, e1, e2, h1, h2, z3, newE s (fun p hp => own_lst (by rw [List.length_append]; exact z3) (repL_append b1 b2)) p⟩))
    | _ => exact p.elim
  | tup l =>
    cases y with
    | tup m =>
      obtain ⟨hz, p⟩ := Pst.req p
      obtain ⟨a, xs, e1, h1, z1, b1⟩ := r1
      obtain ⟨b, ys, e2, h2, z2, b2⟩ := r2
      have l1 := repL_length b1
      have l2 := repL_length b2
      have z3 : xs.length + ys.length ≤ sizeLine := by omega
      refine .inr (.inr (.inr ⟨a, b, xs, ys, e1, e2, SqT.of (s.sg.sub _ _ h1), SqT.of (s.sg.sub _ _ h2), fun z => hz.1 (by rw [z] at l1; exact l1.symm), z3, fun z => ?_, fun _ => newTE s (by rw [List.length_append]; exact z3) (repL_append b1 b2) p⟩))
      have em := repL_nil_iff b2 z
      rw [em, List.append_nil] at p
      exact QE.now s p (by simp only [rep]; exact ⟨a, xs, rfl, h1, z1, b1⟩)
    | _ => exact p.elim
  | _ => exact p.elim
/-- two ints -/
def aInt (f : Int → Int → M D) : D → D → M D
  | .int i, .int j => f i j
  | _, _ => M.bad
def dInt2 (f : Int → Int → M D) := vw2 (aInt f)
theorem sp_int2 {r : R2} {f : Int → Int → M D} (h : ∀ (W : WX) (σ : L2.St) (H : Hp) (g : G) (env : Env') (S : Store) (i j : Int) (Q : L2.VK), SI K σ H g env S → Pst K W σ H g env (QE K Q) (f i j S) → r (.int i) (.int j) H Q) : Sp2 K r (dInt2 f) := Sp2H.to fun W σ H g env S x y v w Q s r1 r2 p => by
  cases x with
  | int i =>
    cases y with
    | int j =>
      have e1 : v = .int i := r1
      have e2 : w = .int j := r2
      subst e1; subst e2
      exact h W σ H g env S i j Q s p
    | _ => exact p.elim
  | _ => exact p.elim
def dSub := dInt2 fun i j => M.pure (.int (i - j))
theorem sp_sub : Sp2 K (rI0 fun i j => .int (i - j)) dSub := sp_int2 fun W σ H g env S i j Q s p => ⟨i, j, rfl, rfl, QE.now s p (by simp only [rep])⟩
instance (i j : Int) : Decidable (CMulW i j) := by unfold CMulW; infer_instance
instance (i j : Int) : Decidable (CDivW i j) := by unfold CDivW; infer_instance
instance (i j : Int) : Decidable (CPow i j) := by unfold CPow; infer_instance
def aMul : D → D → M D
  | .int i, .int j => req (CMulW i j) (M.pure (.int (i * j)))
  | .lst l, .int j => req (-(2 ^ 63) ≤ j ∧ j < 2 ^ 63 ∧ l.length * j.toNat ≤ sizeLine) (M.pure (.lst (List.replicate j.toNat l).flatten))
  | _, _ => M.bad
def dMul := vw2 aMul
theorem repL_rep {l : List D} {xs : List V} (r : repL K g.F g.μ l xs) : ∀ n : Nat, repL K g.F g.μ (List.replicate n l).flatten (List.replicate n xs).flatten
  | 0 => repL_nil
  | n + 1 => by rw [List.replicate_succ, List.replicate_succ, List.flatten_cons, List.flatten_cons]; exact repL_append r (repL_rep r n)
abbrev rMulD : R2 := fun x y H Q => (rI CMulW fun i j => .int (i * j)) x y H Q ∨ rRep x y H Q
theorem op_mulD : OpR X (binaryOp .Mult) rMulD := op_mulW.or op_rep
theorem sp_mul : Sp2 K rMulD dMul := Sp2H.to fun W σ H g env S x y v w Q s r1 r2 p => by
  cases x with
  | int i =>
    cases y with
    | int j =>
      obtain ⟨hz, p⟩ := Pst.req p
      exact .inl ⟨i, j, r1, r2, hz, QE.now s p (by simp only [rep])⟩
    | _ => exact p.elim
  | lst l =>
    cases y with
    | int j =>
      obtain ⟨hz, p⟩ := Pst.req p
      obtain ⟨a, xs, e1, h1, z1, b1⟩ := r1
      have l1 := repL_length b1
      have e2 : w = .int j := r2
      refine .inr ⟨a, j, xs, e1, e2, h1, hz.1, hz.2.1, by rw [l1]; exact hz.2.2, newE s (fun p hp => own_lst ?_ (repL_rep b1 _)) p⟩
      rw [List.length_flatten, List.map_replicate, List.sum_replicate_nat, l1, Nat.mul_comm]
      exact hz.2.2
    | _ => exact p.elim
  | _ => exact p.elim
def dFdiv := dInt2 fun i j => req (CDivW i j) (M.pure (.int (i / j)))
theorem sp_fdiv : Sp2 K (rI CDivW fun i j => .int (i / j)) dFdiv := sp_int2 fun W σ H g env S i j Q s p => by
  obtain ⟨hz, p⟩ := Pst.req p
  exact ⟨i, j, rfl, rfl, hz, QE.now s p (by simp only [rep])⟩
def dMod := dInt2 fun i j => req (0 < j) (M.pure (.int (i % j)))
theorem sp_mod : Sp2 K (rI (fun _ j => 0 < j) fun i j => .int (i % j)) dMod := sp_int2 fun W σ H g env S i j Q s p => by
  obtain ⟨hz, p⟩ := Pst.req p
  exact ⟨i, j, rfl, rfl, hz, QE.now s p (by simp only [rep])⟩
def dPow := dInt2 fun i j => req (CPow i j) (M.pure (.int (i ^ j.toNat)))
theorem sp_pow : Sp2 K (rI CPow fun i j => .int (i ^ j.toNat)) dPow := sp_int2 fun W σ H g env S i j Q s p => by
  obtain ⟨hz, p⟩ := Pst.req p
  exact ⟨i, j, rfl, rfl, hz, QE.now s p (by simp only [rep])⟩
def dShl := dInt2 fun i j => req (CPow i j) (M.pure (.int (i * 2 ^ j.toNat)))
theorem sp_shl : Sp2 K (rI CPow fun i j => .int (i * 2 ^ j.toNat)) dShl := sp_int2 fun W σ H g env S i j Q s p => by
  obtain ⟨hz, p⟩ := Pst.req p
  exact ⟨i, j, rfl, rfl, hz, QE.now s p (by simp only [rep])⟩
def dShr := dInt2 fun i j => req (0 ≤ j) (M.pure (.int (i / 2 ^ j.toNat)))
theorem sp_shr : Sp2 K (rI (fun _ j => 0 ≤ j) fun i j => .int (i / 2 ^ j.toNat)) dShr := sp_int2 fun W σ H g env S i j Q s p => by
  obtain ⟨hz, p⟩ := Pst.req p
  exact ⟨i, j, rfl, rfl, hz, QE.now s p (by simp only [rep])⟩
def dBitAnd := dInt2 fun i j => M.pure (.int (Builtin.bitAnd i j))
theorem sp_bitAnd : Sp2 K (rI0 fun i j => .int (Builtin.bitAnd i j)) dBitAnd := sp_int2 fun W σ H g env S i j Q s p => ⟨i, j, rfl, rfl, QE.now s p (by simp only [rep])⟩
def aNeg : D → M D
  | .int i => M.pure (.int (-i))
  | _ => M.bad
def dNeg (x : D) : M D := (vw x).bind aNeg
theorem sp_neg : Sp1 K (rU fun i => .int (-i)) dNeg := fun W σ H g env S x v Q s r p => by
  obtain ⟨a, p1, q1⟩ := vw_spec s r p
  cases a with
  | int i => exact ⟨i, q1, QE.now s p1 (by simp only [rep])⟩
  | _ => exact p1.elim
/-! ### order -/
def aLt : D → D → M D
  | .int i, .int j => M.pure (.bl (decide (i < j)))
  | _, _ => M.bad
def dLt := dInt2 fun i j => M.pure (.bl (decide (i < j)))
def dLe := dInt2 fun i j => M.pure (.bl (decide (i ≤ j)))
def dGt := dInt2 fun i j => M.pure (.bl (decide (j < i)))
def dGe := dInt2 fun i j => M.pure (.bl (decide (j ≤ i)))
theorem sp_lt : Sp2 K (rI0 fun i j => .bl (decide (i < j))) dLt := sp_int2 fun W σ H g env S i j Q s p => ⟨i, j, rfl, rfl, QE.now s p (by simp only [rep])⟩
theorem sp_le : Sp2 K (rI0 fun i j => .bl (decide (i ≤ j))) dLe := sp_int2 fun W σ H g env S i j Q s p => ⟨i, j, rfl, rfl, QE.now s p (by simp only [rep])⟩
theorem sp_gt : Sp2 K (rI0 fun i j => .bl (decide (j < i))) dGt := sp_int2 fun W σ H g env S i j Q s p => ⟨i, j, rfl, rfl, QE.now s p (by simp only [rep])⟩
theorem sp_ge : Sp2 K (rI0 fun i j => .bl (decide (j ≤ i))) dGe := sp_int2 fun W σ H g env S i j Q s p => ⟨i, j, rfl, rfl, QE.now s p (by simp only [rep])⟩
/-! ### is None -/
def isNon : D → Bool
  | .non => true
  | _ => false
theorem isNon_v {d : D} {v : V} (r : repH K H g d v) : decide (v = .non) = isNon d := by
  cases d with
  | non => have e : v = .non := r; subst e; rfl
  | int i => have e : v = .int i := r; subst e; rfl
  | bl i => have e : v = .bl i := r; subst e; rfl
  | str i => have e : v = .str i := r; subst e; rfl
  | fn i => have e : v = .ref _ := r; subst e; rfl
  | ref k => exact r.elim
  | scr ns => obtain ⟨p, e, _⟩ := r; subst e; rfl
  | obj c ns vs => obtain ⟨p, _, _, e, _⟩ := r; subst e; rfl
  | _ => obtain ⟨p, _, e, _⟩ := r; subst e; rfl
def aIsN : D → D → M D
  | x, .non => M.pure (.bl (isNon x))
  | _, _ => M.bad
def aNotN : D → D → M D
  | x, .non => M.pure (.bl (!isNon x))
  | _, _ => M.bad
def dIsN := vw2 aIsN
def dNotN := vw2 aNotN
theorem sp_isN : Sp2 K (fun x y H Q => y = .non ∧ Q (.bl (decide (x = .non))) H) dIsN := Sp2H.to fun W σ H g env S x y v w Q s r1 r2 p => by
  cases y with
  | non => exact ⟨r2, by rw [isNon_v (d := x) r1]; have p2 : Pst K W σ H g env (QE K Q) (.ok (.bl (isNon x)) S) := (by cases x <;> exact p); exact QE.now s p2 (by simp only [rep])⟩
  | _ => cases x <;> exact p.elim
theorem sp_notN : Sp2 K (fun x y H Q => y = .non ∧ Q (.bl (!decide (x = .non))) H) dNotN := Sp2H.to fun W σ H g env S x y v w Q s r1 r2 p => by
  cases y with
  | non => exact ⟨r2, by rw [isNon_v (d := x) r1]; have p2 : Pst K W σ H g env (QE K Q) (.ok (.bl (!isNon x)) S) := (by cases x <;> exact p); exact QE.now s p2 (by simp only [rep])⟩
  | _ => cases x <;> exact p.elim
end
end VM
namespace VM
open PySem PySem.Spec PyProof.Rows L2
section
variable {X : Cx} {W : WX} {rk : Bool} {env : Env'} {K : PySem.W.Frag} {σ : L2.St} {H H' : Hp} {g g' : G} {S S' : Store} {α : Type}
/-! ### equality of data -/
mutual
def toP : D → Option PyData
  | .non => some .none
  | .bl b => some (.bool b)
  | .int i => some (.int i)
  | .str z => some (.str z)
  | .lst l => (toPL l).map .list
  | .tup l => (toPL l).map .tuple
  | _ => none
def toPL : List D → Option (List PyData)
  | [] => some []
  | d :: l => match toP d, toPL l with
    | some p, some ps => some (p :: ps)
    | _, _ => none
end
mutual
theorem dp_of (h : LeF g.F H) : ∀ (d : D) (v : V) (p : PyData), rep K g.F g.μ d v → toP d = some p → Dp K H v p
  | .non, v, p, r, e => by simp only [rep] at r; simp only [toP] at e; cases e; subst r; exact .non
  | .bl b, v, p, r, e => by simp only [rep] at r; simp only [toP] at e; cases e; subst r; exact .bl b
  | .int i, v, p, r, e => by simp only [rep] at r; simp only [toP] at e; cases e; subst r; exact .int i
  | .str z, v, p, r, e => by simp only [rep] at r; simp only [toP] at e; cases e; subst r; exact .str z
  | .lst l, v, p, r, e => by
    simp only [rep] at r
    obtain ⟨a, xs, rfl, ha, _, b⟩ := r
    simp only [toP] at e
    cases q : toPL l with
    | none => rw [q] at e; cases e
    | some ps => rw [q] at e; cases e; exact .lst (.of (h _ _ ha)) (dpL_of h l xs ps b q)
  | .tup l, v, p, r, e => by
    simp only [rep] at r
    obtain ⟨a, xs, rfl, ha, _, b⟩ := r
    simp only [toP] at e
    cases q : toPL l with
    | none => rw [q] at e; cases e
    | some ps => rw [q] at e; cases e; exact .tup (.of (h _ _ ha)) (dpL_of h l xs ps b q)
  | .dk _ _, _, _, _, e => by simp only [toP] at e; cases e
  | .dt _ _, _, _, _, e => by simp only [toP] at e; cases e
  | .obj _ _ _, _, _, _, e => by simp only [toP] at e; cases e
  | .ref _, _, _, _, e => by simp only [toP] at e; cases e
  | .fn _, _, _, _, e => by simp only [toP] at e; cases e
  | .scr _, _, _, _, e => by simp only [toP] at e; cases e
  | .ktp _, _, _, _, e => by simp only [toP] at e; cases e
theorem dpL_of (h : LeF g.F H) : ∀ (l : List D) (xs : List V) (ps : List PyData), repL K g.F g.μ l xs → toPL l = some ps → DpAll K H xs ps
  | [], xs, ps, r, e => by simp only [repL] at r; simp only [toPL] at e; cases e; subst r; exact .nil
  | d :: l, xs, ps, r, e => by
    simp only [repL] at r
    obtain ⟨v, t, rfl, a, b⟩ := r
    simp only [toPL] at e
    cases q : toP d with
    | none => rw [q] at e; cases e
    | some p =>
      cases q2 : toPL l with
      | none => rw [q, q2] at e; cases e
      | some ps' => rw [q, q2] at e; cases e; exact .cons (dp_of h d v p a q) (dpL_of h l t ps' b q2)
end
theorem dpH_of {d : D} {v : V} {p : PyData} (s : SG K H g S) (r : repH K H g d v) (e : toP d = some p) : Dp K H v p := by
  cases d with
  | lst l =>
    obtain ⟨a, xs, rfl, ha, _, b⟩ := r
    simp only [toP] at e
    cases q : toPL l with
    | none => rw [q] at e; cases e
    | some ps => rw [q] at e; cases e; exact .lst (.of ha) (dpL_of s.sub l xs ps b q)
  | tup l =>
    obtain ⟨a, xs, rfl, ha, _, b⟩ := r
    simp only [toP] at e
    cases q : toPL l with
    | none => rw [q] at e; cases e
    | some ps => rw [q] at e; cases e; exact .tup (.of (s.sub _ _ ha)) (dpL_of s.sub l xs ps b q)
  | non => have e1 : v = .non := r; subst e1; simp only [toP] at e; cases e; exact .non
  | bl b => have e1 : v = .bl b := r; subst e1; simp only [toP] at e; cases e; exact .bl b
  | int b => have e1 : v = .int b := r; subst e1; simp only [toP] at e; cases e; exact .int b
  | str b => have e1 : v = .str b := r; subst e1; simp only [toP] at e; cases e; exact .str b
  | _ => simp only [toP] at e; cases e
/-- == of data -/
def eqD (x y : D) : M Bool := match toP x, toP y with
  | some p, some q => req (SeqAt.shaped p = true ∧ SeqAt.shaped q = true) (M.pure (PyData.eqv p q))
  | _, _ => M.bad
def aEq (x y : D) : M D := (eqD x y).bind fun b => M.pure (.bl b)
def aNe (x y : D) : M D := (eqD x y).bind fun b => M.pure (.bl !b)
def dEq := vw2 aEq
def dNe := vw2 aNe
theorem eqD_spec {x y : D} {v w : V} {f : Bool → M α} {Q : α → Store → Hp → G → Prop} (s : SI K σ H g env S) (r1 : repH K H g x v) (r2 : repH K H g y w) (h : Pst K W σ H g env Q (((eqD x y).bind f) S)) :
    ∃ p q, Dp K H v p ∧ Dp K H w q ∧ SeqAt.shaped p = true ∧ SeqAt.shaped q = true ∧ Pst K W σ H g env Q (f (PyData.eqv p q) S) := by
  unfold eqD at h
  cases e1 : toP x with
  | none => rw [e1] at h; exact h.elim
  | some p =>
    cases e2 : toP y with
    | none => rw [e1, e2] at h; exact h.elim
    | some q =>
      rw [e1, e2] at h
      dsimp only at h
      by_cases hc : SeqAt.shaped p = true ∧ SeqAt.shaped q = true
      · rw [req_pos hc] at h
        exact ⟨p, q, dpH_of s.sg r1 e1, dpH_of s.sg r2 e2, hc.1, hc.2, h⟩
      · unfold req at h; rw [if_neg hc] at h; exact h.elim
theorem sp_eq : Sp2 K (rEqD K) dEq := Sp2H.to fun W σ H g env S x y v w Q s r1 r2 p => by
  obtain ⟨a, b, h1, h2, h3, h4, p2⟩ := eqD_spec (f := fun b => M.pure (D.bl b)) s r1 r2 p
  exact ⟨a, b, h1, h2, h3, h4, QE.now s p2 (by simp only [rep])⟩
theorem sp_ne : Sp2 K (rNeD K) dNe := Sp2H.to fun W σ H g env S x y v w Q s r1 r2 p => by
  obtain ⟨a, b, h1, h2, h3, h4, p2⟩ := eqD_spec (f := fun b => M.pure (D.bl !b)) s r1 r2 p
  exact ⟨a, b, h1, h2, h3, h4, QE.now s p2 (by simp only [rep])⟩
/-! ### isinstance of built-in types -/
def tyOf : D → Option String
  | .non => some "NoneType"
  | .bl _ => some "bool"
  | .int _ => some "int"
  | .str _ => some "str"
  | .lst _ => some "list"
  | .tup _ => some "tuple"
  | .dk _ _ => some "dict"
  | _ => none
theorem tyx_of {d : D} {v : V} {t : String} (s : SG K H g S) (r : repH K H g d v) (e : tyOf d = some t) : TyX K H v (.type t) := by
  cases d with
  | non => have e1 : v = .non := r; subst e1; cases e; exact .base .non
  | bl b => have e1 : v = .bl b := r; subst e1; cases e; exact .base (.bl b)
  | int b => have e1 : v = .int b := r; subst e1; cases e; exact .base (.int b)
  | str b => have e1 : v = .str b := r; subst e1; cases e; exact .base (.str b)
  | lst l => obtain ⟨a, xs, rfl, ha, _⟩ := r; cases e; exact .base (.lst ha)
  | tup l => obtain ⟨a, xs, rfl, ha, _⟩ := r; cases e; exact .base (.tup (s.sub _ _ ha))
  | dk ks vs =>
    obtain ⟨a, xs, rfl, ha, _⟩ := r
    cases e
    rcases ha with ha | ⟨o, ha⟩
    · exact .base (.dK ha)
    · exact .fDict ha
  | _ => cases e
def isTy (T : String) (d : D) : M D := match tyOf d with
  | some t => (match kitB t T with
    | some b => M.pure (.bl b)
    | none => M.bad)
  | none => M.bad
def dIsi (T : String) (d : D) : M D := (vw d).bind (isTy T)
theorem VE.isi {e : Expr} {p p2 pos : Pos} {T : String} {tn : Str} {m : M D} (hg : Gl X "isinstance") (hm : X.mg "isinstance" = none) (hT : PE X (.Name tn p2) (tC (.ty T))) (he : VR X W env e m)
    (hst : starEach [e, .Name tn p2] X.env = [(false, eval e X.env), (false, eval (.Name tn p2) X.env)] := by rfl) (hst2 : starEach [.Name tn p2] X.env = [(false, eval (.Name tn p2) X.env)] := by rfl) (hpl : (backTo pos (starEach [.Name tn p2] X.env)).any (·.1) = false := by rfl) :
    VE X W env (.Call (.Name "isinstance" p) [e, .Name tn p2] [] pos) (m.bind (dIsi T)) :=
  PE.imp (pe_callB call_isi hg hm (by decide +kernel) (pa_cons he (pa_cons hT pa_nil hst2) hst) (by decide) (by decide) hst hpl) fun σ H Q ⟨g, S, s, q⟩ => ⟨g, S, s, q.bind.mono fun d S1 H1 g1 n1 s1 p1 v rv => by
    obtain ⟨d', p2, r2⟩ := vw_spec s1 rv p1
    unfold isTy at p2
    cases e1 : tyOf d' with
    | none => rw [e1] at p2; exact p2.elim
    | some t =>
      rw [e1] at p2
      dsimp only at p2
      cases e2 : kitB t T with
      | none => rw [e2] at p2; exact p2.elim
      | some b =>
        rw [e2] at p2
        exact ⟨v, .ty T, .type t, .type T, b, rfl, .ty T, tyx_of s1.sg r2 e1, kit_ty e2, QE.now s1 p2 (by simp only [rep])⟩⟩
/-- isinstance(e, (T1, T2)) -/
def isTy2 (T1 T2 : String) (d : D) : M D := match tyOf d with
  | some t => (match kitB t T1 with
    | some true => M.pure (.bl true)
    | some false => (match kitB t T2 with
      | some b => M.pure (.bl b)
      | none => M.bad)
    | none => M.bad)
  | none => M.bad
def dIsi2 (T1 T2 : String) (d : D) : M D := (vw d).bind (isTy2 T1 T2)
theorem kitAny2 {t T1 T2 : String} {b : Bool} (h : kitB t T1 = some true ∧ b = true ∨ kitB t T1 = some false ∧ kitB t T2 = some b) : PySem.W.kitAny K (.type t) [.type T1, .type T2] = some b := by
  unfold PySem.W.kitAny
  rcases h with ⟨h, rfl⟩ | ⟨h, h2⟩
  · rw [kit_ty h]
  · rw [kit_ty h]
    dsimp only
    unfold PySem.W.kitAny
    rw [kit_ty h2]
    cases b <;> rfl
theorem VE.isi2 {e : Expr} {p p1 p2 p3 pos : Pos} {x1} {T1 T2 : String} {t1 t2 : Str} {m : M D} (hg : Gl X "isinstance") (hm : X.mg "isinstance" = none) (hT1 : PE X (.Name t1 p1) (tC (.ty T1))) (hT2 : PE X (.Name t2 p2) (tC (.ty T2))) (he : VR X W env e m)
    (hst : starEach [e, .Tuple [.Name t1 p1, .Name t2 p2] x1 p3] X.env = [(false, eval e X.env), (false, eval (.Tuple [.Name t1 p1, .Name t2 p2] x1 p3) X.env)] := by rfl)
    (hst2 : starEach [.Tuple [.Name t1 p1, .Name t2 p2] x1 p3] X.env = [(false, eval (.Tuple [.Name t1 p1, .Name t2 p2] x1 p3) X.env)] := by rfl) (hpl : (backTo pos (starEach [.Tuple [.Name t1 p1, .Name t2 p2] x1 p3] X.env)).any (·.1) = false := by rfl)
    (hs1 : starEach [.Name t1 p1, .Name t2 p2] X.env = [(false, eval (.Name t1 p1) X.env), (false, eval (.Name t2 p2) X.env)] := by rfl) (hs2 : starEach [.Name t2 p2] X.env = [(false, eval (.Name t2 p2) X.env)] := by rfl) :
    VE X W env (.Call (.Name "isinstance" p) [e, .Tuple [.Name t1 p1, .Name t2 p2] x1 p3] [] pos) (m.bind (dIsi2 T1 T2)) :=
  PE.imp (pe_callB call_isiT hg hm (by decide +kernel) (pa_cons he (pa_cons (pe_tup (pa_cons hT1 (pa_cons hT2 pa_nil hs2) hs1)) pa_nil hst2) hst) (by decide) (by decide) hst hpl) fun σ H Q ⟨g, S, s, q⟩ => ⟨g, S, s, q.bind.mono fun d S1 H1 g1 n1 s1 p1 v rv => by
    obtain ⟨d', p2, r2⟩ := vw_spec s1 rv p1
    unfold isTy2 at p2
    refine ⟨by show 2 ≤ sizeLine; rw [sizeLine_eq]; omega, fun tp htp => ?_⟩
    obtain ⟨n2, s2, _⟩ : Nx H1 g1 (upd H1 tp (.tup [.ty T1, .ty T2])) g1 ∧ SI X.K σ (upd H1 tp (.tup [.ty T1, .ty T2])) g1 env S1 ∧ True := ⟨Nx.fresh htp, s1.fresh htp, trivial⟩
    have r3 : repH X.K (upd H1 tp (.tup [.ty T1, .ty T2])) g1 d' v := by
      cases d' with
      | lst l => obtain ⟨a, xs, e, ha, z⟩ := r2; exact ⟨a, xs, e, by rw [upd_ne (ne_of_none ha htp)]; exact ha, z⟩
      | dk ks vs =>
        obtain ⟨a, xs, e, ha, z⟩ := r2
        refine ⟨a, xs, e, ?_, z⟩
        rcases ha with ha | ⟨o, ha⟩
        · exact .inl (by rw [upd_ne (ne_of_none ha htp)]; exact ha)
        · exact .inr ⟨o, by rw [upd_ne (ne_of_none ha htp)]; exact ha⟩
      | dt ks vs =>
        obtain ⟨a, xs, e, ha, z⟩ := r2
        refine ⟨a, xs, e, ?_, z⟩
        rcases ha with ha | ⟨o, ha⟩
        · exact .inl (by rw [upd_ne (ne_of_none ha htp)]; exact ha)
        · exact .inr ⟨o, by rw [upd_ne (ne_of_none ha htp)]; exact ha⟩
      | obj c ns vs => obtain ⟨a, dx, fs, e, ha, z⟩ := r2; exact ⟨a, dx, fs, e, by rw [upd_ne (ne_of_none ha htp)]; exact ha, z⟩
      | scr ns =>
        obtain ⟨a, e, ha, z⟩ := r2
        refine ⟨a, e, ?_, z⟩
        rcases ha with (ha | ⟨o, ha⟩) | ha
        · exact .inl (.inl (by rw [upd_ne (ne_of_none ha htp)]; exact ha))
        · exact .inl (.inr ⟨o, by rw [upd_ne (ne_of_none ha htp)]; exact ha⟩)
        · exact .inr ha
      | _ => exact r2
    have p3 := p2.step (r := (match tyOf d' with
  | some t => (match kitB t T1 with
    | some true => M.pure (.bl true)
    | some false => (match kitB t T2 with
      | some b => M.pure (.bl b)
      | none => M.bad)
    | none => M.bad)
  | none => M.bad : M D) S1) n2
    cases e1 : tyOf d' with
    | none => rw [e1] at p3; exact p3.elim
    | some t =>
      rw [e1] at p3
      dsimp only at p3
      have fin : ∀ b, (kitB t T1 = some true ∧ b = true ∨ kitB t T1 = some false ∧ kitB t T2 = some b) → Pst X.K W σ (upd H1 tp (.tup [.ty T1, .ty T2])) g1 env (QE X.K Q) (.ok (.bl b) S1) → _ := fun b hb p4 =>
        (⟨v, tp, [.ty T1, .ty T2], .type t, [.type T1, .type T2], b, rfl, upd_same, .cons (.ty T1) (.cons (.ty T2) .nil), tyx_of s2.sg r3 e1, kitAny2 hb, QE.now s2 p4 (by simp only [rep])⟩ : rIsiT X.K [v, .ref tp] (upd H1 tp (.tup [.ty T1, .ty T2])) Q)
      cases e2 : kitB t T1 with
      | none => rw [e2] at p3; exact p3.elim
      | some b1 =>
        cases b1 with
        | true => rw [e2] at p3; exact fin true (.inl ⟨e2, rfl⟩) p3
        | false =>
          rw [e2] at p3
          dsimp only at p3
          cases e3 : kitB t T2 with
          | none => rw [e3] at p3; exact p3.elim
          | some b => rw [e3] at p3; exact fin b (.inr ⟨e2, e3⟩) p3⟩
/-! ### len -/
def aLen : D → M D
  | .lst l => M.pure (.int l.length)
  | .tup l => M.pure (.int l.length)
  | .ktp l => M.pure (.int l.length)
  | .str z => req (z.length ≤ sizeLine) (M.pure (.int z.length))
  | .scr ns => M.pure (.int ns.length)
  | _ => M.bad
theorem sp_len : SpC K (fun xs H Q => ∃ x n, xs = [x] ∧ LenV K x H n ∧ Q (.int n) H) (one1 aLen) := SpCH.to fun W σ H g env S x v Q s r p => by
  cases x with
  | lst l => obtain ⟨a, xs, rfl, ha, _, b⟩ := r; exact ⟨_, l.length, rfl, .inl ⟨xs, .of ha, (repL_length b).symm⟩, QE.now s p (by simp only [rep])⟩
  | tup l => obtain ⟨a, xs, rfl, ha, _, b⟩ := r; exact ⟨_, l.length, rfl, .inr ⟨xs, .of (s.sg.sub _ _ ha), (repL_length b).symm⟩, QE.now s p (by simp only [rep])⟩
  | ktp l => obtain ⟨a, xs, rfl, ha, _, b⟩ := r; exact ⟨_, l.length, rfl, .inr ⟨xs, s.sg.sub.sqT ha, (repL_length b).symm⟩, QE.now s p (by simp only [rep])⟩
  | scr ns => obtain ⟨a, rfl, ha, _⟩ := r; exact ⟨_, ns.length, rfl, .inl ⟨_, ha, by rw [List.length_map]⟩, QE.now s p (by simp only [rep])⟩
  | str z =>
    obtain ⟨hz, p⟩ := Pst.req p
    have e : v = .str z := r
    subst e
    exact ⟨_, z.length, rfl, ⟨hz, rfl⟩, QE.now s p (by simp only [rep])⟩
  | _ => exact p.elim
/-! ### items -/
/-- a key of a dict -/
def toKey : D → Option Key
  | .int i => some (.inl i)
  | .str z => some (.inr z)
  | _ => none
def toKeys : List D → Option (List Key)
  | [] => some []
  | d :: l => match toKey d, toKeys l with
    | some k, some ks => some (k :: ks)
    | _, _ => none
theorem toKey_v {d : D} {k : Key} {v : V} (e : toKey d = some k) (r : rep K g.F g.μ d v) : v = kV k := by
  cases d with
  | int i => simp only [rep] at r; cases e; exact r
  | str i => simp only [rep] at r; cases e; exact r
  | _ => cases e
theorem toKeys_v : ∀ {l : List D} {ks : List Key} {xs : List V}, toKeys l = some ks → repL K g.F g.μ l xs → xs = ks.map kV
  | [], ks, xs, e, r => by simp only [repL] at r; simp only [toKeys] at e; cases e; exact r
  | d :: l, ks, xs, e, r => by
    simp only [repL] at r
    obtain ⟨v, t, rfl, a, b⟩ := r
    simp only [toKeys] at e
    cases q : toKey d with
    | none => rw [q] at e; cases e
    | some k =>
      cases q2 : toKeys l with
      | none => rw [q, q2] at e; cases e
      | some ks' => rw [q, q2] at e; cases e; rw [toKey_v q a, toKeys_v q2 b]; rfl
def lookD {κ : Type} [DecidableEq κ] : List κ → List D → κ → Option D
  | k :: ks, d :: ds, j => if k = j then some d else lookD ks ds j
  | _, _, _ => none
theorem look_val {κ : Type} [DecidableEq κ] : ∀ {kvs : List (κ × V)} {ks : List κ} {ds : List D} {j : κ}, kvs.map (·.1) = ks → repL K g.F g.μ ds (kvs.map (·.2)) → (∀ d, lookD ks ds j = some d → ∃ v, valV kvs j = some v ∧ rep K g.F g.μ d v) ∧ (lookD ks ds j = none → valV kvs j = none)
  | [], ks, ds, j, e, r => by
    simp at e; subst e
    exact ⟨fun d h => by simp [lookD] at h, fun _ => rfl⟩
  | p :: kvs, ks, ds, j, e, r => by
    cases ks with
    | nil => simp at e
    | cons k ks =>
      cases ds with
      | nil => simp only [repL] at r; simp at r
      | cons d ds =>
        simp only [List.map_cons, List.cons.injEq] at e
        simp only [repL, List.map_cons] at r
        obtain ⟨v, t, e2, a, b⟩ := r
        simp only [List.cons.injEq] at e2
        obtain ⟨e2, e3⟩ := e2
        rw [← e3] at b
        have ih := look_val (j := j) e.2 b
        simp only [lookD]
        by_cases hk : k = j
        · rw [if_pos hk, valV_pos (e.1.trans hk)]
          exact ⟨fun d' h => ⟨_, rfl, by cases h; rw [e2]; exact a⟩, fun h => by cases h⟩
        · rw [if_neg hk, valV_neg (fun z => hk (e.1.symm.trans z))]
          exact ih
/-- the item at an int, from behind if it is below 0 -/
def aGet : D → D → M D
  | .lst l, .int i => ofO (atI l i)
  | .tup l, .int i => ofO (atI l i)
  | .str z, .int i => req (z.length ≤ sizeLine) (ofO ((atI z.cps.toList i).map fun c => .str ⟨#[c]⟩))
  | .dk ks vs, k => (ofO (toKey k)).bind fun k => ofO (lookD ks vs k)
  | .dt ks vs, .tup l => (ofO (toKeys l)).bind fun k => ofO (lookD ks vs k)
  | _, _ => M.bad
def dGet := vw2 aGet
abbrev rGetD (K : PySem.W.Frag) : R2 := fun x y H Q => rIx K x y H Q ∨ (∃ a v, x = .ref a ∧ DGet H a y (some v) ∧ Q v H)
theorem ix_dict (hu : X.A.units + 1 < cLine) : IxR X (fun x y H Q => ∃ a v, x = .ref a ∧ DGet H a y (some v) ∧ Q v H) := by
  intro value slice pins s σ H x y v u Q I rx ry h hs
  obtain ⟨a, w, rfl, hd, q⟩ := h
  cases rx
  exact tail_any (dict_typeIs I hd) PySem.F.slot_dict_getitem.lookup (d_getItem hu I hd ry fun w' s' I' rw' => ⟨w, H, I', rw', q⟩) hs
theorem atI_rep {l : List D} {xs : List V} {i : Int} {d : D} (r : repL K g.F g.μ l xs) (e : atI l i = some d) : ∃ v, atI xs i = some v ∧ rep K g.F g.μ d v := by
  unfold atI at e ⊢
  rw [repL_length r]
  cases q : ixN l.length i with
  | none => rw [q] at e; cases e
  | some j => rw [q] at e; exact repL_at r e
theorem ofO_some {o : Option α} {Q : α → Store → Hp → G → Prop} (h : Pst K W σ H g env Q (ofO o S)) : ∃ a, o = some a ∧ Pst K W σ H g env Q (.ok a S) := by
  cases o with
  | none => exact h.elim
  | some a => exact ⟨a, rfl, h⟩
theorem ofO_bind {β : Type} {o : Option β} {f : β → M α} {Q : α → Store → Hp → G → Prop} (h : Pst K W σ H g env Q (((ofO o).bind f) S)) : ∃ a, o = some a ∧ Pst K W σ H g env Q (f a S) := by
  cases o with
  | none => exact h.elim
  | some a => exact ⟨a, rfl, h⟩
theorem sp_get : Sp2 K (rGetD K) dGet := Sp2H.to fun W σ H g env S x y v w Q s r1 r2 p => by
  cases x with
  | lst l =>
    cases y with
    | int i =>
      obtain ⟨d, e, p2⟩ := ofO_some p
      obtain ⟨a, xs, rfl, ha, _, b⟩ := r1
      obtain ⟨u, eu, ru⟩ := atI_rep b e
      exact .inl (.inl ⟨a, xs, i, u, rfl, r2, .of ha, eu, QE.now s p2 ru⟩)
    | _ => exact p.elim
  | tup l =>
    cases y with
    | int i =>
      obtain ⟨d, e, p2⟩ := ofO_some p
      obtain ⟨a, xs, rfl, ha, _, b⟩ := r1
      obtain ⟨u, eu, ru⟩ := atI_rep b e
      exact .inl (.inr (.inl ⟨a, xs, i, u, rfl, r2, .of (s.sg.sub _ _ ha), eu, QE.now s p2 ru⟩))
    | _ => exact p.elim
  | str z =>
    cases y with
    | int i =>
      obtain ⟨hz, p⟩ := Pst.req p
      obtain ⟨d, e, p2⟩ := ofO_some p
      cases q : atI z.cps.toList i with
      | none => rw [q] at e; cases e
      | some c =>
        rw [q] at e; cases e
        exact .inl (.inr (.inr ⟨z, i, c, r1, r2, hz, q, QE.now s p2 (by simp only [rep])⟩))
    | _ => exact p.elim
  | dk ks vs =>
    obtain ⟨a, kvs, rfl, ha, e, nd, _, b⟩ := r1
    obtain ⟨k, ek, p2⟩ := ofO_bind (o := toKey y) (f := fun k => ofO (lookD ks vs k)) (by cases y <;> exact p)
    obtain ⟨d, ed, p3⟩ := ofO_some p2
    obtain ⟨u, eu, ru⟩ := (look_val (j := k) e b).1 d ed
    have ew : w = kV k := by
      cases y with
      | int i => cases ek; exact r2
      | str i => cases ek; exact r2
      | _ => cases ek
    exact .inr ⟨a, u, rfl, .inl ⟨kvs, k, ha, ew, eu.symm⟩, QE.now s p3 ru⟩
  | dt ks vs =>
    cases y with
    | tup l =>
      obtain ⟨a, kvs, rfl, ha, e, nd, _, b⟩ := r1
      obtain ⟨k, ek, p2⟩ := ofO_bind p
      obtain ⟨d, ed, p3⟩ := ofO_some p2
      obtain ⟨u, eu, ru⟩ := (look_val (j := k) e b).1 d ed
      obtain ⟨c, xs, rfl, hc, _, bc⟩ := r2
      have := toKeys_v ek bc
      subst this
      exact .inr ⟨a, u, rfl, .inr ⟨kvs, k, c, ha, rfl, s.sg.sub _ _ hc, eu.symm⟩, QE.now s p3 ru⟩
    | _ => exact p.elim
  | _ => exact p.elim
theorem VE.get {a b : Expr} {pos : Pos} {ma mb : M D} (hu : X.A.units + 1 < cLine) (ha : VR X W env a ma) (hb : VR X W env b mb) (hs : PlainIx b) : VE X W env (.Subscript a b pos) (ma.bind fun x => mb.bind fun y => dGet x y) :=
  PE.imp (pe_ix (ix_seq.or (ix_dict hu)) ha hb hs) fun σ H Q h => tv2 (a := a) (b := b) sp_get h
end
end VM
namespace VM
open PySem PySem.Spec PyProof.Rows L2
section
variable {α β τ : Type} {X : Cx} {W : WX} {rk : Bool} {env : Env'} {K : PySem.W.Frag} {σ : L2.St} {H H' : Hp} {g g' : G} {S S' : Store}
/-! ### walks -/
def iSeq (K : PySem.W.Frag) (tl : TE) : TI := fun σ H R => tl σ H fun x H1 => (∃ a, x = .ref a ∧ (((∃ xs, SqL K H1 a xs) ∧ R (Itl K a) H1) ∨ ((∃ xs, SqT K H1 a xs) ∧ R (Itt K a) H1))) ∨ ∃ z, x = .str z ∧ R (Its z) H1
theorem pi_seq {tg l : Expr} {tl : TE} (hl : PE X l tl) : PI X tg l (iSeq X.K tl) := by
  refine ⟨fun pins s σ H R I h => ?_⟩
  refine thn (hl.run pins s σ H _ I h) fun v s1 ⟨x, H1, I1, r1, q1⟩ => ?_
  rcases q1 with ⟨a, e, q1⟩ | ⟨z, e, q⟩
  · subst e
    cases r1
    have fp : ∀ b, b ∈ [s1.heap.objs.size] → FpOk X pins H1 b := fun b hb => by
      have e : b = s1.heap.objs.size := by simpa using hb
      subst e
      exact I1.fpOk (Nat.le_refl _) (I1.hok.fresh (Nat.le_refl _))
    rcases q1 with ⟨⟨xs, hq⟩, q⟩ | ⟨⟨xs, hq⟩, q⟩
    · obtain ⟨its, rv, p, hz⟩ := I1.list hq
      refine wpAny_pyIter_list p.isList ?_
      exact ⟨s1.heap.objs.size, [s1.heap.objs.size], _, _, H1, rfl, I1.kept (t' := s1.toks) fun b o e => Heap.get?_push_of_some _ e, turn_list a _, ⟨_, Heap.get?_push_size _ rfl, rfl, rfl⟩, fp, q⟩
    · obtain ⟨its, rv, p, hz⟩ := I1.tuple hq
      refine wpAny_pyIter_tuple (show s1.heap.IsTuple a its.toArray from p) ?_
      exact ⟨s1.heap.objs.size, [s1.heap.objs.size], _, _, H1, rfl, I1.kept (t' := s1.toks) fun b o e => Heap.get?_push_of_some _ e, turn_tuple a _, ⟨_, Heap.get?_push_size _ rfl, rfl, rfl⟩, fp, q⟩
  · subst e
    obtain ⟨t, rfl⟩ := r1
    cases ha : z.cps.all (· < 128)
    · exact wpAny_pyIter_wide ha (pi_one (tk := s1.toks) I1 _ (turn_str _ z t "str_iterator" (.inr rfl)) ⟨_, Heap.get?_push_size _ rfl, rfl, rfl⟩ q)
    · exact wpAny_pyIter_ascii ha (pi_one (tk := s1.toks) I1 _ (turn_str _ z t "str_ascii_iterator" (.inl rfl)) ⟨_, Heap.get?_push_size _ rfl, rfl, rfl⟩ q)
/-- the items of what is walked -/
def items : D → Option (List D)
  | .lst l => some l
  | .tup l => some l
  | .ktp l => some l
  | .str z => some (z.cps.toList.map fun c => .str ⟨#[c]⟩)
  | _ => none
theorem itOk_lst {a : Addr} {xs : List V} {l : List D} {F : Hp} {μ : List Addr} (ha : ∀ F' H, LeF F F' → LeF F' H → SqL K H a xs) (r : repL K F μ l xs) : ItOk K (Itl K a) F μ l := ⟨⟨fun H => SqL K H a xs, YAt xs, by
  have w := walk_list (K := K) (a := a) (xs := xs)
  rw [repL_length r] at w
  exact w, fun F' H h1 h2 => ha F' H h1 h2, fun σ env S H g i d x H' s h1 h2 ed ⟨e, hx⟩ => by
    subst e
    obtain ⟨d', e2, r2⟩ := repL_get r hx
    rw [ed] at e2; cases e2
    exact ⟨g, Nx.refl _ _, s, rep_mono h1 h2 _ _ r2⟩⟩⟩
theorem itOk_tup {a : Addr} {xs : List V} {l : List D} {F : Hp} {μ : List Addr} (ha : ∀ F' H, LeF F F' → LeF F' H → SqT K H a xs) (r : repL K F μ l xs) : ItOk K (Itt K a) F μ l := ⟨⟨fun H => SqT K H a xs, YAt xs, by
  have w := walk_tup (K := K) (a := a) (xs := xs)
  rw [repL_length r] at w
  exact w, fun F' H h1 h2 => ha F' H h1 h2, fun σ env S H g i d x H' s h1 h2 ed ⟨e, hx⟩ => by
    subst e
    obtain ⟨d', e2, r2⟩ := repL_get r hx
    rw [ed] at e2; cases e2
    exact ⟨g, Nx.refl _ _, s, rep_mono h1 h2 _ _ r2⟩⟩⟩
theorem itOk_str {z : Str} {F : Hp} {μ : List Addr} : ItOk K (Its z) F μ (z.cps.toList.map fun c => .str ⟨#[c]⟩) := ⟨⟨fun _ => True, (fun i H v H' => H' = H ∧ ∃ c, z.cps[i]? = some c ∧ v = .str ⟨#[c]⟩), by
  have w := walk_str (z := z)
  rw [List.length_map, Array.length_toList]
  exact w, fun F' H h1 h2 => trivial, fun σ env S H g i d x H' s h1 h2 ed ⟨e, c, hc, hx⟩ => by
    subst e; subst hx
    rw [List.getElem?_map, Array.getElem?_toList, hc] at ed
    cases ed
    exact ⟨g, Nx.refl _ _, s, by simp only [rep]⟩⟩⟩
theorem VI.seq {tg l : Expr} {m : M D} (hl : VE X W env l m) : VI X W env tg l (m.bind fun d => ofO (items d)) := by
  refine ⟨fun pins s σ H R I ⟨g, S, si, p⟩ => (pi_seq (tg := tg) hl).run pins s σ H R I ⟨g, S, si, p.bind.mono fun d S1 H1 g1 n1 s1 p1 v r => ?_⟩⟩
  obtain ⟨l', e, p2⟩ := ofO_some p1
  have p3 := p2 H1 g1 (Nx.refl _ _) s1
  cases d with
  | lst l =>
    simp only [rep] at r
    obtain ⟨a, xs, rfl, ha, _, b⟩ := r
    cases e
    exact .inl ⟨a, rfl, .inl ⟨⟨xs, .of (s1.sg.sub _ _ ha)⟩, p3 _ (itOk_lst (fun F' H h1 h2 => .of (h2 _ _ (h1 _ _ ha))) b)⟩⟩
  | tup l =>
    simp only [rep] at r
    obtain ⟨a, xs, rfl, ha, _, b⟩ := r
    cases e
    exact .inl ⟨a, rfl, .inr ⟨⟨xs, .of (s1.sg.sub _ _ ha)⟩, p3 _ (itOk_tup (fun F' H h1 h2 => .of (h2 _ _ (h1 _ _ ha))) b)⟩⟩
  | ktp l =>
    simp only [rep] at r
    obtain ⟨a, xs, rfl, ha, _, b⟩ := r
    cases e
    exact .inl ⟨a, rfl, .inr ⟨⟨xs, s1.sg.sub.sqT ha⟩, p3 _ (itOk_tup (fun F' H h1 h2 => h2.sqT (h1.sqT ha)) b)⟩⟩
  | str z =>
    simp only [rep] at r
    subst r
    cases e
    exact .inr ⟨z, rfl, p3 _ itOk_str⟩
  | _ => cases e
/-- range -/
def rangeD (lo hi : Int) : List D := (List.range (hi - lo).toNat).map fun i => .int (lo + (i : Nat))
theorem itOk_range {lo : Int} {n : Nat} {F : Hp} {μ : List Addr} : ItOk K (Itr lo n) F μ ((List.range n).map fun i => .int (lo + (i : Nat))) := ⟨⟨fun _ => True, (YFn fun i => .int (lo + i)), by
  have w := walk_range (lo := lo) (n := n)
  rw [List.length_map, List.length_range]
  exact w, fun F' H h1 h2 => trivial, fun σ env S H g i d x H' s h1 h2 ed ⟨e, hx⟩ => by
    subst e; subst hx
    rw [List.getElem?_map] at ed
    by_cases hi : i < n
    · rw [List.getElem?_range hi] at ed
      cases ed
      exact ⟨g, Nx.refl _ _, s, by simp only [rep]⟩
    · rw [List.getElem?_eq_none (by simpa using hi)] at ed; cases ed⟩⟩
def aRange : List D → M (List D)
  | [.int j] => req (-(2 ^ 62) ≤ j ∧ j < 2 ^ 62) (M.pure (rangeD 0 j))
  | [.int i, .int j] => req (-(2 ^ 62) ≤ i ∧ i < 2 ^ 62 ∧ -(2 ^ 62) ≤ j ∧ j < 2 ^ 62) (M.pure (rangeD i j))
  | _ => M.bad
theorem VI.range1 {tg a : Expr} {p pos : Pos} {m : M D} (hg : Gl X "range") (hm : X.mg "range" = none) (ha : VE X W env a m) (hs : starEach [a] X.env = [(false, eval a X.env)] := by rfl) : VI X W env tg (.Call (.Name "range" p) [a] [] pos) (m.bind fun d => aRange [d]) := by
  refine ⟨fun pins s σ H R I ⟨g, S, si, q⟩ => (pi_range1 (tg := tg) (p := p) (pos := pos) hg hm (pa_cons ha pa_nil hs) hs).run pins s σ H R I ⟨g, S, si, q.bind.mono fun d S1 H1 g1 n1 s1 p1 v r => ?_⟩⟩
  cases d with
  | int j =>
    obtain ⟨hz, p2⟩ := Pst.req p1
    have e : v = .int j := by simpa only [rep] using r
    have p3 := p2 H1 g1 (Nx.refl _ _) s1
    refine ⟨j, by rw [e], hz.1, hz.2, p3 _ ?_⟩
    have := itOk_range (K := X.K) (lo := 0) (n := j.toNat) (F := g1.F) (μ := g1.μ)
    unfold rangeD
    rw [Int.sub_zero]
    exact this
  | _ => exact p1.elim
theorem VI.range2 {tg a b : Expr} {p pos : Pos} {ma mb : M D} (hg : Gl X "range") (hm : X.mg "range" = none) (ha : VE X W env a ma) (hb : VE X W env b mb) (hs : starEach [a, b] X.env = [(false, eval a X.env), (false, eval b X.env)] := by rfl) (hs2 : starEach [b] X.env = [(false, eval b X.env)] := by rfl)
    (hs3 : starEach [a, b] X.env = (false, eval a X.env) :: starEach [b] X.env := by rfl) :
    VI X W env tg (.Call (.Name "range" p) [a, b] [] pos) (ma.bind fun x => mb.bind fun y => aRange [x, y]) := by
  refine ⟨fun pins s σ H R I ⟨g, S, si, q⟩ => (pi_range2 (tg := tg) (p := p) (pos := pos) hg hm (pa_cons ha (pa_cons hb pa_nil hs2) hs3) hs hs2).run pins s σ H R I ⟨g, S, si, q.bind.mono fun d S1 H1 g1 n1 s1 p1 v r => ⟨g1, S1, s1, p1.bind.mono fun d2 S2 H2 g2 n2 s2 p2 v2 r2 => ?_⟩⟩⟩
  have hd : ∃ i j, d = .int i ∧ d2 = .int j := by
    cases d with
    | int i =>
      cases d2 with
      | int j => exact ⟨i, j, rfl, rfl⟩
      | _ => exact p2.elim
    | _ => exact p2.elim
  obtain ⟨i, j, rfl, rfl⟩ := hd
  obtain ⟨hz, p2⟩ := Pst.req p2
  have e : v = .int i := by simpa only [rep] using r
  have e2 : v2 = .int j := by simpa only [rep] using r2
  have p3 := p2 H2 g2 (Nx.refl _ _) s2
  exact ⟨i, j, by rw [e, e2], hz, p3 _ itOk_range⟩
/-- pairs: each in a new tuple -/
theorem itOk_pair {J : It} {n : Nat} {fx fy : Nat → Option V} {l : List (D × D)} {F : Hp} {μ : List Addr} {GG : Hp → Prop} (w : Walk J n GG (YPair fx fy)) (hn : n = l.length) (hG : ∀ F' H, LeF F F' → LeF F' H → GG H)
    (hx : ∀ i p x y, l[i]? = some p → fx i = some x → fy i = some y → rep K F μ p.1 x ∧ rep K F μ p.2 y) : ItOk K J F μ (l.map fun p => .tup [p.1, p.2]) := ⟨⟨GG, YPair fx fy, by rw [List.length_map, ← hn]; exact w, hG, fun σ env S H g i d v H' s h1 h2 ed ⟨T, x, y, e, hT, eH, ex, ey⟩ => by
    rw [List.getElem?_map] at ed
    cases q : l[i]? with
    | none => rw [q] at ed; cases ed
    | some p =>
      rw [q] at ed; cases ed
      obtain ⟨r1, r2⟩ := hx i p x y q ex ey
      obtain ⟨n1, s1, r3⟩ := s.newT (l := [p.1, p.2]) (xs := [x, y]) hT (by show 2 ≤ sizeLine; rw [sizeLine_eq]; omega) (repL_cons (rep_mono h1 h2 _ _ r1) (repL_one (rep_mono h1 h2 _ _ r2)))
      subst e; subst eH
      exact ⟨_, n1, s1, r3⟩⟩⟩
def aZip : D → D → M (List D)
  | .lst l, .lst m => M.pure ((l.zip m).map fun p => .tup [p.1, p.2])
  | .tup l, .tup m => M.pure ((l.zip m).map fun p => .tup [p.1, p.2])
  | _, _ => M.bad
theorem zip_rep {l m : List D} {xs ys : List V} {F : Hp} {μ : List Addr} (r1 : repL K F μ l xs) (r2 : repL K F μ m ys) : ∀ (i : Nat) (p : D × D) (x y : V), (l.zip m)[i]? = some p → xs[i]? = some x → ys[i]? = some y → rep K F μ p.1 x ∧ rep K F μ p.2 y := fun i p x y e ex ey => by
  obtain ⟨h1, h2⟩ := List.getElem?_zip_eq_some.mp e
  obtain ⟨d1, e1, q1⟩ := repL_get r1 ex
  obtain ⟨d2, e2, q2⟩ := repL_get r2 ey
  rw [h1] at e1; cases e1
  rw [h2] at e2; cases e2
  exact ⟨q1, q2⟩
theorem VI.zip {a b : Expr} {p pos tpos : Pos} {elts : List Expr} {kk : Nat} {ma mb : M D} (hg : Gl X "zip") (hm : X.mg "zip" = none) (ha : VE X W env a ma) (hb : VE X W env b mb)
    (hs : starEach [a, b] X.env = (false, eval a X.env) :: starEach [b] X.env := by rfl) (hs2 : starEach [b] X.env = [(false, eval b X.env)] := by rfl) (hpl : (backTo pos (starEach [b] X.env)).any (·.1) = false := by rfl) :
    VI X W env (.Tuple elts kk tpos) (.Call (.Name "zip" p) [a, b] [] pos) (ma.bind fun x => mb.bind fun y => aZip x y) := by
  refine ⟨fun pins s σ H R I ⟨g, S, si, q⟩ => (RZ.pi_zipA (p := p) (pos := pos) (tpos := tpos) (elts := elts) (kk := kk) hg hm (pa_cons ha (pa_cons hb pa_nil hs2) hs) hs hpl).run pins s σ H R I ⟨g, S, si, q.bind.mono fun d S1 H1 g1 n1 s1 p1 v r => ⟨g1, S1, s1, p1.bind.mono fun d2 S2 H2 g2 n2 s2 p2 v2 r2 => ?_⟩⟩⟩
  have r' := rep_mono n2.grow n2.pre _ _ r
  cases d with
  | lst l =>
    cases d2 with
    | lst m =>
      simp only [rep] at r' r2
      obtain ⟨a, xs, rfl, h1, _, b1⟩ := r'
      obtain ⟨b, ys, rfl, h2, _, b2⟩ := r2
      refine ⟨a, b, xs, ys, rfl, .inl ⟨.of (s2.sg.sub _ _ h1), .of (s2.sg.sub _ _ h2), p2 H2 g2 (Nx.refl _ _) s2 _ (itOk_pair (walk_zip rfl) (by rw [List.length_zip, repL_length b1, repL_length b2]) (fun F' H h3 h4 => ⟨.of (h4 _ _ (h3 _ _ h1)), .of (h4 _ _ (h3 _ _ h2))⟩) (zip_rep b1 b2))⟩⟩
    | _ => exact p2.elim
  | tup l =>
    cases d2 with
    | tup m =>
      simp only [rep] at r' r2
      obtain ⟨a, xs, rfl, h1, _, b1⟩ := r'
      obtain ⟨b, ys, rfl, h2, _, b2⟩ := r2
      have w : Walk (RZ.ItzT X.K a b) (min xs.length ys.length) (fun H => SqT X.K H a xs ∧ SqT X.K H b ys) (YPair (fun i => xs[i]?) (fun i => ys[i]?)) := by
        refine ⟨fun i _ hi q => ?_, fun _ q => ⟨xs, ys, q.1, q.2, by omega⟩, fun i H v H' _ q y => ?_⟩
        · have h1 : i < xs.length := by omega
          have h2 : i < ys.length := by omega
          exact ⟨xs, ys, xs[i], ys[i], q.1, q.2, by simp [h1], by simp [h2]⟩
        · obtain ⟨T, x, z, h1, h2, h3, h4, h5⟩ := y
          exact ⟨T, x, z, h1, h2, h3, h4 xs q.1, h5 ys q.2⟩
      refine ⟨a, b, xs, ys, rfl, .inr ⟨.of (s2.sg.sub _ _ h1), .of (s2.sg.sub _ _ h2), p2 H2 g2 (Nx.refl _ _) s2 _ (itOk_pair w (by rw [List.length_zip, repL_length b1, repL_length b2]) (fun F' H h3 h4 => ⟨.of (h4 _ _ (h3 _ _ h1)), .of (h4 _ _ (h3 _ _ h2))⟩) (zip_rep b1 b2))⟩⟩
    | _ => exact p2.elim
  | _ => cases d2 <;> exact p2.elim
/-- enumerate over a list -/
def enumD : Nat → List D → List (D × D)
  | _, [] => []
  | n, d :: l => (.int (n : Nat), d) :: enumD (n + 1) l
theorem enumD_len : ∀ (n : Nat) (l : List D), (enumD n l).length = l.length
  | _, [] => rfl
  | n, d :: l => by simp [enumD, enumD_len (n + 1) l]
theorem enumD_get : ∀ (n : Nat) (l : List D) (i : Nat) (p : D × D), (enumD n l)[i]? = some p → p.1 = .int ((n + i : Nat) : Int) ∧ l[i]? = some p.2
  | _, [], i, p, h => by simp [enumD] at h
  | n, d :: l, i, p, h => by
    cases i with
    | zero => simp [enumD] at h; subst h; exact ⟨rfl, rfl⟩
    | succ i =>
      simp only [enumD, List.getElem?_cons_succ] at h
      obtain ⟨h1, h2⟩ := enumD_get (n + 1) l i p h
      exact ⟨by rw [h1]; congr 2; omega, by simpa using h2⟩
def aEnum : D → M (List D)
  | .lst l => M.pure ((enumD 0 l).map fun p => .tup [p.1, p.2])
  | _ => M.bad
theorem VI.enum {a : Expr} {p pos tpos : Pos} {elts : List Expr} {kk : Nat} {m : M D} (hg : Gl X "enumerate") (hm : X.mg "enumerate" = none) (ha : VE X W env a m) (hs : starEach [a] X.env = [(false, eval a X.env)] := by rfl) :
    VI X W env (.Tuple elts kk tpos) (.Call (.Name "enumerate" p) [a] [] pos) (m.bind aEnum) := by
  refine ⟨fun pins s σ H R I ⟨g, S, si, q⟩ => (pi_enum (p := p) (pos := pos) (tpos := tpos) (elts := elts) (kk := kk) hg hm (pa_cons ha pa_nil hs) hs).run pins s σ H R I ⟨g, S, si, q.bind.mono fun d S1 H1 g1 n1 s1 p1 v r => ?_⟩⟩
  cases d with
  | lst l =>
    simp only [rep] at r
    obtain ⟨a, xs, rfl, h1, _, b1⟩ := r
    refine ⟨a, xs, rfl, .of (s1.sg.sub _ _ h1), p1 H1 g1 (Nx.refl _ _) s1 _ (itOk_pair walk_enum (by rw [enumD_len, repL_length b1]) (fun F' H h3 h4 => .of (h4 _ _ (h3 _ _ h1))) fun i p x y e ex ey => ?_)⟩
    obtain ⟨h2, h3⟩ := enumD_get 0 l i p e
    obtain ⟨d2, e2, q2⟩ := repL_get b1 ey
    rw [h3] at e2; cases e2
    rw [h2, Nat.zero_add]
    cases ex
    exact ⟨by simp only [rep], q2⟩
  | _ => exact p1.elim
/-! ### targets -/
def dest2 : D → Option (D × D)
  | .tup [a, b] => some (a, b)
  | _ => none
def dest3 : D → Option (D × D × D)
  | .tup [a, b, c] => some (a, b, c)
  | _ => none
theorem VG.tup2 {i j : Nat} {x y : Str} {p1 p2 pos : Pos} {kk : Nat} (hc : X.calm = true) (hN : X.N.Nodup) (hi : X.N[i]? = some x) (hj : X.N[j]? = some y) (hl : Loc X.env.scope x) (hl2 : Loc X.env.scope y)
    (hf : X.fn x = true ∨ X.env.scope.names.lookup x = some .local := by first | exact .inl rfl | exact .inr rfl | assumption) (hf2 : X.fn y = true ∨ X.env.scope.names.lookup y = some .local := by first | exact .inl rfl | exact .inr rfl | assumption)
    (hn : (assignEach [.Name x p1, .Name y p2] X.env).length = 2 := by rfl) (hst : (assignEach [.Name x p1, .Name y p2] X.env).findIdx? (·.1) = none := by rfl) (hs1 : (assignEach [.Name x p1, .Name y p2] X.env).map (·.2) = assign (.Name x p1) X.env :: (assignEach [.Name y p2] X.env).map (·.2) := by rfl)
    (hs2 : (assignEach [.Name y p2] X.env).map (·.2) = assign (.Name y p2) X.env :: (assignEach [] X.env).map (·.2) := by rfl) :
    VG X (.Tuple [.Name x p1, .Name y p2] kk pos) dest2 (fun p env => (env.set i (.dat p.1)).set j (.dat p.2)) [i, j] :=
  ⟨⟨fun pins s σ H v u Q I r ⟨g, S, env, d, a, si, rp, e, k⟩ => (pg_tup hc (pgs_cons (pg_name hN hi hl hf) (pgs_cons (pg_name hN hj hl2 hf2) pgs_nil hs2) hs1) hn hst).run pins s σ H v u Q I r (by
    have hd : ∃ c b, d = .tup [c, b] ∧ a = (c, b) := by
      unfold dest2 at e
      split at e
      · cases e; exact ⟨_, _, rfl, rfl⟩
      · cases e
    obtain ⟨c, b, rfl, rfl⟩ := hd
    simp only [rep] at rp
    obtain ⟨p, xs, rfl, ha, _, rl⟩ := rp
    have rl' := rl
    simp only [repL] at rl
    obtain ⟨v1, t1, rfl, r1, v2, t2, rfl, r2, rfl⟩ := rl
    exact ⟨p, [v1, v2], rfl, .of (si.sg.sub _ _ ha), rfl, v1, [v2], rfl, v2, [], rfl, rfl, k _ H g (Nx.refl _ _) ((si.setDat r1).setDat r2) fun vs hv => by rw [wipe_set (hv j (by simp)), wipe_set (hv i (by simp))]⟩)⟩,
    fun a e k h => by
      simp at h
      rw [List.getElem?_set_ne (Ne.symm h.2), List.getElem?_set_ne (Ne.symm h.1)], fun a e => by rw [List.length_set, List.length_set]⟩
theorem VG.tup3 {i j l : Nat} {x y z : Str} {p1 p2 p3 pos : Pos} {kk : Nat} (hc : X.calm = true) (hN : X.N.Nodup) (hi : X.N[i]? = some x) (hj : X.N[j]? = some y) (hk : X.N[l]? = some z) (hl : Loc X.env.scope x) (hl2 : Loc X.env.scope y) (hl3 : Loc X.env.scope z)
    (hf : X.fn x = true ∨ X.env.scope.names.lookup x = some .local := by first | exact .inl rfl | exact .inr rfl | assumption) (hf2 : X.fn y = true ∨ X.env.scope.names.lookup y = some .local := by first | exact .inl rfl | exact .inr rfl | assumption) (hf3 : X.fn z = true ∨ X.env.scope.names.lookup z = some .local := by first | exact .inl rfl | exact .inr rfl | assumption)
    (hn : (assignEach [.Name x p1, .Name y p2, .Name z p3] X.env).length = 3 := by rfl) (hst : (assignEach [.Name x p1, .Name y p2, .Name z p3] X.env).findIdx? (·.1) = none := by rfl) (hs1 : (assignEach [.Name x p1, .Name y p2, .Name z p3] X.env).map (·.2) = assign (.Name x p1) X.env :: (assignEach [.Name y p2, .Name z p3] X.env).map (·.2) := by rfl)
    (hs2 : (assignEach [.Name y p2, .Name z p3] X.env).map (·.2) = assign (.Name y p2) X.env :: (assignEach [.Name z p3] X.env).map (·.2) := by rfl) (hs3 : (assignEach [.Name z p3] X.env).map (·.2) = assign (.Name z p3) X.env :: (assignEach [] X.env).map (·.2) := by rfl) :
    VG X (.Tuple [.Name x p1, .Name y p2, .Name z p3] kk pos) dest3 (fun p env => ((env.set i (.dat p.1)).set j (.dat p.2.1)).set l (.dat p.2.2)) [i, j, l] :=
  ⟨⟨fun pins s σ H v u Q I r ⟨g, S, env, d, a, si, rp, e, k⟩ => (pg_tup hc (pgs_cons (pg_name hN hi hl hf) (pgs_cons (pg_name hN hj hl2 hf2) (pgs_cons (pg_name hN hk hl3 hf3) pgs_nil hs3) hs2) hs1) hn hst).run pins s σ H v u Q I r (by
    have hd : ∃ c b e', d = .tup [c, b, e'] ∧ a = (c, b, e') := by
      unfold dest3 at e
      split at e
      · cases e; exact ⟨_, _, _, rfl, rfl⟩
      · cases e
    obtain ⟨c, b, f, rfl, rfl⟩ := hd
    simp only [rep] at rp
    obtain ⟨p, xs, rfl, ha, _, rl⟩ := rp
    simp only [repL] at rl
    obtain ⟨v1, t1, rfl, r1, v2, t2, rfl, r2, v3, t3, rfl, r3, rfl⟩ := rl
    exact ⟨p, [v1, v2, v3], rfl, .of (si.sg.sub _ _ ha), rfl, v1, _, rfl, v2, _, rfl, v3, [], rfl, rfl, k _ H g (Nx.refl _ _) (((si.setDat r1).setDat r2).setDat r3) fun vs hv => by rw [wipe_set (hv l (by simp)), wipe_set (hv j (by simp)), wipe_set (hv i (by simp))]⟩)⟩,
    fun a e k h => by
      simp at h
      rw [List.getElem?_set_ne (Ne.symm h.2.2), List.getElem?_set_ne (Ne.symm h.2.1), List.getElem?_set_ne (Ne.symm h.1)], fun a e => by rw [List.length_set, List.length_set, List.length_set]⟩
/-! ### comprehensions -/
def noexc (m : M α) : M α := fun S => match m S with
  | .ok a S' => .ok a S'
  | _ => .bad
def compL (f : D → M (Option D)) : List D → M (List D)
  | [] => M.pure []
  | d :: ds => (noexc (f d)).bind fun o => (compL f ds).bind fun l => M.pure (o.toList ++ l)
theorem Pst.noexc {m : M α} {Q : α → Store → Hp → G → Prop} {W' : WX} (h : Pst K W σ H g env Q (noexc m S)) : Pst K W' σ H g env Q (m S) := by
  unfold VM.noexc at h
  cases e : m S with
  | ok a S' => rw [e] at h; exact h
  | exc c ns vs S' => rw [e] at h; exact h.elim
  | bad => rw [e] at h; exact h.elim
/-- slots of which nothing is known -/
theorem SI.wiped {vs : List Nat} (hu : ∀ i ∈ vs, env[i]? = some SL.un) : SI K (wipe σ vs) H g env S ↔ SI K σ H g env S := by
  have eq : ∀ i t, env[i]? = some t → t ≠ SL.un → (wipe σ vs)[i]? = σ[i]? := fun i t h ne => wipe_out fun hm => by
    rw [hu i hm] at h; cases h; exact ne rfl
  constructor
  · intro s
    refine ⟨s.sg, by rw [s.len, wipe_length], fun i t h => ?_, fun i j p h1 h2 h3 h4 => ?_, s.omp⟩
    · have q := s.slot i t h
      cases t with
      | un => exact trivial
      | dat d => rw [eq i _ h (by simp)] at q; exact q
      | own d => rw [eq i _ h (by simp)] at q; exact q
    · obtain ⟨d1, e1⟩ := h1
      obtain ⟨d2, e2⟩ := h2
      exact s.dist i j p ⟨d1, e1⟩ ⟨d2, e2⟩ ((eq i _ e1 (by simp)).trans h3) ((eq j _ e2 (by simp)).trans h4)
  · intro s
    refine ⟨s.sg, by rw [s.len, wipe_length], fun i t h => ?_, fun i j p h1 h2 h3 h4 => ?_, s.omp⟩
    · have q := s.slot i t h
      cases t with
      | un => exact trivial
      | dat d => rw [eq i _ h (by simp)]; exact q
      | own d => rw [eq i _ h (by simp)]; exact q
    · obtain ⟨d1, e1⟩ := h1
      obtain ⟨d2, e2⟩ := h2
      exact s.dist i j p ⟨d1, e1⟩ ⟨d2, e2⟩ ((eq i _ e1 (by simp)).symm.trans h3) ((eq j _ e2 (by simp)).symm.trans h4)
theorem sub_of {e f : Env'} (hl : f.length = e.length) (h : ∀ (i : Nat) (t : SL), f[i]? = some t → t = SL.un ∨ e[i]? = some t) : Sub e f := by
  induction e generalizing f with
  | nil =>
    cases f with
    | nil => exact trivial
    | cons _ _ => simp at hl
  | cons s e ih =>
    cases f with
    | nil => simp at hl
    | cons t f =>
      refine ⟨?_, ih (by simpa using hl) fun i u q => (by simpa using h (i + 1) u (by simpa using q))⟩
      rcases h 0 t rfl with z | z
      · exact .inl z
      · exact .inr (by simpa using z)
/-- an object that stands aside is written -/
theorem SI.foreign {p : Addr} {o : HO} (s : SI K σ H g env S) (nm : p ∉ g.μ) (no : p ∉ g.ω) (nf : g.F p = none) : SI K σ (upd H p o) g env S := by
  refine ⟨⟨fun a u q => ?_, s.sg.stl, fun k d2 a q1 q2 => ?_, s.sg.dead, s.sg.mund⟩, s.len, fun j t hj => ?_, s.dist, fun a q z => ?_⟩
  · have ne : a ≠ p := fun z => by rw [z, nf] at q; cases q
    rw [upd_ne ne]; exact s.sg.sub a u q
  · have ne : a ≠ p := fun z => nm (z ▸ List.mem_of_getElem? q2)
    obtain ⟨z, r2⟩ := s.sg.st k d2 a q1 q2
    exact ⟨z, ownAt_mono r2 (upd_ne ne) (LeF.refl _) (List.prefix_refl _)⟩
  · have q := s.slot j t hj
    cases t with
    | un => exact trivial
    | dat d => exact q
    | own d2 =>
      obtain ⟨a, e', g1, g2, g3, r2⟩ := q
      have ne : a ≠ p := fun z => no (z ▸ g1)
      exact ⟨a, e', g1, g2, g3, ownAt_mono r2 (upd_ne ne) (LeF.refl _) (List.prefix_refl _)⟩
  · by_cases ea : a = p
    · exact no (ea ▸ q)
    · rw [upd_ne ea] at z; exact s.omp a q z
theorem Nx.foreign {p : Addr} {o : HO} (n : Nx H g H' g') (hp : H p = none) : Nx H g (upd H' p o) g' := by
  refine ⟨fun a u h h1 h2 => ?_, fun a h => ?_, n.grow, n.new, n.pre, n.nmu, n.nom⟩
  · rw [upd_ne (ne_of_none h hp)]; exact n.keep a u h h1 h2
  · by_cases ea : a = p
    · rw [ea, upd_same]; simp
    · rw [upd_ne ea]; exact n.stay a h
/-- it stands aside still -/
theorem Nx.aside {p : Addr} {u : HO} (n : Nx H g H' g') (hp : H p = some u) (nm : p ∉ g.μ) (no : p ∉ g.ω) (nf : g.F p = none) : H' p = some u ∧ p ∉ g'.μ ∧ p ∉ g'.ω ∧ g'.F p = none := by
  refine ⟨n.keep p u hp nm no, fun z => ?_, fun z => ?_, ?_⟩
  · rcases n.nmu p z with q | q | q
    · exact nm q
    · rw [hp] at q; cases q
    · exact no q
  · rcases n.nom p z with q | q | q
    · exact no q
    · rw [hp] at q; cases q
    · exact nm q
  · cases e : g'.F p with
    | none => rfl
    | some w =>
      rcases n.new p w e nf with q | q | q
      · rw [hp] at q; cases q
      · exact absurd q nm
      · exact absurd q no
/-- the tests of a comprehension -/
def VTs (X : Cx) (W : WX) (env : Env') (ifs : List Expr) (m : M Bool) : Prop := PTs X ifs (TTb X.K W env m)
theorem VTs.nil : VTs X W env [] (M.pure true) := ⟨fun pins s σ H Q I ⟨g, S, si, p⟩ => pts_nil.run pins s σ H Q I (p H g (Nx.refl _ _) si)⟩
theorem VTs.one {c : Expr} {m : M Bool} (h : VT X W env c m) : VTs X W env [c] m := pts_one h
abbrev W0 : WX := fun _ _ _ _ => False
def turnC (dest : D → Option α) (mt : α → M Bool) (me : α → M D) (d : D) : M (Option D) := (ofO (dest d)).bind fun a => (mt a).bind fun b => if b = true then (me a).bind fun y => M.pure (some y) else M.pure none
def mkC (f : D → M (Option D)) (ds : List D) : M D := (req (ds.length ≤ sizeLine) (compL f ds)).bind fun l => M.pure (.lst l)
/-- what is wanted of what is left -/
def DoneC (Fin : List D → Store → Prop) (acc : List D) : Res (List D) → Prop
  | .ok l S2 => Fin (acc ++ l) S2
  | _ => False
theorem DoneC.cons {Fin : List D → Store → Prop} {acc : List D} {f : D → M (Option D)} {d : D} {ds : List D} (h : DoneC Fin acc (compL f (d :: ds) S)) : ∃ o S1, f d S = .ok o S1 ∧ DoneC Fin (acc ++ o.toList) (compL f ds S1) := by
  unfold compL M.bind VM.noexc at h
  cases e1 : f d S with
  | ok o S1 =>
    rw [e1] at h
    dsimp only at h
    refine ⟨o, S1, rfl, ?_⟩
    cases e2 : compL f ds S1 with
    | ok l S2 =>
      rw [e2] at h
      have h2 : Fin (acc ++ (o.toList ++ l)) S2 := h
      rw [← List.append_assoc] at h2
      exact h2
    | exc c ns vs S2 => rw [e2] at h; exact h.elim
    | bad => rw [e2] at h; exact h.elim
  | exc c ns vs S1 => rw [e1] at h; exact h.elim
  | bad => rw [e1] at h; exact h.elim
theorem compL_exc {f : D → M (Option D)} : ∀ {ds : List D} {S S' : Store} {c : Str} {ns : List Str} {vs : List D}, compL f ds S ≠ .exc c ns vs S'
  | [], S, S', c, ns, vs, h => by cases h
  | d :: ds, S, S', c, ns, vs, h => by
    unfold compL M.bind VM.noexc at h
    cases e1 : f d S with
    | ok o S1 =>
      rw [e1] at h
      dsimp only at h
      cases e2 : compL f ds S1 with
      | ok l S2 => rw [e2] at h; cases h
      | exc c ns vs S2 => exact compL_exc e2
      | bad => rw [e2] at h; cases h
    | exc c ns vs S1 => rw [e1] at h; cases h
    | bad => rw [e1] at h; cases h
theorem wipe_idem (σ : L2.St) : ∀ vs : List Nat, wipe (wipe σ vs) vs = wipe σ vs := fun vs => by
  have key : ∀ (us : List Nat) (w : L2.St), (∀ i ∈ us, ∀ v, w[i]? = some v → v = none) → wipe w us = w := by
    intro us
    induction us with
    | nil => intro w _; rfl
    | cons u us ih =>
      intro w h
      show (wipe w us).set u none = w
      rw [ih w fun i hi => h i (List.mem_cons_of_mem _ hi)]
      apply List.ext_getElem?
      intro k
      by_cases e : k = u
      · subst e
        by_cases hl : k < w.length
        · rw [List.getElem?_set_self hl, List.getElem?_eq_getElem hl]
          exact congrArg some (h k List.mem_cons_self _ (List.getElem?_eq_getElem hl)).symm
        · rw [List.getElem?_eq_none (by rw [List.length_set]; omega), List.getElem?_eq_none (by omega)]
      · rw [List.getElem?_set_ne (Ne.symm e)]
  refine key vs _ fun i hi v hv => ?_
  cases v with
  | none => rfl
  | some x => exact absurd hi (wipe_some hv).2
/-- one part of a turn ends well -/
theorem Pst.of_ok {m : M α} {a : α} {S1 : Store} {Q : α → Store → Hp → G → Prop} (e : m S = .ok a S1) (h : ∀ H' g', Nx H g H' g' → SI K σ H' g' env S1 → Q a S1 H' g') : Pst K W σ H g env Q (m S) := by rw [e]; exact h
theorem bind_okD {m : M α} {f : α → M β} {b : β} {S1 : Store} (h : (m.bind f) S = .ok b S1) : ∃ a S2, m S = .ok a S2 ∧ f a S2 = .ok b S1 := by
  unfold M.bind at h
  cases e : m S with
  | ok a S2 => rw [e] at h; exact ⟨a, S2, rfl, h⟩
  | exc c ns vs S2 => rw [e] at h; cases h
  | bad => rw [e] at h; cases h
theorem ofO_ok {o : Option α} {a : α} {S1 : Store} (h : ofO o S = .ok a S1) : o = some a ∧ S1 = S := by
  cases o with
  | none => cases h
  | some b => cases h; exact ⟨rfl, rfl⟩
/-- [e for tg in iter if ..] -/
theorem VN.lc {elt tg iter : Expr} {ifs : List Expr} {scope : Scope} {own : List (Str × Nat)} {pos : Pos} {mi : M (List D)} {dest : D → Option α} {en : α → Env' → Env'} {js : List Nat} {mt : α → M Bool} {me : α → M D} (hc : X.calm = true) (hN : X.N.Nodup) (hi : VI X W env tg iter mi) (ok : BlkOk X.N X.env.scope scope own)
    (hu : ∀ i ∈ own.map (·.2), env[i]? = some SL.un) (hj : ∀ i ∈ js, i ∈ own.map (·.2))
    (hg : ∀ (s : Shared) (H : Hp) (C : Addr) (cl : List (Str × Addr)) (fp : List Addr), VG (X.blk s H scope (compEnvC scope cl C X.env) fp) tg dest en js) (ht : ∀ (s : Shared) (H : Hp) (C : Addr) (cl : List (Str × Addr)) (fp : List Addr) (a : α), VTs (X.blk s H scope (compEnvC scope cl C X.env) fp) W0 (en a env) ifs (mt a))
    (he : ∀ (s : Shared) (H : Hp) (C : Addr) (cl : List (Str × Addr)) (fp : List Addr) (a : α), VE (X.blk s H scope (compEnvC scope cl C X.env) fp) W0 (en a env) elt (me a)) (hs : ∀ x, foldedSetIterable iter X.env x = pure x := by intro _; rfl) :
    VN X W env (.ListComp elt [⟨tg, iter, ifs, 0⟩] scope pos) (mi.bind (mkC (turnC dest mt me))) := by
  have ht' : ∀ (s : Shared) (H : Hp) (C : Addr) (cl : List (Str × Addr)) (fp : List Addr), PTs (X.blk s H scope (compEnvC scope cl C X.env) fp) ifs (fun σ H Q => ∃ a, TTb X.K W0 (en a env) (mt a) σ H Q) := fun s H C cl fp => ⟨fun pins s' σ H' Q I ⟨a, q⟩ => (ht s H C cl fp a).run pins s' σ H' Q I q⟩
  have he' : ∀ (s : Shared) (H : Hp) (C : Addr) (cl : List (Str × Addr)) (fp : List Addr), PE (X.blk s H scope (compEnvC scope cl C X.env) fp) elt (fun σ H Q => ∃ a, TV X.K W0 (en a env) (me a) σ H Q) := fun s H C cl fp => ⟨fun pins s' σ H' Q I ⟨a, q⟩ => (he s H C cl fp a).run pins s' σ H' Q I q⟩
  refine ⟨fun pins0 s0 σ H Q I0 h0 => ?_⟩
  have hgen := hg s0 H 0 [] []
  have hsub : ∀ a, Sub (en a env) env := fun a => sub_of (hgen.len a env).symm fun i t h => by
    by_cases hm : i ∈ js
    · rw [hu i (hj i hm)] at h; cases h; exact .inl rfl
    · exact .inr ((hgen.out a env i hm).trans h)
  refine (PE.imp (t' := TN X.K W env (mi.bind (mkC (turnC dest mt me)))) (pe_lc (g := TGv X.K dest en js) hc hN hi ok (fun s H C cl fp => (hg s H C cl fp).pg) ht' he' hs) fun σ H Q ⟨g, S, s, p⟩ => ⟨g, S, s, p.bind.mono fun ds S1 H1 g1 n1 s1 p1 J hJ p hp => ?_⟩).run pins0 s0 σ H Q I0 h0
  obtain ⟨GG, Y, w, hG, hY⟩ := hJ.ex
  have hpp : H p = none := by
    cases e : H p with
    | none => rfl
    | some u => exact absurd hp (n1.stay p (by rw [e]; simp))
  have p1' : Pst X.K W σ H1 g1 env (fun l S2 H2 g2 => Pst X.K W σ H2 g2 env (QN X.K H Q) (.ok (.lst l) S2)) (req (ds.length ≤ sizeLine) (compL (turnC dest mt me) ds) S1) := Pst.bind (f := fun l => M.pure (D.lst l)) p1
  obtain ⟨hz, p2⟩ := p1'.req
  have d0 : DoneC (fun l S2 => ∀ H2 g2, Nx H1 g1 H2 g2 → SI X.K σ H2 g2 env S2 → Loose X.K H2 g2 p (.lst l) → Q (.ref p) H2) [] (compL (turnC dest mt me) ds S1) := by
    cases e : compL (turnC dest mt me) ds S1 with
    | ok l S2 =>
      rw [e] at p2
      exact fun H2 g2 n2 s2 L => p2 H2 g2 n2 s2 H2 g2 (Nx.refl _ _) s2 p L hpp
    | exc c ns vs S2 => exact absurd e compL_exc
    | bad => rw [e] at p2; exact p2.elim
  have nm1 : p ∉ g1.μ := fun z => s1.sg.mup z hp
  have no1 : p ∉ g1.ω := fun z => s1.omp p z hp
  have nf1 : g1.F p = none := by
    cases e : g1.F p with
    | none => rfl
    | some u => rw [s1.sg.sub p u e] at hp; cases hp
  refine lc_it (g := TGv X.K dest en js) (tt := fun σ H Q => ∃ a, TTb X.K W0 (en a env) (mt a) σ H Q) (te := fun σ H Q => ∃ a, TV X.K W0 (en a env) (me a) σ H Q) w
    (fun i H' => ∃ g' S' acc xs, SI X.K σ H' g' env S' ∧ Nx H1 g1 H' g' ∧ H' p = some (.lst xs) ∧ xs.length ≤ i ∧ repL X.K g'.F g'.μ acc xs ∧ p ∉ g'.μ ∧ p ∉ g'.ω ∧ g'.F p = none ∧
      DoneC (fun l S2 => ∀ H2 g2, Nx H1 g1 H2 g2 → SI X.K σ H2 g2 env S2 → Loose X.K H2 g2 p (.lst l) → Q (.ref p) H2) acc (compL (turnC dest mt me) (ds.drop i) S')) ?_ ?_ ?_ ?_
  · exact ⟨g1, S1, [], [], s1.fresh hp, Nx.fresh hp, upd_same, Nat.le_refl _, repL_nil, nm1, no1, nf1, by rw [List.drop_zero]; exact d0⟩
  · rintro i H' _ ⟨g', S', acc, xs, s', n', _⟩
    exact hG g'.F H' n'.grow s'.sg.sub
  · rintro i x H' H2 hi' ⟨g', S', acc, xs, s', n', hx, hl, ra, nm, no, nf, dn⟩ hy
    have ed : ds[i]? = some ds[i] := List.getElem?_eq_getElem hi'
    obtain ⟨g2, n2, s2, r2⟩ := hY σ env S' H' g' i ds[i] x H2 s' n'.grow n'.pre ed hy
    rw [List.drop_eq_getElem_cons hi'] at dn
    obtain ⟨o, S5, e1, dn⟩ := dn.cons
    unfold turnC at e1
    obtain ⟨a, S3, e2, e3⟩ := bind_okD e1
    obtain ⟨e2', eS⟩ := ofO_ok e2
    subst eS
    obtain ⟨b, S4, e4, e5⟩ := bind_okD e3
    obtain ⟨hx2, nm2, no2, nf2⟩ := n2.aside hx nm no nf
    refine ⟨g2, S3, env, ds[i], a, (SI.wiped hu).mpr s2, r2, e2', fun σ3 H3 g3 n3 s3 hw => ⟨hw _ hj |>.trans (wipe_idem _ _), a, g3, S3, s3, Pst.of_ok e4 fun H4 g4 n4 s4 => ?_⟩⟩
    obtain ⟨hx4, nm4, no4, nf4⟩ := (n3.trans n4).aside hx2 nm2 no2 nf2
    have back : ∀ {H5 g5 S5}, SI X.K σ3 H5 g5 (en a env) S5 → SI X.K σ H5 g5 env S5 := fun {H5 g5 S5} q => by
      have q1 := (SI.wiped hu).mpr (q.weak (hsub a))
      rw [hw _ hj, wipe_idem] at q1
      exact (SI.wiped hu).mp q1
    cases b with
    | false =>
      rw [if_neg (by decide)] at e5 ⊢
      cases e5
      exact ⟨g4, _, acc, xs, back s4, n'.trans (n2.trans (n3.trans n4)), hx4, Nat.le_succ_of_le hl, repL_mono (n2.trans (n3.trans n4)).grow (n2.trans (n3.trans n4)).pre _ _ ra, nm4, no4, nf4, by simpa using dn⟩
    | true =>
      rw [if_pos rfl] at e5 ⊢
      obtain ⟨y, S6, e6, e7⟩ := bind_okD e5
      cases e7
      refine ⟨a, g4, S4, s4, Pst.of_ok e6 fun H5 g5 n5 s5 v rv => ?_⟩
      have nn := n2.trans (n3.trans (n4.trans n5))
      obtain ⟨hx5, nm5, no5, nf5⟩ := n5.aside hx4 nm4 no4 nf4
      have hlen : xs.length < sizeLine := by omega
      refine ⟨xs, hx5, hlen, g5, _, acc ++ [y], xs ++ [v], (back s5).foreign nm5 no5 nf5, (n'.trans nn).foreign hp, upd_same, by rw [List.length_append]; simp; omega, repL_append (repL_mono nn.grow nn.pre _ _ ra) (repL_one rv), nm5, no5, nf5, dn⟩
  · rintro H' ⟨g', S', acc, xs, s', n', hx, hl, ra, nm, no, nf, dn⟩
    rw [List.drop_length] at dn
    have dn2 : ∀ H2 g2, Nx H1 g1 H2 g2 → SI X.K σ H2 g2 env S' → Loose X.K H2 g2 p (.lst (acc ++ [])) → Q (.ref p) H2 := dn
    rw [List.append_nil] at dn2
    exact dn2 H' g' n' s' ⟨nm, no, nf, xs, hx, by omega, ra⟩
end
end VM
namespace VM
open PySem PySem.Spec PyProof.Rows L2
section
variable {α β τ : Type} {X : Cx} {W : WX} {rk : Bool} {vx env : Env'} {vb : β → Env'} {vw' : τ → Env'} {K : PySem.W.Frag} {σ : L2.St} {H H' : Hp} {g g' : G} {S S' : Store}
/-! ### what is never reached -/
theorem VE.bad {e : Expr} : VE X W env e M.bad := ⟨fun pins s σ H Q I ⟨g, S, si, p⟩ => p.elim⟩
theorem VO.bad {st : Stmt} : VO X W rk vx vb env st vw' (M.bad : M (Out τ β)) := ⟨fun pins s σ H E I ⟨g, S, si, p⟩ => p.elim⟩
theorem VB.bad {sts : List Stmt} : VB X W rk vx vb env sts vw' (M.bad : M (Out τ β)) := ⟨fun pins s σ H E I ⟨g, S, si, p⟩ => p.elim⟩
theorem NoNx.bad : NoNx (M.bad : M (Out τ β)) := fun S t S' h => by cases h
/-! ### slices -/
def VP (X : Cx) (W : WX) (env : Env') (e : Option Expr) (m : M (Option Int)) : Prop := PO X e (fun σ H Q => ∃ g S, SI X.K σ H g env S ∧ Pst X.K W σ H g env (fun o _ H' _ => Q o H') (m S))
theorem VP.none : VP X W env Option.none (M.pure Option.none) := ⟨fun pins s σ H Q I ⟨g, S, si, p⟩ => po_none.run pins s σ H Q I (p H g (Nx.refl _ _) si)⟩
def aPart : D → M (Option Int)
  | .int i => M.pure (some i)
  | _ => M.bad
theorem VP.some {e : Expr} {m : M D} (h : VE X W env e m) : VP X W env (some e) (m.bind aPart) := ⟨fun pins s σ H Q I ⟨g, S, si, p⟩ => (po_some h).run pins s σ H Q I ⟨g, S, si, p.bind.mono fun d S1 H1 g1 n1 s1 p1 v r => by
  cases d with
  | int i => exact ⟨i, by simpa only [rep] using r, p1 H1 g1 (Nx.refl _ _) s1⟩
  | _ => exact p1.elim⟩⟩
def cutD {α : Type} (l : List α) (lo hi : Option Int) : List α := (l.drop (HT.sIx l.length 0 lo)).take (HT.sIx l.length l.length hi - HT.sIx l.length 0 lo)
theorem cutD_len (l : List α) (lo hi : Option Int) : (cutD l lo hi).length ≤ l.length := by
  unfold cutD
  rw [List.length_take, List.length_drop]
  omega
theorem cut_rep {l : List D} {xs : List V} (r : repL K g.F g.μ l xs) (lo hi : Option Int) : repL K g.F g.μ (cutD l lo hi) (cutV xs lo hi) := by
  unfold cutD cutV
  rw [repL_length r]
  exact repL_take _ (repL_drop _ r)
def aSliceL (lo hi : Option Int) : D → M D
  | .lst l => M.pure (.lst (cutD l lo hi))
  | .scr ns => M.pure (.lst ((cutD ns lo hi).map .int))
  | _ => M.bad
theorem repL_ints (ns : List Int) : repL K g.F g.μ (ns.map .int) (ns.map V.int) := by
  induction ns with
  | nil => exact repL_nil
  | cons n ns ih => exact repL_cons (by simp only [rep]) ih
/-- xs[lo:hi] of a list: a new list -/
theorem VN.slice {e : Expr} {lo hi : Option Expr} {p2 pos : Pos} {m : M D} {ml mh : M (Option Int)} (he : VR X W env e m) (hl : VP X W env lo ml) (hh : VP X W env hi mh) :
    VN X W env (.Subscript e (.Slice lo hi Option.none p2) pos) (m.bind fun d => ml.bind fun a => mh.bind fun b => (vw d).bind (aSliceL a b)) :=
  PE.imp (pe_slice sl_list he hl hh) fun σ H Q ⟨g, S, s, p⟩ => ⟨g, S, s, p.bind.mono fun d S1 H1 g1 n1 s1 p1 v r => ⟨g1, S1, s1, p1.bind.mono fun a S2 H2 g2 n2 s2 p2 => ⟨g2, S2, s2, p2.bind.mono fun b S3 H3 g3 n3 s3 p3 => by
    obtain ⟨d', p4, r4⟩ := vw_spec s3 (r.mono (n2.trans n3)) p3
    have hn := (n1.trans (n2.trans n3))
    cases d' with
    | lst l =>
      obtain ⟨c, xs, rfl, hc, z, rl⟩ := r4
      have hz : (cutV xs a b).length ≤ sizeLine := Nat.le_trans (cutV_length _ _ _) z
      exact ⟨c, xs, rfl, .of hc, newN s3 (fun p hp => own_lst hz (cut_rep rl _ _)) (Pst.newN hn p4)⟩
    | scr ns =>
      obtain ⟨c, rfl, hc, z⟩ := r4
      have e1 : cutV (ns.map V.int) a b = (cutD ns a b).map V.int := by
        unfold cutV cutD
        rw [List.length_map, List.map_take, List.map_drop]
      have hz : (cutV (ns.map V.int) a b).length ≤ sizeLine := Nat.le_trans (cutV_length _ _ _) (by rw [List.length_map]; exact z)
      refine ⟨c, _, rfl, hc, newN s3 (fun p hp => own_lst hz ?_) (Pst.newN hn p4)⟩
      rw [e1]
      exact repL_ints _
    | _ => exact p4.elim⟩⟩⟩
/-- .. of a tuple, of a text -/
def aSliceT (lo hi : Option Int) : D → M D
  | .tup l => req (¬ (HT.sIx l.length 0 lo = 0 ∧ HT.sIx l.length l.length hi = l.length)) (M.pure (.tup (cutD l lo hi)))
  | .str z => req (z.length ≤ sizeLine) (M.pure (.str (cutS z lo hi)))
  | _ => M.bad
theorem VE.sliceT {e : Expr} {lo hi : Option Expr} {p2 pos : Pos} {m : M D} {ml mh : M (Option Int)} (he : VR X W env e m) (hl : VP X W env lo ml) (hh : VP X W env hi mh) :
    VE X W env (.Subscript e (.Slice lo hi Option.none p2) pos) (m.bind fun d => ml.bind fun a => mh.bind fun b => (vw d).bind (aSliceT a b)) :=
  PE.imp (pe_slice (sl_tup.or sl_str) he hl hh) fun σ H Q ⟨g, S, s, p⟩ => ⟨g, S, s, p.bind.mono fun d S1 H1 g1 n1 s1 p1 v r => ⟨g1, S1, s1, p1.bind.mono fun a S2 H2 g2 n2 s2 p2 => ⟨g2, S2, s2, p2.bind.mono fun b S3 H3 g3 n3 s3 p3 => by
    obtain ⟨d', p4, r4⟩ := vw_spec s3 (r.mono (n2.trans n3)) p3
    cases d' with
    | tup l =>
      obtain ⟨c, xs, rfl, hc, z, rl⟩ := r4
      obtain ⟨hw, p4⟩ := Pst.req p4
      have hz : (cutV xs a b).length ≤ sizeLine := Nat.le_trans (cutV_length _ _ _) z
      exact .inl ⟨c, xs, rfl, .of (s3.sg.sub _ _ hc), by rw [repL_length rl]; exact hw, newTE s3 hz (cut_rep rl _ _) p4⟩
    | str z =>
      obtain ⟨hw, p4⟩ := Pst.req p4
      have e : v = .str z := r4
      subst e
      exact .inr ⟨z, rfl, hw, QE.now s3 p4 (by simp only [rep])⟩
    | _ => exact p4.elim⟩⟩⟩
/-! ### built-ins -/
def aList : D → M D
  | .lst l => M.pure (.lst l)
  | .tup l => M.pure (.lst l)
  | .ktp l => M.pure (.lst l)
  | .scr ns => M.pure (.lst (ns.map .int))
  | _ => M.bad
theorem sp_list : SpCN K (fun xs H Q => ∃ p ys, xs = [.ref p] ∧ (SqL K H p ys ∨ SqT K H p ys) ∧ ∀ l, H l = none → Q (.ref l) (upd H l (.lst ys))) (one1 aList) := SpCHN.to fun W σ H g env S x v Q s r p => by
  cases x with
  | lst l => obtain ⟨a, xs, rfl, ha, z, b⟩ := r; exact ⟨a, xs, rfl, .inl (.of ha), newN s (fun p hp => own_lst z b) p⟩
  | tup l => obtain ⟨a, xs, rfl, ha, z, b⟩ := r; exact ⟨a, xs, rfl, .inr (.of (s.sg.sub _ _ ha)), newN s (fun p hp => own_lst z b) p⟩
  | ktp l => obtain ⟨a, xs, rfl, ha, z, b⟩ := r; exact ⟨a, xs, rfl, .inr (s.sg.sub.sqT ha), newN s (fun p hp => own_lst z b) p⟩
  | scr ns => obtain ⟨a, rfl, ha, z⟩ := r; exact ⟨a, _, rfl, .inl ha, newN s (fun p hp => own_lst (by rw [List.length_map]; exact z) (repL_ints ns)) p⟩
  | _ => exact p.elim
def aTuple : D → M D
  | .lst l => M.pure (.tup l)
  | .tup l => M.pure (.tup l)
  | _ => M.bad
theorem sp_tuple : SpC K (fun xs H Q => ∃ p ys, xs = [.ref p] ∧ ((SqL K H p ys ∧ ∀ l, H l = none → Q (.ref l) (upd H l (.tup ys))) ∨ (SqT K H p ys ∧ Q (.ref p) H))) (one1 aTuple) := SpCH.to fun W σ H g env S x v Q s r p => by
  cases x with
  | lst l => obtain ⟨a, xs, rfl, ha, z, b⟩ := r; exact ⟨a, xs, rfl, .inl ⟨.of ha, newTE s z b p⟩⟩
  | tup l => obtain ⟨a, xs, rfl, ha, z, b⟩ := r; exact ⟨a, xs, rfl, .inr ⟨.of (s.sg.sub _ _ ha), QE.now s p (by simp only [rep]; exact ⟨a, xs, rfl, ha, z, b⟩)⟩⟩
  | _ => exact p.elim
def aIntC : D → M D
  | .int i => M.pure (.int i)
  | .bl b => M.pure (.int (if b then 1 else 0))
  | _ => M.bad
theorem sp_int : SpC K (fun xs H Q => (∃ i, xs = [.int i] ∧ Q (.int i) H) ∨ ∃ k, xs = [.bl k] ∧ Q (.int (if k then 1 else 0)) H) (one1 aIntC) := SpCH.to fun W σ H g env S x v Q s r p => by
  cases x with
  | int i => have e : v = .int i := r; subst e; exact .inl ⟨i, rfl, QE.now s p (by simp only [rep])⟩
  | bl i => have e : v = .bl i := r; subst e; exact .inr ⟨i, rfl, QE.now s p (by simp only [rep])⟩
  | _ => exact p.elim
def toInts : List D → Option (List Int)
  | [] => some []
  | .int i :: l => (toInts l).map (i :: ·)
  | _ => none
def toBls : List D → Option (List Bool)
  | [] => some []
  | .bl i :: l => (toBls l).map (i :: ·)
  | _ => none
theorem toInts_v : ∀ {l : List D} {ns : List Int} {xs : List V}, toInts l = some ns → repL K g.F g.μ l xs → xs = ns.map V.int
  | [], ns, xs, e, r => by simp only [repL] at r; simp only [toInts] at e; cases e; exact r
  | d :: l, ns, xs, e, r => by
    simp only [repL] at r
    obtain ⟨v, t, rfl, a, b⟩ := r
    cases d with
    | int i =>
      simp only [toInts] at e
      cases q : toInts l with
      | none => rw [q] at e; cases e
      | some ms =>
        rw [q] at e; cases e
        simp only [rep] at a
        rw [a, toInts_v q b]; rfl
    | _ => simp only [toInts] at e; cases e
theorem toBls_v : ∀ {l : List D} {ns : List Bool} {xs : List V}, toBls l = some ns → repL K g.F g.μ l xs → xs = ns.map V.bl
  | [], ns, xs, e, r => by simp only [repL] at r; simp only [toBls] at e; cases e; exact r
  | d :: l, ns, xs, e, r => by
    simp only [repL] at r
    obtain ⟨v, t, rfl, a, b⟩ := r
    cases d with
    | bl i =>
      simp only [toBls] at e
      cases q : toBls l with
      | none => rw [q] at e; cases e
      | some ms =>
        rw [q] at e; cases e
        simp only [rep] at a
        rw [a, toBls_v q b]; rfl
    | _ => simp only [toBls] at e; cases e
def aSum : D → M D
  | .lst l => (ofO (toInts l)).bind fun ns => M.pure (.int ns.sum)
  | _ => M.bad
theorem sp_sum : SpC K (rSum K) (one1 aSum) := SpCH.to fun W σ H g env S x v Q s r p => by
  cases x with
  | lst l =>
    obtain ⟨a, xs, rfl, ha, z, b⟩ := r
    obtain ⟨ns, e, p2⟩ := ofO_bind p
    have := toInts_v e b
    subst this
    exact ⟨a, ns, rfl, .of ha, QE.now s p2 (by simp only [rep])⟩
  | _ => exact p.elim
def aAll : D → M D
  | .lst l => (ofO (toBls l)).bind fun bs => M.pure (.bl (bs.all id))
  | _ => M.bad
def aAny : D → M D
  | .lst l => (ofO (toBls l)).bind fun bs => M.pure (.bl (bs.any id))
  | _ => M.bad
theorem sp_all : SpC K (rAll K) (one1 aAll) := SpCH.to fun W σ H g env S x v Q s r p => by
  cases x with
  | lst l =>
    obtain ⟨a, xs, rfl, ha, z, b⟩ := r
    obtain ⟨ns, e, p2⟩ := ofO_bind p
    have := toBls_v e b
    subst this
    exact ⟨a, ns, rfl, .of ha, QE.now s p2 (by simp only [rep])⟩
  | _ => exact p.elim
theorem sp_any : SpC K (rAny K) (one1 aAny) := SpCH.to fun W σ H g env S x v Q s r p => by
  cases x with
  | lst l =>
    obtain ⟨a, xs, rfl, ha, z, b⟩ := r
    obtain ⟨ns, e, p2⟩ := ofO_bind p
    have := toBls_v e b
    subst this
    exact ⟨a, ns, rfl, .of ha, QE.now s p2 (by simp only [rep])⟩
  | _ => exact p.elim
/-! ### is True, is not True -/
def aIsB : D → D → M D
  | x, .non => M.pure (.bl (isNon x))
  | .bl a, .bl b => M.pure (.bl (decide (a = b)))
  | _, _ => M.bad
def aNotB : D → D → M D
  | x, .non => M.pure (.bl (!isNon x))
  | .bl a, .bl b => M.pure (.bl (!decide (a = b)))
  | _, _ => M.bad
def dIs := vw2 aIsB
def dIsNot := vw2 aNotB
abbrev rIsD : R2 := fun x y H Q => (y = .non ∧ Q (.bl (decide (x = .non))) H) ∨ rIsB x y H Q
abbrev rNotD : R2 := fun x y H Q => (y = .non ∧ Q (.bl (!decide (x = .non))) H) ∨ rNotB x y H Q
theorem op_isD : OpR X (compareOp .Is) rIsD := op_isN.or op_isBl
theorem op_notD : OpR X (compareOp .IsNot) rNotD := op_notN.or op_notBl
theorem sp_is : Sp2 K rIsD dIs := Sp2H.to fun W σ H g env S x y v w Q s r1 r2 p => by
  cases y with
  | non => exact .inl ⟨r2, by rw [isNon_v (d := x) r1]; have p2 : Pst K W σ H g env (QE K Q) (.ok (.bl (isNon x)) S) := (by cases x <;> exact p); exact QE.now s p2 (by simp only [rep])⟩
  | bl b =>
    cases x with
    | bl a => exact .inr ⟨a, b, r1, r2, QE.now s p (by simp only [rep])⟩
    | _ => exact p.elim
  | _ => cases x <;> exact p.elim
theorem sp_isNot : Sp2 K rNotD dIsNot := Sp2H.to fun W σ H g env S x y v w Q s r1 r2 p => by
  cases y with
  | non => exact .inl ⟨r2, by rw [isNon_v (d := x) r1]; have p2 : Pst K W σ H g env (QE K Q) (.ok (.bl (!isNon x)) S) := (by cases x <;> exact p); exact QE.now s p2 (by simp only [rep])⟩
  | bl b =>
    cases x with
    | bl a => exact .inr ⟨a, b, r1, r2, QE.now s p (by simp only [rep])⟩
    | _ => exact p.elim
  | _ => cases x <;> exact p.elim
/-! ### stores to items -/
theorem PSet.or {r r' : TSet} (h : PSet X r) (h' : PSet X r') : PSet X (fun o i v H Q => r o i v H Q ∨ r' o i v H Q) := by
  intro pins s σ H o i v ov iv u Q I ro ri rv q
  rcases q with q | q
  · exact h pins s σ H o i v ov iv u Q I ro ri rv q
  · exact h' pins s σ H o i v ov iv u Q I ro ri rv q
def rSetD : TSet := fun o i v H Q => ∃ a H4, o = .ref a ∧ DPut H a i v H4 ∧ Q H4
theorem set_dict (hu : X.A.units + 1 < cLine) : PSet X rSetD := by
  intro pins s σ H o i v ov iv u Q I ro ri rv h
  obtain ⟨a, H4, rfl, hd, q⟩ := h
  cases ro
  exact d_setItem hu I hd ri rv fun s' I' => ⟨H4, I', q⟩
/-- what stands at an object behind a store -/
def putL {κ : Type} [DecidableEq κ] : List κ → List D → κ → D → List κ × List D
  | k :: ks, d :: ds, j, x => if k = j then (k :: ks, x :: ds) else ((k :: (putL ks ds j x).1), (d :: (putL ks ds j x).2))
  | ks, ds, j, x => (ks ++ [j], ds ++ [x])
def aSet : D → D → D → Option D
  | .lst l, .int i, x => (ixN l.length i).map fun j => .lst (l.set j x)
  | .dk ks vs, k, x => (toKey k).bind fun j => if ks.length < sizeLine ∧ vs.length = ks.length then some (.dk (putL ks vs j x).1 (putL ks vs j x).2) else none
  | .dt ks vs, .tup l, x => (toKeys l).bind fun j => if ks.length < sizeLine ∧ vs.length = ks.length then some (.dt (putL ks vs j x).1 (putL ks vs j x).2) else none
  | _, _, _ => none
theorem put_rep {κ : Type} [DecidableEq κ] : ∀ {kvs : List (κ × V)} {ks : List κ} {ds : List D} {j : κ} {x : D} {v : V}, kvs.map (·.1) = ks → ks.Nodup → repL K g.F g.μ ds (kvs.map (·.2)) → rep K g.F g.μ x v →
    (putK kvs j v).map (·.1) = (putL ks ds j x).1 ∧ repL K g.F g.μ (putL ks ds j x).2 ((putK kvs j v).map (·.2)) ∧ (putL ks ds j x).1.Nodup ∧ (∀ k, k ∈ (putL ks ds j x).1 → k ∈ ks ∨ k = j) ∧ (putL ks ds j x).1.length ≤ ks.length + 1
  | [], ks, ds, j, x, v, e, nd, r, rv => by
    simp at e; subst e
    simp only [List.map_nil] at r
    have hd : ds = [] := by
      cases ds with
      | nil => rfl
      | cons a b => simp only [repL] at r; obtain ⟨_, _, q, _⟩ := r; cases q
    subst hd
    refine ⟨rfl, ?_, by simp [putL], by simp [putL], by simp [putL]⟩
    exact repL_one rv
  | p :: kvs, ks, ds, j, x, v, e, nd, r, rv => by
    cases ks with
    | nil => simp at e
    | cons k ks =>
      cases ds with
      | nil => simp only [repL] at r; simp at r
      | cons d ds =>
        simp only [List.map_cons, List.cons.injEq] at e
        simp only [repL, List.map_cons] at r
        obtain ⟨w, t, e2, a, b⟩ := r
        simp only [List.cons.injEq] at e2
        obtain ⟨e2, e3⟩ := e2
        rw [← e3] at b
        obtain ⟨ndh, ndt⟩ := List.nodup_cons.mp nd
        by_cases hk : k = j
        · have hp : p.1 = j := e.1.trans hk
          have key : putK (p :: kvs) j v = (p.1, v) :: kvs := by
            unfold putK
            have hany : ((p :: kvs).any fun kv => decide (kv.1 = j)) = true := by simp [hp]
            rw [if_pos hany, List.map_cons, if_pos hp]
            congr 1
            have : ∀ q ∈ kvs, (if q.1 = j then (q.1, v) else q) = q := fun q hq => by
              have hn : q.1 ≠ j := fun z => ndh (by rw [hk, ← z, ← e.2]; exact List.mem_map_of_mem hq)
              rw [if_neg hn]
            calc kvs.map (fun kv => if kv.1 = j then (kv.1, v) else kv) = kvs.map id := List.map_congr_left this
              _ = kvs := List.map_id _
          simp only [putL, if_pos hk, key]
          refine ⟨by simp [e.1, e.2], by simp only [List.map_cons]; exact repL_cons rv b, nd, fun q hq => .inl hq, by simp⟩
        · have hp : ¬ p.1 = j := fun z => hk (e.1.symm.trans z)
          obtain ⟨i1, i2, i3, i4, i5⟩ := put_rep (j := j) e.2 ndt b rv
          have key : putK (p :: kvs) j v = p :: putK kvs j v := by
            unfold putK
            have hany : ((p :: kvs).any fun kv => decide (kv.1 = j)) = (kvs.any fun kv => decide (kv.1 = j)) := by rw [List.any_cons, decide_eq_false hp, Bool.false_or]
            rw [hany]
            by_cases ha : (kvs.any fun kv => decide (kv.1 = j)) = true
            · rw [if_pos ha, if_pos ha, List.map_cons, if_neg hp]
            · rw [if_neg ha, if_neg ha]; rfl
          simp only [putL, if_neg hk, key]
          refine ⟨by simp [e.1, i1], by simp only [List.map_cons]; rw [e2]; exact repL_cons a i2, List.nodup_cons.mpr ⟨fun z => ?_, i3⟩, fun q hq => ?_, by simp; exact i5⟩
          · rcases i4 k z with z | z
            · exact ndh z
            · exact hk z
          · rcases List.mem_cons.mp hq with z | z
            · exact .inl (by rw [z]; exact List.mem_cons_self)
            · rcases i4 q z with z | z
              · exact .inl (List.mem_cons_of_mem _ z)
              · exact .inr z
abbrev rSetAll : TSet := fun o i v H Q => rSetL o i v H Q ∨ rSetD o i v H Q
theorem set_all (hu : X.A.units + 1 < cLine) : PSet X rSetAll := PSet.or set_list (set_dict hu)
/-- the store by data -/
theorem set_spec {p : Addr} {d i x d' : D} {vi v : V} {Q : Hp → Prop} (s : SI K σ H g env S) (r : ownAt K H g.F g.μ p d) (ri : repR K σ g env i vi) (hi : ∀ k, i ≠ .ref k) (rx : rep K g.F g.μ x v) (e : aSet d i x = some d') (h : ∀ o, ownAt K (upd H p o) g.F g.μ p d' → Q (upd H p o)) : rSetAll (.ref p) vi v H Q := by
  have rH : repH K H g i vi := by
    rcases ri with q | ⟨j, h1, h2⟩
    · exact rep_H s.sg q hi
    · obtain ⟨a, e, _, _, _, r⟩ := s.slot j _ h1
      rw [h2] at e; cases e
      exact ownAt_H r
  cases d with
  | lst l =>
    obtain ⟨xs, hp, z, b⟩ := r
    cases i with
    | int k =>
      have ev : vi = .int k := rH
      have e' : ((ixN l.length k).map fun j => D.lst (l.set j x)) = some d' := e
      cases q : ixN l.length k with
      | none => rw [q] at e'; cases e'
      | some j =>
        rw [q] at e'; cases e'
        refine .inl ⟨p, xs, k, j, rfl, ev, hp, by rw [repL_length b]; exact q, h _ ⟨_, upd_same, by rw [List.length_set]; exact z, repL_set j b rx⟩⟩
    | _ => cases e
  | dk ks vs =>
    obtain ⟨kvs, hp, ek, nd, z, b⟩ := r
    have e' : ((toKey i).bind fun j => if ks.length < sizeLine ∧ vs.length = ks.length then some (D.dk (putL ks vs j x).1 (putL ks vs j x).2) else none) = some d' := by cases i <;> exact e
    cases q : toKey i with
    | none => rw [q] at e'; cases e'
    | some j =>
      rw [q] at e'
      dsimp only [Option.bind] at e'
      by_cases hc : ks.length < sizeLine ∧ vs.length = ks.length
      · rw [if_pos hc] at e'
        cases e'
        have ev : vi = kV j := by
          cases i with
          | int i => cases q; exact rH
          | str i => cases q; exact rH
          | _ => cases q
        obtain ⟨i1, i2, i3, i4, i5⟩ := put_rep (j := j) ek nd b rx
        have hl : kvs.length = ks.length := by rw [← ek, List.length_map]
        exact .inr ⟨p, _, rfl, .inl ⟨kvs, j, hp, ev, by omega, rfl⟩, h _ ⟨_, upd_same, i1, i3, by omega, i2⟩⟩
      · rw [if_neg hc] at e'; cases e'
  | dt ks vs =>
    obtain ⟨kvs, hp, ek, nd, z, b⟩ := r
    cases i with
    | tup l =>
      have e' : ((toKeys l).bind fun j => if ks.length < sizeLine ∧ vs.length = ks.length then some (D.dt (putL ks vs j x).1 (putL ks vs j x).2) else none) = some d' := e
      cases q : toKeys l with
      | none => rw [q] at e'; cases e'
      | some j =>
        rw [q] at e'
        dsimp only [Option.bind] at e'
        by_cases hc : ks.length < sizeLine ∧ vs.length = ks.length
        · rw [if_pos hc] at e'
          cases e'
          obtain ⟨c, xs, rfl, hc2, _, bc⟩ := rH
          have := toKeys_v q bc
          subst this
          obtain ⟨i1, i2, i3, i4, i5⟩ := put_rep (j := j) ek nd b rx
          have hl : kvs.length = ks.length := by rw [← ek, List.length_map]
          exact .inr ⟨p, _, rfl, .inr ⟨kvs, j, c, hp, rfl, s.sg.sub _ _ hc2, by omega, rfl⟩, h _ ⟨_, upd_same, i1, i3, by omega, i2⟩⟩
        · rw [if_neg hc] at e'; cases e'
    | _ => cases e
  | obj c ns vs => cases i <;> cases e
  | _ => exact r.elim
def isRef : D → Bool
  | .ref _ => true
  | _ => false
/-- x[i] = e, x a store's cell -/
def setRef (o i x : D) : M Unit := match o with
  | .ref k => fun S => match S[k]? with
    | some (some d) => if isRef i = true then .bad else (match aSet d i x with
      | some d' => .ok () (S.set k (some d'))
      | none => .bad)
    | _ => .bad
  | _ => M.bad
theorem VS.setRef {o i e : Expr} {tpos pos : Pos} {mo mi m : M D} (hu : X.A.units + 1 < cLine) (hx : Sub env vx) (he : VE X W env e m) (ho : VE X W env o mo) (hi : VE X W env i mi)
    (ha : ∀ v, assign (.Subscript o i tpos) X.env v = (do let ov ← holding [v] (eval o X.env); let iv ← holding [v, ov] (eval i X.env); standAt tpos; holding [v, ov, iv] (setItem ov iv v); release [v, ov, iv] []) := by intro _; rfl)
    (hs : swapsWithSole [.Subscript o i tpos] e pos.line X.env = pure false := by rfl) (hw : swappedStores [.Subscript o i tpos] e X.env = pure none := by rfl) :
    VS X W vx env (.Assign [.Subscript o i tpos] e pos) (fun _ : Unit => env) (m.bind fun x => mo.bind fun a => mi.bind fun b => VM.setRef a b x) :=
  PS.imp (ps_asg he (pg_sub ho hi (set_all hu) ha) hs hw) fun E σ H ⟨g, S, s, p⟩ => ⟨g, S, s, (p.bind hx).mono fun x S1 H1 g1 n1 s1 p1 v rv => ⟨g1, S1, s1, (p1.bind hx).mono fun a S2 H2 g2 n2 s2 p2 w rw' => ⟨g2, S2, s2, (p2.bind hx).mono fun b S3 H3 g3 n3 s3 p3 u ru => by
    cases a with
    | ref k =>
      have ra := rep_mono n3.grow n3.pre _ _ rw'
      simp only [rep] at ra
      obtain ⟨q, hq, rfl⟩ := ra
      unfold VM.setRef at p3
      dsimp only at p3
      cases e1 : S3[k]? with
      | none => rw [e1] at p3; exact p3.elim
      | some od =>
        cases od with
        | none => rw [e1] at p3; exact p3.elim
        | some d =>
          rw [e1] at p3
          dsimp only at p3
          by_cases hr : isRef b = true
          · rw [if_pos hr] at p3; exact p3.elim
          · rw [if_neg hr] at p3
            cases e2 : aSet d b x with
            | none => rw [e2] at p3; exact p3.elim
            | some d' =>
              rw [e2] at p3
              refine set_spec s3 (s3.sg.st k d q e1 hq).2 (.inl ru) (fun j z => hr (by rw [z]; rfl)) (rep_mono (n2.trans n3).grow (n2.trans n3).pre _ _ rv) e2 fun o' ho' => ?_
              obtain ⟨s4, n4⟩ := s3.writeSt (d := d) (d' := d') e1 hq ho'
              exact p3 σ _ g3 n4 s4
    | _ => exact p3.elim⟩⟩⟩
end
end VM
namespace VM
open PySem PySem.Spec PyProof.Rows L2
section
variable {α β τ : Type} {X : Cx} {W : WX} {rk : Bool} {vx env : Env'} {vb : β → Env'} {vw' : τ → Env'} {K : PySem.W.Frag} {σ : L2.St} {H H' : Hp} {g g' : G} {S S' : Store}
theorem VS.asgG {tg e : Expr} {pos : Pos} {m : M D} {dest : D → Option α} {en : α → Env' → Env'} {js : List Nat} (hx : Sub env vx) (he : VE X W env e m) (hg : VG X tg dest en js) (hs : swapsWithSole [tg] e pos.line X.env = pure false := by rfl) (hw : swappedStores [tg] e X.env = pure none := by rfl) (h1 : (assignEach [tg] X.env).map (·.2) = [assign tg X.env] := by rfl) :
    VS X W vx env (.Assign [tg] e pos) (fun a => en a env) (m.bind fun d => ofO (dest d)) :=
  PS.imp (ps_asg he hg.pg hs hw h1) fun E σ H ⟨g, S, s, p⟩ => ⟨g, S, s, (p.bind hx).mono fun d S1 H1 g1 n1 s1 p1 v rv => by
    cases e : dest d with
    | none => rw [e] at p1; exact p1.elim
    | some a =>
      rw [e] at p1
      exact ⟨g1, S1, env, d, a, s1, rv, e, fun σ' H' g' n' s' _ => p1 σ' H' g' n' s'⟩⟩
/-! ### own slots -/
theorem VS.setOwn {j : Nat} {x : Str} {i e : Expr} {p tpos pos : Pos} {d : D} {mi m : M D} (hu : X.A.units + 1 < cLine) (hv : PE X (.Name x p) (tVar j)) (hd : env[j]? = some (.own d)) (hx : Sub env vx) (he : VE X W env e m) (hi : VE X W env i mi)
    (ha : ∀ v, assign (.Subscript (.Name x p) i tpos) X.env v = (do let ov ← holding [v] (eval (.Name x p) X.env); let iv ← holding [v, ov] (eval i X.env); standAt tpos; holding [v, ov, iv] (setItem ov iv v); release [v, ov, iv] []) := by intro _; rfl)
    (hs : swapsWithSole [.Subscript (.Name x p) i tpos] e pos.line X.env = pure false := by rfl) (hw : swappedStores [.Subscript (.Name x p) i tpos] e X.env = pure none := by rfl) :
    VS X W vx env (.Assign [.Subscript (.Name x p) i tpos] e pos) (fun d' : D => env.set j (.own d')) (m.bind fun y => mi.bind fun b => req (isRef b = false) (ofO (aSet d b y))) :=
  PS.imp (ps_asg he (pg_sub hv hi (set_all hu) ha) hs hw) fun E σ H ⟨g, S, s, p⟩ => ⟨g, S, s, (p.bind hx).mono fun y S1 H1 g1 n1 s1 p1 v rv => by
    obtain ⟨q, hq, _⟩ := s1.slot j _ hd
    refine ⟨.ref q, hq, g1, S1, s1, (p1.bind hx).mono fun b S2 H2 g2 n2 s2 p2 u ru => ?_⟩
    obtain ⟨q', hq', _, _, _, rq⟩ := s2.slot j _ hd
    rw [hq] at hq'; cases hq'
    by_cases hr : isRef b = false
    · rw [req_pos hr] at p2
      cases e2 : aSet d b y with
      | none => rw [e2] at p2; exact p2.elim
      | some d' =>
        rw [e2] at p2
        refine set_spec s2 rq (.inl ru) (fun k z => by rw [z] at hr; cases hr) (rep_mono n2.grow n2.pre _ _ rv) e2 fun o' ho' => ?_
        obtain ⟨s3, n3⟩ := s2.writeOwn hd hq ho'
        exact p2 σ _ g2 n3 s3
    · unfold req at p2; rw [if_neg hr] at p2; exact p2.elim⟩
/-! ### append, pop -/
def isLst : D → Bool
  | .lst _ => true
  | _ => false
/-- a method of a list that writes it: what it gives, what stands behind it -/
def SpM (r : V → List V → Hp → L2.VK → Prop) (f : List D → List D → Option (D × List D)) : Prop :=
  ∀ (K : PySem.W.Frag) (F : Hp) (μ : List Addr) (H : Hp) (p : Addr) (l ds : List D) (xs vs : List V) (x : D) (l' : List D) (Q : L2.VK), H p = some (.lst xs) → xs.length ≤ sizeLine → repL K F μ l xs → repL K F μ ds vs → f l ds = some (x, l') →
    (∀ xs' v, xs'.length ≤ sizeLine → repL K F μ l' xs' → rep K F μ x v → Q v (upd H p (.lst xs'))) → r (.ref p) vs H Q
def lApp : List D → List D → Option (D × List D)
  | l, [x] => if l.length < sizeLine then some (.non, l ++ [x]) else none
  | _, _ => none
theorem repL_one_inv {K : PySem.W.Frag} {F : Hp} {μ : List Addr} {d : D} {vs : List V} (r : repL K F μ [d] vs) : ∃ v, vs = [v] ∧ rep K F μ d v := by
  simp only [repL] at r
  obtain ⟨v, t, e, a, b⟩ := r
  subst b
  exact ⟨v, e, a⟩
theorem spm_app : SpM rAppend lApp := fun K F μ H p l ds xs vs x l' Q hp z r rd e h => by
  cases ds with
  | nil => cases e
  | cons d ds =>
    cases ds with
    | cons _ _ => cases e
    | nil =>
      obtain ⟨v, rfl, rv⟩ := repL_one_inv rd
      have e' : (if l.length < sizeLine then some (D.non, l ++ [d]) else none) = some (x, l') := e
      by_cases hl : l.length < sizeLine
      · rw [if_pos hl] at e'; cases e'
        have := repL_length r
        exact ⟨p, xs, v, rfl, rfl, hp, by omega, h _ _ (by rw [List.length_append]; simp; omega) (repL_append r (repL_one rv)) (by simp only [rep])⟩
      · rw [if_neg hl] at e'; cases e'
def lPop : List D → List D → Option (D × List D)
  | l, [] => (l[l.length - 1]?).map fun x => (x, l.dropLast)
  | _, _ => none
theorem repL_dropLast {K : PySem.W.Frag} {F : Hp} {μ : List Addr} {l : List D} {xs : List V} (r : repL K F μ l xs) : repL K F μ l.dropLast xs.dropLast := by
  rw [List.dropLast_eq_take, List.dropLast_eq_take, repL_length r]
  exact repL_take _ r
theorem spm_pop : SpM rPop lPop := fun K F μ H p l ds xs vs x l' Q hp z r rd e h => by
  cases ds with
  | cons _ _ => cases e
  | nil =>
    simp only [repL] at rd
    subst rd
    have e' : (l[l.length - 1]?).map (fun x => (x, l.dropLast)) = some (x, l') := e
    cases q : l[l.length - 1]? with
    | none => rw [q] at e'; cases e'
    | some y =>
      rw [q] at e'; cases e'
      obtain ⟨v, hv, rv⟩ := repL_at r q
      exact ⟨p, xs, v, rfl, rfl, hp, by rw [repL_length r]; exact hv, h _ _ (by rw [List.length_dropLast]; omega) (repL_dropLast r) rv⟩
/-- x.m(e, ..) of a slot's own list, as a statement; the receiver is a list when the arguments are made -/
def mLst : D → M (List D)
  | .lst l => M.pure l
  | _ => M.bad
def ownMeth (f : List D → List D → Option (D × List D)) (d : D) (ms : M (List D)) : M D := (mLst d).bind fun l => ms.bind fun ds => (ofO (f l ds)).bind fun q => M.pure (.lst q.2)
theorem VS.methOwn {j : Nat} {x name : Str} {id : String} {e : Expr} {es : List Expr} {p apos cpos pos : Pos} {d : D} {ms : M (List D)} {r : V → List V → Hp → L2.VK → Prop} {f : List D → List D → Option (D × List D)} (hf : SpM r f) (slot : Slot "list" name id) (hty : typeOf (.builtin id) = pure (.type "method_descriptor")) (hm : MtM X id r)
    (hv : PE X (.Name x p) (tVar j)) (hd : env[j]? = some (.own d)) (hx : Sub env vx) (he : VA X W env (e :: es) ms)
    (hbase : attributeBase (.Name x p) name X.env (eval (.Name x p) X.env) = eval (.Name x p) X.env := by rfl)
    (hfew : ((backTo cpos (starEach (e :: es) X.env)).all (fun x => !x.1) && (backToKw cpos (keywordEach [] X.env)).all (fun x => x.1.isSome)
      && decide ((e :: es).length + ([] : List Keyword).length + (if ([] : List Keyword).isEmpty then 0 else 1) < 30)) = true := by rfl)
    (hline : (apos.endLine == cpos.line) = true := by rfl) (hst : starEach (e :: es) X.env = (false, eval e X.env) :: starEach es X.env := by rfl) (hplain : (backTo cpos (starEach es X.env)).any (·.1) = false := by rfl)
    (hs : swapsWith (.Call (.Attribute (.Name x p) name apos) (e :: es) [] cpos) none pos.line X.env = pure false := by rfl) :
    VS X W vx env (.Expr (.Call (.Attribute (.Name x p) name apos) (e :: es) [] cpos) pos) (fun d' : D => env.set j (.own d')) (ownMeth f d ms) :=
  PS.imp (ps_expr (pe_bm PySem.F.plainAttrs_list slot hty hm hv he hbase hfew hline hst hplain) hs) fun E σ H ⟨g, S, s, p⟩ => by
    cases d with
    | lst l =>
      obtain ⟨q, hq, _, _, _, xs, hxs, _⟩ := s.slot j _ hd
      refine ⟨.ref q, hq, .inl ⟨rfl, xs, .of hxs⟩, g, S, s, (PstS.bind (m := ms) (f := fun ds => (ofO (f l ds)).bind fun q => M.pure (D.lst q.2)) p hx).mono fun ds S1 H1 g1 n1 s1 p1 vs rv => ?_⟩
      obtain ⟨q', hq', _, _, _, xs1, hxs1, z1, b1⟩ := s1.slot j _ hd
      rw [hq] at hq'; cases hq'
      cases e2 : f l ds with
      | none => rw [e2] at p1; exact p1.elim
      | some y =>
        rw [e2] at p1
        refine hf _ _ _ H1 q l ds xs1 vs y.1 y.2 _ hxs1 z1 b1 rv e2 fun xs' v z' r' rv' => ?_
        obtain ⟨s2, n2⟩ := s1.writeOwn (d' := .lst y.2) hd hq (o' := .lst xs') ⟨xs', upd_same, z', r'⟩
        exact p1 σ _ g1 n2 s2
    | _ => exact p.elim
/-- x = e, e new, as a cell of the store -/
def mAlloc (d : D) : M Nat := fun S => .ok S.length (S ++ [some d])
theorem VS.asgR {i : Nat} {x : Str} {e : Expr} {pos pos' : Pos} {m : M D} (hN : X.N.Nodup) (hi : X.N[i]? = some x) (hl : Loc X.env.scope x) (hx : Sub env vx) (he : VN X W env e m) (hs : swapsWith e (some (.Name x pos')) pos.line X.env = pure false := by rfl)
    (hf : X.fn x = true ∨ X.env.scope.names.lookup x = some .local := by first | exact .inl rfl | exact .inr rfl | assumption) : VS X W vx env (.Assign [.Name x pos'] e pos) (fun k => env.set i (.dat (.ref k))) (m.bind mAlloc) :=
  PS.imp (ps_set hN hi hl he hs hf) fun E σ H ⟨g, S, s, p⟩ => by
    refine ⟨g, S, s, ?_⟩
    unfold M.bind at p
    cases hm : m S with
    | ok d S1 =>
      rw [hm] at p
      intro H1 g1 n1 s1 a L ha
      have s2 := s1.alloc L
      refine p (σ.set i (some (.ref a))) H1 (g1.keepS a) (n1.keepS ha) (s2.setDat (d := .ref S1.length) ?_)
      simp only [rep]
      refine ⟨a, ?_, rfl⟩
      show (g1.μ ++ [a])[S1.length]? = some a
      rw [s1.sg.stl, List.getElem?_append_right (Nat.le_refl _)]
      simp
    | exc c ns vs S1 => rw [hm] at p; exact fun H1 g1 dx n1 s1 x => p σ H1 g1 dx n1 (s1.weak hx) x
    | bad => rw [hm] at p; exact p
/-- a, b = e, f with plain names -/
theorem VS.par2 {i j : Nat} {x y : Str} {a b : Expr} {ma mb : M D} {px py pt pos : Pos} {kt k2 pt2} (hc : X.calm = true) (hN : X.N.Nodup) (hi : X.N[i]? = some x) (hj : X.N[j]? = some y) (hij : i ≠ j)
    (hlx : X.env.scope.names.lookup x = some .local) (hly : X.env.scope.names.lookup y = some .local) (hx : Sub env vx) (ha : VE X W env a ma) (hb : VE X W env b mb)
    (hw : swappedStores [.Tuple [.Name x px, .Name y py] kt pt] (.Tuple [a, b] k2 pt2) X.env = pure (some [x, y]) := by rfl)
    (hs : swapsWithSole [.Tuple [.Name x px, .Name y py] kt pt] (.Tuple [a, b] k2 pt2) pos.line X.env = pure false := by rfl)
    (h1 : starEach [a, b] X.env = (false, eval a X.env) :: starEach [b] X.env := by rfl) (h2 : starEach [b] X.env = (false, eval b X.env) :: starEach [] X.env := by rfl) :
    VS X W vx env (.Assign [.Tuple [.Name x px, .Name y py] kt pt] (.Tuple [a, b] k2 pt2) pos) (fun q : D × D => (env.set i (.dat q.1)).set j (.dat q.2)) (ma.bind fun d => mb.bind fun e => M.pure (d, e)) :=
  PS.imp (ps_par hc hN hi hj hij hlx hly (pa_cons ha (pa_cons hb pa_nil h2) h1) hw hs) fun E σ H ⟨g, S, s, p⟩ => ⟨g, S, s, (p.bind hx).mono fun d S1 H1 g1 n1 s1 p1 v rv => ⟨g1, S1, s1, (p1.bind hx).mono fun e S2 H2 g2 n2 s2 p2 w rw' =>
    ⟨v, w, rfl, p2 _ H2 g2 (Nx.refl _ _) ((s2.setDat (i := i) (rep_mono n2.grow n2.pre _ _ rv)).setDat (i := j) rw')⟩⟩⟩
theorem VS.par3 {i j l : Nat} {x y z : Str} {a b c : Expr} {ma mb mc : M D} {px py pz pt pos : Pos} {kt k2 pt2} (hc : X.calm = true) (hN : X.N.Nodup) (hi : X.N[i]? = some x) (hj : X.N[j]? = some y) (hl : X.N[l]? = some z) (hij : i ≠ j) (hil : i ≠ l) (hjl : j ≠ l)
    (hlx : X.env.scope.names.lookup x = some .local) (hly : X.env.scope.names.lookup y = some .local) (hlz : X.env.scope.names.lookup z = some .local) (hx : Sub env vx) (ha : VE X W env a ma) (hb : VE X W env b mb) (hcc : VE X W env c mc)
    (hw : swappedStores [.Tuple [.Name x px, .Name y py, .Name z pz] kt pt] (.Tuple [a, b, c] k2 pt2) X.env = pure (some [x, y, z]) := by rfl)
    (hs : swapsWithSole [.Tuple [.Name x px, .Name y py, .Name z pz] kt pt] (.Tuple [a, b, c] k2 pt2) pos.line X.env = pure false := by rfl)
    (h1 : starEach [a, b, c] X.env = (false, eval a X.env) :: starEach [b, c] X.env := by rfl) (h2 : starEach [b, c] X.env = (false, eval b X.env) :: starEach [c] X.env := by rfl) (h3 : starEach [c] X.env = (false, eval c X.env) :: starEach [] X.env := by rfl) :
    VS X W vx env (.Assign [.Tuple [.Name x px, .Name y py, .Name z pz] kt pt] (.Tuple [a, b, c] k2 pt2) pos) (fun q : D × D × D => ((env.set i (.dat q.1)).set j (.dat q.2.1)).set l (.dat q.2.2)) (ma.bind fun d => mb.bind fun e => mc.bind fun f => M.pure (d, e, f)) :=
  PS.imp (ps_par3 hc hN hi hj hl hij hil hjl hlx hly hlz (pa_cons ha (pa_cons hb (pa_cons hcc pa_nil h3) h2) h1) hw hs) fun E σ H ⟨g, S, s, p⟩ => ⟨g, S, s, (p.bind hx).mono fun d S1 H1 g1 n1 s1 p1 v rv => ⟨g1, S1, s1, (p1.bind hx).mono fun e S2 H2 g2 n2 s2 p2 w rw' => ⟨g2, S2, s2, (p2.bind hx).mono fun f S3 H3 g3 n3 s3 p3 u ru =>
    ⟨v, w, u, rfl, p3 _ H3 g3 (Nx.refl _ _) (((s3.setDat (i := i) (rep_mono (n2.trans n3).grow (n2.trans n3).pre _ _ rv)).setDat (i := j) (rep_mono n3.grow n3.pre _ _ rw')).setDat (i := l) ru)⟩⟩⟩⟩
end
section
variable {X : Cx} {W : WX} {env : Env'} {σ : L2.St} {H H' : Hp} {g g' : G} {S S' : Store}
/-! ### a op b op c -/
def mChain (f f' : D → D → M D) (ma mb mc : M D) : M D := ma.bind fun x => mb.bind fun y => (f x y).bind fun z => (toB z).bind fun k => if k = true then mc.bind fun w => f' y w else M.pure (.bl false)
theorem tchain {f f' : D → D → M D} {r r' : R2} {a b c : Expr} {ma mb mc : M D} (hf : Sp2 X.K r f) (hf' : Sp2 X.K r' f') {Q : L2.VK} (h : TV X.K W env (mChain f f' ma mb mc) σ H Q) : tChain r r' (TR X.K W env ma) (TR X.K W env mb) (TR X.K W env mc) σ H Q := by
  obtain ⟨g, S, s, p⟩ := h
  refine ⟨g, S, s, p.bind.mono fun x S1 H1 g1 n1 s1 p1 v rv => ⟨g1, S1, s1, p1.bind.mono fun y S2 H2 g2 n2 s2 p2 w rw' => ?_⟩⟩
  refine hf W σ H2 g2 env S2 x y v w _ s2 (rv.mono n2) rw' (p2.bind.mono fun z S3 H3 g3 n3 s3 p3 u ru => ?_)
  obtain ⟨k, rfl, p4⟩ := toB_bind p3
  have e : u = .bl k := by simpa only [rep] using ru
  refine ⟨k, e, ?_⟩
  cases k with
  | true =>
    rw [if_pos rfl] at p4 ⊢
    exact ⟨g3, S3, s3, p4.bind.mono fun t S4 H4 g4 n4 s4 p5 t' rt => hf' W σ H4 g4 env S4 y t w t' _ s4 (rw'.mono (n3.trans n4)) rt p5⟩
  | false =>
    rw [if_neg (by decide)] at p4 ⊢
    exact p4 H3 g3 (Nx.refl _ _) s3 _ (by simp only [rep])
theorem VE.chain {op op' : CmpOp} {a b c : Expr} {pos : Pos} {ma mb mc : M D} {f f' : D → D → M D} {r r' : R2} (ho : OpR X (compareOp op) r) (hf : Sp2 X.K r f) (ho' : OpR X (compareOp op') r') (hf' : Sp2 X.K r' f') (ha : VR X W env a ma) (hb : VR X W env b mb) (hc : VR X W env c mc)
    (hm : lastMarks [op, op'] [b, c] = false := by with_unfolding_all rfl) : VE X W env (.Compare a [op, op'] [b, c] pos) (mChain f f' ma mb mc) :=
  PE.imp (pe_chain ho ho' ha hb hc hm) fun σ H Q h => tchain (a := a) (b := b) (c := c) hf hf' h
theorem VT.chain {op op' : CmpOp} {a b c : Expr} {pos : Pos} {ma mb mc : M D} {f f' : D → D → M D} {r r' : R2} (ho : OpR X (compareOp op) r) (hf : Sp2 X.K r f) (ho' : OpR X (compareOp op') r') (hf' : Sp2 X.K r' f') (ha : VR X W env a ma) (hb : VR X W env b mb) (hc : VR X W env c mc)
    (hm : lastMarks [op, op'] [b, c] = false := by with_unfolding_all rfl) : VT X W env (.Compare a [op, op'] [b, c] pos) ((mChain f f' ma mb mc).bind toB) :=
  PT.imp (pt_chain ho ho' ha hb hc hm) fun σ H Q h => tchain (a := a) (b := b) (c := c) hf hf' (TTb.bind2 h fun k H' q => ⟨k, rfl, q⟩)
/-! ### displays of dicts -/
def repP (K : PySem.W.Frag) (g : G) : List (D × D) → List (V × V) → Prop
  | [], ps => ps = []
  | q :: l, ps => ∃ v w r, ps = (v, w) :: r ∧ rep K g.F g.μ q.1 v ∧ rep K g.F g.μ q.2 w ∧ repP K g l r
structure VPs (X : Cx) (W : WX) (env : Env') (pos : Pos) (keys : List (Option Expr)) (values : List Expr) (m : M (List (D × D))) : Prop where
  ex : ∃ trs, PPs X pos keys values trs ∧ ∀ (σ : L2.St) (H : Hp) (Q : List (V × V) → Hp → Prop), (∃ g S, SI X.K σ H g env S ∧ Pst X.K W σ H g env (fun ps _ H' g' => ∀ vs, repP X.K g' ps vs → Q vs H') (m S)) → tPairs trs σ H Q
theorem VPs.nil {pos : Pos} : VPs X W env pos [] [] (M.pure []) := ⟨[], pps_nil, fun σ H Q ⟨g, S, s, p⟩ => p H g (Nx.refl _ _) s [] rfl⟩
def consP (mk mv : M D) (mr : M (List (D × D))) : M (List (D × D)) := mk.bind fun k => mv.bind fun v => mr.bind fun r => M.pure ((k, v) :: r)
theorem VPs.cons {pos : Pos} {k v : Expr} {ks : List (Option Expr)} {vs : List Expr} {mk mv : M D} {mr : M (List (D × D))} (hk : VE X W env k mk) (hv : VE X W env v mv) (hr : VPs X W env pos ks vs mr) : VPs X W env pos (some k :: ks) (v :: vs) (consP mk mv mr) := by
  obtain ⟨trs, h1, h2⟩ := hr.ex
  refine ⟨_, pps_cons hk hv h1, fun σ H Q ⟨g, S, s, p⟩ => ⟨g, S, s, p.bind.mono fun d S1 H1 g1 n1 s1 p1 x rx => ⟨g1, S1, s1, p1.bind.mono fun e S2 H2 g2 n2 s2 p2 y ry => ?_⟩⟩⟩
  refine h2 σ H2 _ ⟨g2, S2, s2, p2.bind.mono fun r S3 H3 g3 n3 s3 p3 zs rz => ?_⟩
  exact p3 H3 g3 (Nx.refl _ _) s3 _ ⟨x, y, zs, rfl, rep_mono (n2.trans n3).grow (n2.trans n3).pre _ _ rx, rep_mono n3.grow n3.pre _ _ ry, rz⟩
def keyed : List (D × D) → Option (List (Key × D))
  | [] => some []
  | q :: l => match toKey q.1, keyed l with
    | some k, some r => some ((k, q.2) :: r)
    | _, _ => none
def mergeD (a : List Key × List D) (l : List (Key × D)) : List Key × List D := l.foldl (fun a q => putL a.1 a.2 q.1 q.2) a
theorem keyed_rep {K : PySem.W.Frag} : ∀ {l : List (D × D)} {r : List (Key × D)} {ps : List (V × V)}, keyed l = some r → repP K g l ps → ∃ kvs : List (Key × V), ps = kvs.map (fun kv => (kV kv.1, kv.2)) ∧ kvs.map (·.1) = r.map (·.1) ∧ repL K g.F g.μ (r.map (·.2)) (kvs.map (·.2)) ∧ kvs.length = l.length
  | [], r, ps, e, h => by cases e; have h' : ps = [] := h; subst h'; exact ⟨[], rfl, rfl, repL_nil, rfl⟩
  | q :: l, r, ps, e, h => by
    obtain ⟨v, w, t, rfl, r1, r2, r3⟩ := h
    simp only [keyed] at e
    cases e1 : toKey q.1 with
    | none => rw [e1] at e; cases e
    | some k =>
      cases e2 : keyed l with
      | none => rw [e1, e2] at e; cases e
      | some r' =>
        rw [e1, e2] at e; cases e
        obtain ⟨kvs, a1, a2, a3, a4⟩ := keyed_rep e2 r3
        refine ⟨(k, w) :: kvs, ?_, ?_, repL_cons r2 a3, ?_⟩
        · rw [List.map_cons, a1, toKey_v e1 r1]
        · rw [List.map_cons, List.map_cons, a2]
        · rw [List.length_cons, List.length_cons, a4]
theorem merge_rep {K : PySem.W.Frag} : ∀ {r : List (Key × D)} {more kvs : List (Key × V)} {ks : List Key} {ds : List D}, more.map (·.1) = r.map (·.1) → repL K g.F g.μ (r.map (·.2)) (more.map (·.2)) → kvs.map (·.1) = ks → ks.Nodup → repL K g.F g.μ ds (kvs.map (·.2)) →
    (mergeK kvs more).map (·.1) = (mergeD (ks, ds) r).1 ∧ repL K g.F g.μ (mergeD (ks, ds) r).2 ((mergeK kvs more).map (·.2)) ∧ (mergeD (ks, ds) r).1.Nodup ∧ (mergeD (ks, ds) r).1.length ≤ ks.length + r.length
  | [], more, kvs, ks, ds, e, h, e2, nd, h2 => by
    have : more = [] := by simpa using e
    subst this
    exact ⟨e2, h2, nd, by show ks.length ≤ _; omega⟩
  | q :: r, more, kvs, ks, ds, e, h, e2, nd, h2 => by
    cases more with
    | nil => simp at e
    | cons m more =>
      simp only [List.map_cons, List.cons.injEq] at e
      simp only [repL, List.map_cons] at h
      obtain ⟨v, t, e3, a, b⟩ := h
      simp only [List.cons.injEq] at e3
      obtain ⟨e3, e4⟩ := e3
      rw [← e4] at b
      rw [← e3] at a
      obtain ⟨i1, i2, i3, i4, i5⟩ := put_rep (j := q.1) (x := q.2) (v := m.2) e2 nd h2 a
      have ih := merge_rep (r := r) (more := more) (kvs := putK kvs q.1 m.2) e.2 b i1 i3 i2
      have hm : mergeK kvs (m :: more) = mergeK (putK kvs q.1 m.2) more := by rw [← e.1]; rfl
      have hd : mergeD (ks, ds) (q :: r) = mergeD (putL ks ds q.1 q.2) r := rfl
      rw [hm, hd]
      obtain ⟨j1, j2, j3, j4⟩ := ih
      exact ⟨j1, j2, j3, by rw [List.length_cons]; have : (mergeD ((putL ks ds q.1 q.2).1, (putL ks ds q.1 q.2).2) r).1.length ≤ (putL ks ds q.1 q.2).1.length + r.length := j4; have e : ((putL ks ds q.1 q.2).1, (putL ks ds q.1 q.2).2) = putL ks ds q.1 q.2 := rfl; rw [e] at this; omega⟩
def mkDk (l : List (D × D)) : M D := (ofO (keyed l)).bind fun r => req (r.length ≤ 15) (M.pure (.dk (mergeD ([], []) r).1 (mergeD ([], []) r).2))
theorem keyed_len : ∀ {l : List (D × D)} {r : List (Key × D)}, keyed l = some r → r.length = l.length
  | [], r, e => by cases e; rfl
  | q :: l, r, e => by
    simp only [keyed] at e
    cases e1 : toKey q.1 with
    | none => rw [e1] at e; cases e
    | some k =>
      cases e2 : keyed l with
      | none => rw [e1, e2] at e; cases e
      | some r' => rw [e1, e2] at e; cases e; simp [keyed_len e2]
theorem VN.dict {pos : Pos} {keys : List (Option Expr)} {values : List Expr} {m : M (List (D × D))} (h : VPs X W env pos keys values m) (hall : keys.all (·.isSome) = true) (hl : keys.length = values.length) (h0 : keys ≠ []) (h15 : keys.length ≤ 15) : VN X W env (.Dict keys values pos) (m.bind mkDk) := by
  obtain ⟨trs, h1, h2⟩ := h.ex
  refine PE.imp (pe_disp h1 hall hl h0 h15) fun σ H Q ⟨g, S, s, p⟩ a ha => ?_
  have s1 : SI X.K σ (upd H a (.dK [])) g env S := s.fresh ha
  have n1 : Nx H g (upd H a (.dK [])) g := Nx.fresh ha
  have nm : a ∉ g.μ := fun z => s.sg.mup z ha
  have no : a ∉ g.ω := fun z => s.omp a z ha
  have nf : g.F a = none := by
    cases e : g.F a with
    | none => rfl
    | some u => rw [s.sg.sub a u e] at ha; cases ha
  refine h2 σ _ _ ⟨g, S, s1, ?_⟩
  unfold M.bind at p
  cases hm : m S with
  | bad => rw [hm] at p; exact p
  | exc c ns vs S' => rw [hm] at p; exact fun H2 g2 dx n2 s2 x => p H2 g2 dx (n1.trans n2) s2 x
  | ok ps S2 =>
    rw [hm] at p
    intro H2 g2 n2 s2 vs rs
    obtain ⟨k1, k2, k3, k4⟩ := n2.aside upd_same nm no nf
    obtain ⟨r, e, p3⟩ := ofO_bind p
    obtain ⟨hz, p4⟩ := Pst.req p3
    obtain ⟨kvs, a1, a2, a3, a4⟩ := keyed_rep e rs
    have hlen := keyed_len e
    refine ⟨k1, kvs, a1, by omega, ?_⟩
    obtain ⟨b1, b2, b3, b4⟩ := merge_rep (r := r) (more := kvs) (kvs := []) (ks := []) (ds := []) a2 a3 rfl List.nodup_nil repL_nil
    have hb4 : (mergeD ([], []) r).1.length ≤ sizeLine := by rw [sizeLine_eq]; simp at b4; omega
    exact p4 _ g2 ((n1.trans n2).foreign ha) (s2.foreign k2 k3 k4) a ⟨k2, k3, k4, _, upd_same, b1, b3, hb4, b2⟩ ha
def mkD0 : M D := M.pure (.dk [] [])
def mkT0 : M D := M.pure (.dt [] [])
theorem VN.dict0 {pos : Pos} : VN X W env (.Dict [] [] pos) mkD0 := PE.imp pe_dnewK fun σ H Q ⟨g, S, s, p⟩ => newN (d := .dk [] []) s (fun a ha => ⟨[], upd_same, rfl, List.nodup_nil, Nat.zero_le _, repL_nil⟩) p
theorem VN.dictT0 {pos : Pos} : VN X W env (.Dict [] [] pos) mkT0 := PE.imp pe_dnewT fun σ H Q ⟨g, S, s, p⟩ => newN (d := .dt [] []) s (fun a ha => ⟨[], upd_same, rfl, List.nodup_nil, Nat.zero_le _, repL_nil⟩) p
/-! ### short forms for what a program prints -/
def b2 (f : D → D → M D) (a b : M D) : M D := a.bind fun x => b.bind fun y => f x y
end
def mRet {τ β : Type} (m : M D) : M (Out τ β) := m.bind fun d => M.pure (.ret d)
theorem NoNx.mRet {τ β : Type} {m : M D} : NoNx (VM.mRet m : M (Out τ β)) := NoNx.ret
theorem NoNx.retNone {τ β : Type} {d : D} : NoNx (M.pure (.ret d) : M (Out τ β)) := fun S t S' h => by cases h
theorem un_nil {P : Nat → Prop} : ∀ i ∈ ([] : List Nat), P i := fun i h => by cases h
theorem un_cons {P : Nat → Prop} {i : Nat} {l : List Nat} (h : P i) (t : ∀ j ∈ l, P j) : ∀ j ∈ i :: l, P j := fun j hj => by
  rcases List.mem_cons.mp hj with e | hj
  · rw [e]; exact h
  · exact t j hj
theorem takes0 {X : Cx} {scope : Scope} {cenv : Env} {s : Shared} {H : Hp} {fp : List Addr} : Takes (X.blk s H scope cenv fp) W0 := fun u s' ⟨_, _, _, _, _, _, _, _, _, _, _, _, _, _, _, _, w⟩ => w
end VM
namespace VM
open PySem PySem.Spec PyProof.Rows L2
theorem sub_unE : ∀ (e : Env') (n : Nat) (h : e.length = n), Sub e (unE n)
  | [], 0, _ => trivial
  | _ :: e, n + 1, h => And.intro (Or.inl rfl) (sub_unE e n (by simpa using h))
  | [], n + 1, h => by cases h
  | _ :: e, 0, h => by cases h
theorem room1 {k : Nat} {A : Around} (r : Room k A) : A.units + 1 < cLine := by have := r.units; omega
/-! ### binding by places -/
def pick {α : Type} (idx : List Nat) (l : List α) : List α := idx.filterMap fun i => l[i]?
theorem vals_get : ∀ {vs : List V} {us : List Value}, Vals vs us → ∀ i : Nat, (vs[i]? = none ∧ us[i]? = none) ∨ ∃ v u, vs[i]? = some v ∧ us[i]? = some u ∧ RelV v u
  | _, _, .nil, i => .inl ⟨rfl, rfl⟩
  | _, _, .cons (a := v) (b := u) r t, 0 => .inr ⟨v, u, rfl, rfl, r⟩
  | _, _, .cons r t, i + 1 => by
    rcases vals_get t i with h | h
    · exact .inl (by simpa using h)
    · exact .inr (by simpa using h)
theorem pick_vals {vs : List V} {us : List Value} (r : Vals vs us) : ∀ idx : List Nat, Vals (pick idx vs) (pick idx us)
  | [] => .nil
  | i :: idx => by
    unfold pick
    rw [List.filterMap_cons, List.filterMap_cons]
    rcases vals_get r i with ⟨h1, h2⟩ | ⟨v, u, h1, h2, rv⟩
    · rw [h1, h2]; exact pick_vals r idx
    · rw [h1, h2]; exact .cons rv (pick_vals r idx)
theorem pick_rep {K : PySem.W.Frag} {F : Hp} {μ : List Addr} {ds : List D} {vs : List V} (r : repL K F μ ds vs) : ∀ idx : List Nat, repL K F μ (pick idx ds) (pick idx vs)
  | [] => repL_nil
  | i :: idx => by
    unfold pick
    rw [List.filterMap_cons, List.filterMap_cons]
    cases h : ds[i]? with
    | none =>
      have : vs[i]? = none := by
        rw [List.getElem?_eq_none_iff] at h ⊢
        rw [repL_length r]; exact h
      rw [this]; exact pick_rep r idx
    | some d =>
      obtain ⟨v, hv, rv⟩ := repL_at r h
      rw [hv]; exact repL_cons rv (pick_rep r idx)
theorem vals_app {vs zs : List V} {us ws : List Value} (r : Vals vs us) (q : Vals zs ws) : Vals (vs ++ zs) (us ++ ws) := r.append q
section
variable {K : PySem.W.Frag} {x qual : Str} {params : Arguments} {body : List Stmt} {scope : Scope} {f : Addr} {fd : FuncData} {ps : List Str}
theorem Bd.kw (F : FunD K x qual params body scope [] [] f fd) (n : Nat) (ks : List Str) (idx : List Nat)
    (h : ∀ (kV doc pm : Value) (an : Option Addr) (cdv ct : Value) (us ws : List Value), us.length = n → ws.length = ks.length → bindArgs (PySem.W.fnOf x qual params body scope .none kV doc pm an cdv ct) ⟨us, ks.zip ws⟩ = pure (ps.zip (pick idx (us ++ ws)))) : Bd K fd ps n ks (fun ds es => pick idx (ds ++ es)) := by
  obtain ⟨oc, od, dV, kV, doc, pm, an, cdv, ct, osl, rfl, lk, hcd, hD, hK⟩ := F.ex
  rcases hD with ⟨_, rfl⟩ | ⟨e, _⟩
  · exact ⟨fun us ws => pick idx (us ++ ws), fun vs zs => pick idx (vs ++ zs), ⟨fun s us ws _ l1 l2 => .of_eq (h kV doc pm an cdv ct us ws l1 l2), fun r q => pick_vals (r.append q) idx⟩, fun F μ ds es vs zs r q => pick_rep (repL_append r q) idx⟩
  · exact absurd rfl e
end
/-! ### the law's end -/
theorem cx_false {P : Program} {w : World} {H : Hp} {s : Shared} {e : Value} {s' : Shared} (h : L2.CX P w [] H s (fun _ _ _ => False) e s') : False := by
  obtain ⟨_, _, _, _, _, _, _, _, _, _, _, _, z⟩ := h
  exact z
theorem walk_ofV {l : PySem.W.OpenLaw} {n k : Nat} {q : Program} {loose : List Str} {XP : (Str → Option Value) → Heap → Prop} {YP : World → Heap → Prop} {d : DefRec} {x : Str} {m : List D → M D}
    (hn : l.most = some n) (hn2 : n ≤ sizeLine) (hdf : d.params.defaults = []) (hr : Room k callerA)
    (F : ∀ (w : World) (mg : Str → Option Value) (fa : Addr) (h : Heap), YP w h → h.Ns mainGlobals mg → mg d.name = some (.ref fa) →
      ∃ (K : PySem.W.Frag) (fd : FuncData), K.In h ∧ (∀ (s : Shared) (u : Value), BindsTo s fd ⟨[u], []⟩ [(x, u)]) ∧
        ∀ base : Heap, K.In base → base.Ns mainGlobals mg → FnOk l.prog w K mg base (L2.CX l.prog w) k fa fd [x] (spOf K 1 false m))
    (hm : ∀ ns : List Int, ns.length ≤ n → ∃ S', m [.scr ns] [] = .ok (.bl true) S') :
    PySem.W.WalkO q loose XP YP l.row.toRowW d [] (fun f vs => PySem.call f vs) := by
  refine Att.attach_call hn hdf fun w s₀ s₁ mg mb fa o pm cd doc a vs ns G Y ho hd hcd hmg hobj hints hlen hg => ?_
  obtain ⟨K, fd, KX, hb, hF⟩ := F w mg fa _ Y G.T.g hmg
  refine law_call KX G.T.g G.T.b G.T.builtins G.T.nolimit hg hobj hints (Nat.le_trans hlen hn2) hr hF hb (fun H hO hS => ?_) fun H e s' => cx_false
  obtain ⟨S', e⟩ := hm ns hlen
  refine ⟨⟨H, [], []⟩, [], [.scr ns], rfl, ⟨LeF.refl _, rfl, fun k d p h => (by cases h), fun k p h => (by cases h), fun k l p h => (by cases h)⟩, ?_, rfl, ?_⟩
  · refine repL_one ?_
    simp only [rep]
    exact ⟨a, rfl, hS, Nat.le_trans hlen hn2⟩
  · rw [e]
    intro v H' g' _ _ r
    simpa only [rep] using r
end VM
namespace VM
open PySem PySem.Spec PyProof.Rows L2
def Res.bnd {α β : Type} : Res α → (α → M β) → Res β
  | .ok a S, f => f a S
  | .exc c ns vs S, _ => .exc c ns vs S
  | .bad, _ => .bad
section
variable {α β : Type} {S S' : Store}
@[simp] theorem run_bind (m : M α) (f : α → M β) : (m.bind f) S = (m S).bnd f := by unfold M.bind Res.bnd; cases m S <;> rfl
@[simp] theorem run_pure (a : α) : (M.pure a) S = .ok a S := rfl
@[simp] theorem run_bad : (M.bad : M α) S = .bad := rfl
@[simp] theorem bnd_ok (a : α) (f : α → M β) : (Res.ok a S).bnd f = f a S := rfl
@[simp] theorem bnd_exc (c : Str) (ns : List Str) (vs : List D) (f : α → M β) : (Res.exc c ns vs S : Res α).bnd f = .exc c ns vs S := rfl
@[simp] theorem bnd_bad (f : α → M β) : (Res.bad : Res α).bnd f = .bad := rfl
@[simp] theorem run_b2 (f : D → D → M D) (a b : M D) : (b2 f a b) S = (a S).bnd fun x => b.bind fun y => f x y := run_bind _ _
@[simp] theorem run_cons (m : M D) (ms : M (List D)) : (consM m ms) S = (m S).bnd fun d => ms.bind fun ds => M.pure (d :: ds) := run_bind _ _
@[simp] theorem run_callM (ma mk : M (List D)) (m : List D → List D → M D) : (callM ma mk m) S = (ma S).bnd fun ds => mk.bind fun es => m ds es := run_bind _ _
@[simp] theorem run_mCall (n : Nat) (gD : List D → List D → List D) (m : List D → M D) (ds es : List D) : (mCall n gD m ds es) S = if ds.length = n then m (gD ds es) S else .bad := by unfold mCall; split <;> rfl
@[simp] theorem run_ite (c : M Bool) (a b : M α) : (mIte c a b) S = (c S).bnd fun k => if k = true then a else b := run_bind _ _
@[simp] theorem run_mNot (m : M Bool) : (mNot m) S = (m S).bnd fun b => M.pure (!b) := run_bind _ _
@[simp] theorem run_mAnd (m k : M Bool) : (mAnd m k) S = (m S).bnd fun b => if b = true then k else M.pure false := run_bind _ _
@[simp] theorem run_mOr (m k : M Bool) : (mOr m k) S = (m S).bnd fun b => if b = true then M.pure true else k := run_bind _ _
@[simp] theorem run_dAnd (m k : M D) : (dAnd m k) S = (m S).bnd fun x => (toB x).bind fun b => if b = true then k else M.pure (.bl false) := run_bind _ _
@[simp] theorem run_dOr (m k : M D) : (dOr m k) S = (m S).bnd fun x => (toB x).bind fun b => if b = true then M.pure (.bl true) else k := run_bind _ _
@[simp] theorem run_dNot (m : M D) : (dNot m) S = (m S).bnd fun x => (toB x).bind fun b => M.pure (.bl !b) := run_bind _ _
@[simp] theorem run_toB (b : Bool) : (toB (.bl b)) = M.pure b := rfl
@[simp] theorem run_mRet {τ β : Type} (m : M D) : (mRet m : M (Out τ β)) S = (m S).bnd fun d => M.pure (.ret d) := run_bind _ _
@[simp] theorem run_seqO {τ τ' β : Type} (m : M (Out τ' β)) (k : τ' → M (Out τ β)) : (seqO m k) S = (m S).bnd fun o => match o with
  | .next t => k t
  | .ret d => M.pure (.ret d)
  | .brk b => M.pure (.brk b)
  | .cnt b => M.pure (.cnt b) := run_bind _ _
@[simp] theorem run_fin (rk : Bool) (m : M (Out Unit Empty)) : (fin rk m) S = (m S).bnd fun o => match o with
  | .ret d => M.pure d
  | .next _ => if rk = true then M.bad else M.pure .non
  | .brk b => b.elim
  | .cnt b => b.elim := run_bind _ _
@[simp] theorem run_req {c : Prop} [Decidable c] (m : M α) : (req c m) S = if c then m S else .bad := by unfold req; split <;> rfl
@[simp] theorem run_ofO_some (a : α) : (ofO (some a)) = M.pure a := rfl
@[simp] theorem run_ofO_none : (ofO (none : Option α)) = M.bad := rfl
@[simp] theorem run_mAlloc (d : D) : (mAlloc d) S = .ok S.length (S ++ [some d]) := rfl
@[simp] theorem app_if {c : Prop} [Decidable c] (a b : M α) : (if c then a else b) S = if c then a S else b S := by split <;> rfl
@[simp] theorem bnd_if {c : Prop} [Decidable c] (a b : Res α) (f : α → M β) : (if c then a else b).bnd f = if c then a.bnd f else b.bnd f := by split <;> rfl
/-! views -/
@[simp] theorem vw_int (i : Int) : vw (.int i) = M.pure (.int i) := rfl
@[simp] theorem vw_bl (i : Bool) : vw (.bl i) = M.pure (.bl i) := rfl
@[simp] theorem vw_str (i : Str) : vw (.str i) = M.pure (.str i) := rfl
@[simp] theorem vw_non : vw .non = M.pure .non := rfl
@[simp] theorem vw_lst (l : List D) : vw (.lst l) = M.pure (.lst l) := rfl
@[simp] theorem vw_tup (l : List D) : vw (.tup l) = M.pure (.tup l) := rfl
@[simp] theorem vw_scr (l : List Int) : vw (.scr l) = M.pure (.scr l) := rfl
@[simp] theorem vw_dk (ks : List Key) (vs : List D) : vw (.dk ks vs) = M.pure (.dk ks vs) := rfl
@[simp] theorem vw_dt (ks : List (List Key)) (vs : List D) : vw (.dt ks vs) = M.pure (.dt ks vs) := rfl
@[simp] theorem vw_obj (c : Str) (ks : List Str) (vs : List D) : vw (.obj c ks vs) = M.pure (.obj c ks vs) := rfl
theorem vw_ref {k : Nat} {d : D} (h : S[k]? = some (some d)) : vw (.ref k) S = .ok d S := by unfold vw; dsimp only; rw [h]
@[simp] theorem vw_set {k : Nat} {d : D} (h : k < S.length) : vw (.ref k) (S.set k (some d)) = .ok d (S.set k (some d)) := vw_ref (List.getElem?_set_self h)
/-! numbers -/
@[simp] theorem run_vw2 (f : D → D → M D) (x y : D) : (vw2 f x y) S = (vw x S).bnd fun a => (vw y).bind fun b => f a b := run_bind _ _
@[simp] theorem add_int (i j : Int) : aAdd (.int i) (.int j) = M.pure (.int (i + j)) := rfl
@[simp] theorem aint_int (f : Int → Int → M D) (i j : Int) : aInt f (.int i) (.int j) = f i j := rfl
@[simp] theorem amul_int (i j : Int) : aMul (.int i) (.int j) = req (CMulW i j) (M.pure (.int (i * j))) := rfl
@[simp] theorem aintc_int (i : Int) : aIntC (.int i) = M.pure (.int i) := rfl
@[simp] theorem one1_one (f : D → M D) (x : D) : one1 f [x] = (vw x).bind f := rfl
@[simp] theorem aget_lst (l : List D) (i : Int) : aGet (.lst l) (.int i) = ofO (atI l i) := rfl
@[simp] theorem aget_tup (l : List D) (i : Int) : aGet (.tup l) (.int i) = ofO (atI l i) := rfl
@[simp] theorem alen_lst (l : List D) : aLen (.lst l) = M.pure (.int l.length) := rfl
@[simp] theorem alen_tup (l : List D) : aLen (.tup l) = M.pure (.int l.length) := rfl
@[simp] theorem eq_int (i j : Int) : eqD (.int i) (.int j) = M.pure (decide (i = j)) := by
  unfold eqD
  simp only [toP]
  rw [req_pos (by constructor <;> rfl)]
  rfl
@[simp] theorem eq_bl (i j : Bool) : eqD (.bl i) (.bl j) = M.pure (decide (i = j)) := by
  unfold eqD
  simp only [toP]
  rw [req_pos (by constructor <;> rfl)]
  cases i <;> cases j <;> rfl
@[simp] theorem run_aEq (x y : D) : (aEq x y) S = (eqD x y S).bnd fun b => M.pure (.bl b) := run_bind _ _
@[simp] theorem run_aNe (x y : D) : (aNe x y) S = (eqD x y S).bnd fun b => M.pure (.bl !b) := run_bind _ _
@[simp] theorem isb_bl (a b : Bool) : aIsB (.bl a) (.bl b) = M.pure (.bl (decide (a = b))) := rfl
@[simp] theorem notb_bl (a b : Bool) : aNotB (.bl a) (.bl b) = M.pure (.bl (!decide (a = b))) := rfl
@[simp] theorem isb_non (x : D) : aIsB x .non = M.pure (.bl (isNon x)) := by cases x <;> rfl
@[simp] theorem notb_non (x : D) : aNotB x .non = M.pure (.bl (!isNon x)) := by cases x <;> rfl
@[simp] theorem run_dIs (x y : D) : (dIs x y) S = (vw x S).bnd fun a => (vw y).bind fun b => aIsB a b := run_bind _ _
@[simp] theorem run_dIsNot (x y : D) : (dIsNot x y) S = (vw x S).bnd fun a => (vw y).bind fun b => aNotB a b := run_bind _ _
@[simp] theorem run_dEq (x y : D) : (dEq x y) S = (vw x S).bnd fun a => (vw y).bind fun b => aEq a b := run_bind _ _
@[simp] theorem run_dNe (x y : D) : (dNe x y) S = (vw x S).bnd fun a => (vw y).bind fun b => aNe a b := run_bind _ _
@[simp] theorem run_mkT (ds : List D) : (mkT ds) S = if ds.length ≤ sizeLine then .ok (.tup ds) S else .bad := run_req _
@[simp] theorem run_mkL (ds : List D) : (mkL ds) S = if ds.length ≤ sizeLine then .ok (.lst ds) S else .bad := run_req _
@[simp] theorem items_lst (l : List D) : items (.lst l) = some l := rfl
@[simp] theorem items_tup (l : List D) : items (.tup l) = some l := rfl
def Res.nox {α : Type} : Res α → Res α
  | .ok a S => .ok a S
  | _ => .bad
@[simp] theorem run_noexc (m : M α) : (noexc m) S = (m S).nox := rfl
@[simp] theorem nox_ok (a : α) : (Res.ok a S : Res α).nox = .ok a S := rfl
@[simp] theorem compL_nil (f : D → M (Option D)) : compL f [] = M.pure [] := rfl
@[simp] theorem compL_cons (f : D → M (Option D)) (d : D) (ds : List D) : (compL f (d :: ds)) S = (f d S).nox.bnd fun o => (compL f ds).bind fun l => M.pure (o.toList ++ l) := run_bind _ _
@[simp] theorem run_mkC (f : D → M (Option D)) (ds : List D) : (mkC f ds) S = (req (ds.length ≤ sizeLine) (compL f ds) S).bnd fun l => M.pure (.lst l) := run_bind _ _
@[simp] theorem run_turnC {α : Type} (dest : D → Option α) (mt : α → M Bool) (me : α → M D) (d : D) : (turnC dest mt me d) S = (ofO (dest d) S).bnd fun a => (mt a).bind fun b => if b = true then (me a).bind fun y => M.pure (some y) else M.pure none := run_bind _ _
theorem small_line {n : Nat} (h : n ≤ 1000) : n ≤ sizeLine := by rw [sizeLine_eq]; omega
theorem cmul_small {i j : Int} (h1 : i.natAbs < 2 ^ 200) (h2 : j.natAbs < 2 ^ 200) : CMulW i j := by
  have l : ∀ n : Nat, n < 2 ^ 200 → n.log2 < 200 := fun n h => by
    by_cases hn : n = 0
    · subst hn; simp
    · exact (Nat.log2_lt hn).mpr h
  have a := l _ h1
  have b := l _ h2
  show _ + _ < _
  omega
theorem cdiv_small {i j : Int} (h1 : 0 < j) (h2 : j.natAbs < 2 ^ 200) : CDivW i j := by
  refine ⟨h1, ?_⟩
  have : j.natAbs ≠ 0 := by omega
  have := (Nat.log2_lt this).mpr h2
  omega
end
/-! ### the bag -/
structure Bag where
  cs : List Int
  pos : Int
  big : Int
  seed : Int
  cnt : Int
def Bag.d (b : Bag) : D := .lst [.lst (b.cs.map .int), .int b.pos, .int b.big, .int b.seed, .int b.cnt]
/-- m: how many numbers may still be drawn -/
structure Bag.Ok (m : Nat) (b : Bag) : Prop where
  pos : 0 ≤ b.pos
  big : 0 ≤ b.big
  seed0 : 0 ≤ b.seed
  seed1 : b.seed < 2 ^ 40
  cnt0 : 0 ≤ b.cnt
  cnt1 : b.cnt + m < 2 ^ 40
  len : b.cs.length < 2 ^ 40
def lastM (p2 cE cF cG cH p3 cI : Int) (x0 x1 : D) : M (Out Unit Empty) := (mIte ((b2 dGt (b2 dGet (M.pure x0) (M.pure (D.int 2))) (M.pure (D.int 0))).bind toB) ((b2 dMod ((consM (b2 dGet (M.pure x0) (M.pure (D.int 2))) (M.pure [])).bind (one1 aIntC)) (M.pure x1)).bind fun v8 : D => (((b2 dFdiv (b2 dGet (M.pure x0) (M.pure (D.int 2))) (M.pure x1)).bind fun x => (M.pure x0).bind fun a => (M.pure (D.int 2)).bind fun b => VM.setRef a b x).bind fun u9 : Unit => (mRet (M.pure v8)))) ((b2 dGet (M.pure x0) (M.pure (D.int 3))).bind fun v10 : D => (((b2 dMod ((consM (b2 dAdd (b2 dAdd (b2 dAdd (b2 dPow (M.pure v10) (M.pure (D.int 3))) (b2 dMul (M.pure v10) (M.pure (D.int cE)))) (b2 dMul (b2 dGet (M.pure x0) (M.pure (D.int 4))) (M.pure (D.int cF)))) (M.pure (D.int cG))) (M.pure [])).bind (one1 aIntC)) (M.pure (D.int p2))).bind fun x => (M.pure x0).bind fun a => (M.pure (D.int 3)).bind fun b => VM.setRef a b x).bind fun u11 : Unit => (mRet (b2 dMod ((consM (b2 dAdd (b2 dFdiv (b2 dGet (M.pure x0) (M.pure (D.int 3))) (M.pure (D.int cH))) (b2 dMul (b2 dMod ((consM (b2 dGet (M.pure x0) (M.pure (D.int 3))) (M.pure [])).bind (one1 aIntC)) (M.pure (D.int p3))) (M.pure (D.int cI)))) (M.pure [])).bind (one1 aIntC)) (M.pure x1))))))
def pullM (cA p1 cB cC p2 cE cF cG cH p3 cI : Int) (x0 x1 : D) : M (Out Unit Empty) := (((b2 dAdd (b2 dGet (M.pure x0) (M.pure (D.int 4))) (M.pure (D.int 1))).bind fun x => (M.pure x0).bind fun a => (M.pure (D.int 4)).bind fun b => VM.setRef a b x).bind fun u1 : Unit => (seqO (mIte (mAnd ((b2 dEq (b2 dGet (M.pure x0) (M.pure (D.int 2))) (M.pure (D.int 0))).bind toB) ((b2 dLt (b2 dGet (M.pure x0) (M.pure (D.int 1))) ((consM (b2 dGet (M.pure x0) (M.pure (D.int 0))) (M.pure [])).bind (one1 aLen))).bind toB)) ((b2 dGet (b2 dGet (M.pure x0) (M.pure (D.int 0))) (b2 dGet (M.pure x0) (M.pure (D.int 1)))).bind fun v3 : D => (((b2 dAdd (b2 dGet (M.pure x0) (M.pure (D.int 1))) (M.pure (D.int 1))).bind fun x => (M.pure x0).bind fun a => (M.pure (D.int 1)).bind fun b => VM.setRef a b x).bind fun u4 : Unit => (seqO (mIte ((b2 dGe (M.pure v3) (b2 dPow (M.pure (D.int 10)) (M.pure (D.int 18)))).bind toB) (((M.pure v3).bind fun x => (M.pure x0).bind fun a => (M.pure (D.int 2)).bind fun b => VM.setRef a b x).bind fun u6 : Unit => (M.pure (Out.next ()))) (M.pure (Out.next ()))) (fun t5 : Unit => (((b2 dMod ((consM (b2 dAdd (b2 dAdd (b2 dMul (b2 dGet (M.pure x0) (M.pure (D.int 3))) (M.pure (D.int cA))) (b2 dMul (b2 dMod ((consM (M.pure v3) (M.pure [])).bind (one1 aIntC)) (M.pure (D.int p1))) (M.pure (D.int cB)))) (M.pure (D.int cC))) (M.pure [])).bind (one1 aIntC)) (M.pure (D.int p2))).bind fun x => (M.pure x0).bind fun a => (M.pure (D.int 3)).bind fun b => VM.setRef a b x).bind fun u7 : Unit => (M.pure (Out.next ()))))))) (M.pure (Out.next ()))) (fun t2 : Unit => lastM p2 cE cF cG cH p3 cI x0 x1)))
section
variable {S : Store} {k : Nat}
@[simp] theorem set_ref {l : List D} {x : D} {i : Int} {j : Nat} (hk : k < S.length) (h : ixN l.length i = some j) : VM.setRef (.ref k) (.int i) x (S.set k (some (.lst l))) = .ok () (S.set k (some (.lst (l.set j x)))) := by
  unfold VM.setRef
  dsimp only
  rw [List.getElem?_set_self hk]
  dsimp only
  rw [if_neg (fun h => by cases h)]
  show (match ((ixN l.length i).map fun j => D.lst (l.set j x)) with
      | some d' => (Res.ok () ((S.set k (some (.lst l))).set k (some d')) : Res Unit)
      | none => .bad) = _
  rw [h]
  simp only [Option.map_some, List.set_set]
theorem ix5 : ixN 5 0 = some 0 ∧ ixN 5 1 = some 1 ∧ ixN 5 2 = some 2 ∧ ixN 5 3 = some 3 ∧ ixN 5 4 = some 4 := by decide
theorem atI_nat {α : Type} {l : List α} {i : Int} (h0 : 0 ≤ i) (h : i < l.length) : atI l i = l[i.toNat]? := by
  unfold atI ixN
  rw [if_pos h0, if_pos h]; rfl
variable {cA p1 cB cC p2 cE cF cG cH p3 cI : Int}
/-- the constants are small -/
structure PullOk (cA p1 cB cC p2 cE cF cG cH p3 cI : Int) : Prop where
  h : (0 ≤ cA ∧ cA < 2 ^ 64) ∧ (0 < p1 ∧ p1 < 2 ^ 64) ∧ (0 ≤ cB ∧ cB < 2 ^ 64) ∧ (0 < p2 ∧ p2 < 2 ^ 40) ∧ (0 ≤ cE ∧ cE < 2 ^ 64) ∧ (0 ≤ cF ∧ cF < 2 ^ 64) ∧ (0 < cH ∧ cH < 2 ^ 64) ∧ (0 < p3 ∧ p3 < 2 ^ 64) ∧ (0 ≤ cI ∧ cI < 2 ^ 64)
theorem mul_ok {i j : Int} (h1 : 0 ≤ i) (h2 : i < 2 ^ 64) (h3 : 0 ≤ j) (h4 : j < 2 ^ 64) : CMulW i j :=
  cmul_small (Nat.lt_trans (by omega) (show (2 ^ 64 : Nat) < 2 ^ 200 by decide +kernel)) (Nat.lt_trans (by omega) (show (2 ^ 64 : Nat) < 2 ^ 200 by decide +kernel))
theorem pow3_ok {i : Int} (h1 : 0 ≤ i) (h2 : i < 2 ^ 40) : CPow i 3 := ⟨by decide, by decide, by omega⟩
theorem pull_last {b : Bag} {many : Int} {m : Nat} (c : PullOk cA p1 cB cC p2 cE cF cG cH p3 cI) (hk : k < S.length) (hb : b.Ok m) (h0 : 0 < many) (h1 : many < 2 ^ 64) :
    ∃ (r : Int) (b' : Bag), (lastM p2 cE cF cG cH p3 cI (.ref k) (.int many))
      (S.set k (some b.d)) = .ok (.ret (.int r)) (S.set k (some b'.d)) ∧ 0 ≤ r ∧ r < many ∧ b'.Ok m := by
  obtain ⟨⟨a1, a2⟩, ⟨a3, a4⟩, ⟨a5, a6⟩, ⟨a7, a8⟩, ⟨a9, a10⟩, ⟨a11, a12⟩, ⟨a13, a14⟩, ⟨a15, a16⟩, ⟨a17, a18⟩⟩ := c.h
  obtain ⟨j0, j1, j2, j3, j4⟩ := ix5
  by_cases hbig : 0 < b.big
  · refine ⟨b.big % many, { b with big := b.big / many }, ?_, Int.emod_nonneg _ (by omega), Int.emod_lt_of_pos _ h0, ⟨hb.pos, Int.ediv_nonneg hb.big (by omega), hb.seed0, hb.seed1, hb.cnt0, hb.cnt1, hb.len⟩⟩
    have hd : CDivW b.big many := cdiv_small h0 (Nat.lt_trans (by omega) (show (2 ^ 64 : Nat) < 2 ^ 200 by decide +kernel))
    simp [lastM, Bag.d, dGet, dGt, dLt, dInt2, dMod, dFdiv, hk, atI, j2, hbig, h0, hd]
  · have e1 := Int.emod_nonneg (b.seed ^ 3 + b.seed * cE + b.cnt * cF + cG) (Int.ne_of_gt a7)
    have e2 := Int.emod_lt_of_pos (b.seed ^ 3 + b.seed * cE + b.cnt * cF + cG) a7
    obtain ⟨s', hs⟩ : ∃ s' : Int, (b.seed ^ 3 + b.seed * cE + b.cnt * cF + cG) % p2 = s' := ⟨_, rfl⟩
    rw [hs] at e1 e2
    refine ⟨(s' / cH + s' % p3 * cI) % many, { b with seed := s' }, ?_, Int.emod_nonneg _ (by omega), Int.emod_lt_of_pos _ h0, ⟨hb.pos, hb.big, e1, (show s' < 2 ^ 40 by omega), hb.cnt0, hb.cnt1, hb.len⟩⟩
    have q1 : CMulW b.seed cE := mul_ok hb.seed0 (by have := hb.seed1; omega) a9 a10
    have q2 : CMulW b.cnt cF := mul_ok hb.cnt0 (by have := hb.cnt1; omega) a11 a12
    have q3 : CPow b.seed 3 := pow3_ok hb.seed0 hb.seed1
    have q4 : CDivW s' cH := cdiv_small a13 (Nat.lt_trans (by omega) (show (2 ^ 64 : Nat) < 2 ^ 200 by decide +kernel))
    have q5 : CMulW (s' % p3) cI := mul_ok (Int.emod_nonneg _ (by omega)) (by have := Int.emod_lt_of_pos s' a15; omega) a17 a18
    simp [lastM, Bag.d, dGet, dGt, dLt, dInt2, dMod, dFdiv, dAdd, dMul, dPow, hk, atI, j2, j3, j4, hbig, h0, q1, q2, q3, q4, q5, a7, a15, hs]
/-- one number drawn -/
theorem pull_run {b : Bag} {many : Int} {m : Nat} (c : PullOk cA p1 cB cC p2 cE cF cG cH p3 cI) (hk : k < S.length) (hb : b.Ok (m + 1)) (h0 : 0 < many) (h1 : many < 2 ^ 64) :
    ∃ (r : Int) (b' : Bag), (pullM cA p1 cB cC p2 cE cF cG cH p3 cI (.ref k) (.int many)) (S.set k (some b.d)) = .ok (.ret (.int r)) (S.set k (some b'.d)) ∧ 0 ≤ r ∧ r < many ∧ b'.Ok m := by
  obtain ⟨⟨a1, a2⟩, ⟨a3, a4⟩, ⟨a5, a6⟩, ⟨a7, a8⟩, ⟨a9, a10⟩, ⟨a11, a12⟩, ⟨a13, a14⟩, ⟨a15, a16⟩, ⟨a17, a18⟩⟩ := c.h
  obtain ⟨j0, j1, j2, j3, j4⟩ := ix5
  have hc1 := hb.cnt1
  have hb1 : ({ b with cnt := b.cnt + 1 } : Bag).Ok m := ⟨hb.pos, hb.big, hb.seed0, hb.seed1, by have := hb.cnt0; show 0 ≤ b.cnt + 1; omega, by show b.cnt + 1 + (m : Int) < 2 ^ 40; push_cast at hc1; omega, hb.len⟩
  by_cases hq : b.big = 0 ∧ b.pos < b.cs.length
  · obtain ⟨g1, g2⟩ := hq
    have hp := hb.pos
    have hlt : b.pos.toNat < b.cs.length := by omega
    have hcell : atI (b.cs.map D.int) b.pos = some (.int b.cs[b.pos.toNat]) := by
      rw [atI_nat hp (by rw [List.length_map]; exact g2), List.getElem?_map, List.getElem?_eq_getElem hlt]; rfl
    generalize b.cs[b.pos.toNat] = cell at hcell
    have hcell0 := hcell
    unfold atI at hcell0
    rw [List.length_map] at hcell0
    simp only [List.getElem?_map] at hcell0
    have e0 := Int.emod_nonneg cell (Int.ne_of_gt a3)
    have e0' := Int.emod_lt_of_pos cell a3
    have e1 := Int.emod_nonneg (b.seed * cA + cell % p1 * cB + cC) (Int.ne_of_gt a7)
    have e2 := Int.emod_lt_of_pos (b.seed * cA + cell % p1 * cB + cC) a7
    have q1 : CMulW b.seed cA := mul_ok hb.seed0 (by have := hb.seed1; omega) a1 a2
    have q2 : CMulW (cell % p1) cB := mul_ok e0 (by omega) a5 a6
    have q3 : CPow 10 18 := ⟨by decide, by decide, by decide⟩
    have hb2 : ({ b with cnt := b.cnt + 1, pos := b.pos + 1, big := if 10 ^ 18 ≤ cell then cell else b.big, seed := (b.seed * cA + cell % p1 * cB + cC) % p2 } : Bag).Ok m := by
      refine ⟨by show 0 ≤ b.pos + 1; omega, ?_, e1, (show (b.seed * cA + cell % p1 * cB + cC) % p2 < 2 ^ 40 by omega), hb1.cnt0, hb1.cnt1, hb.len⟩
      show 0 ≤ if 10 ^ 18 ≤ cell then cell else b.big
      by_cases hce : 10 ^ 18 ≤ cell
      · rw [if_pos hce]; exact Int.le_trans (by decide) hce
      · rw [if_neg hce]; exact hb.big
    obtain ⟨r, b', e, f1, f2, f3⟩ := pull_last (S := S) (k := k) c hk hb2 h0 h1
    refine ⟨r, b', ?_, f1, f2, f3⟩
    rw [← e]
    by_cases hce : (10 ^ 18 : Int) ≤ cell
    · have hce' : (1000000000000000000 : Int) ≤ cell := hce
      simp [pullM, Bag.d, dGet, dGe, dEq, dLt, dInt2, dMod, dAdd, dMul, dPow, hk, atI, j0, j1, j2, j3, j4, g1, g2, hcell0, hce', q1, q2, q3, a7, a3]
      trace_state
    · have hce' : ¬ (1000000000000000000 : Int) ≤ cell := hce
      simp [pullM, Bag.d, dGet, dGe, dEq, dLt, dInt2, dMod, dAdd, dMul, dPow, hk, atI, j0, j1, j2, j3, j4, g1, g2, hcell0, hce', q1, q2, q3, a7, a3]
      trace_state
  · obtain ⟨r, b', e, f1, f2, f3⟩ := pull_last (S := S) (k := k) c hk hb1 h0 h1
    refine ⟨r, b', ?_, f1, f2, f3⟩
    rw [← e]
    by_cases g1 : b.big = 0
    · have g2 : ¬ b.pos < b.cs.length := fun z => hq ⟨g1, z⟩
      simp [pullM, Bag.d, dGet, dGe, dEq, dLt, dInt2, dMod, dAdd, dMul, dPow, hk, atI, j0, j1, j2, j3, j4, g1, g2]
      trace_state
    · simp [pullM, Bag.d, dGet, dGe, dEq, dLt, dInt2, dMod, dAdd, dMul, dPow, hk, atI, j0, j1, j2, j3, j4, g1]
      trace_state
end
end VM
namespace VM
open PySem PySem.Spec PyProof.Rows L2
section
variable {α β τ : Type} {S S' : Store}
theorem bind_to {m : M α} {f : α → M β} {a : α} {r : Res β} (h : m S = .ok a S') (h2 : f a S' = r) : (m.bind f) S = r := by rw [run_bind, h]; exact h2
theorem seqO_to {τ' : Type} {m : M (Out τ' β)} {k : τ' → M (Out τ β)} {t : τ'} {r : Res (Out τ β)} (h : m S = .ok (.next t) S') (h2 : k t S' = r) : (seqO m k) S = r := by rw [run_seqO, h]; exact h2
theorem fin_to {rk : Bool} {m : M (Out Unit Empty)} {d : D} (h : m S = .ok (.ret d) S') : fin rk m S = .ok d S' := by rw [run_fin, h]; rfl
theorem ite_f {c : M Bool} {a b : M α} {r : Res α} (h : c S = .ok false S') (h2 : b S' = r) : (mIte c a b) S = r := by rw [run_ite, h]; exact h2
theorem ite_t {c : M Bool} {a b : M α} {r : Res α} (h : c S = .ok true S') (h2 : a S' = r) : (mIte c a b) S = r := by rw [run_ite, h]; exact h2
/-- a for loop that goes through -/
theorem forL_ok {f : D → τ → M (Out τ τ)} (I : Nat → τ → Store → Prop) : ∀ (ds : List D) (n : Nat) (t : τ) (S : Store), I (n + ds.length) t S →
    (∀ (n : Nat) (d : D) (t : τ) (S : Store), d ∈ ds → I (n + 1) t S → ∃ t' S', (f d t S = .ok (.next t') S' ∨ f d t S = .ok (.cnt t') S') ∧ I n t' S') →
    ∃ t' S', (forL f ds t : M (Out τ β)) S = .ok (.next t') S' ∧ I n t' S'
  | [], n, t, S, h, _ => ⟨t, S, rfl, h⟩
  | d :: ds, n, t, S, h, hf => by
    obtain ⟨t1, S1, e, h1⟩ := hf (n + ds.length) d t S List.mem_cons_self h
    obtain ⟨t2, S2, e2, h2⟩ := forL_ok I ds n t1 S1 h1 fun n d t S hd => hf n d t S (List.mem_cons_of_mem _ hd)
    refine ⟨t2, S2, ?_, h2⟩
    show ((f d t).bind (contL (forL f ds))) S = _
    rw [run_bind]
    rcases e with e | e <;> rw [e] <;> exact e2
/-- a comprehension whose turns leave the store -/
theorem compL_ok {f : D → M (Option D)} {g : D → Option D} : ∀ (ds : List D), (∀ d ∈ ds, f d S = .ok (g d) S) → compL f ds S = .ok (ds.filterMap g) S
  | [], _ => rfl
  | d :: ds, h => by
    unfold compL
    rw [run_bind]
    have e : noexc (f d) S = .ok (g d) S := by unfold noexc; rw [h d List.mem_cons_self]
    rw [e, bnd_ok, run_bind, compL_ok ds fun d hd => h d (List.mem_cons_of_mem _ hd), bnd_ok, run_pure, List.filterMap_cons]
    cases g d <;> rfl
theorem mkC_ok {f : D → M (Option D)} {g : D → Option D} (ds : List D) (hl : ds.length ≤ sizeLine) (h : ∀ d ∈ ds, f d S = .ok (g d) S) : mkC f ds S = .ok (.lst (ds.filterMap g)) S := by
  unfold mkC
  rw [run_bind, run_req, if_pos hl, compL_ok ds h]; rfl
/-- the law's draws: pull and any as the printed mirrors have them -/
structure Draws (pull : List D → M D) : Prop where
  run : ∀ {S : Store} {k : Nat} {b : Bag} {many : Int} {m : Nat}, k < S.length → b.Ok (m + 1) → 0 < many → many < 2 ^ 64 →
    ∃ (r : Int) (b' : Bag), pull [.ref k, .int many] (S.set k (some b.d)) = .ok (.int r) (S.set k (some b'.d)) ∧ 0 ≤ r ∧ r < many ∧ b'.Ok m
theorem draws_of {cA p1 cB cC p2 cE cF cG cH p3 cI : Int} {pull : List D → M D} (c : PullOk cA p1 cB cC p2 cE cF cG cH p3 cI) (h : ∀ x y, pull [x, y] = fin false (pullM cA p1 cB cC p2 cE cF cG cH p3 cI x y)) : Draws pull := ⟨fun hk hb h0 h1 => by
  obtain ⟨r, b', e, f1, f2, f3⟩ := pull_run c hk hb h0 h1
  refine ⟨r, b', ?_, f1, f2, f3⟩
  rw [h, run_fin, e]; rfl⟩
def anyM (pull : List D → M D) (x0 x1 : D) : M (Out Unit Empty) := (mRet (b2 dGet (M.pure x1) (callM (consM (M.pure x0) (consM ((consM (M.pure x1) (M.pure [])).bind (one1 aLen)) (M.pure []))) (M.pure []) (mCall 2 (fun ds _ => ds) pull))))
theorem any_run {pull : List D → M D} (P : Draws pull) {k : Nat} {b : Bag} {l : List D} {m : Nat} (hk : k < S.length) (hb : b.Ok (m + 1)) (h0 : l ≠ []) (h1 : l.length < 2 ^ 64) :
    ∃ (i : Nat) (x : D) (b' : Bag), fin false (anyM pull (.ref k) (.lst l)) (S.set k (some b.d)) = .ok x (S.set k (some b'.d)) ∧ l[i]? = some x ∧ b'.Ok m := by
  have hl : 0 < l.length := List.length_pos_iff.mpr h0
  obtain ⟨r, b', e, f1, f2, f3⟩ := P.run (many := l.length) hk hb (by omega) (by omega)
  have hr : r.toNat < l.length := by omega
  have ea : atI l r = some l[r.toNat] := by rw [atI_nat f1 f2, List.getElem?_eq_getElem hr]
  refine ⟨r.toNat, l[r.toNat], b', ?_, List.getElem?_eq_getElem hr, f3⟩
  simp [anyM, e, dGet, ea]
def drawsM (cN cS : Int) (x0 : D) : M (Out Unit Empty) := (mRet ((consM ((consM ((M.pure x0).bind fun d => (M.pure none).bind fun a => ((M.pure (D.int cN)).bind aPart).bind fun b => (vw d).bind (aSliceL a b)) (M.pure [])).bind (one1 aList)) (consM (M.pure (D.int 0)) (consM (M.pure (D.int 0)) (consM (M.pure (D.int cS)) (consM (M.pure (D.int 0)) (M.pure [])))))).bind mkL))
theorem draws_run {cN cS : Int} {ns : List Int} (h0 : 0 ≤ cS) (h1 : cS < 2 ^ 40) (hl : ns.length ≤ 63) : ∃ b : Bag, fin true (drawsM cN cS (.scr ns)) S = .ok b.d S ∧ ∀ m : Nat, m < 2 ^ 39 → b.Ok m := by
  refine ⟨⟨cutD ns none (some cN), 0, 0, cS, 0⟩, ?_, fun m hm => ⟨Int.le_refl _, Int.le_refl _, h0, h1, Int.le_refl _, by show (0 : Int) + m < 2 ^ 40; omega, ?_⟩⟩
  · have z : (5 : Nat) ≤ sizeLine := by rw [sizeLine_eq]; omega
    have z2 : 4 + 1 ≤ sizeLine := z
    simp [drawsM, Bag.d, aPart, aSliceL, aList, mkL, z, z2]
  · have := cutD_len ns none (some cN)
    show (cutD ns none (some cN)).length < 2 ^ 40
    omega
end
end VM
set_option maxHeartbeats 0
namespace WK
open PySem PySem.Spec PyProof.Rows L2 VM
def top (i : Nat) : Stmt := PySem.Challenge.pw_mendworth_k02_moduli_and_letters.main.body.getD i (.Pass ⟨0, 0, 0, 0⟩)
abbrev FnP (K : PySem.W.Frag) (x : Str) (st : Stmt) (f : Addr) (fd : FuncData) : Prop := FunD K x x (defArgs st) (defBody st) (defScope st) [] [] f fd
abbrev s__law_draws : Stmt := top 7
abbrev s__law_pull : Stmt := top 8
abbrev s__law_any : Stmt := top 9
abbrev s__law_prime : Stmt := top 11
abbrev s_is_number : Stmt := top 3
abbrev s_is_modulus : Stmt := top 4
abbrev s_is_letter : Stmt := top 5
abbrev s__law_like : Stmt := top 10
abbrev s_law : Stmt := top 12
abbrev N__law_draws : List Str := (["_law_script"] : List Str)
theorem sc__law_draws : FnScope N__law_draws (["_law_script"] : List Str) (defScope s__law_draws) := ⟨rfl, rfl, rfl, by decide +kernel, rfl, by decide +kernel, by decide +kernel⟩
abbrev N__law_pull : List Str := (["_law_bag", "_law_many", "_law_cell", "_law_digit", "_law_seed"] : List Str)
theorem sc__law_pull : FnScope N__law_pull (["_law_bag", "_law_many"] : List Str) (defScope s__law_pull) := ⟨rfl, rfl, rfl, by decide +kernel, rfl, by decide +kernel, by decide +kernel⟩
abbrev N__law_any : List Str := (["_law_bag", "_law_things"] : List Str)
theorem sc__law_any : FnScope N__law_any (["_law_bag", "_law_things"] : List Str) (defScope s__law_any) := ⟨rfl, rfl, rfl, by decide +kernel, rfl, by decide +kernel, by decide +kernel⟩
abbrev N__law_prime : List Str := (["_law_bag"] : List Str)
theorem sc__law_prime : FnScope N__law_prime (["_law_bag"] : List Str) (defScope s__law_prime) := ⟨rfl, rfl, rfl, by decide +kernel, rfl, by decide +kernel, by decide +kernel⟩
abbrev N_is_number : List Str := (["value"] : List Str)
theorem sc_is_number : FnScope N_is_number (["value"] : List Str) (defScope s_is_number) := ⟨rfl, rfl, rfl, by decide +kernel, rfl, by decide +kernel, by decide +kernel⟩
abbrev N_is_modulus : List Str := (["value", "divisor"] : List Str)
theorem sc_is_modulus : FnScope N_is_modulus (["value"] : List Str) (defScope s_is_modulus) := ⟨rfl, rfl, rfl, by decide +kernel, rfl, by decide +kernel, by decide +kernel⟩
abbrev N_is_letter : List Str := (["value", "modulus"] : List Str)
theorem sc_is_letter : FnScope N_is_letter (["value", "modulus"] : List Str) (defScope s_is_letter) := ⟨rfl, rfl, rfl, by decide +kernel, rfl, by decide +kernel, by decide +kernel⟩
abbrev N__law_like : List Str := (["_law_found", "_law_due", "_law_name", "_law_one", "_law_other"] : List Str)
theorem sc__law_like : FnScope N__law_like (["_law_found", "_law_due"] : List Str) (defScope s__law_like) := ⟨rfl, rfl, rfl, by decide +kernel, rfl, by decide +kernel, by decide +kernel⟩
abbrev N_law : List Str := (["_law_script", "_law_bag", "_law_turn", "_law_one", "_law_other", "_law_prime_here", "_law_near", "_law_odd", "_law_found", "_law_thing", "_law_k"] : List Str)
theorem sc_law : FnScope N_law (["_law_script"] : List Str) (defScope s_law) := ⟨rfl, rfl, rfl, by decide +kernel, rfl, by decide +kernel, by decide +kernel⟩
/-- what is known of the program's top -/
structure Gf (K : PySem.W.Frag) (mg : Str → Option Value) : Prop where
  d__law_draws : ∃ fd, FnP K "_law_draws" s__law_draws (He.ga K "_law_draws") fd
  g__law_draws : mg "_law_draws" = some (.ref (He.ga K "_law_draws"))
  d__law_pull : ∃ fd, FnP K "_law_pull" s__law_pull (He.ga K "_law_pull") fd
  g__law_pull : mg "_law_pull" = some (.ref (He.ga K "_law_pull"))
  d__law_any : ∃ fd, FnP K "_law_any" s__law_any (He.ga K "_law_any") fd
  g__law_any : mg "_law_any" = some (.ref (He.ga K "_law_any"))
  d__law_prime : ∃ fd, FnP K "_law_prime" s__law_prime (He.ga K "_law_prime") fd
  g__law_prime : mg "_law_prime" = some (.ref (He.ga K "_law_prime"))
  d_is_number : ∃ fd, FnP K "is_number" s_is_number (He.ga K "is_number") fd
  g_is_number : mg "is_number" = some (.ref (He.ga K "is_number"))
  d_is_modulus : ∃ fd, FnP K "is_modulus" s_is_modulus (He.ga K "is_modulus") fd
  g_is_modulus : mg "is_modulus" = some (.ref (He.ga K "is_modulus"))
  d_is_letter : ∃ fd, FnP K "is_letter" s_is_letter (He.ga K "is_letter") fd
  g_is_letter : mg "is_letter" = some (.ref (He.ga K "is_letter"))
  d__law_like : ∃ fd, FnP K "_law_like" s__law_like (He.ga K "_law_like") fd
  g__law_like : mg "_law_like" = some (.ref (He.ga K "_law_like"))
  d_law : ∃ fd, FnP K "law" s_law (He.ga K "law") fd
  n_list : mg "list" = none
  n_range : mg "range" = none
  n_len : mg "len" = none
  n_int : mg "int" = none
  n_isinstance : mg "isinstance" = none
  n_bool : mg "bool" = none
  n_dict : mg "dict" = none
  n_all : mg "all" = none
  n_tuple : mg "tuple" = none
  n_zip : mg "zip" = none
  n_str : mg "str" = none
  v_LEAST_MODULUS : ∃ t, mg "LEAST_MODULUS" = some (.int (10007) t)
  v_GREATEST_MODULUS : ∃ t, mg "GREATEST_MODULUS" = some (.int (999983) t)
section
variable {P : Program} {w : World} {K : PySem.W.Frag} {mg : Str → Option Value} {base : Heap}
theorem Gf.k__law_draws (G : Gf K mg) : PySem.W.keepIn K (.ref (He.ga K "_law_draws")) = true := by obtain ⟨_, F⟩ := G.d__law_draws; exact F.kp
theorem Gf.k__law_pull (G : Gf K mg) : PySem.W.keepIn K (.ref (He.ga K "_law_pull")) = true := by obtain ⟨_, F⟩ := G.d__law_pull; exact F.kp
theorem Gf.k__law_any (G : Gf K mg) : PySem.W.keepIn K (.ref (He.ga K "_law_any")) = true := by obtain ⟨_, F⟩ := G.d__law_any; exact F.kp
theorem Gf.k__law_prime (G : Gf K mg) : PySem.W.keepIn K (.ref (He.ga K "_law_prime")) = true := by obtain ⟨_, F⟩ := G.d__law_prime; exact F.kp
theorem Gf.k_is_number (G : Gf K mg) : PySem.W.keepIn K (.ref (He.ga K "is_number")) = true := by obtain ⟨_, F⟩ := G.d_is_number; exact F.kp
theorem Gf.k_is_modulus (G : Gf K mg) : PySem.W.keepIn K (.ref (He.ga K "is_modulus")) = true := by obtain ⟨_, F⟩ := G.d_is_modulus; exact F.kp
theorem Gf.k_is_letter (G : Gf K mg) : PySem.W.keepIn K (.ref (He.ga K "is_letter")) = true := by obtain ⟨_, F⟩ := G.d_is_letter; exact F.kp
theorem Gf.k__law_like (G : Gf K mg) : PySem.W.keepIn K (.ref (He.ga K "_law_like")) = true := by obtain ⟨_, F⟩ := G.d__law_like; exact F.kp
/-! ### _law_draws -/
def b__law_draws (x0 : D) : M (Out Unit Empty) := (mRet ((consM ((consM ((M.pure x0).bind fun d => (M.pure none).bind fun a => ((M.pure (D.int 63)).bind aPart).bind fun b => (vw d).bind (aSliceL a b)) (M.pure [])).bind (one1 aList)) (consM (M.pure (D.int 0)) (consM (M.pure (D.int 0)) (consM (M.pure (D.int 10045)) (consM (M.pure (D.int 0)) (M.pure [])))))).bind mkL))
def m__law_draws : List D → M D
  | [x0] => fin true (b__law_draws x0)
  | _ => M.bad
theorem k__law_draws (G : Gf K mg) : ∃ fd, FnP K "_law_draws" s__law_draws (He.ga K "_law_draws") fd ∧ FnOk P w K mg base (L2.CX P w) 1 (He.ga K "_law_draws") fd (["_law_script"] : List Str) (spOf K 1 true m__law_draws) := by
  obtain ⟨fd, F⟩ := G.d__law_draws
  refine ⟨fd, F, VM.fn_ok (n := 1) F sc__law_draws rfl fun ds hl => ?_⟩
  match ds, hl with
  | [x0], _ => exact ⟨b__law_draws x0, rfl, fun cdv A outer s H E hr =>
    (VB.one (VO.retN (sub_unE _ _ rfl) (VN.lst (VA.cons (VE.ofN (VN.callTy call_list_of sp_list rfl G.n_list (by decide +kernel) (VAr.cons (VE.r (VE.ofN (VN.slice (VE.r (VE.var (pv 0) rfl)) VP.none (VP.some VE.int)))) VAr.nil))) (VA.cons VE.int (VA.cons VE.int (VA.cons VE.int (VA.cons VE.int VA.nil))))))))⟩
theorem c__law_draws_1 (G : Gf K mg) : CallOk P w K mg base 1 (He.ga K "_law_draws") ([] : List Str) true (mCall 1 (fun ds _ => ds) m__law_draws) := by
  obtain ⟨fd, F, O⟩ := k__law_draws (P := P) (w := w) (base := base) G
  exact callOk O (Bd.plain (F.bindsN fun _ _ _ _ _ _ us hl => match us, hl with | [_], _ => rfl) rfl) (fun ds es h _ => h)
/-! ### _law_pull -/
def b__law_pull (x0 x1 : D) : M (Out Unit Empty) := (((b2 dAdd (b2 dGet (M.pure x0) (M.pure (D.int 4))) (M.pure (D.int 1))).bind fun x => (M.pure x0).bind fun a => (M.pure (D.int 4)).bind fun b => VM.setRef a b x).bind fun u1 : Unit => (seqO (mIte (mAnd ((b2 dEq (b2 dGet (M.pure x0) (M.pure (D.int 2))) (M.pure (D.int 0))).bind toB) ((b2 dLt (b2 dGet (M.pure x0) (M.pure (D.int 1))) ((consM (b2 dGet (M.pure x0) (M.pure (D.int 0))) (M.pure [])).bind (one1 aLen))).bind toB)) ((b2 dGet (b2 dGet (M.pure x0) (M.pure (D.int 0))) (b2 dGet (M.pure x0) (M.pure (D.int 1)))).bind fun v3 : D => (((b2 dAdd (b2 dGet (M.pure x0) (M.pure (D.int 1))) (M.pure (D.int 1))).bind fun x => (M.pure x0).bind fun a => (M.pure (D.int 1)).bind fun b => VM.setRef a b x).bind fun u4 : Unit => (seqO (mIte ((b2 dGe (M.pure v3) (b2 dPow (M.pure (D.int 10)) (M.pure (D.int 18)))).bind toB) (((M.pure v3).bind fun x => (M.pure x0).bind fun a => (M.pure (D.int 2)).bind fun b => VM.setRef a b x).bind fun u6 : Unit => (M.pure (Out.next ()))) (M.pure (Out.next ()))) (fun t5 : Unit => (((b2 dMod ((consM (b2 dAdd (b2 dAdd (b2 dMul (b2 dGet (M.pure x0) (M.pure (D.int 3))) (M.pure (D.int 43019))) (b2 dMul (b2 dMod ((consM (M.pure v3) (M.pure [])).bind (one1 aIntC)) (M.pure (D.int 2147483269))) (M.pure (D.int 51197)))) (M.pure (D.int 73))) (M.pure [])).bind (one1 aIntC)) (M.pure (D.int 2147483399))).bind fun x => (M.pure x0).bind fun a => (M.pure (D.int 3)).bind fun b => VM.setRef a b x).bind fun u7 : Unit => (M.pure (Out.next ()))))))) (M.pure (Out.next ()))) (fun t2 : Unit => (mIte ((b2 dGt (b2 dGet (M.pure x0) (M.pure (D.int 2))) (M.pure (D.int 0))).bind toB) ((b2 dMod ((consM (b2 dGet (M.pure x0) (M.pure (D.int 2))) (M.pure [])).bind (one1 aIntC)) (M.pure x1)).bind fun v8 : D => (((b2 dFdiv (b2 dGet (M.pure x0) (M.pure (D.int 2))) (M.pure x1)).bind fun x => (M.pure x0).bind fun a => (M.pure (D.int 2)).bind fun b => VM.setRef a b x).bind fun u9 : Unit => (mRet (M.pure v8)))) ((b2 dGet (M.pure x0) (M.pure (D.int 3))).bind fun v10 : D => (((b2 dMod ((consM (b2 dAdd (b2 dAdd (b2 dAdd (b2 dPow (M.pure v10) (M.pure (D.int 3))) (b2 dMul (M.pure v10) (M.pure (D.int 37991)))) (b2 dMul (b2 dGet (M.pure x0) (M.pure (D.int 4))) (M.pure (D.int 1299689)))) (M.pure (D.int 70489))) (M.pure [])).bind (one1 aIntC)) (M.pure (D.int 2147483399))).bind fun x => (M.pure x0).bind fun a => (M.pure (D.int 3)).bind fun b => VM.setRef a b x).bind fun u11 : Unit => (mRet (b2 dMod ((consM (b2 dAdd (b2 dFdiv (b2 dGet (M.pure x0) (M.pure (D.int 3))) (M.pure (D.int 83))) (b2 dMul (b2 dMod ((consM (b2 dGet (M.pure x0) (M.pure (D.int 3))) (M.pure [])).bind (one1 aIntC)) (M.pure (D.int 7919))) (M.pure (D.int 67)))) (M.pure [])).bind (one1 aIntC)) (M.pure x1)))))))))
def m__law_pull : List D → M D
  | [x0, x1] => fin false (b__law_pull x0 x1)
  | _ => M.bad
theorem k__law_pull (G : Gf K mg) : ∃ fd, FnP K "_law_pull" s__law_pull (He.ga K "_law_pull") fd ∧ FnOk P w K mg base (L2.CX P w) 1 (He.ga K "_law_pull") fd (["_law_bag", "_law_many"] : List Str) (spOf K 2 false m__law_pull) := by
  obtain ⟨fd, F⟩ := G.d__law_pull
  refine ⟨fd, F, VM.fn_ok (n := 2) F sc__law_pull rfl fun ds hl => ?_⟩
  match ds, hl with
  | [x0, x1], _ => exact ⟨b__law_pull x0 x1, rfl, fun cdv A outer s H E hr =>
    (VB.cons (VS.setRef (room1 hr) (sub_unE _ _ rfl) (VE.bin op_addD sp_add (VE.r (VE.get (room1 hr) (VE.r (VE.var (pv 0) rfl)) (VE.r VE.int) (fun _ _ => rfl))) (VE.r VE.int)) (VE.var (pv 0) rfl) VE.int) (fun u1 => (VB.consO (vw1 := (fun t2 : Unit => [(SL.dat x0), (SL.dat x1), SL.un, SL.un, SL.un])) (VO.ite (sub_unE _ _ rfl) (VW.t (VW.and (VT.cmp (op_eqD (Room.units hr)) sp_eq (VE.r (VE.get (room1 hr) (VE.r (VE.var (pv 0) rfl)) (VE.r VE.int) (fun _ _ => rfl))) (VE.r VE.int) (nomark _)) (VW.and1 (VT.cmp op_lt sp_lt (VE.r (VE.get (room1 hr) (VE.r (VE.var (pv 0) rfl)) (VE.r VE.int) (fun _ _ => rfl))) (VE.r (VE.callB call_len sp_len rfl G.n_len (by decide +kernel) (VAr.cons (VE.r (VE.get (room1 hr) (VE.r (VE.var (pv 0) rfl)) (VE.r VE.int) (fun _ _ => rfl))) VAr.nil))) (nomark _))))) (VB.cons (VS.asg (i := 2) sc__law_pull.nd rfl (by first | exact Or.inl rfl | exact Or.inr rfl) (sub_unE _ _ rfl) (VE.get (room1 hr) (VE.r (VE.get (room1 hr) (VE.r (VE.var (pv 0) rfl)) (VE.r VE.int) (fun _ _ => rfl))) (VE.r (VE.get (room1 hr) (VE.r (VE.var (pv 0) rfl)) (VE.r VE.int) (fun _ _ => rfl))) (fun _ _ => rfl))) (fun v3 => (VB.cons (VS.setRef (room1 hr) (sub_unE _ _ rfl) (VE.bin op_addD sp_add (VE.r (VE.get (room1 hr) (VE.r (VE.var (pv 0) rfl)) (VE.r VE.int) (fun _ _ => rfl))) (VE.r VE.int)) (VE.var (pv 0) rfl) VE.int) (fun u4 => (VB.consO (vw1 := (fun t5 : Unit => [(SL.dat x0), (SL.dat x1), (SL.dat v3), SL.un, SL.un])) (VO.ite (sub_unE _ _ rfl) (VT.cmp op_ge sp_ge (VE.r (VE.var (pv 2) rfl)) (VE.r (VE.bin op_pow sp_pow (VE.r VE.int) (VE.r VE.int))) (nomark _)) (VB.cons (VS.setRef (room1 hr) (sub_unE _ _ rfl) (VE.var (pv 2) rfl) (VE.var (pv 0) rfl) VE.int) (fun u6 => (VB.nil (t := ()) (And.intro (Or.inr rfl) (And.intro (Or.inr rfl) (And.intro (Or.inr rfl) (And.intro (Or.inl rfl) (And.intro (Or.inl rfl) True.intro)))))))) (VB.nil (t := ()) (And.intro (Or.inr rfl) (And.intro (Or.inr rfl) (And.intro (Or.inr rfl) (And.intro (Or.inl rfl) (And.intro (Or.inl rfl) True.intro))))))) (fun t5 => (VB.cons (VS.setRef (room1 hr) (sub_unE _ _ rfl) (VE.bin op_mod sp_mod (VE.r (VE.callTy call_int1 sp_int rfl G.n_int (by decide +kernel) (VAr.cons (VE.r (VE.bin op_addD sp_add (VE.r (VE.bin op_addD sp_add (VE.r (VE.bin op_mulD sp_mul (VE.r (VE.get (room1 hr) (VE.r (VE.var (pv 0) rfl)) (VE.r VE.int) (fun _ _ => rfl))) (VE.r VE.int))) (VE.r (VE.bin op_mulD sp_mul (VE.r (VE.bin op_mod sp_mod (VE.r (VE.callTy call_int1 sp_int rfl G.n_int (by decide +kernel) (VAr.cons (VE.r (VE.var (pv 2) rfl)) VAr.nil))) (VE.r VE.int))) (VE.r VE.int))))) (VE.r VE.int))) VAr.nil))) (VE.r VE.int)) (VE.var (pv 0) rfl) VE.int) (fun u7 => (VB.nil (t := ()) (And.intro (Or.inr rfl) (And.intro (Or.inr rfl) (And.intro (Or.inl rfl) (And.intro (Or.inl rfl) (And.intro (Or.inl rfl) True.intro)))))))))))))) (VB.nil (t := ()) (And.intro (Or.inr rfl) (And.intro (Or.inr rfl) (And.intro (Or.inl rfl) (And.intro (Or.inl rfl) (And.intro (Or.inl rfl) True.intro))))))) (fun t2 => (VB.guard (sub_unE _ _ rfl) (VT.cmp op_gt sp_gt (VE.r (VE.get (room1 hr) (VE.r (VE.var (pv 0) rfl)) (VE.r VE.int) (fun _ _ => rfl))) (VE.r VE.int) (nomark _)) (VB.cons (VS.asg (i := 3) sc__law_pull.nd rfl (by first | exact Or.inl rfl | exact Or.inr rfl) (sub_unE _ _ rfl) (VE.bin op_mod sp_mod (VE.r (VE.callTy call_int1 sp_int rfl G.n_int (by decide +kernel) (VAr.cons (VE.r (VE.get (room1 hr) (VE.r (VE.var (pv 0) rfl)) (VE.r VE.int) (fun _ _ => rfl))) VAr.nil))) (VE.r (VE.var (pv 1) rfl)))) (fun v8 => (VB.cons (VS.setRef (room1 hr) (sub_unE _ _ rfl) (VE.bin op_fdivW sp_fdiv (VE.r (VE.get (room1 hr) (VE.r (VE.var (pv 0) rfl)) (VE.r VE.int) (fun _ _ => rfl))) (VE.r (VE.var (pv 1) rfl))) (VE.var (pv 0) rfl) VE.int) (fun u9 => (VB.one (VO.ret (sub_unE _ _ rfl) (VE.var (pv 3) rfl))))))) (NoNx.bind fun _ => (NoNx.bind fun _ => NoNx.mRet)) (VB.cons (VS.asg (i := 4) sc__law_pull.nd rfl (by first | exact Or.inl rfl | exact Or.inr rfl) (sub_unE _ _ rfl) (VE.get (room1 hr) (VE.r (VE.var (pv 0) rfl)) (VE.r VE.int) (fun _ _ => rfl))) (fun v10 => (VB.cons (VS.setRef (room1 hr) (sub_unE _ _ rfl) (VE.bin op_mod sp_mod (VE.r (VE.callTy call_int1 sp_int rfl G.n_int (by decide +kernel) (VAr.cons (VE.r (VE.bin op_addD sp_add (VE.r (VE.bin op_addD sp_add (VE.r (VE.bin op_addD sp_add (VE.r (VE.bin op_pow sp_pow (VE.r (VE.var (pv 4) rfl)) (VE.r VE.int))) (VE.r (VE.bin op_mulD sp_mul (VE.r (VE.var (pv 4) rfl)) (VE.r VE.int))))) (VE.r (VE.bin op_mulD sp_mul (VE.r (VE.get (room1 hr) (VE.r (VE.var (pv 0) rfl)) (VE.r VE.int) (fun _ _ => rfl))) (VE.r VE.int))))) (VE.r VE.int))) VAr.nil))) (VE.r VE.int)) (VE.var (pv 0) rfl) VE.int) (fun u11 => (VB.one (VO.ret (sub_unE _ _ rfl) (VE.bin op_mod sp_mod (VE.r (VE.callTy call_int1 sp_int rfl G.n_int (by decide +kernel) (VAr.cons (VE.r (VE.bin op_addD sp_add (VE.r (VE.bin op_fdivW sp_fdiv (VE.r (VE.get (room1 hr) (VE.r (VE.var (pv 0) rfl)) (VE.r VE.int) (fun _ _ => rfl))) (VE.r VE.int))) (VE.r (VE.bin op_mulD sp_mul (VE.r (VE.bin op_mod sp_mod (VE.r (VE.callTy call_int1 sp_int rfl G.n_int (by decide +kernel) (VAr.cons (VE.r (VE.get (room1 hr) (VE.r (VE.var (pv 0) rfl)) (VE.r VE.int) (fun _ _ => rfl))) VAr.nil))) (VE.r VE.int))) (VE.r VE.int))))) VAr.nil))) (VE.r (VE.var (pv 1) rfl))))))))))))))⟩
theorem c__law_pull_2 (G : Gf K mg) : CallOk P w K mg base 1 (He.ga K "_law_pull") ([] : List Str) false (mCall 2 (fun ds _ => ds) m__law_pull) := by
  obtain ⟨fd, F, O⟩ := k__law_pull (P := P) (w := w) (base := base) G
  exact callOk O (Bd.plain (F.bindsN fun _ _ _ _ _ _ us hl => match us, hl with | [_, _], _ => rfl) rfl) (fun ds es h _ => h)
/-! ### _law_any -/
def b__law_any (x0 x1 : D) : M (Out Unit Empty) := (mRet (b2 dGet (M.pure x1) (callM (consM (M.pure x0) (consM ((consM (M.pure x1) (M.pure [])).bind (one1 aLen)) (M.pure []))) (M.pure []) (mCall 2 (fun ds _ => ds) m__law_pull))))
def m__law_any : List D → M D
  | [x0, x1] => fin false (b__law_any x0 x1)
  | _ => M.bad
theorem k__law_any (G : Gf K mg) : ∃ fd, FnP K "_law_any" s__law_any (He.ga K "_law_any") fd ∧ FnOk P w K mg base (L2.CX P w) 2 (He.ga K "_law_any") fd (["_law_bag", "_law_things"] : List Str) (spOf K 2 false m__law_any) := by
  obtain ⟨fd, F⟩ := G.d__law_any
  refine ⟨fd, F, VM.fn_ok (n := 2) F sc__law_any rfl fun ds hl => ?_⟩
  match ds, hl with
  | [x0, x1], _ => exact ⟨b__law_any x0 x1, rfl, fun cdv A outer s H E hr =>
    (VB.one (VO.ret (sub_unE _ _ rfl) (VE.get (room1 hr) (VE.r (VE.var (pv 1) rfl)) (VE.r (VE.call (c__law_pull_2 G) (hr.mono (by decide)) (takes_of rfl rfl rfl rfl) rfl G.g__law_pull G.k__law_pull (VA.cons (VE.var (pv 0) rfl) (VA.cons (VE.callB call_len sp_len rfl G.n_len (by decide +kernel) (VAr.cons (VE.r (VE.var (pv 1) rfl)) VAr.nil)) VA.nil)) VKw.nil len_nil)) (fun _ _ => rfl))))⟩
theorem c__law_any_2 (G : Gf K mg) : CallOk P w K mg base 2 (He.ga K "_law_any") ([] : List Str) false (mCall 2 (fun ds _ => ds) m__law_any) := by
  obtain ⟨fd, F, O⟩ := k__law_any (P := P) (w := w) (base := base) G
  exact callOk O (Bd.plain (F.bindsN fun _ _ _ _ _ _ us hl => match us, hl with | [_, _], _ => rfl) rfl) (fun ds es h _ => h)
/-! ### _law_prime -/
def b__law_prime (x0 : D) : M (Out Unit Empty) := (mRet (callM (consM (M.pure x0) (consM ((consM (M.pure (D.int 10007)) (consM (M.pure (D.int 10007)) (consM (M.pure (D.int 10009)) (consM (M.pure (D.int 65537)) (consM (M.pure (D.int 104729)) (consM (M.pure (D.int 999983)) (M.pure []))))))).bind mkL) (M.pure []))) (M.pure []) (mCall 2 (fun ds _ => ds) m__law_any)))
def m__law_prime : List D → M D
  | [x0] => fin false (b__law_prime x0)
  | _ => M.bad
theorem k__law_prime (G : Gf K mg) : ∃ fd, FnP K "_law_prime" s__law_prime (He.ga K "_law_prime") fd ∧ FnOk P w K mg base (L2.CX P w) 3 (He.ga K "_law_prime") fd (["_law_bag"] : List Str) (spOf K 1 false m__law_prime) := by
  obtain ⟨fd, F⟩ := G.d__law_prime
  refine ⟨fd, F, VM.fn_ok (n := 1) F sc__law_prime rfl fun ds hl => ?_⟩
  match ds, hl with
  | [x0], _ => exact ⟨b__law_prime x0, rfl, fun cdv A outer s H E hr =>
    (VB.one (VO.ret (sub_unE _ _ rfl) (VE.call (c__law_any_2 G) (hr.mono (by decide)) (takes_of rfl rfl rfl rfl) rfl G.g__law_any G.k__law_any (VA.cons (VE.var (pv 0) rfl) (VA.cons (VE.ofN (VN.lst (VA.cons VE.int (VA.cons VE.int (VA.cons VE.int (VA.cons VE.int (VA.cons VE.int (VA.cons VE.int VA.nil)))))))) VA.nil)) VKw.nil len_nil)))⟩
theorem c__law_prime_1 (G : Gf K mg) : CallOk P w K mg base 3 (He.ga K "_law_prime") ([] : List Str) false (mCall 1 (fun ds _ => ds) m__law_prime) := by
  obtain ⟨fd, F, O⟩ := k__law_prime (P := P) (w := w) (base := base) G
  exact callOk O (Bd.plain (F.bindsN fun _ _ _ _ _ _ us hl => match us, hl with | [_], _ => rfl) rfl) (fun ds es h _ => h)
/-! ### is_number -/
def b_is_number (x0 : D) : M (Out Unit Empty) := (mRet (dAnd ((M.pure x0).bind (dIsi "int")) (dNot ((M.pure x0).bind (dIsi "bool")))))
def m_is_number : List D → M D
  | [x0] => fin false (b_is_number x0)
  | _ => M.bad
theorem k_is_number (G : Gf K mg) : ∃ fd, FnP K "is_number" s_is_number (He.ga K "is_number") fd ∧ FnOk P w K mg base (L2.CX P w) 1 (He.ga K "is_number") fd (["value"] : List Str) (spOf K 1 false m_is_number) := by
  obtain ⟨fd, F⟩ := G.d_is_number
  refine ⟨fd, F, VM.fn_ok (n := 1) F sc_is_number rfl fun ds hl => ?_⟩
  match ds, hl with
  | [x0], _ => exact ⟨b_is_number x0, rfl, fun cdv A outer s H E hr =>
    (VB.one (VO.ret (sub_unE _ _ rfl) (VE.and (VE.isi rfl G.n_isinstance (pe_bltn (v := .ty "int") (u := .type "int") rfl G.n_int (by decide +kernel) rfl) (VE.r (VE.var (pv 0) rfl))) (VE.and1 (VE.not (VE.isi rfl G.n_isinstance (pe_bltn (v := .ty "bool") (u := .type "bool") rfl G.n_bool (by decide +kernel) rfl) (VE.r (VE.var (pv 0) rfl))))))))⟩
theorem c_is_number_1 (G : Gf K mg) : CallOk P w K mg base 1 (He.ga K "is_number") ([] : List Str) false (mCall 1 (fun ds _ => ds) m_is_number) := by
  obtain ⟨fd, F, O⟩ := k_is_number (P := P) (w := w) (base := base) G
  exact callOk O (Bd.plain (F.bindsN fun _ _ _ _ _ _ us hl => match us, hl with | [_], _ => rfl) rfl) (fun ds es h _ => h)
/-! ### is_modulus -/
def lb_is_modulus_1 (x0 : D) (t2 : D) : M (Out D D) := (mIte ((b2 dEq (b2 dMod (M.pure x0) (M.pure t2)) (M.pure (D.int 0))).bind toB) (mRet (M.pure (D.bl false))) (((M.pure (D.int 1)).bind (dIAdd t2)).bind fun v3 : D => (M.pure (Out.next v3))))
def lt_is_modulus_1 (x0 : D) (t2 : D) : M Bool := ((b2 dLe (b2 dMul (M.pure t2) (M.pure t2)) (M.pure x0)).bind toB)
def b_is_modulus (x0 : D) : M (Out Unit Empty) := (mIte (mOr (mNot ((callM (consM (M.pure x0) (M.pure [])) (M.pure []) (mCall 1 (fun ds _ => ds) m_is_number)).bind toB)) (mNot ((mChain dLe dLe (M.pure (D.int 10007)) (M.pure x0) (M.pure (D.int 999983))).bind toB))) (mRet (M.pure (D.bl false))) ((M.pure (D.int 2)).bind fun v1 : D => (seqO (whileM (lt_is_modulus_1 x0) (lb_is_modulus_1 x0) 1000000 v1) (fun t2 : D => (mRet (M.pure (D.bl true)))))))
def m_is_modulus : List D → M D
  | [x0] => fin false (b_is_modulus x0)
  | _ => M.bad
theorem k_is_modulus (G : Gf K mg) : ∃ fd, FnP K "is_modulus" s_is_modulus (He.ga K "is_modulus") fd ∧ FnOk P w K mg base (L2.CX P w) 2 (He.ga K "is_modulus") fd (["value"] : List Str) (spOf K 1 false m_is_modulus) := by
  obtain ⟨fd, F⟩ := G.d_is_modulus
  refine ⟨fd, F, VM.fn_ok (n := 1) F sc_is_modulus rfl fun ds hl => ?_⟩
  match ds, hl with
  | [x0], _ => exact ⟨b_is_modulus x0, rfl, fun cdv A outer s H E hr =>
    (VB.guard (sub_unE _ _ rfl) (VW.t (VW.or (VT.not (VT.val (VE.r (VE.call (c_is_number_1 G) (hr.mono (by decide)) (takes_of rfl rfl rfl rfl) rfl G.g_is_number G.k_is_number (VA.cons (VE.var (pv 0) rfl) VA.nil) VKw.nil len_nil)) (fun _ => rfl))) (VW.or1 (VT.not (VT.chain op_le sp_le op_le sp_le (VE.r (VE.con (pe_glob (v := .int (10007)) rfl (G.v_LEAST_MODULUS).choose_spec ⟨_, rfl⟩) (fun _ _ => by simp only [rep]))) (VE.r (VE.var (pv 0) rfl)) (VE.r (VE.con (pe_glob (v := .int (999983)) rfl (G.v_GREATEST_MODULUS).choose_spec ⟨_, rfl⟩) (fun _ _ => by simp only [rep])))))))) (VB.one (VO.ret (sub_unE _ _ rfl) VE.bl)) NoNx.mRet (VB.cons (VS.asg (i := 1) sc_is_modulus.nd rfl (by first | exact Or.inl rfl | exact Or.inr rfl) (sub_unE _ _ rfl) VE.int) (fun v1 => (VB.consO (vw1 := (fun t2 : D => [(SL.dat x0), (SL.dat t2)])) (VO.whil (vwL := (fun t2 : D => [(SL.dat x0), (SL.dat t2)])) (t0 := v1) 1000000 (passes_of rfl) (And.intro (Or.inr rfl) (And.intro (Or.inr rfl) True.intro)) (fun _ => (sub_unE _ _ rfl)) (fun t2 => (VT.cmp op_le sp_le (VE.r (VE.bin op_mulD sp_mul (VE.r (VE.var (pv 1) rfl)) (VE.r (VE.var (pv 1) rfl)))) (VE.r (VE.var (pv 0) rfl)) (nomark _))) (fun t2 => (VB.guard (sub_unE _ _ rfl) (VT.cmp (op_eqD (Room.units hr)) sp_eq (VE.r (VE.bin op_mod sp_mod (VE.r (VE.var (pv 0) rfl)) (VE.r (VE.var (pv 1) rfl)))) (VE.r VE.int) (nomark _)) (VB.one (VO.ret (sub_unE _ _ rfl) VE.bl)) NoNx.mRet (VB.cons (VS.augAdd (i := 1) sc_is_modulus.nd rfl (by first | exact Or.inl rfl | exact Or.inr rfl) (sub_unE _ _ rfl) rfl VE.int) (fun v3 => (VB.nil (t := v3) (And.intro (Or.inr rfl) (And.intro (Or.inr rfl) True.intro)))))))) (fun t2 => (VB.one (VO.ret (sub_unE _ _ rfl) VE.bl)))))))⟩
theorem c_is_modulus_1 (G : Gf K mg) : CallOk P w K mg base 2 (He.ga K "is_modulus") ([] : List Str) false (mCall 1 (fun ds _ => ds) m_is_modulus) := by
  obtain ⟨fd, F, O⟩ := k_is_modulus (P := P) (w := w) (base := base) G
  exact callOk O (Bd.plain (F.bindsN fun _ _ _ _ _ _ us hl => match us, hl with | [_], _ => rfl) rfl) (fun ds es h _ => h)
theorem c_is_modulus_0_value (G : Gf K mg) : CallOk P w K mg base 2 (He.ga K "is_modulus") (["value"] : List Str) false (mCall 0 (fun ds es => pick [0] (ds ++ es)) m_is_modulus) := by
  obtain ⟨fd, F, O⟩ := k_is_modulus (P := P) (w := w) (base := base) G
  exact callOk O (Bd.kw F 0 (["value"] : List Str) [0] fun _ _ _ _ _ _ us ws h1 h2 => match us, ws, h1, h2 with | [], [_], _, _ => rfl) (fun ds es h1 h2 => match ds, es, h1, h2 with | [], [_], _, _ => rfl)
/-! ### is_letter -/
def b_is_letter (x0 x1 : D) : M (Out Unit Empty) := (mRet (dAnd (callM (consM (M.pure x0) (M.pure [])) (M.pure []) (mCall 1 (fun ds _ => ds) m_is_number)) (mChain dLe dLt (M.pure (D.int 0)) (M.pure x0) (M.pure x1))))
def m_is_letter : List D → M D
  | [x0, x1] => fin false (b_is_letter x0 x1)
  | _ => M.bad
theorem k_is_letter (G : Gf K mg) : ∃ fd, FnP K "is_letter" s_is_letter (He.ga K "is_letter") fd ∧ FnOk P w K mg base (L2.CX P w) 2 (He.ga K "is_letter") fd (["value", "modulus"] : List Str) (spOf K 2 false m_is_letter) := by
  obtain ⟨fd, F⟩ := G.d_is_letter
  refine ⟨fd, F, VM.fn_ok (n := 2) F sc_is_letter rfl fun ds hl => ?_⟩
  match ds, hl with
  | [x0, x1], _ => exact ⟨b_is_letter x0 x1, rfl, fun cdv A outer s H E hr =>
    (VB.one (VO.ret (sub_unE _ _ rfl) (VE.and (VE.call (c_is_number_1 G) (hr.mono (by decide)) (takes_of rfl rfl rfl rfl) rfl G.g_is_number G.k_is_number (VA.cons (VE.var (pv 0) rfl) VA.nil) VKw.nil len_nil) (VE.and1 (VE.chain op_le sp_le op_lt sp_lt (VE.r VE.int) (VE.r (VE.var (pv 0) rfl)) (VE.r (VE.var (pv 1) rfl)))))))⟩
theorem c_is_letter_0_value_modulus (G : Gf K mg) : CallOk P w K mg base 2 (He.ga K "is_letter") (["value", "modulus"] : List Str) false (mCall 0 (fun ds es => pick [0, 1] (ds ++ es)) m_is_letter) := by
  obtain ⟨fd, F, O⟩ := k_is_letter (P := P) (w := w) (base := base) G
  exact callOk O (Bd.kw F 0 (["value", "modulus"] : List Str) [0, 1] fun _ _ _ _ _ _ us ws h1 h2 => match us, ws, h1, h2 with | [], [_, _], _, _ => rfl) (fun ds es h1 h2 => match ds, es, h1, h2 with | [], [_, _], _, _ => rfl)
theorem c_is_letter_2 (G : Gf K mg) : CallOk P w K mg base 2 (He.ga K "is_letter") ([] : List Str) false (mCall 2 (fun ds _ => ds) m_is_letter) := by
  obtain ⟨fd, F, O⟩ := k_is_letter (P := P) (w := w) (base := base) G
  exact callOk O (Bd.plain (F.bindsN fun _ _ _ _ _ _ us hl => match us, hl with | [_, _], _ => rfl) rfl) (fun ds es h _ => h)
/-! ### _law_like -/
def m__law_like : Nat → List D → M D
  | 0, _ => M.bad
  | n + 1, [x0, x1] => fin false (mIte (((M.pure x1).bind (dIsi "dict")).bind toB) (mIte (mOr (mNot (((M.pure x0).bind (dIsi "dict")).bind toB)) ((b2 dNe ((consM (M.pure x0) (M.pure [])).bind (one1 aLen)) ((consM (M.pure x1) (M.pure [])).bind (one1 aLen))).bind toB)) (mRet (M.pure (D.bl false))) (mRet ((consM (((M.pure x1).bind fun d => ofO (items d)).bind (mkC (turnC (fun d => some d) (fun a1 : D => (M.pure true)) (fun a1 : D => (dAnd M.bad (callM (consM (b2 dGet (M.pure x0) (M.pure a1)) (consM (b2 dGet (M.pure x1) (M.pure a1)) (M.pure []))) (M.pure []) (mCall 2 (fun ds _ => ds) (m__law_like n)))))))) (M.pure [])).bind (one1 aAll)))) (mIte (((M.pure x1).bind (dIsi2 "list" "tuple")).bind toB) (mIte (mOr ((b2 dNe ((M.pure x0).bind (dIsi "list")) ((M.pure x1).bind (dIsi "list"))).bind toB) ((b2 dNe ((M.pure x0).bind (dIsi "tuple")) ((M.pure x1).bind (dIsi "tuple"))).bind toB)) (mRet (M.pure (D.bl false))) (mRet (dAnd (b2 dEq ((consM (M.pure x0) (M.pure [])).bind (one1 aLen)) ((consM (M.pure x1) (M.pure [])).bind (one1 aLen))) ((consM (((M.pure x0).bind fun x => (M.pure x1).bind fun y => aZip x y).bind (mkC (turnC dest2 (fun a2 : D × D => (M.pure true)) (fun a2 : D × D => (callM (consM (M.pure a2.1) (consM (M.pure a2.2) (M.pure []))) (M.pure []) (mCall 2 (fun ds _ => ds) (m__law_like n))))))) (M.pure [])).bind (one1 aAll))))) (mIte (mOr ((b2 dIs (M.pure x1) (M.pure D.non)).bind toB) ((b2 dIs (M.pure x0) (M.pure D.non)).bind toB)) (mRet (dAnd (b2 dIs (M.pure x1) (M.pure D.non)) (b2 dIs (M.pure x0) (M.pure D.non)))) (mIte (mOr ((b2 dNe ((M.pure x0).bind (dIsi "bool")) ((M.pure x1).bind (dIsi "bool"))).bind toB) ((b2 dNe ((M.pure x0).bind (dIsi "int")) ((M.pure x1).bind (dIsi "int"))).bind toB)) (mRet (M.pure (D.bl false))) (mRet (dAnd (b2 dEq ((M.pure x0).bind (dIsi "str")) ((M.pure x1).bind (dIsi "str"))) (b2 dEq (M.pure x0) (M.pure x1))))))))
  | _ + 1, _ => M.bad
theorem k__law_like (G : Gf K mg) : ∃ fd, FnP K "_law_like" s__law_like (He.ga K "_law_like") fd ∧ ∀ n : Nat, FnOk P w K mg base (L2.CX P w) (1 + n) (He.ga K "_law_like") fd (["_law_found", "_law_due"] : List Str) (spOf K 2 false (m__law_like n)) := by
  obtain ⟨fd, F⟩ := G.d__law_like
  refine ⟨fd, F, fun n => ?_⟩
  induction n with
  | zero => exact VM.fn_ok (n := 2) F sc__law_like rfl fun ds hl => ⟨M.bad, by rfl, fun cdv A outer s H E hr => VB.bad⟩
  | succ n ih =>
    have ih_2 : CallOk P w K mg base (1 + n) (He.ga K "_law_like") ([] : List Str) false (mCall 2 (fun ds _ => ds) (m__law_like n)) := callOk ih (Bd.plain (F.bindsN fun _ _ _ _ _ _ us hl => match us, hl with | [_, _], _ => rfl) rfl) (fun ds es h _ => h)
    refine VM.fn_ok (k := 1 + n) (n := 2) F sc__law_like rfl fun ds hl => ?_
    match ds, hl with
    | [x0, x1], _ => exact ⟨_, rfl, fun cdv A outer s H E hr =>
      (VB.guard (sub_unE _ _ rfl) (VT.val (VE.r (VE.isi rfl G.n_isinstance (pe_bltn (v := .ty "dict") (u := .type "dict") rfl G.n_dict (by decide +kernel) rfl) (VE.r (VE.var (pv 1) rfl)))) (fun _ => rfl)) (VB.guard (sub_unE _ _ rfl) (VW.t (VW.or (VT.not (VT.val (VE.r (VE.isi rfl G.n_isinstance (pe_bltn (v := .ty "dict") (u := .type "dict") rfl G.n_dict (by decide +kernel) rfl) (VE.r (VE.var (pv 0) rfl)))) (fun _ => rfl))) (VW.or1 (VT.cmp (op_neD (Room.units hr)) sp_ne (VE.r (VE.callB call_len sp_len rfl G.n_len (by decide +kernel) (VAr.cons (VE.r (VE.var (pv 0) rfl)) VAr.nil))) (VE.r (VE.callB call_len sp_len rfl G.n_len (by decide +kernel) (VAr.cons (VE.r (VE.var (pv 1) rfl)) VAr.nil))) (nomark _))))) (VB.one (VO.ret (sub_unE _ _ rfl) VE.bl)) NoNx.mRet (VB.one (VO.ret (sub_unE _ _ rfl) (VE.callB (cr_all rfl) sp_all rfl G.n_all (by decide +kernel) (VAr.cons (VE.r (VE.ofN (VN.lc (js := [2]) rfl sc__law_like.nd (VI.seq (VE.var (pv 1) rfl)) (blkOk_by (own := [("_law_name", 2)]) (N := N__law_like) (sc := defScope s__law_like) (by decide +kernel)) (un_cons rfl un_nil) (by decide) (fun _ _ _ _ _ => (VG.name (i := 2) sc__law_like.nd rfl (Or.inl rfl))) (fun _ _ _ _ _ a1 => VTs.nil) (fun _ _ _ _ _ a1 => (VE.and VE.bad (VE.and1 (VE.call (ih_2) (hr.mono (Nat.le_refl _)) VM.takes0 rfl G.g__law_like G.k__law_like (VA.cons (VE.get (room1 hr) (VE.r (VE.var (pv 0) rfl)) (VE.r (VE.var (pv 2) rfl)) (fun _ _ => rfl)) (VA.cons (VE.get (room1 hr) (VE.r (VE.var (pv 1) rfl)) (VE.r (VE.var (pv 2) rfl)) (fun _ _ => rfl)) VA.nil)) VKw.nil len_nil))))))) VAr.nil))))) (NoNx.ite NoNx.mRet NoNx.mRet) (VB.guard (sub_unE _ _ rfl) (VT.val (VE.r (VE.isi2 rfl G.n_isinstance (pe_bltn (v := .ty "list") (u := .type "list") rfl G.n_list (by decide +kernel) rfl) (pe_bltn (v := .ty "tuple") (u := .type "tuple") rfl G.n_tuple (by decide +kernel) rfl) (VE.r (VE.var (pv 1) rfl)))) (fun _ => rfl)) (VB.guard (sub_unE _ _ rfl) (VW.t (VW.or (VT.cmp (op_neD (Room.units hr)) sp_ne (VE.r (VE.isi rfl G.n_isinstance (pe_bltn (v := .ty "list") (u := .type "list") rfl G.n_list (by decide +kernel) rfl) (VE.r (VE.var (pv 0) rfl)))) (VE.r (VE.isi rfl G.n_isinstance (pe_bltn (v := .ty "list") (u := .type "list") rfl G.n_list (by decide +kernel) rfl) (VE.r (VE.var (pv 1) rfl)))) (nomark _)) (VW.or1 (VT.cmp (op_neD (Room.units hr)) sp_ne (VE.r (VE.isi rfl G.n_isinstance (pe_bltn (v := .ty "tuple") (u := .type "tuple") rfl G.n_tuple (by decide +kernel) rfl) (VE.r (VE.var (pv 0) rfl)))) (VE.r (VE.isi rfl G.n_isinstance (pe_bltn (v := .ty "tuple") (u := .type "tuple") rfl G.n_tuple (by decide +kernel) rfl) (VE.r (VE.var (pv 1) rfl)))) (nomark _))))) (VB.one (VO.ret (sub_unE _ _ rfl) VE.bl)) NoNx.mRet (VB.one (VO.ret (sub_unE _ _ rfl) (VE.and (VE.cmp (op_eqD (Room.units hr)) sp_eq (VE.r (VE.callB call_len sp_len rfl G.n_len (by decide +kernel) (VAr.cons (VE.r (VE.var (pv 0) rfl)) VAr.nil))) (VE.r (VE.callB call_len sp_len rfl G.n_len (by decide +kernel) (VAr.cons (VE.r (VE.var (pv 1) rfl)) VAr.nil))) (nomark _)) (VE.and1 (VE.callB (cr_all rfl) sp_all rfl G.n_all (by decide +kernel) (VAr.cons (VE.r (VE.ofN (VN.lc (js := [3, 4]) rfl sc__law_like.nd (VI.zip rfl G.n_zip (VE.var (pv 0) rfl) (VE.var (pv 1) rfl)) (blkOk_by (own := [("_law_one", 3), ("_law_other", 4)]) (N := N__law_like) (sc := defScope s__law_like) (by decide +kernel)) (un_cons rfl (un_cons rfl un_nil)) (by decide) (fun _ _ _ _ _ => (VG.tup2 (i := 3) (j := 4) rfl sc__law_like.nd rfl rfl (Or.inl rfl) (Or.inl rfl))) (fun _ _ _ _ _ a2 => VTs.nil) (fun _ _ _ _ _ a2 => (VE.call (ih_2) (hr.mono (Nat.le_refl _)) VM.takes0 rfl G.g__law_like G.k__law_like (VA.cons (VE.var (pv 3) rfl) (VA.cons (VE.var (pv 4) rfl) VA.nil)) VKw.nil len_nil))))) VAr.nil))))))) (NoNx.ite NoNx.mRet NoNx.mRet) (VB.guard (sub_unE _ _ rfl) (VW.t (VW.or (VT.cmp op_isD sp_is (VE.r (VE.var (pv 1) rfl)) (VE.r VE.non) (nomark _)) (VW.or1 (VT.cmp op_isD sp_is (VE.r (VE.var (pv 0) rfl)) (VE.r VE.non) (nomark _))))) (VB.one (VO.ret (sub_unE _ _ rfl) (VE.and (VE.cmp op_isD sp_is (VE.r (VE.var (pv 1) rfl)) (VE.r VE.non) (nomark _)) (VE.and1 (VE.cmp op_isD sp_is (VE.r (VE.var (pv 0) rfl)) (VE.r VE.non) (nomark _)))))) NoNx.mRet (VB.guard (sub_unE _ _ rfl) (VW.t (VW.or (VT.cmp (op_neD (Room.units hr)) sp_ne (VE.r (VE.isi rfl G.n_isinstance (pe_bltn (v := .ty "bool") (u := .type "bool") rfl G.n_bool (by decide +kernel) rfl) (VE.r (VE.var (pv 0) rfl)))) (VE.r (VE.isi rfl G.n_isinstance (pe_bltn (v := .ty "bool") (u := .type "bool") rfl G.n_bool (by decide +kernel) rfl) (VE.r (VE.var (pv 1) rfl)))) (nomark _)) (VW.or1 (VT.cmp (op_neD (Room.units hr)) sp_ne (VE.r (VE.isi rfl G.n_isinstance (pe_bltn (v := .ty "int") (u := .type "int") rfl G.n_int (by decide +kernel) rfl) (VE.r (VE.var (pv 0) rfl)))) (VE.r (VE.isi rfl G.n_isinstance (pe_bltn (v := .ty "int") (u := .type "int") rfl G.n_int (by decide +kernel) rfl) (VE.r (VE.var (pv 1) rfl)))) (nomark _))))) (VB.one (VO.ret (sub_unE _ _ rfl) VE.bl)) NoNx.mRet (VB.one (VO.ret (sub_unE _ _ rfl) (VE.and (VE.cmp (op_eqD (Room.units hr)) sp_eq (VE.r (VE.isi rfl G.n_isinstance (pe_bltn (v := .ty "str") (u := .type "str") rfl G.n_str (by decide +kernel) rfl) (VE.r (VE.var (pv 0) rfl)))) (VE.r (VE.isi rfl G.n_isinstance (pe_bltn (v := .ty "str") (u := .type "str") rfl G.n_str (by decide +kernel) rfl) (VE.r (VE.var (pv 1) rfl)))) (nomark _)) (VE.and1 (VE.cmp (op_eqD (Room.units hr)) sp_eq (VE.r (VE.var (pv 0) rfl)) (VE.r (VE.var (pv 1) rfl)) (nomark _))))))))))⟩
theorem c__law_like_2 (G : Gf K mg) (n : Nat) : CallOk P w K mg base (1 + n) (He.ga K "_law_like") ([] : List Str) false (mCall 2 (fun ds _ => ds) (m__law_like n)) := by
  obtain ⟨fd, F, O⟩ := k__law_like (P := P) (w := w) (base := base) G
  exact callOk (O n) (Bd.plain (F.bindsN fun _ _ _ _ _ _ us hl => match us, hl with | [_, _], _ => rfl) rfl) (fun ds es h _ => h)
/-! ### law -/
def lb_law_1 (v1 : Nat) (a3 : D) (t2 : Unit) : M (Out Unit Unit) := (((b2 dAdd (M.pure (D.int 2)) (callM (consM (M.pure (D.ref v1)) (consM (M.pure (D.int 998)) (M.pure []))) (M.pure []) (mCall 2 (fun ds _ => ds) m__law_pull))).bind fun x => (b2 dAdd (M.pure (D.int 2)) (callM (consM (M.pure (D.ref v1)) (consM (M.pure (D.int 998)) (M.pure []))) (M.pure []) (mCall 2 (fun ds _ => ds) m__law_pull))).bind fun y => M.pure (x, y)).bind fun p4 : D × D => ((callM (consM (M.pure (D.ref v1)) (M.pure [])) (M.pure []) (mCall 1 (fun ds _ => ds) m__law_prime)).bind fun v5 : D => ((callM (consM (M.pure (D.ref v1)) (consM ((consM (b2 dAdd (M.pure v5) (M.pure (D.int 1))) (consM (b2 dSub (M.pure v5) (M.pure (D.int 1))) (consM (b2 dMul (M.pure v5) (M.pure (D.int 2))) (consM (b2 dMul (M.pure p4.1) (M.pure p4.2)) (consM (b2 dAdd (b2 dPow (M.pure (D.int 10)) (M.pure (D.int 29))) (M.pure p4.1)) (consM (b2 dSub (M.pure (D.int 0)) (M.pure v5)) (consM (M.pure (D.int 1)) (consM (M.pure (D.int 0)) (consM (M.pure (D.int 2)) (consM (M.pure (D.int 9973)) (M.pure []))))))))))).bind mkL) (M.pure []))) (M.pure []) (mCall 2 (fun ds _ => ds) m__law_any)).bind fun v6 : D => (mIte (mOr ((callM (consM (b2 dMul (M.pure p4.1) (M.pure p4.2)) (M.pure [])) (M.pure []) (mCall 1 (fun ds _ => ds) m_is_modulus)).bind toB) (mOr ((callM (consM (M.pure v6) (M.pure [])) (M.pure []) (mCall 1 (fun ds _ => ds) m_is_modulus)).bind toB) ((b2 dIsNot (callM (M.pure []) (consM (M.pure v5) (M.pure [])) (mCall 0 (fun ds es => pick [0] (ds ++ es)) m_is_modulus)) (M.pure (D.bl true))).bind toB))) (mRet (M.pure (D.bl false))) (mIte ((b2 dNe ((((consM (M.pure (D.int 0)) (consM (b2 dSub (M.pure v5) (M.pure (D.int 1))) (consM (M.pure v5) (consM (b2 dSub (M.pure (D.int 0)) (M.pure (D.int 1))) (consM (M.pure p4.1) (M.pure [])))))).bind mkT).bind fun d => ofO (items d)).bind (mkC (turnC (fun d => some d) (fun a7 : D => (M.pure true)) (fun a7 : D => (callM (M.pure []) (consM (M.pure a7) (consM (M.pure v5) (M.pure []))) (mCall 0 (fun ds es => pick [0, 1] (ds ++ es)) m_is_letter)))))) ((consM (M.pure (D.bl true)) (consM (M.pure (D.bl true)) (consM (M.pure (D.bl false)) (consM (M.pure (D.bl false)) (consM (M.pure (D.bl true)) (M.pure [])))))).bind mkL)).bind toB) (mRet (M.pure (D.bl false))) (M.pure (Out.next ())))))))
def b_law (x0 : D) : M (Out Unit Empty) := (((callM (consM (M.pure x0) (M.pure [])) (M.pure []) (mCall 1 (fun ds _ => ds) m__law_draws)).bind mAlloc).bind fun v1 : Nat => (seqO (((M.pure (D.int 8)).bind fun d => aRange [d]).bind fun ds => forL (fun d t2 => (ofO ((fun d => some d) d)).bind fun a3 : D => (lb_law_1 v1) a3 t2) ds ()) (fun t2 : Unit => (((consM (M.pure D.non) (consM (M.pure (D.bl true)) (consM (M.pure (D.str "10007")) (consM ((consM (M.pure (D.int 10007)) (M.pure [])).bind mkT) (consM ((consM (M.pure (D.int 10007)) (M.pure [])).bind mkL) (consM ((consP (M.pure (D.int 10007)) (M.pure (D.int 1)) (M.pure [])).bind mkDk) (consM (b2 dAdd (M.pure (D.int 999979)) (M.pure (D.int 21))) (consM (M.pure (D.int 1000003)) (consM (M.pure (D.int 10006)) (consM (b2 dMul (M.pure (D.int 997)) (M.pure (D.int 1003))) (M.pure []))))))))))).bind mkL).bind fun v8 : D => (mIte ((b2 dNe (((M.pure v8).bind fun d => ofO (items d)).bind (mkC (turnC (fun d => some d) (fun a9 : D => (M.pure true)) (fun a9 : D => (callM (consM (M.pure a9) (M.pure [])) (M.pure []) (mCall 1 (fun ds _ => ds) m_is_modulus)))))) (b2 dMul ((consM (M.pure (D.bl false)) (M.pure [])).bind mkL) (M.pure (D.int 10)))).bind toB) (mRet (M.pure (D.bl false))) (mIte ((b2 dNe ((((consM (M.pure D.non) (consM (M.pure (D.bl true)) (consM (M.pure (D.bl false)) (consM (M.pure (D.str "1")) (consM ((consM (M.pure (D.int 1)) (M.pure [])).bind mkT) (consM ((consM (M.pure (D.int 1)) (M.pure [])).bind mkL) (M.pure []))))))).bind mkL).bind fun d => ofO (items d)).bind (mkC (turnC (fun d => some d) (fun a10 : D => (M.pure true)) (fun a10 : D => (callM (consM (M.pure a10) (consM (M.pure (D.int 10007)) (M.pure []))) (M.pure []) (mCall 2 (fun ds _ => ds) m_is_letter)))))) (b2 dMul ((consM (M.pure (D.bl false)) (M.pure [])).bind mkL) (M.pure (D.int 6)))).bind toB) (mRet (M.pure (D.bl false))) (((consM (M.pure (D.int 10007)) (consM (M.pure (D.int 999983)) (consM (callM (consM (M.pure (D.int 999983)) (M.pure [])) (M.pure []) (mCall 1 (fun ds _ => ds) m_is_modulus)) (consM (callM (consM (M.pure (D.int 10007)) (M.pure [])) (M.pure []) (mCall 1 (fun ds _ => ds) m_is_modulus)) (consM (callM (consM (b2 dMul (M.pure (D.int 991)) (M.pure (D.int 997))) (M.pure [])) (M.pure []) (mCall 1 (fun ds _ => ds) m_is_modulus)) (consM (callM (consM (b2 dMul (M.pure (D.int 991)) (M.pure (D.int 991))) (M.pure [])) (M.pure []) (mCall 1 (fun ds _ => ds) m_is_modulus)) (M.pure []))))))).bind mkL).bind fun v11 : D => (mRet (callM (consM (b2 dAdd (M.pure v11) ((consM (callM (consM (b2 dMul (M.pure (D.int 103)) (M.pure (D.int 103))) (M.pure [])) (M.pure []) (mCall 1 (fun ds _ => ds) m_is_modulus)) (M.pure [])).bind mkL)) (consM ((consM (M.pure (D.int 10007)) (consM (M.pure (D.int 999983)) (consM (M.pure (D.bl true)) (consM (M.pure (D.bl true)) (consM (M.pure (D.bl false)) (consM (M.pure (D.bl false)) (consM (M.pure (D.bl false)) (M.pure [])))))))).bind mkL) (M.pure []))) (M.pure []) (mCall 2 (fun ds _ => ds) (m__law_like 3)))))))))))
def m_law : List D → M D
  | [x0] => fin false (b_law x0)
  | _ => M.bad
theorem k_law (G : Gf K mg) : ∃ fd, FnP K "law" s_law (He.ga K "law") fd ∧ FnOk P w K mg base (L2.CX P w) 5 (He.ga K "law") fd (["_law_script"] : List Str) (spOf K 1 false m_law) := by
  obtain ⟨fd, F⟩ := G.d_law
  refine ⟨fd, F, VM.fn_ok (n := 1) F sc_law rfl fun ds hl => ?_⟩
  match ds, hl with
  | [x0], _ => exact ⟨b_law x0, rfl, fun cdv A outer s H E hr =>
    (VB.cons (VS.asgR (i := 1) sc_law.nd rfl (by first | exact Or.inl rfl | exact Or.inr rfl) (sub_unE _ _ rfl) (VN.call (c__law_draws_1 G) (hr.mono (by decide)) (takes_of rfl rfl rfl rfl) rfl G.g__law_draws G.k__law_draws (VA.cons (VE.var (pv 0) rfl) VA.nil) VKw.nil len_nil)) (fun v1 => (VB.consO (vw1 := (fun t2 : Unit => [(SL.dat x0), (SL.dat (D.ref v1)), SL.un, SL.un, SL.un, SL.un, SL.un, SL.un, SL.un, SL.un, SL.un])) (VO.forI (vwL := (fun t2 : Unit => [(SL.dat x0), (SL.dat (D.ref v1)), SL.un, SL.un, SL.un, SL.un, SL.un, SL.un, SL.un, SL.un, SL.un])) (t0 := ()) (passes_of rfl) rfl (And.intro (Or.inr rfl) (And.intro (Or.inr rfl) (And.intro (Or.inl rfl) (And.intro (Or.inl rfl) (And.intro (Or.inl rfl) (And.intro (Or.inl rfl) (And.intro (Or.inl rfl) (And.intro (Or.inl rfl) (And.intro (Or.inl rfl) (And.intro (Or.inl rfl) (And.intro (Or.inl rfl) True.intro))))))))))) (sub_unE _ _ rfl) (VI.range1 rfl G.n_range VE.int) (VG.name (i := 2) sc_law.nd rfl (by first | exact Or.inl rfl | exact Or.inr rfl)) (fun a3 t2 => (VB.cons (VS.par2 (i := 3) (j := 4) rfl sc_law.nd rfl rfl (by decide) rfl rfl (sub_unE _ _ rfl) (VE.bin op_addD sp_add (VE.r VE.int) (VE.r (VE.call (c__law_pull_2 G) (hr.mono (by decide)) (takes_of rfl rfl rfl rfl) rfl G.g__law_pull G.k__law_pull (VA.cons (VE.var (pv 1) rfl) (VA.cons VE.int VA.nil)) VKw.nil len_nil))) (VE.bin op_addD sp_add (VE.r VE.int) (VE.r (VE.call (c__law_pull_2 G) (hr.mono (by decide)) (takes_of rfl rfl rfl rfl) rfl G.g__law_pull G.k__law_pull (VA.cons (VE.var (pv 1) rfl) (VA.cons VE.int VA.nil)) VKw.nil len_nil)))) (fun p4 => (VB.cons (VS.asg (i := 5) sc_law.nd rfl (by first | exact Or.inl rfl | exact Or.inr rfl) (sub_unE _ _ rfl) (VE.call (c__law_prime_1 G) (hr.mono (by decide)) (takes_of rfl rfl rfl rfl) rfl G.g__law_prime G.k__law_prime (VA.cons (VE.var (pv 1) rfl) VA.nil) VKw.nil len_nil)) (fun v5 => (VB.cons (VS.asg (i := 6) sc_law.nd rfl (by first | exact Or.inl rfl | exact Or.inr rfl) (sub_unE _ _ rfl) (VE.call (c__law_any_2 G) (hr.mono (by decide)) (takes_of rfl rfl rfl rfl) rfl G.g__law_any G.k__law_any (VA.cons (VE.var (pv 1) rfl) (VA.cons (VE.ofN (VN.lst (VA.cons (VE.bin op_addD sp_add (VE.r (VE.var (pv 5) rfl)) (VE.r VE.int)) (VA.cons (VE.bin op_sub sp_sub (VE.r (VE.var (pv 5) rfl)) (VE.r VE.int)) (VA.cons (VE.bin op_mulD sp_mul (VE.r (VE.var (pv 5) rfl)) (VE.r VE.int)) (VA.cons (VE.bin op_mulD sp_mul (VE.r (VE.var (pv 3) rfl)) (VE.r (VE.var (pv 4) rfl))) (VA.cons (VE.bin op_addD sp_add (VE.r (VE.bin op_pow sp_pow (VE.r VE.int) (VE.r VE.int))) (VE.r (VE.var (pv 3) rfl))) (VA.cons (VE.bin op_sub sp_sub (VE.r VE.int) (VE.r (VE.var (pv 5) rfl))) (VA.cons VE.int (VA.cons VE.int (VA.cons VE.int (VA.cons VE.int VA.nil)))))))))))) VA.nil)) VKw.nil len_nil)) (fun v6 => (VB.guard (sub_unE _ _ rfl) (VW.t (VW.or (VT.val (VE.r (VE.call (c_is_modulus_1 G) (hr.mono (by decide)) (takes_of rfl rfl rfl rfl) rfl G.g_is_modulus G.k_is_modulus (VA.cons (VE.bin op_mulD sp_mul (VE.r (VE.var (pv 3) rfl)) (VE.r (VE.var (pv 4) rfl))) VA.nil) VKw.nil len_nil)) (fun _ => rfl)) (VW.or (VT.val (VE.r (VE.call (c_is_modulus_1 G) (hr.mono (by decide)) (takes_of rfl rfl rfl rfl) rfl G.g_is_modulus G.k_is_modulus (VA.cons (VE.var (pv 6) rfl) VA.nil) VKw.nil len_nil)) (fun _ => rfl)) (VW.or1 (VT.cmp op_notD sp_isNot (VE.r (VE.call0 (c_is_modulus_0_value G) (hr.mono (by decide)) (takes_of rfl rfl rfl rfl) rfl G.g_is_modulus G.k_is_modulus (VKw.cons (VE.var (pv 5) rfl) VKw.nil) (len_cons len_nil))) (VE.r VE.bl) (nomark _)))))) (VB.one (VO.ret (sub_unE _ _ rfl) VE.bl)) NoNx.mRet (VB.one (VO.ite (sub_unE _ _ rfl) (VT.cmp (op_neD (Room.units hr)) sp_ne (VE.r (VE.ofN (VN.lc (js := [10]) rfl sc_law.nd (VI.seq (VE.tup (VA.cons VE.int (VA.cons (VE.bin op_sub sp_sub (VE.r (VE.var (pv 5) rfl)) (VE.r VE.int)) (VA.cons (VE.var (pv 5) rfl) (VA.cons (VE.bin op_sub sp_sub (VE.r VE.int) (VE.r VE.int)) (VA.cons (VE.var (pv 3) rfl) VA.nil))))))) (blkOk_by (own := [("_law_k", 10)]) (N := N_law) (sc := defScope s_law) (by decide +kernel)) (un_cons rfl un_nil) (by decide) (fun _ _ _ _ _ => (VG.name (i := 10) sc_law.nd rfl (Or.inl rfl))) (fun _ _ _ _ _ a7 => VTs.nil) (fun _ _ _ _ _ a7 => (VE.call0 (c_is_letter_0_value_modulus G) (hr.mono (by decide)) VM.takes0 rfl G.g_is_letter G.k_is_letter (VKw.cons (VE.var (pv 10) rfl) (VKw.cons (VE.var (pv 5) rfl) VKw.nil)) (len_cons (len_cons len_nil))))))) (VE.r (VE.ofN (VN.lst (VA.cons VE.bl (VA.cons VE.bl (VA.cons VE.bl (VA.cons VE.bl (VA.cons VE.bl VA.nil)))))))) (nomark _)) (VB.one (VO.ret (sub_unE _ _ rfl) VE.bl)) (VB.nil (t := ()) (And.intro (Or.inr rfl) (And.intro (Or.inr rfl) (And.intro (Or.inl rfl) (And.intro (Or.inl rfl) (And.intro (Or.inl rfl) (And.intro (Or.inl rfl) (And.intro (Or.inl rfl) (And.intro (Or.inl rfl) (And.intro (Or.inl rfl) (And.intro (Or.inl rfl) (And.intro (Or.inl rfl) True.intro))))))))))))))))))))))) (fun t2 => (VB.cons (VS.asg (i := 7) sc_law.nd rfl (by first | exact Or.inl rfl | exact Or.inr rfl) (sub_unE _ _ rfl) (VE.ofN (VN.lst (VA.cons VE.non (VA.cons VE.bl (VA.cons VE.str (VA.cons (VE.tup (VA.cons VE.int VA.nil)) (VA.cons (VE.ofN (VN.lst (VA.cons VE.int VA.nil))) (VA.cons (VE.ofN (VN.dict (VPs.cons VE.int VE.int VPs.nil) rfl rfl (by simp) (by decide))) (VA.cons (VE.bin op_addD sp_add (VE.r VE.int) (VE.r VE.int)) (VA.cons VE.int (VA.cons VE.int (VA.cons (VE.bin op_mulD sp_mul (VE.r VE.int) (VE.r VE.int)) VA.nil))))))))))))) (fun v8 => (VB.guard (sub_unE _ _ rfl) (VT.cmp (op_neD (Room.units hr)) sp_ne (VE.r (VE.ofN (VN.lc (js := [9]) rfl sc_law.nd (VI.seq (VE.var (pv 7) rfl)) (blkOk_by (own := [("_law_thing", 9)]) (N := N_law) (sc := defScope s_law) (by decide +kernel)) (un_cons rfl un_nil) (by decide) (fun _ _ _ _ _ => (VG.name (i := 9) sc_law.nd rfl (Or.inl rfl))) (fun _ _ _ _ _ a9 => VTs.nil) (fun _ _ _ _ _ a9 => (VE.call (c_is_modulus_1 G) (hr.mono (by decide)) VM.takes0 rfl G.g_is_modulus G.k_is_modulus (VA.cons (VE.var (pv 9) rfl) VA.nil) VKw.nil len_nil))))) (VE.r (VE.bin op_mulD sp_mul (VE.r (VE.ofN (VN.lst (VA.cons VE.bl VA.nil)))) (VE.r VE.int))) (nomark _)) (VB.one (VO.ret (sub_unE _ _ rfl) VE.bl)) NoNx.mRet (VB.guard (sub_unE _ _ rfl) (VT.cmp (op_neD (Room.units hr)) sp_ne (VE.r (VE.ofN (VN.lc (js := [9]) rfl sc_law.nd (VI.seq (VE.ofN (VN.lst (VA.cons VE.non (VA.cons VE.bl (VA.cons VE.bl (VA.cons VE.str (VA.cons (VE.tup (VA.cons VE.int VA.nil)) (VA.cons (VE.ofN (VN.lst (VA.cons VE.int VA.nil))) VA.nil))))))))) (blkOk_by (own := [("_law_thing", 9)]) (N := N_law) (sc := defScope s_law) (by decide +kernel)) (un_cons rfl un_nil) (by decide) (fun _ _ _ _ _ => (VG.name (i := 9) sc_law.nd rfl (Or.inl rfl))) (fun _ _ _ _ _ a10 => VTs.nil) (fun _ _ _ _ _ a10 => (VE.call (c_is_letter_2 G) (hr.mono (by decide)) VM.takes0 rfl G.g_is_letter G.k_is_letter (VA.cons (VE.var (pv 9) rfl) (VA.cons VE.int VA.nil)) VKw.nil len_nil))))) (VE.r (VE.bin op_mulD sp_mul (VE.r (VE.ofN (VN.lst (VA.cons VE.bl VA.nil)))) (VE.r VE.int))) (nomark _)) (VB.one (VO.ret (sub_unE _ _ rfl) VE.bl)) NoNx.mRet (VB.cons (VS.asg (i := 8) sc_law.nd rfl (by first | exact Or.inl rfl | exact Or.inr rfl) (sub_unE _ _ rfl) (VE.ofN (VN.lst (VA.cons (VE.con (pe_glob (v := .int (10007)) rfl (G.v_LEAST_MODULUS).choose_spec ⟨_, rfl⟩) (fun _ _ => by simp only [rep])) (VA.cons (VE.con (pe_glob (v := .int (999983)) rfl (G.v_GREATEST_MODULUS).choose_spec ⟨_, rfl⟩) (fun _ _ => by simp only [rep])) (VA.cons (VE.call (c_is_modulus_1 G) (hr.mono (by decide)) (takes_of rfl rfl rfl rfl) rfl G.g_is_modulus G.k_is_modulus (VA.cons VE.int VA.nil) VKw.nil len_nil) (VA.cons (VE.call (c_is_modulus_1 G) (hr.mono (by decide)) (takes_of rfl rfl rfl rfl) rfl G.g_is_modulus G.k_is_modulus (VA.cons VE.int VA.nil) VKw.nil len_nil) (VA.cons (VE.call (c_is_modulus_1 G) (hr.mono (by decide)) (takes_of rfl rfl rfl rfl) rfl G.g_is_modulus G.k_is_modulus (VA.cons (VE.bin op_mulD sp_mul (VE.r VE.int) (VE.r VE.int)) VA.nil) VKw.nil len_nil) (VA.cons (VE.call (c_is_modulus_1 G) (hr.mono (by decide)) (takes_of rfl rfl rfl rfl) rfl G.g_is_modulus G.k_is_modulus (VA.cons (VE.bin op_mulD sp_mul (VE.r VE.int) (VE.r VE.int)) VA.nil) VKw.nil len_nil) VA.nil))))))))) (fun v11 => (VB.one (VO.ret (sub_unE _ _ rfl) (VE.call (c__law_like_2 G 3) (hr.mono (by decide)) (takes_of rfl rfl rfl rfl) rfl G.g__law_like G.k__law_like (VA.cons (VE.bin op_addD sp_add (VE.r (VE.var (pv 8) rfl)) (VE.r (VE.ofN (VN.lst (VA.cons (VE.call (c_is_modulus_1 G) (hr.mono (by decide)) (takes_of rfl rfl rfl rfl) rfl G.g_is_modulus G.k_is_modulus (VA.cons (VE.bin op_mulD sp_mul (VE.r VE.int) (VE.r VE.int)) VA.nil) VKw.nil len_nil) VA.nil))))) (VA.cons (VE.ofN (VN.lst (VA.cons VE.int (VA.cons VE.int (VA.cons VE.bl (VA.cons VE.bl (VA.cons VE.bl (VA.cons VE.bl (VA.cons VE.bl VA.nil))))))))) VA.nil)) VKw.nil len_nil)))))))))))))⟩
end
end WK
set_option maxHeartbeats 0
namespace WK
open PySem PySem.Spec PyProof.Rows L2 VM
def fn : List He.DefD := [
⟨("_law_draws", none), "_law_draws", "_law_draws", defArgs s__law_draws, defBody s__law_draws, defScope s__law_draws, [], []⟩,
⟨("_law_pull", none), "_law_pull", "_law_pull", defArgs s__law_pull, defBody s__law_pull, defScope s__law_pull, [], []⟩,
⟨("_law_any", none), "_law_any", "_law_any", defArgs s__law_any, defBody s__law_any, defScope s__law_any, [], []⟩,
⟨("_law_prime", none), "_law_prime", "_law_prime", defArgs s__law_prime, defBody s__law_prime, defScope s__law_prime, [], []⟩,
⟨("is_number", none), "is_number", "is_number", defArgs s_is_number, defBody s_is_number, defScope s_is_number, [], []⟩,
⟨("is_modulus", none), "is_modulus", "is_modulus", defArgs s_is_modulus, defBody s_is_modulus, defScope s_is_modulus, [], []⟩,
⟨("is_letter", none), "is_letter", "is_letter", defArgs s_is_letter, defBody s_is_letter, defScope s_is_letter, [], []⟩,
⟨("_law_like", none), "_law_like", "_law_like", defArgs s__law_like, defBody s__law_like, defScope s__law_like, [], []⟩,
⟨("law", none), "law", "law", defArgs s_law, defBody s_law, defScope s_law, [], []⟩]
def fa : List He.Fa := [.glo "law", .glo "_law_draws", .glo "_law_pull", .glo "_law_any", .glo "_law_prime", .glo "is_number", .glo "is_modulus", .glo "is_letter", .glo "_law_like", .free "list", .free "range", .free "len", .free "int", .free "isinstance", .free "bool", .free "dict", .free "all", .free "tuple", .free "zip", .free "str", .int "LEAST_MODULUS" (10007), .int "GREATEST_MODULUS" (999983)]
def loose : List PySem.Str := (["LEAST_MODULUS", "GREATEST_MODULUS", "is_number", "is_modulus", "is_letter", "_law_draws", "_law_pull", "_law_any", "_law_like", "_law_prime"] : List PySem.Str)
abbrev R : PySem.W.OpenRow := PySem.W.OpenLaw.row PySem.Challenge.rw_mendworth_k02_moduli_and_letters
abbrev hk : PySem.W.Hook := He.hookD 6 fa fn
def ob (s : PySem.W.SharedT) : He.AlD := He.obsDG 6 fa fn (HandSHeadRun.getT s)
theorem ob_eq (s : PySem.W.SharedT) : ob s = hk.obs s.abs := He.obsDG_eq (HandSHeadRun.getT_eq s)
theorem run (w : World) : HandSHeadRun.RunEq R (PySem.W.view R.prog [12]) hk ob 2000 loose w := by
  intro os
  kernel_rfl
theorem gf {K : PySem.W.Frag} {h : Heap} {mg : Str → Option Value} (X : K.In h) (G : h.Ns mainGlobals mg) (c : He.SaysD fa fn K) : Gf K mg where
  d__law_draws := c.def_ 0 rfl
  d__law_pull := c.def_ 1 rfl
  d__law_any := c.def_ 2 rfl
  d__law_prime := c.def_ 3 rfl
  d_is_number := c.def_ 4 rfl
  d_is_modulus := c.def_ 5 rfl
  d_is_letter := c.def_ 6 rfl
  d__law_like := c.def_ 7 rfl
  d_law := c.def_ 8 rfl
  g__law_draws := He.glo_ok X G (c.fact 1 (f := .glo "_law_draws") rfl)
  g__law_pull := He.glo_ok X G (c.fact 2 (f := .glo "_law_pull") rfl)
  g__law_any := He.glo_ok X G (c.fact 3 (f := .glo "_law_any") rfl)
  g__law_prime := He.glo_ok X G (c.fact 4 (f := .glo "_law_prime") rfl)
  g_is_number := He.glo_ok X G (c.fact 5 (f := .glo "is_number") rfl)
  g_is_modulus := He.glo_ok X G (c.fact 6 (f := .glo "is_modulus") rfl)
  g_is_letter := He.glo_ok X G (c.fact 7 (f := .glo "is_letter") rfl)
  g__law_like := He.glo_ok X G (c.fact 8 (f := .glo "_law_like") rfl)
  n_list := He.free_ok X G (c.fact 9 (f := .free "list") rfl)
  n_range := He.free_ok X G (c.fact 10 (f := .free "range") rfl)
  n_len := He.free_ok X G (c.fact 11 (f := .free "len") rfl)
  n_int := He.free_ok X G (c.fact 12 (f := .free "int") rfl)
  n_isinstance := He.free_ok X G (c.fact 13 (f := .free "isinstance") rfl)
  n_bool := He.free_ok X G (c.fact 14 (f := .free "bool") rfl)
  n_dict := He.free_ok X G (c.fact 15 (f := .free "dict") rfl)
  n_all := He.free_ok X G (c.fact 16 (f := .free "all") rfl)
  n_tuple := He.free_ok X G (c.fact 17 (f := .free "tuple") rfl)
  n_zip := He.free_ok X G (c.fact 18 (f := .free "zip") rfl)
  n_str := He.free_ok X G (c.fact 19 (f := .free "str") rfl)
  v_LEAST_MODULUS := He.int_ok X G (c.fact 20 (f := .int "LEAST_MODULUS" (10007)) rfl)
  v_GREATEST_MODULUS := He.int_ok X G (c.fact 21 (f := .int "GREATEST_MODULUS" (999983)) rfl)
end WK
open PySem PySem.W PySem.Calls PyProof.Rows
theorem WK.ends (hm : ∀ ns : List Int, ns.length ≤ 63 → ∃ S', WK.m_law [.scr ns] [] = .ok (.bl true) S') : PySem.Challenge.rw_mendworth_k02_moduli_and_letters.Holds := by
  w_on; o_law
  refine HandSHeadRun.head_any (r := OpenLaw.row PySem.Challenge.rw_mendworth_k02_moduli_and_letters) (q := view (OpenLaw.row PySem.Challenge.rw_mendworth_k02_moduli_and_letters).prog [12]) (H := WK.hk) (ob := WK.ob) (M := 2000) (loose := WK.loose) (d := HandSHeadRun.topDef (OpenLaw.row PySem.Challenge.rw_mendworth_k02_moduli_and_letters).prog 12) (kwd := []) WK.ob_eq
    (by kernel_rfl) (fun s => by kernel_rfl) WK.run (by kernel_rfl) (by kernel_rfl) (by kernel_rfl) (by rfl) (by first | assumption | decide +kernel) (by decide +kernel) ⟨rfl, rfl, rfl, rfl, rfl, by decide +kernel⟩ ?hw ?hc
  case hw => w_witness2
  case hc =>
    refine VM.walk_ofV (l := PySem.Challenge.rw_mendworth_k02_moduli_and_letters) (n := 63) (k := 5) (x := "_law_script") (m := WK.m_law) rfl (by decide) (by kernel_rfl) ⟨rfl, by decide, by decide⟩ ?F hm
    intro w mg fa h Y G hmg0
    obtain ⟨K, KX, c⟩ := Y
    have hmg : mg ("law" : PySem.Str) = some (.ref fa) := by
      have e : (HandSHeadRun.topDef (OpenLaw.row PySem.Challenge.rw_mendworth_k02_moduli_and_letters).prog 12).name = ("law" : PySem.Str) := by kernel_rfl
      rw [← e]
      exact hmg0
    have e := hmg.symm.trans (He.glo_ok KX G (c.fact 0 (f := .glo "law") rfl))
    cases e
    have gf := WK.gf KX G c
    obtain ⟨fd, F, _⟩ := WK.k_law (P := (PySem.Challenge.rw_mendworth_k02_moduli_and_letters).prog) (w := w) (base := h) gf
    have b := L2.FunD.bindsA (ps := ["_law_script"]) F fun _ _ _ _ _ _ us hl => match us, hl with | [_], _ => rfl
    refine ⟨K, fd, KX, fun s v => b s [v] rfl, fun base _ _ => ?_⟩
    obtain ⟨fd2, F2, O2⟩ := WK.k_law (P := (PySem.Challenge.rw_mendworth_k02_moduli_and_letters).prog) (w := w) (base := base) gf
    obtain ⟨_, _, _, _, _, _, _, _, _, _, e1, l1, _⟩ := F.ex
    obtain ⟨_, _, _, _, _, _, _, _, _, _, e2, l2, _⟩ := F2.ex
    have e := l1.symm.trans l2
    cases e
    exact O2
namespace WK
open PySem PySem.Spec PyProof.Rows L2 VM
theorem pull_ok : Draws m__law_pull := draws_of (cA := 43019) (p1 := 2147483269) (cB := 51197) (cC := 73) (p2 := 2147483399) (cE := 37991) (cF := 1299689) (cG := 70489) (cH := 83) (p3 := 7919) (cI := 67) ⟨by decide⟩ fun x y => rfl
section
variable {S : Store}
theorem num_int (i : Int) : m_is_number [.int i] S = .ok (.bl true) S := rfl
/-- trial division -/
def mW (v : Int) (n : Nat) (d : D) : M (Out D Empty) := whileM (fun t2 : D => ((b2 dLe (b2 dMul (M.pure t2) (M.pure t2)) (M.pure (.int v))).bind toB)) (fun t2 : D => (mIte ((b2 dEq (b2 dMod (M.pure (.int v)) (M.pure t2)) (M.pure (D.int 0))).bind toB) (mRet (M.pure (D.bl false))) (((M.pure (D.int 1)).bind (dIAdd t2)).bind fun v3 : D => (M.pure (Out.next v3))))) n d
theorem mW_ok (v : Int) (h1 : v ≤ 999983) : ∀ (n : Nat) (d : Int), 2 ≤ d → d ≤ 1001 → 1001 < d + n →
    ∃ o, mW v n (.int d) S = .ok o S ∧ ((o = .ret (.bl false) ∧ ∃ e, d ≤ e ∧ e * e ≤ v ∧ v % e = 0) ∨ (∃ t, o = .next t ∧ ∀ e, d ≤ e → e * e ≤ v → v % e ≠ 0))
  | 0, d, h2, h3, h4 => by omega
  | n + 1, d, h2, h3, h4 => by
    have q : CMulW d d := mul_ok (by omega) (by omega) (by omega) (by omega)
    have qd : (0 : Int) < d := by omega
    show ∃ o, ((((b2 dLe (b2 dMul (M.pure (.int d)) (M.pure (.int d))) (M.pure (.int v))).bind toB)).bind fun k => if k = true then ((mIte ((b2 dEq (b2 dMod (M.pure (.int v)) (M.pure (.int d))) (M.pure (D.int 0))).bind toB) (mRet (M.pure (D.bl false))) (((M.pure (D.int 1)).bind (dIAdd (.int d))).bind fun v3 : D => (M.pure (Out.next v3))))).bind (contL (mW v n)) else M.pure (.next (.int d))) S = .ok o S ∧ _
    by_cases hd : d * d ≤ v
    · by_cases hm : v % d = 0
      · refine ⟨.ret (.bl false), ?_, .inl ⟨rfl, d, Int.le_refl _, hd, hm⟩⟩
        simp [dLe, dMul, dMod, dEq, dInt2, q, hd, hm, qd, contL]
      · have hd3 : d ≤ 1000 := by
          by_cases hh : d ≤ 1000
          · exact hh
          · have e : d = 1001 := by omega
            subst e; omega
        obtain ⟨o, e, r⟩ := mW_ok v h1 n (d + 1) (by omega) (by omega) (by omega)
        refine ⟨o, ?_, ?_⟩
        · simp [dLe, dMul, dMod, dEq, dInt2, q, hd, hm, qd, contL, dIAdd, e]
        · rcases r with ⟨r1, x, r2, r3, r4⟩ | ⟨t, r1, r2⟩
          · exact .inl ⟨r1, x, by omega, r3, r4⟩
          · refine .inr ⟨t, r1, fun x hx hx2 => ?_⟩
            by_cases ex : x = d
            · rw [ex]; exact hm
            · exact r2 x (by omega) hx2
    · refine ⟨.next (.int d), ?_, .inr ⟨_, rfl, fun x hx hx2 => ?_⟩⟩
      · simp [dLe, dMul, dInt2, q, hd]
      · have : d * d ≤ x * x := Int.mul_le_mul hx hx (by omega) (by omega)
        omega
theorem mod_eq (v : Int) : m_is_modulus [.int v] = fin false (mIte (mOr (mNot ((callM (consM (M.pure (.int v)) (M.pure [])) (M.pure []) (mCall 1 (fun ds _ => ds) m_is_number)).bind toB)) (mNot ((mChain dLe dLe (M.pure (D.int 10007)) (M.pure (.int v)) (M.pure (D.int 999983))).bind toB))) (mRet (M.pure (D.bl false))) ((M.pure (D.int 2)).bind fun v1 : D => (seqO (mW v 1000000 v1) (fun t2 : D => (mRet (M.pure (D.bl true))))))) := rfl
theorem mod_ok (v : Int) : ∃ b, m_is_modulus [.int v] S = .ok (.bl b) S ∧ (b = true ↔ 10007 ≤ v ∧ v ≤ 999983 ∧ ∀ e, 2 ≤ e → e * e ≤ v → v % e ≠ 0) := by
  by_cases h1 : 10007 ≤ v
  · by_cases h2 : v ≤ 999983
    · obtain ⟨o, e, r⟩ := mW_ok (S := S) v h2 1000000 2 (by omega) (by omega) (by omega)
      rcases r with ⟨r1, x, r2, r3, r4⟩ | ⟨t, r1, r2⟩
      · refine ⟨false, ?_, by constructor; (intro z; cases z); exact fun z => absurd r4 (z.2.2 x r2 r3)⟩
        subst r1
        simp [mod_eq, num_int, mChain, dLe, dInt2, h1, h2, e]
      · refine ⟨true, ?_, by constructor; exact fun _ => ⟨h1, h2, r2⟩; exact fun _ => rfl⟩
        subst r1
        simp [mod_eq, num_int, mChain, dLe, dInt2, h1, h2, e]
    · refine ⟨false, ?_, by constructor; (intro z; cases z); exact fun z => absurd z.2.1 h2⟩
      simp [mod_eq, num_int, mChain, dLe, dInt2, h1, h2]
  · refine ⟨false, ?_, by constructor; (intro z; cases z); exact fun z => absurd z.1 h1⟩
    simp [mod_eq, num_int, mChain, dLe, dInt2, h1]
theorem mod_comp (a c : Int) (ha : 2 ≤ a) (hc : 2 ≤ c) : m_is_modulus [.int (a * c)] S = .ok (.bl false) S := by
  obtain ⟨b, e, h⟩ := mod_ok (S := S) (a * c)
  cases b with
  | false => exact e
  | true =>
    obtain ⟨_, _, z⟩ := h.mp rfl
    by_cases hac : a ≤ c
    · exact absurd (Int.mul_emod_right a c) (z a ha (Int.mul_le_mul_of_nonneg_left hac (by omega)))
    · exact absurd (Int.mul_emod_left a c) (z c hc (Int.mul_le_mul_of_nonneg_right (by omega) (by omega)))
theorem mod_big (v : Int) (h : 999983 < v ∨ v < 10007) : m_is_modulus [.int v] S = .ok (.bl false) S := by
  obtain ⟨b, e, z⟩ := mod_ok (S := S) v
  cases b with
  | false => exact e
  | true => have := z.mp rfl; omega
theorem mod_div (v e : Int) (h2 : 2 ≤ e) (h3 : e * e ≤ v) (h4 : v % e = 0) : m_is_modulus [.int v] S = .ok (.bl false) S := by
  obtain ⟨b, q, z⟩ := mod_ok (S := S) v
  cases b with
  | false => exact q
  | true => exact absurd h4 ((z.mp rfl).2.2 e h2 h3)
theorem small_of (v : Int) (h : (List.range 1000).all (fun n => n < 2 || decide (v % (n : Int) ≠ 0) || decide (v < n * n)) = true) (hv : v ≤ 999983) : ∀ e : Int, 2 ≤ e → e * e ≤ v → v % e ≠ 0 := fun e h2 h3 => by
  have he : e < 1000 := by
    by_cases hh : e < 1000
    · exact hh
    · have : 1000 * 1000 ≤ e * e := Int.mul_le_mul (by omega) (by omega) (by omega) (by omega)
      omega
  have := List.all_eq_true.mp h e.toNat (List.mem_range.mpr (by omega))
  have e1 : ((e.toNat : Nat) : Int) = e := by omega
  rw [e1] at this
  simp only [Bool.or_eq_true, decide_eq_true_eq] at this
  rcases this with (z | z) | z
  · omega
  · exact z
  · omega
def primes : List Int := [10007, 10007, 10009, 65537, 104729, 999983]
theorem mod_prime (p : Int) (h : p ∈ primes) : m_is_modulus [.int p] S = .ok (.bl true) S := by
  obtain ⟨b, e, z⟩ := mod_ok (S := S) p
  have : b = true := z.mpr (by
    unfold primes at h
    simp only [List.mem_cons, List.not_mem_nil, or_false] at h
    rcases h with rfl | rfl | rfl | rfl | rfl | rfl <;> exact ⟨by decide, by decide, small_of _ (by decide +kernel) (by decide)⟩)
  rw [this] at e
  exact e
theorem any_ok (x y : D) : m__law_any [x, y] = fin false (anyM m__law_pull x y) := rfl
def St (b : Bag) : Store := ([none] : Store).set 0 (some b.d)
theorem prime_ok {b : Bag} {m : Nat} (hb : b.Ok (m + 1)) : ∃ (p : Int) (b' : Bag), m__law_prime [.ref 0] (St b) = .ok (.int p) (St b') ∧ p ∈ primes ∧ b'.Ok m := by
  obtain ⟨i, x, b', e, hx, ok⟩ := any_run pull_ok (S := [none]) (k := 0) (l := primes.map .int) (by decide) hb (by decide) (by decide)
  rw [List.getElem?_map] at hx
  cases hp : primes[i]? with
  | none => rw [hp] at hx; cases hx
  | some p =>
    rw [hp] at hx; cases hx
    refine ⟨p, b', ?_, List.mem_of_getElem? hp, ok⟩
    have z : (6 : Nat) ≤ sizeLine := by rw [sizeLine_eq]; omega
    have e2 : m__law_any [.ref 0, .lst [.int 10007, .int 10007, .int 10009, .int 65537, .int 104729, .int 999983]] (St b) = .ok (.int p) (St b') := e
    simp [m__law_prime, b__law_prime, mkL, e2, z]
/-- is_letter of numbers -/
theorem letter_ok (v p : Int) : m_is_letter [.int v, .int p] S = .ok (.bl (decide (0 ≤ v ∧ v < p))) S := by
  by_cases h1 : 0 ≤ v
  · simp [m_is_letter, b_is_letter, num_int, mChain, dLe, dLt, dInt2, h1]
  · simp [m_is_letter, b_is_letter, num_int, mChain, dLe, dLt, dInt2, h1]
theorem turn {b : Bag} {n : Nat} {d : D} (hb : b.Ok (4 * (n + 1))) : ∃ b' : Bag, lb_law_1 0 d () (St b) = .ok (.next ()) (St b') ∧ b'.Ok (4 * n) := by
  obtain ⟨r1, b1, e1, f1, g1, h1⟩ := pull_ok.run (S := [none]) (k := 0) (many := 998) (m := 4 * n + 3) (by decide) hb (by decide) (by decide)
  obtain ⟨r2, b2, e2, f2, g2, h2⟩ := pull_ok.run (S := [none]) (k := 0) (many := 998) (m := 4 * n + 2) (by decide) h1 (by decide) (by decide)
  obtain ⟨p, b3, e3, hp, h3⟩ := prime_ok h2
  have hp2 : 10007 ≤ p ∧ p ≤ 999983 := by
    unfold primes at hp
    simp only [List.mem_cons, List.not_mem_nil, or_false] at hp
    omega
  obtain ⟨i, x, b4, e4, hx, h4⟩ := any_run pull_ok (S := [none]) (k := 0) (l := ([p + 1, p - 1, p * 2, (2 + r1) * (2 + r2), 100000000000000000000000000000 + (2 + r1), -p, 1, 0, 2, 9973] : List Int).map .int) (by decide) h3 (by simp) (by simp)
  rw [List.getElem?_map] at hx
  cases hq : ([p + 1, p - 1, p * 2, (2 + r1) * (2 + r2), 100000000000000000000000000000 + (2 + r1), -p, 1, 0, 2, 9973] : List Int)[i]? with
  | none => rw [hq] at hx; cases hx
  | some y =>
    rw [hq] at hx; cases hx
    have hm := List.mem_of_getElem? hq
    have near : ∀ S : Store, m_is_modulus [.int y] S = .ok (.bl false) S := fun S => by
      simp only [List.mem_cons, List.not_mem_nil, or_false] at hm
      rcases hm with rfl | rfl | rfl | rfl | rfl | rfl | rfl | rfl | rfl | rfl
      · have : (p + 1) % 2 = 0 := by
          unfold primes at hp
          simp only [List.mem_cons, List.not_mem_nil, or_false] at hp
          omega
        exact mod_div _ 2 (by decide) (by omega) this
      · have : (p - 1) % 2 = 0 := by
          unfold primes at hp
          simp only [List.mem_cons, List.not_mem_nil, or_false] at hp
          omega
        exact mod_div _ 2 (by decide) (by omega) this
      · exact mod_comp p 2 (by omega) (by decide)
      · exact mod_comp _ _ (by omega) (by omega)
      · exact mod_big _ (.inl (by omega))
      · exact mod_big _ (.inr (by omega))
      · exact mod_big _ (.inr (by omega))
      · exact mod_big _ (.inr (by omega))
      · exact mod_big _ (.inr (by omega))
      · exact mod_big _ (.inr (by omega))
    refine ⟨b4, ?_, h4⟩
    have e1' : m__law_pull [.ref 0, .int 998] (St b) = .ok (.int r1) (St b1) := e1
    have e2' : m__law_pull [.ref 0, .int 998] (St b1) = .ok (.int r2) (St b2) := e2
    have e4' : m__law_any [.ref 0, .lst [.int (p + 1), .int (p - 1), .int (p * 2), .int ((2 + r1) * (2 + r2)), .int (100000000000000000000000000000 + (2 + r1)), .int (-p), .int 1, .int 0, .int 2, .int 9973]] (St b3) = .ok (.int y) (St b4) := e4
    have c1 := mod_comp (S := St b4) (2 + r1) (2 + r2) (by omega) (by omega)
    have c2 := mod_prime (S := St b4) p hp
    have z : (10 : Nat) ≤ sizeLine := by rw [sizeLine_eq]; omega
    have z5 : (5 : Nat) ≤ sizeLine := by rw [sizeLine_eq]; omega
    have m1 : CMulW p 2 := mul_ok (by omega) (by omega) (by decide) (by decide)
    have m2 : CMulW (2 + r1) (2 + r2) := mul_ok (by omega) (by omega) (by omega) (by omega)
    have m3 : CPow 10 29 := ⟨by decide, by decide, by decide⟩
    have k1 := near (St b4)
    have d1 : (0 : Int) < p := by omega
    have d2 : (1 : Int) ≤ p := by omega
    have d3 : 2 + r1 < p := by omega
    have d4 : (0 : Int) ≤ 2 + r1 := by omega
    have d5 : p - 1 < p := by omega
    have d6 : ¬ p < p := by omega
    have qq : ∀ S : Store, (aNe (.lst [.bl true, .bl true, .bl false, .bl false, .bl true]) (.lst [.bl true, .bl true, .bl false, .bl false, .bl true])) S = .ok (.bl false) S := fun S => rfl
    simp [lb_law_1, e1', e2', e3, e4', c1, c2, k1, dAdd, dSub, dMul, dPow, dInt2, mkL, z, m1, m2, m3, pick]
    simp [dAdd, dSub, dMul, dPow, dInt2, z, z5, letter_ok, d1, d2, d3, d4, d5, d6, pick]
    rfl
theorem main (ns : List Int) (hl : ns.length ≤ 63) : ∃ S', m_law [.scr ns] [] = .ok (.bl true) S' := by
  obtain ⟨b, e, hb⟩ := draws_run (cN := 63) (cS := 10045) (S := []) (by decide) (by decide) hl
  have e1 : m__law_draws [.scr ns] [] = .ok b.d [] := e
  obtain ⟨t, S1, e2, b1, _, e3⟩ := forL_ok (β := Empty) (f := fun d t2 => (ofO ((fun d => some d) d)).bind fun a3 : D => lb_law_1 0 a3 t2) (fun n _ S => ∃ b : Bag, b.Ok (4 * n) ∧ S = St b) (rangeD 0 8) 0 () (St b) ⟨b, hb _ (by decide), rfl⟩ (fun n d t S _ ⟨b, h, e⟩ => by
    subst e
    obtain ⟨b', e, h'⟩ := turn (d := d) h
    exact ⟨(), St b', .inl e, b', h', rfl⟩)
  subst e3
  refine ⟨St b1, fin_to (bind_to (a := 0) (S' := St b) ?_ (seqO_to (bind_to (a := rangeD 0 8) rfl e2) ?_))⟩
  · simp [e1]; rfl
  · kernel_rfl
end
end WK

theorem PySem.Challenge.cw_mendworth_k02_moduli_and_letters_holds : PySem.Challenge.rw_mendworth_k02_moduli_and_letters.Holds := by
  exact WK.ends WK.main
