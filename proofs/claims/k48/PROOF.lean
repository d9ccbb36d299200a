import PyProof.Rows.All
import PySem.Challenge.RW_lectern_k48_places_exactly
import HandS.ForMost
import HandS.TupAny
import HandS.Deep
import HandS.DictComp
import HandS.IsInst
import HandS.Style
set_option Elab.async false
set_option linter.all false
set_option maxRecDepth 100000
set_option maxHeartbeats 1000000
/-! Fn0: values by data (G), a store of lists and dicts (Sto), how they lie in the abstract heap of the hand layer. -/
namespace FL
open PySem L2

inductive G where
  | non | bl (b : Bool) | int (i : Int) | str (x : Str) | tup (xs : List G) | loc (n : Nat)
inductive C where
  | lst (xs : List G) | dic (kvs : List (Key × G)) | ro (xs : List G) | kro (xs : List G)
abbrev Sto := List C
abbrev Sl := List (Option G)

mutual
inductive RG (K : PySem.W.Frag) (φ : List Addr) (H : Hp) : G → V → Prop
  | non : RG K φ H .non .non
  | bl (b : Bool) : RG K φ H (.bl b) (.bl b)
  | int (i : Int) : RG K φ H (.int i) (.int i)
  | str (x : Str) : RG K φ H (.str x) (.str x)
  | tup {a : Addr} {vs : List V} {gs : List G} : SqT K H a vs → RGs K φ H gs vs → RG K φ H (.tup gs) (.ref a)
  | loc {n : Nat} {a : Addr} : φ[n]? = some a → RG K φ H (.loc n) (.ref a)
inductive RGs (K : PySem.W.Frag) (φ : List Addr) (H : Hp) : List G → List V → Prop
  | nil : RGs K φ H [] []
  | cons {g : G} {gs : List G} {v : V} {vs : List V} : RG K φ H g v → RGs K φ H gs vs → RGs K φ H (g :: gs) (v :: vs)
end

/-- what stays: tuples and locked things -/
structure Keep (H H' : Hp) : Prop where
  tups : ∀ b xs, H b = some (.tup xs) → H' b = some (.tup xs)
  frzs : ∀ b o u, H b = some (.frz o u) → H' b = some (.frz o u)
theorem Keep.refl (H : Hp) : Keep H H := ⟨fun _ _ h => h, fun _ _ _ h => h⟩
theorem Keep.trans {H H1 H2 : Hp} (a : Keep H H1) (b : Keep H1 H2) : Keep H H2 := ⟨fun c xs h => b.tups c xs (a.tups c xs h), fun c o u h => b.frzs c o u (a.frzs c o u h)⟩
theorem Keep.new {H : Hp} {p : Addr} {o : HO} (h : H p = none) : Keep H (upd H p o) :=
  ⟨fun b xs e => by rw [upd_ne (ne_of_none e h)]; exact e, fun b ob u e => by rw [upd_ne (ne_of_none e h)]; exact e⟩
def isMut : HO → Bool
  | .lst _ | .dK _ | .dT _ | .ins _ _ _ => true
  | _ => false
theorem Keep.wr {H : Hp} {p : Addr} {o o' : HO} (h : H p = some o') (m : isMut o' = true) : Keep H (upd H p o) :=
  ⟨fun b xs e => by
    have : b ≠ p := ne_of e h (by intro z; subst z; cases m)
    rw [upd_ne this]; exact e, fun b ob u e => by
    have : b ≠ p := ne_of e h (by intro z; subst z; cases m)
    rw [upd_ne this]; exact e⟩
theorem Keep.sqT {K : PySem.W.Frag} {H H' : Hp} {a : Addr} {xs : List V} (k : Keep H H') (h : SqT K H a xs) : SqT K H' a xs := by
  rcases h with (h | ⟨o, h⟩) | h
  · exact .inl (.inl (k.tups _ _ h))
  · exact .inl (.inr ⟨o, k.frzs _ _ _ h⟩)
  · exact .inr h

section
variable {K : PySem.W.Frag} {φ φ' : List Addr} {H H' : Hp}
theorem pre_get {α : Type} {l l' : List α} (h : l <+: l') {i : Nat} {a : α} (e : l[i]? = some a) : l'[i]? = some a := by
  obtain ⟨r, rfl⟩ := h
  have hi : i < l.length := (List.getElem?_eq_some_iff.mp e).1
  rw [List.getElem?_append_left hi]; exact e
mutual
theorem RG.mono (p : φ <+: φ') (k : Keep H H') : ∀ {g : G} {v : V}, RG K φ H g v → RG K φ' H' g v
  | _, _, .non => .non
  | _, _, .bl b => .bl b
  | _, _, .int i => .int i
  | _, _, .str x => .str x
  | _, _, .tup h r => .tup (k.sqT h) (RGs.mono p k r)
  | _, _, .loc h => .loc (pre_get p h)
theorem RGs.mono (p : φ <+: φ') (k : Keep H H') : ∀ {gs : List G} {vs : List V}, RGs K φ H gs vs → RGs K φ' H' gs vs
  | _, _, .nil => .nil
  | _, _, .cons r t => .cons (RG.mono p k r) (RGs.mono p k t)
end
theorem RGs.len : ∀ {gs : List G} {vs : List V}, RGs K φ H gs vs → gs.length = vs.length
  | _, _, .nil => rfl
  | _, _, .cons _ t => by rw [List.length_cons, List.length_cons, RGs.len t]
theorem RGs.get : ∀ {gs : List G} {vs : List V} {i : Nat} {g : G}, RGs K φ H gs vs → gs[i]? = some g → ∃ v, vs[i]? = some v ∧ RG K φ H g v
  | _, _, _, _, .nil, e => by simp at e
  | _, _, 0, _, .cons r _, e => by simp at e; subst e; exact ⟨_, rfl, r⟩
  | _, _, i + 1, g, .cons _ t, e => by
    obtain ⟨u, h1, h2⟩ := RGs.get (i := i) (g := g) t (by simpa using e)
    exact ⟨u, by simpa using h1, h2⟩
theorem RGs.getV : ∀ {gs : List G} {vs : List V} {i : Nat} {v : V}, RGs K φ H gs vs → vs[i]? = some v → ∃ g, gs[i]? = some g ∧ RG K φ H g v
  | _, _, _, _, .nil, e => by simp at e
  | _, _, 0, _, .cons r _, e => by simp at e; subst e; exact ⟨_, rfl, r⟩
  | _, _, i + 1, g, .cons _ t, e => by
    obtain ⟨u, h1, h2⟩ := RGs.getV (i := i) (v := g) t (by simpa using e)
    exact ⟨u, by simpa using h1, h2⟩
theorem RGs.set {g : G} {v : V} (r : RG K φ H g v) : ∀ {gs : List G} {vs : List V} (i : Nat), RGs K φ H gs vs → RGs K φ H (gs.set i g) (vs.set i v)
  | _, _, _, .nil => .nil
  | _, _, 0, .cons _ t => .cons r t
  | _, _, i + 1, .cons q t => .cons q (RGs.set r i t)
theorem RGs.append : ∀ {gs hs : List G} {vs ws : List V}, RGs K φ H gs vs → RGs K φ H hs ws → RGs K φ H (gs ++ hs) (vs ++ ws)
  | _, _, _, _, .nil, s => s
  | _, _, _, _, .cons r t, s => .cons r (RGs.append t s)
theorem RGs.take : ∀ {gs : List G} {vs : List V} (n : Nat), RGs K φ H gs vs → RGs K φ H (gs.take n) (vs.take n)
  | _, _, 0, _ => .nil
  | _, _, _ + 1, .nil => .nil
  | _, _, n + 1, .cons r t => .cons r (RGs.take n t)
theorem RGs.drop : ∀ {gs : List G} {vs : List V} (n : Nat), RGs K φ H gs vs → RGs K φ H (gs.drop n) (vs.drop n)
  | _, _, 0, r => r
  | _, _, _ + 1, .nil => .nil
  | _, _, n + 1, .cons _ t => RGs.drop n t
theorem RGs.one {g : G} {v : V} (r : RG K φ H g v) : RGs K φ H [g] [v] := .cons r .nil
theorem RGs.reverse : ∀ {gs : List G} {vs : List V}, RGs K φ H gs vs → RGs K φ H gs.reverse vs.reverse
  | _, _, .nil => .nil
  | _, _, .cons r t => by rw [List.reverse_cons, List.reverse_cons]; exact (RGs.reverse t).append (.one r)
theorem RGs.erase : ∀ {gs : List G} {vs : List V} (i : Nat), RGs K φ H gs vs → RGs K φ H (gs.eraseIdx i) (vs.eraseIdx i)
  | _, _, _, .nil => .nil
  | _, _, 0, .cons _ t => t
  | _, _, i + 1, .cons q t => .cons q (RGs.erase i t)
theorem RGs.dropLast {gs : List G} {vs : List V} (r : RGs K φ H gs vs) : RGs K φ H gs.dropLast vs.dropLast := by
  rw [List.dropLast_eq_take, List.dropLast_eq_take, r.len]; exact r.take _
/-- pairs of a dict -/
abbrev RKs (K : PySem.W.Frag) (φ : List Addr) (H : Hp) : List (Key × G) → List (Key × V) → Prop := Paired fun p q => p.1 = q.1 ∧ RG K φ H p.2 q.2
theorem RKs.mono (p : φ <+: φ') (k : Keep H H') {gs : List (Key × G)} {vs : List (Key × V)} (r : RKs K φ H gs vs) : RKs K φ' H' gs vs := Paired.mapP r fun a b z => ⟨z.1, z.2.mono p k⟩
end

def getK (kvs : List (Key × G)) (k : Key) : Option G := (kvs.find? fun kv => decide (kv.1 = k)).map (·.2)
def putG (kvs : List (Key × G)) (k : Key) (g : G) : List (Key × G) :=
  if kvs.any fun kv => decide (kv.1 = k) then kvs.map fun kv => if kv.1 = k then (kv.1, g) else kv else kvs ++ [(k, g)]
def dropG (kvs : List (Key × G)) (k : Key) : List (Key × G) := kvs.filter fun kv => decide (kv.1 ≠ k)
section
variable {K : PySem.W.Frag} {φ φ' : List Addr} {H H' : Hp}
theorem RKs.val {gs : List (Key × G)} {vs : List (Key × V)} (r : RKs K φ H gs vs) (k : Key) : (getK gs k = none ∧ valV vs k = none) ∨ ∃ g v, getK gs k = some g ∧ valV vs k = some v ∧ RG K φ H g v := by
  induction r with
  | nil => exact .inl ⟨rfl, rfl⟩
  | @cons a b l1 l2 h t ih =>
    obtain ⟨h1, h2⟩ := h
    by_cases e : a.1 = k
    · refine .inr ⟨a.2, b.2, ?_, valV_pos (h1 ▸ e), h2⟩
      simp [getK, List.find?_cons, e]
    · have e' : ¬ b.1 = k := h1 ▸ e
      rw [valV_neg e']
      have : getK (a :: l1) k = getK l1 k := by simp [getK, List.find?_cons, e]
      rw [this]; exact ih
theorem RKs.any {gs : List (Key × G)} {vs : List (Key × V)} (r : RKs K φ H gs vs) (k : Key) : (gs.any fun kv => decide (kv.1 = k)) = vs.any fun kv => decide (kv.1 = k) := by
  induction r with
  | nil => rfl
  | cons h t ih => rw [List.any_cons, List.any_cons, ih, h.1]
theorem RKs.put {gs : List (Key × G)} {vs : List (Key × V)} (r : RKs K φ H gs vs) (k : Key) {g : G} {v : V} (rg : RG K φ H g v) : RKs K φ H (putG gs k g) (putK vs k v) := by
  unfold putG putK
  rw [r.any k]
  split
  · rename_i hh
    clear hh
    induction r with
    | nil => exact .nil
    | @cons a b l1 l2 h t ih =>
      rw [List.map_cons, List.map_cons]
      refine .cons ?_ ih
      by_cases e : a.1 = k
      · rw [if_pos e, if_pos (h.1 ▸ e)]; exact ⟨h.1, rg⟩
      · rw [if_neg e, if_neg (h.1 ▸ e)]; exact h
  · exact r.snoc ⟨rfl, rg⟩
theorem RKs.drop {gs : List (Key × G)} {vs : List (Key × V)} (r : RKs K φ H gs vs) (k : Key) : RKs K φ H (dropG gs k) (dropK vs k) := by
  unfold dropG dropK
  induction r with
  | nil => exact .nil
  | @cons a b l1 l2 h t ih =>
    rw [List.filter_cons, List.filter_cons]
    by_cases e : a.1 = k
    · have e' : b.1 = k := h.1 ▸ e
      rw [if_neg (by simp [e]), if_neg (by simp [e'])]; exact ih
    · have e' : ¬ b.1 = k := h.1 ▸ e
      rw [if_pos (by simp [e]), if_pos (by simp [e'])]; exact .cons h ih
theorem RKs.len {gs : List (Key × G)} {vs : List (Key × V)} (r : RKs K φ H gs vs) : gs.length = vs.length := Paired.length r
end

/-- a list of the written part -/
def KL (K : PySem.W.Frag) (a : Addr) (xs : List V) : Prop :=
  ∃ (o : Obj) (its : Array Value) (n : Nat), K.lookup a = some o ∧ o.cls = .type "list" ∧ o.dict = none ∧ o.data = .seq its n ∧ its.size ≤ sizeLine ∧ Vals xs its.toList
/-- a cell of the store at its address -/
def RC (K : PySem.W.Frag) (φ : List Addr) (H : Hp) (a : Addr) : C → Prop
  | .lst gs => ∃ vs, H a = some (.lst vs) ∧ RGs K φ H gs vs
  | .dic ks => ∃ vs, H a = some (.dK vs) ∧ RKs K φ H ks vs
  | .ro gs => ∃ vs, Rd H a (.lst vs) ∧ RGs K φ H gs vs
  | .kro gs => ∃ vs, KL K a vs ∧ RGs K φ H gs vs
def isK : Option C → Bool
  | some (.kro _) => true
  | _ => false
structure RS (K : PySem.W.Frag) (φ : List Addr) (S : Sto) (H : Hp) : Prop where
  len : φ.length = S.length
  nd : ∀ (n m : Nat) (a : Addr), φ[n]? = some a → φ[m]? = some a → n = m ∨ isK S[n]? = true ∨ isK S[m]? = true
  cell : ∀ (n : Nat) (a : Addr) (c : C), φ[n]? = some a → S[n]? = some c → RC K φ H a c
structure RSl (K : PySem.W.Frag) (φ : List Addr) (H : Hp) (σg : Sl) (σ : St) : Prop where
  len : σg.length = σ.length
  at' : ∀ (i : Nat) (g : G), σg[i]? = some (some g) → ∃ v, σ[i]? = some (some v) ∧ RG K φ H g v
structure Post (K : PySem.W.Frag) (φ : List Addr) (H : Hp) (S' : Sto) (φ' : List Addr) (H' : Hp) : Prop where
  pre : φ <+: φ'
  keep : Keep H H'
  rs : RS K φ' S' H'
section
variable {K : PySem.W.Frag} {φ φ1 φ' : List Addr} {H H1 H' : Hp} {S S1 S' : Sto} {σg : Sl} {σ : St}
theorem RS.post (r : RS K φ S H) : Post K φ H S φ H := ⟨List.prefix_refl _, .refl _, r⟩
theorem Post.trans (a : Post K φ H S1 φ1 H1) (b : Post K φ1 H1 S' φ' H') : Post K φ H S' φ' H' := ⟨a.pre.trans b.pre, a.keep.trans b.keep, b.rs⟩
theorem RSl.mono (p : φ <+: φ') (k : Keep H H') (r : RSl K φ H σg σ) : RSl K φ' H' σg σ := ⟨r.len, fun i g e => let ⟨v, h1, h2⟩ := r.at' i g e; ⟨v, h1, h2.mono p k⟩⟩
theorem RSl.post (r : RSl K φ H σg σ) (p : Post K φ H S' φ' H') : RSl K φ' H' σg σ := r.mono p.pre p.keep
theorem RG.post {g : G} {v : V} (r : RG K φ H g v) (p : Post K φ H S' φ' H') : RG K φ' H' g v := r.mono p.pre p.keep
theorem RGs.post {g : List G} {v : List V} (r : RGs K φ H g v) (p : Post K φ H S' φ' H') : RGs K φ' H' g v := r.mono p.pre p.keep
theorem RSl.set {g : G} {v : V} (r : RSl K φ H σg σ) (rg : RG K φ H g v) (i : Nat) : RSl K φ H (σg.set i (some g)) (σ.set i (some v)) := by
  refine ⟨by rw [List.length_set, List.length_set]; exact r.len, fun j g' e => ?_⟩
  by_cases h : i = j
  · subst h
    have hi : i < σg.length := by
      by_cases q : i < σg.length
      · exact q
      · rw [List.set_eq_of_length_le (by omega), List.getElem?_eq_none (by omega)] at e; cases e
    rw [List.getElem?_set_self hi] at e
    cases e
    exact ⟨v, List.getElem?_set_self (r.len ▸ hi), rg⟩
  · rw [List.getElem?_set_ne h] at e ⊢
    exact r.at' j g' e
theorem RS.lt {n : Nat} {a : Addr} (r : RS K φ S H) (h : φ[n]? = some a) : ∃ c, S[n]? = some c := by
  have hn := (List.getElem?_eq_some_iff.mp h).1
  rw [r.len] at hn
  exact ⟨S[n], by simp [hn]⟩
/-- a cell is as it was where its own object is -/
theorem RC.mono {a : Addr} {c : C} (p : φ <+: φ') (k : Keep H H') (e : isK (some c) = true ∨ H' a = H a) (r : RC K φ H a c) : RC K φ' H' a c := by
  cases c with
  | lst gs =>
    rcases e with e | e
    · cases e
    · obtain ⟨vs, h, q⟩ := r; exact ⟨vs, by rw [e]; exact h, q.mono p k⟩
  | dic ks =>
    rcases e with e | e
    · cases e
    · obtain ⟨vs, h, q⟩ := r; exact ⟨vs, by rw [e]; exact h, q.mono p k⟩
  | ro gs =>
    rcases e with e | e
    · cases e
    · obtain ⟨vs, h, q⟩ := r
      refine ⟨vs, ?_, q.mono p k⟩
      rcases h with h | ⟨o, h⟩
      · exact .inl (by rw [e]; exact h)
      · exact .inr ⟨o, by rw [e]; exact h⟩
  | kro gs => obtain ⟨vs, h, q⟩ := r; exact ⟨vs, h, q.mono p k⟩
/-- every cell is tracked, or lies in the written part -/
theorem RC.at {a : Addr} {c : C} (r : RC K φ H a c) : isK (some c) = true ∨ ∃ o, H a = some o := by
  cases c with
  | lst gs => obtain ⟨vs, h, _⟩ := r; exact .inr ⟨_, h⟩
  | dic ks => obtain ⟨vs, h, _⟩ := r; exact .inr ⟨_, h⟩
  | ro gs =>
    obtain ⟨vs, h, _⟩ := r
    rcases h with h | ⟨o, h⟩
    · exact .inr ⟨_, h⟩
    · exact .inr ⟨_, h⟩
  | kro gs => exact .inl rfl
/-- a new thing is laid that no cell is (a tuple) -/
theorem RS.lay {p : Addr} {o : HO} (r : RS K φ S H) (hp : H p = none) : Post K φ H S φ (upd H p o) := by
  refine ⟨List.prefix_refl _, .new hp, r.len, r.nd, fun n a c h1 h2 => (r.cell n a c h1 h2).mono (List.prefix_refl _) (.new hp) ?_⟩
  rcases (r.cell n a c h1 h2).at with k | ⟨o', k⟩
  · exact .inl k
  · exact .inr (upd_ne (ne_of_none k hp))
/-- a new cell -/
theorem RS.push {p : Addr} {o : HO} {c : C} (r : RS K φ S H) (hp : H p = none) (new : RC K (φ ++ [p]) (upd H p o) p c) : Post K φ H (S ++ [c]) (φ ++ [p]) (upd H p o) := by
  have pre : φ <+: φ ++ [p] := List.prefix_append _ _
  have hN : ∀ {n : Nat} {a : Addr}, (φ ++ [p])[n]? = some a → (n < φ.length ∧ φ[n]? = some a) ∨ (n = φ.length ∧ a = p) := fun {n a} e => by
    by_cases hn : n < φ.length
    · rw [List.getElem?_append_left hn] at e; exact .inl ⟨hn, e⟩
    · rw [List.getElem?_append_right (by omega)] at e
      have h0 : n - φ.length = 0 := by
        cases q : n - φ.length with
        | zero => rfl
        | succ m => rw [q] at e; simp at e
      rw [h0] at e
      simp at e
      exact .inr ⟨by omega, e.symm⟩
  have hS : ∀ {n : Nat}, n < φ.length → (S ++ [c])[n]? = S[n]? := fun {n} hn => List.getElem?_append_left (by rw [← r.len]; exact hn)
  have hSl : (S ++ [c])[φ.length]? = some c := by rw [r.len]; simp
  have old : ∀ {n : Nat}, φ[n]? = some p → isK S[n]? = true := fun {n} e => by
    obtain ⟨c', hc⟩ := r.lt e
    rcases (r.cell n p c' e hc).at with k | ⟨o', k⟩
    · rw [hc]; exact k
    · rw [hp] at k; cases k
  refine ⟨pre, .new hp, ⟨by simp [r.len], fun n m a h1 h2 => ?_, fun n a c' h1 h2 => ?_⟩⟩
  · rcases hN h1 with ⟨l1, e1⟩ | ⟨l1, e1⟩ <;> rcases hN h2 with ⟨l2, e2⟩ | ⟨l2, e2⟩
    · rw [hS l1, hS l2]; exact r.nd n m a e1 e2
    · subst e2; rw [hS l1]; exact .inr (.inl (old e1))
    · subst e1; rw [hS l2]; exact .inr (.inr (old e2))
    · exact .inl (l1.trans l2.symm)
  · rcases hN h1 with ⟨l1, e1⟩ | ⟨l1, e1⟩
    · rw [hS l1] at h2
      refine (r.cell n a c' e1 h2).mono pre (.new hp) ?_
      rcases (r.cell n a c' e1 h2).at with k | ⟨o', k⟩
      · exact .inl k
      · exact .inr (upd_ne (ne_of_none k hp))
    · subst l1
      rw [hSl] at h2
      cases h2
      subst e1
      exact new
/-- a cell is written -/
theorem RS.write {n : Nat} {a : Addr} {o o' : HO} {c c' : C} (r : RS K φ S H) (hn : φ[n]? = some a) (hc : S[n]? = some c) (nk : isK (some c) = false) (nk' : isK (some c') = false) (ho : H a = some o) (hm : isMut o = true)
    (new : RC K φ (upd H a o') a c') : Post K φ H (S.set n c') φ (upd H a o') := by
  have hlt : n < S.length := (List.getElem?_eq_some_iff.mp hc).1
  have kk : ∀ m, isK (S.set n c')[m]? = isK S[m]? := fun m => by
    by_cases e : n = m
    · subst e
      rw [List.getElem?_set_self hlt, hc, nk, nk']
    · rw [List.getElem?_set_ne e]
  refine ⟨List.prefix_refl _, .wr ho hm, ⟨by rw [List.length_set]; exact r.len, fun m l b h1 h2 => ?_, fun m b d h1 h2 => ?_⟩⟩
  · rw [kk, kk]; exact r.nd m l b h1 h2
  · by_cases e : n = m
    · subst e
      rw [List.getElem?_set_self hlt] at h2
      cases h2
      rw [hn] at h1
      cases h1
      exact new
    · rw [List.getElem?_set_ne e] at h2
      refine (r.cell m b d h1 h2).mono (List.prefix_refl _) (.wr ho hm) ?_
      by_cases eb : b = a
      · subst eb
        rcases r.nd n m b hn h1 with z | z | z
        · exact absurd z e
        · rw [hc, nk] at z; cases z
        · rw [h2] at z; exact .inl z
      · exact .inr (upd_ne eb)
/-- the list at a place, to be read -/
def getL (S : Sto) (n : Nat) : Option (List G) := match S[n]? with
  | some (.lst gs) => some gs
  | some (.ro gs) => some gs
  | some (.kro gs) => some gs
  | _ => none
theorem RS.list {n : Nat} {a : Addr} {gs : List G} (r : RS K φ S H) (hn : φ[n]? = some a) (h : getL S n = some gs) : ∃ vs, SqL K H a vs ∧ RGs K φ H gs vs := by
  unfold getL at h
  obtain ⟨c, hc⟩ := r.lt hn
  have q := r.cell n a c hn hc
  rw [hc] at h
  cases c with
  | lst x => cases h; obtain ⟨vs, h1, h2⟩ := q; exact ⟨vs, .inl (.inl h1), h2⟩
  | ro x => cases h; obtain ⟨vs, h1, h2⟩ := q; exact ⟨vs, .inl h1, h2⟩
  | kro x => cases h; obtain ⟨vs, h1, h2⟩ := q; exact ⟨vs, .inr h1, h2⟩
  | dic x => cases h
end
end FL
set_option Elab.async false
set_option linter.all false
set_option maxRecDepth 100000
set_option maxHeartbeats 1000000
/-! Fn1: what a piece of syntax computes, as a function on slots and stores; the judgements and the rules of control. -/
namespace FL
open PySem L2

abbrev FE := Sl → Sto → Option (G × Sto)
abbrev FT := Sl → Sto → Option (Bool × Sto)
abbrev FA := Sl → Sto → Option (List G × Sto)
inductive Fl where
  | nx (σ : Sl) (S : Sto) | rt (g : G) (S : Sto) | bk (σ : Sl) (S : Sto) | ct (σ : Sl) (S : Sto)
abbrev FS := Sl → Sto → Option Fl

def tE (K : PySem.W.Frag) (f : FE) : TE := fun σ H Q => ∃ φ σg S g S', RS K φ S H ∧ RSl K φ H σg σ ∧ f σg S = some (g, S') ∧ ∀ φ' H' v, Post K φ H S' φ' H' → RG K φ' H' g v → Q v H'
def tT (K : PySem.W.Frag) (f : FT) : TT := fun σ H Q => ∃ φ σg S b S', RS K φ S H ∧ RSl K φ H σg σ ∧ f σg S = some (b, S') ∧ ∀ φ' H', Post K φ H S' φ' H' → Q b H'
def tA (K : PySem.W.Frag) (f : FA) : TA := fun σ H Q => ∃ φ σg S gs S', RS K φ S H ∧ RSl K φ H σg σ ∧ f σg S = some (gs, S') ∧ ∀ φ' H' vs, Post K φ H S' φ' H' → RGs K φ' H' gs vs → Q vs H'
def EndsOk (K : PySem.W.Frag) (φ : List Addr) (H : Hp) (D : Ends) : Fl → Prop
  | .nx σg S' => ∀ φ' H' σ', Post K φ H S' φ' H' → RSl K φ' H' σg σ' → D.nx σ' H'
  | .rt g S' => ∀ φ' H' v, Post K φ H S' φ' H' → RG K φ' H' g v → D.rt v H'
  | .bk σg S' => ∀ φ' H' σ', Post K φ H S' φ' H' → RSl K φ' H' σg σ' → D.bk σ' H'
  | .ct σg S' => ∀ φ' H' σ', Post K φ H S' φ' H' → RSl K φ' H' σg σ' → D.ct σ' H'
def tS (K : PySem.W.Frag) (f : FS) : TS := fun D σ H => ∃ φ σg S r, RS K φ S H ∧ RSl K φ H σg σ ∧ f σg S = some r ∧ EndsOk K φ H D r
def rG2 (K : PySem.W.Frag) (go : G → G → Sto → Option (G × Sto)) : R2 := fun x y H Q => ∃ φ S gx gy g S', RS K φ S H ∧ RG K φ H gx x ∧ RG K φ H gy y ∧ go gx gy S = some (g, S') ∧ ∀ φ' H' v, Post K φ H S' φ' H' → RG K φ' H' g v → Q v H'
def rG1 (K : PySem.W.Frag) (go : G → Sto → Option (G × Sto)) : V → Hp → VK → Prop := fun x H Q => ∃ φ S gx g S', RS K φ S H ∧ RG K φ H gx x ∧ go gx S = some (g, S') ∧ ∀ φ' H' v, Post K φ H S' φ' H' → RG K φ' H' g v → Q v H'
def rGL (K : PySem.W.Frag) (go : List G → Sto → Option (G × Sto)) : List V → Hp → VK → Prop := fun xs H Q => ∃ φ S gs g S', RS K φ S H ∧ RGs K φ H gs xs ∧ go gs S = some (g, S') ∧ ∀ φ' H' v, Post K φ H S' φ' H' → RG K φ' H' g v → Q v H'
def rGM (K : PySem.W.Frag) (go : G → List G → Sto → Option (G × Sto)) : V → List V → Hp → VK → Prop := fun x xs H Q => ∃ φ S gx gs g S', RS K φ S H ∧ RG K φ H gx x ∧ RGs K φ H gs xs ∧ go gx gs S = some (g, S') ∧ ∀ φ' H' v, Post K φ H S' φ' H' → RG K φ' H' g v → Q v H'

abbrev IE (X : Cx) (e : Expr) (f : FE) : Prop := PE X e (tE X.K f)
abbrev IT (X : Cx) (e : Expr) (f : FT) : Prop := PT X e (tT X.K f)
abbrev IW (X : Cx) (e : Expr) (f : FT) : Prop := PW X e (tT X.K f)
abbrev IA (X : Cx) (es : List Expr) (f : FA) : Prop := PA X es (tA X.K f)
abbrev IS (X : Cx) (st : Stmt) (f : FS) : Prop := PS X st (tS X.K f)
abbrev ISs (X : Cx) (st : List Stmt) (f : FS) : Prop := PSs X st (tS X.K f)
abbrev OpG (X : Cx) (f : Value → Value → Sem Value) (go : G → G → Sto → Option (G × Sto)) : Prop := OpR X f (rG2 X.K go)
abbrev UnG (X : Cx) (f : Value → Sem Value) (go : G → Sto → Option (G × Sto)) : Prop := UnR X f (rG1 X.K go)
abbrev CallG (X : Cx) (f : Value) (go : List G → Sto → Option (G × Sto)) : Prop := CallR X f (rGL X.K go)

/-! ### weakening -/
section
variable {X : Cx}
theorem _root_.L2.PE.wk {e : Expr} {t t' : TE} (h : PE X e t) (w : ∀ σ H Q, t' σ H Q → t σ H Q) : PE X e t' := ⟨fun pins s σ H Q I q => h.run pins s σ H Q I (w _ _ _ q)⟩
theorem _root_.L2.PT.wk {e : Expr} {t t' : TT} (h : PT X e t) (w : ∀ σ H Q, t' σ H Q → t σ H Q) : PT X e t' := ⟨fun pins s σ H Q I q => h.run pins s σ H Q I (w _ _ _ q)⟩
theorem _root_.L2.PW.wk {e : Expr} {t t' : TT} (h : PW X e t) (w : ∀ σ H Q, t' σ H Q → t σ H Q) : PW X e t' := ⟨fun wh pins s σ H Q I q => h.run wh pins s σ H Q I (w _ _ _ q)⟩
theorem _root_.L2.PA.wk {e : List Expr} {t t' : TA} (h : PA X e t) (w : ∀ σ H Q, t' σ H Q → t σ H Q) : PA X e t' := ⟨fun pos pins s σ H Q I q => h.run pos pins s σ H Q I (w _ _ _ q)⟩
theorem _root_.L2.PS.wk {e : Stmt} {t t' : TS} (h : PS X e t) (w : ∀ D σ H, t' D σ H → t D σ H) : PS X e t' := ⟨fun pins s σ H D I q => h.run pins s σ H D I (w _ _ _ q)⟩
theorem _root_.L2.PSs.wk {e : List Stmt} {t t' : TS} (h : PSs X e t) (w : ∀ D σ H, t' D σ H → t D σ H) : PSs X e t' := ⟨fun pins s σ H D I q => h.run pins s σ H D I (w _ _ _ q)⟩
end

/-! ### what the pieces compute -/
def fVar (i : Nat) : FE := fun σ S => match σ[i]? with
  | some (some g) => some (g, S)
  | _ => none
def fK (g : G) : FE := fun _ S => some (g, S)
def fOp (go : G → G → Sto → Option (G × Sto)) (fa fb : FE) : FE := fun σ S => (fa σ S).bind fun p => (fb σ p.2).bind fun q => go p.1 q.1 q.2
def fUn (go : G → Sto → Option (G × Sto)) (fa : FE) : FE := fun σ S => (fa σ S).bind fun p => go p.1 p.2
def faNil : FA := fun _ S => some ([], S)
def faCons (fe : FE) (fa : FA) : FA := fun σ S => (fe σ S).bind fun p => (fa σ p.2).bind fun q => some (p.1 :: q.1, q.2)
def fTup (fa : FA) : FE := fun σ S => (fa σ S).bind fun p => if p.1.length ≤ 1000 then some (.tup p.1, p.2) else none
def fLst (fa : FA) : FE := fun σ S => (fa σ S).bind fun p => if p.1.length ≤ 1000 then some (.loc p.2.length, p.2 ++ [.lst p.1]) else none
def fDic0 : FE := fun _ S => some (.loc S.length, S ++ [.dic []])
def fCall (F : List G → Sto → Option (G × Sto)) (fa : FA) : FE := fun σ S => (fa σ S).bind fun p => F p.1 p.2
def fMeth (F : G → List G → Sto → Option (G × Sto)) (fo : FE) (fa : FA) : FE := fun σ S => (fo σ S).bind fun o => (fa σ o.2).bind fun p => F o.1 p.1 p.2
def asB : G × Sto → Option (Bool × Sto)
  | (.bl b, S) => some (b, S)
  | _ => none
def tru (S : Sto) : G → Option Bool
  | .non => some false
  | .bl b => some b
  | .int i => some (i != 0)
  | .str y => if y.length ≤ sizeLine then some ((y.length : Int) != 0) else none
  | .tup xs => some (!xs.isEmpty)
  | .loc n => match getL S n with
    | some gs => some (!gs.isEmpty)
    | none => match S[n]? with
      | some (.dic ks) => some (!ks.isEmpty)
      | _ => none
/-- a value that is a bool, as a test; any value by its truth -/
def ttB (fe : FE) : FT := fun σ S => (fe σ S).bind asB
def ttV (fe : FE) : FT := fun σ S => (fe σ S).bind fun p => (tru p.2 p.1).map fun b => (b, p.2)
def ttNot (t : FT) : FT := fun σ S => (t σ S).map fun p => (!p.1, p.2)
def ttAnd (t u : FT) : FT := fun σ S => (t σ S).bind fun p => if p.1 = true then u σ p.2 else some (false, p.2)
def ttOr (t u : FT) : FT := fun σ S => (t σ S).bind fun p => if p.1 = true then some (true, p.2) else u σ p.2
def fAnd (fa fb : FE) : FE := fun σ S => ((fa σ S).bind asB).bind fun p => if p.1 = true then fb σ p.2 else some (.bl false, p.2)
def fOr (fa fb : FE) : FE := fun σ S => ((fa σ S).bind asB).bind fun p => if p.1 = true then some (.bl true, p.2) else fb σ p.2
def fNot (fa : FE) : FE := fun σ S => ((fa σ S).bind asB).map fun p => (.bl (!p.1), p.2)
def fIf (t : FT) (fa fb : FE) : FE := fun σ S => (t σ S).bind fun p => if p.1 = true then fa σ p.2 else fb σ p.2

def sNil : FS := fun σ S => some (.nx σ S)
def sSeq (f g : FS) : FS := fun σ S => (f σ S).bind fun
  | .nx σ' S' => g σ' S'
  | r => some r
def sSet (i : Nat) (fe : FE) : FS := fun σ S => (fe σ S).map fun p => .nx (σ.set i (some p.1)) p.2
def sExpr (fe : FE) : FS := fun σ S => (fe σ S).map fun p => .nx σ p.2
def sRet (fe : FE) : FS := fun σ S => (fe σ S).map fun p => .rt p.1 p.2
def sRetN : FS := fun σ S => some (.rt .non S)
def sIf (t : FT) (a b : FS) : FS := fun σ S => (t σ S).bind fun p => if p.1 = true then a σ p.2 else b σ p.2
def sBrk : FS := fun σ S => some (.bk σ S)
def sCt : FS := fun σ S => some (.ct σ S)
def setAll : Sl → List Nat → List G → Sl
  | σ, i :: is, g :: gs => setAll (σ.set i (some g)) is gs
  | σ, _, _ => σ
def sUnp (is : List Nat) (fe : FE) : FS := fun σ S => (fe σ S).bind fun
  | (.tup gs, S') => if gs.length = is.length then some (.nx (setAll σ is gs) S') else none
  | _ => none
def sPar (i j : Nat) (fa fb : FE) : FS := fun σ S => (fa σ S).bind fun p => (fb σ p.2).bind fun q => some (.nx ((σ.set i (some p.1)).set j (some q.1)) q.2)
def sAug (i : Nat) (go : G → G → Sto → Option (G × Sto)) (fe : FE) : FS := fun σ S => (fVar i σ S).bind fun x => (fe σ S).bind fun p => (go x.1 p.1 p.2).map fun q => .nx (σ.set i (some q.1)) q.2
/-- o[i] = v, by values -/
def keyOf : G → Option Key
  | .int i => some (.inl i)
  | .str x => some (.inr x)
  | _ => none
def putAt : G → G → G → Sto → Option Sto
  | .loc n, i, v, S => match S[n]? with
    | some (.lst gs) => match i with
      | .int k => (ixN gs.length k).map fun j => S.set n (.lst (gs.set j v))
      | _ => none
    | some (.dic ks) => (keyOf i).bind fun k => if ks.length < sizeLine then some (S.set n (.dic (putG ks k v))) else none
    | _ => none
  | _, _, _, _ => none
def sPut (fo fi fv : FE) : FS := fun σ S => (fv σ S).bind fun v => (fo σ v.2).bind fun o => (fi σ o.2).bind fun i => (putAt o.1 i.1 v.1 i.2).map fun S' => .nx σ S'

/-! ### loops -/
inductive Tg where
  | one (i : Nat) | many (is : List Nat)
def Tg.set : Tg → G → Sl → Option Sl
  | .one i, g, σ => some (σ.set i (some g))
  | .many is, .tup gs, σ => if gs.length = is.length then some (setAll σ is gs) else none
  | .many _, _, _ => none
def Tg.idx : Tg → List Nat
  | .one i => [i]
  | .many is => is
/-- what is walked: the items, and what must hold of the store at each turn -/
abbrev FI := Sl → Sto → Option (List G × (Sto → Prop) × Sto)
open Classical in
noncomputable def loopG (lk : Sto → Prop) (tg : Tg) (body : FS) : List G → Sl → Sto → Option Fl
  | [], σ, S => if lk S then some (.nx σ S) else none
  | g :: gs, σ, S => if lk S then (tg.set g σ).bind fun σ1 => (body σ1 S).bind fun
      | .nx σ' S' => loopG lk tg body gs σ' S'
      | .ct σ' S' => loopG lk tg body gs σ' S'
      | .bk σ' S' => some (.nx σ' S')
      | .rt v S' => some (.rt v S')
    else none
noncomputable def sFor (it : FI) (tg : Tg) (body : FS) : FS := fun σ S => (it σ S).bind fun p => loopG p.2.1 tg body p.1 σ p.2.2
def whileG (c : FT) (body : FS) : Nat → Sl → Sto → Option Fl
  | 0, _, _ => none
  | n + 1, σ, S => (c σ S).bind fun p => if p.1 = true then (body σ p.2).bind fun
      | .nx σ' S' => whileG c body n σ' S'
      | .ct σ' S' => whileG c body n σ' S'
      | .bk σ' S' => some (.nx σ' S')
      | .rt v S' => some (.rt v S')
    else some (.nx σ p.2)
def sWhile (n : Nat) (c : FT) (body : FS) : FS := fun σ S => whileG c body n σ S
def wipeG (σ : Sl) : List Nat → Sl
  | [] => σ
  | v :: vs => (wipeG σ vs).set v none
open Classical in
noncomputable def compG (D : Nat) (lk : Sto → Prop) (tg : Tg) (tt : FT) (te : FE) (σ0 : Sl) : List G → Sto → Option Sto
  | [], S => if lk S then some S else none
  | g :: gs, S => if lk S then (tg.set g σ0).bind fun σ1 => (tt σ1 S).bind fun p => if p.1 = true then
        (te σ1 p.2).bind fun q => match q.2[D]? with
          | some (.lst acc) => if acc.length < sizeLine then compG D lk tg tt te σ0 gs (q.2.set D (.lst (acc ++ [q.1]))) else none
          | _ => none
      else compG D lk tg tt te σ0 gs p.2
    else none
noncomputable def fLc (it : FI) (tg : Tg) (tt : FT) (te : FE) : FE := fun σ S => (it σ S).bind fun p => (compG p.2.2.length p.2.1 tg tt te (wipeG σ tg.idx) p.1 (p.2.2 ++ [.lst []])).map fun S' => (.loc p.2.2.length, S')
open Classical in
noncomputable def compD (D : Nat) (lk : Sto → Prop) (tg : Tg) (tt : FT) (tk te : FE) (σ0 : Sl) : List G → Sto → Option Sto
  | [], S => if lk S then some S else none
  | g :: gs, S => if lk S then (tg.set g σ0).bind fun σ1 => (tt σ1 S).bind fun p => if p.1 = true then
        (tk σ1 p.2).bind fun r => (te σ1 r.2).bind fun q => (keyOf r.1).bind fun k => match q.2[D]? with
          | some (.dic acc) => if acc.length < sizeLine then compD D lk tg tt tk te σ0 gs (q.2.set D (.dic (putG acc k q.1))) else none
          | _ => none
      else compD D lk tg tt tk te σ0 gs p.2
    else none
noncomputable def fDc (it : FI) (tg : Tg) (tt : FT) (tk te : FE) : FE := fun σ S => (it σ S).bind fun p => (compD p.2.2.length p.2.1 tg tt tk te (wipeG σ tg.idx) p.1 (p.2.2 ++ [.dic []])).map fun S' => (.loc p.2.2.length, S')
def ttYes : FT := fun _ S => some (true, S)
/-- a def of np parameters and n names -/
def callG (np n : Nat) (body : FS) : List G → Sto → Option (G × Sto) := fun args S => if args.length = np then (body (args.map some ++ List.replicate (n - args.length) none) S).bind fun
  | .nx _ S' => some (.non, S')
  | .rt g S' => some (g, S')
  | _ => none
  else none

/-! ### the rules of expressions -/
section
variable {X : Cx} {a b c e o : Expr} {fa fb fe fc : FE} {es : List Expr} {pos : Pos}
theorem tE_ok {K : PySem.W.Frag} {f : FE} {φ : List Addr} {σg : Sl} {S S' : Sto} {g : G} {σ : L2.St} {H : Hp} {Q : VK} (r : RS K φ S H) (l : RSl K φ H σg σ) (h : f σg S = some (g, S'))
    (q : ∀ φ' H' v, Post K φ H S' φ' H' → RG K φ' H' g v → RSl K φ' H' σg σ → Q v H') : tE K f σ H Q := ⟨φ, σg, S, g, S', r, l, h, fun φ' H' v p x => q φ' H' v p x (l.post p)⟩
theorem tT_ok {K : PySem.W.Frag} {f : FT} {φ : List Addr} {σg : Sl} {S S' : Sto} {g : Bool} {σ : L2.St} {H : Hp} {Q : Bool → Hp → Prop} (r : RS K φ S H) (l : RSl K φ H σg σ) (h : f σg S = some (g, S'))
    (q : ∀ φ' H', Post K φ H S' φ' H' → RSl K φ' H' σg σ → Q g H') : tT K f σ H Q := ⟨φ, σg, S, g, S', r, l, h, fun φ' H' p => q φ' H' p (l.post p)⟩
theorem tA_ok {K : PySem.W.Frag} {f : FA} {φ : List Addr} {σg : Sl} {S S' : Sto} {g : List G} {σ : L2.St} {H : Hp} {Q : List V → Hp → Prop} (r : RS K φ S H) (l : RSl K φ H σg σ) (h : f σg S = some (g, S'))
    (q : ∀ φ' H' v, Post K φ H S' φ' H' → RGs K φ' H' g v → RSl K φ' H' σg σ → Q v H') : tA K f σ H Q := ⟨φ, σg, S, g, S', r, l, h, fun φ' H' v p x => q φ' H' v p x (l.post p)⟩
theorem ie_k {g : G} {v : V} (h : PE X e (tC v)) (r : ∀ φ H, RG X.K φ H g v) : IE X e (fK g) := h.wk fun σ H Q ⟨φ, σg, S, g', S', rs, rl, e, q⟩ => by
  cases e
  exact q φ H v rs.post (r φ H)
theorem ie_int {i j pos} : IE X (.Constant (.int i) j pos) (fK (.int i)) := ie_k pe_int fun _ _ => .int i
theorem ie_bl {b j pos} : IE X (.Constant (.bool b) j pos) (fK (.bl b)) := ie_k pe_bl fun _ _ => .bl b
theorem ie_non {j pos} : IE X (.Constant .none j pos) (fK .non) := ie_k pe_non fun _ _ => .non
theorem ie_str {x j pos} : IE X (.Constant (.str x) j pos) (fK (.str x)) := ie_k pe_str fun _ _ => .str x
theorem ie_var (i : Nat) {x : Str} {pos : Pos} (hN : X.N[i]? = some x := by rfl) (hv : Vis X.env.scope x := by first | exact Or.inl rfl | exact Or.inr (Or.inl rfl) | exact Or.inr (Or.inr rfl)) (hd : (x == ("__debug__" : Str)) = false := by decide)
    (hcd : (x == ("__classdict__" : Str)) = false := by decide) : IE X (.Name x pos) (fVar i) := (pe_var hN hv hd hcd).wk fun σ H Q ⟨φ, σg, S, g, S', rs, rl, e, q⟩ => by
  unfold fVar at e
  split at e
  · rename_i g' hg
    cases e
    obtain ⟨v, h1, h2⟩ := rl.at' i g hg
    exact ⟨v, h1, q φ H v rs.post h2⟩
  · cases e
theorem ie_op {op : Operator} {go : G → G → Sto → Option (G × Sto)} (ho : OpG X (binaryOp op) go) (ha : IE X a fa) (hb : IE X b fb) : IE X (.BinOp a op b pos) (fOp go fa fb) :=
  (pe_op ho ha hb).wk fun σ H Q ⟨φ, σg, S, g, S', rs, rl, e, q⟩ => by
    obtain ⟨⟨x, S1⟩, e1, e⟩ := Option.bind_eq_some_iff.mp e
    obtain ⟨⟨y, S2⟩, e2, e3⟩ := Option.bind_eq_some_iff.mp e
    exact tE_ok rs rl e1 fun φ1 H1 v1 p1 r1 l1 => tE_ok p1.rs l1 e2 fun φ2 H2 v2 p2 r2 l2 => ⟨φ2, S2, x, y, g, S', p2.rs, r1.post p2, r2, e3, fun φ' H' v p r => q φ' H' v ((p1.trans p2).trans p) r⟩
theorem ie_un {op : UnaryOp} {go : G → Sto → Option (G × Sto)} (ho : UnG X (unaryOp op) go) (ha : IE X a fa) : IE X (.UnaryOp op a pos) (fUn go fa) :=
  (pe_un ho ha).wk fun σ H Q ⟨φ, σg, S, g, S', rs, rl, e, q⟩ => by
    obtain ⟨⟨x, S1⟩, e1, e⟩ := Option.bind_eq_some_iff.mp e
    exact tE_ok rs rl e1 fun φ1 H1 v1 p1 r1 l1 => ⟨φ1, S1, x, g, S', p1.rs, r1, e, fun φ' H' v p r => q φ' H' v (p1.trans p) r⟩
theorem ie_cmp {op : CmpOp} {go : G → G → Sto → Option (G × Sto)} (ho : OpG X (compareOp op) go) (ha : IE X a fa) (hb : IE X b fb) (hm : behindInMarks op b = false := by first | exact nomark _ | rfl) : IE X (.Compare a [op] [b] pos) (fOp go fa fb) :=
  (pe_cmpR ho ha hb hm).wk fun σ H Q ⟨φ, σg, S, g, S', rs, rl, e, q⟩ => by
    obtain ⟨⟨x, S1⟩, e1, e⟩ := Option.bind_eq_some_iff.mp e
    obtain ⟨⟨y, S2⟩, e2, e3⟩ := Option.bind_eq_some_iff.mp e
    exact tE_ok rs rl e1 fun φ1 H1 v1 p1 r1 l1 => tE_ok p1.rs l1 e2 fun φ2 H2 v2 p2 r2 l2 => ⟨φ2, S2, x, y, g, S', p2.rs, r1.post p2, r2, e3, fun φ' H' v p r => q φ' H' v ((p1.trans p2).trans p) r⟩
theorem RG.isB {K : PySem.W.Frag} {φ : List Addr} {H : Hp} {b : Bool} {v : V} (r : RG K φ H (.bl b) v) : v = .bl b := by cases r; rfl
theorem asB_eq {p : G × Sto} {b : Bool} {S : Sto} (h : asB p = some (b, S)) : p = (.bl b, S) := by
  obtain ⟨g, S1⟩ := p
  cases g with
  | bl x => cases h; rfl
  | _ => cases h
theorem it_cmp {op : CmpOp} {go : G → G → Sto → Option (G × Sto)} (ho : OpG X (compareOp op) go) (ha : IE X a fa) (hb : IE X b fb) (hm : behindInMarks op b = false := by first | exact nomark _ | rfl) : IT X (.Compare a [op] [b] pos) (ttB (fOp go fa fb)) :=
  (pt_cmpR ho ha hb hm).wk fun σ H Q ⟨φ, σg, S, g, S', rs, rl, e, q⟩ => by
    obtain ⟨p, e, eb⟩ := Option.bind_eq_some_iff.mp e
    cases asB_eq eb
    obtain ⟨⟨x, S1⟩, e1, e⟩ := Option.bind_eq_some_iff.mp e
    obtain ⟨⟨y, S2⟩, e2, e3⟩ := Option.bind_eq_some_iff.mp e
    exact tE_ok rs rl e1 fun φ1 H1 v1 p1 r1 l1 => tE_ok p1.rs l1 e2 fun φ2 H2 v2 p2 r2 l2 => ⟨φ2, S2, x, y, .bl g, S', p2.rs, r1.post p2, r2, e3, fun φ' H' v p r => ⟨g, r.isB, q φ' H' ((p1.trans p2).trans p)⟩⟩
theorem ia_nil : IA X [] faNil := pa_nil.wk fun σ H Q ⟨φ, σg, S, g, S', rs, rl, e, q⟩ => by
  cases e
  exact q φ H [] rs.post .nil
theorem ia_cons {f : FA} (ha : IE X e fe) (hr : IA X es f) (hs : starEach (e :: es) X.env = (false, eval e X.env) :: starEach es X.env := by rfl) : IA X (e :: es) (faCons fe f) := (pa_cons ha hr hs).wk fun σ H Q ⟨φ, σg, S, g, S', rs, rl, e, q⟩ => by
  obtain ⟨⟨x, S1⟩, e1, e⟩ := Option.bind_eq_some_iff.mp e
  obtain ⟨⟨y, S2⟩, e2, e3⟩ := Option.bind_eq_some_iff.mp e
  cases e3
  exact tE_ok rs rl e1 fun φ1 H1 v1 p1 r1 l1 => tA_ok p1.rs l1 e2 fun φ2 H2 v2 p2 r2 l2 => q φ2 H2 _ (p1.trans p2) (.cons (r1.post p2) r2)
theorem small_ok {n : Nat} (h : n ≤ 1000) : n ≤ sizeLine := Nat.le_trans h (by rw [sizeLine_eq]; decide)
theorem ie_tup {f : FA} {x1} (ha : IA X es f) : IE X (.Tuple es x1 pos) (fTup f) := (pe_tup ha).wk fun σ H Q ⟨φ, σg, S, g, S', rs, rl, e, q⟩ => by
  obtain ⟨⟨gs, S1⟩, e1, e⟩ := Option.bind_eq_some_iff.mp e
  dsimp only at e
  split at e
  · rename_i hl
    cases e
    refine tA_ok rs rl e1 fun φ1 H1 vs p1 r1 l1 => ⟨?_, fun p np => ?_⟩
    · rw [← r1.len]; exact small_ok hl
    · have P := p1.rs.lay (o := .tup vs) np
      exact q φ1 _ _ (p1.trans P) (.tup (.of upd_same) (r1.post P))
  · cases e
theorem RS.newList {K : PySem.W.Frag} {φ : List Addr} {S : Sto} {H : Hp} {p : Addr} {gs : List G} {vs : List V} (r : RS K φ S H) (np : H p = none) (rg : RGs K φ H gs vs) : Post K φ H (S ++ [.lst gs]) (φ ++ [p]) (upd H p (.lst vs)) ∧ RG K (φ ++ [p]) (upd H p (.lst vs)) (.loc S.length) (.ref p) :=
  ⟨r.push np ⟨vs, upd_same, rg.mono (List.prefix_append _ _) (.new np)⟩, .loc (by rw [← r.len]; simp)⟩
theorem RS.newDic {K : PySem.W.Frag} {φ : List Addr} {S : Sto} {H : Hp} {p : Addr} {gs : List (Key × G)} {vs : List (Key × V)} (r : RS K φ S H) (np : H p = none) (rg : RKs K φ H gs vs) : Post K φ H (S ++ [.dic gs]) (φ ++ [p]) (upd H p (.dK vs)) ∧ RG K (φ ++ [p]) (upd H p (.dK vs)) (.loc S.length) (.ref p) :=
  ⟨r.push np ⟨vs, upd_same, rg.mono (List.prefix_append _ _) (.new np)⟩, .loc (by rw [← r.len]; simp)⟩
theorem ie_lst {f : FA} (ha : IA X es f) : IE X (.List es pos) (fLst f) := (pe_lst ha).wk fun σ H Q ⟨φ, σg, S, g, S', rs, rl, e, q⟩ => by
  obtain ⟨⟨gs, S1⟩, e1, e⟩ := Option.bind_eq_some_iff.mp e
  dsimp only at e
  split at e
  · rename_i hl
    cases e
    refine tA_ok rs rl e1 fun φ1 H1 vs p1 r1 l1 => ⟨?_, fun p np => ?_⟩
    · rw [← r1.len]; exact small_ok hl
    · obtain ⟨P, R⟩ := p1.rs.newList np r1
      exact q _ _ _ (p1.trans P) R
  · cases e
theorem ie_dic0 : IE X (.Dict [] [] pos) fDic0 := pe_dnewK.wk fun σ H Q ⟨φ, σg, S, g, S', rs, rl, e, q⟩ => by
  cases e
  intro p np
  obtain ⟨P, R⟩ := rs.newDic (gs := []) (vs := []) np .nil
  exact q _ _ _ P R
/-- {k: v}, one written pair -/
def fDic1 (fk fv : FE) : FE := fun σ S => (fk σ S).bind fun k => (fv σ k.2).bind fun v => (keyOf k.1).map fun key => (.loc v.2.length, v.2 ++ [.dic [(key, v.1)]])
end
end FL
set_option Elab.async false
set_option linter.all false
set_option maxRecDepth 100000
set_option maxHeartbeats 1000000
/-! Fn2: tests, statements, loops, comprehensions, calls of defs. -/
namespace FL
open PySem L2

section
variable {X : Cx} {a b c e o : Expr} {fa fb fe fc : FE} {es : List Expr} {pos : Pos} {t u : FT}
/-! ### tests -/
theorem tru_ok {K : PySem.W.Frag} {φ : List Addr} {S : Sto} {H : Hp} {g : G} {v : V} {b : Bool} (rs : RS K φ S H) (r : RG K φ H g v) (h : tru S g = some b) : TruV K v H b := by
  cases r with
  | non => cases h; rfl
  | bl x => cases h; rfl
  | int i => cases h; rfl
  | str x =>
    have h : (if x.length ≤ sizeLine then some ((x.length : Int) != 0) else none) = some b := h
    split at h
    · cases h; exact ⟨by assumption, rfl⟩
    · cases h
  | @tup a vs gs hq hr =>
    cases h
    refine .inr (.inl ⟨vs, hq, ?_⟩)
    cases hr <;> rfl
  | @loc n a hn =>
    unfold tru at h
    dsimp only at h
    split at h
    · rename_i gs hg
      cases h
      obtain ⟨vs, h1, h2⟩ := rs.list hn hg
      refine .inl ⟨vs, h1, ?_⟩
      cases h2 <;> rfl
    · split at h
      · rename_i ks hk
        cases h
        obtain ⟨vs, h1, h2⟩ := rs.cell n a _ hn hk
        refine .inr (.inr ⟨vs, h1, ?_⟩)
        cases h2 <;> rfl
      · cases h
theorem it_val (ha : IE X a fa) (he : ∀ whole, isTrue a X.env whole = (do let v ← whole; standAt a.pos; holding [v] (truthy v)) := by intro _; rfl) : IT X a (ttV fa) :=
  (pt_truth ha he).wk fun σ H Q ⟨φ, σg, S, g, S', rs, rl, e, q⟩ => by
    obtain ⟨⟨x, S1⟩, e1, e⟩ := Option.bind_eq_some_iff.mp e
    obtain ⟨b, e2, e3⟩ := Option.map_eq_some_iff.mp e
    cases e3
    exact tE_ok rs rl e1 fun φ1 H1 v1 p1 r1 l1 => ⟨g, tru_ok p1.rs r1 e2, q φ1 H1 p1⟩
theorem it_not (h : IT X a t) : IT X (.UnaryOp .Not a pos) (ttNot t) := (pt_not h).wk fun σ H Q ⟨φ, σg, S, g, S', rs, rl, e, q⟩ => by
  obtain ⟨⟨x, S1⟩, e1, e⟩ := Option.map_eq_some_iff.mp e
  cases e
  exact tT_ok rs rl e1 fun φ1 H1 p1 l1 => q φ1 H1 p1
theorem iw_and1 (h : IT X a t) : IW X (.BoolOp .And [a] pos) t := pw_and1 h
theorem iw_or1 (h : IT X a t) : IW X (.BoolOp .Or [a] pos) t := pw_or1 h
theorem iw_and {rest : List Expr} (ha : IT X a t) (hb : IW X (.BoolOp .And (b :: rest) pos) u) : IW X (.BoolOp .And (a :: b :: rest) pos) (ttAnd t u) := (pw_and ha hb).wk fun σ H Q ⟨φ, σg, S, g, S', rs, rl, e, q⟩ => by
  obtain ⟨⟨x, S1⟩, e1, e⟩ := Option.bind_eq_some_iff.mp e
  refine tT_ok rs rl e1 fun φ1 H1 p1 l1 => ?_
  cases x with
  | true => exact tT_ok p1.rs l1 e fun φ2 H2 p2 l2 => q φ2 H2 (p1.trans p2)
  | false => cases e; exact q φ1 H1 p1
theorem iw_or {rest : List Expr} (ha : IT X a t) (hb : IW X (.BoolOp .Or (b :: rest) pos) u) : IW X (.BoolOp .Or (a :: b :: rest) pos) (ttOr t u) := (pw_or ha hb).wk fun σ H Q ⟨φ, σg, S, g, S', rs, rl, e, q⟩ => by
  obtain ⟨⟨x, S1⟩, e1, e⟩ := Option.bind_eq_some_iff.mp e
  refine tT_ok rs rl e1 fun φ1 H1 p1 l1 => ?_
  cases x with
  | false => exact tT_ok p1.rs l1 e fun φ2 H2 p2 l2 => q φ2 H2 (p1.trans p2)
  | true => cases e; exact q φ1 H1 p1
theorem it_w (h : IW X a t) : IT X a t := h.pt
theorem ie_one {op} (h : IE X a fa) : IE X (.BoolOp op [a] pos) fa := pe_one h
theorem ie_and {rest : List Expr} (ha : IE X a fa) (hb : IE X (.BoolOp .And (b :: rest) pos) fb) : IE X (.BoolOp .And (a :: b :: rest) pos) (fAnd fa fb) := (pe_and ha hb).wk fun σ H Q ⟨φ, σg, S, g, S', rs, rl, e, q⟩ => by
  obtain ⟨⟨x, S1⟩, e1, e⟩ := Option.bind_eq_some_iff.mp e
  obtain ⟨p, e0, e1⟩ := Option.bind_eq_some_iff.mp e1
  cases asB_eq e1
  refine tE_ok rs rl e0 fun φ1 H1 v1 p1 r1 l1 => ⟨x, r1.isB, ?_⟩
  cases x with
  | true => exact tE_ok p1.rs l1 e fun φ2 H2 v2 p2 r2 l2 => q φ2 H2 v2 (p1.trans p2) r2
  | false => cases e; exact q φ1 H1 _ p1 (.bl false)
theorem ie_or {rest : List Expr} (ha : IE X a fa) (hb : IE X (.BoolOp .Or (b :: rest) pos) fb) : IE X (.BoolOp .Or (a :: b :: rest) pos) (fOr fa fb) := (pe_or ha hb).wk fun σ H Q ⟨φ, σg, S, g, S', rs, rl, e, q⟩ => by
  obtain ⟨⟨x, S1⟩, e1, e⟩ := Option.bind_eq_some_iff.mp e
  obtain ⟨p, e0, e1⟩ := Option.bind_eq_some_iff.mp e1
  cases asB_eq e1
  refine tE_ok rs rl e0 fun φ1 H1 v1 p1 r1 l1 => ⟨x, r1.isB, ?_⟩
  cases x with
  | false => exact tE_ok p1.rs l1 e fun φ2 H2 v2 p2 r2 l2 => q φ2 H2 v2 (p1.trans p2) r2
  | true => cases e; exact q φ1 H1 _ p1 (.bl true)
theorem ie_not (ha : IE X a fa) : IE X (.UnaryOp .Not a pos) (fNot fa) := (pe_not ha).wk fun σ H Q ⟨φ, σg, S, g, S', rs, rl, e, q⟩ => by
  obtain ⟨⟨x, S1⟩, e1, e⟩ := Option.map_eq_some_iff.mp e
  obtain ⟨p, e0, e1⟩ := Option.bind_eq_some_iff.mp e1
  cases asB_eq e1
  cases e
  exact tE_ok rs rl e0 fun φ1 H1 v1 p1 r1 l1 => ⟨x, r1.isB, q φ1 H1 _ p1 (.bl _)⟩
theorem ie_if (hc : IT X c t) (ha : IE X a fa) (hb : IE X b fb) : IE X (.IfExp c a b pos) (fIf t fa fb) := (pe_ifExp hc ha hb).wk fun σ H Q ⟨φ, σg, S, g, S', rs, rl, e, q⟩ => by
  obtain ⟨⟨x, S1⟩, e1, e⟩ := Option.bind_eq_some_iff.mp e
  refine tT_ok rs rl e1 fun φ1 H1 p1 l1 => ?_
  cases x with
  | true => exact tE_ok p1.rs l1 e fun φ2 H2 v2 p2 r2 l2 => q φ2 H2 v2 (p1.trans p2) r2
  | false => exact tE_ok p1.rs l1 e fun φ2 H2 v2 p2 r2 l2 => q φ2 H2 v2 (p1.trans p2) r2

/-! ### statements -/
variable {st : Stmt} {rest : List Stmt} {f g : FS}
theorem EndsOk.mono {K : PySem.W.Frag} {φ φ1 : List Addr} {H H1 : Hp} {S1 : Sto} {D : Ends} {r : Fl} (p : Post K φ H S1 φ1 H1) (h : EndsOk K φ H D r) : EndsOk K φ1 H1 D r := by
  cases r with
  | nx σg S' => exact fun φ' H' σ' q l => h φ' H' σ' (p.trans q) l
  | rt x S' => exact fun φ' H' v q l => h φ' H' v (p.trans q) l
  | bk σg S' => exact fun φ' H' σ' q l => h φ' H' σ' (p.trans q) l
  | ct σg S' => exact fun φ' H' σ' q l => h φ' H' σ' (p.trans q) l
theorem tS_ok {K : PySem.W.Frag} {f : FS} {D : Ends} {φ : List Addr} {σg : Sl} {S : Sto} {r : Fl} {σ : L2.St} {H : Hp} (rs : RS K φ S H) (l : RSl K φ H σg σ) (h : f σg S = some r) (q : EndsOk K φ H D r) : tS K f D σ H := ⟨φ, σg, S, r, rs, l, h, q⟩
theorem iss_nil : ISs X [] sNil := pss_nil.wk fun D σ H ⟨φ, σg, S, r, rs, rl, e, q⟩ => by
  cases e
  exact q φ H σ rs.post rl
theorem iss_one (h : IS X st f) : ISs X [st] f := pss_one h
theorem iss_cons (h1 : IS X st f) (h2 : ISs X rest g) : ISs X (st :: rest) (sSeq f g) := (pss_cons h1 h2).wk fun D σ H ⟨φ, σg, S, r, rs, rl, e, q⟩ => by
  obtain ⟨r1, e1, e2⟩ := Option.bind_eq_some_iff.mp e
  refine tS_ok rs rl e1 ?_
  cases r1 with
  | nx σ1 S1 => exact fun φ' H' σ' p l => tS_ok p.rs l e2 (q.mono p)
  | rt x S1 => cases e2; exact q
  | bk σ1 S1 => cases e2; exact q
  | ct σ1 S1 => cases e2; exact q
theorem is_pass : IS X (.Pass pos) sNil := ps_pass.wk fun D σ H ⟨φ, σg, S, r, rs, rl, e, q⟩ => by
  cases e
  exact q φ H σ rs.post rl
theorem is_brk : IS X (.Break pos) sBrk := ps_break.wk fun D σ H ⟨φ, σg, S, r, rs, rl, e, q⟩ => by
  cases e
  exact q φ H σ rs.post rl
theorem is_ct : IS X (.Continue pos) sCt := ps_continue.wk fun D σ H ⟨φ, σg, S, r, rs, rl, e, q⟩ => by
  cases e
  exact q φ H σ rs.post rl
theorem is_doc {x j pos pos'} : IS X (.Expr (.Constant (.str x) j pos) pos') sNil := ps_doc.wk fun D σ H ⟨φ, σg, S, r, rs, rl, e, q⟩ => by
  cases e
  exact q φ H σ rs.post rl
theorem is_expr (he : IE X e fe) (hs : swapsWith e none pos.line X.env = pure false := by rfl) : IS X (.Expr e pos) (sExpr fe) := (ps_expr he hs).wk fun D σ H ⟨φ, σg, S, r, rs, rl, e, q⟩ => by
  obtain ⟨⟨x, S1⟩, e1, e2⟩ := Option.map_eq_some_iff.mp e
  cases e2
  exact tE_ok rs rl e1 fun φ1 H1 v1 p1 r1 l1 => q φ1 H1 σ p1 l1
theorem is_ret (he : IE X e fe) : IS X (.Return (some e) pos) (sRet fe) := (ps_ret he).wk fun D σ H ⟨φ, σg, S, r, rs, rl, e, q⟩ => by
  obtain ⟨⟨x, S1⟩, e1, e2⟩ := Option.map_eq_some_iff.mp e
  cases e2
  exact tE_ok rs rl e1 fun φ1 H1 v1 p1 r1 l1 => q φ1 H1 v1 p1 r1
theorem is_retN : IS X (.Return none pos) sRetN := ps_retN.wk fun D σ H ⟨φ, σg, S, r, rs, rl, e, q⟩ => by
  cases e
  exact q φ H _ rs.post .non
theorem is_if {sa sb : List Stmt} (hc : IT X c t) (ha : ISs X sa f) (hb : ISs X sb g) : IS X (.If c sa sb pos) (sIf t f g) := (ps_if hc ha hb).wk fun D σ H ⟨φ, σg, S, r, rs, rl, e, q⟩ => by
  obtain ⟨⟨x, S1⟩, e1, e⟩ := Option.bind_eq_some_iff.mp e
  refine tT_ok rs rl e1 fun φ1 H1 p1 l1 => ?_
  cases x with
  | true => exact tS_ok p1.rs l1 e (q.mono p1)
  | false => exact tS_ok p1.rs l1 e (q.mono p1)
theorem is_set (i : Nat) {x : Str} {pos' : Pos} (hN : X.N.Nodup) (he : IE X e fe) (hi : X.N[i]? = some x := by rfl) (hx : Loc X.env.scope x := by first | exact Or.inl rfl | exact Or.inr rfl) (hs : swapsWith e (some (.Name x pos')) pos.line X.env = pure false := by rfl)
    (hf : X.fn x = true ∨ X.env.scope.names.lookup x = some .local := by first | exact .inl rfl | exact .inr rfl | assumption) :
    IS X (.Assign [.Name x pos'] e pos) (sSet i fe) := (ps_set hN hi hx he hs hf).wk fun D σ H ⟨φ, σg, S, r, rs, rl, e, q⟩ => by
  obtain ⟨⟨x, S1⟩, e1, e2⟩ := Option.map_eq_some_iff.mp e
  cases e2
  exact tE_ok rs rl e1 fun φ1 H1 v1 p1 r1 l1 => q φ1 H1 _ p1 (l1.set r1 i)
/-- name = e, where the store is made as of a target (a statement on one line, or not) -/
theorem is_asg (i : Nat) {x : Str} {pos' : Pos} (hN : X.N.Nodup) (he : IE X e fe) (hi : X.N[i]? = some x := by rfl) (hx : Loc X.env.scope x := by first | exact Or.inl rfl | exact Or.inr rfl)
    (hs : swapsWithSole [.Name x pos'] e pos.line X.env = pure false := by rfl) (hw : swappedStores [.Name x pos'] e X.env = pure none := by rfl)
    (h1 : (assignEach [.Name x pos'] X.env).map (·.2) = [assign (.Name x pos') X.env] := by rfl)
    (hf : X.fn x = true ∨ X.env.scope.names.lookup x = some .local := by first | exact .inl rfl | exact .inr rfl | assumption) :
    IS X (.Assign [.Name x pos'] e pos) (sSet i fe) := (ps_asg he (pg_name hN hi hx hf) hs hw h1).wk fun D σ H ⟨φ, σg, S, r, rs, rl, e, q⟩ => by
  obtain ⟨⟨x, S1⟩, e1, e2⟩ := Option.map_eq_some_iff.mp e
  cases e2
  exact tE_ok rs rl e1 fun φ1 H1 v1 p1 r1 l1 => q φ1 H1 _ p1 (l1.set r1 i)
abbrev PIpG (X : Cx) (op : Operator) (go : G → G → Sto → Option (G × Sto)) : Prop := PIp X op (rG2 X.K go)
theorem is_aug (i : Nat) {x : Str} {op : Operator} {go : G → G → Sto → Option (G × Sto)} {pos' : Pos} (hN : X.N.Nodup) (ho : PIpG X op go) (he : IE X e fe) (hi : X.N[i]? = some x := by rfl) (hx : Loc X.env.scope x := by first | exact Or.inl rfl | exact Or.inr rfl)
    (hf : X.fn x = true ∨ X.env.scope.names.lookup x = some .local := by first | exact .inl rfl | exact .inr rfl | assumption) :
    IS X (.AugAssign (.Name x pos') op e pos) (sAug i go fe) := (ps_aug hN hi hx he ho hf).wk fun D σ H ⟨φ, σg, S, r, rs, rl, e, q⟩ => by
  obtain ⟨⟨x, S0⟩, e0, e⟩ := Option.bind_eq_some_iff.mp e
  obtain ⟨⟨y, S1⟩, e1, e⟩ := Option.bind_eq_some_iff.mp e
  obtain ⟨⟨z, S2⟩, e2, e3⟩ := Option.map_eq_some_iff.mp e
  cases e3
  unfold fVar at e0
  split at e0
  · rename_i g' hg
    cases e0
    obtain ⟨v, h1, h2⟩ := rl.at' i _ hg
    exact ⟨v, h1, tE_ok rs rl e1 fun φ1 H1 v1 p1 r1 l1 => ⟨φ1, S1, _, y, z, S2, p1.rs, h2.post p1, r1, e2, fun φ2 H2 v2 p2 r2 => q φ2 H2 _ (p1.trans p2) ((l1.post p2).set r2 i)⟩⟩
  · cases e0

/-! ### targets -/
def setsV : L2.St → List Nat → List V → L2.St
  | σ, i :: is, g :: gs => setsV (σ.set i (some g)) is gs
  | σ, _, _ => σ
def gT (K : PySem.W.Frag) : Tg → TG
  | .one i => fun v σ H Q => Q (σ.set i (some v)) H
  | .many is => fun v σ H Q => ∃ a xs, v = .ref a ∧ SqT K H a xs ∧ xs.length = is.length ∧ Q (setsV σ is xs) H
def gM (is : List Nat) : TGs := fun vs σ H Q => vs.length = is.length ∧ Q (setsV σ is vs) H
abbrev IG (X : Cx) (target : Expr) (tg : Tg) : Prop := PG X target (gT X.K tg)
theorem ig_name (i : Nat) {x : Str} (hN : X.N.Nodup) (hi : X.N[i]? = some x := by rfl) (hx : Loc X.env.scope x := by first | exact Or.inl rfl | exact Or.inr rfl) (hf : X.fn x = true ∨ X.env.scope.names.lookup x = some .local := by first | exact .inl rfl | exact .inr rfl | assumption) : IG X (.Name x pos) (.one i) := pg_name hN hi hx hf
theorem igs_nil : PGs X [] (gM []) := ⟨fun pins s σ H vs us Q I r h => pgs_nil.run pins s σ H vs us Q I r (by
  obtain ⟨h1, h2⟩ := h
  cases vs with
  | nil => exact ⟨rfl, h2⟩
  | cons v vs => cases h1)⟩
theorem igs_cons (i : Nat) {x : Str} {is : List Nat} {es : List Expr} (hN : X.N.Nodup) (h2 : PGs X es (gM is)) (hi : X.N[i]? = some x := by rfl) (hx : Loc X.env.scope x := by first | exact Or.inl rfl | exact Or.inr rfl)
    (hf : X.fn x = true ∨ X.env.scope.names.lookup x = some .local := by first | exact .inl rfl | exact .inr rfl | assumption)
    (hs : (assignEach (.Name x pos :: es) X.env).map (·.2) = assign (.Name x pos) X.env :: (assignEach es X.env).map (·.2) := by rfl) : PGs X (.Name x pos :: es) (gM (i :: is)) :=
  ⟨fun pins s σ H vs us Q I r h => (pgs_cons (pg_name hN hi hx hf) h2 hs).run pins s σ H vs us Q I r (by
    obtain ⟨h1, h2⟩ := h
    cases vs with
    | nil => cases h1
    | cons v vs => exact ⟨v, vs, rfl, by simpa using h1, h2⟩)⟩
theorem ig_tup {is : List Nat} {es : List Expr} {k : Nat} (hc : X.calm = true) (h : PGs X es (gM is))
    (hn : (assignEach es X.env).length = is.length := by rfl) (hst : (assignEach es X.env).findIdx? (·.1) = none := by rfl) : IG X (.Tuple es k pos) (.many is) :=
  ⟨fun pins s σ H v u Q I r h' => (pg_tup hc h hn hst).run pins s σ H v u Q I r (by
    obtain ⟨a, xs, e, hq, hl, q⟩ := h'
    exact ⟨a, xs, e, hq, hl, hl, q⟩)⟩
theorem setAll_ok {K : PySem.W.Frag} {φ : List Addr} {H : Hp} : ∀ {is : List Nat} {gs : List G} {xs : List V} {σg : Sl} {σ : L2.St}, RSl K φ H σg σ → RGs K φ H gs xs → RSl K φ H (setAll σg is gs) (setsV σ is xs)
  | [], _, _, _, _, l, _ => by unfold setAll setsV; exact l
  | i :: is, _, _, _, _, l, .nil => by unfold setAll setsV; exact l
  | i :: is, _, _, _, _, l, .cons r t => by unfold setAll setsV; exact setAll_ok (l.set r i) t
theorem gT_ok {K : PySem.W.Frag} {φ : List Addr} {H : Hp} {tg : Tg} {g : G} {v : V} {σg σ1 : Sl} {σ : L2.St} {Q : L2.St → Hp → Prop} (l : RSl K φ H σg σ) (r : RG K φ H g v) (h : tg.set g σg = some σ1) (q : ∀ σ2, RSl K φ H σ1 σ2 → Q σ2 H) : gT K tg v σ H Q := by
  cases tg with
  | one i => cases h; exact q _ (l.set r i)
  | many is =>
    cases r with
    | @tup a vs gs hq hr =>
      unfold Tg.set at h
      dsimp only at h
      split at h
      · rename_i hl
        cases h
        exact ⟨a, vs, rfl, hq, hr.len ▸ hl, q _ (setAll_ok l hr)⟩
      · cases h
    | _ => cases h
theorem is_unp {is : List Nat} {es : List Expr} {k : Nat} {tp : Pos} (he : IE X e fe) (hg : IG X (.Tuple es k tp) (.many is)) (hs : swapsWithSole [.Tuple es k tp] e pos.line X.env = pure false := by rfl) (hw : swappedStores [.Tuple es k tp] e X.env = pure none := by rfl)
    (h1 : (assignEach [.Tuple es k tp] X.env).map (·.2) = [assign (.Tuple es k tp) X.env] := by rfl) : IS X (.Assign [.Tuple es k tp] e pos) (sUnp is fe) := (ps_asg he hg hs hw h1).wk fun D σ H ⟨φ, σg, S, r, rs, rl, e, q⟩ => by
  obtain ⟨⟨x, S1⟩, e1, e⟩ := Option.bind_eq_some_iff.mp e
  refine tE_ok rs rl e1 fun φ1 H1 v1 p1 r1 l1 => ?_
  cases x with
  | tup gs =>
    dsimp only at e
    split at e
    · rename_i hl
      cases e
      exact gT_ok (tg := .many is) l1 r1 (if_pos hl) fun σ2 l2 => q φ1 H1 σ2 p1 l2
    · cases e
  | _ => cases e
theorem is_par (i j : Nat) {x y : Str} {px py pt : Pos} {kt k2 pt2} (hc : X.calm = true) (hN : X.N.Nodup) (hij : i ≠ j) (ha : IE X a fa) (hb : IE X b fb) (hi : X.N[i]? = some x := by rfl) (hj : X.N[j]? = some y := by rfl)
    (hx : X.env.scope.names.lookup x = some .local := by rfl) (hy : X.env.scope.names.lookup y = some .local := by rfl)
    (na : starEach [a, b] X.env = (false, eval a X.env) :: starEach [b] X.env := by rfl) (nb : starEach [b] X.env = (false, eval b X.env) :: starEach [] X.env := by rfl)
    (hw : swappedStores [.Tuple [.Name x px, .Name y py] kt pt] (.Tuple [a, b] k2 pt2) X.env = pure (some [x, y]) := by rfl)
    (hs : swapsWithSole [.Tuple [.Name x px, .Name y py] kt pt] (.Tuple [a, b] k2 pt2) pos.line X.env = pure false := by rfl) :
    IS X (.Assign [.Tuple [.Name x px, .Name y py] kt pt] (.Tuple [a, b] k2 pt2) pos) (sPar i j fa fb) := (ps_par hc hN hi hj hij hx hy (ia_cons ha (ia_cons hb ia_nil nb) na) hw hs).wk fun D σ H ⟨φ, σg, S, r, rs, rl, e, q⟩ => by
  obtain ⟨⟨x, S1⟩, e1, e⟩ := Option.bind_eq_some_iff.mp e
  obtain ⟨⟨y, S2⟩, e2, e⟩ := Option.bind_eq_some_iff.mp e
  cases e
  have e3 : faCons fa (faCons fb faNil) σg S = some ([x, y], S2) := by
    unfold faCons; rw [e1]; dsimp only [Option.bind]; rw [e2]; rfl
  refine tA_ok rs rl e3 fun φ1 H1 vs p1 r1 l1 => ?_
  cases r1 with
  | cons q1 t1 =>
    cases t1 with
    | cons q2 t2 =>
      cases t2
      exact ⟨_, _, rfl, q φ1 H1 _ p1 ((l1.set q1 i).set q2 j)⟩

/-! ### o[i] = v -/
def rPut (K : PySem.W.Frag) : TSet := fun o i v H Q => ∃ φ S go gi gv S', RS K φ S H ∧ RG K φ H go o ∧ RG K φ H gi i ∧ RG K φ H gv v ∧ putAt go gi gv S = some S' ∧ ∀ φ' H', Post K φ H S' φ' H' → Q H'
theorem keyOf_ok {K : PySem.W.Frag} {φ : List Addr} {H : Hp} {g : G} {v : V} {k : Key} (r : RG K φ H g v) (h : keyOf g = some k) : v = kV k := by
  cases r with
  | int i => cases h; rfl
  | str x => cases h; rfl
  | _ => cases h
theorem pset_g (hu : X.A.units + 1 < cLine) : PSet X (rPut X.K) := by
  intro pins s σ H o i v ov iv u Q I ro ri rv h
  obtain ⟨φ, S, go, gi, gv, S', rs, qo, qi, qv, e, q⟩ := h
  cases qo with
  | @loc n a hn =>
    unfold putAt at e
    dsimp only at e
    split at e
    · rename_i gs hg
      cases qi with
      | int k =>
        dsimp only at e
        obtain ⟨j, hj, e2⟩ := Option.map_eq_some_iff.mp e
        cases e2
        obtain ⟨vs, h1, h2⟩ := rs.cell n a _ hn hg
        have hj' : ixN vs.length k = some j := by rw [← h2.len]; exact hj
        exact set_list pins s σ H _ _ _ ov iv u Q I ro ri rv ⟨a, vs, k, j, rfl, rfl, h1, hj', q φ _ (rs.write hn hg rfl rfl h1 rfl ⟨_, upd_same, (RGs.set qv j h2).mono (List.prefix_refl _) (.wr h1 rfl)⟩)⟩
      | _ => cases e
    · rename_i ks hk
      obtain ⟨k, ek, e2⟩ := Option.bind_eq_some_iff.mp e
      split at e2
      · rename_i hl
        cases e2
        obtain ⟨vs, h1, h2⟩ := rs.cell n a _ hn hk
        have ey := keyOf_ok qi ek
        subst ey
        have hl' : vs.length < sizeLine := by rw [← h2.len]; exact hl
        cases ro
        refine d_setItem hu I (DPut.k (k := k) (v := v) h1 hl') ri rv fun s' I' => ⟨_, I', q φ _ (rs.write hn hk rfl rfl h1 rfl ⟨_, upd_same, ?_⟩)⟩
        exact (h2.put k qv).mono (List.prefix_refl _) (.wr h1 rfl)
      · cases e2
    · cases e
  | _ => cases e
theorem is_put {o i : Expr} {fo fi fv : FE} {pos' : Pos} (hu : X.A.units + 1 < cLine) (ho : IE X o fo) (hi : IE X i fi) (hv : IE X e fv)
    (ha : ∀ v, assign (.Subscript o i pos') X.env v = (do
      let ov ← holding [v] (eval o X.env)
      let iv ← holding [v, ov] (eval i X.env)
      standAt pos'
      holding [v, ov, iv] (setItem ov iv v)
      release [v, ov, iv] []) := by intro _; rfl)
    (hs : swapsWithSole [.Subscript o i pos'] e pos.line X.env = pure false := by rfl) (hw : swappedStores [.Subscript o i pos'] e X.env = pure none := by rfl)
    (h1 : (assignEach [.Subscript o i pos'] X.env).map (·.2) = [assign (.Subscript o i pos') X.env] := by rfl) : IS X (.Assign [.Subscript o i pos'] e pos) (sPut fo fi fv) := (ps_asg hv (pg_sub ho hi (pset_g hu) ha) hs hw h1).wk fun D σ H ⟨φ, σg, S, r, rs, rl, e, q⟩ => by
  obtain ⟨⟨x, S1⟩, e1, e⟩ := Option.bind_eq_some_iff.mp e
  obtain ⟨⟨y, S2⟩, e2, e⟩ := Option.bind_eq_some_iff.mp e
  obtain ⟨⟨z, S3⟩, e3, e⟩ := Option.bind_eq_some_iff.mp e
  obtain ⟨S4, e4, e⟩ := Option.map_eq_some_iff.mp e
  cases e
  exact tE_ok rs rl e1 fun φ1 H1 v1 p1 r1 l1 => tE_ok p1.rs l1 e2 fun φ2 H2 v2 p2 r2 l2 => tE_ok p2.rs l2 e3 fun φ3 H3 v3 p3 r3 l3 =>
    ⟨φ3, S3, y, z, x, S4, p3.rs, r2.post p3, r3, (r1.post p2).post p3, e4, fun φ' H' p => q φ' H' σ (((p1.trans p2).trans p3).trans p) (l3.post p)⟩

/-! ### what is walked -/
def Snap (K : PySem.W.Frag) (φ : List Addr) (H : Hp) (lk : Sto → Prop) (gs : List G) (J : It) : Prop :=
  ∀ φ3 H3 S3, Post K φ H S3 φ3 H3 → lk S3 → ∀ i, (∀ g, gs[i]? = some g → J.go i H3 ∧ ∀ x H', J.yld i H3 x H' → Post K φ3 H3 S3 φ3 H' ∧ RG K φ3 H' g x) ∧ (gs[i]? = none → J.stop i H3)
def tI (K : PySem.W.Frag) (fi : FI) : TI := fun σ H R => ∃ φ σg S gs lk S', RS K φ S H ∧ RSl K φ H σg σ ∧ fi σg S = some (gs, lk, S') ∧ ∀ φ' H' J, Post K φ H S' φ' H' → Snap K φ' H' lk gs J → R J H'
abbrev II (X : Cx) (tg iter : Expr) (fi : FI) : Prop := PI X tg iter (tI X.K fi)
theorem _root_.L2.PI.wk {tg iter : Expr} {t t' : TI} (h : PI X tg iter t) (w : ∀ σ H Q, t' σ H Q → t σ H Q) : PI X tg iter t' := ⟨fun pins s σ H Q I q => h.run pins s σ H Q I (w _ _ _ q)⟩
/-- a tuple -/
def iTupF (fe : FE) : FI := fun σ S => (fe σ S).bind fun
  | (.tup gs, S') => some (gs, fun _ => True, S')
  | _ => none
/-- a list that the loop leaves as it is -/
def iLstF (fe : FE) : FI := fun σ S => (fe σ S).bind fun
  | (.loc n, S') => (getL S' n).map fun gs => (gs, fun S3 => getL S3 n = some gs, S')
  | _ => none
def signsG (z : Str) : List G := z.cps.toList.map fun c => G.str ⟨#[c]⟩
/-- a tuple, a list, a text, whichever it is -/
def iSeqF (fe : FE) : FI := fun σ S => (fe σ S).bind fun
  | (.tup gs, S') => some (gs, fun _ => True, S')
  | (.loc n, S') => (getL S' n).map fun gs => (gs, fun S3 => getL S3 n = some gs, S')
  | (.str z, S') => some (signsG z, fun _ => True, S')
  | _ => none
def intsG (lo : Int) (n : Nat) : List G := (List.range n).map fun (k : Nat) => G.int (lo + (k : Int))
def iRng1F (fa : FA) : FI := fun σ S => (fa σ S).bind fun
  | ([.int j], S') => if -(2 ^ 62) ≤ j ∧ j < 2 ^ 62 then some (intsG 0 j.toNat, fun _ => True, S') else none
  | _ => none
def iRng2F (fa : FA) : FI := fun σ S => (fa σ S).bind fun
  | ([.int i, .int j], S') => if -(2 ^ 62) ≤ i ∧ i < 2 ^ 62 ∧ -(2 ^ 62) ≤ j ∧ j < 2 ^ 62 then some (intsG i (j - i).toNat, fun _ => True, S') else none
  | _ => none
theorem intsG_get (lo : Int) (n i : Nat) : (intsG lo n)[i]? = if i < n then some (G.int (lo + (i : Int))) else none := by
  unfold intsG
  rw [List.getElem?_map]
  by_cases h : i < n
  · simp [h]
  · simp [h]
theorem ii_tup {tg : Expr} (he : IE X e fe) : II X tg e (iTupF fe) := (pi_tup he).wk fun σ H R ⟨φ, σg, S, gs, lk, S', rs, rl, e, q⟩ => by
  obtain ⟨⟨x, S1⟩, e1, e⟩ := Option.bind_eq_some_iff.mp e
  refine tE_ok rs rl e1 fun φ1 H1 v1 p1 r1 l1 => ?_
  cases r1 with
  | @tup a vs gs' hq hr =>
    cases e
    refine ⟨a, rfl, ⟨vs, hq⟩, q φ1 H1 _ p1 fun φ3 H3 S3 p3 _ i => ⟨fun g hg => ?_, fun hg => ?_⟩⟩
    · have hq3 := p3.keep.sqT hq
      obtain ⟨v, h1, h2⟩ := (hr.post p3).get hg
      exact ⟨⟨vs, v, hq3, h1⟩, fun x H' ⟨eH, y⟩ => by
        subst eH
        have := y vs hq3
        rw [h1] at this; cases this
        exact ⟨p3.rs.post, h2⟩⟩
    · refine ⟨vs, p3.keep.sqT hq, ?_⟩
      rw [← hr.len]; exact List.getElem?_eq_none_iff.mp hg
  | _ => cases e
theorem ii_lst {tg : Expr} (he : IE X e fe) : II X tg e (iLstF fe) := (pi_list he).wk fun σ H R ⟨φ, σg, S, gs, lk, S', rs, rl, e, q⟩ => by
  obtain ⟨⟨x, S1⟩, e1, e⟩ := Option.bind_eq_some_iff.mp e
  refine tE_ok rs rl e1 fun φ1 H1 v1 p1 r1 l1 => ?_
  cases r1 with
  | @loc n a hn =>
    obtain ⟨gs', hg', e⟩ := Option.map_eq_some_iff.mp e
    cases e
    obtain ⟨vs, hq, hr⟩ := p1.rs.list hn hg'
    refine ⟨a, rfl, ⟨vs, hq⟩, q φ1 H1 _ p1 fun φ3 H3 S3 p3 hlk i => ?_⟩
    have hn3 : φ3[n]? = some a := pre_get p3.pre hn
    obtain ⟨vs3, hq3, hr3⟩ := p3.rs.list hn3 hlk
    refine ⟨fun g hg => ?_, fun hg => ?_⟩
    · obtain ⟨v, h1, h2⟩ := hr3.get hg
      exact ⟨⟨vs3, v, hq3, h1⟩, fun x H' ⟨eH, y⟩ => by
        subst eH
        have := y vs3 hq3
        rw [h1] at this; cases this
        exact ⟨p3.rs.post, h2⟩⟩
    · refine ⟨vs3, hq3, ?_⟩
      rw [← hr3.len]; exact List.getElem?_eq_none_iff.mp hg
  | _ => cases e
def iStrF (fe : FE) : FI := fun σ S => (fe σ S).bind fun
  | (.str z, S') => some (signsG z, fun _ => True, S')
  | _ => none
theorem ii_str {tg : Expr} (he : IE X e fe) : II X tg e (iStrF fe) := (pi_str he).wk fun σ H R ⟨φ, σg, S, gs, lk, S', rs, rl, e, q⟩ => by
  obtain ⟨⟨x, S1⟩, e1, e⟩ := Option.bind_eq_some_iff.mp e
  refine tE_ok rs rl e1 fun φ1 H1 v1 p1 r1 l1 => ?_
  cases r1 with
  | str z =>
    cases e
    refine ⟨z, rfl, q φ1 H1 _ p1 fun φ3 H3 S3 p3 _ i => ?_⟩
    have hl : (signsG z).length = z.cps.size := by simp [signsG]
    refine ⟨fun g hg => ?_, fun hg => ?_⟩
    · have hi : i < z.cps.size := by rw [← hl]; exact (List.getElem?_eq_some_iff.mp hg).1
      refine ⟨hi, fun x H' ⟨eH, c, ec, ev⟩ => ?_⟩
      subst eH ev
      have : g = .str ⟨#[c]⟩ := by
        unfold signsG at hg
        rw [List.getElem?_map] at hg
        have e2 : z.cps.toList[i]? = some c := by simpa using ec
        rw [e2] at hg
        cases hg
        rfl
      subst this
      exact ⟨p3.rs.post, .str _⟩
    · show z.cps.size ≤ i
      rw [← hl]; exact List.getElem?_eq_none_iff.mp hg
  | _ => cases e
theorem ii_seq {tg : Expr} (he : IE X e fe) : II X tg e (iSeqF fe) := ⟨fun pins s σ H R I ⟨φ, σg, S, gs, lk, S', rs, rl, e, q⟩ => by
  obtain ⟨⟨x, S1⟩, e1, e⟩ := Option.bind_eq_some_iff.mp e
  cases x with
  | tup gs' => exact (ii_tup he).run pins s σ H R I ⟨φ, σg, S, gs, lk, S', rs, rl, by unfold iTupF; rw [e1]; exact e, q⟩
  | loc n => exact (ii_lst he).run pins s σ H R I ⟨φ, σg, S, gs, lk, S', rs, rl, by unfold iLstF; rw [e1]; exact e, q⟩
  | str z => exact (ii_str he).run pins s σ H R I ⟨φ, σg, S, gs, lk, S', rs, rl, by unfold iStrF; rw [e1]; exact e, q⟩
  | _ => cases e⟩
theorem snap_rng {K : PySem.W.Frag} {φ : List Addr} {H : Hp} (lo : Int) (n : Nat) : Snap K φ H (fun _ => True) (intsG lo n) (Itr lo n) := fun φ3 H3 S3 p3 _ i => by
  rw [intsG_get]
  by_cases h : i < n
  · rw [if_pos h]
    refine ⟨fun g hg => ?_, fun hg => nomatch hg⟩
    cases hg
    refine ⟨h, fun x H' ⟨e1, e2⟩ => ?_⟩
    subst e1 e2
    exact ⟨p3.rs.post, .int _⟩
  · rw [if_neg h]
    exact ⟨fun g hg => (nomatch hg), fun _ => Nat.le_of_not_lt h⟩
theorem ii_rng1 {tg a : Expr} {f : FA} {p pos : Pos} (hm : X.mg "range" = none) (ha : IA X [a] f) (hg : Gl X "range" := by rfl) (hs : starEach [a] X.env = [(false, eval a X.env)] := by rfl) : II X tg (.Call (.Name "range" p) [a] [] pos) (iRng1F f) :=
  (pi_range1 hg hm ha hs).wk fun σ H R ⟨φ, σg, S, gs, lk, S', rs, rl, e, q⟩ => by
    obtain ⟨⟨xs, S1⟩, e1, e⟩ := Option.bind_eq_some_iff.mp e
    refine tA_ok rs rl e1 fun φ1 H1 vs p1 r1 l1 => ?_
    split at e
    · rename_i j S2 eq
      cases eq
      split at e
      · rename_i hj
        cases e
        cases r1 with
        | cons r t =>
          cases r
          cases t
          exact ⟨j, rfl, hj.1, hj.2, q φ1 H1 _ p1 (snap_rng 0 j.toNat)⟩
      · cases e
    · cases e
theorem ii_rng2 {tg a b : Expr} {f : FA} {p pos : Pos} (hm : X.mg "range" = none) (ha : IA X [a, b] f) (hg : Gl X "range" := by rfl) (hs : starEach [a, b] X.env = [(false, eval a X.env), (false, eval b X.env)] := by rfl) (hs2 : starEach [b] X.env = [(false, eval b X.env)] := by rfl) : II X tg (.Call (.Name "range" p) [a, b] [] pos) (iRng2F f) :=
  (pi_range2 hg hm ha hs hs2).wk fun σ H R ⟨φ, σg, S, gs, lk, S', rs, rl, e, q⟩ => by
    obtain ⟨⟨xs, S1⟩, e1, e⟩ := Option.bind_eq_some_iff.mp e
    refine tA_ok rs rl e1 fun φ1 H1 vs p1 r1 l1 => ?_
    split at e
    · rename_i i j S2 eq
      cases eq
      split at e
      · rename_i hj
        cases e
        cases r1 with
        | cons r t =>
          cases r
          cases t with
          | cons r t =>
            cases r
            cases t
            exact ⟨i, j, rfl, hj, q φ1 H1 _ p1 (snap_rng i _)⟩
      · cases e
    · cases e

/-! ### for, while -/
theorem is_for {tg iter : Expr} {body : List Stmt} {fi : FI} {t : Tg} {fb : FS} (hp : PassesOwn (model X.prog X.w) X.A X.env X.xe) (hc : X.calm = true) (hi : II X tg iter fi) (hg : IG X tg t) (hb : ISs X body fb)
    (hs : ∀ x, foldedSetIterable iter X.env x = pure x := by intro _; rfl) : IS X (.For tg iter body [] pos) (sFor fi t fb) := (ps_for hp hc hi hg hb hs).wk fun D σ H ⟨φ, σg, S, r, rs, rl, e, ends⟩ => by
  obtain ⟨⟨gs, lk, S1⟩, e1, e2⟩ := Option.bind_eq_some_iff.mp e
  dsimp only at e2
  refine ⟨φ, σg, S, gs, lk, S1, rs, rl, e1, fun φ1 H1 J p1 snap => ?_⟩
  refine ⟨fun i m σ3 H3 => m = gs.length - i ∧ i ≤ gs.length ∧ ∃ φ3 σg3 S3, Post X.K φ1 H1 S3 φ3 H3 ∧ RSl X.K φ3 H3 σg3 σ3 ∧ loopG lk t fb (gs.drop i) σg3 S3 = some r, ⟨gs.length, by simp, Nat.zero_le _, φ1, σg, S1, p1.rs.post, rl.post p1, e2⟩, ?_⟩
  rintro i m σ3 H3 ⟨rfl, hi, φ3, σg3, S3, p3, l3, e3⟩
  by_cases hlt : i < gs.length
  · have hd : gs.drop i = gs[i] :: gs.drop (i + 1) := List.drop_eq_getElem_cons hlt
    rw [hd] at e3
    unfold loopG at e3
    split at e3
    · rename_i hlk
      have sn := snap φ3 H3 S3 p3 hlk i
      obtain ⟨go, yl⟩ := sn.1 gs[i] (by simp [hlt])
      obtain ⟨σ1g, es, e3⟩ := Option.bind_eq_some_iff.mp e3
      obtain ⟨r', eb, e3⟩ := Option.bind_eq_some_iff.mp e3
      refine .inr ⟨go, fun σ4 H4 => ∃ φ4 σg4 S4, Post X.K φ1 H1 S4 φ4 H4 ∧ RSl X.K φ4 H4 σg4 σ4 ∧ loopG lk t fb (gs.drop (i + 1)) σg4 S4 = some r, fun σ4 H4 n => ⟨gs.length - (i + 1), by omega, rfl, hlt, n⟩, fun x H' y => ?_⟩
      obtain ⟨py, ry⟩ := yl x H' y
      refine gT_ok (l3.post py) ry es fun σ2 l2 => tS_ok py.rs l2 eb ?_
      have p4 := p3.trans py
      cases r' with
      | nx σ' S' => exact fun φ' H'' σ'' p l => ⟨φ', σ', S', p4.trans p, l, e3⟩
      | ct σ' S' => exact fun φ' H'' σ'' p l => ⟨φ', σ', S', p4.trans p, l, e3⟩
      | bk σ' S' => cases e3; exact fun φ' H'' σ'' p l => ends φ' H'' σ'' ((p1.trans p4).trans p) l
      | rt v S' => cases e3; exact fun φ' H'' σ'' p l => ends φ' H'' σ'' ((p1.trans p4).trans p) l
    · cases e3
  · have e : i = gs.length := by omega
    subst e
    rw [List.drop_length] at e3
    unfold loopG at e3
    split at e3
    · rename_i hlk
      cases e3
      exact .inl ⟨(snap φ3 H3 S3 p3 hlk gs.length).2 (by simp), ends φ3 H3 σ3 (p1.trans p3) l3⟩
    · cases e3
theorem is_while {n : Nat} {body : List Stmt} {fb : FS} (hp : PassesOwn (model X.prog X.w) X.A X.env X.xe) (hc : IT X c t) (hb : ISs X body fb) : IS X (.While c body [] pos) (sWhile n t fb) := (ps_while hp hc hb).wk fun D σ H ⟨φ, σg, S, r, rs, rl, e, ends⟩ => by
  refine ⟨fun m σ3 H3 => ∃ φ3 σg3 S3, Post X.K φ H S3 φ3 H3 ∧ RSl X.K φ3 H3 σg3 σ3 ∧ whileG t fb m σg3 S3 = some r, ⟨n, φ, σg, S, rs.post, rl, e⟩, ?_⟩
  rintro m σ3 H3 ⟨φ3, σg3, S3, p3, l3, e3⟩
  cases m with
  | zero => cases e3
  | succ m =>
    obtain ⟨⟨b, S4⟩, e4, e5⟩ := Option.bind_eq_some_iff.mp e3
    refine tT_ok p3.rs l3 e4 fun φ4 H4 p4 l4 => ?_
    cases b with
    | false => cases e5; exact ends φ4 H4 σ3 (p3.trans p4) l4
    | true =>
      obtain ⟨r', eb, e5⟩ := Option.bind_eq_some_iff.mp e5
      refine ⟨fun σ5 H5 => ∃ φ5 σg5 S5, Post X.K φ H S5 φ5 H5 ∧ RSl X.K φ5 H5 σg5 σ5 ∧ whileG t fb m σg5 S5 = some r, fun σ5 H5 n5 => ⟨m, Nat.lt_succ_self m, n5⟩, tS_ok p4.rs l4 eb ?_⟩
      have p5 := p3.trans p4
      cases r' with
      | nx σ' S' => exact fun φ' H'' σ'' p l => ⟨φ', σ', S', p5.trans p, l, e5⟩
      | ct σ' S' => exact fun φ' H'' σ'' p l => ⟨φ', σ', S', p5.trans p, l, e5⟩
      | bk σ' S' => cases e5; exact fun φ' H'' σ'' p l => ends φ' H'' σ'' (p5.trans p) l
      | rt v S' => cases e5; exact fun φ' H'' σ'' p l => ends φ' H'' σ'' (p5.trans p) l

/-! ### comprehensions -/
theorem wipeG_ok {K : PySem.W.Frag} {φ : List Addr} {H : Hp} {σg : Sl} {σ : L2.St} (l : RSl K φ H σg σ) : ∀ vs : List Nat, RSl K φ H (wipeG σg vs) (wipe σ vs)
  | [] => l
  | v :: vs => by
    have h := wipeG_ok l vs
    refine ⟨by show ((wipeG σg vs).set v none).length = ((wipe σ vs).set v none).length; rw [List.length_set, List.length_set]; exact h.len, fun i g e => ?_⟩
    have e : ((wipeG σg vs).set v none)[i]? = some (some g) := e
    show ∃ w, ((wipe σ vs).set v none)[i]? = some (some w) ∧ _
    by_cases q : v = i
    · subst q
      rw [List.getElem?_set] at e
      simp at e
    · rw [List.getElem?_set_ne q] at e ⊢
      exact h.at' i g e
theorem wipe_get (τ : L2.St) (j : Nat) : ∀ vs : List Nat, (wipe τ vs)[j]? = if j ∈ vs then (if j < τ.length then some none else none) else τ[j]?
  | [] => by simp [wipe]
  | v :: vs => by
    have ih := wipe_get τ j vs
    show ((wipe τ vs).set v none)[j]? = _
    by_cases q : v = j
    · subst q
      rw [List.getElem?_set, if_pos rfl, wipe_length]
      simp
    · rw [List.getElem?_set_ne q, ih]
      have q' : ¬ j = v := fun z => q z.symm
      simp [q']
theorem wipe_set {τ : L2.St} {i : Nat} {x : Option V} {vs : List Nat} (h : i ∈ vs) : wipe (τ.set i x) vs = wipe τ vs := by
  apply List.ext_getElem?
  intro j
  rw [wipe_get, wipe_get, List.length_set]
  by_cases q : j ∈ vs
  · rw [if_pos q, if_pos q]
  · rw [if_neg q, if_neg q]
    have : i ≠ j := fun z => q (z ▸ h)
    rw [List.getElem?_set_ne this]
theorem wipe_wipe (τ : L2.St) (vs : List Nat) : wipe (wipe τ vs) vs = wipe τ vs := by
  apply List.ext_getElem?
  intro j
  rw [wipe_get, wipe_get, wipe_length]
  by_cases q : j ∈ vs
  · rw [if_pos q, if_pos q]
  · rw [if_neg q]
theorem wipe_sets {vs : List Nat} : ∀ {is : List Nat} {xs : List V} {τ : L2.St}, (∀ i ∈ is, i ∈ vs) → wipe (setsV τ is xs) vs = wipe τ vs
  | [], _, _, _ => by unfold setsV; rfl
  | i :: is, [], _, _ => by unfold setsV; rfl
  | i :: is, x :: xs, τ, h => by
    unfold setsV
    rw [wipe_sets fun k hk => h k (List.mem_cons_of_mem _ hk), wipe_set (h i List.mem_cons_self)]
/-- a target's store within a block -/
theorem gT_blk {K : PySem.W.Frag} {φ : List Addr} {H : Hp} {tg : Tg} {g : G} {v : V} {σg σ1 : Sl} {σ : L2.St} {Q : L2.St → Hp → Prop} (l : RSl K φ H σg (wipe σ tg.idx)) (r : RG K φ H g v) (h : tg.set g σg = some σ1)
    (q : ∀ σ2, wipe σ2 tg.idx = wipe σ tg.idx → RSl K φ H σ1 σ2 → Q σ2 H) : gT K tg v (wipe σ tg.idx) H Q := by
  cases tg with
  | one i =>
    cases h
    refine q _ ?_ (l.set r i)
    rw [wipe_set (by simp [Tg.idx]), wipe_wipe]
  | many is =>
    cases r with
    | @tup a vs gs hq hr =>
      unfold Tg.set at h
      dsimp only at h
      split at h
      · rename_i hl
        cases h
        refine ⟨a, vs, rfl, hq, hr.len ▸ hl, q _ ?_ (setAll_ok l hr)⟩
        show wipe (setsV (wipe σ is) is vs) is = wipe σ is
        rw [wipe_sets (fun i hi => hi), wipe_wipe]
      · cases h
    | _ => cases h
abbrev ITs (X : Cx) (ifs : List Expr) (f : FT) : Prop := PTs X ifs (tT X.K f)
theorem its_nil : ITs X [] ttYes := ⟨fun pins s σ H Q I ⟨φ, σg, S, g, S', rs, rl, e, q⟩ => pts_nil.run pins s σ H Q I (by cases e; exact q φ H rs.post)⟩
theorem its_one (h : IT X c t) : ITs X [c] t := pts_one h
theorem lc_read {K : PySem.W.Frag} {fi : FI} {t : Tg} {tt : FT} {te : FE} {σ : L2.St} {H : Hp} {Q : VK} (h : tE K (fLc fi t tt te) σ H Q) : tLc (tI K fi) (gT K t) (tT K tt) (tE K te) t.idx σ H Q := by
  obtain ⟨φ, σg, S, g, S', rs, rl, e, q⟩ := h
  obtain ⟨⟨gs, lk, S1⟩, e1, e2⟩ := Option.bind_eq_some_iff.mp e
  obtain ⟨S2, e4, e3⟩ := Option.map_eq_some_iff.mp e2
  obtain ⟨rfl, rfl⟩ := Prod.mk.inj e3
  clear e3 e2
  have e2 := e4
  clear e4
  dsimp only at e2
  refine ⟨φ, σg, S, gs, lk, S1, rs, rl, e1, fun φ1 H1 J p1 snap D nD => ?_⟩
  obtain ⟨pD, rD⟩ := p1.rs.newList nD (gs := []) (vs := []) .nil
  have lD : ∀ {φ3 : List Addr} {H3 : Hp} {S3 : Sto}, Post K (φ1 ++ [D]) (upd H1 D (.lst [])) S3 φ3 H3 → φ3[S1.length]? = some D := fun p3 => pre_get p3.pre (by rw [← p1.rs.len]; simp)
  refine ⟨fun i m H3 => m = gs.length - i ∧ i ≤ gs.length ∧ ∃ φ3 S3, Post K (φ1 ++ [D]) (upd H1 D (.lst [])) S3 φ3 H3 ∧ compG S1.length lk t tt te (wipeG σg t.idx) (gs.drop i) S3 = some S2, ⟨gs.length, by simp, Nat.zero_le _, _, _, pD.rs.post, e2⟩, ?_⟩
  rintro i m H3 ⟨rfl, hi, φ3, S3, p3, e3⟩
  have p03 := (p1.trans pD).trans p3
  by_cases hlt : i < gs.length
  · have hd : gs.drop i = gs[i] :: gs.drop (i + 1) := List.drop_eq_getElem_cons hlt
    rw [hd] at e3
    unfold compG at e3
    split at e3
    · rename_i hlk
      have sn := snap φ3 H3 S3 (pD.trans p3) hlk i
      obtain ⟨go, yl⟩ := sn.1 gs[i] (by simp [hlt])
      obtain ⟨σ1g, es, e3⟩ := Option.bind_eq_some_iff.mp e3
      obtain ⟨⟨b, S4⟩, eb, e3⟩ := Option.bind_eq_some_iff.mp e3
      refine .inr ⟨go, fun H4 => ∃ φ4 S4, Post K (φ1 ++ [D]) (upd H1 D (.lst [])) S4 φ4 H4 ∧ compG S1.length lk t tt te (wipeG σg t.idx) (gs.drop (i + 1)) S4 = some S2, fun H4 n => ⟨gs.length - (i + 1), by omega, rfl, hlt, n⟩, fun x H' y => ?_⟩
      obtain ⟨py, ry⟩ := yl x H' y
      have l3 : RSl K φ3 H' (wipeG σg t.idx) (wipe σ t.idx) := wipeG_ok ((rl.post p03).post py) _
      refine gT_blk l3 ry es fun σ2 hw l2 => ⟨hw, tT_ok py.rs l2 eb fun φ4 H4 p4 l4 => ?_⟩
      have p34 := (p3.trans py).trans p4
      cases b with
      | false => exact ⟨φ4, _, p34, e3⟩
      | true =>
        obtain ⟨⟨yv, S5⟩, ey, e3⟩ := Option.bind_eq_some_iff.mp e3
        refine tE_ok p4.rs l4 ey fun φ5 H5 v5 p5 r5 l5 => ?_
        dsimp only at e3
        split at e3
        · rename_i acc hacc
          split at e3
          · rename_i hz
            have p35 := p34.trans p5
            have hD := lD p35
            obtain ⟨vs, h1, h2⟩ := p5.rs.cell _ D _ hD hacc
            refine ⟨vs, h1, by rw [← h2.len]; exact hz, φ5, _, p35.trans (p5.rs.write (c' := .lst (acc ++ [yv])) hD hacc rfl rfl h1 rfl ⟨_, upd_same, ?_⟩), e3⟩
            exact (h2.append (.one r5)).mono (List.prefix_refl _) (.wr h1 rfl)
          · cases e3
        · cases e3
    · cases e3
  · have e : i = gs.length := by omega
    subst e
    rw [List.drop_length] at e3
    unfold compG at e3
    split at e3
    · rename_i hlk
      cases e3
      exact .inl ⟨(snap φ3 H3 _ (pD.trans p3) hlk gs.length).2 (by simp), q φ3 H3 _ p03 (.loc (lD p3))⟩
    · cases e3
theorem dc_read {K : PySem.W.Frag} {fi : FI} {t : Tg} {tt : FT} {tk te : FE} {σ : L2.St} {H : Hp} {Q : VK} (h : tE K (fDc fi t tt tk te) σ H Q) : tDc (tI K fi) (gT K t) (tT K tt) (tE K tk) (tE K te) t.idx σ H Q := by
  obtain ⟨φ, σg, S, g, S', rs, rl, e, q⟩ := h
  obtain ⟨⟨gs, lk, S1⟩, e1, e2⟩ := Option.bind_eq_some_iff.mp e
  obtain ⟨S2, e4, e3⟩ := Option.map_eq_some_iff.mp e2
  obtain ⟨rfl, rfl⟩ := Prod.mk.inj e3
  clear e3 e2
  have e2 := e4
  clear e4
  dsimp only at e2
  refine ⟨φ, σg, S, gs, lk, S1, rs, rl, e1, fun φ1 H1 J p1 snap D nD => ?_⟩
  obtain ⟨pD, rD⟩ := p1.rs.newDic nD (gs := []) (vs := []) .nil
  have lD : ∀ {φ3 : List Addr} {H3 : Hp} {S3 : Sto}, Post K (φ1 ++ [D]) (upd H1 D (.dK [])) S3 φ3 H3 → φ3[S1.length]? = some D := fun p3 => pre_get p3.pre (by rw [← p1.rs.len]; simp)
  refine ⟨fun i m H3 => m = gs.length - i ∧ i ≤ gs.length ∧ ∃ φ3 S3, Post K (φ1 ++ [D]) (upd H1 D (.dK [])) S3 φ3 H3 ∧ compD S1.length lk t tt tk te (wipeG σg t.idx) (gs.drop i) S3 = some S2, ⟨gs.length, by simp, Nat.zero_le _, _, _, pD.rs.post, e2⟩, ?_⟩
  rintro i m H3 ⟨rfl, hi, φ3, S3, p3, e3⟩
  have p03 := (p1.trans pD).trans p3
  by_cases hlt : i < gs.length
  · have hd : gs.drop i = gs[i] :: gs.drop (i + 1) := List.drop_eq_getElem_cons hlt
    rw [hd] at e3
    unfold compD at e3
    split at e3
    · rename_i hlk
      have sn := snap φ3 H3 S3 (pD.trans p3) hlk i
      obtain ⟨go, yl⟩ := sn.1 gs[i] (by simp [hlt])
      obtain ⟨σ1g, es, e3⟩ := Option.bind_eq_some_iff.mp e3
      obtain ⟨⟨b, S4⟩, eb, e3⟩ := Option.bind_eq_some_iff.mp e3
      refine .inr ⟨go, fun H4 => ∃ φ4 S4, Post K (φ1 ++ [D]) (upd H1 D (.dK [])) S4 φ4 H4 ∧ compD S1.length lk t tt tk te (wipeG σg t.idx) (gs.drop (i + 1)) S4 = some S2, fun H4 n => ⟨gs.length - (i + 1), by omega, rfl, hlt, n⟩, fun x H' y => ?_⟩
      obtain ⟨py, ry⟩ := yl x H' y
      have l3 : RSl K φ3 H' (wipeG σg t.idx) (wipe σ t.idx) := wipeG_ok ((rl.post p03).post py) _
      refine gT_blk l3 ry es fun σ2 hw l2 => ⟨hw, tT_ok py.rs l2 eb fun φ4 H4 p4 l4 => ?_⟩
      have p34 := (p3.trans py).trans p4
      cases b with
      | false => exact ⟨φ4, _, p34, e3⟩
      | true =>
        obtain ⟨⟨kv, S5⟩, ek, e3⟩ := Option.bind_eq_some_iff.mp e3
        obtain ⟨⟨yv, S6⟩, ey, e3⟩ := Option.bind_eq_some_iff.mp e3
        obtain ⟨key, eK, e3⟩ := Option.bind_eq_some_iff.mp e3
        refine tE_ok p4.rs l4 ek fun φ5 H5 v5 p5 r5 l5 => tE_ok p5.rs l5 ey fun φ6 H6 v6 p6 r6 l6 => ?_
        dsimp only at e3
        split at e3
        · rename_i acc hacc
          split at e3
          · rename_i hz
            have p36 := (p34.trans p5).trans p6
            have hD := lD p36
            obtain ⟨vs, h1, h2⟩ := p6.rs.cell _ D _ hD hacc
            refine ⟨vs, key, keyOf_ok r5 eK, h1, by rw [← h2.len]; exact hz, φ6, _, p36.trans (p6.rs.write (c' := .dic (putG acc key yv)) hD hacc rfl rfl h1 rfl ⟨_, upd_same, ?_⟩), e3⟩
            exact (h2.put key r6).mono (List.prefix_refl _) (.wr h1 rfl)
          · cases e3
        · cases e3
    · cases e3
  · have e : i = gs.length := by omega
    subst e
    rw [List.drop_length] at e3
    unfold compD at e3
    split at e3
    · rename_i hlk
      cases e3
      exact .inl ⟨(snap φ3 H3 _ (pD.trans p3) hlk gs.length).2 (by simp), q φ3 H3 _ p03 (.loc (lD p3))⟩
    · cases e3
theorem ie_lc {elt tg iter : Expr} {ifs : List Expr} {scope : Scope} (own : List (Str × Nat)) {fi : FI} {t : Tg} {tt : FT} {te : FE} (hc : X.calm = true) (hN : X.N.Nodup) (hi : II X tg iter fi) (ok : BlkOk X.N X.env.scope scope own) (hv : own.map (·.2) = t.idx)
    (hg : ∀ (s : Shared) (H : Hp) (C : Addr) (cl : List (Str × Addr)) (fp : List Addr), IG (X.blk s H scope (compEnvC scope cl C X.env) fp) tg t) (ht : ∀ (s : Shared) (H : Hp) (C : Addr) (cl : List (Str × Addr)) (fp : List Addr), ITs (X.blk s H scope (compEnvC scope cl C X.env) fp) ifs tt)
    (he : ∀ (s : Shared) (H : Hp) (C : Addr) (cl : List (Str × Addr)) (fp : List Addr), IE (X.blk s H scope (compEnvC scope cl C X.env) fp) elt te) (hs : ∀ x, foldedSetIterable iter X.env x = pure x := by intro _; rfl) :
    IE X (.ListComp elt [⟨tg, iter, ifs, 0⟩] scope pos) (fLc fi t tt te) := (pe_lc (g := gT X.K t) (tt := tT X.K tt) (te := tE X.K te) hc hN hi ok hg ht he hs).wk fun σ H Q h => by rw [hv]; exact lc_read h
theorem is_setLc (i : Nat) {y : Str} {py : Pos} {elt tg iter : Expr} {ifs : List Expr} {scope : Scope} (own : List (Str × Nat)) {spos : Pos} {fi : FI} {t : Tg} {tt : FT} {te : FE} (hc : X.calm = true) (hN : X.N.Nodup) (hi : II X tg iter fi) (ok : BlkOk X.N X.env.scope scope own) (hv : own.map (·.2) = t.idx)
    (hg : ∀ (s : Shared) (H : Hp) (C : Addr) (cl : List (Str × Addr)) (fp : List Addr), IG (X.blk s H scope (compEnvC scope cl C X.env) fp) tg t) (ht : ∀ (s : Shared) (H : Hp) (C : Addr) (cl : List (Str × Addr)) (fp : List Addr), ITs (X.blk s H scope (compEnvC scope cl C X.env) fp) ifs tt)
    (he : ∀ (s : Shared) (H : Hp) (C : Addr) (cl : List (Str × Addr)) (fp : List Addr), IE (X.blk s H scope (compEnvC scope cl C X.env) fp) elt te)
    (hsw : swapsWith (.ListComp elt [⟨tg, iter, ifs, 0⟩] scope pos) (some (.Name y py)) spos.line X.env = pure true) (hs : ∀ x, foldedSetIterable iter X.env x = pure x := by intro _; rfl) (hy : X.N[i]? = some y := by rfl) (hyl : X.env.scope.names.lookup y = some .local := by rfl) :
    IS X (.Assign [.Name y py] (.ListComp elt [⟨tg, iter, ifs, 0⟩] scope pos) spos) (sSet i (fLc fi t tt te)) := (ps_setLc (g := gT X.K t) (tt := tT X.K tt) (te := tE X.K te) hc hN hy hyl hsw hi ok hg ht he hs).wk fun D σ H ⟨φ, σg, S, r, rs, rl, e, q⟩ => by
  obtain ⟨⟨x, S1⟩, e1, e2⟩ := Option.map_eq_some_iff.mp e
  cases e2
  show tLc _ _ _ _ (own.map (·.2)) σ H _
  rw [hv]
  exact lc_read (tE_ok rs rl e1 fun φ1 H1 v1 p1 r1 l1 => q φ1 H1 _ p1 (l1.set r1 i))
theorem ie_dc {kx elt tg iter : Expr} {ifs : List Expr} {scope : Scope} (own : List (Str × Nat)) {fi : FI} {t : Tg} {tt : FT} {tk te : FE} (hc : X.calm = true) (hN : X.N.Nodup) (hi : II X tg iter fi) (ok : BlkOk X.N X.env.scope scope own) (hv : own.map (·.2) = t.idx)
    (hg : ∀ (s : Shared) (H : Hp) (C : Addr) (cl : List (Str × Addr)) (fp : List Addr), IG (X.blk s H scope (compEnvC scope cl C X.env) fp) tg t) (ht : ∀ (s : Shared) (H : Hp) (C : Addr) (cl : List (Str × Addr)) (fp : List Addr), ITs (X.blk s H scope (compEnvC scope cl C X.env) fp) ifs tt)
    (hk : ∀ (s : Shared) (H : Hp) (C : Addr) (cl : List (Str × Addr)) (fp : List Addr), IE (X.blk s H scope (compEnvC scope cl C X.env) fp) kx tk)
    (he : ∀ (s : Shared) (H : Hp) (C : Addr) (cl : List (Str × Addr)) (fp : List Addr), IE (X.blk s H scope (compEnvC scope cl C X.env) fp) elt te) (hs : ∀ x, foldedSetIterable iter X.env x = pure x := by intro _; rfl) :
    IE X (.DictComp kx elt [⟨tg, iter, ifs, 0⟩] scope pos) (fDc fi t tt tk te) := (pe_dc (g := gT X.K t) (tt := tT X.K tt) (tk := tE X.K tk) (tv := tE X.K te) hc hN hi ok hg ht hk he hs).wk fun σ H Q h => by rw [hv]; exact dc_read h

/-! ### calls -/
/-- what a def promises: it computes F -/
def spG (K : PySem.W.Frag) (np : Nat) (F : List G → Sto → Option (G × Sto)) : Sp := fun vs H Q _ => vs.length = np ∧ rGL K F vs H Q
abbrev FnG (P : Program) (w : World) (K : PySem.W.Frag) (mg : Str → Option Value) (base : Heap) (k : Nat) (f : Addr) (fd : FuncData) (ps : List Str) (F : List G → Sto → Option (G × Sto)) : Prop := FnOk P w K mg base CX0 k f fd ps (spG K ps.length F)
/-- one def's part in the table of what stands at the module's names -/
structure DefAt (P : Program) (w : World) (K : PySem.W.Frag) (mg : Str → Option Value) (base : Heap) (k : Nat) (x : Str) (np : Nat) (F : List G → Sto → Option (G × Sto)) : Prop where
  ex : ∃ (f : Addr) (fd : FuncData) (ps : List Str), ps.length = np ∧ FnG P w K mg base k f fd ps F ∧ mg x = some (.ref f) ∧ PySem.W.keepIn K (.ref f) = true ∧ Binds K fd ps []
  ar : ∀ gs S r, F gs S = some r → gs.length = np
theorem DefAt.mono {P : Program} {w : World} {K : PySem.W.Frag} {mg : Str → Option Value} {base : Heap} {j k : Nat} {x : Str} {np : Nat} {F : List G → Sto → Option (G × Sto)} (h : DefAt P w K mg base j x np F) (l : j ≤ k) : DefAt P w K mg base k x np F := by
  obtain ⟨f, fd, ps, h1, h2, h3, h4, h5⟩ := h.ex
  exact ⟨⟨f, fd, ps, h1, h2.mono l, h3, h4, h5⟩, h.ar⟩
theorem IA.len {f : FA} (ha : IA X es f) : True := trivial
theorem ie_call {k np : Nat} {x : Str} {p : Pos} {F : List G → Sto → Option (G × Sto)} {f : FA} (D : DefAt X.prog X.w X.K X.mg X.base k x np F) (hr : Room k X.A) (ha : IA X (e :: es) f) (hl : (e :: es).length = np := by rfl) (hg : Gl X x := by rfl)
    (hdb : (x == ("__debug__" : Str)) = false := by decide) (he : starEach (e :: es) X.env = (false, eval e X.env) :: starEach es X.env := by rfl) (hpl : (backTo pos (starEach es X.env)).any (·.1) = false := by rfl) :
    IE X (.Call (.Name x p) (e :: es) [] pos) (fCall F f) := by
  obtain ⟨fa, fd, ps, h1, h2, h3, h4, h5⟩ := D.ex
  refine (pe_call h2 hr hg h3 h4 h5 .nil pass0 ha hdb he hpl).wk fun σ H Q ⟨φ, σg, S, g, S', rs, rl, e, q⟩ => ?_
  obtain ⟨⟨xs, S1⟩, e1, e⟩ := Option.bind_eq_some_iff.mp e
  have hn := D.ar _ _ _ e
  refine tA_ok rs rl e1 fun φ1 H1 vs p1 r1 l1 => ?_
  rw [List.append_nil]
  exact ⟨by rw [← r1.len, hn, h1], φ1, S1, xs, g, S', p1.rs, r1, e, fun φ' H' v p r => q φ' H' v (p1.trans p) r⟩
theorem ie_callB {x : Str} {p : Pos} {id : String} {F : List G → Sto → Option (G × Sto)} {f : FA} (hc : CallG X (.builtin id) F) (hm : X.mg x = none) (ha : IA X (e :: es) f) (hv : bootBuiltins x = some (.builtin id) := by decide +kernel) (hg : Gl X x := by rfl) (hn : x ≠ "__name__" := by decide) (hdb : (x == ("__debug__" : Str)) = false := by decide)
    (he : starEach (e :: es) X.env = (false, eval e X.env) :: starEach es X.env := by rfl) (hpl : (backTo pos (starEach es X.env)).any (·.1) = false := by rfl) : IE X (.Call (.Name x p) (e :: es) [] pos) (fCall F f) :=
  (pe_callB hc hg hm hv ha hn hdb he hpl).wk fun σ H Q ⟨φ, σg, S, g, S', rs, rl, e, q⟩ => by
    obtain ⟨⟨xs, S1⟩, e1, e⟩ := Option.bind_eq_some_iff.mp e
    exact tA_ok rs rl e1 fun φ1 H1 vs p1 r1 l1 => ⟨φ1, S1, xs, g, S', p1.rs, r1, e, fun φ' H' v p r => q φ' H' v (p1.trans p) r⟩
theorem ie_callT {x : Str} {p : Pos} {T : String} {F : List G → Sto → Option (G × Sto)} {f : FA} (hc : CallG X (.type T) F) (hm : X.mg x = none) (ha : IA X (e :: es) f) (hv : bootBuiltins x = some (.type T) := by decide +kernel) (hg : Gl X x := by rfl) (hn : x ≠ "__name__" := by decide) (hdb : (x == ("__debug__" : Str)) = false := by decide)
    (he : starEach (e :: es) X.env = (false, eval e X.env) :: starEach es X.env := by rfl) (hpl : (backTo pos (starEach es X.env)).any (·.1) = false := by rfl) : IE X (.Call (.Name x p) (e :: es) [] pos) (fCall F f) :=
  (pe_callTy hc hg hm hv ha hn hdb he hpl).wk fun σ H Q ⟨φ, σg, S, g, S', rs, rl, e, q⟩ => by
    obtain ⟨⟨xs, S1⟩, e1, e⟩ := Option.bind_eq_some_iff.mp e
    exact tA_ok rs rl e1 fun φ1 H1 vs p1 r1 l1 => ⟨φ1, S1, xs, g, S', p1.rs, r1, e, fun φ' H' v p r => q φ' H' v (p1.trans p) r⟩
end

/-! ### a def, by its body -/
theorem start_ok {K : PySem.W.Frag} {φ : List Addr} {H : Hp} {gs : List G} {vs : List V} {N : List Str} (r : RGs K φ H gs vs) : RSl K φ H (gs.map some ++ List.replicate (N.length - gs.length) none) (L2.start N vs) := by
  unfold L2.start
  refine ⟨by simp [r.len], fun i g e => ?_⟩
  by_cases hi : i < gs.length
  · rw [List.getElem?_append_left (by simpa using hi), List.getElem?_map] at e
    cases q : gs[i]? with
    | none => rw [q] at e; cases e
    | some g' =>
      rw [q] at e
      cases e
      obtain ⟨v, h1, h2⟩ := r.get q
      refine ⟨v, ?_, h2⟩
      rw [List.getElem?_append_left (by rw [List.length_map, ← r.len]; exact hi), List.getElem?_map, h1]
      rfl
  · rw [List.getElem?_append_right (by simpa using hi), List.getElem?_replicate] at e
    split at e <;> cases e
theorem fng {P : Program} {w : World} {K : PySem.W.Frag} {mg : Str → Option Value} {base : Heap} {x qual : Str} {st : Stmt} {f : Addr} {fd : FuncData} {N ps : List Str} {k : Nat} {fb : FS} (F : Fun K x qual st f fd) (S : FnScope N ps (defScope st))
    (hbody : ∀ (cdv : Value) (A : Around) (outer : List Env) (s : Shared) (H : Hp) (E : XK), Room k (A.deeper (PyProof.Rows.envOfC qual (defScope st) s.heap.objs.size f cdv)) → ISs (cxOf CX0 P w K mg base N qual (defScope st) f cdv A outer s H E).nox (defBody st) fb) :
    FnG P w K mg base (k + 1) f fd ps (callG ps.length N.length fb) := by
  refine F.ok S (fun vs H Q E h => h.1) fun cdv A outer s H vs Q E hr h => ⟨_, hbody cdv A outer s H E hr, ?_⟩
  obtain ⟨hl, φ, S, gs, g, S', rs, rg, e, q⟩ := h
  unfold callG at e
  split at e
  · obtain ⟨r, e1, e2⟩ := Option.bind_eq_some_iff.mp e
    refine tS_ok rs (start_ok rg) e1 ?_
    cases r with
    | nx σ1 S1 => cases e2; exact fun φ' H' σ' p l => q φ' H' .non p .non
    | rt v S1 => cases e2; exact fun φ' H' v p l => q φ' H' v p l
    | bk σ1 S1 => cases e2
    | ct σ1 S1 => cases e2
  · cases e
/-- a def of the text stands at its name -/
theorem defAt {P : Program} {w : World} {K : PySem.W.Frag} {mg : Str → Option Value} {base : Heap} {x qual : Str} {st : Stmt} {f : Addr} {fd : FuncData} {N : List Str} (ps : List Str) {k np : Nat} {fb : FS} (F : Fun K x qual st f fd) (g : mg x = some (.ref f)) (S : FnScope N ps (defScope st))
    (b : ∀ (kV doc pm : Value) (an : Option Addr) (cdv ct : Value) (us : List Value), us.length = ps.length → bindArgs (PySem.W.fnOf x qual (defArgs st) (defBody st) (defScope st) .none kV doc pm an cdv ct) ⟨us, []⟩ = pure (ps.zip us))
    (hbody : ∀ (cdv : Value) (A : Around) (outer : List Env) (s : Shared) (H : Hp) (E : XK), Room k (A.deeper (PyProof.Rows.envOfC qual (defScope st) s.heap.objs.size f cdv)) → ISs (cxOf CX0 P w K mg base N qual (defScope st) f cdv A outer s H E).nox (defBody st) fb)
    (hnp : ps.length = np := by rfl) : DefAt P w K mg base (k + 1) x np (callG np N.length fb) := by
  subst hnp
  refine ⟨⟨f, fd, ps, rfl, fng F S hbody, g, F.kp, F.binds b⟩, fun gs S r e => ?_⟩
  unfold callG at e
  split at e
  · assumption
  · cases e
end FL
set_option Elab.async false
set_option linter.all false
set_option maxRecDepth 100000
set_option maxHeartbeats 1000000
/-! Fn3: operators, comparisons, subscripts, built-in calls. -/
namespace FL
open PySem L2

/-! ### data: == and the judgement that it is comparable -/
mutual
def toPy : G → PyData
  | .non => .none
  | .bl b => .bool b
  | .int i => .int i
  | .str x => .str x
  | .tup xs => .tuple (toPys xs)
  | .loc _ => .dict []
def toPys : List G → List PyData
  | [] => []
  | x :: xs => toPy x :: toPys xs
end
mutual
def eqG : G → G → Bool
  | .non, .non => true
  | .bl a, .bl b => a == b
  | .bl a, .int b => (if a then 1 else 0) == b
  | .int a, .bl b => a == (if b then 1 else 0)
  | .int a, .int b => a == b
  | .str a, .str b => a == b
  | .tup xs, .tup ys => eqGs xs ys
  | _, _ => false
def eqGs : List G → List G → Bool
  | [], [] => true
  | x :: xs, y :: ys => eqG x y && eqGs xs ys
  | _, _ => false
end
mutual
/-- data without lists, its texts of valid signs -/
def canG : G → Bool
  | .str x => PyData.strOk x
  | .tup xs => canGs xs
  | .loc _ => false
  | _ => true
def canGs : List G → Bool
  | [] => true
  | x :: xs => canG x && canGs xs
end
mutual
def depG : G → Nat
  | .tup xs => depGs xs + 1
  | _ => 0
def depGs : List G → Nat
  | [] => 0
  | x :: xs => max (depG x) (depGs xs)
end
mutual
theorem canG_py : ∀ g : G, (toPy g).canLay0 = canG g
  | .non => by simp [toPy, canG, PyData.canLay0]
  | .bl b => by simp [toPy, canG, PyData.canLay0]
  | .int i => by simp [toPy, canG, PyData.canLay0]
  | .str x => by simp [toPy, canG, PyData.canLay0]
  | .tup xs => by simp [toPy, canG, PyData.canLay0, canGs_py xs]
  | .loc n => by simp [toPy, canG, PyData.canLay0]
theorem canGs_py : ∀ gs : List G, PyData.canLayAll0 (toPys gs) = canGs gs
  | [] => by simp [toPys, canGs, PyData.canLayAll0]
  | x :: xs => by simp [toPys, canGs, PyData.canLayAll0, canG_py x, canGs_py xs]
end
mutual
theorem depG_py : ∀ g : G, canG g = true → (toPy g).depth = depG g
  | .non, _ => by simp [toPy, depG, PyData.depth]
  | .bl b, _ => by simp [toPy, depG, PyData.depth]
  | .int i, _ => by simp [toPy, depG, PyData.depth]
  | .str x, _ => by simp [toPy, depG, PyData.depth]
  | .tup xs, h => by
    have h' : canGs xs = true := by simpa [canG] using h
    simp [toPy, depG, PyData.depth, depGs_py xs h']
  | .loc n, h => by simp [canG] at h
theorem depGs_py : ∀ gs : List G, canGs gs = true → PyData.depthAll (toPys gs) = depGs gs
  | [], _ => by simp [toPys, depGs, PyData.depthAll]
  | x :: xs, h => by
    have h' : canG x = true ∧ canGs xs = true := by simpa [canGs] using h
    simp [toPys, depGs, PyData.depthAll, depG_py x h'.1, depGs_py xs h'.2]
end
mutual
theorem eqG_py : ∀ x y : G, canG x = true → canG y = true → PyData.eqv (toPy x) (toPy y) = eqG x y
  | .tup xs, .tup ys, hx, hy => by
    have hx' : canGs xs = true := by simpa [canG] using hx
    have hy' : canGs ys = true := by simpa [canG] using hy
    simp only [toPy, eqG, PyData.eqv]
    exact eqGs_py xs ys hx' hy'
  | .non, y, hx, hy => by cases y <;> simp_all [toPy, eqG, PyData.eqv, canG]
  | .bl b, y, hx, hy => by cases y <;> simp_all [toPy, eqG, PyData.eqv, canG]
  | .int i, y, hx, hy => by cases y <;> simp_all [toPy, eqG, PyData.eqv, canG]
  | .str x, y, hx, hy => by cases y <;> simp_all [toPy, eqG, PyData.eqv, canG]
  | .loc n, _, hx, _ => by simp [canG] at hx
  | .tup xs, .non, _, _ => by simp [toPy, eqG, PyData.eqv]
  | .tup xs, .bl _, _, _ => by simp [toPy, eqG, PyData.eqv]
  | .tup xs, .int _, _, _ => by simp [toPy, eqG, PyData.eqv]
  | .tup xs, .str _, _, _ => by simp [toPy, eqG, PyData.eqv]
  | .tup xs, .loc _, _, hy => by simp [canG] at hy
theorem eqGs_py : ∀ xs ys : List G, canGs xs = true → canGs ys = true → PyData.eqvAll (toPys xs) (toPys ys) = eqGs xs ys
  | [], [], _, _ => by simp [toPys, eqGs, PyData.eqvAll]
  | [], y :: ys, _, _ => by simp [toPys, eqGs, PyData.eqvAll]
  | x :: xs, [], _, _ => by simp [toPys, eqGs, PyData.eqvAll]
  | x :: xs, y :: ys, hx, hy => by
    have hx' : canG x = true ∧ canGs xs = true := by simpa [canGs] using hx
    have hy' : canG y = true ∧ canGs ys = true := by simpa [canGs] using hy
    simp [toPys, eqGs, PyData.eqvAll, eqG_py x y hx'.1 hy'.1, eqGs_py xs ys hx'.2 hy'.2]
end
mutual
theorem RG.dp {K : PySem.W.Frag} {φ : List Addr} {H : Hp} : ∀ {g : G} {v : V}, RG K φ H g v → canG g = true → Dp K H v (toPy g)
  | _, _, .non, _ => by simp only [toPy]; exact .non
  | _, _, .bl b, _ => by simp only [toPy]; exact .bl b
  | _, _, .int i, _ => by simp only [toPy]; exact .int i
  | _, _, .str x, _ => by simp only [toPy]; exact .str x
  | .tup gs, _, .tup h r, c => by
    have c' : canGs gs = true := by simpa [canG] using c
    simp only [toPy]; exact .tup h (RGs.dp r c')
  | _, _, .loc h, c => by simp [canG] at c
theorem RGs.dp {K : PySem.W.Frag} {φ : List Addr} {H : Hp} : ∀ {gs : List G} {vs : List V}, RGs K φ H gs vs → canGs gs = true → DpAll K H vs (toPys gs)
  | _, _, .nil, _ => by simp only [toPys]; exact .nil
  | g :: gs, _, .cons r t, c => by
    have c' : canG g = true ∧ canGs gs = true := by simpa [canGs] using c
    simp only [toPys]; exact .cons (RG.dp r c'.1) (RGs.dp t c'.2)
end
/-- comparable data -/
def datG (g : G) : Bool := canG g && decide (depG g ≤ 60)
theorem datG_shaped {g : G} (h : datG g = true) : SeqAt.shaped (toPy g) = true := by
  unfold datG at h
  rw [Bool.and_eq_true, decide_eq_true_iff] at h
  unfold SeqAt.shaped
  rw [canG_py, h.1, depG_py g h.1]
  simp; omega
theorem datG_can {g : G} (h : datG g = true) : canG g = true := by
  unfold datG at h
  rw [Bool.and_eq_true] at h
  exact h.1
def scalG : G → G → Bool
  | .non, .non => true | .non, .int _ => true | .int _, .non => true | .non, .bl _ => true | .bl _, .non => true | .non, .str _ => true | .str _, .non => true
  | .int _, .int _ => true | .bl _, .bl _ => true | .str _, .str _ => true
  | .int _, .str _ => true | .str _, .int _ => true | .bl _, .str _ => true | .str _, .bl _ => true
  | _, _ => false
def okEq (x y : G) : Bool := scalG x y || (datG x && datG y)
def opEq : G → G → Sto → Option (G × Sto) := fun x y S => if okEq x y then some (.bl (eqG x y), S) else none
def opNe : G → G → Sto → Option (G × Sto) := fun x y S => if okEq x y then some (.bl (!eqG x y), S) else none
def opInt2 (f : Int → Int → G) : G → G → Sto → Option (G × Sto)
  | .int i, .int j, S => some (f i j, S)
  | _, _, _ => none
def opLt := opInt2 fun i j => .bl (decide (i < j))
def opLe := opInt2 fun i j => .bl (decide (i ≤ j))
def opGt := opInt2 fun i j => .bl (decide (j < i))
def opGe := opInt2 fun i j => .bl (decide (j ≤ i))
def opSub := opInt2 fun i j => .int (i - j)
def opAdd : G → G → Sto → Option (G × Sto)
  | .int i, .int j, S => some (.int (i + j), S)
  | .str x, .str y, S => if x.length + y.length ≤ sizeLine then some (.str (x ++ y), S) else none
  | .tup xs, .tup ys, S => if xs.length + ys.length ≤ sizeLine then some (.tup (xs ++ ys), S) else none
  | .loc n, .loc m, S => match S[n]?, S[m]? with
    | some (.lst xs), some (.lst ys) => if xs.length + ys.length ≤ sizeLine then some (.loc S.length, S ++ [.lst (xs ++ ys)]) else none
    | _, _ => none
  | _, _, _ => none
@[irreducible] def opMul : G → G → Sto → Option (G × Sto)
  | .int i, .int j, S => if (-(2 ^ 64) < i ∧ i < 2 ^ 64) ∨ (-(2 ^ 64) < j ∧ j < 2 ^ 64) then some (.int (i * j), S) else none
  | _, _, _ => none
@[irreducible] def opDiv : G → G → Sto → Option (G × Sto)
  | .int i, .int j, S => if j ≠ 0 ∧ j.natAbs < 1073741824 then some (.int (i.fdiv j), S) else none
  | _, _, _ => none
@[irreducible] def opMod : G → G → Sto → Option (G × Sto)
  | .int i, .int j, S => if j ≠ 0 then some (.int (i.fmod j), S) else none
  | _, _, _ => none
@[irreducible] def opPow : G → G → Sto → Option (G × Sto)
  | .int i, .int j, S => if 0 ≤ j ∧ j ≤ 1000000 ∧ i.natAbs < 2 ^ 64 then some (.int (i ^ j.toNat), S) else none
  | _, _, _ => none
def opNeg : G → Sto → Option (G × Sto)
  | .int i, S => some (.int (-i), S)
  | _, _ => none
def flatG : G → Bool
  | .tup _ => false
  | .loc _ => false
  | _ => true
def okIn (x : G) (gs : List G) : Bool := (flatG x && gs.all flatG) || (datG x && datG (.tup gs))
def inG (x : G) (gs : List G) : Bool := gs.any fun y => eqG y x
def opInB : G → G → Sto → Option Bool
  | x, .tup gs, _ => if okIn x gs then some (inG x gs) else none
  | .str s, .str t, _ => some (!(Builtin.Str.occurrences t s 0 t.length 1).isEmpty)
  | x, .loc n, S => match getL S n with
    | some gs => if okIn x gs then some (inG x gs) else none
    | none => match S[n]? with
      | some (.dic ks) => (keyOf x).map fun k => (getK ks k).isSome
      | _ => none
  | _, _, _ => none
def opIn : G → G → Sto → Option (G × Sto) := fun x y S => (opInB x y S).map fun b => (.bl b, S)
def opNotIn : G → G → Sto → Option (G × Sto) := fun x y S => (opInB x y S).map fun b => (.bl (!b), S)
def isNon : G → Bool
  | .non => true
  | _ => false
def opIsB : G → G → Option Bool
  | .bl a, .bl b => some (decide (a = b))
  | x, .non => some (isNon x)
  | _, _ => none
def opIs : G → G → Sto → Option (G × Sto) := fun x y S => (opIsB x y).map fun b => (.bl b, S)
def opIsNot : G → G → Sto → Option (G × Sto) := fun x y S => (opIsB x y).map fun b => (.bl (!b), S)
def opIx : G → G → Sto → Option (G × Sto)
  | .tup gs, .int i, S => (atI gs i).map fun g => (g, S)
  | .str z, .int i, S => if z.length ≤ sizeLine then (atI z.cps.toList i).map fun c => (.str ⟨#[c]⟩, S) else none
  | .loc n, y, S => match getL S n with
    | some gs => match y with
      | .int i => (atI gs i).map fun g => (g, S)
      | _ => none
    | none => match S[n]? with
      | some (.dic ks) => ((keyOf y).bind fun k => getK ks k).map fun g => (g, S)
      | _ => none
  | _, _, _ => none
def cutL {α : Type} (xs : List α) (lo hi : Option Int) : List α := (xs.drop (HT.sIx xs.length 0 lo)).take (HT.sIx xs.length xs.length hi - HT.sIx xs.length 0 lo)
def opSl : G → Option Int → Option Int → Sto → Option (G × Sto)
  | .tup gs, lo, hi, S => some (.tup (cutL gs lo hi), S)
  | .str z, lo, hi, S => if z.length ≤ sizeLine then some (.str (cutS z lo hi), S) else none
  | .loc n, lo, hi, S => (getL S n).map fun gs => (.loc S.length, S ++ [.lst (cutL gs lo hi)])
  | _, _, _, _ => none
def asI : G × Sto → Option (Int × Sto)
  | (.int i, S) => some (i, S)
  | _ => none
abbrev FO := Sl → Sto → Option (Option Int × Sto)
def foNone : FO := fun _ S => some (none, S)
def foSome (f : FE) : FO := fun σ S => ((f σ S).bind asI).map fun p => (some p.1, p.2)
def fSl (fe : FE) (lo hi : FO) : FE := fun σ S => (fe σ S).bind fun p => (lo σ p.2).bind fun l => (hi σ l.2).bind fun u => opSl p.1 l.1 u.1 u.2
def fRev (fe : FE) : FE := fun σ S => (fe σ S).bind fun
  | (.loc n, S') => (getL S' n).map fun gs => (.loc S'.length, S' ++ [.lst gs.reverse])
  | _ => none

section
variable {X : Cx}
theorem eqV_G {K : PySem.W.Frag} {φ : List Addr} {H : Hp} {gx gy : G} {x y : V} (rx : RG K φ H gx x) (ry : RG K φ H gy y) (fx : flatG gx = true) (fy : flatG gy = true) : eqV x y = eqG gx gy ∧ flatV x = true ∧ flatV y = true := by
  cases rx <;> cases ry <;> first | (cases fx; done) | (cases fy; done) | (exact ⟨by simp [eqV, eqG], rfl, rfl⟩)
theorem scal_G {K : PySem.W.Frag} {φ : List Addr} {H : Hp} {gx gy : G} {x y : V} (rx : RG K φ H gx x) (ry : RG K φ H gy y) (h : scalG gx gy = true) : scal x y = true ∧ decide (x = y) = eqG gx gy := by
  cases rx <;> cases ry <;> first
    | (exact ⟨rfl, by simp [eqG, Bool.beq_eq_decide_eq]⟩)
    | (exact ⟨rfl, by rw [Bool.eq_iff_iff]; simp [eqG]⟩)
    | (exact absurd h (by simp [scalG]))
theorem og_eq (hu : X.A.units + 65 < cLine) : OpG X (compareOp .Eq) opEq := by
  intro pins s σ H x y v u Q I rx ry h
  obtain ⟨φ, S, gx, gy, g, S', rs, qx, qy, e, q⟩ := h
  unfold opEq okEq at e
  split at e
  · rename_i ok
    cases e
    rw [Bool.or_eq_true, Bool.and_eq_true] at ok
    rcases ok with ok | ⟨d1, d2⟩
    · obtain ⟨h1, h2⟩ := scal_G qx qy ok
      refine op_eq pins s σ H x y v u Q I rx ry ⟨h1, q φ H _ rs.post ?_⟩
      rw [h2]; exact .bl _
    · refine op_eqD (by omega) pins s σ H x y v u Q I rx ry ⟨_, _, qx.dp (datG_can d1), qy.dp (datG_can d2), datG_shaped d1, datG_shaped d2, q φ H _ rs.post ?_⟩
      rw [eqG_py _ _ (datG_can d1) (datG_can d2)]; exact .bl _
  · cases e
theorem og_ne (hu : X.A.units + 65 < cLine) : OpG X (compareOp .NotEq) opNe := by
  intro pins s σ H x y v u Q I rx ry h
  obtain ⟨φ, S, gx, gy, g, S', rs, qx, qy, e, q⟩ := h
  unfold opNe okEq at e
  split at e
  · rename_i ok
    cases e
    rw [Bool.or_eq_true, Bool.and_eq_true] at ok
    rcases ok with ok | ⟨d1, d2⟩
    · obtain ⟨h1, h2⟩ := scal_G qx qy ok
      refine op_ne pins s σ H x y v u Q I rx ry ⟨h1, q φ H _ rs.post ?_⟩
      rw [h2]; exact .bl _
    · refine op_neD (by omega) pins s σ H x y v u Q I rx ry ⟨_, _, qx.dp (datG_can d1), qy.dp (datG_can d2), datG_shaped d1, datG_shaped d2, q φ H _ rs.post ?_⟩
      rw [eqG_py _ _ (datG_can d1) (datG_can d2)]; exact .bl _
  · cases e
theorem og_int2 {f : Value → Value → Sem Value} {gi : Int → Int → G} {vi : Int → Int → V} (ho : OpR X f (rI0 vi)) (hr : ∀ (φ : List Addr) (H : Hp) (i j : Int), RG X.K φ H (gi i j) (vi i j)) : OpG X f (opInt2 gi) := by
  intro pins s σ H x y v u Q I rx ry h
  obtain ⟨φ, S, gx, gy, g, S', rs, qx, qy, e, q⟩ := h
  cases qx with
  | int i =>
    cases qy with
    | int j =>
      cases e
      exact ho pins s σ H _ _ v u Q I rx ry ⟨i, j, rfl, rfl, q φ H _ rs.post (hr φ H i j)⟩
    | _ => cases e
  | _ => cases e
theorem og_lt : OpG X (compareOp .Lt) opLt := og_int2 op_lt fun _ _ _ _ => .bl _
theorem og_le : OpG X (compareOp .LtE) opLe := og_int2 op_le fun _ _ _ _ => .bl _
theorem og_gt : OpG X (compareOp .Gt) opGt := og_int2 op_gt fun _ _ _ _ => .bl _
theorem og_ge : OpG X (compareOp .GtE) opGe := og_int2 op_ge fun _ _ _ _ => .bl _
theorem og_sub : OpG X (binaryOp .Sub) opSub := og_int2 op_sub fun _ _ _ _ => .int _
theorem og_intC {f : Value → Value → Sem Value} {go : G → G → Sto → Option (G × Sto)} {P : Int → Int → Prop} {gi : Int → Int → Int} (ho : OpR X f (rI P fun i j => .int (gi i j)))
    (hg : ∀ x y S r, go x y S = some r → ∃ i j, x = .int i ∧ y = .int j ∧ P i j ∧ r = (.int (gi i j), S)) : OpG X f go := by
  intro pins s σ H x y v u Q I rx ry h
  obtain ⟨φ, S, gx, gy, g, S', rs, qx, qy, e, q⟩ := h
  obtain ⟨i, j, rfl, rfl, hp, er⟩ := hg _ _ _ _ e
  cases er
  cases qx
  cases qy
  exact ho pins s σ H _ _ v u Q I rx ry ⟨i, j, rfl, rfl, hp, q φ H _ rs.post (.int _)⟩
theorem og_mul : OpG X (binaryOp .Mult) opMul := og_intC op_mul fun x y S r e => by
  unfold opMul at e
  split at e
  · split at e
    · cases e; exact ⟨_, _, rfl, rfl, by assumption, rfl⟩
    · cases e
  · cases e
theorem og_div : OpG X (binaryOp .FloorDiv) opDiv := og_intC op_fdivN fun x y S r e => by
  unfold opDiv at e
  split at e
  · split at e
    · cases e; exact ⟨_, _, rfl, rfl, by assumption, rfl⟩
    · cases e
  · cases e
theorem og_mod : OpG X (binaryOp .Mod) opMod := og_intC op_modN fun x y S r e => by
  unfold opMod at e
  split at e
  · split at e
    · cases e; exact ⟨_, _, rfl, rfl, by assumption, rfl⟩
    · cases e
  · cases e
theorem og_pow : OpG X (binaryOp .Pow) opPow := og_intC op_pow fun x y S r e => by
  unfold opPow at e
  split at e
  · split at e
    · cases e; exact ⟨_, _, rfl, rfl, by assumption, rfl⟩
    · cases e
  · cases e
theorem ug_neg : UnG X (unaryOp .USub) opNeg := by
  intro pins s σ H x v Q I rx h
  obtain ⟨φ, S, gx, g, S', rs, qx, e, q⟩ := h
  cases qx with
  | int i => cases e; exact un_neg pins s σ H _ v Q I rx ⟨i, rfl, q φ H _ rs.post (.int _)⟩
  | _ => cases e
theorem og_add : OpG X (binaryOp .Add) opAdd := by
  intro pins s σ H x y v u Q I rx ry h
  obtain ⟨φ, S, gx, gy, g, S', rs, qx, qy, e, q⟩ := h
  cases qx with
  | int i =>
    cases qy with
    | int j => cases e; exact op_add pins s σ H _ _ v u Q I rx ry ⟨i, j, rfl, rfl, q φ H _ rs.post (.int _)⟩
    | _ => cases e
  | str i =>
    cases qy with
    | str j =>
      have e : (if i.length + j.length ≤ sizeLine then some (G.str (i ++ j), S) else none) = some (g, S') := e
      split at e
      · cases e; exact op_add_str pins s σ H _ _ v u Q I rx ry ⟨i, j, rfl, rfl, by assumption, q φ H _ rs.post (.str _)⟩
      · cases e
    | _ => cases e
  | @tup a vs xs hq hr =>
    cases qy with
    | @tup b ws ys hq2 hr2 =>
      have e : (if xs.length + ys.length ≤ sizeLine then some (G.tup (xs ++ ys), S) else none) = some (g, S') := e
      split at e
      · rename_i hl
        cases e
        refine op_catA pins s σ H _ _ v u Q I rx ry ⟨a, b, vs, ws, rfl, rfl, hq, hq2, by rw [← hr.len, ← hr2.len]; exact hl, fun e0 => ?_, fun _ e0 => ?_, fun _ _ p np => ?_⟩
        · subst e0
          cases hr
          exact q φ H _ rs.post (.tup hq2 hr2)
        · subst e0
          cases hr2
          rw [List.append_nil] at q
          exact q φ H _ rs.post (.tup hq hr)
        · have P := rs.lay (o := .tup (vs ++ ws)) np
          exact q φ _ _ P (.tup (.of upd_same) ((hr.post P).append (hr2.post P)))
      · cases e
    | _ => cases e
  | @loc n a hn =>
    cases qy with
    | @loc m b hm =>
      unfold opAdd at e
      dsimp only at e
      split at e
      · rename_i xs ys h1 h2
        split at e
        · rename_i hl
          cases e
          obtain ⟨vs, c1, d1⟩ := rs.cell n a _ hn h1
          obtain ⟨ws, c2, d2⟩ := rs.cell m b _ hm h2
          refine op_cat pins s σ H _ _ v u Q I rx ry ⟨a, b, vs, ws, rfl, rfl, c1, c2, by rw [← d1.len, ← d2.len]; exact hl, fun p np => ?_⟩
          obtain ⟨P, R⟩ := rs.newList np (d1.append d2)
          exact q _ _ _ P R
        · cases e
      · cases e
    | _ => cases e
  | _ => cases e
theorem canGs_of {gs : List G} (h : datG (.tup gs) = true) : canGs gs = true := by simpa [canG] using datG_can h
theorem any_py {g : G} (hg : canG g = true) : ∀ {gs : List G}, canGs gs = true → ((toPys gs).any fun z => PyData.eqv z (toPy g)) = inG g gs
  | [], _ => by simp [toPys, inG]
  | x :: xs, h => by
    have h' : canG x = true ∧ canGs xs = true := by simpa [canGs] using h
    have ih := any_py hg h'.2
    simp only [inG] at ih
    simp only [toPys, inG, List.any_cons, ih, eqG_py x g h'.1 hg]
theorem depth_room {A : Around} {x : G} {gs : List G} (hu : A.units + 65 < cLine) (hx : datG x = true) : A.units + 1 + min (PyData.depthAll (toPys gs)) (toPy x).depth < cLine := by
  have h := hx
  unfold datG at h
  rw [Bool.and_eq_true, decide_eq_true_iff] at h
  have h1 : (toPy x).depth ≤ 60 := by rw [depG_py x h.1]; exact h.2
  have h2 : min (PyData.depthAll (toPys gs)) (toPy x).depth ≤ 60 := Nat.le_trans (Nat.min_le_right _ _) h1
  omega
theorem inV_G {K : PySem.W.Frag} {φ : List Addr} {H : Hp} {gx : G} {x : V} (rx : RG K φ H gx x) (fx : flatG gx = true) : ∀ {gs : List G} {vs : List V}, RGs K φ H gs vs → gs.all flatG = true → inV x vs = inG gx gs ∧ vs.all flatV = true
  | _, _, .nil, _ => ⟨rfl, rfl⟩
  | g :: gs, _, .cons (v := v) (vs := vs) r t, f => by
    rw [List.all_cons, Bool.and_eq_true] at f
    obtain ⟨h1, h2⟩ := inV_G rx fx t f.2
    obtain ⟨h3, h4, _⟩ := eqV_G r rx f.1 fx
    simp only [inV] at h1
    simp only [inG] at h1
    refine ⟨?_, ?_⟩
    · simp only [inV, inG, List.any_cons, h1, h3]
    · simp only [List.all_cons, h4, h2, Bool.and_self]
theorem in_core {pins : List (Addr × Obj)} {s : Shared} {σ : L2.St} {H : Hp} {φ : List Addr} {S : Sto} {gx gy : G} {x y : V} {v u : Value} {b : Bool} (hu : X.A.units + 65 < cLine) (I : Inv X pins σ H s) (rx : RelV x v) (ry : RelV y u) (rs : RS X.K φ S H) (qx : RG X.K φ H gx x) (qy : RG X.K φ H gy y) (e : opInB gx gy S = some b) (Q : VK) :
    (Q (.bl b) H → wpAny (model X.prog X.w) X.A (compareOp .In v u) (EP X pins σ Q) X.xe s) ∧ (Q (.bl (!b)) H → wpAny (model X.prog X.w) X.A (compareOp .NotIn v u) (EP X pins σ Q) X.xe s) := by
  cases qy with
  | @tup a vs gs hq hr =>
    have e : (if okIn gx gs then some (inG gx gs) else none) = some b := by cases gx <;> exact e
    split at e
    · rename_i ok
      cases e
      unfold okIn at ok
      rw [Bool.or_eq_true, Bool.and_eq_true, Bool.and_eq_true] at ok
      rcases ok with ⟨f1, f2⟩ | ⟨d1, d2⟩
      · obtain ⟨h1, h2⟩ := inV_G qx f1 hr f2
        have h3 : flatV x = true := (eqV_G qx qx f1 f1).2.1
        exact ⟨fun q => op_in_seq pins s σ H _ _ v u Q I rx ry ⟨a, vs, rfl, .inr hq, h3, h2, by rw [h1]; exact q⟩, fun q => op_notIn_seq pins s σ H _ _ v u Q I rx ry ⟨a, vs, rfl, .inr hq, h3, h2, by rw [h1]; exact q⟩⟩
      · obtain ⟨as, r1⟩ := Dp.reads I _ x v (qx.dp (datG_can d1)) rx
        have hd := (RG.tup (φ := φ) hq hr).dp (datG_can d2)
        simp only [toPy] at hd
        obtain ⟨bs, r2⟩ := Dp.reads I _ _ u hd ry
        have c2 : PyData.canLayAll0 (toPys gs) = true := by rw [canGs_py]; exact canGs_of d2
        have c1 : (toPy gx).canLay0 = true := by rw [canG_py]; exact datG_can d1
        exact ⟨fun q => SeqAt.in_tuple_reads r2 r1 c2 c1 (depth_room hu d1) ⟨.bl _, H, I, by rw [any_py (datG_can d1) (canGs_of d2)]; rfl, q⟩,
          fun q => SeqAt.notIn_tuple_reads r2 r1 c2 c1 (depth_room hu d1) ⟨.bl _, H, I, by rw [any_py (datG_can d1) (canGs_of d2)]; rfl, q⟩⟩
    · cases e
  | str t =>
    cases qx with
    | str z =>
      cases e
      exact ⟨fun q => op_in_str pins s σ H _ _ v u Q I rx ry ⟨z, t, rfl, rfl, q⟩, fun q => op_notIn_str pins s σ H _ _ v u Q I rx ry ⟨z, t, rfl, rfl, q⟩⟩
    | _ => cases e
  | @loc n a hn =>
    have e : (match getL S n with
      | some gs => if okIn gx gs then some (inG gx gs) else none
      | none => match S[n]? with
        | some (.dic ks) => (keyOf gx).map fun k => (getK ks k).isSome
        | _ => none) = some b := by cases gx <;> exact e
    split at e
    · rename_i gs hg
      obtain ⟨vs, hq, hr⟩ := rs.list hn hg
      split at e
      · rename_i ok
        cases e
        unfold okIn at ok
        rw [Bool.or_eq_true, Bool.and_eq_true, Bool.and_eq_true] at ok
        rcases ok with ⟨f1, f2⟩ | ⟨d1, d2⟩
        · obtain ⟨h1, h2⟩ := inV_G qx f1 hr f2
          have h3 : flatV x = true := (eqV_G qx qx f1 f1).2.1
          exact ⟨fun q => op_in_seq pins s σ H _ _ v u Q I rx ry ⟨a, vs, rfl, .inl hq, h3, h2, by rw [h1]; exact q⟩, fun q => op_notIn_seq pins s σ H _ _ v u Q I rx ry ⟨a, vs, rfl, .inl hq, h3, h2, by rw [h1]; exact q⟩⟩
        · obtain ⟨as, r1⟩ := Dp.reads I _ x v (qx.dp (datG_can d1)) rx
          have hd : Dp X.K H (.ref a) (.list (toPys gs)) := .lst hq (hr.dp (canGs_of d2))
          obtain ⟨bs, r2⟩ := Dp.reads I _ _ u hd ry
          have c2 : PyData.canLayAll0 (toPys gs) = true := by rw [canGs_py]; exact canGs_of d2
          have c1 : (toPy gx).canLay0 = true := by rw [canG_py]; exact datG_can d1
          exact ⟨fun q => SeqAt.in_list_reads r2 r1 c2 c1 (depth_room hu d1) ⟨.bl _, H, I, by rw [any_py (datG_can d1) (canGs_of d2)]; rfl, q⟩,
            fun q => SeqAt.notIn_list_reads r2 r1 c2 c1 (depth_room hu d1) ⟨.bl _, H, I, by rw [any_py (datG_can d1) (canGs_of d2)]; rfl, q⟩⟩
      · cases e
    · split at e
      · rename_i ks hk
        obtain ⟨k, ek, eb⟩ := Option.map_eq_some_iff.mp e
        obtain ⟨vs, h1, h2⟩ := rs.cell n a _ hn hk
        have ex := keyOf_ok qx ek
        subst ex
        have ev : (valV vs k).isSome = b := by
          rcases h2.val k with ⟨n1, n2⟩ | ⟨g, w, n1, n2, _⟩
          · rw [n2]; rw [n1] at eb; exact eb
          · rw [n2]; rw [n1] at eb; exact eb
        cases ry
        exact ⟨fun q => d_in (by omega) I (DGet.k h1) rx fun s3 I3 => ⟨.bl (valV vs k).isSome, H, I3, rfl, by rw [ev]; exact q⟩,
          fun q => d_notIn (by omega) I (DGet.k h1) rx fun s3 I3 => ⟨.bl (!(valV vs k).isSome), H, I3, rfl, by rw [ev]; exact q⟩⟩
      · cases e
  | _ => cases gx <;> cases e
theorem og_in (hu : X.A.units + 65 < cLine) : OpG X (compareOp .In) opIn := by
  intro pins s σ H x y v u Q I rx ry h
  obtain ⟨φ, S, gx, gy, g, S', rs, qx, qy, e, q⟩ := h
  obtain ⟨b, e1, e2⟩ := Option.map_eq_some_iff.mp e
  cases e2
  exact (in_core hu I rx ry rs qx qy e1 Q).1 (q φ H _ rs.post (.bl _))
theorem og_notIn (hu : X.A.units + 65 < cLine) : OpG X (compareOp .NotIn) opNotIn := by
  intro pins s σ H x y v u Q I rx ry h
  obtain ⟨φ, S, gx, gy, g, S', rs, qx, qy, e, q⟩ := h
  obtain ⟨b, e1, e2⟩ := Option.map_eq_some_iff.mp e
  cases e2
  exact (in_core hu I rx ry rs qx qy e1 Q).2 (q φ H _ rs.post (.bl _))
theorem isNon_ok {K : PySem.W.Frag} {φ : List Addr} {H : Hp} {g : G} {v : V} (r : RG K φ H g v) : decide (v = .non) = isNon g := by
  cases r <;> rfl
theorem is_core {pins : List (Addr × Obj)} {s : Shared} {σ : L2.St} {H : Hp} {φ : List Addr} {gx gy : G} {x y : V} {v u : Value} {b : Bool} (I : Inv X pins σ H s) (rx : RelV x v) (ry : RelV y u) (qx : RG X.K φ H gx x) (qy : RG X.K φ H gy y) (e : opIsB gx gy = some b) (Q : VK) :
    (Q (.bl b) H → wpAny (model X.prog X.w) X.A (compareOp .Is v u) (EP X pins σ Q) X.xe s) ∧ (Q (.bl (!b)) H → wpAny (model X.prog X.w) X.A (compareOp .IsNot v u) (EP X pins σ Q) X.xe s) := by
  cases qy with
  | non =>
    have e : some (isNon gx) = some b := by cases gx <;> exact e
    cases e
    exact ⟨fun q => op_isN pins s σ H _ _ v u Q I rx ry ⟨rfl, by rw [isNon_ok qx]; exact q⟩, fun q => op_notN pins s σ H _ _ v u Q I rx ry ⟨rfl, by rw [isNon_ok qx]; exact q⟩⟩
  | bl c =>
    cases qx with
    | bl a =>
      cases e
      exact ⟨fun q => op_isBl pins s σ H _ _ v u Q I rx ry ⟨a, c, rfl, rfl, q⟩, fun q => op_notBl pins s σ H _ _ v u Q I rx ry ⟨a, c, rfl, rfl, q⟩⟩
    | _ => cases e
  | _ => cases gx <;> cases e
theorem og_is : OpG X (compareOp .Is) opIs := by
  intro pins s σ H x y v u Q I rx ry h
  obtain ⟨φ, S, gx, gy, g, S', rs, qx, qy, e, q⟩ := h
  obtain ⟨b, e1, e2⟩ := Option.map_eq_some_iff.mp e
  cases e2
  exact (is_core I rx ry qx qy e1 Q).1 (q φ H _ rs.post (.bl _))
theorem og_isNot : OpG X (compareOp .IsNot) opIsNot := by
  intro pins s σ H x y v u Q I rx ry h
  obtain ⟨φ, S, gx, gy, g, S', rs, qx, qy, e, q⟩ := h
  obtain ⟨b, e1, e2⟩ := Option.map_eq_some_iff.mp e
  cases e2
  exact (is_core I rx ry qx qy e1 Q).2 (q φ H _ rs.post (.bl _))
/-! ### subscripts -/
theorem RGs.atI {K : PySem.W.Frag} {φ : List Addr} {H : Hp} {gs : List G} {vs : List V} {i : Int} {g : G} (r : RGs K φ H gs vs) (h : L2.atI gs i = some g) : ∃ v, L2.atI vs i = some v ∧ RG K φ H g v := by
  unfold L2.atI at h ⊢
  obtain ⟨j, h1, h2⟩ := Option.bind_eq_some_iff.mp h
  obtain ⟨v, h3, h4⟩ := r.get h2
  exact ⟨v, by rw [← r.len, h1]; exact h3, h4⟩
theorem ixg (hu : X.A.units + 1 < cLine) : IxR X (rG2 X.K opIx) := by
  intro value slice pins s σ H x y v u Q I rx ry h hs
  obtain ⟨φ, S, gx, gy, g, S', rs, qx, qy, e, q⟩ := h
  cases qx with
  | @tup a vs gs hq hr =>
    cases qy with
    | int i =>
      obtain ⟨g', e1, e2⟩ := Option.map_eq_some_iff.mp e
      cases e2
      obtain ⟨w, h1, h2⟩ := hr.atI e1
      exact ix_tup value slice pins s σ H _ _ v u Q I rx ry ⟨a, vs, i, w, rfl, rfl, hq, h1, q φ H _ rs.post h2⟩ hs
    | _ => cases e
  | str z =>
    cases qy with
    | int i =>
      have e : (if z.length ≤ sizeLine then (atI z.cps.toList i).map fun c => (G.str ⟨#[c]⟩, S) else none) = some (g, S') := e
      split at e
      · obtain ⟨c, e1, e2⟩ := Option.map_eq_some_iff.mp e
        cases e2
        exact ix_str value slice pins s σ H _ _ v u Q I rx ry ⟨z, i, c, rfl, rfl, by assumption, e1, q φ H _ rs.post (.str _)⟩ hs
      · cases e
    | _ => cases e
  | @loc n a hn =>
    unfold opIx at e
    dsimp only at e
    split at e
    · rename_i gs hg
      obtain ⟨vs, hq, hr⟩ := rs.list hn hg
      cases qy with
      | int i =>
        obtain ⟨g', e1, e2⟩ := Option.map_eq_some_iff.mp e
        cases e2
        obtain ⟨w, h1, h2⟩ := hr.atI e1
        exact ix_list value slice pins s σ H _ _ v u Q I rx ry ⟨a, vs, i, w, rfl, rfl, hq, h1, q φ H _ rs.post h2⟩ hs
      | _ => cases e
    · split at e
      · rename_i ks hk
        obtain ⟨g', e1, e2⟩ := Option.map_eq_some_iff.mp e
        cases e2
        obtain ⟨k, e1, e3⟩ := Option.bind_eq_some_iff.mp e1
        obtain ⟨vs, h1, h2⟩ := rs.cell n a _ hn hk
        have ey := keyOf_ok qy e1
        subst ey
        rcases h2.val k with ⟨n1, n2⟩ | ⟨g2, w, n1, n2, n3⟩
        · rw [n1] at e3; cases e3
        · rw [n1] at e3
          cases e3
          have gd : DGet H a (kV k) (some w) := by rw [← n2]; exact DGet.k h1
          cases rx
          have ht := dict_typeIs I gd
          unfold PyProof.Rows.subscriptTail
          refine wpAny_bind ?_
          rw [getitemInPython_of_ne ht.not_modules]
          refine wpAny_bind (wpAny_specialOf ht PySem.F.slot_dict_getitem.lookup ?_)
          have fin : wpAny (model X.prog X.w) X.A (subscripted slice false (.ref a) u) (fun r s₃ => wpAny (model X.prog X.w) X.A (letTemporaryGo value (.ref a) r >>= fun _ => pure r) (EP X pins σ Q) X.xe s₃) X.xe s := by
            rw [hs]
            exact wpAny_operating (wpAny_mono (d_getItem (Q := fun r s₃ => EP X pins σ Q r s₃) hu I gd ry fun w' s3 I3 rw' => ⟨w, H, I3, rw', q φ H _ rs.post n3⟩) (fun r s₃ h₃ => wpAny_bind (wpAny_letTemporaryGo (wpAny_pure h₃))) fun _ _ x => x)
          first
            | exact wpAny_pure (wpAny_bind fin)
            | exact wpAny_bind (wpAny_pure (wpAny_bind fin))
            | exact wpAny_bind fin
      · cases e
  | _ => cases e
variable {a b e : Expr} {fa fb fe : FE} {pos : Pos} {es : List Expr}
theorem ie_ix (hu : X.A.units + 1 < cLine) (ha : IE X a fa) (hb : IE X b fb) (hs : PlainIx b := by exact fun _ _ => rfl) : IE X (.Subscript a b pos) (fOp opIx fa fb) :=
  (pe_ix (ixg hu) ha hb hs).wk fun σ H Q ⟨φ, σg, S, g, S', rs, rl, e, q⟩ => by
    obtain ⟨⟨x, S1⟩, e1, e⟩ := Option.bind_eq_some_iff.mp e
    obtain ⟨⟨y, S2⟩, e2, e3⟩ := Option.bind_eq_some_iff.mp e
    exact tE_ok rs rl e1 fun φ1 H1 v1 p1 r1 l1 => tE_ok p1.rs l1 e2 fun φ2 H2 v2 p2 r2 l2 => ⟨φ2, S2, x, y, g, S', p2.rs, r1.post p2, r2, e3, fun φ' H' v p r => q φ' H' v ((p1.trans p2).trans p) r⟩
def tO (K : PySem.W.Frag) (f : FO) : TO := fun σ H Q => ∃ φ σg S o S', RS K φ S H ∧ RSl K φ H σg σ ∧ f σg S = some (o, S') ∧ ∀ φ' H', Post K φ H S' φ' H' → Q o H'
abbrev IO (X : Cx) (e : Option Expr) (f : FO) : Prop := PO X e (tO X.K f)
theorem _root_.L2.PO.wk {e : Option Expr} {t t' : TO} (h : PO X e t) (w : ∀ σ H Q, t' σ H Q → t σ H Q) : PO X e t' := ⟨fun pins s σ H Q I q => h.run pins s σ H Q I (w _ _ _ q)⟩
theorem io_none : IO X none foNone := po_none.wk fun σ H Q ⟨φ, σg, S, o, S', rs, rl, e, q⟩ => by
  cases e
  exact q φ H rs.post
theorem asI_eq {p : G × Sto} {i : Int} {S : Sto} (h : asI p = some (i, S)) : p = (.int i, S) := by
  obtain ⟨g, S1⟩ := p
  cases g with
  | int x => cases h; rfl
  | _ => cases h
theorem io_some (h : IE X e fe) : IO X (some e) (foSome fe) := (po_some h).wk fun σ H Q ⟨φ, σg, S, o, S', rs, rl, e, q⟩ => by
  obtain ⟨⟨i, S1⟩, e1, e2⟩ := Option.map_eq_some_iff.mp e
  cases e2
  obtain ⟨p, e1, e2⟩ := Option.bind_eq_some_iff.mp e1
  cases asI_eq e2
  refine tE_ok rs rl e1 fun φ1 H1 v1 p1 r1 l1 => ?_
  cases r1
  exact ⟨i, rfl, q φ1 H1 p1⟩
theorem RGs.cut {K : PySem.W.Frag} {φ : List Addr} {H : Hp} {gs : List G} {vs : List V} (r : RGs K φ H gs vs) (lo hi : Option Int) : RGs K φ H (cutL gs lo hi) (cutV vs lo hi) := by
  unfold cutL cutV
  rw [r.len]
  exact (r.drop _).take _
theorem cutV_whole {vs : List V} {lo hi : Option Int} (h : HT.sIx vs.length 0 lo = 0 ∧ HT.sIx vs.length vs.length hi = vs.length) : cutV vs lo hi = vs := by
  unfold cutV
  rw [h.1, h.2]
  simp
def rSlG (K : PySem.W.Frag) : V → Option Int → Option Int → Hp → VK → Prop := fun x lo hi H Q => ∃ φ S gx g S', RS K φ S H ∧ RG K φ H gx x ∧ opSl gx lo hi S = some (g, S') ∧ ∀ φ' H' v, Post K φ H S' φ' H' → RG K φ' H' g v → Q v H'
theorem slg : SlR X (rSlG X.K) := by
  intro pins s σ H x v vl vu lo hi sl Q I rx hs pl pu h
  obtain ⟨φ, S, gx, g, S', rs, qx, e, q⟩ := h
  cases qx with
  | @tup a vs gs hq hr =>
    cases e
    refine sl_tupA pins s σ H _ v vl vu lo hi sl Q I rx hs pl pu ⟨a, vs, rfl, hq, fun hw => ?_, fun _ p np => ?_⟩
    · have hc := hr.cut lo hi
      rw [cutV_whole hw] at hc
      exact q φ H _ rs.post (.tup hq hc)
    · have P := rs.lay (o := .tup (cutV vs lo hi)) np
      exact q φ _ _ P (.tup (.of upd_same) ((hr.cut lo hi).post P))
  | str z =>
    have e : (if z.length ≤ sizeLine then some (G.str (cutS z lo hi), S) else none) = some (g, S') := e
    split at e
    · cases e
      exact sl_str pins s σ H _ v vl vu lo hi sl Q I rx hs pl pu ⟨z, rfl, by assumption, q φ H _ rs.post (.str _)⟩
    · cases e
  | @loc n a hn =>
    obtain ⟨gs, e1, e2⟩ := Option.map_eq_some_iff.mp e
    cases e2
    obtain ⟨vs, hq, hr⟩ := rs.list hn e1
    refine sl_list pins s σ H _ v vl vu lo hi sl Q I rx hs pl pu ⟨a, vs, rfl, hq, fun p np => ?_⟩
    obtain ⟨P, R⟩ := rs.newList np (hr.cut lo hi)
    exact q _ _ _ P R
  | _ => cases e
theorem ie_sl {lo hi : Option Expr} {fl fh : FO} {p2 : Pos} (he : IE X e fe) (hl : IO X lo fl) (hh : IO X hi fh) : IE X (.Subscript e (.Slice lo hi none p2) pos) (fSl fe fl fh) := (pe_slice slg he hl hh).wk fun σ H Q ⟨φ, σg, S, g, S', rs, rl, e, q⟩ => by
  obtain ⟨⟨x, S1⟩, e1, e⟩ := Option.bind_eq_some_iff.mp e
  obtain ⟨⟨l, S2⟩, e2, e⟩ := Option.bind_eq_some_iff.mp e
  obtain ⟨⟨u, S3⟩, e3, e4⟩ := Option.bind_eq_some_iff.mp e
  exact tE_ok rs rl e1 fun φ1 H1 v1 p1 r1 l1 => ⟨φ1, σg, S1, l, S2, p1.rs, l1, e2, fun φ2 H2 p2 => ⟨φ2, σg, S2, u, S3, p2.rs, l1.post p2, e3, fun φ3 H3 p3 => ⟨φ3, S3, x, g, S', p3.rs, (r1.post p2).post p3, e4, fun φ' H' v p r => q φ' H' v (((p1.trans p2).trans p3).trans p) r⟩⟩⟩
theorem ie_rev {k : Nat} {p1 p2 p3 : Pos} (he : IE X e fe) : IE X (.Subscript e (.Slice none none (some (.UnaryOp .USub (.Constant (.int 1) k p1) p2)) p3) pos) (fRev fe) := (pe_revL he).wk fun σ H Q ⟨φ, σg, S, g, S', rs, rl, e, q⟩ => by
  obtain ⟨⟨x, S1⟩, e1, e⟩ := Option.bind_eq_some_iff.mp e
  refine tE_ok rs rl e1 fun φ1 H1 v1 p1 r1 l1 => ?_
  cases r1 with
  | @loc n a hn =>
    obtain ⟨gs, e2, e3⟩ := Option.map_eq_some_iff.mp e
    cases e3
    obtain ⟨vs, hq, hr⟩ := p1.rs.list hn e2
    refine ⟨a, vs, rfl, hq, fun p np => ?_⟩
    obtain ⟨P, R⟩ := p1.rs.newList np hr.reverse
    exact q _ _ _ (p1.trans P) R
  | _ => cases e
end
end FL
set_option Elab.async false
set_option linter.all false
set_option maxRecDepth 100000
set_option maxHeartbeats 1000000
/-! Fn4: calls of built-ins, methods, displays of dicts, isinstance, constants of the module. -/
namespace FL
open PySem L2

theorem hu65 {k : Nat} {A : Around} (hr : Room k A) : A.units + 65 < cLine := by have := hr.un; omega
theorem hu1 {k : Nat} {A : Around} (hr : Room k A) : A.units + 1 < cLine := by have := hr.un; omega
/-- a recursion's bottom: nothing is promised -/
theorem defAt0 {P : Program} {w : World} {K : PySem.W.Frag} {mg : Str → Option Value} {base : Heap} {x qual : Str} {st : Stmt} {f : Addr} {fd : FuncData} (ps : List Str) {k np : Nat} (F : Fun K x qual st f fd) (g : mg x = some (.ref f))
    (b : ∀ (kV doc pm : Value) (an : Option Addr) (cdv ct : Value) (us : List Value), us.length = ps.length → bindArgs (PySem.W.fnOf x qual (defArgs st) (defBody st) (defScope st) .none kV doc pm an cdv ct) ⟨us, []⟩ = pure (ps.zip us))
    (hnp : ps.length = np := by rfl) : DefAt P w K mg base k x np (fun _ _ => none) := by
  subst hnp
  refine ⟨⟨f, fd, ps, rfl, ⟨fun vs H Q E h => h.1, fun A outer s H args us vs Q E hr he hb r h => ?_⟩, g, F.kp, F.binds b⟩, fun gs S r e => nomatch e⟩
  obtain ⟨_, _, _, _, _, _, _, _, e, _⟩ := h
  cases e
def bLen : List G → Sto → Option (G × Sto)
  | [.tup gs], S => some (.int gs.length, S)
  | [.str y], S => if y.length ≤ sizeLine then some (.int y.length, S) else none
  | [.loc n], S => match getL S n with
    | some gs => some (.int gs.length, S)
    | none => match S[n]? with
      | some (.dic ks) => some (.int ks.length, S)
      | _ => none
  | _, _ => none
def bInt : List G → Sto → Option (G × Sto)
  | [.int i], S => some (.int i, S)
  | [.bl b], S => some (.int (if b then 1 else 0), S)
  | _, _ => none
def bStr : List G → Sto → Option (G × Sto)
  | [.int i], S => if i.natAbs.log2 < 1920 then some (.str (toString i), S) else none
  | _, _ => none
def bAbs : List G → Sto → Option (G × Sto)
  | [.int i], S => some (.int (if i < 0 then -i else i), S)
  | _, _ => none
def bMin : List G → Sto → Option (G × Sto)
  | [.int i, .int j], S => some (.int (if j < i then j else i), S)
  | _, _ => none
def bMax : List G → Sto → Option (G × Sto)
  | [.int i, .int j], S => some (.int (if j > i then j else i), S)
  | _, _ => none
def bTuple : List G → Sto → Option (G × Sto)
  | [.tup gs], S => some (.tup gs, S)
  | [.loc n], S => (getL S n).map fun gs => (.tup gs, S)
  | _, _ => none
def bList : List G → Sto → Option (G × Sto)
  | [.tup gs], S => some (.loc S.length, S ++ [.lst gs])
  | [.loc n], S => (getL S n).map fun gs => (.loc S.length, S ++ [.lst gs])
  | _, _ => none
inductive Ty where
  | none | bool | int | str | tuple | list | dict
  deriving DecidableEq
def Ty.name : Ty → String
  | .none => "NoneType" | .bool => "bool" | .int => "int" | .str => "str" | .tuple => "tuple" | .list => "list" | .dict => "dict"
def tyG (S : Sto) : G → Option Ty
  | .non => some .none
  | .bl _ => some .bool
  | .int _ => some .int
  | .str _ => some .str
  | .tup _ => some .tuple
  | .loc n => match getL S n with
    | some _ => some .list
    | none => match S[n]? with
      | some (.dic _) => some .dict
      | _ => none
def isaTy (a T : Ty) : Bool := decide (a = T) || (decide (a = .bool) && decide (T = .int))
def isiG (T : Ty) : G → Sto → Option (G × Sto) := fun g S => (tyG S g).map fun a => (.bl (isaTy a T), S)
def isLc : G → Sto → Bool
  | .loc n, S => (getL S n).isSome
  | _, _ => false
def isDc : G → Sto → Bool
  | .loc n, S => match S[n]? with
    | some (.dic _) => true
    | _ => false
  | _, _ => false
def appG : G → G → Sto → Option (G × Sto)
  | .loc n, y, S => match S[n]? with
    | some (.lst gs) => if gs.length < sizeLine then some (.non, S.set n (.lst (gs ++ [y]))) else none
    | _ => none
  | _, _, _ => none
def fApp (fo fe : FE) : FE := fun σ S => (fo σ S).bind fun o => if isLc o.1 o.2 = true then (fe σ o.2).bind fun p => appG o.1 p.1 p.2 else none
def getD2 : G → G → G → Sto → Option (G × Sto)
  | .loc n, k, d, S => match S[n]? with
    | some (.dic ks) => (keyOf k).map fun key => ((getK ks key).getD d, S)
    | _ => none
  | _, _, _, _ => none
def fGet2 (fo fk fd : FE) : FE := fun σ S => (fo σ S).bind fun o => if isDc o.1 o.2 = true then (fk σ o.2).bind fun k => (fd σ k.2).bind fun d => getD2 o.1 k.1 d.1 d.2 else none
def evPairs : List (FE × FE) → Sl → Sto → Option (List (Key × G) × Sto)
  | [], _, S => some ([], S)
  | (fk, fv) :: r, σ, S => (fk σ S).bind fun k => (fv σ k.2).bind fun v => (keyOf k.1).bind fun key => (evPairs r σ v.2).map fun q => ((key, v.1) :: q.1, q.2)
def mergeG (kvs more : List (Key × G)) : List (Key × G) := more.foldl (fun acc kv => putG acc kv.1 kv.2) kvs
def isD0 : Option C → Bool
  | some (.dic []) => true
  | _ => false
def fDisp (prs : List (FE × FE)) : FE := fun σ S => (evPairs prs σ (S ++ [.dic []])).bind fun p => if isD0 p.2[S.length]? = true ∧ p.1.length ≤ 15 then some (.loc S.length, p.2.set S.length (.dic (mergeG [] p.1))) else none
def augAdd : G → G → Sto → Option (G × Sto)
  | .int i, .int j, S => some (.int (i + j), S)
  | .str x, .str y, S => if x.length + y.length ≤ sizeLine then some (.str (x ++ y), S) else none
  | _, _, _ => none

section
variable {X : Cx} {a b e : Expr} {fa fb fe : FE} {pos : Pos} {es : List Expr}
theorem one_of {K : PySem.W.Frag} {φ : List Addr} {H : Hp} {g : G} {xs : List V} (r : RGs K φ H [g] xs) : ∃ v, xs = [v] ∧ RG K φ H g v := by
  cases r with
  | cons r t => cases t; exact ⟨_, rfl, r⟩
theorem cg_len : CallG X (.builtin "len") bLen := by
  intro pins s σ H xs us Q I r h
  obtain ⟨φ, S, gs, g, S', rs, qs, e, q⟩ := h
  unfold bLen at e
  split at e
  · obtain ⟨v, rfl, rv⟩ := one_of qs
    cases rv with
    | tup hq hr =>
      cases e
      exact call_len pins s σ H _ us Q I r ⟨_, _, rfl, .inr ⟨_, hq, hr.len⟩, q φ H _ rs.post (.int _)⟩
  · obtain ⟨v, rfl, rv⟩ := one_of qs
    split at e
    · cases rv
      cases e
      exact call_len pins s σ H _ us Q I r ⟨_, _, rfl, ⟨by assumption, rfl⟩, q φ H _ rs.post (.int _)⟩
    · cases e
  · obtain ⟨v, rfl, rv⟩ := one_of qs
    cases rv with
    | loc hn =>
      split at e
      · rename_i gs hg
        cases e
        obtain ⟨vs, hq, hr⟩ := rs.list hn hg
        exact call_len pins s σ H _ us Q I r ⟨_, _, rfl, .inl ⟨_, hq, hr.len⟩, q φ H _ rs.post (.int _)⟩
      · split at e
        · rename_i ks hk
          cases e
          obtain ⟨vs, h1, h2⟩ := rs.cell _ _ _ hn hk
          refine call_lenD pins s σ H _ us Q I r ⟨_, vs, rfl, h1, ?_⟩
          rw [← h2.len]
          exact q φ H _ rs.post (.int _)
        · cases e
  · cases e
theorem cg_int : CallG X (.type "int") bInt := by
  intro pins s σ H xs us Q I r h
  obtain ⟨φ, S, gs, g, S', rs, qs, e, q⟩ := h
  unfold bInt at e
  split at e
  · obtain ⟨v, rfl, rv⟩ := one_of qs
    cases rv; cases e
    exact call_int1 pins s σ H _ us Q I r (.inl ⟨_, rfl, q φ H _ rs.post (.int _)⟩)
  · obtain ⟨v, rfl, rv⟩ := one_of qs
    cases rv; cases e
    exact call_int1 pins s σ H _ us Q I r (.inr ⟨_, rfl, q φ H _ rs.post (.int _)⟩)
  · cases e
theorem cg_str : CallG X (.type "str") bStr := by
  intro pins s σ H xs us Q I r h
  obtain ⟨φ, S, gs, g, S', rs, qs, e, q⟩ := h
  unfold bStr at e
  split at e
  · obtain ⟨v, rfl, rv⟩ := one_of qs
    split at e
    · cases rv; cases e
      exact call_str_int pins s σ H _ us Q I r ⟨_, rfl, by assumption, q φ H _ rs.post (.str _)⟩
    · cases e
  · cases e
theorem cg_abs : CallG X (.builtin "abs") bAbs := by
  intro pins s σ H xs us Q I r h
  obtain ⟨φ, S, gs, g, S', rs, qs, e, q⟩ := h
  unfold bAbs at e
  split at e
  · obtain ⟨v, rfl, rv⟩ := one_of qs
    cases rv; cases e
    exact call_abs pins s σ H _ us Q I r ⟨_, rfl, q φ H _ rs.post (.int _)⟩
  · cases e
theorem two_of {K : PySem.W.Frag} {φ : List Addr} {H : Hp} {g k : G} {xs : List V} (r : RGs K φ H [g, k] xs) : ∃ v w, xs = [v, w] ∧ RG K φ H g v ∧ RG K φ H k w := by
  cases r with
  | cons r t =>
    obtain ⟨w, rfl, rw⟩ := one_of t
    exact ⟨_, _, rfl, r, rw⟩
theorem cg_min (hc : X.calm = true) : CallG X (.builtin "min") bMin := by
  intro pins s σ H xs us Q I r h
  obtain ⟨φ, S, gs, g, S', rs, qs, e, q⟩ := h
  unfold bMin at e
  split at e
  · obtain ⟨v, w, rfl, rv, rw⟩ := two_of qs
    cases rv; cases rw; cases e
    exact call_min2 hc pins s σ H _ us Q I r ⟨_, _, rfl, q φ H _ rs.post (.int _)⟩
  · cases e
theorem cg_max (hc : X.calm = true) : CallG X (.builtin "max") bMax := by
  intro pins s σ H xs us Q I r h
  obtain ⟨φ, S, gs, g, S', rs, qs, e, q⟩ := h
  unfold bMax at e
  split at e
  · obtain ⟨v, w, rfl, rv, rw⟩ := two_of qs
    cases rv; cases rw; cases e
    exact call_max2 hc pins s σ H _ us Q I r ⟨_, _, rfl, q φ H _ rs.post (.int _)⟩
  · cases e
theorem cg_tuple : CallG X (.type "tuple") bTuple := by
  intro pins s σ H xs us Q I r h
  obtain ⟨φ, S, gs, g, S', rs, qs, e, q⟩ := h
  unfold bTuple at e
  split at e
  · obtain ⟨v, rfl, rv⟩ := one_of qs
    cases rv with
    | tup hq hr =>
      cases e
      exact call_tuple_of pins s σ H _ us Q I r ⟨_, _, rfl, .inr ⟨hq, q φ H _ rs.post (.tup hq hr)⟩⟩
  · obtain ⟨v, rfl, rv⟩ := one_of qs
    cases rv with
    | loc hn =>
      obtain ⟨gs, hg, e⟩ := Option.map_eq_some_iff.mp e
      cases e
      obtain ⟨vs, hq, hr⟩ := rs.list hn hg
      refine call_tuple_of pins s σ H _ us Q I r ⟨_, vs, rfl, .inl ⟨hq, fun p np => ?_⟩⟩
      have P := rs.lay (o := .tup vs) np
      exact q φ _ _ P (.tup (.of upd_same) (hr.post P))
  · cases e
theorem cg_list : CallG X (.type "list") bList := by
  intro pins s σ H xs us Q I r h
  obtain ⟨φ, S, gs, g, S', rs, qs, e, q⟩ := h
  unfold bList at e
  split at e
  · obtain ⟨v, rfl, rv⟩ := one_of qs
    cases rv with
    | tup hq hr =>
      cases e
      refine call_list_of pins s σ H _ us Q I r ⟨_, _, rfl, .inr hq, fun p np => ?_⟩
      obtain ⟨P, R⟩ := rs.newList np hr
      exact q _ _ _ P R
  · obtain ⟨v, rfl, rv⟩ := one_of qs
    cases rv with
    | loc hn =>
      obtain ⟨gs, hg, e⟩ := Option.map_eq_some_iff.mp e
      cases e
      obtain ⟨vs, hq, hr⟩ := rs.list hn hg
      refine call_list_of pins s σ H _ us Q I r ⟨_, vs, rfl, .inl hq, fun p np => ?_⟩
      obtain ⟨P, R⟩ := rs.newList np hr
      exact q _ _ _ P R
  · cases e
/-! ### isinstance -/
theorem tyG_ok {K : PySem.W.Frag} {φ : List Addr} {S : Sto} {H : Hp} {g : G} {v : V} {t : Ty} (rs : RS K φ S H) (r : RG K φ H g v) (h : tyG S g = some t) : TyX K H v (.type t.name) := by
  cases r with
  | non => cases h; exact .base .non
  | bl b => cases h; exact .base (.bl b)
  | int i => cases h; exact .base (.int i)
  | str x => cases h; exact .base (.str x)
  | tup hq hr =>
    cases h
    rcases hq with (hq | ⟨o, hq⟩) | ⟨o, _, _, hq, hc, _⟩
    · exact .base (.tup hq)
    · exact .fTuple hq
    · exact .kTuple hq hc
  | loc hn =>
    unfold tyG at h
    dsimp only at h
    split at h
    · rename_i gs hg
      cases h
      obtain ⟨vs, hq, hr⟩ := rs.list hn hg
      rcases hq with (hq | ⟨o, hq⟩) | ⟨o, _, _, hq, hc, _⟩
      · exact .base (.lst hq)
      · exact .base (.frz hq)
      · exact .kList hq hc
    · split at h
      · rename_i ks hk
        cases h
        obtain ⟨vs, h1, h2⟩ := rs.cell _ _ _ hn hk
        exact .base (.dK h1)
      · cases h
theorem kit_ok {K : PySem.W.Frag} (a T : Ty) (hT : T ≠ .none) : PySem.W.kitOne K (.type a.name) (.type T.name) = some (isaTy a T) := by
  cases T
  · exact absurd rfl hT
  all_goals (cases a <;> exact kit_ty (by decide +kernel))
theorem ie_isi (T : Ty) {p pT : Pos} {nm : Str} (ha : IE X a fa) (hm : X.mg "isinstance" = none) (hmT : X.mg nm = none) (hT : T ≠ .none := by decide) (hvT : bootBuiltins nm = some (.type T.name) := by decide +kernel) (hg : Gl X "isinstance" := by rfl) (hgT : Gl X nm := by rfl)
    (hnT : nm ≠ "__name__" := by decide) (hdT : (nm == ("__debug__" : Str)) = false := by decide)
    (hs1 : starEach [a, .Name nm pT] X.env = (false, eval a X.env) :: starEach [.Name nm pT] X.env := by rfl) (hs2 : starEach [.Name nm pT] X.env = (false, eval (.Name nm pT) X.env) :: starEach [] X.env := by rfl) (hpl : (backTo pos (starEach [.Name nm pT] X.env)).any (·.1) = false := by rfl) :
    IE X (.Call (.Name "isinstance" p) [a, .Name nm pT] [] pos) (fUn (isiG T) fa) :=
  (pe_callB call_isi hg hm PyProof.Rows.boot_isinstance (pa_cons ha (pa_cons (pe_bltn (v := .ty T.name) hgT hmT hvT rfl hnT hdT) pa_nil hs2) hs1) (by decide) (by decide) hs1 hpl).wk fun σ H Q ⟨φ, σg, S, g, S', rs, rl, e, q⟩ => by
    obtain ⟨⟨x, S1⟩, e1, e⟩ := Option.bind_eq_some_iff.mp e
    obtain ⟨t, e2, e3⟩ := Option.map_eq_some_iff.mp e
    cases e3
    exact tE_ok rs rl e1 fun φ1 H1 v1 p1 r1 l1 => ⟨v1, .ty T.name, .type t.name, .type T.name, _, rfl, .ty _, tyG_ok p1.rs r1 e2, kit_ok t T hT, q φ1 H1 _ p1 (.bl _)⟩
/-! ### methods -/
theorem ie_app {o : Expr} {fo : FE} {apos : Pos} (ho : IE X o fo) (ha : IE X e fe) (hbase : attributeBase o "append" X.env (eval o X.env) = eval o X.env := by rfl)
    (hfew : ((backTo pos (starEach [e] X.env)).all (fun x => !x.1) && (backToKw pos (keywordEach [] X.env)).all (fun x => x.1.isSome)
      && decide ([e].length + ([] : List Keyword).length + (if ([] : List Keyword).isEmpty then 0 else 1) < 30)) = true := by rfl)
    (hline : (apos.endLine == pos.line) = true := by rfl) (hs : starEach [e] X.env = (false, eval e X.env) :: starEach [] X.env := by rfl) (hplain : (backTo pos (starEach [] X.env)).any (·.1) = false := by rfl) :
    IE X (.Call (.Attribute o "append" apos) [e] [] pos) (fApp fo fe) :=
  (pe_bm PySem.F.plainAttrs_list PySem.F.slot_list_append PySem.F.type_list_append mt_append ho (pa_cons ha pa_nil hs) hbase hfew hline hs hplain).wk fun σ H Q ⟨φ, σg, S, g, S', rs, rl, e, q⟩ => by
    obtain ⟨⟨x, S1⟩, e1, e⟩ := Option.bind_eq_some_iff.mp e
    dsimp only at e
    split at e
    · rename_i hL
      obtain ⟨⟨y, S2⟩, e2, e⟩ := Option.bind_eq_some_iff.mp e
      refine tE_ok rs rl e1 fun φ1 H1 v1 p1 r1 l1 => ?_
      cases r1 with
      | @loc n b hn =>
        obtain ⟨gs1, hg1⟩ := Option.isSome_iff_exists.mp hL
        obtain ⟨vs1, hq1, _⟩ := p1.rs.list hn hg1
        refine ⟨.inl ⟨rfl, vs1, hq1⟩, tE_ok p1.rs l1 e2 fun φ2 H2 v2 p2 r2 l2 => ?_⟩
        have hn2 := pre_get p2.pre hn
        unfold appG at e
        dsimp only at e
        split at e
        · rename_i gs hg
          split at e
          · rename_i hz
            cases e
            obtain ⟨vs, h1, h2⟩ := p2.rs.cell _ _ _ hn2 hg
            refine ⟨b, vs, v2, rfl, rfl, h1, by rw [← h2.len]; exact hz, q φ2 _ _ ((p1.trans p2).trans (p2.rs.write (c' := .lst (gs ++ [y])) hn2 hg rfl rfl h1 rfl ⟨_, upd_same, ?_⟩)) .non⟩
            exact (h2.append (.one r2)).mono (List.prefix_refl _) (.wr h1 rfl)
          · cases e
        · cases e
      | _ => cases hL
    · cases e
theorem ie_get2 {o k d : Expr} {fo fk fd : FE} {apos : Pos} (hu : X.A.units + 1 < cLine) (ho : IE X o fo) (hk : IE X k fk) (hd : IE X d fd) (m : M2 X o "get" apos k d pos := by exact ⟨rfl, rfl, rfl, rfl⟩) :
    IE X (.Call (.Attribute o "get" apos) [k, d] [] pos) (fGet2 fo fk fd) := (pe_dget2 hu ho hk hd m).wk fun σ H Q ⟨φ, σg, S, g, S', rs, rl, e, q⟩ => by
  obtain ⟨⟨x, S1⟩, e1, e⟩ := Option.bind_eq_some_iff.mp e
  dsimp only at e
  split at e
  · rename_i hD
    obtain ⟨⟨y, S2⟩, e2, e⟩ := Option.bind_eq_some_iff.mp e
    obtain ⟨⟨z, S3⟩, e3, e⟩ := Option.bind_eq_some_iff.mp e
    refine tE_ok rs rl e1 fun φ1 H1 v1 p1 r1 l1 => ?_
    cases r1 with
    | @loc n b hn =>
      have hD' : ∃ ks, S1[n]? = some (.dic ks) := by
        unfold isDc at hD
        dsimp only at hD
        split at hD
        · exact ⟨_, by assumption⟩
        · cases hD
      obtain ⟨ks1, hk1⟩ := hD'
      obtain ⟨vs1, h1, _⟩ := p1.rs.cell _ _ _ hn hk1
      refine ⟨b, rfl, .inl ⟨vs1, .inl h1⟩, tE_ok p1.rs l1 e2 fun φ2 H2 v2 p2 r2 l2 => tE_ok p2.rs l2 e3 fun φ3 H3 v3 p3 r3 l3 => ?_⟩
      have hn3 := pre_get p3.pre (pre_get p2.pre hn)
      unfold getD2 at e
      dsimp only at e
      split at e
      · rename_i ks hks
        obtain ⟨key, ek, e⟩ := Option.map_eq_some_iff.mp e
        cases e
        obtain ⟨vs, h1, h2⟩ := p3.rs.cell _ _ _ hn3 hks
        have ey := keyOf_ok (r2.post p3) ek
        subst ey
        refine ⟨_, DGet.k h1, q φ3 H3 _ ((p1.trans p2).trans p3) ?_⟩
        rcases h2.val key with ⟨n1, n2⟩ | ⟨g2, w, n1, n2, n3⟩
        · rw [n1, n2]; exact r3
        · rw [n1, n2]; exact n3
      · cases e
    | _ => cases hD
  · cases e
/-! ### displays of dicts -/
def tPs (K : PySem.W.Frag) : List (FE × FE) → List (TE × TE)
  | [] => []
  | p :: r => (tE K p.1, tE K p.2) :: tPs K r
theorem ips_nil : PPs X pos [] [] (tPs X.K []) := pps_nil
theorem ips_cons {k v : Expr} {ks : List (Option Expr)} {vs : List Expr} {fk fv : FE} {prs : List (FE × FE)} (hk : IE X k fk) (hv : IE X v fv) (hr : PPs X pos ks vs (tPs X.K prs)) : PPs X pos (some k :: ks) (v :: vs) (tPs X.K ((fk, fv) :: prs)) := pps_cons hk hv hr
theorem tPairs_ok {K : PySem.W.Frag} : ∀ {prs : List (FE × FE)} {φ : List Addr} {σg : Sl} {S S' : Sto} {kgs : List (Key × G)} {σ : L2.St} {H : Hp} {Q : List (V × V) → Hp → Prop}, RS K φ S H → RSl K φ H σg σ → evPairs prs σg S = some (kgs, S') →
    (∀ φ' H' kvs, Post K φ H S' φ' H' → RKs K φ' H' kgs kvs → Q (kvs.map fun kv => (kV kv.1, kv.2)) H') → tPairs (tPs K prs) σ H Q
  | [], φ, σg, S, S', kgs, σ, H, Q, rs, rl, e, q => by
    cases e
    exact q φ H [] rs.post .nil
  | (fk, fv) :: r, φ, σg, S, S', kgs, σ, H, Q, rs, rl, e, q => by
    obtain ⟨⟨x, S1⟩, e1, e⟩ := Option.bind_eq_some_iff.mp e
    obtain ⟨⟨y, S2⟩, e2, e⟩ := Option.bind_eq_some_iff.mp e
    obtain ⟨key, ek, e⟩ := Option.bind_eq_some_iff.mp e
    obtain ⟨⟨more, S3⟩, e3, e4⟩ := Option.map_eq_some_iff.mp e
    cases e4
    refine tE_ok rs rl e1 fun φ1 H1 v1 p1 r1 l1 => tE_ok p1.rs l1 e2 fun φ2 H2 v2 p2 r2 l2 => tPairs_ok p2.rs l2 e3 fun φ3 H3 kvs p3 rk => ?_
    have ey := keyOf_ok r1 ek
    subst ey
    exact q φ3 H3 ((key, v2) :: kvs) ((p1.trans p2).trans p3) (.cons ⟨rfl, r2.post p3⟩ rk)
theorem RKs.merge {K : PySem.W.Frag} {φ : List Addr} {H : Hp} : ∀ {more : List (Key × G)} {mv : List (Key × V)} {kgs : List (Key × G)} {kvs : List (Key × V)}, RKs K φ H more mv → RKs K φ H kgs kvs → RKs K φ H (mergeG kgs more) (mergeK kvs mv)
  | [], _, _, _, .nil, r => r
  | p :: more, _, kgs, kvs, .cons (b := b) h t, r => by
    have h1 := r.put p.1 h.2
    show RKs K φ H (mergeG (putG kgs p.1 p.2) more) (mergeK (putK kvs b.1 b.2) _)
    rw [← h.1]
    exact RKs.merge t h1
theorem ie_disp {keys : List (Option Expr)} {values : List Expr} {prs : List (FE × FE)} (h : PPs X pos keys values (tPs X.K prs)) (hall : keys.all (·.isSome) = true := by rfl) (hl : keys.length = values.length := by rfl) (h0 : keys ≠ [] := by exact fun z => nomatch z)
    (h15 : keys.length ≤ 15 := by decide) : IE X (.Dict keys values pos) (fDisp prs) := (pe_disp h hall hl h0 h15).wk fun σ H Q ⟨φ, σg, S, g, S', rs, rl, e, q⟩ => by
  intro p np
  obtain ⟨⟨kgs, S1⟩, e1, e⟩ := Option.bind_eq_some_iff.mp e
  dsimp only at e
  split at e
  · rename_i hc
    cases e
    obtain ⟨P, R⟩ := rs.newDic np (gs := []) (vs := []) .nil
    refine tPairs_ok P.rs (rl.post P) e1 fun φ1 H1 kvs p1 rk => ?_
    have hp : φ1[S.length]? = some p := pre_get p1.pre (by rw [← rs.len]; simp)
    have hz : S1[S.length]? = some (.dic []) := by
      have := hc.1
      unfold isD0 at this
      split at this
      · assumption
      · cases this
    obtain ⟨vs, h1, h2⟩ := p1.rs.cell _ _ _ hp hz
    cases h2
    refine ⟨h1, kvs, rfl, by rw [← rk.len]; exact hc.2, q φ1 _ _ ((P.trans p1).trans (p1.rs.write (c' := .dic (mergeG [] kgs)) hp hz rfl rfl h1 rfl ⟨_, upd_same, ?_⟩)) (.loc hp)⟩
    exact (rk.merge .nil).mono (List.prefix_refl _) (.wr h1 rfl)
  · cases e
/-! ### op= -/
theorem ipg_add : PIpG X .Add augAdd := by
  intro pins s σ H x y v u Q I rx ry h
  obtain ⟨φ, S, gx, gy, g, S', rs, qx, qy, e, q⟩ := h
  unfold augAdd at e
  split at e
  · cases qx; cases qy; cases e
    exact ip_add pins s σ H _ _ v u Q I rx ry ⟨_, _, rfl, rfl, q φ H _ rs.post (.int _)⟩
  · split at e
    · cases qx; cases qy; cases e
      exact iop_add_str pins s σ H _ _ v u Q I rx ry ⟨_, _, rfl, rfl, by assumption, q φ H _ rs.post (.str _)⟩
    · cases e
  · cases e
theorem ipg_sub : PIpG X .Sub opSub := by
  intro pins s σ H x y v u Q I rx ry h
  obtain ⟨φ, S, gx, gy, g, S', rs, qx, qy, e, q⟩ := h
  unfold opSub opInt2 at e
  split at e
  · cases qx; cases qy; cases e
    exact ip_sub pins s σ H _ _ v u Q I rx ry ⟨_, _, rfl, rfl, q φ H _ rs.post (.int _)⟩
  · cases e
/-! ### constants of the module -/
inductive KonG : G → V → Prop
  | int (i : Int) : KonG (.int i) (.int i)
  | str (x : Str) : KonG (.str x) (.str x)
  | bl (b : Bool) : KonG (.bl b) (.bl b)
def GlobG (mg : Str → Option Value) (x : Str) (g : G) : Prop := ∃ v u, mg x = some u ∧ RelV v u ∧ KonG g v
theorem ie_glob {x : Str} {g : G} {p : Pos} (h : GlobG X.mg x g) (hg : Gl X x := by rfl) (hd : (x == ("__debug__" : Str)) = false := by decide) : IE X (.Name x p) (fK g) := by
  obtain ⟨v, u, h1, h2, h3⟩ := h
  refine ie_k (pe_glob hg h1 h2 hd) fun φ H => ?_
  cases h3
  · exact .int _
  · exact .str _
  · exact .bl _
end
/-! ### y = {k: v for ..} on one line -/
section
variable {X : Cx}
theorem is_setDc (i : Nat) {y : Str} {py : Pos} {kx elt tg iter : Expr} {ifs : List Expr} {scope : Scope} (own : List (Str × Nat)) {pos spos : Pos} {fi : FI} {t : Tg} {tt : FT} {tk te : FE} (hc : X.calm = true) (hN : X.N.Nodup) (hi : II X tg iter fi) (ok : BlkOk X.N X.env.scope scope own) (hv : own.map (·.2) = t.idx)
    (hg : ∀ (s : Shared) (H : Hp) (C : Addr) (cl : List (Str × Addr)) (fp : List Addr), IG (X.blk s H scope (compEnvC scope cl C X.env) fp) tg t) (ht : ∀ (s : Shared) (H : Hp) (C : Addr) (cl : List (Str × Addr)) (fp : List Addr), ITs (X.blk s H scope (compEnvC scope cl C X.env) fp) ifs tt)
    (hk : ∀ (s : Shared) (H : Hp) (C : Addr) (cl : List (Str × Addr)) (fp : List Addr), IE (X.blk s H scope (compEnvC scope cl C X.env) fp) kx tk)
    (he : ∀ (s : Shared) (H : Hp) (C : Addr) (cl : List (Str × Addr)) (fp : List Addr), IE (X.blk s H scope (compEnvC scope cl C X.env) fp) elt te)
    (hsw : swapsWith (.DictComp kx elt [⟨tg, iter, ifs, 0⟩] scope pos) (some (.Name y py)) spos.line X.env = pure true) (hs : ∀ x, foldedSetIterable iter X.env x = pure x := by intro _; rfl) (hy : X.N[i]? = some y := by rfl) (hyl : X.env.scope.names.lookup y = some .local := by rfl) :
    IS X (.Assign [.Name y py] (.DictComp kx elt [⟨tg, iter, ifs, 0⟩] scope pos) spos) (sSet i (fDc fi t tt tk te)) := by
  refine ⟨fun pins s σ H D I ⟨φ, σg, S, r, rs, rl, e, q⟩ => ?_⟩
  obtain ⟨⟨x, S1⟩, e1, e2⟩ := Option.map_eq_some_iff.mp e
  cases e2
  have h : tDc (tI X.K fi) (gT X.K t) (tT X.K tt) (tE X.K tk) (tE X.K te) (own.map (·.2)) σ H (fun x H1 => gName i x σ H1 D.nx) := by
    rw [hv]
    exact dc_read (tE_ok rs rl e1 fun φ1 H1 v1 p1 r1 l1 => q φ1 H1 _ p1 (l1.set r1 i))
  rw [exec_Assign_Name_used _ _ _ _ hsw]
  refine wpAny_bind (wpAny_standAt (wpAny_bind ?_))
  show wpAny _ X.A (do let _ ← comprehension (.DictComp kx elt [⟨tg, iter, ifs, 0⟩] scope pos) scope X.env (firstIterPos [⟨tg, iter, ifs, 0⟩] pos) newDict false (eval iter X.env) (some (assign (.Name y py) X.env))) _ _ s
  refine wpAny_bind (thn (dc_core (Qf := fun _ s' => SP X pins D .next s') hc hN I hi ok hg ht hk he hs h fun L C s' m H' I' q hn f => ?_) fun _ s' hq => wpAny_pure (wpAny_pure hq))
  show wpAny _ _ (assign (.Name y py) X.env (.ref L)) _ _ _
  refine wpAny_assign_Name (store_ok2 (v := V.ref L) I' hN hy (.inl hyl) rfl (fun s2 I2 ⟨a, sb, ha⟩ => ?_) (.inr hyl))
  obtain ⟨f0, f1, f2, f3, f4, f5⟩ := f
  have haC : C ≠ a := by
    rcases ha with z | z
    · rw [z]; exact f1
    · exact fun e => f4 y a z e.symm
  refine ⟨m, hn.sameBut sb haC, fun h3 sb3 => ?_⟩
  exact ⟨_, H', I2.turned (t' := s2.toks) (fun b o hb e => (sb3.2 b hb).trans e) f0 f1 f3 f4 f5, q⟩
theorem swD_true {kx elt : Expr} {gs : List Comprehension} {scope : Scope} {pos py : Pos} {y : Str} {l : Nat} {env : Env} (hk : env.scope.kind = .function) (hy : env.scope.names.lookup y = some .local) (hl : (py.line == pos.line) = true)
    (ha : (scope.names.any fun (n, k) => n == y && (k == .local || k == .cell)) = false) : swapsWith (.DictComp kx elt gs scope pos) (some (.Name y py)) l env = pure true := by
  have ky : env.kindOf y = some .local := hy
  have hb : env.blockKind = .function := by unfold Env.blockKind; rw [hk]; rfl
  unfold swapsWith
  simp only [hb, ky, ha, Expr.pos, hl]
  rfl
end
/-! ### a law's own end -/
theorem ints_ok {K : PySem.W.Frag} {φ : List Addr} {H : Hp} : ∀ ns : List Int, RGs K φ H (ns.map G.int) (ns.map V.int)
  | [] => .nil
  | n :: ns => .cons (.int n) (ints_ok ns)
theorem sp_end {K : PySem.W.Frag} {F : List G → Sto → Option (G × Sto)} {H : Hp} {a : Addr} {ns : List Int} {E : XK} (hS : SqL K H a (ns.map V.int))
    (hF : ∀ c : C, (c = .ro (ns.map G.int) ∨ c = .kro (ns.map G.int)) → ∃ S', F [.loc 0] [c] = some (.bl true, S')) : spG K 1 F [.ref a] H (fun v _ => v = .bl true) E := by
  have one : ∀ c : C, (c = .ro (ns.map G.int) ∨ c = .kro (ns.map G.int)) → RC K [a] H a c → spG K 1 F [.ref a] H (fun v _ => v = .bl true) E := fun c hc rc => by
    obtain ⟨S', e⟩ := hF c hc
    refine ⟨rfl, [a], [c], [.loc 0], .bl true, S', ⟨rfl, fun n m b h1 h2 => ?_, fun n b d h1 h2 => ?_⟩, .cons (.loc rfl) .nil, e, fun φ' H' v P r => r.isB⟩
    · cases n with
      | zero =>
        cases m with
        | zero => exact .inl rfl
        | succ m => simp at h2
      | succ n => simp at h1
    · cases n with
      | zero => cases h1; cases h2; exact rc
      | succ n => simp at h1
  rcases hS with h | h
  · exact one _ (.inl rfl) ⟨_, h, ints_ok ns⟩
  · exact one _ (.inr rfl) ⟨_, h, ints_ok ns⟩
end FL
set_option Elab.async false
set_option linter.all false
set_option maxRecDepth 100000
set_option maxHeartbeats 1000000
/-! Fn5: reasoning about the functions, in plain Lean: stores that grow, loops by invariants, what is said of an outcome. -/
namespace FL
open PySem L2

/-! ### what is said of an outcome -/
def Ev {α : Type} (x : Option (α × Sto)) (Q : α → Sto → Prop) : Prop := ∃ g S, x = some (g, S) ∧ Q g S
theorem Ev.mono {α : Type} {x : Option (α × Sto)} {Q Q' : α → Sto → Prop} (h : Ev x Q) (w : ∀ g S, Q g S → Q' g S) : Ev x Q' := let ⟨g, S, e, q⟩ := h; ⟨g, S, e, w g S q⟩
theorem Ev.ok {α : Type} {g : α} {S : Sto} {Q : α → Sto → Prop} (h : Q g S) : Ev (some (g, S)) Q := ⟨g, S, rfl, h⟩
def Fls (x : Option Fl) (Q : Fl → Prop) : Prop := ∃ r, x = some r ∧ Q r
theorem Fls.mono {x : Option Fl} {Q Q' : Fl → Prop} (h : Fls x Q) (w : ∀ r, Q r → Q' r) : Fls x Q' := let ⟨r, e, q⟩ := h; ⟨r, e, w r q⟩
theorem Fls.ok {r : Fl} {Q : Fl → Prop} (h : Q r) : Fls (some r) Q := ⟨r, rfl, h⟩

/-! ### stores -/
/-- all cells but those at Z are as they were -/
structure Upto (Z : List Nat) (S S' : Sto) : Prop where
  len : S.length ≤ S'.length
  at' : ∀ (n : Nat), n ∉ Z → n < S.length → S'[n]? = S[n]?
theorem Upto.refl (Z : List Nat) (S : Sto) : Upto Z S S := ⟨Nat.le_refl _, fun _ _ _ => rfl⟩
theorem Upto.trans {Z : List Nat} {S S1 S2 : Sto} (a : Upto Z S S1) (b : Upto Z S1 S2) : Upto Z S S2 :=
  ⟨Nat.le_trans a.len b.len, fun n h l => (b.at' n h (Nat.lt_of_lt_of_le l a.len)).trans (a.at' n h l)⟩
theorem Upto.mono {Z Z' : List Nat} {S S' : Sto} (a : Upto Z S S') (h : ∀ n ∈ Z, n ∈ Z') : Upto Z' S S' := ⟨a.len, fun n hn l => a.at' n (fun z => hn (h n z)) l⟩
/-- what is written beyond the old end doesn't matter -/
theorem Upto.drop {Z Z' : List Nat} {S S' : Sto} (a : Upto Z S S') (h : ∀ n ∈ Z, n < S.length → n ∈ Z') : Upto Z' S S' := ⟨a.len, fun n hn l => a.at' n (fun z => hn (h n z l)) l⟩
theorem Upto.get {Z : List Nat} {S S' : Sto} (a : Upto Z S S') {n : Nat} {c : C} (hn : n ∉ Z) (h : S[n]? = some c) : S'[n]? = some c := by
  rw [a.at' n hn (List.getElem?_eq_some_iff.mp h).1]; exact h
theorem Upto.getL {Z : List Nat} {S S' : Sto} (a : Upto Z S S') {n : Nat} {gs : List G} (hn : n ∉ Z) (h : FL.getL S n = some gs) : FL.getL S' n = some gs := by
  have hl : n < S.length := by
    unfold FL.getL at h
    by_cases q : n < S.length
    · exact q
    · rw [List.getElem?_eq_none (by omega)] at h; cases h
  unfold FL.getL at h ⊢
  rw [a.at' n hn hl]; exact h
theorem Upto.app (Z : List Nat) (S T : Sto) : Upto Z S (S ++ T) := ⟨by simp, fun n _ l => List.getElem?_append_left l⟩
theorem Upto.set {Z : List Nat} {S : Sto} {n : Nat} (h : n ∈ Z) (c : C) : Upto Z S (S.set n c) := ⟨by simp, fun m hm _ => List.getElem?_set_ne (fun (e : n = m) => hm (e ▸ h))⟩
theorem lt_of_get {S : Sto} {n : Nat} {c : C} (h : S[n]? = some c) : n < S.length := (List.getElem?_eq_some_iff.mp h).1
theorem get_new {S : Sto} (c : C) : (S ++ [c])[S.length]? = some c := by simp
theorem get_set {S : Sto} {n : Nat} {c d : C} (h : S[n]? = some d) : (S.set n c)[n]? = some c := List.getElem?_set_self (lt_of_get h)
theorem getL_lst {S : Sto} {n : Nat} {gs : List G} (h : S[n]? = some (.lst gs)) : getL S n = some gs := by unfold getL; rw [h]
theorem getL_dic {S : Sto} {n : Nat} {ks : List (Key × G)} (h : S[n]? = some (.dic ks)) : getL S n = none := by unfold getL; rw [h]

/-! ### loops -/
open Classical in
theorem loop_inv {lk : Sto → Prop} {tg : Tg} {body : FS} {Qr : G → Sto → Prop} {Qb : Sl → Sto → Prop} : ∀ (gs : List G) (P : Nat → Sl → Sto → Prop) (σ : Sl) (S : Sto), P 0 σ S →
    (∀ (i : Nat) (g : G) (σ : Sl) (S : Sto), gs[i]? = some g → P i σ S → lk S ∧ ∃ σ1, tg.set g σ = some σ1 ∧ Fls (body σ1 S) fun
      | .nx σ' S' => P (i + 1) σ' S'
      | .ct σ' S' => P (i + 1) σ' S'
      | .bk σ' S' => Qb σ' S'
      | .rt v S' => Qr v S') →
    (∀ σ S, P gs.length σ S → lk S) →
    Fls (loopG lk tg body gs σ S) fun
      | .nx σ' S' => P gs.length σ' S' ∨ Qb σ' S'
      | .rt v S' => Qr v S'
      | _ => False
  | [], P, σ, S, h0, _, hl => by
    unfold loopG
    rw [if_pos (hl σ S h0)]
    exact .ok (.inl h0)
  | g :: gs, P, σ, S, h0, hs, hl => by
    obtain ⟨hlk, σ1, e1, r, e2, q⟩ := hs 0 g σ S rfl h0
    unfold loopG
    rw [if_pos hlk, e1]
    dsimp only [Option.bind]
    rw [e2]
    dsimp only
    cases r with
    | nx σ' S' => exact loop_inv gs (fun i => P (i + 1)) σ' S' q (fun i g' σ S h p => hs (i + 1) g' σ S (by simpa using h) p) hl
    | ct σ' S' => exact loop_inv gs (fun i => P (i + 1)) σ' S' q (fun i g' σ S h p => hs (i + 1) g' σ S (by simpa using h) p) hl
    | bk σ' S' => exact .ok (.inr q)
    | rt v S' => exact .ok q
theorem while_inv {c : FT} {body : FS} {Qr : G → Sto → Prop} {Qx : Sl → Sto → Prop} (P : Nat → Sl → Sto → Prop)
    (hs : ∀ m σ S, P m σ S → ∃ b S1, c σ S = some (b, S1) ∧ (b = false → Qx σ S1) ∧ (b = true → Fls (body σ S1) fun
      | .nx σ' S' => ∃ m', m' < m ∧ P m' σ' S'
      | .ct σ' S' => ∃ m', m' < m ∧ P m' σ' S'
      | .bk σ' S' => Qx σ' S'
      | .rt v S' => Qr v S')) : ∀ (n m : Nat) (σ : Sl) (S : Sto), m < n → P m σ S → Fls (whileG c body n σ S) fun
      | .nx σ' S' => Qx σ' S'
      | .rt v S' => Qr v S'
      | _ => False
  | 0, m, σ, S, h, _ => absurd h (Nat.not_lt_zero _)
  | n + 1, m, σ, S, h, p => by
    obtain ⟨b, S1, e1, h1, h2⟩ := hs m σ S p
    unfold whileG
    rw [e1]
    dsimp only [Option.bind]
    cases b with
    | false => rw [if_neg (by decide)]; exact .ok (h1 rfl)
    | true =>
      rw [if_pos rfl]
      obtain ⟨r, e2, q⟩ := h2 rfl
      rw [e2]
      dsimp only
      cases r with
      | nx σ' S' => obtain ⟨m', hm, q⟩ := q; exact while_inv P hs n m' σ' S' (by omega) q
      | ct σ' S' => obtain ⟨m', hm, q⟩ := q; exact while_inv P hs n m' σ' S' (by omega) q
      | bk σ' S' => exact .ok q
      | rt v S' => exact .ok q
/-! ### unfolding -/
section
variable {σ : Sl} {S : Sto}
theorem sSeq_nx {f g : FS} {σ' : Sl} {S' : Sto} (h : f σ S = some (.nx σ' S')) : sSeq f g σ S = g σ' S' := by unfold sSeq; rw [h]; rfl
theorem Fls.seq {f g : FS} {Q : Fl → Prop} (h : Fls (f σ S) fun
      | .nx σ' S' => Fls (g σ' S') Q
      | r => Q r) : Fls (sSeq f g σ S) Q := by
  obtain ⟨r, e, q⟩ := h
  unfold sSeq
  rw [e]
  cases r with
  | nx σ' S' => exact q
  | rt v S' => exact .ok q
  | bk σ' S' => exact .ok q
  | ct σ' S' => exact .ok q
theorem Fls.sif {t : FT} {a b : FS} {Q : Fl → Prop} {k : Bool} {S1 : Sto} (h : t σ S = some (k, S1)) (ha : k = true → Fls (a σ S1) Q) (hb : k = false → Fls (b σ S1) Q) : Fls (sIf t a b σ S) Q := by
  unfold sIf
  rw [h]
  cases k with
  | true => exact ha rfl
  | false => exact hb rfl
theorem Ev.call {np n : Nat} {body : FS} {args : List G} {Q : G → Sto → Prop} (hn : args.length = np) (h : Fls (body (args.map some ++ List.replicate (n - args.length) none) S) fun
      | .nx _ S' => Q .non S'
      | .rt v S' => Q v S'
      | _ => False) : Ev (callG np n body args S) Q := by
  unfold callG
  rw [if_pos hn]
  obtain ⟨r, e, q⟩ := h
  rw [e]
  cases r with
  | nx σ' S' => exact .ok q
  | rt v S' => exact .ok q
  | bk σ' S' => exact q.elim
  | ct σ' S' => exact q.elim
end

/-! ### the calculus of outcomes -/
section
variable {α : Type} {σ : Sl} {S : Sto} {Q : G → Sto → Prop} {QA : List G → Sto → Prop} {QB : Bool → Sto → Prop} {fa fb fe fo fk fd : FE} {f : FA} {t u : FT}
theorem Ev.eq {x : Option (α × Sto)} {g : α} {S' : Sto} {Q : α → Sto → Prop} (e : x = some (g, S')) (q : Q g S') : Ev x Q := ⟨g, S', e, q⟩
theorem Ev.var {i : Nat} {g : G} (e : σ[i]? = some (some g)) (q : Q g S) : Ev (fVar i σ S) Q := ⟨g, S, by unfold fVar; rw [e], q⟩
theorem Ev.k {g : G} (q : Q g S) : Ev (fK g σ S) Q := ⟨g, S, rfl, q⟩
theorem Ev.op {go : G → G → Sto → Option (G × Sto)} (h : Ev (fa σ S) fun x S1 => Ev (fb σ S1) fun y S2 => Ev (go x y S2) Q) : Ev (fOp go fa fb σ S) Q := by
  obtain ⟨x, S1, e1, y, S2, e2, g, S3, e3, q⟩ := h
  exact ⟨g, S3, by unfold fOp; rw [e1]; dsimp only [Option.bind]; rw [e2]; exact e3, q⟩
theorem Ev.un {go : G → Sto → Option (G × Sto)} (h : Ev (fa σ S) fun x S1 => Ev (go x S1) Q) : Ev (fUn go fa σ S) Q := by
  obtain ⟨x, S1, e1, g, S3, e3, q⟩ := h
  exact ⟨g, S3, by unfold fUn; rw [e1]; exact e3, q⟩
theorem Ev.anil (q : QA [] S) : Ev (faNil σ S) QA := ⟨[], S, rfl, q⟩
theorem Ev.acons (h : Ev (fe σ S) fun x S1 => Ev (f σ S1) fun xs S2 => QA (x :: xs) S2) : Ev (faCons fe f σ S) QA := by
  obtain ⟨x, S1, e1, y, S2, e2, q⟩ := h
  exact ⟨x :: y, S2, by unfold faCons; rw [e1]; dsimp only [Option.bind]; rw [e2], q⟩
theorem Ev.tup (h : Ev (f σ S) fun gs S1 => gs.length ≤ 1000 ∧ Q (.tup gs) S1) : Ev (fTup f σ S) Q := by
  obtain ⟨x, S1, e1, hl, q⟩ := h
  exact ⟨_, S1, by unfold fTup; rw [e1]; dsimp only [Option.bind]; rw [if_pos hl], q⟩
theorem Ev.lst (h : Ev (f σ S) fun gs S1 => gs.length ≤ 1000 ∧ Q (.loc S1.length) (S1 ++ [.lst gs])) : Ev (fLst f σ S) Q := by
  obtain ⟨x, S1, e1, hl, q⟩ := h
  exact ⟨_, _, by unfold fLst; rw [e1]; dsimp only [Option.bind]; rw [if_pos hl], q⟩
theorem Ev.dic0 (q : Q (.loc S.length) (S ++ [.dic []])) : Ev (fDic0 σ S) Q := ⟨_, _, rfl, q⟩
theorem Ev.fcall {F : List G → Sto → Option (G × Sto)} (h : Ev (f σ S) fun gs S1 => Ev (F gs S1) Q) : Ev (fCall F f σ S) Q := by
  obtain ⟨x, S1, e1, g, S3, e3, q⟩ := h
  exact ⟨g, S3, by unfold fCall; rw [e1]; exact e3, q⟩
theorem Ev.ttB (h : Ev (fe σ S) fun g S1 => ∃ b, g = .bl b ∧ QB b S1) : Ev (ttB fe σ S) QB := by
  obtain ⟨g, S1, e1, b, rfl, q⟩ := h
  exact ⟨b, S1, by unfold FL.ttB; rw [e1]; rfl, q⟩
theorem Ev.ttV (h : Ev (fe σ S) fun g S1 => ∃ b, tru S1 g = some b ∧ QB b S1) : Ev (ttV fe σ S) QB := by
  obtain ⟨g, S1, e1, b, e2, q⟩ := h
  exact ⟨b, S1, by unfold FL.ttV; rw [e1]; dsimp only [Option.bind]; rw [e2]; rfl, q⟩
theorem Ev.ttNot (h : Ev (t σ S) fun b S1 => QB (!b) S1) : Ev (ttNot t σ S) QB := by
  obtain ⟨b, S1, e1, q⟩ := h
  exact ⟨!b, S1, by unfold FL.ttNot; rw [e1]; rfl, q⟩
theorem Ev.ttAnd (h : Ev (t σ S) fun b S1 => (b = true → Ev (u σ S1) QB) ∧ (b = false → QB false S1)) : Ev (ttAnd t u σ S) QB := by
  obtain ⟨b, S1, e1, h1, h2⟩ := h
  unfold FL.ttAnd
  rw [e1]
  cases b with
  | true => exact h1 rfl
  | false => exact ⟨false, S1, rfl, h2 rfl⟩
theorem Ev.ttOr (h : Ev (t σ S) fun b S1 => (b = false → Ev (u σ S1) QB) ∧ (b = true → QB true S1)) : Ev (ttOr t u σ S) QB := by
  obtain ⟨b, S1, e1, h1, h2⟩ := h
  unfold FL.ttOr
  rw [e1]
  cases b with
  | false => exact h1 rfl
  | true => exact ⟨true, S1, rfl, h2 rfl⟩
theorem Ev.fAnd (h : Ev (fa σ S) fun g S1 => ∃ b, g = .bl b ∧ (b = true → Ev (fb σ S1) Q) ∧ (b = false → Q (.bl false) S1)) : Ev (fAnd fa fb σ S) Q := by
  obtain ⟨g, S1, e1, b, rfl, h1, h2⟩ := h
  unfold FL.fAnd
  rw [e1]
  cases b with
  | true => exact h1 rfl
  | false => exact ⟨_, S1, rfl, h2 rfl⟩
theorem Ev.fOr (h : Ev (fa σ S) fun g S1 => ∃ b, g = .bl b ∧ (b = false → Ev (fb σ S1) Q) ∧ (b = true → Q (.bl true) S1)) : Ev (fOr fa fb σ S) Q := by
  obtain ⟨g, S1, e1, b, rfl, h1, h2⟩ := h
  unfold FL.fOr
  rw [e1]
  cases b with
  | false => exact h1 rfl
  | true => exact ⟨_, S1, rfl, h2 rfl⟩
theorem Ev.fNot (h : Ev (fa σ S) fun g S1 => ∃ b, g = .bl b ∧ Q (.bl (!b)) S1) : Ev (fNot fa σ S) Q := by
  obtain ⟨g, S1, e1, b, rfl, q⟩ := h
  exact ⟨_, S1, by unfold FL.fNot; rw [e1]; rfl, q⟩
theorem Ev.fIf (h : Ev (t σ S) fun b S1 => (b = true → Ev (fa σ S1) Q) ∧ (b = false → Ev (fb σ S1) Q)) : Ev (fIf t fa fb σ S) Q := by
  obtain ⟨b, S1, e1, h1, h2⟩ := h
  unfold FL.fIf
  rw [e1]
  cases b with
  | true => exact h1 rfl
  | false => exact h2 rfl
theorem Ev.app {n : Nat} {gs : List G} {y : G} (h : Ev (fo σ S) fun o S1 => ∃ n, o = .loc n ∧ (getL S1 n).isSome = true ∧ Ev (fe σ S1) fun y S2 => ∃ gs, S2[n]? = some (.lst gs) ∧ gs.length < sizeLine ∧ Q .non (S2.set n (.lst (gs ++ [y])))) : Ev (fApp fo fe σ S) Q := by
  obtain ⟨o, S1, e1, n, rfl, h1, y, S2, e2, gs, h2, h3, q⟩ := h
  refine ⟨.non, _, ?_, q⟩
  unfold fApp
  rw [e1]
  dsimp only [Option.bind]
  rw [if_pos (show isLc (.loc n) S1 = true from h1), e2]
  dsimp only [appG]
  rw [h2]
  dsimp only
  rw [if_pos h3]
theorem Ev.get2 (h : Ev (fo σ S) fun o S1 => ∃ n ks, o = .loc n ∧ S1[n]? = some (.dic ks) ∧ Ev (fk σ S1) fun k S2 => Ev (fd σ S2) fun d S3 => ∃ ks key, S3[n]? = some (.dic ks) ∧ keyOf k = some key ∧ Q ((getK ks key).getD d) S3) : Ev (fGet2 fo fk fd σ S) Q := by
  obtain ⟨o, S1, e1, n, ks, rfl, h1, k, S2, e2, d, S3, e3, ks3, key, h3, hk, q⟩ := h
  refine ⟨_, S3, ?_, q⟩
  unfold fGet2
  rw [e1]
  dsimp only [Option.bind]
  rw [if_pos (show isDc (.loc n) S1 = true by unfold isDc; dsimp only; rw [h1]), e2]
  dsimp only
  rw [e3]
  dsimp only [getD2]
  rw [h3]
  dsimp only
  rw [hk]
  rfl
/-- {k: v}: one pair -/
theorem Ev.disp1 (h : Ev (fk σ (S ++ [.dic []])) fun k S1 => Ev (fe σ S1) fun v S2 => ∃ key, keyOf k = some key ∧ S2[S.length]? = some (.dic []) ∧ Q (.loc S.length) (S2.set S.length (.dic [(key, v)]))) : Ev (fDisp [(fk, fe)] σ S) Q := by
  obtain ⟨k, S1, e1, v, S2, e2, key, hk, h1, q⟩ := h
  refine ⟨_, _, ?_, q⟩
  unfold fDisp evPairs
  rw [e1]
  dsimp only [Option.bind]
  rw [e2]
  dsimp only
  rw [hk]
  dsimp only [evPairs, Option.map]
  rw [h1, if_pos ⟨rfl, by simp⟩]
  rfl
theorem Ev.sl {lo hi : FO} (h : Ev (fe σ S) fun x S1 => Ev (lo σ S1) fun l S2 => Ev (hi σ S2) fun m S3 => Ev (opSl x l m S3) Q) : Ev (fSl fe lo hi σ S) Q := by
  obtain ⟨x, S1, e1, l, S2, e2, m, S3, e3, g, S4, e4, q⟩ := h
  exact ⟨g, S4, by unfold fSl; rw [e1]; dsimp only [Option.bind]; rw [e2]; dsimp only; rw [e3]; exact e4, q⟩
theorem Ev.onone {QO : Option Int → Sto → Prop} (q : QO none S) : Ev (foNone σ S) QO := ⟨_, _, rfl, q⟩
theorem Ev.osome {QO : Option Int → Sto → Prop} (h : Ev (fe σ S) fun g S1 => ∃ i, g = .int i ∧ QO (some i) S1) : Ev (foSome fe σ S) QO := by
  obtain ⟨g, S1, e1, i, rfl, q⟩ := h
  exact ⟨_, S1, by unfold foSome; rw [e1]; rfl, q⟩
/-! values -/
theorem Ev.ixL {n : Nat} {gs : List G} {i : Int} {g : G} (h : getL S n = some gs) (hi : atI gs i = some g) (q : Q g S) : Ev (opIx (.loc n) (.int i) S) Q := ⟨g, S, by unfold opIx; dsimp only; rw [h]; dsimp only; rw [hi]; rfl, q⟩
theorem Ev.ixT {gs : List G} {i : Int} {g : G} (hi : atI gs i = some g) (q : Q g S) : Ev (opIx (.tup gs) (.int i) S) Q := ⟨g, S, by unfold opIx; dsimp only; rw [hi]; rfl, q⟩
theorem Ev.ixD {n : Nat} {ks : List (Key × G)} {k : G} {key : Key} {g : G} (h : S[n]? = some (.dic ks)) (hk : keyOf k = some key) (hg : getK ks key = some g) (q : Q g S) : Ev (opIx (.loc n) k S) Q :=
  ⟨g, S, by unfold opIx; dsimp only; rw [getL_dic h]; dsimp only; rw [h]; dsimp only; rw [hk]; dsimp only [Option.bind]; rw [hg]; rfl, q⟩
theorem Ev.mul {i j : Int} (h : (-(2 ^ 64) < i ∧ i < 2 ^ 64) ∨ (-(2 ^ 64) < j ∧ j < 2 ^ 64)) (q : Q (.int (i * j)) S) : Ev (opMul (.int i) (.int j) S) Q := ⟨_, S, by unfold opMul; dsimp only; rw [if_pos h], q⟩
theorem Ev.div {i j : Int} (h : 0 < j) (h2 : j < 1073741824) (q : Q (.int (i / j)) S) : Ev (opDiv (.int i) (.int j) S) Q := ⟨_, S, by
  unfold opDiv; dsimp only; rw [if_pos ⟨by omega, by omega⟩, Int.fdiv_eq_ediv_of_nonneg _ (by omega)], q⟩
theorem Ev.mod {i j : Int} (h : 0 < j) (q : Q (.int (i % j)) S) : Ev (opMod (.int i) (.int j) S) Q := ⟨_, S, by
  unfold opMod; dsimp only; rw [if_pos (by omega), Int.fmod_eq_emod_of_nonneg _ (by omega)], q⟩
theorem Ev.addS {x y : Str} (h : x.length + y.length ≤ sizeLine) (q : Q (.str (x ++ y)) S) : Ev (opAdd (.str x) (.str y) S) Q := ⟨_, S, by unfold opAdd; dsimp only; rw [if_pos h], q⟩
theorem Ev.addT {x y : List G} (h : x.length + y.length ≤ sizeLine) (q : Q (.tup (x ++ y)) S) : Ev (opAdd (.tup x) (.tup y) S) Q := ⟨_, S, by unfold opAdd; dsimp only; rw [if_pos h], q⟩
theorem Ev.addL {n m : Nat} {x y : List G} (h1 : S[n]? = some (.lst x)) (h2 : S[m]? = some (.lst y)) (h : x.length + y.length ≤ sizeLine) (q : Q (.loc S.length) (S ++ [.lst (x ++ y)])) : Ev (opAdd (.loc n) (.loc m) S) Q := ⟨_, _, by unfold opAdd; dsimp only; rw [h1, h2]; dsimp only; rw [if_pos h], q⟩
theorem Ev.eqq {x y : G} (h : okEq x y = true) (q : Q (.bl (eqG x y)) S) : Ev (opEq x y S) Q := ⟨_, S, by unfold opEq; rw [if_pos h], q⟩
theorem Ev.nee {x y : G} (h : okEq x y = true) (q : Q (.bl (!eqG x y)) S) : Ev (opNe x y S) Q := ⟨_, S, by unfold opNe; rw [if_pos h], q⟩
theorem Ev.inn {x y : G} {b : Bool} (h : opInB x y S = some b) (q : Q (.bl b) S) : Ev (opIn x y S) Q := ⟨_, S, by unfold opIn; rw [h]; rfl, q⟩
theorem Ev.nin {x y : G} {b : Bool} (h : opInB x y S = some b) (q : Q (.bl (!b)) S) : Ev (opNotIn x y S) Q := ⟨_, S, by unfold opNotIn; rw [h]; rfl, q⟩
theorem Ev.lenL {n : Nat} {gs : List G} (h : getL S n = some gs) (q : Q (.int gs.length) S) : Ev (bLen [.loc n] S) Q := ⟨_, S, by unfold bLen; dsimp only; rw [h], q⟩
theorem Ev.lenS {x : Str} (h : x.length ≤ sizeLine) (q : Q (.int x.length) S) : Ev (bLen [.str x] S) Q := ⟨_, S, by unfold bLen; dsimp only; rw [if_pos h], q⟩
theorem Ev.tupL {n : Nat} {gs : List G} (h : getL S n = some gs) (q : Q (.tup gs) S) : Ev (bTuple [.loc n] S) Q := ⟨_, S, by unfold bTuple; dsimp only; rw [h]; rfl, q⟩
theorem Ev.lstL {n : Nat} {gs : List G} (h : getL S n = some gs) (q : Q (.loc S.length) (S ++ [.lst gs])) : Ev (bList [.loc n] S) Q := ⟨_, _, by unfold bList; dsimp only; rw [h]; rfl, q⟩
theorem Ev.slL {n : Nat} {gs : List G} {lo hi : Option Int} (h : getL S n = some gs) (q : Q (.loc S.length) (S ++ [.lst (cutL gs lo hi)])) : Ev (opSl (.loc n) lo hi S) Q := ⟨_, _, by unfold opSl; dsimp only; rw [h]; rfl, q⟩
theorem Ev.slS {z : Str} {lo hi : Option Int} (h : z.length ≤ sizeLine) (q : Q (.str (cutS z lo hi)) S) : Ev (opSl (.str z) lo hi S) Q := ⟨_, S, by unfold opSl; dsimp only; rw [if_pos h], q⟩
theorem Ev.ixS {z : Str} {i : Int} {c : Nat} (h : z.length ≤ sizeLine) (hi : atI z.cps.toList i = some c) (q : Q (.str ⟨#[c]⟩) S) : Ev (opIx (.str z) (.int i) S) Q := ⟨_, S, by unfold opIx; dsimp only; rw [if_pos h, hi]; rfl, q⟩
theorem Ev.strI {i : Int} (h : i.natAbs.log2 < 1920) (q : Q (.str (toString i)) S) : Ev (bStr [.int i] S) Q := ⟨_, S, by unfold bStr; dsimp only; rw [if_pos h], q⟩
theorem inT {x : G} {gs : List G} (h : okIn x gs = true) : opInB x (.tup gs) S = some (inG x gs) := by unfold opInB; cases x <;> (dsimp only; rw [if_pos h])
theorem inL {x : G} {n : Nat} {gs : List G} (hL : getL S n = some gs) (h : okIn x gs = true) : opInB x (.loc n) S = some (inG x gs) := by unfold opInB; cases x <;> (dsimp only; rw [hL]; dsimp only; rw [if_pos h])
theorem inD {x : G} {n : Nat} {ks : List (Key × G)} {k : Key} (hD : S[n]? = some (.dic ks)) (h : keyOf x = some k) : opInB x (.loc n) S = some (getK ks k).isSome := by
  unfold opInB; cases x <;> first | (cases h; done) | (dsimp only; rw [getL_dic hD]; dsimp only; rw [hD]; dsimp only; rw [h]; rfl)
/-! statements -/
variable {QS : Fl → Prop} {g1 g2 : FS}
theorem Fls.set {i : Nat} (h : Ev (fe σ S) fun g S1 => QS (.nx (σ.set i (some g)) S1)) : Fls (sSet i fe σ S) QS := by
  obtain ⟨g, S1, e1, q⟩ := h
  exact ⟨_, by unfold sSet; rw [e1]; rfl, q⟩
theorem Fls.expr (h : Ev (fe σ S) fun _ S1 => QS (.nx σ S1)) : Fls (sExpr fe σ S) QS := by
  obtain ⟨g, S1, e1, q⟩ := h
  exact ⟨_, by unfold sExpr; rw [e1]; rfl, q⟩
theorem Fls.ret (h : Ev (fe σ S) fun g S1 => QS (.rt g S1)) : Fls (sRet fe σ S) QS := by
  obtain ⟨g, S1, e1, q⟩ := h
  exact ⟨_, by unfold sRet; rw [e1]; rfl, q⟩
theorem Fls.nil (q : QS (.nx σ S)) : Fls (sNil σ S) QS := ⟨_, rfl, q⟩
theorem Fls.si (h : Ev (t σ S) fun b S1 => (b = true → Fls (g1 σ S1) QS) ∧ (b = false → Fls (g2 σ S1) QS)) : Fls (sIf t g1 g2 σ S) QS := by
  obtain ⟨b, S1, e1, h1, h2⟩ := h
  unfold sIf
  rw [e1]
  cases b with
  | true => exact h1 rfl
  | false => exact h2 rfl
theorem Fls.unp {is : List Nat} (h : Ev (fe σ S) fun g S1 => ∃ gs, g = .tup gs ∧ gs.length = is.length ∧ QS (.nx (setAll σ is gs) S1)) : Fls (sUnp is fe σ S) QS := by
  obtain ⟨g, S1, e1, gs, rfl, hl, q⟩ := h
  exact ⟨_, by unfold sUnp; rw [e1]; dsimp only [Option.bind]; rw [if_pos hl], q⟩
theorem Fls.par {i j : Nat} (h : Ev (fa σ S) fun x S1 => Ev (fb σ S1) fun y S2 => QS (.nx ((σ.set i (some x)).set j (some y)) S2)) : Fls (sPar i j fa fb σ S) QS := by
  obtain ⟨x, S1, e1, y, S2, e2, q⟩ := h
  exact ⟨_, by unfold sPar; rw [e1]; dsimp only [Option.bind]; rw [e2], q⟩
theorem Fls.aug {i : Nat} {go : G → G → Sto → Option (G × Sto)} {x : G} (e : σ[i]? = some (some x)) (h : Ev (fe σ S) fun y S1 => Ev (go x y S1) fun z S2 => QS (.nx (σ.set i (some z)) S2)) : Fls (sAug i go fe σ S) QS := by
  obtain ⟨y, S1, e1, z, S2, e2, q⟩ := h
  refine ⟨_, ?_, q⟩
  unfold sAug fVar
  rw [e]
  dsimp only [Option.bind]
  rw [e1]
  dsimp only
  rw [e2]
  rfl
theorem Fls.put {fi fv : FE} (h : Ev (fv σ S) fun v S1 => Ev (fo σ S1) fun o S2 => Ev (fi σ S2) fun i S3 => ∃ S4, putAt o i v S3 = some S4 ∧ QS (.nx σ S4)) : Fls (sPut fo fi fv σ S) QS := by
  obtain ⟨v, S1, e1, o, S2, e2, i, S3, e3, S4, e4, q⟩ := h
  refine ⟨_, ?_, q⟩
  unfold sPut
  rw [e1]
  dsimp only [Option.bind]
  rw [e2]
  dsimp only
  rw [e3]
  dsimp only
  rw [e4]
  rfl
theorem putL {n : Nat} {gs : List G} {k : Int} {j : Nat} {v : G} (h : S[n]? = some (.lst gs)) (hj : ixN gs.length k = some j) : putAt (.loc n) (.int k) v S = some (S.set n (.lst (gs.set j v))) := by unfold putAt; dsimp only; rw [h]; dsimp only; rw [hj]; rfl
theorem putD {n : Nat} {ks : List (Key × G)} {k v : G} {key : Key} (h : S[n]? = some (.dic ks)) (hk : keyOf k = some key) (hl : ks.length < sizeLine) : putAt (.loc n) k v S = some (S.set n (.dic (putG ks key v))) := by
  unfold putAt; dsimp only; rw [h]; dsimp only; rw [hk]; dsimp only [Option.bind]; rw [if_pos hl]
theorem Fls.for {it : FI} {tg : Tg} {body : FS} {gs : List G} {lk : Sto → Prop} {S1 : Sto} (h1 : it σ S = some (gs, lk, S1)) (h2 : Fls (loopG lk tg body gs σ S1) QS) : Fls (sFor it tg body σ S) QS := by
  obtain ⟨r, e, q⟩ := h2
  exact ⟨r, by unfold sFor; rw [h1]; exact e, q⟩
end
section
variable {σ : Sl} {S : Sto} {QS : Fl → Prop} {Q : G → Sto → Prop} {fe : FE} {f : FA} {tg : Tg} {body : FS}
theorem Ev.pow {i j : Int} (h : 0 ≤ j ∧ j ≤ 1000000 ∧ i.natAbs < 2 ^ 64) (q : Q (.int (i ^ j.toNat)) S) : Ev (opPow (.int i) (.int j) S) Q := ⟨_, S, by unfold opPow; dsimp only; rw [if_pos h], q⟩
theorem Fls.forR1 (h : Ev (f σ S) fun gs S1 => ∃ j : Int, gs = [.int j] ∧ (-(2 ^ 62) ≤ j ∧ j < 2 ^ 62) ∧ Fls (loopG (fun _ => True) tg body (intsG 0 j.toNat) σ S1) QS) : Fls (sFor (iRng1F f) tg body σ S) QS := by
  obtain ⟨gs, S1, e1, j, rfl, hj, q⟩ := h
  refine Fls.for (gs := intsG 0 j.toNat) (lk := fun _ => True) (S1 := S1) ?_ q
  unfold iRng1F
  rw [e1]
  dsimp only [Option.bind]
  rw [if_pos hj]
theorem Fls.forT (h : Ev (fe σ S) fun g S1 => ∃ gs, g = .tup gs ∧ Fls (loopG (fun _ => True) tg body gs σ S1) QS) : Fls (sFor (iSeqF fe) tg body σ S) QS := by
  obtain ⟨g, S1, e1, gs, rfl, q⟩ := h
  refine Fls.for (gs := gs) (lk := fun _ => True) (S1 := S1) ?_ q
  unfold iSeqF
  rw [e1]
  rfl
theorem Fls.forL (h : Ev (fe σ S) fun g S1 => ∃ n gs, g = .loc n ∧ getL S1 n = some gs ∧ Fls (loopG (fun S3 => getL S3 n = some gs) tg body gs σ S1) QS) : Fls (sFor (iSeqF fe) tg body σ S) QS := by
  obtain ⟨g, S1, e1, n, gs, rfl, hg, q⟩ := h
  refine Fls.for (gs := gs) (lk := fun S3 => getL S3 n = some gs) (S1 := S1) ?_ q
  unfold iSeqF
  rw [e1]
  dsimp only [Option.bind]
  rw [hg]
  rfl
end
theorem intsG_len (lo : Int) (n : Nat) : (intsG lo n).length = n := by unfold intsG; simp
theorem intsG_at {lo : Int} {n i : Nat} {g : G} (h : (intsG lo n)[i]? = some g) : i < n ∧ g = .int (lo + (i : Int)) := by
  rw [intsG_get] at h
  split at h
  · cases h; exact ⟨by assumption, rfl⟩
  · cases h
/-- a range's loop, by an invariant -/
theorem range_inv {body : FS} {k : Nat} {Qr : G → Sto → Prop} (n : Nat) (P : Nat → Sl → Sto → Prop) {σ : Sl} {S : Sto} (h0 : P 0 σ S)
    (hs : ∀ (i : Nat) (σ : Sl) (S : Sto), i < n → P i σ S → Fls (body (σ.set k (some (.int i))) S) fun
      | .nx σ' S' => P (i + 1) σ' S'
      | .ct σ' S' => P (i + 1) σ' S'
      | .bk _ _ => False
      | .rt v S' => Qr v S') :
    Fls (loopG (fun _ => True) (.one k) body (intsG 0 n) σ S) fun
      | .nx σ' S' => P n σ' S'
      | .rt v S' => Qr v S'
      | _ => False := by
  refine Fls.mono (loop_inv (Qr := Qr) (Qb := fun _ _ => False) (intsG 0 n) P σ S h0 (fun i g σ S hg p => ?_) fun _ _ _ => trivial) fun r => ?_
  · obtain ⟨hi, rfl⟩ := intsG_at hg
    have e : (0 : Int) + (i : Int) = i := by omega
    refine ⟨trivial, _, rfl, ?_⟩
    rw [e]
    exact hs i σ S hi p
  · rw [intsG_len]
    cases r <;> intro q
    · rcases q with q | q
      · exact q
      · exact q.elim
    · exact q
    · exact q
    · exact q
/-- a tuple's loop over one name, by an invariant -/
theorem tup_inv {tg : Tg} {body : FS} {Qr : G → Sto → Prop} (gs : List G) (P : Nat → Sl → Sto → Prop) {σ : Sl} {S : Sto} (h0 : P 0 σ S)
    (hs : ∀ (i : Nat) (g : G) (σ : Sl) (S : Sto), gs[i]? = some g → P i σ S → ∃ σ1, tg.set g σ = some σ1 ∧ Fls (body σ1 S) fun
      | .nx σ' S' => P (i + 1) σ' S'
      | .ct σ' S' => P (i + 1) σ' S'
      | .bk _ _ => False
      | .rt v S' => Qr v S') :
    Fls (loopG (fun _ => True) tg body gs σ S) fun
      | .nx σ' S' => P gs.length σ' S'
      | .rt v S' => Qr v S'
      | _ => False := by
  refine Fls.mono (loop_inv (Qr := Qr) (Qb := fun _ _ => False) gs P σ S h0 (fun i g σ S hg p => ?_) fun _ _ _ => trivial) fun r => ?_
  · obtain ⟨σ1, e, q⟩ := hs i g σ S hg p
    exact ⟨trivial, σ1, e, q⟩
  · cases r <;> intro q
    · rcases q with q | q
      · exact q
      · exact q.elim
    · exact q
    · exact q
    · exact q
/-! ### values by their heads -/
section
variable {S : Sto} {Q : G → Sto → Prop}
theorem Ev.addI {i j : Int} (q : Q (.int (i + j)) S) : Ev (opAdd (.int i) (.int j) S) Q := ⟨_, S, rfl, q⟩
theorem Ev.subI {i j : Int} (q : Q (.int (i - j)) S) : Ev (opSub (.int i) (.int j) S) Q := ⟨_, S, rfl, q⟩
theorem Ev.negI {i : Int} (q : Q (.int (-i)) S) : Ev (opNeg (.int i) S) Q := ⟨_, S, rfl, q⟩
theorem Ev.ltI {i j : Int} (q : Q (.bl (decide (i < j))) S) : Ev (opLt (.int i) (.int j) S) Q := ⟨_, S, rfl, q⟩
theorem Ev.leI {i j : Int} (q : Q (.bl (decide (i ≤ j))) S) : Ev (opLe (.int i) (.int j) S) Q := ⟨_, S, rfl, q⟩
theorem Ev.gtI {i j : Int} (q : Q (.bl (decide (j < i))) S) : Ev (opGt (.int i) (.int j) S) Q := ⟨_, S, rfl, q⟩
theorem Ev.geI {i j : Int} (q : Q (.bl (decide (j ≤ i))) S) : Ev (opGe (.int i) (.int j) S) Q := ⟨_, S, rfl, q⟩
theorem Ev.eqI {i j : Int} (q : Q (.bl (i == j)) S) : Ev (opEq (.int i) (.int j) S) Q := ⟨_, S, by simp [opEq, okEq, scalG, eqG], q⟩
theorem Ev.neI {i j : Int} (q : Q (.bl (!(i == j))) S) : Ev (opNe (.int i) (.int j) S) Q := ⟨_, S, by simp [opNe, okEq, scalG, eqG], q⟩
theorem Ev.eqS {i j : Str} (q : Q (.bl (i == j)) S) : Ev (opEq (.str i) (.str j) S) Q := ⟨_, S, by simp [opEq, okEq, scalG, eqG], q⟩
theorem Ev.neS {i j : Str} (q : Q (.bl (!(i == j))) S) : Ev (opNe (.str i) (.str j) S) Q := ⟨_, S, by simp [opNe, okEq, scalG, eqG], q⟩
theorem Ev.eqB {i j : Bool} (q : Q (.bl (i == j)) S) : Ev (opEq (.bl i) (.bl j) S) Q := ⟨_, S, by simp [opEq, okEq, scalG, eqG], q⟩
theorem Ev.intI {i : Int} (q : Q (.int i) S) : Ev (bInt [.int i] S) Q := ⟨_, S, rfl, q⟩
theorem Ev.intB {b : Bool} (q : Q (.int (if b then 1 else 0)) S) : Ev (bInt [.bl b] S) Q := ⟨_, S, rfl, q⟩
theorem Ev.absI {i : Int} (q : Q (.int (if i < 0 then -i else i)) S) : Ev (bAbs [.int i] S) Q := ⟨_, S, rfl, q⟩
theorem Ev.minI {i j : Int} (q : Q (.int (if j < i then j else i)) S) : Ev (bMin [.int i, .int j] S) Q := ⟨_, S, rfl, q⟩
theorem Ev.maxI {i j : Int} (q : Q (.int (if j > i then j else i)) S) : Ev (bMax [.int i, .int j] S) Q := ⟨_, S, rfl, q⟩
theorem Ev.lenT {gs : List G} (q : Q (.int gs.length) S) : Ev (bLen [.tup gs] S) Q := ⟨_, S, rfl, q⟩
theorem Ev.tupT {gs : List G} (q : Q (.tup gs) S) : Ev (bTuple [.tup gs] S) Q := ⟨_, S, rfl, q⟩
theorem Ev.lstT {gs : List G} (q : Q (.loc S.length) (S ++ [.lst gs])) : Ev (bList [.tup gs] S) Q := ⟨_, _, rfl, q⟩
theorem Ev.slT {gs : List G} {lo hi : Option Int} (q : Q (.tup (cutL gs lo hi)) S) : Ev (opSl (.tup gs) lo hi S) Q := ⟨_, S, rfl, q⟩
theorem Ev.isT {T : Ty} {gs : List G} (q : Q (.bl (isaTy .tuple T)) S) : Ev (isiG T (.tup gs) S) Q := ⟨_, S, rfl, q⟩
theorem Ev.isN {T : Ty} (q : Q (.bl (isaTy .none T)) S) : Ev (isiG T .non S) Q := ⟨_, S, rfl, q⟩
theorem Ev.isB {T : Ty} {b : Bool} (q : Q (.bl (isaTy .bool T)) S) : Ev (isiG T (.bl b) S) Q := ⟨_, S, rfl, q⟩
theorem Ev.isI {T : Ty} {b : Int} (q : Q (.bl (isaTy .int T)) S) : Ev (isiG T (.int b) S) Q := ⟨_, S, rfl, q⟩
theorem Ev.isS {T : Ty} {b : Str} (q : Q (.bl (isaTy .str T)) S) : Ev (isiG T (.str b) S) Q := ⟨_, S, rfl, q⟩
theorem Ev.isL {T : Ty} {n : Nat} {gs : List G} (h : getL S n = some gs) (q : Q (.bl (isaTy .list T)) S) : Ev (isiG T (.loc n) S) Q := ⟨_, S, by unfold isiG tyG; dsimp only; rw [h]; rfl, q⟩
theorem Ev.isNon {x : G} (q : Q (.bl (FL.isNon x)) S) : Ev (opIs x .non S) Q := ⟨_, S, by cases x <;> rfl, q⟩
theorem Ev.isNotNon {x : G} (q : Q (.bl (!FL.isNon x)) S) : Ev (opIsNot x .non S) Q := ⟨_, S, by cases x <;> rfl, q⟩
theorem Ev.isBl {a b : Bool} (q : Q (.bl (decide (a = b))) S) : Ev (opIs (.bl a) (.bl b) S) Q := ⟨_, S, rfl, q⟩
theorem Ev.isNotBl {a b : Bool} (q : Q (.bl (!decide (a = b))) S) : Ev (opIsNot (.bl a) (.bl b) S) Q := ⟨_, S, rfl, q⟩
theorem Ev.augI {i j : Int} (q : Q (.int (i + j)) S) : Ev (augAdd (.int i) (.int j) S) Q := ⟨_, S, rfl, q⟩
variable {σ : Sl} {fe : FE} {QB : Bool → Sto → Prop}
/-- a test of a value that is a bool -/
theorem Ev.ttVB (h : Ev (fe σ S) fun g S1 => ∃ b, g = .bl b ∧ QB b S1) : Ev (FL.ttV fe σ S) QB := Ev.ttV (h.mono fun g S1 ⟨b, e, q⟩ => ⟨b, by rw [e]; rfl, q⟩)
end
/-! ### statements in a row -/
section
variable {σ : Sl} {S : Sto} {QS : Fl → Prop} {g2 f : FS} {fe fa fb fo fi fv : FE}
theorem Fls.seqSet {i : Nat} (h : Ev (fe σ S) fun g S1 => Fls (g2 (σ.set i (some g)) S1) QS) : Fls (sSeq (sSet i fe) g2 σ S) QS := .seq (.set h)
theorem Fls.seqExpr (h : Ev (fe σ S) fun _ S1 => Fls (g2 σ S1) QS) : Fls (sSeq (sExpr fe) g2 σ S) QS := .seq (.expr h)
theorem Fls.seqUnp {is : List Nat} (h : Ev (fe σ S) fun g S1 => ∃ gs, g = .tup gs ∧ gs.length = is.length ∧ Fls (g2 (setAll σ is gs) S1) QS) : Fls (sSeq (sUnp is fe) g2 σ S) QS := .seq (.unp h)
theorem Fls.seqPar {i j : Nat} (h : Ev (fa σ S) fun x S1 => Ev (fb σ S1) fun y S2 => Fls (g2 ((σ.set i (some x)).set j (some y)) S2) QS) : Fls (sSeq (sPar i j fa fb) g2 σ S) QS := .seq (.par h)
theorem Fls.seqPut (h : Ev (fv σ S) fun v S1 => Ev (fo σ S1) fun o S2 => Ev (fi σ S2) fun i S3 => ∃ S4, putAt o i v S3 = some S4 ∧ Fls (g2 σ S4) QS) : Fls (sSeq (sPut fo fi fv) g2 σ S) QS := .seq (.put h)
theorem Fls.seqAug {i : Nat} {go : G → G → Sto → Option (G × Sto)} {x : G} (e : σ[i]? = some (some x)) (h : Ev (fe σ S) fun y S1 => Ev (go x y S1) fun z S2 => Fls (g2 (σ.set i (some z)) S2) QS) : Fls (sSeq (sAug i go fe) g2 σ S) QS := .seq (.aug e h)
theorem Fls.seqRet (h : Ev (fe σ S) fun g S1 => QS (.rt g S1)) : Fls (sSeq (sRet fe) g2 σ S) QS := .seq (.ret h)
/-- two ways come together -/
theorem Fls.join {P : Sl → Sto → Prop} (h1 : Fls (f σ S) fun
    | .nx σ' S' => P σ' S'
    | r => QS r) (h2 : ∀ σ' S', P σ' S' → Fls (g2 σ' S') QS) : Fls (sSeq f g2 σ S) QS := .seq (h1.mono fun r q => by
  cases r with
  | nx σ' S' => exact h2 σ' S' q
  | rt v S' => exact q
  | bk σ' S' => exact q
  | ct σ' S' => exact q)
end
/-! ### loops over what lists of things stand for -/
theorem map_inv {β : Type} {f : β → G} {lk : Sto → Prop} {tg : Tg} {body : FS} {Qr : G → Sto → Prop} (xs : List β) (P : List β → Sl → Sto → Prop) {σ : Sl} {S : Sto} (h0 : P [] σ S) (hl : ∀ pre σ S, P pre σ S → lk S)
    (hs : ∀ (pre : List β) (x : β) (post : List β) (σ : Sl) (S : Sto), xs = pre ++ x :: post → P pre σ S → ∃ σ1, tg.set (f x) σ = some σ1 ∧ Fls (body σ1 S) fun
      | .nx σ' S' => P (pre ++ [x]) σ' S'
      | .ct σ' S' => P (pre ++ [x]) σ' S'
      | .bk _ _ => False
      | .rt v S' => Qr v S') :
    Fls (loopG lk tg body (xs.map f) σ S) fun
      | .nx σ' S' => P xs σ' S'
      | .rt v S' => Qr v S'
      | _ => False := by
  refine Fls.mono (loop_inv (Qr := Qr) (Qb := fun _ _ => False) (xs.map f) (fun i σ S => P (xs.take i) σ S) σ S h0 (fun i g σ S hg p => ?_) fun σ S p => hl _ σ S p) fun r => ?_
  · rw [List.getElem?_map] at hg
    have hi : i < xs.length := by
      by_cases q : i < xs.length
      · exact q
      · rw [List.getElem?_eq_none (by omega)] at hg; cases hg
    rw [List.getElem?_eq_getElem hi] at hg
    cases hg
    have e1 : xs = xs.take i ++ xs[i] :: xs.drop (i + 1) := by
      rw [← List.drop_eq_getElem_cons hi, List.take_append_drop]
    have e2 : xs.take (i + 1) = xs.take i ++ [xs[i]] := by rw [List.take_add_one, List.getElem?_eq_getElem hi]; rfl
    obtain ⟨σ1, e, q⟩ := hs (xs.take i) xs[i] (xs.drop (i + 1)) σ S e1 p
    refine ⟨hl _ σ S p, σ1, e, ?_⟩
    rw [e2]
    exact q
  · rw [List.length_map, List.take_length]
    cases r <;> intro q
    · rcases q with q | q
      · exact q
      · exact q.elim
    · exact q
    · exact q
    · exact q
/-! ### dicts -/
theorem getK_nil (k : Key) : getK [] k = none := rfl
theorem getK_cons (p : Key × G) (r : List (Key × G)) (k : Key) : getK (p :: r) k = if p.1 = k then some p.2 else getK r k := by
  unfold getK
  rw [List.find?_cons]
  by_cases e : p.1 = k
  · simp [e]
  · simp [e]
theorem getK_any (k : Key) : ∀ kvs : List (Key × G), (kvs.any fun kv => decide (kv.1 = k)) = (getK kvs k).isSome
  | [] => rfl
  | p :: r => by
    rw [List.any_cons, getK_any k r, getK_cons]
    by_cases e : p.1 = k
    · simp [e]
    · simp [e]
theorem getK_app (k : Key) (g : G) (j : Key) : ∀ kvs : List (Key × G), getK kvs k = none → getK (kvs ++ [(k, g)]) j = if j = k then some g else getK kvs j
  | [], _ => by
    rw [List.nil_append, getK_cons, getK_nil]
    by_cases e : k = j
    · subst e; simp
    · have : ¬ j = k := fun z => e z.symm
      simp [e, this]
  | p :: r, h => by
    rw [getK_cons] at h
    by_cases e : p.1 = k
    · simp [e] at h
    · rw [if_neg e] at h
      rw [List.cons_append, getK_cons, getK_cons, getK_app k g j r h]
      by_cases e2 : p.1 = j
      · subst e2
        rw [if_pos rfl, if_neg e, if_pos rfl]
      · rw [if_neg e2, if_neg e2]
theorem getK_map (k : Key) (g : G) (j : Key) : ∀ kvs : List (Key × G), getK (kvs.map fun kv => if kv.1 = k then (kv.1, g) else kv) j = (getK kvs j).map fun x => if j = k then g else x
  | [] => rfl
  | p :: r => by
    rw [List.map_cons, getK_cons, getK_map k g j r, getK_cons]
    by_cases e : p.1 = k
    · rw [if_pos e]
      by_cases e2 : p.1 = j
      · have : j = k := e2 ▸ e
        simp [e2, this]
      · simp [e2]
    · rw [if_neg e]
      by_cases e2 : p.1 = j
      · have : ¬ j = k := e2 ▸ e
        simp [e2, this]
      · simp [e2]
theorem getK_put (kvs : List (Key × G)) (k j : Key) (g : G) : getK (putG kvs k g) j = if j = k then some g else getK kvs j := by
  unfold putG
  rw [getK_any]
  cases h : getK kvs k with
  | none => rw [if_neg (by simp)]; exact getK_app k g j kvs h
  | some x =>
    rw [if_pos (by simp), getK_map]
    by_cases e : j = k
    · subst e; rw [h]; simp
    · simp [e]
theorem putG_new {kvs : List (Key × G)} {k : Key} {g : G} (h : getK kvs k = none) : putG kvs k g = kvs ++ [(k, g)] := by
  unfold putG
  rw [getK_any, h]; rfl
theorem putG_len (kvs : List (Key × G)) (k : Key) (g : G) : (putG kvs k g).length ≤ kvs.length + 1 := by
  unfold putG
  split
  · rw [List.length_map]; omega
  · rw [List.length_append]; exact Nat.le_refl _
theorem countP_lt {β : Type} {p q : β → Bool} : ∀ {l : List β}, (∀ x ∈ l, p x = true → q x = true) → (∃ x ∈ l, q x = true ∧ p x = false) → l.countP p < l.countP q
  | [], _, ⟨x, h, _⟩ => by simp at h
  | a :: l, h, ⟨x, hx, h1, h2⟩ => by
    have mono : ∀ {l : List β}, (∀ x ∈ l, p x = true → q x = true) → l.countP p ≤ l.countP q := fun {l} h => List.countP_mono_left h
    rw [List.countP_cons, List.countP_cons]
    rcases List.mem_cons.mp hx with e | hx
    · subst e
      have := mono fun y hy => h y (List.mem_cons_of_mem _ hy)
      simp [h1, h2]; omega
    · have := countP_lt (fun y hy => h y (List.mem_cons_of_mem _ hy)) ⟨x, hx, h1, h2⟩
      have ha := h a List.mem_cons_self
      cases hp : p a <;> cases hq : q a <;> simp_all <;> omega
theorem Fls.while {t : FT} {b : FS} {n : Nat} {σ : Sl} {S : Sto} {Q : Fl → Prop} (h : Fls (whileG t b n σ S) Q) : Fls (sWhile n t b σ S) Q := h
theorem while_ev {c : FT} {body : FS} {Qr : G → Sto → Prop} {Qx : Sl → Sto → Prop} (P : Nat → Sl → Sto → Prop) {n m : Nat} {σ : Sl} {S : Sto} (hm : m < n) (h0 : P m σ S)
    (hs : ∀ m σ S, P m σ S → Ev (c σ S) fun b S1 => (b = true → Fls (body σ S1) fun
      | .nx σ' S' => ∃ m', m' < m ∧ P m' σ' S'
      | .ct σ' S' => ∃ m', m' < m ∧ P m' σ' S'
      | .bk σ' S' => Qx σ' S'
      | .rt v S' => Qr v S') ∧ (b = false → Qx σ S1)) : Fls (sWhile n c body σ S) fun
      | .nx σ' S' => Qx σ' S'
      | .rt v S' => Qr v S'
      | _ => False := while_inv P (fun m σ S p => by
  obtain ⟨b, S1, e, h1, h2⟩ := hs m σ S p
  exact ⟨b, S1, e, h2, h1⟩) n m σ S hm h0
end FL
set_option Elab.async false
set_option linter.all false
set_option maxRecDepth 100000
set_option maxHeartbeats 1000000
/-! Fn6: comprehensions, by invariants. -/
namespace FL
open PySem L2
open Classical in
theorem comp_inv {β : Type} {f : β → G} {D : Nat} {lk : Sto → Prop} {tg : Tg} {tt : FT} {te : FE} {σ0 : Sl} : ∀ (xs : List β) (P : List β → List G → Sto → Prop) (acc : List G) (S : Sto), P [] acc S → S[D]? = some (.lst acc) →
    (∀ pre acc S, P pre acc S → lk S) →
    (∀ pre x post acc S, xs = pre ++ x :: post → P pre acc S → S[D]? = some (.lst acc) → ∃ σ1, tg.set (f x) σ0 = some σ1 ∧ Ev (tt σ1 S) fun b S1 =>
      (b = true → Ev (te σ1 S1) fun v S2 => S2[D]? = some (.lst acc) ∧ acc.length < sizeLine ∧ P (pre ++ [x]) (acc ++ [v]) (S2.set D (.lst (acc ++ [v])))) ∧ (b = false → S1[D]? = some (.lst acc) ∧ P (pre ++ [x]) acc S1)) →
    ∃ acc' S', compG D lk tg tt te σ0 (xs.map f) S = some S' ∧ S'[D]? = some (.lst acc') ∧ P xs acc' S'
  | [], P, acc, S, h0, hD, hl, _ => by
    refine ⟨acc, S, ?_, hD, h0⟩
    unfold compG
    rw [List.map_nil]
    exact if_pos (hl _ _ _ h0)
  | x :: xs, P, acc, S, h0, hD, hl, hs => by
    obtain ⟨σ1, e1, b, S1, e2, h1, h2⟩ := hs [] x xs acc S rfl h0 hD
    rw [List.map_cons]
    unfold compG
    rw [if_pos (hl _ _ _ h0), e1]
    dsimp only [Option.bind]
    rw [e2]
    dsimp only
    cases b with
    | true =>
      obtain ⟨v, S2, e3, h3, h4, h5⟩ := h1 rfl
      rw [if_pos rfl, e3]
      dsimp only
      rw [h3]
      dsimp only
      rw [if_pos h4]
      exact comp_inv xs (fun pre => P (x :: pre)) _ _ h5 (get_set h3) (fun pre acc S p => hl _ acc S p) fun pre y post acc S e p hd => hs (x :: pre) y post acc S (by rw [e]; rfl) p hd
    | false =>
      obtain ⟨h3, h4⟩ := h2 rfl
      rw [if_neg (by decide)]
      exact comp_inv xs (fun pre => P (x :: pre)) _ _ h4 h3 (fun pre acc S p => hl _ acc S p) fun pre y post acc S e p hd => hs (x :: pre) y post acc S (by rw [e]; rfl) p hd
open Classical in
theorem compD_inv {β : Type} {f : β → G} {D : Nat} {lk : Sto → Prop} {tg : Tg} {tt : FT} {tk te : FE} {σ0 : Sl} : ∀ (xs : List β) (P : List β → List (Key × G) → Sto → Prop) (acc : List (Key × G)) (S : Sto), P [] acc S → S[D]? = some (.dic acc) →
    (∀ pre acc S, P pre acc S → lk S) →
    (∀ pre x post acc S, xs = pre ++ x :: post → P pre acc S → S[D]? = some (.dic acc) → ∃ σ1, tg.set (f x) σ0 = some σ1 ∧ Ev (tt σ1 S) fun b S1 =>
      (b = true → Ev (tk σ1 S1) fun k S2 => Ev (te σ1 S2) fun v S3 => ∃ key, keyOf k = some key ∧ S3[D]? = some (.dic acc) ∧ acc.length < sizeLine ∧ P (pre ++ [x]) (putG acc key v) (S3.set D (.dic (putG acc key v)))) ∧ (b = false → S1[D]? = some (.dic acc) ∧ P (pre ++ [x]) acc S1)) →
    ∃ acc' S', compD D lk tg tt tk te σ0 (xs.map f) S = some S' ∧ S'[D]? = some (.dic acc') ∧ P xs acc' S'
  | [], P, acc, S, h0, hD, hl, _ => by
    refine ⟨acc, S, ?_, hD, h0⟩
    unfold compD
    rw [List.map_nil]
    exact if_pos (hl _ _ _ h0)
  | x :: xs, P, acc, S, h0, hD, hl, hs => by
    obtain ⟨σ1, e1, b, S1, e2, h1, h2⟩ := hs [] x xs acc S rfl h0 hD
    rw [List.map_cons]
    unfold compD
    rw [if_pos (hl _ _ _ h0), e1]
    dsimp only [Option.bind]
    rw [e2]
    dsimp only
    cases b with
    | true =>
      obtain ⟨k, S2, e3, v, S3, e4, key, hk, h3, h4, h5⟩ := h1 rfl
      rw [if_pos rfl, e3]
      dsimp only
      rw [e4]
      dsimp only
      rw [hk]
      dsimp only
      rw [h3]
      dsimp only
      rw [if_pos h4]
      exact compD_inv xs (fun pre => P (x :: pre)) _ _ h5 (get_set h3) (fun pre acc S p => hl _ acc S p) fun pre y post acc S e p hd => hs (x :: pre) y post acc S (by rw [e]; rfl) p hd
    | false =>
      obtain ⟨h3, h4⟩ := h2 rfl
      rw [if_neg (by decide)]
      exact compD_inv xs (fun pre => P (x :: pre)) _ _ h4 h3 (fun pre acc S p => hl _ acc S p) fun pre y post acc S e p hd => hs (x :: pre) y post acc S (by rw [e]; rfl) p hd
section
variable {σ : Sl} {S : Sto} {Q : G → Sto → Prop} {fe te tk : FE} {tg : Tg} {tt : FT}
/-- what is walked: a tuple -/
theorem Ev.lcInvT {β : Type} {f : β → G} (P : Sto → List β → List G → Sto → Prop) (h : Ev (fe σ S) fun g S1 => ∃ xs : List β, g = .tup (xs.map f) ∧ P S1 [] [] (S1 ++ [.lst []]) ∧
    (∀ pre x post acc S, xs = pre ++ x :: post → P S1 pre acc S → S[S1.length]? = some (.lst acc) → ∃ σ1, tg.set (f x) (wipeG σ tg.idx) = some σ1 ∧ Ev (tt σ1 S) fun b S2 =>
      (b = true → Ev (te σ1 S2) fun v S3 => S3[S1.length]? = some (.lst acc) ∧ acc.length < sizeLine ∧ P S1 (pre ++ [x]) (acc ++ [v]) (S3.set S1.length (.lst (acc ++ [v])))) ∧ (b = false → S2[S1.length]? = some (.lst acc) ∧ P S1 (pre ++ [x]) acc S2)) ∧
    ∀ acc S', S'[S1.length]? = some (.lst acc) → P S1 xs acc S' → Q (.loc S1.length) S') : Ev (fLc (iSeqF fe) tg tt te σ S) Q := by
  obtain ⟨g, S1, e1, xs, rfl, h0, hs, hq⟩ := h
  obtain ⟨acc, S', e2, h1, h2⟩ := comp_inv (f := f) (D := S1.length) (lk := fun _ => True) (tg := tg) (tt := tt) (te := te) (σ0 := wipeG σ tg.idx) xs (P S1) [] (S1 ++ [.lst []]) h0 (get_new _) (fun _ _ _ _ => trivial) hs
  refine ⟨.loc S1.length, S', ?_, hq acc S' h1 h2⟩
  unfold fLc iSeqF
  rw [e1]
  dsimp only [Option.bind]
  rw [e2]
  rfl
/-- .. the store is left as it is -/
theorem Ev.lcT {β : Type} {f h : β → G} (p : Ev (fe σ S) fun g S1 => ∃ xs : List β, g = .tup (xs.map f) ∧ xs.length ≤ 1000000 ∧
    (∀ x ∈ xs, ∃ σ1, tg.set (f x) (wipeG σ tg.idx) = some σ1 ∧ ∀ S2, Upto [] S1 S2 → Ev (tt σ1 S2) fun b S3 => b = true ∧ S3 = S2 ∧ Ev (te σ1 S2) fun v S3 => v = h x ∧ S3 = S2) ∧
    Q (.loc S1.length) (S1 ++ [.lst (xs.map h)])) : Ev (fLc (iSeqF fe) tg tt te σ S) Q := by
  refine Ev.lcInvT (β := β) (f := f) (fun S1 pre acc S' => acc = pre.map h ∧ S' = S1 ++ [.lst acc]) (p.mono fun g S1 ⟨xs, e, hl, hs, q⟩ => ⟨xs, e, ⟨rfl, rfl⟩, ?_, ?_⟩)
  · rintro pre x post acc S epost ⟨rfl, rfl⟩ hd
    obtain ⟨σ1, e1, h1⟩ := hs x (by rw [epost]; simp)
    refine ⟨σ1, e1, (h1 _ (Upto.app _ _ _)).mono ?_⟩
    rintro b S3 ⟨rfl, rfl, h2⟩
    refine ⟨fun _ => h2.mono ?_, fun z => nomatch z⟩
    rintro v S4 ⟨rfl, rfl⟩
    refine ⟨hd, ?_, ?_, ?_⟩
    · have : pre.length ≤ xs.length := by rw [epost]; simp
      rw [List.length_map, sizeLine_eq]; omega
    · simp
    · simp
  · rintro acc S' _ ⟨rfl, rfl⟩
    exact q
theorem Ev.dcT {β : Type} {f v : β → G} {k : β → Key} (p : Ev (fe σ S) fun g S1 => ∃ xs : List β, g = .tup (xs.map f) ∧ xs.length ≤ 1000000 ∧
    (∀ x ∈ xs, ∃ σ1, tg.set (f x) (wipeG σ tg.idx) = some σ1 ∧ ∀ S2, Upto [] S1 S2 → Ev (tt σ1 S2) fun b S3 => b = true ∧ S3 = S2 ∧ Ev (tk σ1 S2) fun y S3 => keyOf y = some (k x) ∧ S3 = S2 ∧ Ev (te σ1 S2) fun z S3 => z = v x ∧ S3 = S2) ∧
    Q (.loc S1.length) (S1 ++ [.dic (xs.foldl (fun a x => putG a (k x) (v x)) [])])) : Ev (fDc (iSeqF fe) tg tt tk te σ S) Q := by
  obtain ⟨g, S1, e1, xs, rfl, hl, hs, hq⟩ := p
  obtain ⟨acc, S', e2, h1, h2, _, rfl⟩ := compD_inv (f := f) (D := S1.length) (lk := fun _ => True) (tg := tg) (tt := tt) (tk := tk) (te := te) (σ0 := wipeG σ tg.idx) xs
    (fun pre acc S' => acc = pre.foldl (fun a x => putG a (k x) (v x)) [] ∧ acc.length ≤ pre.length ∧ S' = S1 ++ [.dic acc]) [] (S1 ++ [.dic []]) ⟨rfl, Nat.le_refl _, rfl⟩ (get_new _) (fun _ _ _ _ => trivial) (by
      rintro pre x post acc S epost ⟨rfl, hl2, rfl⟩ hd
      obtain ⟨σ1, e1, h1⟩ := hs x (by rw [epost]; simp)
      refine ⟨σ1, e1, (h1 _ (Upto.app _ _ _)).mono ?_⟩
      rintro b S3 ⟨rfl, rfl, h2⟩
      refine ⟨fun _ => h2.mono ?_, fun z => nomatch z⟩
      rintro y S4 ⟨hk, rfl, h3⟩
      refine h3.mono ?_
      rintro z S5 ⟨rfl, rfl⟩
      refine ⟨_, hk, hd, ?_, ?_, ?_, ?_⟩
      · have : pre.length ≤ xs.length := by rw [epost]; simp
        rw [sizeLine_eq]; omega
      · rw [List.foldl_append]; rfl
      · have := putG_len (List.foldl (fun a x => putG a (k x) (v x)) [] pre) (k x) (v x)
        rw [List.length_append]; simp only [List.length_cons, List.length_nil]; omega
      · simp)
  subst h2
  refine ⟨.loc S1.length, _, ?_, hq⟩
  unfold fDc iSeqF
  rw [e1]
  dsimp only [Option.bind]
  rw [e2]
  rfl
end
/-! dicts with known keys -/
/-- the dict of L over names -/
def dL {β : Type} (k : β → Key) (L : β → G) (xs : List β) : List (Key × G) := xs.map fun x => (k x, L x)
theorem dL_get {β : Type} [DecidableEq β] {k : β → Key} (inj : ∀ x y, k x = k y → x = y) {L : β → G} : ∀ {xs : List β} {x : β}, x ∈ xs → getK (dL k L xs) (k x) = some (L x)
  | y :: xs, x, h => by
    show getK ((k y, L y) :: dL k L xs) _ = _
    rw [getK_cons]
    by_cases e : y = x
    · subst e; rw [if_pos rfl]
    · rw [if_neg (fun z => e (inj _ _ z))]
      exact dL_get inj ((List.mem_cons.mp h).resolve_left fun z => e z.symm)
theorem dL_none {β : Type} [DecidableEq β] {k : β → Key} (inj : ∀ x y, k x = k y → x = y) {L : β → G} : ∀ {xs : List β} {x : β}, x ∉ xs → getK (dL k L xs) (k x) = none
  | [], x, h => rfl
  | y :: xs, x, h => by
    show getK ((k y, L y) :: dL k L xs) _ = _
    rw [getK_cons, if_neg (fun z => h (by rw [inj _ _ z]; exact List.mem_cons_self))]
    exact dL_none inj fun z => h (List.mem_cons_of_mem _ z)
theorem dL_put {β : Type} [DecidableEq β] {k : β → Key} (inj : ∀ x y, k x = k y → x = y) {L : β → G} {xs : List β} {x : β} (h : x ∈ xs) (g : G) : putG (dL k L xs) (k x) g = dL k (fun y => if y = x then g else L y) xs := by
  unfold putG
  rw [getK_any, dL_get inj h, if_pos (show (some (L x)).isSome = true from rfl)]
  unfold dL
  rw [List.map_map]
  refine List.map_congr_left fun y _ => ?_
  show (if k y = k x then (k y, g) else (k y, L y)) = (k y, if y = x then g else L y)
  by_cases e : y = x
  · subst e; rw [if_pos rfl, if_pos rfl]
  · rw [if_neg (fun z => e (inj _ _ z)), if_neg e]
theorem dL_new {β : Type} [DecidableEq β] {k : β → Key} (inj : ∀ x y, k x = k y → x = y) {L : β → G} {xs : List β} {x : β} (h : x ∉ xs) : putG (dL k L xs) (k x) (L x) = dL k L (xs ++ [x]) := by
  rw [putG_new (dL_none inj h)]
  unfold dL
  rw [List.map_append]; rfl
theorem dL_fold {β : Type} [DecidableEq β] {k : β → Key} (inj : ∀ x y, k x = k y → x = y) {L : β → G} : ∀ (xs pre : List β), (pre ++ xs).Nodup → xs.foldl (fun a x => putG a (k x) (L x)) (dL k L pre) = dL k L (pre ++ xs)
  | [], pre, _ => by rw [List.append_nil]; rfl
  | x :: xs, pre, h => by
    have hx : x ∉ pre := fun hm => by
      rw [List.nodup_append] at h
      exact h.2.2 x hm x List.mem_cons_self rfl
    rw [List.foldl_cons, dL_new inj hx, dL_fold inj xs (pre ++ [x]) (by rw [List.append_assoc]; exact h), List.append_assoc]
    rfl
theorem dL_len {β : Type} (k : β → Key) (L : β → G) (xs : List β) : (dL k L xs).length = xs.length := List.length_map ..
theorem putD_old {S : Sto} {n : Nat} {ks : List (Key × G)} {k v : G} {key : Key} {ks' : List (Key × G)} (h : S[n]? = some (.dic ks)) (hk : keyOf k = some key) (hl : ks.length < sizeLine) (e : putG ks key v = ks') : putAt (.loc n) k v S = some (S.set n (.dic ks')) := by
  rw [putD h hk hl, e]
end FL
set_option Elab.async false
set_option linter.all false
set_option maxRecDepth 100000
set_option maxHeartbeats 4000000
namespace Hlp
open PySem L2 FL
/-- _law_jar(script): 0 script, 1 rows, 2 k, 3 cell, 4 step, 5 mixed -/
noncomputable def b__law_jar : FS :=
  (sSeq (sSet 1 (fLst faNil))
  (sSeq (sFor (iRng1F (faCons (fCall bMin (faCons (fCall bLen (faCons (fVar 0) faNil)) (faCons (fK (.int 63)) faNil))) faNil)) (.one 2)
  (sSeq (sSet 3 (fCall bInt (faCons (fOp opIx (fVar 0) (fVar 2)) faNil)))
  (sSeq (sIf (ttB (fOp opLt (fVar 3) (fK (.int 0))))
  (sSet 3 (fUn opNeg (fVar 3)))
  sNil)
  (sIf (ttB (fOp opGe (fVar 3) (fOp opPow (fK (.int 10)) (fK (.int 18)))))
  (sFor (iRng1F (faCons (fK (.int 40)) faNil)) (.one 4)
  (sIf (ttB (fOp opGt (fVar 3) (fK (.int 0))))
  (sSeq (sExpr (fApp (fVar 1) (fOp opMod (fCall bInt (faCons (fVar 3) faNil)) (fK (.int 1009)))))
  (sSet 3 (fOp opDiv (fVar 3) (fK (.int 1009)))))
  sNil))
  (sSeq (sSet 5 (fOp opMod (fCall bInt (faCons (fOp opAdd (fOp opAdd (fOp opMul (fVar 3) (fK (.int 48271))) (fOp opMul (fVar 2) (fK (.int 69621)))) (fK (.int 11))) faNil)) (fK (.int 999983))))
  (sSeq (sExpr (fApp (fVar 1) (fVar 5)))
  (sExpr (fApp (fVar 1) (fOp opMod (fCall bInt (faCons (fOp opAdd (fOp opAdd (fOp opMul (fVar 5) (fK (.int 1103))) (fOp opMul (fVar 2) (fK (.int 7919)))) (fK (.int 5))) faNil)) (fK (.int 99991)))))))))))
  (sRet (fLst (faCons (fVar 1) (faCons (fK (.int 0)) faNil))))))
noncomputable def d__law_jar : List G → Sto → Option (G × Sto) := callG 1 6 b__law_jar
/-- _law_take(jar, many): 0 jar, 1 many, 2 at, 3 rows, 4 mixed -/
noncomputable def b__law_take : FS :=
  (sSeq (sSet 2 (fOp opIx (fVar 0) (fK (.int 1))))
  (sSeq (sPut (fVar 0) (fK (.int 1)) (fOp opAdd (fVar 2) (fK (.int 1))))
  (sSeq (sSet 3 (fOp opIx (fVar 0) (fK (.int 0))))
  (sSeq (sIf (ttB (fOp opLt (fVar 2) (fCall bLen (faCons (fVar 3) faNil))))
  (sRet (fOp opMod (fCall bInt (faCons (fOp opIx (fVar 3) (fVar 2)) faNil)) (fVar 1)))
  sNil)
  (sSeq (sSet 4 (fOp opMod (fCall bInt (faCons (fOp opAdd (fOp opAdd (fOp opMul (fVar 2) (fK (.int 7919))) (fOp opMul (fCall bLen (faCons (fVar 3) faNil)) (fK (.int 104729)))) (fK (.int 17))) faNil)) (fK (.int 999983))))
  (sSeq (sIf (ttB (fOp opGt (fCall bLen (faCons (fVar 3) faNil)) (fK (.int 0))))
  (sSet 4 (fOp opMod (fCall bInt (faCons (fOp opAdd (fVar 4) (fOp opMul (fOp opIx (fVar 3) (fOp opSub (fVar 2) (fOp opMul (fOp opDiv (fVar 2) (fCall bLen (faCons (fVar 3) faNil))) (fCall bLen (faCons (fVar 3) faNil))))) (fOp opAdd (fOp opDiv (fVar 2) (fCall bLen (faCons (fVar 3) faNil))) (fK (.int 3))))) faNil)) (fK (.int 999983))))
  sNil)
  (sRet (fOp opMod (fCall bInt (faCons (fOp opDiv (fOp opMod (fCall bInt (faCons (fOp opMul (fVar 4) (fK (.int 48271))) faNil)) (fK (.int 999983))) (fK (.int 7))) faNil)) (fVar 1)))))))))
noncomputable def d__law_take : List G → Sto → Option (G × Sto) := callG 2 5 b__law_take
/-- law(x): 0 x -/
noncomputable def b_law : FS :=
  (sRet (fK (.bl true)))
noncomputable def d_law : List G → Sto → Option (G × Sto) := callG 1 1 b_law
/-- _law_name(jar, taken): 0 jar, 1 taken, 2 letters, 3 signs, 4 text, 5 k -/
noncomputable def b__law_name : FS :=
  (sSeq (sSet 2 (fK (.str "abcdefghijklmnopqrstuvwxyz")))
  (sSeq (sSet 3 (fOp opAdd (fVar 2) (fK (.str "0123456789"))))
  (sSeq (sSet 4 (fOp opIx (fVar 2) (fCall d__law_take (faCons (fVar 0) (faCons (fK (.int 26)) faNil)))))
  (sSeq (sFor (iRng1F (faCons (fOp opMul (fCall d__law_take (faCons (fVar 0) (faCons (fK (.int 4)) faNil))) (fOp opAdd (fK (.int 1)) (fCall d__law_take (faCons (fVar 0) (faCons (fK (.int 3)) faNil))))) faNil)) (.one 5)
  (sSet 4 (fOp opAdd (fVar 4) (fOp opIx (fVar 3) (fCall d__law_take (faCons (fVar 0) (faCons (fK (.int 36)) faNil)))))))
  (sSeq (sSet 4 (fSl (fVar 4) foNone (foSome (fK (.int 8)))))
  (sSeq (sFor (iRng1F (faCons (fK (.int 60)) faNil)) (.one 5)
  (sIf (ttB (fOp opIn (fVar 4) (fVar 1)))
  (sSet 4 (fOp opAdd (fOp opAdd (fSl (fVar 4) foNone (foSome (fK (.int 6)))) (fK (.str "x"))) (fCall bStr (faCons (fVar 5) faNil))))
  sNil))
  (sSeq (sExpr (fApp (fVar 1) (fVar 4)))
  (sRet (fVar 4)))))))))
noncomputable def d__law_name : List G → Sto → Option (G × Sto) := callG 2 6 b__law_name
/-- _law_same(one, two): 0 one, 1 two, 2 k -/
noncomputable def b__law_same (self : List G → Sto → Option (G × Sto)) : FS :=
  (sSeq (sIf (ttV (fUn (isiG .tuple) (fVar 1)))
  (sSeq (sIf (ttOr (ttNot (ttV (fUn (isiG .tuple) (fVar 0)))) (ttB (fOp opNe (fCall bLen (faCons (fVar 0) faNil)) (fCall bLen (faCons (fVar 1) faNil)))))
  (sRet (fK (.bl false)))
  sNil)
  (sSeq (sFor (iRng1F (faCons (fCall bLen (faCons (fVar 1) faNil)) faNil)) (.one 2)
  (sIf (ttNot (ttV (fCall self (faCons (fOp opIx (fVar 0) (fVar 2)) (faCons (fOp opIx (fVar 1) (fVar 2)) faNil)))))
  (sRet (fK (.bl false)))
  sNil))
  (sRet (fK (.bl true)))))
  sNil)
  (sSeq (sIf (ttV (fUn (isiG .bool) (fVar 1)))
  (sRet (fAnd (fUn (isiG .bool) (fVar 0)) (fOp opEq (fVar 0) (fVar 1))))
  sNil)
  (sSeq (sIf (ttV (fUn (isiG .int) (fVar 1)))
  (sRet (fAnd (fUn (isiG .int) (fVar 0)) (fAnd (fNot (fUn (isiG .bool) (fVar 0))) (fOp opEq (fVar 0) (fVar 1)))))
  sNil)
  (sSeq (sIf (ttV (fUn (isiG .str) (fVar 1)))
  (sRet (fAnd (fUn (isiG .str) (fVar 0)) (fOp opEq (fVar 0) (fVar 1))))
  sNil)
  (sRet (fAnd (fOp opIs (fVar 0) (fK .non)) (fOp opIs (fVar 1) (fK .non))))))))
noncomputable def d__law_same : Nat → List G → Sto → Option (G × Sto)
  | 0 => fun _ _ => none
  | n + 1 => callG 2 3 (b__law_same (d__law_same n))
end Hlp
set_option Elab.async false
set_option linter.all false
set_option maxRecDepth 100000
set_option maxHeartbeats 1000000
/-! Hlp: what the laws' own helpers give: the jar, a draw, a name, the comparison. -/
namespace FL
open PySem L2
local macro_rules | `(tactic| walk_at "ev") => `(tactic| with_reducible first
  | (refine Ev.var (g := ?g) ?e ?_; (case e => with_unfolding_all exact rfl)) | refine Ev.k ?_ | refine Ev.op ?_ | refine Ev.un ?_ | refine Ev.anil ?_ | refine Ev.acons ?_ | refine Ev.fcall ?_
  | refine Fls.seqSet ?_ | refine Fls.seqExpr ?_ | refine Fls.seqUnp ?_ | refine Fls.seqPar ?_ | refine Fls.seqPut ?_ | (refine Fls.seqAug (x := ?x) ?e ?_; (case e => with_unfolding_all exact rfl)) | refine Fls.seqRet ?_ | refine Fls.set ?_ | refine Fls.expr ?_ | refine Fls.ret ?_ | refine Fls.nil ?_ | refine Fls.unp ?_ | refine Fls.put ?_ | (refine Fls.aug (x := ?x) ?e ?_; (case e => with_unfolding_all exact rfl))
  | refine Ev.addI ?_ | refine Ev.subI ?_ | refine Ev.ltI ?_ | refine Ev.leI ?_ | refine Ev.gtI ?_ | refine Ev.geI ?_ | refine Ev.eqI ?_ | refine Ev.neI ?_ | refine Ev.eqS ?_ | refine Ev.neS ?_ | refine Ev.eqB ?_ | refine Ev.negI ?_
  | refine Ev.intI ?_ | refine Ev.absI ?_ | refine Ev.minI ?_ | refine Ev.maxI ?_ | refine Ev.lenT ?_ | refine Ev.tupT ?_ | refine Ev.lstT ?_ | refine Ev.slT ?_ | refine Ev.isT ?_ | refine Ev.isN ?_ | refine Ev.isB ?_ | refine Ev.isI ?_ | refine Ev.isS ?_ | refine Ev.isNon ?_ | refine Ev.isNotNon ?_ | refine Ev.isBl ?_ | refine Ev.isNotBl ?_ | refine Ev.augI ?_
  | (refine Ev.ixL (gs := ?gs) (g := ?g) ?e ?h ?_; (case e => assumption); (case h => with_unfolding_all exact rfl)) | (refine Ev.ixT (g := ?g) ?h ?_; (case h => with_unfolding_all exact rfl)) | (refine Ev.lenL (gs := ?gs) ?e ?_; (case e => assumption)) | (refine Ev.isL (gs := ?gs) ?e ?_; (case e => assumption)) | (refine Ev.tupL (gs := ?gs) ?e ?_; (case e => assumption))
  | refine Ev.ttB ?_ | refine Ev.ttVB ?_ | refine Ev.ttNot ?_ | refine Ev.tup ?_ | refine Ev.lst ?_ | refine Ev.sl ?_ | refine Ev.onone ?_ | refine Ev.osome ?_ | refine Ev.fAnd ?_ | refine Ev.fOr ?_ | refine Ev.fNot ?_ | refine Ev.ttAnd ?_ | refine Ev.ttOr ?_ | refine Ev.fIf ?_
  | (refine ⟨?w, ?h, ?_⟩; (case h => with_unfolding_all exact rfl)) | (refine ⟨?h, ?_⟩; (case h => with_unfolding_all exact Nat.le_of_ble_eq_true rfl)) | (refine ⟨?w, ?h, ?_⟩; (case h => exact putL (by assumption) (by with_unfolding_all exact rfl)))
  | dsimp only)
local macro_rules | `(tactic| walk_at "if") => `(tactic| ((with_reducible first | (refine Fls.seq ?_; refine Fls.si ?_) | refine Fls.si ?_); repeat walk_at "ev"))
/-- the jar: its cell j, the rows' cell r -/
structure Jar (S : Sto) (j r : Nat) : Prop where
  ne : j ≠ r
  ex : ∃ (rows : List Int) (a : Int), S[j]? = some (.lst [.loc r, .int a]) ∧ S[r]? = some (.lst (rows.map G.int)) ∧ 0 ≤ a ∧ rows.length ≤ 2520 ∧ ∀ x ∈ rows, 0 ≤ x ∧ x < 1000000
theorem atI_ints {rows : List Int} {i : Int} (h0 : 0 ≤ i) (h1 : i < rows.length) : ∃ x, x ∈ rows ∧ atI (rows.map G.int) i = some (.int x) := by
  obtain ⟨n, rfl⟩ := Int.eq_ofNat_of_zero_le h0
  have hn : n < rows.length := by omega
  refine ⟨rows[n], List.getElem_mem hn, atI_nat ?_⟩
  rw [List.getElem?_map, List.getElem?_eq_getElem hn]
  rfl
theorem take_ok {S : Sto} {j r : Nat} {many : Int} (J : Jar S j r) (hm : 0 < many) : Ev (Hlp.d__law_take [.loc j, .int many] S) fun g S' => ∃ v, g = .int v ∧ 0 ≤ v ∧ v < many ∧ Jar S' j r ∧ Upto [j] S S' := by
  obtain ⟨ne, rows, a, hj, hr, ha, hlen, hrows⟩ := J
  have hjL := getL_lst hj
  refine Ev.call rfl ?_
  unfold Hlp.b__law_take
  repeat walk_at "ev"
  refine ⟨_, putL hj rfl, ?_⟩
  have hj1 := get_set (c := C.lst ([G.loc r, G.int a].set (Int.toNat 1) (G.int (a + 1)))) hj
  have hr1 : (List.set S j (C.lst ([G.loc r, G.int a].set (Int.toNat 1) (G.int (a + 1)))))[r]? = some (.lst (rows.map G.int)) := by rw [List.getElem?_set_ne ne]; exact hr
  have U : Upto [j] S (List.set S j (C.lst ([G.loc r, G.int a].set (Int.toNat 1) (G.int (a + 1))))) := Upto.set (by simp) _
  generalize List.set S j (C.lst ([G.loc r, G.int a].set (Int.toNat 1) (G.int (a + 1)))) = S1 at hj1 hr1 U ⊢
  have hj1 : S1[j]? = some (.lst [.loc r, .int (a + 1)]) := hj1
  have J1 : Jar S1 j r := ⟨ne, rows, a + 1, hj1, hr1, by omega, hlen, hrows⟩
  have hjL1 := getL_lst hj1
  have hrL1 := getL_lst hr1
  have fin : ∀ z : Int, 0 ≤ z % many ∧ z % many < many := fun z => ⟨Int.emod_nonneg _ (by omega), Int.emod_lt_of_pos _ hm⟩
  repeat walk_at "ev"
  have hlm : (rows.map G.int).length = rows.length := List.length_map _
  walk_at "if"
  refine ⟨fun h => ?_, fun h => ?_⟩
  · have h : a < ((rows.map G.int).length : Int) := of_decide_eq_true h
    rw [hlm] at h
    obtain ⟨x, hx, ex⟩ := atI_ints ha h
    repeat walk_at "ev"
    refine Ev.ixL hrL1 ex ?_
    repeat walk_at "ev"
    refine Ev.mod hm ?_
    exact ⟨_, rfl, (fin x).1, (fin x).2, J1, U⟩
  · have h : ¬ a < ((rows.map G.int).length : Int) := of_decide_eq_false h
    rw [hlm] at h
    repeat walk_at "ev"
    refine Ev.mul (.inr (by omega)) ?_
    repeat walk_at "ev"
    refine Ev.mul (.inr (by omega)) ?_
    repeat walk_at "ev"
    refine Ev.mod (by decide) ?_
    repeat walk_at "ev"
    walk_at "if"
    refine ⟨fun h0 => ?_, fun h0 => ?_⟩
    · have h0 : 0 < ((rows.map G.int).length : Int) := of_decide_eq_true h0
      rw [hlm] at h0
      have hd : (0 : Int) < ((rows.map G.int).length : Int) := by rw [hlm]; exact h0
      have hd2 : ((rows.map G.int).length : Int) < 1073741824 := by rw [hlm]; omega
      repeat walk_at "ev"
      refine Ev.div hd hd2 ?_
      repeat walk_at "ev"
      refine Ev.mul (.inr (by omega)) ?_
      repeat walk_at "ev"
      rw [hlm]
      have hix : a - a / (rows.length : Int) * (rows.length : Int) = a % (rows.length : Int) := by
        have := Int.emod_def a rows.length
        rw [Int.mul_comm] at this
        omega
      rw [hix]
      obtain ⟨x, hx, ex⟩ := atI_ints (rows := rows) (i := a % (rows.length : Int)) (Int.emod_nonneg _ (by omega)) (Int.emod_lt_of_pos _ h0)
      refine Ev.ixL hrL1 ex ?_
      repeat walk_at "ev"
      refine Ev.div hd hd2 ?_
      repeat walk_at "ev"
      refine Ev.mul (.inl (by have := hrows x hx; omega)) ?_
      repeat walk_at "ev"
      refine Ev.mod (by decide) ?_
      repeat walk_at "ev"
      refine Ev.mul (.inr (by omega)) ?_
      repeat walk_at "ev"
      refine Ev.mod (by decide) ?_
      repeat walk_at "ev"
      refine Ev.div (by decide) (by decide) ?_
      repeat walk_at "ev"
      refine Ev.mod hm ?_
      exact ⟨_, rfl, (fin _).1, (fin _).2, J1, U⟩
    · repeat walk_at "ev"
      refine Ev.mul (.inr (by omega)) ?_
      repeat walk_at "ev"
      refine Ev.mod (by decide) ?_
      repeat walk_at "ev"
      refine Ev.div (by decide) (by decide) ?_
      repeat walk_at "ev"
      refine Ev.mod hm ?_
      exact ⟨_, rfl, (fin _).1, (fin _).2, J1, U⟩

/-! ### the comparison -/
mutual
def nlG : G → Bool
  | .tup xs => decide (xs.length ≤ 1000000) && nlGs xs
  | .loc _ => false
  | _ => true
def nlGs : List G → Bool
  | [] => true
  | x :: xs => nlG x && nlGs xs
end
theorem nlGs_at : ∀ {gs : List G} {i : Nat} {g : G}, nlGs gs = true → gs[i]? = some g → nlG g = true
  | [], _, _, _, e => by simp at e
  | x :: xs, 0, g, h, e => by simp at e; subst e; simp [nlGs] at h; exact h.1
  | x :: xs, i + 1, g, h, e => by simp [nlGs] at h; exact nlGs_at h.2 (by simpa using e)
theorem depGs_at : ∀ {gs : List G} {i : Nat} {g : G}, gs[i]? = some g → depG g ≤ depGs gs
  | [], _, _, e => by simp at e
  | x :: xs, 0, g, e => by simp at e; subst e; simp [depGs]; omega
  | x :: xs, i + 1, g, e => by
    have := depGs_at (gs := xs) (i := i) (g := g) (by simpa using e)
    simp [depGs]; omega
theorem same_ok : ∀ (n : Nat) (g : G) (S : Sto), depG g < n → nlG g = true → Hlp.d__law_same n [g, g] S = some (.bl true, S)
  | 0, _, _, h, _ => absurd h (Nat.not_lt_zero _)
  | n + 1, .loc _, _, _, h => by simp [nlG] at h
  | n + 1, .non, S, _, _ => rfl
  | n + 1, .bl true, S, _, _ => rfl
  | n + 1, .bl false, S, _, _ => rfl
  | n + 1, .int i, S, _, _ => by
    have e : Ev (Hlp.d__law_same (n + 1) [.int i, .int i] S) fun g S' => g = .bl true ∧ S' = S := by
      refine Ev.call rfl ?_
      unfold Hlp.b__law_same
      walk_at "if"
      refine ⟨fun h => (nomatch h), fun _ => ?_⟩
      repeat walk_at "ev"
      walk_at "if"
      refine ⟨fun h => (nomatch h), fun _ => ?_⟩
      repeat walk_at "ev"
      walk_at "if"
      refine ⟨fun _ => ?_, fun h => (nomatch h)⟩
      repeat walk_at "ev"
      refine ⟨fun _ => ?_, fun h => (nomatch h)⟩
      repeat walk_at "ev"
      refine ⟨fun _ => ?_, fun h => (nomatch h)⟩
      repeat walk_at "ev"
      simp
    obtain ⟨_, _, e, rfl, rfl⟩ := e
    exact e
  | n + 1, .str x, S, _, _ => by
    have e : Ev (Hlp.d__law_same (n + 1) [.str x, .str x] S) fun g S' => g = .bl true ∧ S' = S := by
      refine Ev.call rfl ?_
      unfold Hlp.b__law_same
      walk_at "if"
      refine ⟨fun h => (nomatch h), fun _ => ?_⟩
      repeat walk_at "ev"
      walk_at "if"
      refine ⟨fun h => (nomatch h), fun _ => ?_⟩
      repeat walk_at "ev"
      walk_at "if"
      refine ⟨fun h => (nomatch h), fun _ => ?_⟩
      repeat walk_at "ev"
      walk_at "if"
      refine ⟨fun _ => ?_, fun h => (nomatch h)⟩
      repeat walk_at "ev"
      refine ⟨fun _ => ?_, fun h => (nomatch h)⟩
      repeat walk_at "ev"
      simp
    obtain ⟨_, _, e, rfl, rfl⟩ := e
    exact e
  | n + 1, .tup gs, S, hd, hn => by
    have hn2 : gs.length ≤ 1000000 ∧ nlGs gs = true := by simpa [nlG] using hn
    obtain ⟨hz, hn⟩ := hn2
    have hd : depGs gs < n := by simpa [depG] using hd
    have e : Ev (Hlp.d__law_same (n + 1) [.tup gs, .tup gs] S) fun g S' => g = .bl true ∧ S' = S := by
      refine Ev.call rfl ?_
      unfold Hlp.b__law_same
      walk_at "if"
      refine ⟨fun _ => ?_, fun h => (nomatch h)⟩
      walk_at "if"
      refine ⟨fun _ => ?_, fun h => (nomatch h)⟩
      repeat walk_at "ev"
      refine ⟨fun h => by simp at h, fun _ => ?_⟩
      repeat walk_at "ev"
      refine Fls.seq (Fls.forR1 ?_)
      repeat walk_at "ev"
      refine ⟨by omega, ?_⟩
      refine Fls.mono (range_inv (Qr := fun _ _ => False) gs.length (fun i σ S' => S' = S ∧ ∃ x2, σ = [some (.tup gs), some (.tup gs), x2]) ⟨rfl, _, rfl⟩ ?_) ?_
      · rintro i σ S' hi ⟨rfl, x2, rfl⟩
        have eg : gs[i]? = some gs[i] := List.getElem?_eq_getElem hi
        walk_at "if"
        refine Ev.ixT (atI_nat eg) ?_
        repeat walk_at "ev"
        refine Ev.ixT (atI_nat eg) ?_
        repeat walk_at "ev"
        have hs := same_ok n gs[i] S' (Nat.lt_of_le_of_lt (depGs_at eg) hd) (nlGs_at hn eg)
        refine Ev.eq hs ?_
        repeat walk_at "ev"
        refine ⟨fun h => (nomatch h), fun _ => ?_⟩
        repeat walk_at "ev"
        exact ⟨rfl, _, rfl⟩
      · intro r q
        cases r with
        | nx σ' S' =>
          obtain ⟨rfl, x2, rfl⟩ := q
          repeat walk_at "ev"
          exact ⟨rfl, rfl⟩
        | _ => exact q.elim
    obtain ⟨_, _, e, rfl, rfl⟩ := e
    exact e

/-! ### the jar -/
theorem jar_ok {S : Sto} {s : Nat} {ns : List Int} (hs : getL S s = some (ns.map G.int)) (hl : ns.length ≤ 63) :
    Ev (Hlp.d__law_jar [.loc s] S) fun g S' => ∃ j r, g = .loc j ∧ Jar S' j r ∧ S.length ≤ j ∧ S.length ≤ r ∧ Upto [] S S' := by
  have hsl : s < S.length := by
    unfold getL at hs
    by_cases q : s < S.length
    · exact q
    · rw [List.getElem?_eq_none (by omega)] at hs; cases hs
  have big : ∀ n : Nat, n ≤ 3000 → n < sizeLine := fun n hn => by rw [sizeLine_eq]; omega
  have lm : ∀ l : List Int, (l.map G.int).length = l.length := fun l => List.length_map _
  -- one append
  have app : ∀ {S1 : Sto} {rs : List Int} (z : Int), 0 ≤ z → z < 1000000 → S1[S.length]? = some (.lst (rs.map G.int)) → getL S1 s = some (ns.map G.int) → Upto [] S S1 → (∀ x ∈ rs, 0 ≤ x ∧ x < 1000000) →
      (List.set S1 S.length (.lst (rs.map G.int ++ [.int z])))[S.length]? = some (.lst ((rs ++ [z]).map G.int)) ∧ getL (List.set S1 S.length (.lst (rs.map G.int ++ [.int z]))) s = some (ns.map G.int) ∧ Upto [] S (List.set S1 S.length (.lst (rs.map G.int ++ [.int z]))) ∧ ∀ x ∈ rs ++ [z], 0 ≤ x ∧ x < 1000000 := by
    intro S1 rs z h0 h1 e1 e2 e3 e4
    have U1 : Upto [S.length] S1 (List.set S1 S.length (.lst (rs.map G.int ++ [.int z]))) := Upto.set (by simp) _
    refine ⟨by rw [get_set e1]; simp, U1.getL (by simp; omega) e2, ?_, fun x hx => ?_⟩
    · exact ((e3.mono (Z' := [S.length]) (by simp)).trans U1).drop (fun n hn l => by simp at hn; omega)
    · rcases List.mem_append.mp hx with h | h
      · exact e4 x h
      · simp at h; subst h; exact ⟨h0, h1⟩
  refine Ev.call rfl ?_
  unfold Hlp.b__law_jar
  repeat walk_at "ev"
  refine Fls.seq (Fls.forR1 ?_)
  have hs1 : getL (S ++ [.lst []]) s = some (ns.map G.int) := (Upto.app [] S _).getL (by simp) hs
  repeat walk_at "ev"
  rw [lm, if_neg (show ¬ (63 : Int) < (ns.length : Int) by omega)]
  refine ⟨by omega, ?_⟩
  refine Fls.mono (range_inv (Qr := fun _ _ => False) ns.length (fun i σ S' => ∃ rows x2 x3 x4 x5, σ = [some (.loc s), some (.loc S.length), x2, x3, x4, x5] ∧ S'[S.length]? = some (.lst (rows.map G.int)) ∧ getL S' s = some (ns.map G.int) ∧ Upto [] S S' ∧ rows.length ≤ 40 * i ∧ ∀ x ∈ rows, 0 ≤ x ∧ x < 1000000)
    ⟨[], _, _, _, _, rfl, get_new _, hs1, Upto.app _ _ _, by simp, by simp⟩ ?_) ?_
  · rintro i σ S' hi ⟨rows, x2, x3, x4, x5, rfl, hr, hs', U, hlen, hrows⟩
    have hrL := getL_lst hr
    have en : (ns.map G.int)[i]? = some (.int ns[i]) := by rw [List.getElem?_map, List.getElem?_eq_getElem hi]; rfl
    repeat walk_at "ev"
    refine Ev.ixL hs' (atI_nat en) ?_
    repeat walk_at "ev"
    -- the cell is made positive
    refine Fls.join (P := fun σ S1 => S' = S1 ∧ ∃ c : Int, 0 ≤ c ∧ σ = [some (.loc s), some (.loc S.length), some (.int i), some (.int c), x4, x5]) ?_ ?_
    · walk_at "if"
      refine ⟨fun h => ?_, fun h => ?_⟩
      · repeat walk_at "ev"
        exact ⟨rfl, _, by have := of_decide_eq_true h; omega, rfl⟩
      · repeat walk_at "ev"
        exact ⟨rfl, _, by have := of_decide_eq_false h; omega, rfl⟩
    rintro σ _ ⟨rfl, c, hc, rfl⟩
    walk_at "if"
    refine Ev.pow ⟨by decide, by decide, by decide⟩ ?_
    repeat walk_at "ev"
    refine ⟨fun _ => ?_, fun _ => ?_⟩
    · refine Fls.forR1 ?_
      repeat walk_at "ev"
      refine ⟨by omega, ?_⟩
      refine Fls.mono (range_inv (Qr := fun _ _ => False) 40 (fun k σ S1 => ∃ rs c x4, σ = [some (.loc s), some (.loc S.length), some (.int i), some (.int c), x4, x5] ∧ 0 ≤ c ∧ S1[S.length]? = some (.lst (rs.map G.int)) ∧ getL S1 s = some (ns.map G.int) ∧ Upto [] S S1 ∧ rs.length ≤ 40 * i + k ∧ ∀ x ∈ rs, 0 ≤ x ∧ x < 1000000)
        ⟨rows, c, x4, rfl, hc, hr, hs', U, by omega, hrows⟩ ?_) ?_
      · rintro k σ S1 hk ⟨rs, c, x4, rfl, hc, e1, e2, e3, e5, e4⟩
        walk_at "if"
        refine ⟨fun _ => ?_, fun _ => ?_⟩
        · repeat walk_at "ev"
          refine Ev.app (n := 0) (gs := []) (y := .non) ?_
          repeat walk_at "ev"
          refine ⟨by rw [getL_lst e1]; rfl, ?_⟩
          repeat walk_at "ev"
          refine Ev.mod (by decide) ?_
          refine ⟨_, e1, big _ (by rw [lm]; omega), ?_⟩
          obtain ⟨f1, f2, f3, f4⟩ := app (c % 1009) (Int.emod_nonneg _ (by decide)) (by have := Int.emod_lt_of_pos c (b := 1009) (by decide); omega) e1 e2 e3 e4
          repeat walk_at "ev"
          refine Ev.div (by decide) (by decide) ?_
          exact ⟨_, _, _, rfl, Int.ediv_nonneg hc (by decide), f1, f2, f3, by rw [List.length_append, List.length_singleton]; omega, f4⟩
        · repeat walk_at "ev"
          exact ⟨rs, c, _, rfl, hc, e1, e2, e3, by omega, e4⟩
      · intro r q
        cases r with
        | nx σ' S1 =>
          obtain ⟨rs, c, x4, rfl, hc, e1, e2, e3, e5, e4⟩ := q
          exact ⟨rs, _, _, _, _, rfl, e1, e2, e3, by omega, e4⟩
        | _ => exact q.elim
    · repeat walk_at "ev"
      refine Ev.mul (.inr (by omega)) ?_
      repeat walk_at "ev"
      refine Ev.mul (.inr (by omega)) ?_
      repeat walk_at "ev"
      refine Ev.mod (by decide) ?_
      have hz0 : 0 ≤ (c * 48271 + (i : Int) * 69621 + 11) % 999983 := Int.emod_nonneg _ (by decide)
      have hz1 : (c * 48271 + (i : Int) * 69621 + 11) % 999983 < 999983 := Int.emod_lt_of_pos _ (by decide)
      generalize (c * 48271 + (i : Int) * 69621 + 11) % 999983 = z at hz0 hz1 ⊢
      repeat walk_at "ev"
      refine Ev.app (n := 0) (gs := []) (y := .non) ?_
      repeat walk_at "ev"
      refine ⟨by rw [hrL]; rfl, ?_⟩
      repeat walk_at "ev"
      refine ⟨_, hr, big _ (by rw [lm]; omega), ?_⟩
      obtain ⟨f1, f2, f3, f4⟩ := app z hz0 (by omega) hr hs' U hrows
      generalize List.set S' S.length (.lst (rows.map G.int ++ [.int z])) = S1 at f1 f2 f3 ⊢
      repeat walk_at "ev"
      refine Ev.app (n := 0) (gs := []) (y := .non) ?_
      repeat walk_at "ev"
      refine ⟨by rw [getL_lst f1]; rfl, ?_⟩
      repeat walk_at "ev"
      refine Ev.mul (.inr (by omega)) ?_
      repeat walk_at "ev"
      refine Ev.mul (.inr (by omega)) ?_
      repeat walk_at "ev"
      refine Ev.mod (by decide) ?_
      refine ⟨_, f1, big _ (by rw [lm, List.length_append, List.length_singleton]; omega), ?_⟩
      have hy0 : 0 ≤ (z * 1103 + (i : Int) * 7919 + 5) % 99991 := Int.emod_nonneg _ (by decide)
      have hy1 : (z * 1103 + (i : Int) * 7919 + 5) % 99991 < 99991 := Int.emod_lt_of_pos _ (by decide)
      obtain ⟨h1, h2, h3, h4⟩ := app _ hy0 (by omega) f1 f2 f3 f4
      exact ⟨_, _, _, _, _, rfl, h1, h2, h3, by rw [List.length_append, List.length_append, List.length_singleton, List.length_singleton]; omega, h4⟩
  · intro r q
    cases r with
    | nx σ' S' =>
      obtain ⟨rows, x2, x3, x4, x5, rfl, hr, hs', U, hlen, hrows⟩ := q
      repeat walk_at "ev"
      have hSl : S.length < S'.length := lt_of_get hr
      refine ⟨_, _, rfl, ⟨by omega, rows, 0, get_new _, ?_, by omega, by omega, hrows⟩, by omega, Nat.le_refl _, U.trans (Upto.app _ _ _)⟩
      rw [List.getElem?_append_left hSl]; exact hr
    | _ => exact q.elim
end FL
set_option Elab.async false
set_option linter.all false
set_option maxRecDepth 100000
set_option maxHeartbeats 1000000
/-! HlpName: a drawn name is a name, and none of those before. -/
namespace FL
open PySem L2 TL
local macro_rules | `(tactic| walk_at "ev") => `(tactic| with_reducible first
  | (refine Ev.var (g := ?g) ?e ?_; (case e => with_unfolding_all exact rfl)) | refine Ev.k ?_ | refine Ev.op ?_ | refine Ev.un ?_ | refine Ev.anil ?_ | refine Ev.acons ?_ | refine Ev.fcall ?_
  | refine Fls.seqSet ?_ | refine Fls.seqExpr ?_ | refine Fls.seqUnp ?_ | refine Fls.seqPar ?_ | refine Fls.seqPut ?_ | (refine Fls.seqAug (x := ?x) ?e ?_; (case e => with_unfolding_all exact rfl)) | refine Fls.seqRet ?_ | refine Fls.set ?_ | refine Fls.expr ?_ | refine Fls.ret ?_ | refine Fls.nil ?_ | refine Fls.unp ?_ | refine Fls.put ?_ | (refine Fls.aug (x := ?x) ?e ?_; (case e => with_unfolding_all exact rfl))
  | refine Ev.addI ?_ | refine Ev.subI ?_ | refine Ev.ltI ?_ | refine Ev.leI ?_ | refine Ev.gtI ?_ | refine Ev.geI ?_ | refine Ev.eqI ?_ | refine Ev.neI ?_ | refine Ev.eqS ?_ | refine Ev.neS ?_ | refine Ev.eqB ?_ | refine Ev.negI ?_
  | refine Ev.intI ?_ | refine Ev.absI ?_ | refine Ev.minI ?_ | refine Ev.maxI ?_ | refine Ev.lenT ?_ | refine Ev.tupT ?_ | refine Ev.lstT ?_ | refine Ev.slT ?_ | refine Ev.isT ?_ | refine Ev.isN ?_ | refine Ev.isB ?_ | refine Ev.isI ?_ | refine Ev.isS ?_ | refine Ev.isNon ?_ | refine Ev.isNotNon ?_ | refine Ev.isBl ?_ | refine Ev.isNotBl ?_ | refine Ev.augI ?_
  | (refine Ev.ixL (gs := ?gs) (g := ?g) ?e ?h ?_; (case e => assumption); (case h => with_unfolding_all exact rfl)) | (refine Ev.ixT (g := ?g) ?h ?_; (case h => with_unfolding_all exact rfl)) | (refine Ev.lenL (gs := ?gs) ?e ?_; (case e => assumption)) | (refine Ev.isL (gs := ?gs) ?e ?_; (case e => assumption)) | (refine Ev.tupL (gs := ?gs) ?e ?_; (case e => assumption))
  | refine Ev.ttB ?_ | refine Ev.ttVB ?_ | refine Ev.ttNot ?_ | refine Ev.tup ?_ | refine Ev.lst ?_ | refine Ev.sl ?_ | refine Ev.onone ?_ | refine Ev.osome ?_ | refine Ev.fAnd ?_ | refine Ev.fOr ?_ | refine Ev.fNot ?_ | refine Ev.ttAnd ?_ | refine Ev.ttOr ?_ | refine Ev.fIf ?_
  | (refine ⟨?w, ?h, ?_⟩; (case h => with_unfolding_all exact rfl)) | (refine ⟨?h, ?_⟩; (case h => with_unfolding_all exact Nat.le_of_ble_eq_true rfl)) | (refine ⟨?w, ?h, ?_⟩; (case h => exact putL (by assumption) (by with_unfolding_all exact rfl)))
  | dsimp only)
local macro_rules | `(tactic| walk_at "if") => `(tactic| ((with_reducible first | (refine Fls.seq ?_; refine Fls.si ?_) | refine Fls.si ?_); repeat walk_at "ev"))
theorem Jar.upto {S S' : Sto} {j r : Nat} {Z : List Nat} (J : Jar S j r) (U : Upto Z S S') (hj : j ∉ Z) (hr : r ∉ Z) : Jar S' j r := by
  obtain ⟨ne, rows, a, e1, e2, h⟩ := J
  exact ⟨ne, rows, a, U.get hj e1, U.get hr e2, h⟩
theorem Jar.jlt {S : Sto} {j r : Nat} (J : Jar S j r) : j < S.length := by obtain ⟨ne, rows, a, e1, e2, h⟩ := J; exact lt_of_get e1
theorem Jar.rlt {S : Sto} {j r : Nat} (J : Jar S j r) : r < S.length := by obtain ⟨ne, rows, a, e1, e2, h⟩ := J; exact lt_of_get e2

def Low (c : Nat) : Prop := 97 ≤ c ∧ c ≤ 122
def Aln (c : Nat) : Prop := (97 ≤ c ∧ c ≤ 122) ∨ (48 ≤ c ∧ c ≤ 57)
/-- a name: a small letter, then at most n letters and digits -/
def NameN (n : Nat) (x : Str) : Prop := ∃ c cs, tl x = c :: cs ∧ Low c ∧ (∀ d ∈ cs, Aln d) ∧ cs.length ≤ n
theorem NameN.mono {n m : Nat} {x : Str} (h : NameN n x) (l : n ≤ m) : NameN m x := by
  obtain ⟨c, cs, e, h1, h2, h3⟩ := h
  exact ⟨c, cs, e, h1, h2, by omega⟩
theorem NameN.len {n : Nat} {x : Str} (h : NameN n x) : x.length ≤ n + 1 := by
  obtain ⟨c, cs, e, h1, h2, h3⟩ := h
  rw [len_tl, e]; simp; omega
theorem NameN.ok {n : Nat} {x : Str} (h : NameN n x) : PyData.strOk x = true := by
  obtain ⟨c, cs, e, h1, h2, h3⟩ := h
  unfold PyData.strOk
  rw [← Array.all_toList]
  show (tl x).all _ = true
  rw [e, List.all_eq_true]
  intro d hd
  have : Aln d := by
    rcases List.mem_cons.mp hd with rfl | hd
    · exact .inl h1
    · exact h2 d hd
  unfold Aln at this
  simp; omega
theorem NameN.ne {n : Nat} {x : Str} (h : NameN n x) (s : Str) (hs : tl s = []) : x ≠ s := by
  rintro rfl
  obtain ⟨c, cs, e, _⟩ := h
  rw [hs] at e; cases e
theorem tl_one (c : Nat) : tl (⟨#[c]⟩ : Str) = [c] := rfl
theorem tl_cut (z : Str) (k : Nat) : tl (cutS z none (some (k : Int))) = (tl z).take k := by
  show ((tl z).drop (HT.sIx z.length 0 none)).take (HT.sIx z.length z.length (some (k : Int)) - HT.sIx z.length 0 none) = _
  rw [HT.sIx_none, HT.sIx_nat, List.drop_zero, Nat.sub_zero, len_tl]
  by_cases h : k ≤ (tl z).length
  · rw [Nat.min_eq_left h]
  · rw [Nat.min_eq_right (by omega), List.take_of_length_le (Nat.le_refl _), List.take_of_length_le (by omega)]
theorem line_ok {n : Nat} (h : n ≤ 1000000) : n ≤ sizeLine := by rw [sizeLine_eq]; omega
theorem letters_ok : (∀ c ∈ tl (Str.ofString "abcdefghijklmnopqrstuvwxyz"), Low c) ∧ (tl (Str.ofString "abcdefghijklmnopqrstuvwxyz")).length = 26 := by
  rw [tl_ofString]
  exact ⟨by unfold Low; decide +kernel, by decide +kernel⟩
theorem signs_ok : (∀ c ∈ tl (Str.ofString "abcdefghijklmnopqrstuvwxyz" ++ Str.ofString "0123456789"), Aln c) ∧ (tl (Str.ofString "abcdefghijklmnopqrstuvwxyz" ++ Str.ofString "0123456789")).length = 36 := by
  rw [tl_append, tl_ofString, tl_ofString]
  exact ⟨by unfold Aln; decide +kernel, by decide +kernel⟩
theorem atI_tl {z : Str} {v : Int} (h0 : 0 ≤ v) (h1 : v < (tl z).length) : ∃ c, c ∈ tl z ∧ atI z.cps.toList v = some c := by
  obtain ⟨n, rfl⟩ := Int.eq_ofNat_of_zero_le h0
  have hn : n < (tl z).length := by omega
  exact ⟨(tl z)[n], List.getElem_mem hn, atI_nat (List.getElem?_eq_getElem hn)⟩
/-- ends with x and the number k -/
def EndX (x : Str) (k : Nat) : Prop := ∃ p, tl x = p ++ 120 :: numL k
theorem cut120 : ∀ {p q a b : List Nat}, (120 : Nat) ∉ a → (120 : Nat) ∉ b → p ++ 120 :: a = q ++ 120 :: b → a = b
  | [], [], a, b, _, _, e => by simpa using e
  | [], x :: q, a, b, ha, _, e => by
    simp at e
    exact absurd (by rw [e.2]; simp) ha
  | x :: p, [], a, b, _, hb, e => by
    simp at e
    exact absurd (by rw [← e.2]; simp) hb
  | x :: p, y :: q, a, b, ha, hb, e => by
    simp at e
    exact cut120 ha hb e.2
theorem EndX.inj {x : Str} {k l : Nat} (h1 : EndX x k) (h2 : EndX x l) : k = l := by
  obtain ⟨p, e1⟩ := h1
  obtain ⟨q, e2⟩ := h2
  exact numL_inj (cut120 (numL_free (by omega)) (numL_free (by omega)) (e1.symm.trans e2))
theorem nodup_le {α : Type} [DecidableEq α] : ∀ {l m : List α}, l.Nodup → (∀ x ∈ l, x ∈ m) → l.length ≤ m.length
  | [], _, _, _ => Nat.zero_le _
  | a :: l, m, h, hs => by
    obtain ⟨h1, h2⟩ := List.nodup_cons.mp h
    have ha := hs a List.mem_cons_self
    have ih := nodup_le (m := m.erase a) h2 fun x hx => by
      have hx' := hs x (List.mem_cons_of_mem _ hx)
      exact (List.mem_erase_of_ne (fun e => h1 (by rw [← e]; exact hx))).mpr hx'
    rw [List.length_erase_of_mem ha] at ih
    have : 0 < m.length := List.length_pos_of_mem ha
    rw [List.length_cons]; omega
theorem inG_str (x : Str) : ∀ names : List Str, inG (.str x) (names.map G.str) = decide (x ∈ names)
  | [] => by simp [inG]
  | n :: ns => by
    have ih := inG_str x ns
    simp only [inG] at ih
    simp only [inG, List.map_cons, List.any_cons, ih, eqG]
    by_cases h : n = x
    · subst h; simp
    · have h' : ¬ x = n := fun e => h e.symm
      simp [h, h']
theorem okIn_str (x : Str) (names : List Str) : okIn (.str x) (names.map G.str) = true := by
  have : (names.map G.str).all flatG = true := by rw [List.all_eq_true]; intro g hg; obtain ⟨n, _, rfl⟩ := List.mem_map.mp hg; rfl
  unfold okIn
  rw [this]; rfl
theorem name_ok {S : Sto} {j r t : Nat} {names : List Str} (J : Jar S j r) (ht : S[t]? = some (.lst (names.map G.str))) (htj : t ≠ j) (htr : t ≠ r) (hlen : names.length ≤ 59) :
    Ev (Hlp.d__law_name [.loc j, .loc t] S) fun g S' => ∃ x, g = .str x ∧ NameN 8 x ∧ x ∉ names ∧ Jar S' j r ∧ S'[t]? = some (.lst ((names ++ [x]).map G.str)) ∧ Upto [j, t] S S' := by
  obtain ⟨hl1, hl2⟩ := letters_ok
  obtain ⟨hs1, hs2⟩ := signs_ok
  refine Ev.call rfl ?_
  unfold Hlp.b__law_name
  repeat walk_at "ev"
  refine Ev.addS (line_ok (by rw [len_tl, len_tl, hl2, tl_ofString]; decide +kernel)) ?_
  repeat walk_at "ev"
  refine Ev.mono (take_ok J (by decide)) ?_
  rintro g S1 ⟨v, rfl, hv0, hv1, J1, U1⟩
  have ht1 := U1.get (by simpa using htj) ht
  obtain ⟨c, hc, ec⟩ := atI_tl (z := Str.ofString "abcdefghijklmnopqrstuvwxyz") hv0 (by rw [hl2]; omega)
  refine Ev.ixS (line_ok (by rw [len_tl, hl2]; omega)) ec ?_
  repeat walk_at "ev"
  refine Fls.seq (Fls.forR1 ?_)
  repeat walk_at "ev"
  refine Ev.mono (take_ok J1 (by decide)) ?_
  rintro g S2 ⟨v2, rfl, hv20, hv21, J2, U2⟩
  repeat walk_at "ev"
  refine Ev.mono (take_ok J2 (by decide)) ?_
  rintro g S3 ⟨v3, rfl, hv30, hv31, J3, U3⟩
  have ht3 := U3.get (by simpa using htj) (U2.get (by simpa using htj) ht1)
  repeat walk_at "ev"
  refine Ev.mul (.inl (by omega)) ?_
  repeat walk_at "ev"
  have hb : 0 ≤ v2 * (1 + v3) ∧ v2 * (1 + v3) ≤ 9 := by
    have h2 : v2 = 0 ∨ v2 = 1 ∨ v2 = 2 ∨ v2 = 3 := by omega
    rcases h2 with rfl | rfl | rfl | rfl <;> omega
  generalize v2 * (1 + v3) = m at hb ⊢
  refine ⟨by omega, ?_⟩
  have U03 := (U1.trans U2).trans U3
  refine Fls.mono (range_inv (Qr := fun _ _ => False) m.toNat (fun i σ S' => ∃ x xk, σ = [some (.loc j), some (.loc t), some (.str (Str.ofString "abcdefghijklmnopqrstuvwxyz")), some (.str (Str.ofString "abcdefghijklmnopqrstuvwxyz" ++ Str.ofString "0123456789")), some (.str x), xk] ∧ NameN i x ∧ Jar S' j r ∧ S'[t]? = some (.lst (names.map G.str)) ∧ Upto [j] S S')
    ⟨⟨#[c]⟩, _, rfl, ⟨c, [], tl_one c, hl1 c hc, by simp, by simp⟩, J3, ht3, U03⟩ ?_) ?_
  · rintro i σ S' hi ⟨x, xk, rfl, hx, Ji, hti, Ui⟩
    repeat walk_at "ev"
    refine Ev.mono (take_ok Ji (by decide)) ?_
    rintro g S4 ⟨v4, rfl, hv40, hv41, J4, U4⟩
    obtain ⟨d, hd, ed⟩ := atI_tl (z := Str.ofString "abcdefghijklmnopqrstuvwxyz" ++ Str.ofString "0123456789") hv40 (by rw [hs2]; omega)
    refine Ev.ixS (line_ok (by rw [len_tl, hs2]; omega)) ed ?_
    refine Ev.addS (line_ok (by have := hx.len; rw [len_tl (⟨#[d]⟩ : Str), tl_one]; simp; omega)) ?_
    refine ⟨_, _, rfl, ?_, J4, U4.get (by simpa using htj) hti, Ui.trans U4⟩
    obtain ⟨c, cs, e, h1, h2, h3⟩ := hx
    refine ⟨c, cs ++ [d], by rw [tl_append, e, tl_one]; rfl, h1, fun y hy => ?_, by simp; omega⟩
    rcases List.mem_append.mp hy with h | h
    · exact h2 y h
    · simp at h; subst h; exact hs1 y hd
  intro rr q
  cases rr with
  | nx σ S5 =>
    obtain ⟨x, xk, rfl, hx, J5, ht5, U5⟩ := q
    have hx9 : NameN 9 x := hx.mono (by omega)
    clear hx
    repeat walk_at "ev"
    refine Ev.slS (line_ok (by have := hx9.len; omega)) ?_
    have hx8 : NameN 8 (cutS x none (some 8)) := by
      obtain ⟨c, cs, e, h1, h2, h3⟩ := hx9
      refine ⟨c, cs.take 7, by rw [show (some (8 : Int)) = some ((8 : Nat) : Int) from rfl, tl_cut, e]; rfl, h1, fun d hd => h2 d (List.mem_of_mem_take hd), by rw [List.length_take]; omega⟩
    generalize cutS x none (some 8) = y at hx8 ⊢
    repeat walk_at "ev"
    refine Fls.seq (Fls.forR1 ?_)
    repeat walk_at "ev"
    refine ⟨by omega, ?_⟩
    refine Fls.mono (range_inv (Qr := fun _ _ => False) 60 (fun i σ S' => S5 = S' ∧ ∃ x xk, σ = [some (.loc j), some (.loc t), some (.str (Str.ofString "abcdefghijklmnopqrstuvwxyz")), some (.str (Str.ofString "abcdefghijklmnopqrstuvwxyz" ++ Str.ofString "0123456789")), some (.str x), xk] ∧ NameN 8 x ∧
        (x ∉ names ∨ ∃ L : List Str, L.length = i - 1 ∧ L.Nodup ∧ (∀ z ∈ L, z ∈ names ∧ ∃ k, k < i - 1 ∧ EndX z k) ∧ (1 ≤ i → EndX x (i - 1))))
      ⟨rfl, y, _, rfl, hx8, .inr ⟨[], rfl, List.nodup_nil, by simp, by omega⟩⟩ ?_) ?_
    · rintro i σ S' hi ⟨rfl, x, xk, rfl, hx, hP⟩
      walk_at "if"
      refine Ev.inn (inL (getL_lst ht5) (okIn_str x names)) ?_
      rw [inG_str]
      repeat walk_at "ev"
      refine ⟨fun h => ?_, fun h => ?_⟩
      · have hm : x ∈ names := of_decide_eq_true h
        repeat walk_at "ev"
        refine Ev.slS (line_ok (by have := hx.len; omega)) ?_
        repeat walk_at "ev"
        have h6 : tl (cutS x none (some 6)) = (tl x).take 6 := by rw [show (some (6 : Int)) = some ((6 : Nat) : Int) from rfl, tl_cut]
        have h6l : (cutS x none (some 6)).length ≤ 6 := by rw [len_tl, h6, List.length_take]; omega
        have hX : tl (Str.ofString "x") = [120] := by rw [tl_ofString]; decide +kernel
        refine Ev.addS (line_ok (by rw [len_tl (Str.ofString "x"), hX]; simp; omega)) ?_
        repeat walk_at "ev"
        refine Ev.strI (by
          have h1 : (i : Int).natAbs = i := by omega
          rw [h1]
          have : i.log2 ≤ i := Nat.log2_le_self i
          omega) ?_
        have hn : tl (Str.ofString (toString (i : Int))) = numL i := tl_num i
        have hnl : (numL i).length ≤ 2 := numL_len (by decide) (by omega)
        have h7 : (cutS x none (some 6) ++ Str.ofString "x").length ≤ 7 := by rw [len_tl, tl_append, hX, List.length_append, ← len_tl]; simp; omega
        refine Ev.addS (line_ok (by rw [len_tl (Str.ofString (toString (i : Int))), hn]; omega)) ?_
        have et : tl (cutS x none (some 6) ++ Str.ofString "x" ++ Str.ofString (toString (i : Int))) = (tl x).take 6 ++ 120 :: numL i := by
          rw [tl_append, tl_append, h6, hX, hn]; simp
        refine ⟨rfl, _, _, rfl, ?_, .inr ?_⟩
        · obtain ⟨c, cs, e, h1, h2, h3⟩ := hx
          refine ⟨c, cs.take 5 ++ 120 :: numL i, by rw [et, e]; rfl, h1, fun d hd => ?_, by simp [List.length_take]; omega⟩
          rcases List.mem_append.mp hd with h | h
          · exact h2 d (List.mem_of_mem_take h)
          · rcases List.mem_cons.mp h with rfl | h
            · exact .inl (by omega)
            · have := numL_digits i
              have hd := this d h
              exact .inr (by have := hd; omega)
        · rcases hP with hP | ⟨L, hL, hnd, hall, hend⟩
          · exact absurd hm hP
          · by_cases h0 : i = 0
            · subst h0
              exact ⟨[], rfl, List.nodup_nil, by simp, fun _ => ⟨_, et⟩⟩
            · have he := hend (by omega)
              refine ⟨x :: L, by rw [List.length_cons]; omega, List.nodup_cons.mpr ⟨fun hx' => ?_, hnd⟩, fun z hz => ?_, fun _ => ⟨_, et⟩⟩
              · obtain ⟨_, k, hk, ek⟩ := hall x hx'
                have := EndX.inj he ek
                omega
              · rcases List.mem_cons.mp hz with rfl | hz
                · exact ⟨hm, i - 1, by omega, he⟩
                · obtain ⟨h1, k, hk, ek⟩ := hall z hz
                  exact ⟨h1, k, by omega, ek⟩
      · have hm : x ∉ names := of_decide_eq_false h
        repeat walk_at "ev"
        exact ⟨rfl, x, _, rfl, hx, .inl hm⟩
    intro rr q
    cases rr with
    | nx σ S6 =>
      obtain ⟨rfl, x, xk, rfl, hx, hP⟩ := q
      have hm : x ∉ names := by
        rcases hP with hP | ⟨L, hL, hnd, hall, hend⟩
        · exact hP
        · intro hm
          have he := hend (by omega)
          have hn2 : (x :: L).Nodup := List.nodup_cons.mpr ⟨fun hx' => by
            obtain ⟨_, k, hk, ek⟩ := hall x hx'
            have := EndX.inj he ek
            omega, hnd⟩
          have := nodup_le hn2 (m := names) fun z hz => by
            rcases List.mem_cons.mp hz with rfl | hz
            · exact hm
            · exact (hall z hz).1
          rw [List.length_cons] at this
          omega
      repeat walk_at "ev"
      refine Ev.app (n := 0) (gs := []) (y := .non) ?_
      repeat walk_at "ev"
      refine ⟨by rw [getL_lst ht5]; rfl, ?_⟩
      repeat walk_at "ev"
      refine ⟨_, ht5, by rw [List.length_map, sizeLine_eq]; omega, ?_⟩
      repeat walk_at "ev"
      have Ut : Upto [t] S5 (List.set S5 t (.lst (names.map G.str ++ [.str x]))) := Upto.set (by simp) _
      refine ⟨hx, hm, J5.upto Ut (by simp; exact fun e => htj e.symm) (by simp; exact fun e => htr e.symm), ?_, (U5.mono (by simp)).trans (Ut.mono (by simp))⟩
      rw [get_set ht5]; simp
    | _ => exact q.elim
  | _ => exact q.elim
end FL
set_option Elab.async false
set_option linter.all false
set_option maxRecDepth 100000
set_option maxHeartbeats 1000000
/-! Fn7: slices and indices in plain lists; membership of data. -/
namespace FL
open PySem L2
theorem cut_take {α : Type} (xs : List α) (k : Nat) : cutL xs none (some (k : Int)) = xs.take k := by
  unfold cutL
  rw [HT.sIx_none, HT.sIx_nat, List.drop_zero, Nat.sub_zero]
  by_cases h : k ≤ xs.length
  · rw [Nat.min_eq_left h]
  · rw [Nat.min_eq_right (by omega), List.take_of_length_le (Nat.le_refl _), List.take_of_length_le (by omega)]
theorem cut_drop {α : Type} (xs : List α) (k : Nat) : cutL xs (some (k : Int)) none = xs.drop k := by
  unfold cutL
  rw [HT.sIx_none, HT.sIx_nat]
  by_cases h : k ≤ xs.length
  · rw [Nat.min_eq_left h, List.take_of_length_le (by rw [List.length_drop]; omega)]
  · rw [Nat.min_eq_right (by omega), List.take_of_length_le (by rw [List.length_drop]; omega), List.drop_of_length_le (Nat.le_refl _), List.drop_of_length_le (by omega)]
theorem cut_init {α : Type} (xs : List α) : cutL xs none (some (-1)) = xs.dropLast := by
  unfold cutL
  rw [HT.sIx_none]
  have : HT.sIx xs.length xs.length (some (-1)) = xs.length - 1 := by
    unfold HT.sIx
    dsimp only
    rw [if_pos (by decide)]; omega
  rw [this, List.drop_zero, Nat.sub_zero, List.dropLast_eq_take]
theorem cut_swap {α : Type} (xs : List α) (k : Nat) : cutL xs (some (k : Int)) none ++ cutL xs none (some (k : Int)) = xs.drop k ++ xs.take k := by rw [cut_drop, cut_take]
theorem cut_set {α : Type} {xs : List α} {k : Nat} (h : k < xs.length) (x : α) : cutL xs none (some (k : Int)) ++ [x] ++ cutL xs (some ((k : Int) + 1)) none = xs.set k x := by
  rw [show ((k : Int) + 1) = ((k + 1 : Nat) : Int) by omega, cut_drop, cut_take, List.set_eq_take_append_cons_drop, if_pos h]
  simp
theorem cut_del {α : Type} (xs : List α) (k : Nat) : cutL xs none (some (k : Int)) ++ cutL xs (some ((k : Int) + 1)) none = xs.take k ++ xs.drop (k + 1) := by
  rw [show ((k : Int) + 1) = ((k + 1 : Nat) : Int) by omega, cut_drop, cut_take]
theorem atI_last {α : Type} {xs : List α} {x : α} (h : xs.getLast? = some x) : atI xs (-1) = some x := by
  have hp : xs ≠ [] := by rintro rfl; cases h
  have hl : 0 < xs.length := List.length_pos_iff.mpr hp
  unfold atI ixN
  rw [if_neg (by decide), if_pos (by omega)]
  show xs[((-1 : Int) + (xs.length : Int)).toNat]? = _
  rw [show ((-1 : Int) + (xs.length : Int)).toNat = xs.length - 1 by omega, ← List.getLast?_eq_getElem?]
  exact h
/-- the one before, around -/
def prv (n i : Nat) : Nat := if i = 0 then n - 1 else i - 1
theorem atI_prv {α : Type} {xs : List α} {i : Nat} {x : α} (hi : i < xs.length) (h : xs[prv xs.length i]? = some x) : atI xs ((i : Int) - 1) = some x := by
  unfold prv at h
  by_cases q : i = 0
  · subst q
    rw [if_pos rfl] at h
    exact atI_last (by rw [List.getLast?_eq_getElem?]; exact h)
  · rw [if_neg q] at h
    rw [show (i : Int) - 1 = ((i - 1 : Nat) : Int) by omega]
    exact atI_nat h
theorem prv_lt {n i : Nat} (h : i < n) : prv n i < n := by unfold prv; split <;> omega
theorem map_set_of {α β : Type} [DecidableEq α] {xs : List α} (hn : xs.Nodup) {k : Nat} {x : α} (hk : xs[k]? = some x) (f : α → β) (y : β) : (xs.map f).set k y = xs.map fun z => if z = x then y else f z := by
  obtain ⟨h, hx⟩ := List.getElem?_eq_some_iff.mp hk
  refine List.ext_getElem (by simp) fun i h1 h2 => ?_
  rw [List.getElem_map, List.getElem_set]
  by_cases q : k = i
  · subst q; rw [if_pos rfl, if_pos hx]
  · rw [if_neg q, List.getElem_map, if_neg]
    intro e
    exact q ((List.getElem_inj hn).mp (e.trans hx.symm)).symm
theorem canGs_iff : ∀ gs : List G, canGs gs = true ↔ ∀ g ∈ gs, canG g = true
  | [] => by simp [canGs]
  | g :: gs => by rw [canGs, Bool.and_eq_true, canGs_iff gs]; simp
theorem depGs_le : ∀ {gs : List G} {n : Nat}, (∀ g ∈ gs, depG g ≤ n) → depGs gs ≤ n
  | [], _, _ => by simp [depGs]
  | g :: gs, n, h => by
    rw [depGs]
    have h1 := h g List.mem_cons_self
    have h2 := depGs_le fun g hg => h g (List.mem_cons_of_mem _ hg)
    omega
theorem okIn_dat {x : G} {gs : List G} (h : canG x = true) (h2 : ∀ g ∈ gs, canG g = true) (d : depG x ≤ 50) (d2 : ∀ g ∈ gs, depG g ≤ 50) : okIn x gs = true := by
  have h3 : canG (.tup gs) = true := by rw [canG]; exact (canGs_iff gs).mpr h2
  have h4 : depG (.tup gs) ≤ 51 := by rw [depG]; have := depGs_le d2; omega
  unfold okIn datG
  rw [h, h3]
  have : depG x ≤ 60 := by omega
  have : depG (.tup gs) ≤ 60 := by omega
  simp [*]
theorem nlGs_iff : ∀ gs : List G, nlGs gs = true ↔ ∀ g ∈ gs, nlG g = true
  | [] => by simp [nlGs]
  | g :: gs => by rw [nlGs, Bool.and_eq_true, nlGs_iff gs]; simp
end FL
set_option Elab.async false
set_option linter.all false
/-! K48Math: longest ways by passes, and what the causes lead to. -/
namespace K48
variable {α : Type} [DecidableEq α]
structure Co (α : Type) where
  l : α
  e : α
  g : Int
  id : α
  deriving DecidableEq
abbrev QF (α : Type) := α → Option (Co α)
/-- w leads from v to u by the causes -/
def QP (Q : QF α) : List (Co α) → α → α → Prop
  | [], v, u => v = u
  | c :: w, v, u => Q v = some c ∧ QP Q w c.e u
def tot : List (Co α) → Int
  | [] => 0
  | c :: w => c.g + tot w
theorem tot_app (a b : List (Co α)) : tot (a ++ b) = tot a + tot b := by
  induction a with
  | nil => simp [tot]
  | cons c a ih => simp [tot, ih]; omega
theorem tot_rev (a : List (Co α)) : tot a.reverse = tot a := by
  induction a with
  | nil => rfl
  | cons c a ih => rw [List.reverse_cons, tot_app, ih]; simp [tot]; omega
theorem QP.append {Q : QF α} : ∀ {a b : List (Co α)} {v u x : α}, QP Q a v u → QP Q b u x → QP Q (a ++ b) v x
  | [], _, _, _, _, h, h' => by
    have h : _ = _ := h
    subst h; exact h'
  | c :: a, b, v, u, x, ⟨h1, h2⟩, h' => ⟨h1, h2.append h'⟩
theorem QP.split {Q : QF α} : ∀ {a b : List (Co α)} {v x : α}, QP Q (a ++ b) v x → ∃ u, QP Q a v u ∧ QP Q b u x
  | [], _, v, _, h => ⟨v, rfl, h⟩
  | c :: a, b, v, x, ⟨h1, h2⟩ => by
    obtain ⟨u, h3, h4⟩ := h2.split
    exact ⟨u, ⟨h1, h3⟩, h4⟩
theorem QP.last {Q : QF α} : ∀ {w : List (Co α)} {v u : α}, QP Q w v u → (v :: w.map (·.e)).getLast? = some u
  | [], v, u, h => by
    have h : v = u := h
    subst h; rfl
  | c :: w, v, u, ⟨h1, h2⟩ => by
    have := h2.last
    rw [List.map_cons, List.getLast?_cons_cons]; exact this
theorem twice : ∀ (w : List (Co α)) (n : α), ¬ (n :: w.map (·.e)).Nodup → ∃ a b c, w = a ++ b ++ c ∧ b ≠ [] ∧ (n :: a.map (·.e)).getLast? = (n :: (a ++ b).map (·.e)).getLast?
  | [], n, h => absurd (by simp) h
  | e :: w, n, h => by
    by_cases q : n ∈ (e :: w).map (·.e)
    · obtain ⟨f, hf, ef⟩ := List.mem_map.mp q
      obtain ⟨s, t, est⟩ := List.append_of_mem hf
      refine ⟨[], s ++ [f], t, by simp [est], by simp, ?_⟩
      simp [List.getLast?_cons, ef]
    · have h2 : ¬ ((e :: w).map (·.e)).Nodup := fun z => h (List.nodup_cons.mpr ⟨q, z⟩)
      obtain ⟨a, b, c, h1, h3, h4⟩ := twice w e.e h2
      refine ⟨e :: a, b, c, by rw [h1]; rfl, h3, ?_⟩
      simpa [List.getLast?_cons] using h4
theorem nodup_len {β : Type} [DecidableEq β] : ∀ {l m : List β}, l.Nodup → (∀ x ∈ l, x ∈ m) → l.length ≤ m.length
  | [], _, _, _ => Nat.zero_le _
  | a :: l, m, h, hs => by
    obtain ⟨h1, h2⟩ := List.nodup_cons.mp h
    have ha := hs a List.mem_cons_self
    have ih := nodup_len (m := m.erase a) h2 fun x hx => by
      have hx' := hs x (List.mem_cons_of_mem _ hx)
      exact (List.mem_erase_of_ne (fun e => h1 (by rw [← e]; exact hx))).mpr hx'
    rw [List.length_erase_of_mem ha] at ih
    have : 0 < m.length := List.length_pos_of_mem ha
    rw [List.length_cons]; omega
/-- a long way goes round -/
theorem round {Q : QF α} {N : List α} (hN : ∀ v c, v ∈ N → Q v = some c → c.e ∈ N) {w : List (Co α)} {v u : α} (hv : v ∈ N) (h : QP Q w v u) (hl : N.length ≤ w.length) : ∃ a b c x, w = a ++ b ++ c ∧ b ≠ [] ∧ QP Q a v x ∧ QP Q b x x ∧ QP Q c x u := by
  have hw : ∀ {w : List (Co α)} {v u : α}, QP Q w v u → v ∈ N → ∀ x ∈ v :: w.map (·.e), x ∈ N := by
    intro w
    induction w with
    | nil => intro v u _ hv x hx; simp at hx; subst hx; exact hv
    | cons c w ih =>
      intro v u ⟨h1, h2⟩ hv x hx
      rcases List.mem_cons.mp hx with rfl | hx
      · exact hv
      · exact ih h2 (hN v c hv h1) x hx
  have hnd : ¬ (v :: w.map (·.e)).Nodup := fun z => by
    have := nodup_len z (hw h hv)
    simp at this; omega
  obtain ⟨a, b, c, e1, hb, hlast⟩ := twice w v hnd
  subst e1
  obtain ⟨y, h1, h2⟩ := QP.split h
  obtain ⟨x, h3, h4⟩ := QP.split h1
  have hx := h3.last
  have hy := h1.last
  rw [hx, hy] at hlast
  have : x = y := Option.some.inj hlast
  subst this
  exact ⟨a, b, c, x, rfl, hb, h3, h4, h2⟩
theorem rot {Q : QF α} : ∀ {c b : List (Co α)} {x y : α}, QP Q b x x → b ≠ [] → QP Q c x y → ∃ b', QP Q b' y y ∧ b'.length = b.length
  | [], b, x, y, h, _, hc => by
    have hc : x = y := hc
    subst hc
    exact ⟨b, h, rfl⟩
  | d :: c, [], _, _, _, hb, _ => absurd rfl hb
  | d :: c, d' :: r, x, y, ⟨h1, h2⟩, _, ⟨h3, h4⟩ => by
    have : d' = d := Option.some.inj (h1.symm.trans h3)
    subst this
    obtain ⟨b', h5, h6⟩ := rot (b := r ++ [d']) (h2.append ⟨h1, rfl⟩) (by simp) h4
    exact ⟨b', h5, by rw [h6]; simp⟩
structure Inv (ev : List (Co α)) (o : α) (sh : List α) (P : α → Int) (Q : QF α) (R T : α → Nat) (k t : Nat) (dn : List (Co α)) : Prop where
  c1 : ∀ v c, Q v = some c → c.l = v ∧ c ∈ ev ∧ P v ≤ P c.e + c.g ∧ (P v = P c.e + c.g → T c.e < T v)
  c2 : ∀ s ∈ sh, Q s ≠ none
  c3 : Q o = none → P o = 0
  c4 : ∀ v, R v ≤ k ∧ T v < t
  c5 : ∀ v, 1 ≤ R v → Q v ≠ none
  c6 : ∀ v c, Q v = some c → R v ≤ R c.e + 1
  c7 : ∀ c ∈ ev, P c.l < P c.e + c.g → k ≤ R c.e + 1
  c8 : ∀ c ∈ dn, P c.l < P c.e + c.g → R c.e = k
def upd {β : Type} (f : α → β) (x : α) (y : β) : α → β := fun z => if z = x then y else f z
theorem upd_same {β : Type} (f : α → β) (x : α) (y : β) : upd f x y x = y := if_pos rfl
theorem upd_ne {β : Type} (f : α → β) {x z : α} (y : β) (h : z ≠ x) : upd f x y z = f z := if_neg h
theorem Inv.skip {ev : List (Co α)} {o : α} {sh : List α} {P : α → Int} {Q : QF α} {R T : α → Nat} {k t : Nat} {dn : List (Co α)} (I : Inv ev o sh P Q R T k t dn) {c : Co α} (h : P c.e + c.g ≤ P c.l) : Inv ev o sh P Q R T k t (dn ++ [c]) :=
  ⟨I.c1, I.c2, I.c3, I.c4, I.c5, I.c6, I.c7, fun d hd hv => by
    rcases List.mem_append.mp hd with hd | hd
    · exact I.c8 d hd hv
    · simp at hd; subst hd; omega⟩
theorem Inv.hit {ev : List (Co α)} {o : α} {sh : List α} {P : α → Int} {Q : QF α} {R T : α → Nat} {k t : Nat} {dn : List (Co α)} (I : Inv ev o sh P Q R T k t dn) {c : Co α} (hc : c ∈ ev) (h : P c.l < P c.e + c.g) :
    Inv ev o sh (upd P c.l (P c.e + c.g)) (upd Q c.l (some c)) (upd R c.l k) (upd T c.l t) k (t + 1) (dn ++ [c]) := by
  have hP : ∀ v, P v ≤ upd P c.l (P c.e + c.g) v := fun v => by
    by_cases q : v = c.l
    · rw [q, upd_same]; omega
    · rw [upd_ne _ _ q]; exact Int.le_refl _
  have hR : ∀ v, R v ≤ upd R c.l k v := fun v => by
    by_cases q : v = c.l
    · rw [q, upd_same]; exact (I.c4 _).1
    · rw [upd_ne _ _ q]; exact Nat.le_refl _
  refine ⟨fun v d hd => ?_, fun s hs => ?_, fun ho => ?_, fun v => ?_, fun v hv => ?_, fun v d hd => ?_, fun d hd hv => ?_, fun d hd hv => ?_⟩
  · by_cases q : v = c.l
    · subst q
      rw [upd_same] at hd
      have := Option.some.inj hd
      subst this
      refine ⟨rfl, hc, ?_, ?_⟩
      · rw [upd_same]; have := hP c.e; omega
      · rw [upd_same, upd_same]
        intro e
        by_cases q2 : c.e = c.l
        · rw [q2, upd_same] at e
          rw [q2] at h
          omega
        · rw [upd_ne _ _ q2]; exact (I.c4 _).2
    · rw [upd_ne _ _ q] at hd
      obtain ⟨h1, h2, h3, h4⟩ := I.c1 v d hd
      refine ⟨h1, h2, ?_, ?_⟩
      · rw [upd_ne _ _ q]; have := hP d.e; omega
      · rw [upd_ne _ _ q, upd_ne _ _ q]
        intro e
        by_cases q2 : d.e = c.l
        · rw [q2, upd_same] at e
          rw [q2] at h3
          omega
        · rw [upd_ne _ _ q2] at e ⊢; exact h4 e
  · by_cases q : s = c.l
    · rw [q, upd_same]; simp
    · rw [upd_ne _ _ q]; exact I.c2 s hs
  · by_cases q : o = c.l
    · rw [q, upd_same] at ho; cases ho
    · rw [upd_ne _ _ q] at ho ⊢; exact I.c3 ho
  · constructor
    · by_cases q : v = c.l
      · rw [q, upd_same]; exact Nat.le_refl _
      · rw [upd_ne _ _ q]; exact (I.c4 v).1
    · by_cases q : v = c.l
      · rw [q, upd_same]; omega
      · rw [upd_ne _ _ q]; have := (I.c4 v).2; omega
  · by_cases q : v = c.l
    · rw [q, upd_same]; simp
    · rw [upd_ne _ _ q] at hv ⊢; exact I.c5 v hv
  · by_cases q : v = c.l
    · subst q
      rw [upd_same] at hd
      have := Option.some.inj hd
      subst this
      rw [upd_same]
      have := I.c7 c hc h
      have := hR c.e
      omega
    · rw [upd_ne _ _ q] at hd
      rw [upd_ne _ _ q]
      have := I.c6 v d hd
      have := hR d.e
      omega
  · by_cases q : d.e = c.l
    · rw [q, upd_same]; omega
    · rw [upd_ne _ _ q]
      rw [upd_ne _ _ q] at hv
      have := hP d.l
      exact I.c7 d hd (by omega)
  · by_cases q : d.e = c.l
    · rw [q, upd_same]
    · rw [upd_ne _ _ q]
      rw [upd_ne _ _ q] at hv
      have := hP d.l
      rcases List.mem_append.mp hd with hd | hd
      · exact I.c8 d hd (by omega)
      · simp at hd
        subst hd
        rw [upd_same] at hv
        omega
theorem Inv.next {ev : List (Co α)} {o : α} {sh : List α} {P : α → Int} {Q : QF α} {R T : α → Nat} {k t : Nat} (I : Inv ev o sh P Q R T k t ev) : Inv ev o sh P Q R T (k + 1) t [] :=
  ⟨I.c1, I.c2, I.c3, fun v => ⟨by have := (I.c4 v).1; omega, (I.c4 v).2⟩, I.c5, I.c6, fun c hc hv => by have := I.c8 c hc hv; omega, fun c hc => by simp at hc⟩
def ownC (o : α) (s : α) : Co α := ⟨s, o, 0, o⟩
theorem Inv.start {ev : List (Co α)} {o : α} {sh : List α} (ho : o ∉ sh) (hown : ∀ s ∈ sh, ownC o s ∈ ev) : Inv ev o sh (fun _ => 0) (fun v => if v ∈ sh then some (ownC o v) else none) (fun _ => 0) (fun v => if v = o then 0 else 1) 1 2 [] := by
  refine ⟨fun v c hc => ?_, fun s hs => ?_, fun _ => rfl, fun v => ⟨by omega, ?_⟩, fun v hv => by omega, fun v c _ => by omega, fun c _ _ => by omega, fun c hc => by simp at hc⟩
  · split at hc
    · rename_i hs
      have := Option.some.inj hc
      subst this
      refine ⟨rfl, hown v hs, by simp [ownC], fun _ => ?_⟩
      have : v ≠ o := fun e => ho (e ▸ hs)
      simp [ownC, this]
    · cases hc
  · simp [hs]
  · split <;> omega
variable {ev : List (Co α)} {o : α} {sh : List α} {P : α → Int} {Q : QF α} {R T : α → Nat} {k t : Nat} {dn : List (Co α)}
theorem Inv.path (I : Inv ev o sh P Q R T k t dn) : ∀ {w : List (Co α)} {v u : α}, QP Q w v u → w ≠ [] → P v < P u + tot w ∨ (P v = P u + tot w ∧ T u < T v)
  | [], _, _, _, h => absurd rfl h
  | c :: w, v, u, ⟨h1, h2⟩, _ => by
    obtain ⟨e1, e2, e3, e4⟩ := I.c1 v c h1
    by_cases q : w = []
    · subst q
      have h2 : c.e = u := h2
      subst h2
      simp only [tot]
      by_cases q2 : P v = P c.e + c.g
      · exact .inr ⟨by omega, e4 q2⟩
      · exact .inl (by omega)
    · simp only [tot]
      rcases I.path h2 q with h | ⟨h, h'⟩
      · exact .inl (by omega)
      · by_cases q2 : P v = P c.e + c.g
        · have := e4 q2
          exact .inr ⟨by omega, by omega⟩
        · exact .inl (by omega)
/-- a cycle of causes has a sum above nought -/
theorem Inv.cyc (I : Inv ev o sh P Q R T k t dn) {w : List (Co α)} {v : α} (h : QP Q w v v) (hw : w ≠ []) : 0 < tot w := by
  rcases I.path h hw with h | ⟨h, h'⟩
  · omega
  · omega
/-- all are kept -/
def Fix (ev : List (Co α)) (P : α → Int) : Prop := ∀ c ∈ ev, P c.e + c.g ≤ P c.l
theorem Inv.fixP (I : Inv ev o sh P Q R T k t dn) (F : Fix ev P) : ∀ {w : List (Co α)} {v u : α}, QP Q w v u → P v = P u + tot w
  | [], v, u, h => by
    have h : v = u := h
    subst h; simp [tot]
  | c :: w, v, u, ⟨h1, h2⟩ => by
    obtain ⟨e1, e2, e3, e4⟩ := I.c1 v c h1
    have := F c e2
    rw [e1] at this
    have := I.fixP F h2
    simp only [tot]
    omega
theorem Inv.noc (I : Inv ev o sh P Q R T k t dn) (F : Fix ev P) {w : List (Co α)} {v : α} (h : QP Q w v v) : w = [] := by
  by_cases q : w = []
  · exact q
  · have := I.cyc h q
    have := I.fixP F h
    omega
theorem ends (Q : QF α) : ∀ (k : Nat) (v : α), (∃ w u, QP Q w v u ∧ Q u = none ∧ w.length ≤ k) ∨ (∃ w u, QP Q w v u ∧ w.length = k + 1)
  | 0, v => by
    cases q : Q v with
    | none => exact .inl ⟨[], v, rfl, q, Nat.le_refl _⟩
    | some c => exact .inr ⟨[c], c.e, ⟨q, rfl⟩, rfl⟩
  | k + 1, v => by
    cases q : Q v with
    | none => exact .inl ⟨[], v, rfl, q, Nat.zero_le _⟩
    | some c =>
      rcases ends Q k c.e with ⟨w, u, h1, h2, h3⟩ | ⟨w, u, h1, h2⟩
      · exact .inl ⟨c :: w, u, ⟨q, h1⟩, h2, by simp; omega⟩
      · exact .inr ⟨c :: w, u, ⟨q, h1⟩, by simp [h2]⟩
/-- where all are kept, the causes lead to the origin -/
theorem Inv.chain (I : Inv ev o sh P Q R T k t dn) (F : Fix ev P) (hN : ∀ c ∈ ev, c.l ∈ o :: sh ∧ c.e ∈ o :: sh) {v : α} (hv : v ∈ o :: sh) : Q o = none ∧ ∃ w, QP Q w v o ∧ w.length ≤ sh.length ∧ P v = tot w := by
  have hmem : ∀ v c, v ∈ o :: sh → Q v = some c → c.e ∈ o :: sh := fun v c _ h => (hN c (I.c1 v c h).2.1).2
  have hin : ∀ {w : List (Co α)} {v u : α}, QP Q w v u → v ∈ o :: sh → u ∈ o :: sh := by
    intro w
    induction w with
    | nil => intro v u h hv; have h : v = u := h; subst h; exact hv
    | cons c w ih => intro v u ⟨h1, h2⟩ hv; exact ih h2 (hmem v c hv h1)
  rcases ends Q sh.length v with ⟨w, u, h1, h2, h3⟩ | ⟨w, u, h1, h2⟩
  · have hu : u = o := by
      rcases List.mem_cons.mp (hin h1 hv) with e | hs
      · exact e
      · exact absurd h2 (I.c2 u hs)
    subst hu
    have := I.fixP F h1
    have := I.c3 h2
    exact ⟨h2, w, h1, h3, by omega⟩
  · obtain ⟨a, b, c, x, e1, hb, _, h4, _⟩ := round hmem hv h1 (by simp; omega)
    exact absurd (I.noc F h4) hb
theorem Inv.far (I : Inv ev o sh P Q R T k t dn) : ∀ (m : Nat) (v : α), m + 1 ≤ R v → ∃ w u, QP Q w v u ∧ w.length = m ∧ 1 ≤ R u
  | 0, v, h => ⟨[], v, rfl, rfl, h⟩
  | m + 1, v, h => by
    cases q : Q v with
    | none => exact absurd q (I.c5 v (by omega))
    | some c =>
      have := I.c6 v c q
      obtain ⟨w, u, h1, h2, h3⟩ := I.far m c.e (by omega)
      exact ⟨c :: w, u, ⟨q, h1⟩, by simp [h2], h3⟩
/-- y lies on just this cycle -/
structure Ring (Q : QF α) (cy : List (Co α)) (y : α) : Prop where
  at' : QP Q cy y y
  ne : cy ≠ []
  least : ∀ a, QP Q a y y → a ≠ [] → cy.length ≤ a.length
theorem least_of {P : Nat → Prop} : ∀ (k : Nat), P k → ∃ j, j ≤ k ∧ P j ∧ ∀ i, i < j → ¬ P i := by
  intro k
  induction k using Nat.strongRecOn with
  | _ k ih =>
    intro h
    by_cases q : ∃ j, j < k ∧ P j
    · obtain ⟨j, hj, pj⟩ := q
      obtain ⟨i, hi, r⟩ := ih j hj pj
      exact ⟨i, by omega, r⟩
    · exact ⟨k, Nat.le_refl _, h, fun i hi pi => q ⟨i, hi, pi⟩⟩
/-- after a change in the last pass the causes lead into a cycle -/
theorem Inv.ring (I : Inv ev o sh P Q R T k t dn) (hN : ∀ c ∈ ev, c.l ∈ o :: sh ∧ c.e ∈ o :: sh) {v : α} (hv : v ∈ o :: sh) (hr : sh.length + 2 ≤ R v) : ∃ w y cy, QP Q w v y ∧ w.length = sh.length + 1 ∧ Ring Q cy y ∧ cy.length ≤ sh.length + 1 ∧ 0 < tot cy := by
  have hmem : ∀ v c, v ∈ o :: sh → Q v = some c → c.e ∈ o :: sh := fun v c _ h => (hN c (I.c1 v c h).2.1).2
  obtain ⟨w, y, h1, h2, h3⟩ := I.far (sh.length + 1) v (by omega)
  obtain ⟨a, b, c, x, e1, hb, _, h4, h5⟩ := round hmem hv h1 (by simp; omega)
  obtain ⟨b', h6, h7⟩ := rot h4 hb h5
  have hbl : 0 < b.length := List.length_pos_iff.mpr hb
  have hwl : a.length + b.length + c.length = sh.length + 1 := by rw [← h2, e1]; simp; omega
  obtain ⟨j, hj, ⟨cy, h8, h9⟩, hmin⟩ := least_of (P := fun m => ∃ cy, QP Q cy y y ∧ cy.length = m + 1) (b.length - 1) ⟨b', h6, by omega⟩
  have hne : cy ≠ [] := by rintro rfl; simp at h9
  refine ⟨w, y, cy, h1, h2, ⟨h8, hne, fun a ha hane => ?_⟩, by omega, I.cyc h8 hne⟩
  have hal : 0 < a.length := List.length_pos_iff.mpr hane
  by_cases q : a.length - 1 < j
  · exact absurd ⟨a, ha, by omega⟩ (hmin _ q)
  · omega
/-! ### ways told forwards -/
def lk : α → List (Co α) → Prop
  | _, [] => True
  | x, c :: r => c.e = x ∧ lk c.l r
def endp : α → List (Co α) → α
  | x, [] => x
  | _, c :: r => endp c.l r
theorem endp_app : ∀ (a b : List (Co α)) (x : α), endp x (a ++ b) = endp (endp x a) b
  | [], _, _ => rfl
  | c :: a, b, x => endp_app a b c.l
theorem lk_app : ∀ (a b : List (Co α)) (x : α), lk x (a ++ b) ↔ lk x a ∧ lk (endp x a) b
  | [], _, _ => by simp [lk, endp]
  | c :: a, b, x => by simp only [List.cons_append, lk, endp, lk_app a b c.l, and_assoc]
theorem QP.fwd {Q : QF α} (hQ : ∀ v c, Q v = some c → c.l = v) : ∀ {w : List (Co α)} {v u : α}, QP Q w v u → lk u w.reverse ∧ endp u w.reverse = v
  | [], v, u, h => by
    have h : v = u := h
    subst h
    exact ⟨trivial, rfl⟩
  | c :: w, v, u, ⟨h1, h2⟩ => by
    obtain ⟨h3, h4⟩ := h2.fwd hQ
    rw [List.reverse_cons, lk_app, endp_app, h4]
    exact ⟨⟨h3, rfl, trivial⟩, hQ v c h1⟩
theorem QP.mem {Q : QF α} : ∀ {w : List (Co α)} {v u : α}, QP Q w v u → ∀ c ∈ w, ∃ x, Q x = some c
  | [], _, _, _, c, h => by simp at h
  | d :: w, v, u, ⟨h1, h2⟩, c, h => by
    rcases List.mem_cons.mp h with rfl | h
    · exact ⟨v, h1⟩
    · exact h2.mem c h
/-- where all are kept, a way's sum is at most what lies between -/
theorem fix_le (F : Fix ev P) : ∀ {p : List (Co α)} {x : α}, (∀ c ∈ p, c ∈ ev) → lk x p → P x + tot p ≤ P (endp x p)
  | [], x, _, _ => by simp [tot, endp]
  | c :: p, x, hm, ⟨h1, h2⟩ => by
    have := F c (hm c List.mem_cons_self)
    have := fix_le F (fun d hd => hm d (List.mem_cons_of_mem _ hd)) h2
    subst h1
    simp only [tot, endp]
    omega
end K48
set_option Elab.async false
set_option linter.all false
set_option maxRecDepth 100000
set_option maxHeartbeats 4000000
namespace K48
open PySem L2 FL
/-- own_constraints(axis, shapes): 0 axis, 1 shapes, 2 shape -/
noncomputable def b_own_constraints : FS :=
  (sRet (fCall bTuple (faCons (fLc (iSeqF (fVar 1)) (.one 2) ttYes (fTup (faCons (fVar 0) (faCons (fVar 2) (faCons (fK (.str "")) (faCons (fK (.int 0)) (faCons (fK (.str "")) faNil))))))) faNil)))
noncomputable def d_own_constraints : List G → Sto → Option (G × Sto) := callG 2 3 b_own_constraints
/-- make_pass(constraints, places, causes): 0 constraints, 1 places, 2 causes, 3 last, 4 constraint, 5 later, 6 least -/
noncomputable def b_make_pass : FS :=
  (sSeq (sSet 3 (fK .non))
  (sSeq (sFor (iSeqF (fVar 0)) (.one 4)
  (sSeq (sSet 5 (fOp opIx (fVar 4) (fK (.int 1))))
  (sSeq (sSet 6 (fOp opAdd (fOp opIx (fVar 1) (fOp opIx (fVar 4) (fK (.int 2)))) (fOp opIx (fVar 4) (fK (.int 3)))))
  (sIf (ttB (fOp opLt (fOp opIx (fVar 1) (fVar 5)) (fVar 6)))
  (sSeq (sPut (fVar 1) (fVar 5) (fVar 6))
  (sSeq (sPut (fVar 2) (fVar 5) (fVar 4))
  (sSet 3 (fVar 5))))
  sNil))))
  (sRet (fVar 3))))
noncomputable def d_make_pass : List G → Sto → Option (G × Sto) := callG 3 7 b_make_pass
def fuel_chain_of : Nat := 100000
/-- chain_of(causes, shape): 0 causes, 1 shape, 2 chain, 3 at -/
noncomputable def b_chain_of : FS :=
  (sSeq (sSet 2 (fLst faNil))
  (sSeq (sSet 3 (fVar 1))
  (sSeq (sWhile fuel_chain_of (ttB (fOp opNe (fVar 3) (fK (.str ""))))
  (sSeq (sExpr (fApp (fVar 2) (fOp opIx (fVar 0) (fVar 3))))
  (sSet 3 (fOp opIx (fOp opIx (fVar 0) (fVar 3)) (fK (.int 2))))))
  (sRet (fCall bTuple (faCons (fRev (fVar 2)) faNil))))))
noncomputable def d_chain_of : List G → Sto → Option (G × Sto) := callG 2 4 b_chain_of
def fuel_cycle_of : Nat := 100000
/-- cycle_of(causes, start, steps): 0 causes, 1 start, 2 steps, 3 node, 4 _, 5 cycle, 6 at -/
noncomputable def b_cycle_of : FS :=
  (sSeq (sSet 3 (fVar 1))
  (sSeq (sFor (iRng1F (faCons (fVar 2) faNil)) (.one 4)
  (sSet 3 (fOp opIx (fOp opIx (fVar 0) (fVar 3)) (fK (.int 2)))))
  (sSeq (sSet 5 (fLst (faCons (fOp opIx (fVar 0) (fVar 3)) faNil)))
  (sSeq (sSet 6 (fOp opIx (fOp opIx (fVar 0) (fVar 3)) (fK (.int 2))))
  (sSeq (sWhile fuel_cycle_of (ttB (fOp opNe (fVar 6) (fVar 3)))
  (sSeq (sExpr (fApp (fVar 5) (fOp opIx (fVar 0) (fVar 6))))
  (sSet 6 (fOp opIx (fOp opIx (fVar 0) (fVar 6)) (fK (.int 2))))))
  (sRet (fCall bTuple (faCons (fRev (fVar 5)) faNil))))))))
noncomputable def d_cycle_of : List G → Sto → Option (G × Sto) := callG 3 7 b_cycle_of
/-- is_whole(value): 0 value -/
noncomputable def b_is_whole : FS :=
  (sRet (fAnd (fUn (isiG .int) (fVar 0)) (fNot (fUn (isiG .bool) (fVar 0)))))
noncomputable def d_is_whole : List G → Sto → Option (G × Sto) := callG 1 1 b_is_whole
/-- _law_jar(script): 0 script, 1 rows, 2 k, 3 cell, 4 step, 5 mixed -/
noncomputable def b__law_jar : FS :=
  (sSeq (sSet 1 (fLst faNil))
  (sSeq (sFor (iRng1F (faCons (fCall bMin (faCons (fCall bLen (faCons (fVar 0) faNil)) (faCons (fK (.int 63)) faNil))) faNil)) (.one 2)
  (sSeq (sSet 3 (fCall bInt (faCons (fOp opIx (fVar 0) (fVar 2)) faNil)))
  (sSeq (sIf (ttB (fOp opLt (fVar 3) (fK (.int 0))))
  (sSet 3 (fUn opNeg (fVar 3)))
  sNil)
  (sIf (ttB (fOp opGe (fVar 3) (fOp opPow (fK (.int 10)) (fK (.int 18)))))
  (sFor (iRng1F (faCons (fK (.int 40)) faNil)) (.one 4)
  (sIf (ttB (fOp opGt (fVar 3) (fK (.int 0))))
  (sSeq (sExpr (fApp (fVar 1) (fOp opMod (fCall bInt (faCons (fVar 3) faNil)) (fK (.int 1009)))))
  (sSet 3 (fOp opDiv (fVar 3) (fK (.int 1009)))))
  sNil))
  (sSeq (sSet 5 (fOp opMod (fCall bInt (faCons (fOp opAdd (fOp opAdd (fOp opMul (fVar 3) (fK (.int 48271))) (fOp opMul (fVar 2) (fK (.int 69621)))) (fK (.int 11))) faNil)) (fK (.int 999983))))
  (sSeq (sExpr (fApp (fVar 1) (fVar 5)))
  (sExpr (fApp (fVar 1) (fOp opMod (fCall bInt (faCons (fOp opAdd (fOp opAdd (fOp opMul (fVar 5) (fK (.int 1103))) (fOp opMul (fVar 2) (fK (.int 7919)))) (fK (.int 5))) faNil)) (fK (.int 99991)))))))))))
  (sRet (fLst (faCons (fVar 1) (faCons (fK (.int 0)) faNil))))))
noncomputable def d__law_jar : List G → Sto → Option (G × Sto) := callG 1 6 b__law_jar
/-- _law_take(jar, many): 0 jar, 1 many, 2 at, 3 rows, 4 mixed -/
noncomputable def b__law_take : FS :=
  (sSeq (sSet 2 (fOp opIx (fVar 0) (fK (.int 1))))
  (sSeq (sPut (fVar 0) (fK (.int 1)) (fOp opAdd (fVar 2) (fK (.int 1))))
  (sSeq (sSet 3 (fOp opIx (fVar 0) (fK (.int 0))))
  (sSeq (sIf (ttB (fOp opLt (fVar 2) (fCall bLen (faCons (fVar 3) faNil))))
  (sRet (fOp opMod (fCall bInt (faCons (fOp opIx (fVar 3) (fVar 2)) faNil)) (fVar 1)))
  sNil)
  (sSeq (sSet 4 (fOp opMod (fCall bInt (faCons (fOp opAdd (fOp opAdd (fOp opMul (fVar 2) (fK (.int 7919))) (fOp opMul (fCall bLen (faCons (fVar 3) faNil)) (fK (.int 104729)))) (fK (.int 17))) faNil)) (fK (.int 999983))))
  (sSeq (sIf (ttB (fOp opGt (fCall bLen (faCons (fVar 3) faNil)) (fK (.int 0))))
  (sSet 4 (fOp opMod (fCall bInt (faCons (fOp opAdd (fVar 4) (fOp opMul (fOp opIx (fVar 3) (fOp opSub (fVar 2) (fOp opMul (fOp opDiv (fVar 2) (fCall bLen (faCons (fVar 3) faNil))) (fCall bLen (faCons (fVar 3) faNil))))) (fOp opAdd (fOp opDiv (fVar 2) (fCall bLen (faCons (fVar 3) faNil))) (fK (.int 3))))) faNil)) (fK (.int 999983))))
  sNil)
  (sRet (fOp opMod (fCall bInt (faCons (fOp opDiv (fOp opMod (fCall bInt (faCons (fOp opMul (fVar 4) (fK (.int 48271))) faNil)) (fK (.int 999983))) (fK (.int 7))) faNil)) (fVar 1)))))))))
noncomputable def d__law_take : List G → Sto → Option (G × Sto) := callG 2 5 b__law_take
/-- _law_every(axis, shapes, constraints): 0 axis, 1 shapes, 2 constraints, 3 shape -/
noncomputable def b__law_every : FS :=
  (sRet (fOp opAdd (fLc (iSeqF (fVar 1)) (.one 3) ttYes (fTup (faCons (fVar 0) (faCons (fVar 3) (faCons (fK (.str "")) (faCons (fK (.int 0)) (faCons (fK (.str "")) faNil))))))) (fCall bList (faCons (fVar 2) faNil))))
noncomputable def d__law_every : List G → Sto → Option (G × Sto) := callG 3 4 b__law_every
/-- _law_chain(causes, shape): 0 causes, 1 shape, 2 chain, 3 at, 4 step -/
noncomputable def b__law_chain : FS :=
  (sSeq (sSet 2 (fLst faNil))
  (sSeq (sSet 3 (fVar 1))
  (sSeq (sFor (iRng1F (faCons (fOp opAdd (fCall bLen (faCons (fVar 0) faNil)) (fK (.int 1))) faNil)) (.one 4)
  (sIf (ttB (fOp opNe (fVar 3) (fK (.str ""))))
  (sSeq (sSet 2 (fOp opAdd (fLst (faCons (fOp opIx (fVar 0) (fVar 3)) faNil)) (fVar 2)))
  (sSet 3 (fOp opIx (fOp opIx (fVar 0) (fVar 3)) (fK (.int 2)))))
  sNil))
  (sRet (fCall bTuple (faCons (fVar 2) faNil))))))
noncomputable def d__law_chain : List G → Sto → Option (G × Sto) := callG 2 5 b__law_chain
/-- all_constraints(axis, shapes, constraints): 0 axis, 1 shapes, 2 constraints -/
noncomputable def b_all_constraints : FS :=
  (sRet (fOp opAdd (fCall d_own_constraints (faCons (fVar 0) (faCons (fVar 1) faNil))) (fCall bTuple (faCons (fVar 2) faNil))))
noncomputable def d_all_constraints : List G → Sto → Option (G × Sto) := callG 3 3 b_all_constraints
/-- is_among(value, constraints): 0 value, 1 constraints -/
noncomputable def b_is_among : FS :=
  (sSeq (sIf (ttOr (ttNot (ttV (fUn (isiG .tuple) (fVar 0)))) (ttOr (ttB (fOp opNe (fCall bLen (faCons (fVar 0) faNil)) (fK (.int 5)))) (ttNot (ttV (fCall d_is_whole (faCons (fOp opIx (fVar 0) (fK (.int 3))) faNil))))))
  (sRet (fK (.bl false)))
  sNil)
  (sRet (fOp opIn (fVar 0) (fVar 1))))
noncomputable def d_is_among : List G → Sto → Option (G × Sto) := callG 2 2 b_is_among
/-- _law_name(jar, taken): 0 jar, 1 taken, 2 letters, 3 signs, 4 text, 5 k -/
noncomputable def b__law_name : FS :=
  (sSeq (sSet 2 (fK (.str "abcdefghijklmnopqrstuvwxyz")))
  (sSeq (sSet 3 (fOp opAdd (fVar 2) (fK (.str "0123456789"))))
  (sSeq (sSet 4 (fOp opIx (fVar 2) (fCall d__law_take (faCons (fVar 0) (faCons (fK (.int 26)) faNil)))))
  (sSeq (sFor (iRng1F (faCons (fOp opMul (fCall d__law_take (faCons (fVar 0) (faCons (fK (.int 4)) faNil))) (fOp opAdd (fK (.int 1)) (fCall d__law_take (faCons (fVar 0) (faCons (fK (.int 3)) faNil))))) faNil)) (.one 5)
  (sSet 4 (fOp opAdd (fVar 4) (fOp opIx (fVar 3) (fCall d__law_take (faCons (fVar 0) (faCons (fK (.int 36)) faNil)))))))
  (sSeq (sSet 4 (fSl (fVar 4) foNone (foSome (fK (.int 8)))))
  (sSeq (sFor (iRng1F (faCons (fK (.int 60)) faNil)) (.one 5)
  (sIf (ttB (fOp opIn (fVar 4) (fVar 1)))
  (sSet 4 (fOp opAdd (fOp opAdd (fSl (fVar 4) foNone (foSome (fK (.int 6)))) (fK (.str "x"))) (fCall bStr (faCons (fVar 5) faNil))))
  sNil))
  (sSeq (sExpr (fApp (fVar 1) (fVar 4)))
  (sRet (fVar 4)))))))))
noncomputable def d__law_name : List G → Sto → Option (G × Sto) := callG 2 6 b__law_name
/-- _law_constraints(jar, axis, shapes, many): 0 jar, 1 axis, 2 shapes, 3 many, 4 found, 5 small, 6 k, 7 later, 8 earlier, 9 gap, 10 names, 11 constraint -/
noncomputable def b__law_constraints : FS :=
  (sSeq (sSet 4 (fLst faNil))
  (sSeq (sSet 5 (fOp opGt (fCall d__law_take (faCons (fVar 0) (faCons (fK (.int 3)) faNil))) (fK (.int 0))))
  (sSeq (sFor (iRng1F (faCons (fVar 3) faNil)) (.one 6)
  (sSeq (sSet 7 (fCall d__law_take (faCons (fVar 0) (faCons (fOp opAdd (fCall bLen (faCons (fVar 2) faNil)) (fK (.int 1))) faNil))))
  (sSeq (sSet 8 (fCall d__law_take (faCons (fVar 0) (faCons (fOp opAdd (fCall bLen (faCons (fVar 2) faNil)) (fK (.int 1))) faNil))))
  (sSeq (sIf (ttAnd (ttB (fOp opEq (fVar 7) (fVar 8))) (ttB (fOp opEq (fVar 7) (fCall bLen (faCons (fVar 2) faNil)))))
  (sSet 8 (fK (.int 0)))
  sNil)
  (sSeq (sSet 9 (fOp opSub (fCall d__law_take (faCons (fVar 0) (faCons (fK (.int 9)) faNil))) (fK (.int 3))))
  (sSeq (sIf (ttB (fOp opEq (fCall d__law_take (faCons (fVar 0) (faCons (fK (.int 10)) faNil))) (fK (.int 0))))
  (sSet 9 (fOp opIx (fLst (faCons (fUn opNeg (fK (.int 200))) (faCons (fK (.int 260)) (faCons (fK (.int 200)) (faCons (fUn opNeg (fK (.int 1))) (faCons (fK (.int 0)) faNil)))))) (fCall d__law_take (faCons (fVar 0) (faCons (fK (.int 5)) faNil)))))
  sNil)
  (sSeq (sIf (ttAnd (ttV (fVar 5)) (ttAnd (ttB (fOp opLt (fVar 7) (fVar 8))) (ttB (fOp opLt (fVar 7) (fCall bLen (faCons (fVar 2) faNil))))))
  (sPar 7 8 (fVar 8) (fVar 7))
  sNil)
  (sSeq (sIf (ttAnd (ttV (fVar 5)) (ttB (fOp opEq (fVar 7) (fVar 8))))
  (sSet 9 (fOp opSub (fK (.int 0)) (fCall bAbs (faCons (fVar 9) faNil))))
  sNil)
  (sSeq (sIf (ttAnd (ttB (fOp opEq (fVar 7) (fCall bLen (faCons (fVar 2) faNil)))) (ttB (fOp opGt (fCall d__law_take (faCons (fVar 0) (faCons (fK (.int 3)) faNil))) (fK (.int 0)))))
  (sSet 9 (fOp opSub (fVar 9) (fK (.int 300))))
  sNil)
  (sSeq (sSet 10 (fOp opAdd (fCall bList (faCons (fVar 2) faNil)) (fLst (faCons (fK (.str "")) faNil))))
  (sSeq (sSet 11 (fTup (faCons (fVar 1) (faCons (fOp opIx (fVar 10) (fVar 7)) (faCons (fOp opIx (fVar 10) (fVar 8)) (faCons (fVar 9) (faCons (fOp opAdd (fK (.str "zz.")) (fCall bStr (faCons (fOp opAdd (fVar 6) (fK (.int 1))) faNil))) faNil)))))))
  (sSeq (sIf (ttAnd (ttB (fOp opGt (fCall bLen (faCons (fVar 4) faNil)) (fK (.int 0)))) (ttB (fOp opEq (fCall d__law_take (faCons (fVar 0) (faCons (fK (.int 9)) faNil))) (fK (.int 0)))))
  (sSet 11 (fOp opIx (fVar 4) (fCall d__law_take (faCons (fVar 0) (faCons (fCall bLen (faCons (fVar 4) faNil)) faNil)))))
  sNil)
  (sSeq (sExpr (fApp (fVar 4) (fVar 11)))
  (sIf (ttAnd (ttB (fOp opLt (fCall bLen (faCons (fVar 4) faNil)) (fK (.int 200)))) (ttB (fOp opEq (fCall d__law_take (faCons (fVar 0) (faCons (fK (.int 6)) faNil))) (fK (.int 0)))))
  (sExpr (fApp (fVar 4) (fTup (faCons (fVar 1) (faCons (fOp opIx (fVar 11) (fK (.int 2))) (faCons (fOp opIx (fVar 11) (fK (.int 1))) (faCons (fUn opNeg (fOp opIx (fVar 11) (fK (.int 3)))) (faCons (fOp opAdd (fK (.str "zz.")) (fCall bStr (faCons (fOp opAdd (fVar 6) (fK (.int 301))) faNil))) faNil))))))))
  sNil))))))))))))))
  (sSeq (sIf (ttB (fOp opEq (fCall d__law_take (faCons (fVar 0) (faCons (fK (.int 2)) faNil))) (fK (.int 0))))
  (sSet 4 (fRev (fVar 4)))
  sNil)
  (sRet (fCall bTuple (faCons (fVar 4) faNil)))))))
noncomputable def d__law_constraints : List G → Sto → Option (G × Sto) := callG 4 12 b__law_constraints
/-- _law_due(axis, shapes, constraints): 0 axis, 1 shapes, 2 constraints, 3 places, 4 causes, 5 shape, 6 last, 7 turn, 8 constraint, 9 least, 10 chains, 11 node, 12 step, 13 cycle -/
noncomputable def b__law_due : FS :=
  (sSeq (sSet 3 (fDisp [((fK (.str "")), (fK (.int 0)))]))
  (sSeq (sSet 4 fDic0)
  (sSeq (sFor (iSeqF (fVar 1)) (.one 5)
  (sSeq (sPut (fVar 3) (fVar 5) (fK (.int 0)))
  (sPut (fVar 4) (fVar 5) (fTup (faCons (fVar 0) (faCons (fVar 5) (faCons (fK (.str "")) (faCons (fK (.int 0)) (faCons (fK (.str "")) faNil)))))))))
  (sSeq (sSet 6 (fK (.str "")))
  (sSeq (sFor (iRng1F (faCons (fOp opAdd (fCall bLen (faCons (fVar 1) faNil)) (fK (.int 2))) faNil)) (.one 7)
  (sSeq (sSet 6 (fK .non))
  (sSeq (sFor (iSeqF (fCall d__law_every (faCons (fVar 0) (faCons (fVar 1) (faCons (fVar 2) faNil))))) (.one 8)
  (sSeq (sSet 9 (fOp opAdd (fOp opIx (fVar 3) (fOp opIx (fVar 8) (fK (.int 2)))) (fOp opIx (fVar 8) (fK (.int 3)))))
  (sIf (ttB (fOp opLt (fOp opIx (fVar 3) (fOp opIx (fVar 8) (fK (.int 1)))) (fVar 9)))
  (sSeq (sPut (fVar 3) (fOp opIx (fVar 8) (fK (.int 1))) (fVar 9))
  (sSeq (sPut (fVar 4) (fOp opIx (fVar 8) (fK (.int 1))) (fVar 8))
  (sSet 6 (fOp opIx (fVar 8) (fK (.int 1))))))
  sNil)))
  (sIf (ttB (fOp opIs (fVar 6) (fK .non)))
  (sSeq (sSet 10 (fLc (iSeqF (fVar 1)) (.one 5) ttYes (fCall d__law_chain (faCons (fVar 4) (faCons (fVar 5) faNil)))))
  (sRet (fTup (faCons (fK (.str "places")) (faCons (fCall bTuple (faCons (fLc (iSeqF (fVar 1)) (.one 5) ttYes (fOp opIx (fVar 3) (fVar 5))) faNil)) (faCons (fCall bTuple (faCons (fVar 10) faNil)) faNil))))))
  sNil))))
  (sSeq (sSet 11 (fVar 6))
  (sSeq (sFor (iRng1F (faCons (fOp opAdd (fCall bLen (faCons (fVar 1) faNil)) (fK (.int 1))) faNil)) (.one 12)
  (sSet 11 (fOp opIx (fOp opIx (fVar 4) (fVar 11)) (fK (.int 2)))))
  (sSeq (sSet 13 (fLst (faCons (fOp opIx (fVar 4) (fVar 11)) faNil)))
  (sSeq (sFor (iRng1F (faCons (fOp opAdd (fCall bLen (faCons (fVar 1) faNil)) (fK (.int 1))) faNil)) (.one 12)
  (sIf (ttB (fOp opNe (fOp opIx (fOp opIx (fVar 13) (fK (.int 0))) (fK (.int 2))) (fVar 11)))
  (sSet 13 (fOp opAdd (fLst (faCons (fOp opIx (fVar 4) (fOp opIx (fOp opIx (fVar 13) (fK (.int 0))) (fK (.int 2)))) faNil)) (fVar 13)))
  sNil))
  (sRet (fTup (faCons (fK (.str "cycle")) (faCons (fCall bTuple (faCons (fVar 13) faNil)) faNil)))))))))))))
noncomputable def d__law_due : List G → Sto → Option (G × Sto) := callG 3 14 b__law_due
/-- _law_keeps(axis, shapes, constraints, places): 0 axis, 1 shapes, 2 constraints, 3 places, 4 known, 5 k, 6 constraint -/
noncomputable def b__law_keeps : FS :=
  (sSeq (sSet 4 (fDisp [((fK (.str "")), (fK (.int 0)))]))
  (sSeq (sFor (iRng1F (faCons (fCall bLen (faCons (fVar 1) faNil)) faNil)) (.one 5)
  (sPut (fVar 4) (fOp opIx (fVar 1) (fVar 5)) (fOp opIx (fVar 3) (fVar 5))))
  (sSeq (sFor (iSeqF (fCall d__law_every (faCons (fVar 0) (faCons (fVar 1) (faCons (fVar 2) faNil))))) (.one 6)
  (sIf (ttB (fOp opLt (fOp opIx (fVar 4) (fOp opIx (fVar 6) (fK (.int 1)))) (fOp opAdd (fOp opIx (fVar 4) (fOp opIx (fVar 6) (fK (.int 2)))) (fOp opIx (fVar 6) (fK (.int 3))))))
  (sRet (fK (.bl false)))
  sNil))
  (sRet (fK (.bl true))))))
noncomputable def d__law_keeps : List G → Sto → Option (G × Sto) := callG 4 7 b__law_keeps
/-- _law_walk(axis, shapes, constraints, path): 0 axis, 1 shapes, 2 constraints, 3 path, 4 every, 5 total, 6 k -/
noncomputable def b__law_walk : FS :=
  (sSeq (sSet 4 (fCall d__law_every (faCons (fVar 0) (faCons (fVar 1) (faCons (fVar 2) faNil)))))
  (sSeq (sSet 5 (fK (.int 0)))
  (sSeq (sFor (iRng1F (faCons (fCall bLen (faCons (fVar 3) faNil)) faNil)) (.one 6)
  (sSeq (sIf (ttOr (ttB (fOp opNotIn (fOp opIx (fVar 3) (fVar 6)) (fVar 4))) (ttAnd (ttB (fOp opGt (fVar 6) (fK (.int 0)))) (ttB (fOp opNe (fOp opIx (fOp opIx (fVar 3) (fVar 6)) (fK (.int 2))) (fOp opIx (fOp opIx (fVar 3) (fOp opSub (fVar 6) (fK (.int 1)))) (fK (.int 1)))))))
  (sRet (fK .non))
  sNil)
  (sSet 5 (fOp opAdd (fVar 5) (fOp opIx (fOp opIx (fVar 3) (fVar 6)) (fK (.int 3)))))))
  (sSeq (sIf (ttB (fOp opEq (fCall bLen (faCons (fVar 3) faNil)) (fK (.int 0))))
  (sRet (fK .non))
  sNil)
  (sRet (fTup (faCons (fOp opIx (fOp opIx (fVar 3) (fK (.int 0))) (fK (.int 2))) (faCons (fOp opIx (fOp opIx (fVar 3) (fUn opNeg (fK (.int 1)))) (fK (.int 1))) (faCons (fVar 5) faNil)))))))))
noncomputable def d__law_walk : List G → Sto → Option (G × Sto) := callG 4 7 b__law_walk
/-- _law_near(jar, axis, shapes, constraints, path): 0 jar, 1 axis, 2 shapes, 3 constraints, 4 path, 5 at, 6 every, 7 one, 8 later, 9 earlier, 10 gap, 11 line_id, 12 other, 13 changed, 14 pick -/
noncomputable def b__law_near : FS :=
  (sSeq (sSet 5 (fCall d__law_take (faCons (fVar 0) (faCons (fCall bLen (faCons (fVar 4) faNil)) faNil))))
  (sSeq (sSet 6 (fCall d__law_every (faCons (fVar 1) (faCons (fVar 2) (faCons (fVar 3) faNil)))))
  (sSeq (sUnp [7, 8, 9, 10, 11] (fOp opIx (fVar 4) (fVar 5)))
  (sSeq (sSet 12 (fOp opIx (fVar 6) (fCall d__law_take (faCons (fVar 0) (faCons (fCall bLen (faCons (fVar 6) faNil)) faNil)))))
  (sSeq (sSet 13 (fLst (faCons (fTup (faCons (fVar 7) (faCons (fVar 8) (faCons (fVar 9) (faCons (fOp opAdd (fVar 10) (fK (.int 1))) (faCons (fVar 11) faNil)))))) (faCons (fTup (faCons (fVar 7) (faCons (fVar 9) (faCons (fVar 8) (faCons (fVar 10) (faCons (fVar 11) faNil)))))) (faCons (fVar 12) (faCons (fTup (faCons (fVar 7) (faCons (fVar 8) (faCons (fVar 9) (faCons (fVar 10) (faCons (fK (.str "zz.999")) faNil)))))) faNil))))))
  (sSeq (sSet 14 (fCall d__law_take (faCons (fVar 0) (faCons (fK (.int 8)) faNil))))
  (sSeq (sIf (ttB (fOp opLt (fVar 14) (fK (.int 4))))
  (sRet (fOp opAdd (fOp opAdd (fSl (fVar 4) foNone (foSome (fVar 5))) (fTup (faCons (fOp opIx (fVar 13) (fVar 14)) faNil))) (fSl (fVar 4) (foSome (fOp opAdd (fVar 5) (fK (.int 1)))) foNone)))
  sNil)
  (sSeq (sIf (ttB (fOp opEq (fVar 14) (fK (.int 4))))
  (sRet (fOp opAdd (fSl (fVar 4) foNone (foSome (fVar 5))) (fSl (fVar 4) (foSome (fOp opAdd (fVar 5) (fK (.int 1)))) foNone)))
  sNil)
  (sSeq (sIf (ttB (fOp opEq (fVar 14) (fK (.int 5))))
  (sRet (fOp opAdd (fVar 4) (fTup (faCons (fVar 12) faNil))))
  sNil)
  (sSeq (sIf (ttB (fOp opEq (fVar 14) (fK (.int 6))))
  (sRet (fOp opAdd (fSl (fVar 4) (foSome (fVar 5)) foNone) (fSl (fVar 4) foNone (foSome (fVar 5)))))
  sNil)
  (sRet (fOp opAdd (fOp opAdd (fSl (fVar 4) foNone (foSome (fVar 5))) (fTup (faCons (fVar 12) faNil))) (fSl (fVar 4) (foSome (fVar 5)) foNone)))))))))))))
noncomputable def d__law_near : List G → Sto → Option (G × Sto) := callG 5 15 b__law_near
/-- _law_wrong(jar, path): 0 jar, 1 path, 2 at, 3 one, 4 later, 5 earlier, 6 gap, 7 line_id, 8 other, 9 wrong -/
noncomputable def b__law_wrong : FS :=
  (sSeq (sSet 2 (fCall d__law_take (faCons (fVar 0) (faCons (fCall bLen (faCons (fVar 1) faNil)) faNil))))
  (sSeq (sUnp [3, 4, 5, 6, 7] (fOp opIx (fVar 1) (fVar 2)))
  (sSeq (sSet 8 (fOp opAdd (fOp opAdd (fSl (fVar 1) foNone (foSome (fVar 2))) (fTup (faCons (fTup (faCons (fVar 3) (faCons (fVar 4) (faCons (fVar 5) (faCons (fOp opEq (fVar 6) (fK (.int 1))) (faCons (fVar 7) faNil)))))) faNil))) (fSl (fVar 1) (foSome (fOp opAdd (fVar 2) (fK (.int 1)))) foNone)))
  (sSeq (sSet 9 (fLst (faCons (fCall bList (faCons (fVar 1) faNil)) (faCons (fK .non) (faCons (fK (.int 5)) (faCons (fK (.str "")) (faCons (fVar 8) (faCons (fOp opAdd (fOp opAdd (fSl (fVar 1) foNone (foSome (fVar 2))) (fTup (faCons (fK .non) faNil))) (fSl (fVar 1) (foSome (fOp opAdd (fVar 2) (fK (.int 1)))) foNone)) (faCons (fOp opAdd (fOp opAdd (fSl (fVar 1) foNone (foSome (fVar 2))) (fTup (faCons (fSl (fOp opIx (fVar 1) (fVar 2)) foNone (foSome (fK (.int 4)))) faNil))) (fSl (fVar 1) (foSome (fOp opAdd (fVar 2) (fK (.int 1)))) foNone)) faNil)))))))))
  (sRet (fOp opIx (fVar 9) (fCall d__law_take (faCons (fVar 0) (faCons (fK (.int 7)) faNil)))))))))
noncomputable def d__law_wrong : List G → Sto → Option (G × Sto) := callG 2 10 b__law_wrong
def fuel_place_axis : Nat := 100000
/-- place_axis(axis, shapes, constraints): 0 axis, 1 shapes, 2 constraints, 3 places, 4 causes, 5 constraint, 6 every, 7 last, 8 passes, 9 chains, 10 shape -/
noncomputable def b_place_axis : FS :=
  (sSeq (sSet 3 (fDisp [((fK (.str "")), (fK (.int 0)))]))
  (sSeq (sSet 4 fDic0)
  (sSeq (sFor (iSeqF (fCall d_own_constraints (faCons (fVar 0) (faCons (fVar 1) faNil)))) (.one 5)
  (sSeq (sPut (fVar 3) (fOp opIx (fVar 5) (fK (.int 1))) (fK (.int 0)))
  (sPut (fVar 4) (fOp opIx (fVar 5) (fK (.int 1))) (fVar 5))))
  (sSeq (sSet 6 (fCall d_all_constraints (faCons (fVar 0) (faCons (fVar 1) (faCons (fVar 2) faNil)))))
  (sSeq (sSet 7 (fK (.str "")))
  (sSeq (sSet 8 (fK (.int 0)))
  (sSeq (sWhile fuel_place_axis (ttAnd (ttB (fOp opIsNot (fVar 7) (fK .non))) (ttB (fOp opLt (fVar 8) (fOp opAdd (fCall bLen (faCons (fVar 1) faNil)) (fK (.int 2))))))
  (sSeq (sSet 7 (fCall d_make_pass (faCons (fVar 6) (faCons (fVar 3) (faCons (fVar 4) faNil)))))
  (sAug 8 augAdd (fK (.int 1)))))
  (sSeq (sIf (ttB (fOp opIsNot (fVar 7) (fK .non)))
  (sRet (fTup (faCons (fK (.str "cycle")) (faCons (fCall d_cycle_of (faCons (fVar 4) (faCons (fVar 7) (faCons (fOp opAdd (fCall bLen (faCons (fVar 1) faNil)) (fK (.int 1))) faNil)))) faNil))))
  sNil)
  (sSeq (sSet 9 (fCall bTuple (faCons (fLc (iSeqF (fVar 1)) (.one 10) ttYes (fCall d_chain_of (faCons (fVar 4) (faCons (fVar 10) faNil)))) faNil)))
  (sRet (fTup (faCons (fK (.str "places")) (faCons (fCall bTuple (faCons (fLc (iSeqF (fVar 1)) (.one 10) ttYes (fOp opIx (fVar 3) (fVar 10))) faNil)) (faCons (fVar 9) faNil))))))))))))))
noncomputable def d_place_axis : List G → Sto → Option (G × Sto) := callG 3 11 b_place_axis
/-- are_among(values, constraints): 0 values, 1 constraints, 2 value -/
noncomputable def b_are_among : FS :=
  (sSeq (sIf (ttNot (ttV (fUn (isiG .tuple) (fVar 0))))
  (sRet (fK (.bl false)))
  sNil)
  (sSeq (sFor (iSeqF (fVar 0)) (.one 2)
  (sIf (ttNot (ttV (fCall d_is_among (faCons (fVar 2) (faCons (fVar 1) faNil)))))
  (sRet (fK (.bl false)))
  sNil))
  (sRet (fK (.bl true)))))
noncomputable def d_are_among : List G → Sto → Option (G × Sto) := callG 2 3 b_are_among
/-- is_places(axis, shapes, constraints, places): 0 axis, 1 shapes, 2 constraints, 3 places, 4 known, 5 k, 6 _, 7 later, 8 earlier, 9 gap -/
noncomputable def b_is_places : FS :=
  (sSeq (sIf (ttOr (ttNot (ttV (fUn (isiG .tuple) (fVar 3)))) (ttB (fOp opNe (fCall bLen (faCons (fVar 3) faNil)) (fCall bLen (faCons (fVar 1) faNil)))))
  (sRet (fK (.bl false)))
  sNil)
  (sSeq (sSet 4 (fDisp [((fK (.str "")), (fK (.int 0)))]))
  (sSeq (sFor (iRng1F (faCons (fCall bLen (faCons (fVar 1) faNil)) faNil)) (.one 5)
  (sSeq (sIf (ttNot (ttV (fCall d_is_whole (faCons (fOp opIx (fVar 3) (fVar 5)) faNil))))
  (sRet (fK (.bl false)))
  sNil)
  (sPut (fVar 4) (fOp opIx (fVar 1) (fVar 5)) (fOp opIx (fVar 3) (fVar 5)))))
  (sSeq (sFor (iSeqF (fCall d_all_constraints (faCons (fVar 0) (faCons (fVar 1) (faCons (fVar 2) faNil))))) (.many [6, 7, 8, 9, 6])
  (sIf (ttB (fOp opLt (fOp opIx (fVar 4) (fVar 7)) (fOp opAdd (fOp opIx (fVar 4) (fVar 8)) (fVar 9))))
  (sRet (fK (.bl false)))
  sNil))
  (sRet (fK (.bl true)))))))
noncomputable def d_is_places : List G → Sto → Option (G × Sto) := callG 4 10 b_is_places
/-- is_chain(axis, shapes, constraints, shape, place, chain): 0 axis, 1 shapes, 2 constraints, 3 shape, 4 place, 5 chain, 6 at, 7 total, 8 _, 9 later, 10 earlier, 11 gap -/
noncomputable def b_is_chain : FS :=
  (sSeq (sIf (ttNot (ttV (fCall d_are_among (faCons (fVar 5) (faCons (fCall d_all_constraints (faCons (fVar 0) (faCons (fVar 1) (faCons (fVar 2) faNil)))) faNil)))))
  (sRet (fK (.bl false)))
  sNil)
  (sSeq (sSet 6 (fK (.str "")))
  (sSeq (sSet 7 (fK (.int 0)))
  (sSeq (sFor (iSeqF (fVar 5)) (.many [8, 9, 10, 11, 8])
  (sSeq (sIf (ttB (fOp opNe (fVar 10) (fVar 6)))
  (sRet (fK (.bl false)))
  sNil)
  (sSeq (sSet 6 (fVar 9))
  (sAug 7 augAdd (fVar 11)))))
  (sRet (fAnd (fOp opEq (fVar 6) (fVar 3)) (fOp opEq (fVar 7) (fVar 4))))))))
noncomputable def d_is_chain : List G → Sto → Option (G × Sto) := callG 6 12 b_is_chain
/-- is_cycle(axis, shapes, constraints, cycle): 0 axis, 1 shapes, 2 constraints, 3 cycle, 4 at, 5 total, 6 _, 7 later, 8 earlier, 9 gap -/
noncomputable def b_is_cycle : FS :=
  (sSeq (sIf (ttOr (ttNot (ttV (fCall d_are_among (faCons (fVar 3) (faCons (fCall d_all_constraints (faCons (fVar 0) (faCons (fVar 1) (faCons (fVar 2) faNil)))) faNil))))) (ttB (fOp opEq (fCall bLen (faCons (fVar 3) faNil)) (fK (.int 0)))))
  (sRet (fK (.bl false)))
  sNil)
  (sSeq (sSet 4 (fOp opIx (fOp opIx (fVar 3) (fK (.int 0))) (fK (.int 2))))
  (sSeq (sSet 5 (fK (.int 0)))
  (sSeq (sFor (iSeqF (fVar 3)) (.many [6, 7, 8, 9, 6])
  (sSeq (sIf (ttB (fOp opNe (fVar 8) (fVar 4)))
  (sRet (fK (.bl false)))
  sNil)
  (sSeq (sSet 4 (fVar 7))
  (sAug 5 augAdd (fVar 9)))))
  (sRet (fAnd (fOp opEq (fVar 4) (fOp opIx (fOp opIx (fVar 3) (fK (.int 0))) (fK (.int 2)))) (fOp opGt (fVar 5) (fK (.int 0)))))))))
noncomputable def d_is_cycle : List G → Sto → Option (G × Sto) := callG 4 10 b_is_cycle
/-- _law_same(one, two): 0 one, 1 two, 2 k -/
noncomputable def b__law_same (self : List G → Sto → Option (G × Sto)) : FS :=
  (sSeq (sIf (ttV (fUn (isiG .tuple) (fVar 1)))
  (sSeq (sIf (ttOr (ttNot (ttV (fUn (isiG .tuple) (fVar 0)))) (ttB (fOp opNe (fCall bLen (faCons (fVar 0) faNil)) (fCall bLen (faCons (fVar 1) faNil)))))
  (sRet (fK (.bl false)))
  sNil)
  (sSeq (sFor (iRng1F (faCons (fCall bLen (faCons (fVar 1) faNil)) faNil)) (.one 2)
  (sIf (ttNot (ttV (fCall self (faCons (fOp opIx (fVar 0) (fVar 2)) (faCons (fOp opIx (fVar 1) (fVar 2)) faNil)))))
  (sRet (fK (.bl false)))
  sNil))
  (sRet (fK (.bl true)))))
  sNil)
  (sSeq (sIf (ttV (fUn (isiG .bool) (fVar 1)))
  (sRet (fAnd (fUn (isiG .bool) (fVar 0)) (fOp opEq (fVar 0) (fVar 1))))
  sNil)
  (sSeq (sIf (ttV (fUn (isiG .int) (fVar 1)))
  (sRet (fAnd (fUn (isiG .int) (fVar 0)) (fAnd (fNot (fUn (isiG .bool) (fVar 0))) (fOp opEq (fVar 0) (fVar 1)))))
  sNil)
  (sSeq (sIf (ttV (fUn (isiG .str) (fVar 1)))
  (sRet (fAnd (fUn (isiG .str) (fVar 0)) (fOp opEq (fVar 0) (fVar 1))))
  sNil)
  (sRet (fAnd (fOp opIs (fVar 0) (fK .non)) (fOp opIs (fVar 1) (fK .non))))))))
noncomputable def d__law_same : Nat → List G → Sto → Option (G × Sto)
  | 0 => fun _ _ => none
  | n + 1 => callG 2 3 (b__law_same (d__law_same n))
/-- _law_judges_chain(jar, axis, shapes, constraints, shape, place, chain): 0 jar, 1 axis, 2 shapes, 3 constraints, 4 shape, 5 place, 6 chain, 7 near, 8 due -/
noncomputable def b__law_judges_chain : FS :=
  (sSeq (sIf (ttB (fOp opIsNot (fCall d_is_chain (faCons (fVar 1) (faCons (fVar 2) (faCons (fVar 3) (faCons (fVar 4) (faCons (fVar 5) (faCons (fVar 6) faNil))))))) (fK (.bl true))))
  (sRet (fK (.bl false)))
  sNil)
  (sSeq (sIf (ttB (fOp opIsNot (fCall d_is_chain (faCons (fVar 1) (faCons (fVar 2) (faCons (fVar 3) (faCons (fVar 4) (faCons (fVar 5) (faCons (fTup faNil) faNil))))))) (fK (.bl false))))
  (sRet (fK (.bl false)))
  sNil)
  (sSeq (sSet 7 (fCall d__law_near (faCons (fVar 0) (faCons (fVar 1) (faCons (fVar 2) (faCons (fVar 3) (faCons (fVar 6) faNil)))))))
  (sSeq (sSet 8 (fOp opEq (fCall d__law_walk (faCons (fVar 1) (faCons (fVar 2) (faCons (fVar 3) (faCons (fVar 7) faNil))))) (fTup (faCons (fK (.str "")) (faCons (fVar 4) (faCons (fVar 5) faNil))))))
  (sSeq (sIf (ttNot (ttV (fCall (d__law_same 12) (faCons (fCall d_is_chain (faCons (fVar 1) (faCons (fVar 2) (faCons (fVar 3) (faCons (fVar 4) (faCons (fVar 5) (faCons (fVar 7) faNil))))))) (faCons (fVar 8) faNil)))))
  (sRet (fK (.bl false)))
  sNil)
  (sSeq (sIf (ttB (fOp opIsNot (fCall d_is_chain (faCons (fVar 1) (faCons (fVar 2) (faCons (fVar 3) (faCons (fVar 4) (faCons (fOp opAdd (fVar 5) (fK (.int 1))) (faCons (fVar 6) faNil))))))) (fK (.bl false))))
  (sRet (fK (.bl false)))
  sNil)
  (sRet (fOp opIs (fCall d_is_chain (faCons (fVar 1) (faCons (fVar 2) (faCons (fVar 3) (faCons (fVar 4) (faCons (fVar 5) (faCons (fCall d__law_wrong (faCons (fVar 0) (faCons (fVar 6) faNil))) faNil))))))) (fK (.bl false))))))))))
noncomputable def d__law_judges_chain : List G → Sto → Option (G × Sto) := callG 7 9 b__law_judges_chain
/-- _law_judges_places(jar, axis, shapes, constraints, places): 0 jar, 1 axis, 2 shapes, 3 constraints, 4 places, 5 step, 6 at, 7 moved, 8 near, 9 due, 10 other, 11 wrong -/
noncomputable def b__law_judges_places : FS :=
  (sSeq (sIf (ttB (fOp opIsNot (fCall d_is_places (faCons (fVar 1) (faCons (fVar 2) (faCons (fVar 3) (faCons (fVar 4) faNil))))) (fK (.bl true))))
  (sRet (fK (.bl false)))
  sNil)
  (sSeq (sFor (iRng1F (faCons (fK (.int 3)) faNil)) (.one 5)
  (sSeq (sSet 6 (fCall d__law_take (faCons (fVar 0) (faCons (fCall bLen (faCons (fVar 2) faNil)) faNil))))
  (sSeq (sSet 7 (fOp opAdd (fOp opIx (fVar 4) (fVar 6)) (fOp opIx (fLst (faCons (fUn opNeg (fK (.int 1))) (faCons (fK (.int 1)) (faCons (fK (.int 7)) faNil)))) (fVar 5))))
  (sSeq (sSet 8 (fOp opAdd (fOp opAdd (fSl (fVar 4) foNone (foSome (fVar 6))) (fTup (faCons (fVar 7) faNil))) (fSl (fVar 4) (foSome (fOp opAdd (fVar 6) (fK (.int 1)))) foNone)))
  (sSeq (sSet 9 (fAnd (fOp opGe (fVar 7) (fK (.int 0))) (fCall d__law_keeps (faCons (fVar 1) (faCons (fVar 2) (faCons (fVar 3) (faCons (fVar 8) faNil)))))))
  (sIf (ttNot (ttV (fCall (d__law_same 12) (faCons (fCall d_is_places (faCons (fVar 1) (faCons (fVar 2) (faCons (fVar 3) (faCons (fVar 8) faNil))))) (faCons (fVar 9) faNil)))))
  (sRet (fK (.bl false)))
  sNil))))))
  (sSeq (sSet 6 (fCall d__law_take (faCons (fVar 0) (faCons (fCall bLen (faCons (fVar 2) faNil)) faNil))))
  (sSeq (sSet 10 (fOp opAdd (fOp opAdd (fSl (fVar 4) foNone (foSome (fVar 6))) (fTup (faCons (fOp opEq (fOp opIx (fVar 4) (fVar 6)) (fK (.int 1))) faNil))) (fSl (fVar 4) (foSome (fOp opAdd (fVar 6) (fK (.int 1)))) foNone)))
  (sSeq (sSet 11 (fLst (faCons (fCall bList (faCons (fVar 4) faNil)) (faCons (fSl (fVar 4) (foSome (fK (.int 1))) foNone) (faCons (fOp opAdd (fVar 4) (fTup (faCons (fK (.int 0)) faNil))) (faCons (fK .non) (faCons (fVar 10) (faCons (fK (.str "")) (faCons (fOp opAdd (fOp opAdd (fSl (fVar 4) foNone (foSome (fVar 6))) (fTup (faCons (fK (.str "1")) faNil))) (fSl (fVar 4) (foSome (fOp opAdd (fVar 6) (fK (.int 1)))) foNone)) faNil)))))))))
  (sRet (fOp opIs (fCall d_is_places (faCons (fVar 1) (faCons (fVar 2) (faCons (fVar 3) (faCons (fOp opIx (fVar 11) (fCall d__law_take (faCons (fVar 0) (faCons (fK (.int 7)) faNil)))) faNil))))) (fK (.bl false)))))))))
noncomputable def d__law_judges_places : List G → Sto → Option (G × Sto) := callG 5 12 b__law_judges_places
/-- _law_judges_cycle(jar, axis, shapes, constraints, cycle): 0 jar, 1 axis, 2 shapes, 3 constraints, 4 cycle, 5 found, 6 step, 7 near, 8 due, 9 zeros, 10 shape -/
noncomputable def b__law_judges_cycle : FS :=
  (sSeq (sSet 5 (fCall d__law_walk (faCons (fVar 1) (faCons (fVar 2) (faCons (fVar 3) (faCons (fVar 4) faNil))))))
  (sSeq (sIf (ttOr (ttB (fOp opIs (fVar 5) (fK .non))) (ttOr (ttB (fOp opNe (fOp opIx (fVar 5) (fK (.int 0))) (fOp opIx (fVar 5) (fK (.int 1))))) (ttB (fOp opLe (fOp opIx (fVar 5) (fK (.int 2))) (fK (.int 0))))))
  (sRet (fK (.bl false)))
  sNil)
  (sSeq (sIf (ttOr (ttB (fOp opIsNot (fCall d_is_cycle (faCons (fVar 1) (faCons (fVar 2) (faCons (fVar 3) (faCons (fVar 4) faNil))))) (fK (.bl true)))) (ttB (fOp opIsNot (fCall d_is_cycle (faCons (fVar 1) (faCons (fVar 2) (faCons (fVar 3) (faCons (fTup faNil) faNil))))) (fK (.bl false)))))
  (sRet (fK (.bl false)))
  sNil)
  (sSeq (sIf (ttB (fOp opIsNot (fCall d_is_cycle (faCons (fVar 1) (faCons (fVar 2) (faCons (fVar 3) (faCons (fOp opAdd (fVar 4) (fVar 4)) faNil))))) (fK (.bl true))))
  (sRet (fK (.bl false)))
  sNil)
  (sSeq (sFor (iRng1F (faCons (fK (.int 2)) faNil)) (.one 6)
  (sSeq (sSet 7 (fCall d__law_near (faCons (fVar 0) (faCons (fVar 1) (faCons (fVar 2) (faCons (fVar 3) (faCons (fVar 4) faNil)))))))
  (sSeq (sSet 5 (fCall d__law_walk (faCons (fVar 1) (faCons (fVar 2) (faCons (fVar 3) (faCons (fVar 7) faNil))))))
  (sSeq (sSet 8 (fAnd (fOp opIsNot (fVar 5) (fK .non)) (fAnd (fOp opEq (fOp opIx (fVar 5) (fK (.int 0))) (fOp opIx (fVar 5) (fK (.int 1)))) (fOp opGt (fOp opIx (fVar 5) (fK (.int 2))) (fK (.int 0))))))
  (sIf (ttNot (ttV (fCall (d__law_same 12) (faCons (fCall d_is_cycle (faCons (fVar 1) (faCons (fVar 2) (faCons (fVar 3) (faCons (fVar 7) faNil))))) (faCons (fVar 8) faNil)))))
  (sRet (fK (.bl false)))
  sNil)))))
  (sSeq (sSet 9 (fCall bTuple (faCons (fLc (iSeqF (fVar 2)) (.one 10) ttYes (fK (.int 0))) faNil)))
  (sSeq (sIf (ttB (fOp opIsNot (fCall d_is_places (faCons (fVar 1) (faCons (fVar 2) (faCons (fVar 3) (faCons (fVar 9) faNil))))) (fK (.bl false))))
  (sRet (fK (.bl false)))
  sNil)
  (sRet (fOp opIs (fCall d_is_cycle (faCons (fVar 1) (faCons (fVar 2) (faCons (fVar 3) (faCons (fCall d__law_wrong (faCons (fVar 0) (faCons (fVar 4) faNil))) faNil))))) (fK (.bl false)))))))))))
noncomputable def d__law_judges_cycle : List G → Sto → Option (G × Sto) := callG 5 11 b__law_judges_cycle
/-- _law_judges_short(axis, shapes, constraints): 0 axis, 1 shapes, 2 constraints, 3 every, 4 asked, 5 one, 6 two -/
noncomputable def b__law_judges_short : FS :=
  (sSeq (sSet 3 (fSl (fCall d__law_every (faCons (fVar 0) (faCons (fVar 1) (faCons (fVar 2) faNil)))) foNone (foSome (fK (.int 40)))))
  (sSeq (sSet 4 (fK (.int 0)))
  (sSeq (sFor (iSeqF (fVar 3)) (.one 5)
  (sSeq (sFor (iSeqF (fVar 3)) (.one 6)
  (sIf (ttAnd (ttB (fOp opLt (fVar 4) (fK (.int 40)))) (ttAnd (ttB (fOp opEq (fOp opIx (fVar 5) (fK (.int 1))) (fOp opIx (fVar 6) (fK (.int 2))))) (ttB (fOp opEq (fOp opIx (fVar 6) (fK (.int 1))) (fOp opIx (fVar 5) (fK (.int 2)))))))
  (sSeq (sSet 4 (fOp opAdd (fVar 4) (fK (.int 1))))
  (sIf (ttNot (ttV (fCall (d__law_same 12) (faCons (fCall d_is_cycle (faCons (fVar 0) (faCons (fVar 1) (faCons (fVar 2) (faCons (fTup (faCons (fVar 5) (faCons (fVar 6) faNil))) faNil))))) (faCons (fOp opGt (fOp opAdd (fOp opIx (fVar 5) (fK (.int 3))) (fOp opIx (fVar 6) (fK (.int 3)))) (fK (.int 0))) faNil)))))
  (sRet (fK (.bl false)))
  sNil))
  sNil))
  (sIf (ttAnd (ttB (fOp opEq (fOp opIx (fVar 5) (fK (.int 1))) (fOp opIx (fVar 5) (fK (.int 2))))) (ttNot (ttV (fCall (d__law_same 12) (faCons (fCall d_is_cycle (faCons (fVar 0) (faCons (fVar 1) (faCons (fVar 2) (faCons (fTup (faCons (fVar 5) faNil)) faNil))))) (faCons (fOp opGt (fOp opIx (fVar 5) (fK (.int 3))) (fK (.int 0))) faNil))))))
  (sRet (fK (.bl false)))
  sNil)))
  (sRet (fK (.bl true))))))
noncomputable def d__law_judges_short : List G → Sto → Option (G × Sto) := callG 3 7 b__law_judges_short
/-- law(script): 0 script, 1 jar, 2 axis, 3 size, 4 many, 5 taken, 6 shapes, 7 k, 8 name, 9 constraints, 10 due, 11 at, 12 near, 13 found -/
noncomputable def b_law : FS :=
  (sSeq (sSet 1 (fCall d__law_jar (faCons (fVar 0) faNil)))
  (sSeq (sSet 2 (fOp opIx (fK (.str "xy")) (fCall d__law_take (faCons (fVar 1) (faCons (fK (.int 2)) faNil)))))
  (sSeq (sSet 3 (fOp opAdd (fK (.int 1)) (fCall d__law_take (faCons (fVar 1) (faCons (fK (.int 8)) faNil)))))
  (sSeq (sSet 4 (fCall d__law_take (faCons (fVar 1) (faCons (fK (.int 15)) faNil))))
  (sSeq (sIf (ttB (fOp opEq (fCall d__law_take (faCons (fVar 1) (faCons (fK (.int 8)) faNil))) (fK (.int 0))))
  (sSeq (sSet 3 (fK (.int 60)))
  (sSet 4 (fOp opAdd (fK (.int 40)) (fCall d__law_take (faCons (fVar 1) (faCons (fK (.int 161)) faNil))))))
  sNil)
  (sSeq (sSet 5 (fLst faNil))
  (sSeq (sSet 6 (fLst faNil))
  (sSeq (sFor (iRng1F (faCons (fVar 3) faNil)) (.one 7)
  (sSeq (sSet 8 (fCall d__law_name (faCons (fVar 1) (faCons (fVar 5) faNil))))
  (sSeq (sIf (ttB (fOp opEq (fCall d__law_take (faCons (fVar 1) (faCons (fK (.int 3)) faNil))) (fK (.int 0))))
  (sSet 8 (fOp opAdd (fOp opAdd (fVar 8) (fK (.str "."))) (fCall bStr (faCons (fOp opAdd (fK (.int 1)) (fCall d__law_take (faCons (fVar 1) (faCons (fK (.int 99)) faNil)))) faNil))))
  sNil)
  (sExpr (fApp (fVar 6) (fVar 8))))))
  (sSeq (sSet 6 (fCall bTuple (faCons (fVar 6) faNil)))
  (sSeq (sSet 9 (fCall d__law_constraints (faCons (fVar 1) (faCons (fVar 2) (faCons (fVar 6) (faCons (fVar 4) faNil))))))
  (sSeq (sSet 10 (fCall d__law_due (faCons (fVar 2) (faCons (fVar 6) (faCons (fVar 9) faNil)))))
  (sSeq (sIf (ttNot (ttV (fCall (d__law_same 12) (faCons (fCall d_place_axis (faCons (fVar 2) (faCons (fVar 6) (faCons (fVar 9) faNil)))) (faCons (fVar 10) faNil)))))
  (sRet (fK (.bl false)))
  sNil)
  (sSeq (sIf (ttNot (ttV (fCall d__law_judges_short (faCons (fVar 2) (faCons (fVar 6) (faCons (fVar 9) faNil))))))
  (sRet (fK (.bl false)))
  sNil)
  (sSeq (sIf (ttB (fOp opEq (fOp opIx (fVar 10) (fK (.int 0))) (fK (.str "cycle"))))
  (sRet (fCall d__law_judges_cycle (faCons (fVar 1) (faCons (fVar 2) (faCons (fVar 6) (faCons (fVar 9) (faCons (fOp opIx (fVar 10) (fK (.int 1))) faNil)))))))
  sNil)
  (sSeq (sSet 11 (fCall d__law_take (faCons (fVar 1) (faCons (fVar 3) faNil))))
  (sSeq (sIf (ttNot (ttV (fCall d__law_judges_chain (faCons (fVar 1) (faCons (fVar 2) (faCons (fVar 6) (faCons (fVar 9) (faCons (fOp opIx (fVar 6) (fVar 11)) (faCons (fOp opIx (fOp opIx (fVar 10) (fK (.int 1))) (fVar 11)) (faCons (fOp opIx (fOp opIx (fVar 10) (fK (.int 2))) (fVar 11)) faNil))))))))))
  (sRet (fK (.bl false)))
  sNil)
  (sSeq (sSet 12 (fCall d__law_near (faCons (fVar 1) (faCons (fVar 2) (faCons (fVar 6) (faCons (fVar 9) (faCons (fOp opIx (fOp opIx (fVar 10) (fK (.int 2))) (fVar 11)) faNil)))))))
  (sSeq (sSet 13 (fCall d__law_walk (faCons (fVar 2) (faCons (fVar 6) (faCons (fVar 9) (faCons (fVar 12) faNil))))))
  (sSeq (sIf (ttAnd (ttB (fOp opIsNot (fVar 13) (fK .non))) (ttAnd (ttB (fOp opEq (fOp opIx (fVar 13) (fK (.int 0))) (fOp opIx (fVar 13) (fK (.int 1))))) (ttB (fOp opGt (fOp opIx (fVar 13) (fK (.int 2))) (fK (.int 0))))))
  (sRet (fK (.bl false)))
  sNil)
  (sSeq (sIf (ttB (fOp opIsNot (fCall d_is_cycle (faCons (fVar 2) (faCons (fVar 6) (faCons (fVar 9) (faCons (fVar 12) faNil))))) (fK (.bl false))))
  (sRet (fK (.bl false)))
  sNil)
  (sRet (fCall d__law_judges_places (faCons (fVar 1) (faCons (fVar 2) (faCons (fVar 6) (faCons (fVar 9) (faCons (fOp opIx (fVar 10) (fK (.int 1))) faNil)))))))))))))))))))))))))))
noncomputable def d_law : List G → Sto → Option (G × Sto) := callG 1 14 b_law
end K48
set_option Elab.async false
set_option linter.all false
set_option maxRecDepth 100000
set_option maxHeartbeats 1000000
namespace K48
open PySem L2 FL TL
local macro_rules | `(tactic| walk_at "ev") => `(tactic| with_reducible first
  | (refine Ev.var (g := ?g) ?e ?_; (case e => with_unfolding_all exact rfl)) | refine Ev.k ?_ | refine Ev.op ?_ | refine Ev.un ?_ | refine Ev.anil ?_ | refine Ev.acons ?_ | refine Ev.fcall ?_
  | refine Fls.seqSet ?_ | refine Fls.seqExpr ?_ | refine Fls.seqUnp ?_ | refine Fls.seqPar ?_ | refine Fls.seqPut ?_ | (refine Fls.seqAug (x := ?x) ?e ?_; (case e => with_unfolding_all exact rfl)) | refine Fls.seqRet ?_ | refine Fls.set ?_ | refine Fls.expr ?_ | refine Fls.ret ?_ | refine Fls.nil ?_ | refine Fls.unp ?_ | refine Fls.put ?_ | (refine Fls.aug (x := ?x) ?e ?_; (case e => with_unfolding_all exact rfl))
  | refine Ev.addI ?_ | refine Ev.subI ?_ | refine Ev.ltI ?_ | refine Ev.leI ?_ | refine Ev.gtI ?_ | refine Ev.geI ?_ | refine Ev.eqI ?_ | refine Ev.neI ?_ | refine Ev.eqS ?_ | refine Ev.neS ?_ | refine Ev.eqB ?_ | refine Ev.negI ?_
  | refine Ev.intI ?_ | refine Ev.absI ?_ | refine Ev.minI ?_ | refine Ev.maxI ?_ | refine Ev.lenT ?_ | refine Ev.tupT ?_ | refine Ev.lstT ?_ | refine Ev.slT ?_ | refine Ev.isT ?_ | refine Ev.isN ?_ | refine Ev.isB ?_ | refine Ev.isI ?_ | refine Ev.isS ?_ | refine Ev.isNon ?_ | refine Ev.isNotNon ?_ | refine Ev.isBl ?_ | refine Ev.isNotBl ?_ | refine Ev.augI ?_
  | (refine Ev.ixL (gs := ?gs) (g := ?g) ?e ?h ?_; (case e => assumption); (case h => with_unfolding_all exact rfl)) | (refine Ev.ixT (g := ?g) ?h ?_; (case h => with_unfolding_all exact rfl)) | (refine Ev.lenL (gs := ?gs) ?e ?_; (case e => assumption)) | (refine Ev.isL (gs := ?gs) ?e ?_; (case e => assumption)) | (refine Ev.tupL (gs := ?gs) ?e ?_; (case e => assumption))
  | refine Ev.ttB ?_ | refine Ev.ttVB ?_ | refine Ev.ttNot ?_ | refine Ev.tup ?_ | refine Ev.lst ?_ | refine Ev.sl ?_ | refine Ev.onone ?_ | refine Ev.osome ?_ | refine Ev.fAnd ?_ | refine Ev.fOr ?_ | refine Ev.fNot ?_ | refine Ev.ttAnd ?_ | refine Ev.ttOr ?_ | refine Ev.fIf ?_
  | (refine ⟨?w, ?h, ?_⟩; (case h => with_unfolding_all exact rfl)) | (refine ⟨?h, ?_⟩; (case h => with_unfolding_all exact Nat.le_of_ble_eq_true rfl)) | (refine ⟨?w, ?h, ?_⟩; (case h => exact putL (by assumption) (by with_unfolding_all exact rfl)))
  | dsimp only)
local macro_rules | `(tactic| walk_at "if") => `(tactic| ((with_reducible first | (refine Fls.seq ?_; refine Fls.si ?_) | refine Fls.si ?_); repeat walk_at "ev"))
local macro_rules | `(tactic| walk_at "c") => `(tactic| ((first | (refine ⟨fun _ => ?_, fun h => ?bad⟩; (case bad => first | exact Bool.noConfusion (show true = false from h) | exact Bool.noConfusion (show false = true from h))) | (refine ⟨fun h => ?bad, fun _ => ?_⟩; (case bad => first | exact Bool.noConfusion (show true = false from h) | exact Bool.noConfusion (show false = true from h)))); repeat walk_at "ev"))
abbrev E0 : Str := Str.ofString ""
abbrev K := Co Str
abbrev cG (ax : Str) (c : K) : G := .tup [.str ax, .str c.l, .str c.e, .int c.g, .str c.id]
abbrev csG (ax : Str) (cs : List K) : G := .tup (cs.map (cG ax))
abbrev shG (sh : List Str) : G := .tup (sh.map G.str)
def evL (sh : List Str) (cs : List K) : List K := sh.map (ownC E0) ++ cs
theorem evL_len (sh : List Str) (cs : List K) : (evL sh cs).length = sh.length + cs.length := by simp [evL]
theorem own_ok {S : Sto} {ax : Str} {sh : List Str} (hl : sh.length ≤ 1000) : Ev (d_own_constraints [.str ax, shG sh] S) fun g S' => g = csG ax (sh.map (ownC E0)) ∧ Upto [] S S' := by
  refine Ev.call rfl ?_
  unfold b_own_constraints
  repeat walk_at "ev"
  refine Ev.lcT (β := Str) (f := G.str) (h := fun s => cG ax (ownC E0 s)) ?_
  repeat walk_at "ev"
  refine ⟨by omega, fun x hx => ⟨_, rfl, fun S5 U5 => ?_⟩, ?_⟩
  · refine Ev.ok ⟨rfl, rfl, ?_⟩
    repeat walk_at "ev"
    all_goals first | rfl | exact Nat.le_of_ble_eq_true rfl | exact ⟨rfl, rfl⟩
  repeat walk_at "ev"
  refine Ev.tupL (getL_lst (get_new _)) ?_
  exact ⟨by unfold csG; rw [List.map_map]; rfl, Upto.app _ _ _⟩
theorem all_ok {S : Sto} {ax : Str} {sh : List Str} {cs : List K} (hl : sh.length ≤ 1000) (hc : cs.length ≤ 1000) : Ev (d_all_constraints [.str ax, shG sh, csG ax cs] S) fun g S' => g = csG ax (evL sh cs) ∧ Upto [] S S' := by
  refine Ev.call rfl ?_
  unfold b_all_constraints
  repeat walk_at "ev"
  refine Ev.mono (own_ok hl) ?_
  rintro g S1 ⟨rfl, U1⟩
  repeat walk_at "ev"
  refine Ev.addT (line_ok (by simp; omega)) ?_
  exact ⟨by rw [← List.map_append]; rfl, U1⟩
theorem every_ok {S : Sto} {ax : Str} {sh : List Str} {cs : List K} (hl : sh.length ≤ 1000) (hc : cs.length ≤ 1000) : Ev (d__law_every [.str ax, shG sh, csG ax cs] S) fun g S' => ∃ l, g = .loc l ∧ S.length ≤ l ∧ S'[l]? = some (.lst ((evL sh cs).map (cG ax))) ∧ Upto [] S S' := by
  refine Ev.call rfl ?_
  unfold b__law_every
  repeat walk_at "ev"
  refine Ev.lcT (β := Str) (f := G.str) (h := fun s => cG ax (ownC E0 s)) ?_
  repeat walk_at "ev"
  refine ⟨by omega, fun x hx => ⟨_, rfl, fun S5 U5 => ?_⟩, ?_⟩
  · refine Ev.ok ⟨rfl, rfl, ?_⟩
    repeat walk_at "ev"
    all_goals first | rfl | exact Nat.le_of_ble_eq_true rfl | exact ⟨rfl, rfl⟩
  repeat walk_at "ev"
  have U2 : Upto [] (S ++ [C.lst (sh.map fun s => cG ax (ownC E0 s))]) (S ++ [C.lst (sh.map fun s => cG ax (ownC E0 s))] ++ [C.lst (cs.map (cG ax))]) := Upto.app _ _ _
  refine Ev.addL (U2.get (by simp) (get_new _)) (get_new _) (line_ok (by simp; omega)) ?_
  refine ⟨_, rfl, by simp; try omega, ?_, ((Upto.app [] S _).trans U2).trans (Upto.app _ _ _)⟩
  (try rw [get_new]); rw [evL, List.map_append, List.map_map]; try rfl
/-! ### the two dicts -/
abbrev pD (sh : List Str) (P : Str → Int) : List (Key × G) := dL (β := Str) Sum.inr (fun n => G.int (P n)) (E0 :: sh)
def qv (ax : Str) : Option K → G
  | some c => cG ax c
  | none => .non
def qn (sh : List Str) (Q : QF Str) : List Str := if (Q E0).isSome then sh ++ [E0] else sh
abbrev qD (ax : Str) (sh : List Str) (Q : QF Str) : List (Key × G) := dL (β := Str) Sum.inr (fun n => qv ax (Q n)) (qn sh Q)
theorem inr_inj (x y : Str) (h : (Sum.inr x : Key) = .inr y) : x = y := Sum.inr.inj h
theorem pD_get {sh : List Str} {P : Str → Int} {x : Str} (h : x ∈ E0 :: sh) : getK (pD sh P) (.inr x) = some (.int (P x)) := dL_get inr_inj h
theorem dL_upd {names : List Str} {L L' : Str → G} {x : Str} {g : G} (h : x ∈ names) (e : ∀ y, (if y = x then g else L y) = L' y) : putG (dL (β := Str) Sum.inr L names) (.inr x) g = dL (β := Str) Sum.inr L' names := by
  rw [dL_put inr_inj h]
  unfold dL
  refine List.map_congr_left fun y _ => ?_
  show (Sum.inr y, if y = x then g else L y) = (Sum.inr y, L' y)
  rw [e]
theorem pD_put {sh : List Str} {P : Str → Int} {x : Str} (h : x ∈ E0 :: sh) (v : Int) : putG (pD sh P) (.inr x) (.int v) = pD sh (upd P x v) := dL_upd h fun y => by
  unfold upd
  by_cases q : y = x
  · simp [q]
  · simp [q]
theorem qn_mem {sh : List Str} {Q : QF Str} {x : Str} {c : K} (hx : x ∈ E0 :: sh) (h : Q x = some c) : x ∈ qn sh Q := by
  unfold qn
  rcases List.mem_cons.mp hx with rfl | hx
  · rw [h]; simp
  · split
    · simp [hx]
    · exact hx
theorem qD_get {ax : Str} {sh : List Str} {Q : QF Str} {x : Str} {c : K} (hx : x ∈ E0 :: sh) (h : Q x = some c) : getK (qD ax sh Q) (.inr x) = some (cG ax c) := by
  rw [dL_get inr_inj (qn_mem hx h), h]; rfl
theorem qD_put {ax : Str} {sh : List Str} {Q : QF Str} (ho : E0 ∉ sh) {x : Str} {c : K} (hx : x ∈ E0 :: sh) : putG (qD ax sh Q) (.inr x) (cG ax c) = qD ax sh (upd Q x (some c)) := by
  have key : ∀ y, (if y = x then cG ax c else qv ax (Q y)) = qv ax (upd Q x (some c) y) := fun y => by
    unfold upd
    by_cases q : y = x
    · simp [q, qv]
    · simp [q]
  by_cases q : x = E0
  · subst q
    have e1 : qn sh (upd Q E0 (some c)) = sh ++ [E0] := by unfold qn; rw [upd_same]; rfl
    unfold qD
    rw [e1]
    by_cases q2 : (Q E0).isSome = true
    · have e2 : qn sh Q = sh ++ [E0] := by unfold qn; rw [if_pos q2]
      rw [e2]
      exact dL_upd (by simp) key
    · have e2 : qn sh Q = sh := by unfold qn; rw [if_neg q2]
      rw [e2, putG_new (dL_none inr_inj ho)]
      unfold dL
      rw [List.map_append]
      congr 1
      · refine List.map_congr_left fun y hy => ?_
        show (Sum.inr y, qv ax (Q y)) = (Sum.inr y, qv ax (upd Q E0 (some c) y))
        rw [upd_ne]
        rintro rfl
        exact ho hy
  · have e1 : qn sh (upd Q x (some c)) = qn sh Q := by
      unfold qn
      rw [upd_ne _ _ (fun e => q e.symm)]
    unfold qD
    rw [e1]
    refine dL_upd ?_ key
    have hs := (List.mem_cons.mp hx).resolve_left q
    unfold qn
    split
    · simp [hs]
    · exact hs
theorem qD_len (ax : Str) (sh : List Str) (Q : QF Str) : (qD ax sh Q).length ≤ sh.length + 1 := by
  rw [dL_len]
  unfold qn
  split <;> simp
/-! ### the passes as functions -/
structure Rs where
  P : Str → Int
  Q : QF Str
  w : Option Str
def stp (s : Rs) (c : K) : Rs := if s.P c.l < s.P c.e + c.g then ⟨upd s.P c.l (s.P c.e + c.g), upd s.Q c.l (some c), some c.l⟩ else s
def pas (ev : List K) (s : Rs) : Rs := ev.foldl stp ⟨s.P, s.Q, none⟩
def q0 (sh : List Str) : QF Str := fun v => if v ∈ sh then some (ownC E0 v) else none
def run (sh : List Str) (ev : List K) : Nat → Rs
  | 0 => ⟨fun _ => 0, q0 sh, some E0⟩
  | i + 1 => pas ev (run sh ev i)
theorem stp_hit {s : Rs} {c : K} (h : s.P c.l < s.P c.e + c.g) : stp s c = ⟨upd s.P c.l (s.P c.e + c.g), upd s.Q c.l (some c), some c.l⟩ := if_pos h
theorem stp_skip {s : Rs} {c : K} (h : ¬ s.P c.l < s.P c.e + c.g) : stp s c = s := if_neg h
structure Ctx (sh : List Str) (ev : List K) : Prop where
  ho : E0 ∉ sh
  hN : ∀ c ∈ ev, c.l ∈ E0 :: sh ∧ c.e ∈ E0 :: sh
  own : ∀ s ∈ sh, ownC E0 s ∈ ev
  nd : sh.Nodup
  l1 : sh.length ≤ 60
  l2 : ev.length ≤ 1000
/-- what the last change tells -/
def LastOk (sh : List Str) (dn : List K) (s : Rs) (R : Str → Nat) (k : Nat) : Prop := match s.w with
  | none => ∀ c ∈ dn, s.P c.e + c.g ≤ s.P c.l
  | some v => v ∈ E0 :: sh ∧ R v = k
theorem fold_inv {sh : List Str} {ev : List K} (C : Ctx sh ev) {k : Nat} : ∀ (todo dn : List K) (s : Rs) (R T : Str → Nat) (t : Nat), ev = dn ++ todo → Inv ev E0 sh s.P s.Q R T k t dn → LastOk sh dn s R k →
    ∃ R' T' t', Inv ev E0 sh (todo.foldl stp s).P (todo.foldl stp s).Q R' T' k t' ev ∧ LastOk sh ev (todo.foldl stp s) R' k
  | [], dn, s, R, T, t, e, I, L => by
    rw [List.append_nil] at e
    subst e
    exact ⟨R, T, t, I, L⟩
  | c :: todo, dn, s, R, T, t, e, I, L => by
    have hc : c ∈ ev := by rw [e]; simp
    rw [List.foldl_cons]
    by_cases h : s.P c.l < s.P c.e + c.g
    · rw [stp_hit h]
      exact fold_inv C todo (dn ++ [c]) _ _ _ _ (by rw [e]; simp) (I.hit hc h) ⟨(C.hN c hc).1, upd_same _ _ _⟩
    · rw [stp_skip h]
      refine fold_inv C todo (dn ++ [c]) _ _ _ _ (by rw [e]; simp) (I.skip (by omega)) ?_
      unfold LastOk at L ⊢
      cases q : s.w with
      | none =>
        rw [q] at L
        dsimp only at L ⊢
        intro d hd
        rcases List.mem_append.mp hd with hd | hd
        · exact L d hd
        · simp at hd; subst hd; omega
      | some v =>
        rw [q] at L
        exact L
theorem run_inv {sh : List Str} {ev : List K} (C : Ctx sh ev) : ∀ i, ∃ R T t, Inv ev E0 sh (run sh ev i).P (run sh ev i).Q R T (i + 1) t [] ∧ (1 ≤ i → match (run sh ev i).w with
    | none => Fix ev (run sh ev i).P
    | some v => v ∈ E0 :: sh ∧ R v = i)
  | 0 => ⟨_, _, _, Inv.start C.ho C.own, fun h => by omega⟩
  | i + 1 => by
    obtain ⟨R, T, t, I, _⟩ := run_inv C i
    obtain ⟨R', T', t', I', L'⟩ := fold_inv C ev [] ⟨(run sh ev i).P, (run sh ev i).Q, none⟩ R T t rfl I (fun c hc => by simp at hc)
    refine ⟨R', T', t', I'.next, fun _ => ?_⟩
    exact L'
/-- the passes end so -/
structure Fin (sh : List Str) (ev : List K) (m : Nat) : Prop where
  h1 : 1 ≤ m
  h2 : m ≤ sh.length + 2
  h3 : ∀ j, 1 ≤ j → j < m → (run sh ev j).w ≠ none
  h4 : (run sh ev m).w = none ∨ m = sh.length + 2
theorem Fin.unique {sh : List Str} {ev : List K} {m n : Nat} (a : Fin sh ev m) (b : Fin sh ev n) : m = n := by
  rcases Nat.lt_trichotomy m n with h | h | h
  · rcases a.h4 with h4 | h4
    · exact absurd h4 (b.h3 m a.h1 h)
    · have := b.h2; omega
  · exact h
  · rcases b.h4 with h4 | h4
    · exact absurd h4 (a.h3 n b.h1 h)
    · have := a.h2; omega
theorem QP.det {Q : QF Str} : ∀ {w w' : List K} {v u u' : Str}, QP Q w v u → QP Q w' v u' → w.length = w'.length → w = w' ∧ u = u'
  | [], [], _, _, _, h, h', _ => by
    have h : _ = _ := h
    have h' : _ = _ := h'
    subst h; subst h'
    exact ⟨rfl, rfl⟩
  | [], _ :: _, _, _, _, _, _, e => by simp at e
  | _ :: _, [], _, _, _, _, _, e => by simp at e
  | c :: w, d :: w', v, u, u', ⟨h1, h2⟩, ⟨h3, h4⟩, e => by
    have : c = d := Option.some.inj (h1.symm.trans h3)
    subst this
    obtain ⟨e1, e2⟩ := QP.det h2 h4 (by simpa using e)
    exact ⟨by rw [e1], e2⟩
theorem QP.det0 {Q : QF Str} : ∀ {w w' : List K} {v u : Str}, Q u = none → QP Q w v u → QP Q w' v u → w = w'
  | [], [], _, _, _, _, _ => rfl
  | [], d :: _, _, _, hu, h, ⟨h1, _⟩ => by
    have h : _ = _ := h
    subst h
    rw [hu] at h1; cases h1
  | d :: _, [], _, _, hu, ⟨h1, _⟩, h => by
    have h : _ = _ := h
    subst h
    rw [hu] at h1; cases h1
  | c :: w, d :: w', v, u, hu, ⟨h1, h2⟩, ⟨h3, h4⟩ => by
    have : c = d := Option.some.inj (h1.symm.trans h3)
    subst this
    rw [QP.det0 hu h2 h4]
/-- what both tell -/
def Due (ax : Str) (sh : List Str) (ev : List K) (g : G) : Prop := ∃ m, Fin sh ev m ∧
  (((run sh ev m).w = none ∧ ∃ ch : Str → List K, (∀ s ∈ sh, QP (run sh ev m).Q (ch s) s E0) ∧ (run sh ev m).Q E0 = none ∧ g = .tup [.str (Str.ofString "places"), .tup (sh.map fun s => .int ((run sh ev m).P s)), .tup (sh.map fun s => csG ax (ch s).reverse)]) ∨
   (∃ v w y cy, (run sh ev m).w = some v ∧ QP (run sh ev m).Q w v y ∧ w.length = sh.length + 1 ∧ Ring (run sh ev m).Q cy y ∧ g = .tup [.str (Str.ofString "cycle"), csG ax cy.reverse]))
theorem Due.unique {ax : Str} {sh : List Str} {ev : List K} {g g' : G} (a : Due ax sh ev g) (b : Due ax sh ev g') : g = g' := by
  obtain ⟨m, F, a⟩ := a
  obtain ⟨n, F', b⟩ := b
  have := F.unique F'
  subst this
  rcases a with ⟨h1, ch, h2, h3, rfl⟩ | ⟨v, w, y, cy, h1, h2, h3, h4, rfl⟩ <;> rcases b with ⟨g1, ch', g2, g3, rfl⟩ | ⟨v', w', y', cy', g1, g2, g3, g4, rfl⟩
  · have : (sh.map fun s => csG ax (ch s).reverse) = sh.map fun s => csG ax (ch' s).reverse := List.map_congr_left fun s hs => by rw [QP.det0 h3 (h2 s hs) (g2 s hs)]
    rw [this]
  · rw [h1] at g1; cases g1
  · rw [h1] at g1; cases g1
  · rw [h1] at g1
    cases g1
    obtain ⟨_, e⟩ := QP.det h2 g2 (by omega)
    subst e
    have l1 := h4.least cy' g4.at' g4.ne
    have l2 := g4.least cy h4.at' h4.ne
    obtain ⟨e, _⟩ := QP.det h4.at' g4.at' (by omega)
    rw [e]
end K48
set_option Elab.async false
set_option linter.all false
set_option maxRecDepth 100000
set_option maxHeartbeats 1000000
namespace FL
open PySem L2
theorem Ev.revL {fe : FE} {σ : Sl} {S : Sto} {Q : G → Sto → Prop} (h : Ev (fe σ S) fun g S1 => ∃ n gs, g = .loc n ∧ getL S1 n = some gs ∧ Q (.loc S1.length) (S1 ++ [.lst gs.reverse])) : Ev (fRev fe σ S) Q := by
  obtain ⟨g, S1, e1, n, gs, rfl, h1, q⟩ := h
  refine ⟨_, _, ?_, q⟩
  unfold fRev
  rw [e1]
  dsimp only [Option.bind]
  rw [h1]
  rfl
theorem Ev.lenD {n : Nat} {ks : List (Key × G)} {S : Sto} {Q : G → Sto → Prop} (h : S[n]? = some (.dic ks)) (q : Q (.int ks.length) S) : Ev (bLen [.loc n] S) Q := ⟨_, S, by unfold bLen; dsimp only; rw [getL_dic h]; dsimp only; rw [h], q⟩
end FL
namespace K48
open PySem L2 FL TL
local macro_rules | `(tactic| walk_at "ev") => `(tactic| with_reducible first
  | (refine Ev.var (g := ?g) ?e ?_; (case e => with_unfolding_all exact rfl)) | refine Ev.k ?_ | refine Ev.op ?_ | refine Ev.un ?_ | refine Ev.anil ?_ | refine Ev.acons ?_ | refine Ev.fcall ?_
  | refine Fls.seqSet ?_ | refine Fls.seqExpr ?_ | refine Fls.seqUnp ?_ | refine Fls.seqPar ?_ | refine Fls.seqPut ?_ | (refine Fls.seqAug (x := ?x) ?e ?_; (case e => with_unfolding_all exact rfl)) | refine Fls.seqRet ?_ | refine Fls.set ?_ | refine Fls.expr ?_ | refine Fls.ret ?_ | refine Fls.nil ?_ | refine Fls.unp ?_ | refine Fls.put ?_ | (refine Fls.aug (x := ?x) ?e ?_; (case e => with_unfolding_all exact rfl))
  | refine Ev.addI ?_ | refine Ev.subI ?_ | refine Ev.ltI ?_ | refine Ev.leI ?_ | refine Ev.gtI ?_ | refine Ev.geI ?_ | refine Ev.eqI ?_ | refine Ev.neI ?_ | refine Ev.eqS ?_ | refine Ev.neS ?_ | refine Ev.eqB ?_ | refine Ev.negI ?_
  | refine Ev.intI ?_ | refine Ev.absI ?_ | refine Ev.minI ?_ | refine Ev.maxI ?_ | refine Ev.lenT ?_ | refine Ev.tupT ?_ | refine Ev.lstT ?_ | refine Ev.slT ?_ | refine Ev.isT ?_ | refine Ev.isN ?_ | refine Ev.isB ?_ | refine Ev.isI ?_ | refine Ev.isS ?_ | refine Ev.isNon ?_ | refine Ev.isNotNon ?_ | refine Ev.isBl ?_ | refine Ev.isNotBl ?_ | refine Ev.augI ?_
  | (refine Ev.ixL (gs := ?gs) (g := ?g) ?e ?h ?_; (case e => assumption); (case h => with_unfolding_all exact rfl)) | (refine Ev.ixT (g := ?g) ?h ?_; (case h => with_unfolding_all exact rfl)) | (refine Ev.lenL (gs := ?gs) ?e ?_; (case e => assumption)) | (refine Ev.isL (gs := ?gs) ?e ?_; (case e => assumption)) | (refine Ev.tupL (gs := ?gs) ?e ?_; (case e => assumption))
  | refine Ev.ttB ?_ | refine Ev.ttVB ?_ | refine Ev.ttNot ?_ | refine Ev.tup ?_ | refine Ev.lst ?_ | refine Ev.sl ?_ | refine Ev.onone ?_ | refine Ev.osome ?_ | refine Ev.fAnd ?_ | refine Ev.fOr ?_ | refine Ev.fNot ?_ | refine Ev.ttAnd ?_ | refine Ev.ttOr ?_ | refine Ev.fIf ?_
  | (refine ⟨?w, ?h, ?_⟩; (case h => with_unfolding_all exact rfl)) | (refine ⟨?h, ?_⟩; (case h => with_unfolding_all exact Nat.le_of_ble_eq_true rfl)) | (refine ⟨?w, ?h, ?_⟩; (case h => exact putL (by assumption) (by with_unfolding_all exact rfl)))
  | dsimp only)
local macro_rules | `(tactic| walk_at "if") => `(tactic| ((with_reducible first | (refine Fls.seq ?_; refine Fls.si ?_) | refine Fls.si ?_); repeat walk_at "ev"))
local macro_rules | `(tactic| walk_at "c") => `(tactic| ((first | (refine ⟨fun _ => ?_, fun h => ?bad⟩; (case bad => first | exact Bool.noConfusion (show true = false from h) | exact Bool.noConfusion (show false = true from h))) | (refine ⟨fun h => ?bad, fun _ => ?_⟩; (case bad => first | exact Bool.noConfusion (show true = false from h) | exact Bool.noConfusion (show false = true from h)))); repeat walk_at "ev"))
def wG : Option Str → G
  | none => .non
  | some v => .str v
theorem E0_beq {y : Str} : (!(y == E0)) = true ↔ y ≠ E0 := by simp
theorem pass_ok {S : Sto} {ax : Str} {sh : List Str} {ev : List K} (X : Ctx sh ev) {dp dq : Nat} {s : Rs} (hp : S[dp]? = some (.dic (pD sh s.P))) (hq : S[dq]? = some (.dic (qD ax sh s.Q))) (hne : dp ≠ dq) :
    Ev (d_make_pass [csG ax ev, .loc dp, .loc dq] S) fun g S' => g = wG (pas ev s).w ∧ S'[dp]? = some (.dic (pD sh (pas ev s).P)) ∧ S'[dq]? = some (.dic (qD ax sh (pas ev s).Q)) ∧ Upto [dp, dq] S S' := by
  have hl1 := X.l1
  refine Ev.call rfl ?_
  unfold b_make_pass
  repeat walk_at "ev"
  refine Fls.seq (Fls.forT ?_)
  repeat walk_at "ev"
  refine Fls.mono (map_inv (Qr := fun _ _ => False) ev (fun pre σ S1 => ∃ (x4 x5 x6 : Option G), σ = [some (csG ax ev), some (.loc dp), some (.loc dq), some (wG (pre.foldl stp ⟨s.P, s.Q, none⟩).w), x4, x5, x6] ∧
      S1[dp]? = some (.dic (pD sh (pre.foldl stp ⟨s.P, s.Q, none⟩).P)) ∧ S1[dq]? = some (.dic (qD ax sh (pre.foldl stp ⟨s.P, s.Q, none⟩).Q)) ∧ Upto [dp, dq] S S1)
    ⟨_, _, _, rfl, hp, hq, Upto.refl _ _⟩ (fun _ _ _ _ => trivial) ?_) ?_
  · rintro pre c post σ S1 epost ⟨x4, x5, x6, rfl, hp1, hq1, U1⟩
    have hc : c ∈ ev := by rw [epost]; simp
    obtain ⟨hcl, hce⟩ := X.hN c hc
    have eapp : (pre ++ [c]).foldl stp ⟨s.P, s.Q, none⟩ = stp (pre.foldl stp ⟨s.P, s.Q, none⟩) c := by rw [List.foldl_append]; rfl
    rw [eapp]
    generalize pre.foldl stp ⟨s.P, s.Q, none⟩ = r at hp1 hq1 ⊢
    refine ⟨_, rfl, ?_⟩
    repeat walk_at "ev"
    refine Ev.ixD hp1 rfl (pD_get hce) ?_
    repeat walk_at "ev"
    refine Fls.si ?_
    repeat walk_at "ev"
    refine Ev.ixD hp1 rfl (pD_get hcl) ?_
    repeat walk_at "ev"
    refine ⟨fun h => ?_, fun h => ?_⟩
    · have h : r.P c.l < r.P c.e + c.g := of_decide_eq_true h
      rw [stp_hit h]
      repeat walk_at "ev"
      refine ⟨_, putD_old hp1 rfl (by rw [dL_len, sizeLine_eq]; simp; omega) (pD_put hcl _), ?_⟩
      have Ua : Upto [dp] S1 (List.set S1 dp (C.dic (pD sh (upd r.P c.l (r.P c.e + c.g))))) := Upto.set (by simp) _
      have hp2 := get_set (c := C.dic (pD sh (upd r.P c.l (r.P c.e + c.g)))) hp1
      have hq2 := Ua.get (by simpa using fun e => hne e.symm) hq1
      generalize List.set S1 dp (C.dic (pD sh (upd r.P c.l (r.P c.e + c.g)))) = S2 at Ua hp2 hq2 ⊢
      repeat walk_at "ev"
      refine ⟨_, putD_old hq2 rfl (by rw [sizeLine_eq]; have := qD_len ax sh r.Q; omega) (qD_put X.ho hcl), ?_⟩
      have Ub : Upto [dq] S2 (List.set S2 dq (C.dic (qD ax sh (upd r.Q c.l (some c))))) := Upto.set (by simp) _
      repeat walk_at "ev"
      exact ⟨_, _, _, rfl, Ub.get (by simpa using hne) hp2, get_set hq2, (U1.trans (Ua.mono (by simp))).trans (Ub.mono (by simp))⟩
    · have h : ¬ r.P c.l < r.P c.e + c.g := of_decide_eq_false h
      rw [stp_skip h]
      repeat walk_at "ev"
      exact ⟨_, _, _, rfl, hp1, hq1, U1⟩
  · intro rr q
    cases rr with
    | nx σ' S1 =>
      obtain ⟨x4, x5, x6, rfl, hp1, hq1, U1⟩ := q
      repeat walk_at "ev"
      exact ⟨rfl, hp1, hq1, U1⟩
    | _ => exact q.elim
theorem chain_ok {S : Sto} {ax : Str} {sh : List Str} {Q : QF Str} {dq : Nat} {v : Str} {w : List K} (hq : S[dq]? = some (.dic (qD ax sh Q))) (hm : ∀ v c, Q v = some c → v ∈ E0 :: sh) (h0 : Q E0 = none) (hw : QP Q w v E0) (hl : w.length ≤ 1000) :
    Ev (d_chain_of [.loc dq, .str v] S) fun g S' => g = csG ax w.reverse ∧ Upto [] S S' := by
  have hdl := lt_of_get hq
  refine Ev.call rfl ?_
  unfold b_chain_of
  repeat walk_at "ev"
  refine Fls.seq (Fls.mono (while_ev (n := fuel_chain_of) (Qr := fun _ _ => False) (Qx := fun σ S1 => ∃ x0 x1 x3, σ = [x0, x1, some (.loc S.length), x3] ∧ S1[S.length]? = some (.lst (w.map (cG ax))) ∧ Upto [] S S1)
    (fun m σ S1 => ∃ (p q : List K) (y : Str), σ = [some (.loc dq), some (.str v), some (.loc S.length), some (.str y)] ∧ S1[dq]? = some (.dic (qD ax sh Q)) ∧ S1[S.length]? = some (.lst (p.map (cG ax))) ∧ w = p ++ q ∧ QP Q q y E0 ∧ m = q.length ∧ Upto [] S S1)
    (m := w.length) ?_ ?_ ?_) ?_)
  · show _ < 100000
    omega
  · exact ⟨[], w, v, rfl, (Upto.app [] _ _).get (by simp) hq, get_new _, rfl, hw, rfl, Upto.app _ _ _⟩
  · rintro m σ S1 ⟨p, q, y, rfl, hq1, hl1, ew, hqp, rfl, U1⟩
    repeat walk_at "ev"
    refine ⟨fun h => ?_, fun h => ?_⟩
    · have hy : y ≠ E0 := E0_beq.mp h
      cases q with
      | nil => exact absurd hqp hy
      | cons c q =>
        obtain ⟨h1, h2⟩ := hqp
        have hyN := hm y c h1
        have hpl : p.length ≤ w.length := by rw [ew]; simp
        repeat walk_at "ev"
        refine Ev.app (n := 0) (gs := []) (y := .non) ?_
        repeat walk_at "ev"
        refine ⟨by rw [getL_lst hl1]; rfl, ?_⟩
        repeat walk_at "ev"
        refine Ev.ixD hq1 rfl (qD_get hyN h1) ?_
        refine ⟨_, hl1, by rw [List.length_map, sizeLine_eq]; omega, ?_⟩
        have Ut : Upto [S.length] S1 (List.set S1 S.length (C.lst (p.map (cG ax) ++ [cG ax c]))) := Upto.set (by simp) _
        have hq2 := Ut.get (by simp; omega) hq1
        repeat walk_at "ev"
        refine Ev.ixD hq2 rfl (qD_get hyN h1) ?_
        repeat walk_at "ev"
        exact ⟨q.length, by simp, p ++ [c], q, c.e, rfl, hq2, by rw [get_set hl1]; simp, by rw [ew]; simp, h2, rfl, ((U1.mono (Z' := [S.length]) (by simp)).trans Ut).drop (fun n hn l => by simp at hn; omega)⟩
    · have hy : y = E0 := by
        by_cases q : y = E0
        · exact q
        · rw [E0_beq.mpr q] at h; cases h
      subst hy
      cases q with
      | nil =>
        refine ⟨_, _, _, rfl, ?_, U1⟩
        rw [ew, List.append_nil]; exact hl1
      | cons c q =>
        exact absurd hqp.1 (by rw [h0]; simp)
  · intro rr q
    cases rr with
    | nx σ' S1 =>
      obtain ⟨x0, x1, x3, rfl, h1, U1⟩ := q
      repeat walk_at "ev"
      refine Ev.revL ?_
      repeat walk_at "ev"
      refine ⟨_, _, rfl, getL_lst h1, ?_⟩
      repeat walk_at "ev"
      refine Ev.tupL (getL_lst (get_new _)) ?_
      exact ⟨by rw [← List.map_reverse], U1.trans (Upto.app _ _ _)⟩
    | _ => exact q.elim
theorem law_chain_ok {S : Sto} {ax : Str} {sh : List Str} {Q : QF Str} {dq : Nat} {v : Str} {w : List K} (hq : S[dq]? = some (.dic (qD ax sh Q))) (hm : ∀ v c, Q v = some c → v ∈ E0 :: sh) (h0 : Q E0 = none) (hw : QP Q w v E0) (hl : w.length ≤ sh.length) (hs : sh.length ≤ 60) :
    Ev (d__law_chain [.loc dq, .str v] S) fun g S' => g = csG ax w.reverse ∧ Upto [] S S' := by
  have hdl := lt_of_get hq
  have hqn : (qD ax sh Q).length = sh.length := by rw [dL_len]; unfold qn; rw [h0]; rfl
  refine Ev.call rfl ?_
  unfold b__law_chain
  repeat walk_at "ev"
  refine Fls.seq (Fls.forR1 ?_)
  repeat walk_at "ev"
  refine Ev.lenD ((Upto.app [] _ _).get (by simp) hq) ?_
  repeat walk_at "ev"
  rw [hqn]
  refine ⟨by omega, ?_⟩
  refine Fls.mono (range_inv (Qr := fun _ _ => False) ((sh.length : Int) + 1).toNat (fun i σ S1 => ∃ (p q : List K) (y : Str) (l : Nat) (x4 : Option G), σ = [some (.loc dq), some (.str v), some (.loc l), some (.str y), x4] ∧ S1[dq]? = some (.dic (qD ax sh Q)) ∧ S1[l]? = some (.lst (p.reverse.map (cG ax))) ∧ w = p ++ q ∧ QP Q q y E0 ∧ (q = [] ∨ p.length = i) ∧ Upto [] S S1)
    ⟨[], w, v, _, _, rfl, (Upto.app [] _ _).get (by simp) hq, get_new _, rfl, hw, .inr rfl, Upto.app _ _ _⟩ ?_) ?_
  · rintro i σ S1 hi ⟨p, q, y, l, x4, rfl, hq1, hl1, ew, hqp, hd, U1⟩
    refine Fls.si ?_
    repeat walk_at "ev"
    refine ⟨fun h => ?_, fun h => ?_⟩
    · have hy : y ≠ E0 := E0_beq.mp h
      cases q with
      | nil => exact absurd hqp hy
      | cons c q =>
        obtain ⟨h1, h2⟩ := hqp
        have hyN := hm y c h1
        have hpl : p.length ≤ w.length := by rw [ew]; simp
        have hpi : p.length = i := by
          rcases hd with hd | hd
          · cases hd
          · exact hd
        repeat walk_at "ev"
        refine Ev.ixD hq1 rfl (qD_get hyN h1) ?_
        repeat walk_at "ev"
        have Ua : Upto [] S1 (S1 ++ [C.lst [cG ax c]]) := Upto.app _ _ _
        refine Ev.addL (get_new _) (Ua.get (by simp) hl1) (line_ok (by simp; omega)) ?_
        have Ub : Upto [] S1 (S1 ++ [C.lst [cG ax c]] ++ [C.lst ([cG ax c] ++ p.reverse.map (cG ax))]) := Ua.trans (Upto.app _ _ _)
        have hq2 := Ub.get (by simp) hq1
        repeat walk_at "ev"
        refine Ev.ixD hq2 rfl (qD_get hyN h1) ?_
        repeat walk_at "ev"
        exact ⟨p ++ [c], q, c.e, _, _, rfl, hq2, by rw [get_new]; simp, by rw [ew]; simp, h2, .inr (by simp; omega), U1.trans Ub⟩
    · have hy : y = E0 := by
        by_cases q : y = E0
        · exact q
        · rw [E0_beq.mpr q] at h; cases h
      subst hy
      cases q with
      | nil =>
        repeat walk_at "ev"
        exact ⟨p, [], E0, l, _, rfl, hq1, hl1, ew, hqp, .inl rfl, U1⟩
      | cons c q =>
        exact absurd hqp.1 (by rw [h0]; simp)
  · intro rr q
    cases rr with
    | nx σ' S1 =>
      obtain ⟨p, q, y, l, x4, rfl, hq1, hl1, ew, hqp, hd, U1⟩ := q
      have hq0 : q = [] := by
        rcases hd with hd | hd
        · exact hd
        · have : w.length = p.length + q.length := by rw [ew]; simp
          omega
      subst hq0
      rw [List.append_nil] at ew
      subst ew
      have hl1' := getL_lst hl1
      repeat walk_at "ev"
      exact ⟨rfl, U1⟩
    | _ => exact q.elim
/-- so far round the ring -/
theorem Ring.part {Q : QF Str} {cy p q : List K} {y z : Str} (R : Ring Q cy y) (e : cy = p ++ q) (hp : p ≠ []) (h1 : QP Q p y z) : (z = y ↔ q = []) := by
  constructor
  · rintro rfl
    have := R.least p h1 hp
    rw [e, List.length_append] at this
    exact List.length_eq_zero_iff.mp (by omega)
  · rintro rfl
    rw [List.append_nil] at e
    subst e
    exact (QP.det h1 R.at' rfl).2
theorem walk_ok {sh : List Str} {Q : QF Str} : ∀ {w : List K} {v y : Str}, QP Q w v y → ∀ i, i < w.length → ∃ p c q z, w = p ++ c :: q ∧ p.length = i ∧ QP Q p v z ∧ Q z = some c ∧ QP Q q c.e y := by
  intro w v y h i hi
  have e : w = w.take i ++ w[i] :: w.drop (i + 1) := by rw [← List.drop_eq_getElem_cons hi, List.take_append_drop]
  rw [e] at h
  obtain ⟨z, h1, h2, h3⟩ := QP.split h
  exact ⟨w.take i, w[i], w.drop (i + 1), z, e, by rw [List.length_take]; omega, h1, h2, h3⟩
theorem cycle_ok {S : Sto} {ax : Str} {sh : List Str} {Q : QF Str} {dq : Nat} {v y : Str} {w cy : List K} {n : Nat} (hq : S[dq]? = some (.dic (qD ax sh Q))) (hm : ∀ v c, Q v = some c → v ∈ E0 :: sh) (hw : QP Q w v y) (hwl : w.length = n) (R : Ring Q cy y) (hl : cy.length ≤ 1000) (hn : n ≤ 1000) :
    Ev (d_cycle_of [.loc dq, .str v, .int (n : Nat)] S) fun g S' => g = csG ax cy.reverse ∧ Upto [] S S' := by
  have hdl := lt_of_get hq
  refine Ev.call rfl ?_
  unfold b_cycle_of
  repeat walk_at "ev"
  refine Fls.seq (Fls.forR1 ?_)
  repeat walk_at "ev"
  refine ⟨by omega, ?_⟩
  refine Fls.mono (range_inv (Qr := fun _ _ => False) ((n : Int)).toNat (fun i σ S1 => ∃ (p q : List K) (z : Str) (x4 : Option G), σ = [some (.loc dq), some (.str v), some (.int (n : Nat)), some (.str z), x4, none, none] ∧ S1 = S ∧ w = p ++ q ∧ p.length = i ∧ QP Q q z y)
    ⟨[], w, v, _, rfl, rfl, rfl, rfl, hw⟩ ?_) ?_
  · rintro i σ S1 hi ⟨p, q, z, x4, rfl, rfl, ew, hpi, hqp⟩
    have hql : w.length = p.length + q.length := by rw [ew]; simp
    cases q with
    | nil => simp at hql; omega
    | cons c q =>
      obtain ⟨h1, h2⟩ := hqp
      repeat walk_at "ev"
      refine Ev.ixD hq rfl (qD_get (hm z c h1) h1) ?_
      repeat walk_at "ev"
      exact ⟨p ++ [c], q, c.e, _, rfl, rfl, by rw [ew]; simp, by simp; omega, h2⟩
  intro rr q
  cases rr with
  | nx σ' S1 =>
    obtain ⟨p, q, z, x4, rfl, rfl, ew, hpi, hqp⟩ := q
    have hql : w.length = p.length + q.length := by rw [ew]; simp
    have hq0 : q = [] := List.length_eq_zero_iff.mp (by omega)
    subst hq0
    have hz : z = y := hqp
    subst hz
    obtain ⟨c, r, ecy⟩ : ∃ c r, cy = c :: r := by
      cases cy with
      | nil => exact absurd rfl R.ne
      | cons c r => exact ⟨c, r, rfl⟩
    have hR := R.at'
    rw [ecy] at hR
    obtain ⟨h1, h2⟩ := hR
    have hzN := hm z c h1
    repeat walk_at "ev"
    refine Ev.ixD hq rfl (qD_get hzN h1) ?_
    repeat walk_at "ev"
    have hq1 := (Upto.app [] S1 [C.lst [cG ax c]]).get (by simp) hq
    refine Ev.ixD hq1 rfl (qD_get hzN h1) ?_
    repeat walk_at "ev"
    refine Fls.seq (Fls.mono (while_ev (n := fuel_cycle_of) (Qr := fun _ _ => False) (Qx := fun σ S2 => ∃ x0 x1 x2 x3 x4 x6, σ = [x0, x1, x2, x3, x4, some (.loc S1.length), x6] ∧ S2[S1.length]? = some (.lst (cy.map (cG ax))) ∧ Upto [] S1 S2)
      (fun m σ S2 => ∃ (p q : List K) (y : Str) (x4 : Option G), σ = [some (.loc dq), some (.str v), some (.int (n : Nat)), some (.str z), x4, some (.loc S1.length), some (.str y)] ∧ S2[dq]? = some (.dic (qD ax sh Q)) ∧ S2[S1.length]? = some (.lst (p.map (cG ax))) ∧ cy = p ++ q ∧ p ≠ [] ∧ QP Q p z y ∧ QP Q q y z ∧ m = q.length ∧ Upto [] S1 S2)
      (m := r.length) ?_ ?_ ?_) ?_)
    · show _ < 100000
      rw [ecy] at hl
      simp at hl
      omega
    · exact ⟨[c], r, c.e, _, rfl, hq1, get_new _, ecy, by simp, ⟨h1, rfl⟩, h2, rfl, Upto.app _ _ _⟩
    · rintro m σ S2 ⟨p, q, y, x4, rfl, hq2, hl2, ew, hpn, hp1, hqp, rfl, U2⟩
      have hpart := R.part ew hpn hp1
      repeat walk_at "ev"
      refine ⟨fun h => ?_, fun h => ?_⟩
      · have hy : y ≠ z := by simpa using h
        cases q with
        | nil => exact absurd (hpart.mpr rfl) hy
        | cons d q =>
          obtain ⟨g1, g2⟩ := hqp
          have hyN := hm y d g1
          have hpl : p.length ≤ cy.length := by rw [ew]; simp
          repeat walk_at "ev"
          refine Ev.app (n := 0) (gs := []) (y := .non) ?_
          repeat walk_at "ev"
          refine ⟨by rw [getL_lst hl2]; rfl, ?_⟩
          repeat walk_at "ev"
          refine Ev.ixD hq2 rfl (qD_get hyN g1) ?_
          refine ⟨_, hl2, by rw [List.length_map, sizeLine_eq]; omega, ?_⟩
          have Ut : Upto [S1.length] S2 (List.set S2 S1.length (C.lst (p.map (cG ax) ++ [cG ax d]))) := Upto.set (by simp) _
          have hq3 := Ut.get (by simp; omega) hq2
          repeat walk_at "ev"
          refine Ev.ixD hq3 rfl (qD_get hyN g1) ?_
          repeat walk_at "ev"
          exact ⟨q.length, by simp, p ++ [d], q, d.e, _, rfl, hq3, by rw [get_set hl2]; simp, by rw [ew]; simp, by simp, hp1.append ⟨g1, rfl⟩, g2, rfl, ((U2.mono (Z' := [S1.length]) (by simp)).trans Ut).drop (fun n hn l => by simp at hn; omega)⟩
      · have hy : y = z := by simpa using h
        have hq0 := hpart.mp hy
        subst hq0
        refine ⟨_, _, _, _, _, _, rfl, ?_, U2⟩
        rw [ew, List.append_nil]; exact hl2
    · intro rr q
      cases rr with
      | nx σ' S2 =>
        obtain ⟨x0, x1, x2, x3, x4, x6, rfl, g1, U2⟩ := q
        repeat walk_at "ev"
        refine Ev.revL ?_
        repeat walk_at "ev"
        refine ⟨_, _, rfl, getL_lst g1, ?_⟩
        repeat walk_at "ev"
        refine Ev.tupL (getL_lst (get_new _)) ?_
        exact ⟨by rw [← List.map_reverse], U2.trans (Upto.app _ _ _)⟩
      | _ => exact q.elim
  | _ => exact q.elim
end K48
set_option Elab.async false
set_option linter.all false
set_option maxRecDepth 100000
set_option maxHeartbeats 1000000
namespace K48
open PySem L2 FL TL
local macro_rules | `(tactic| walk_at "ev") => `(tactic| with_reducible first
  | (refine Ev.var (g := ?g) ?e ?_; (case e => with_unfolding_all exact rfl)) | refine Ev.k ?_ | refine Ev.op ?_ | refine Ev.un ?_ | refine Ev.anil ?_ | refine Ev.acons ?_ | refine Ev.fcall ?_
  | refine Fls.seqSet ?_ | refine Fls.seqExpr ?_ | refine Fls.seqUnp ?_ | refine Fls.seqPar ?_ | refine Fls.seqPut ?_ | (refine Fls.seqAug (x := ?x) ?e ?_; (case e => with_unfolding_all exact rfl)) | refine Fls.seqRet ?_ | refine Fls.set ?_ | refine Fls.expr ?_ | refine Fls.ret ?_ | refine Fls.nil ?_ | refine Fls.unp ?_ | refine Fls.put ?_ | (refine Fls.aug (x := ?x) ?e ?_; (case e => with_unfolding_all exact rfl))
  | refine Ev.addI ?_ | refine Ev.subI ?_ | refine Ev.ltI ?_ | refine Ev.leI ?_ | refine Ev.gtI ?_ | refine Ev.geI ?_ | refine Ev.eqI ?_ | refine Ev.neI ?_ | refine Ev.eqS ?_ | refine Ev.neS ?_ | refine Ev.eqB ?_ | refine Ev.negI ?_
  | refine Ev.intI ?_ | refine Ev.absI ?_ | refine Ev.minI ?_ | refine Ev.maxI ?_ | refine Ev.lenT ?_ | refine Ev.tupT ?_ | refine Ev.lstT ?_ | refine Ev.slT ?_ | refine Ev.isT ?_ | refine Ev.isN ?_ | refine Ev.isB ?_ | refine Ev.isI ?_ | refine Ev.isS ?_ | refine Ev.isNon ?_ | refine Ev.isNotNon ?_ | refine Ev.isBl ?_ | refine Ev.isNotBl ?_ | refine Ev.augI ?_
  | (refine Ev.ixL (gs := ?gs) (g := ?g) ?e ?h ?_; (case e => assumption); (case h => with_unfolding_all exact rfl)) | (refine Ev.ixT (g := ?g) ?h ?_; (case h => with_unfolding_all exact rfl)) | (refine Ev.lenL (gs := ?gs) ?e ?_; (case e => assumption)) | (refine Ev.isL (gs := ?gs) ?e ?_; (case e => assumption)) | (refine Ev.tupL (gs := ?gs) ?e ?_; (case e => assumption))
  | refine Ev.ttB ?_ | refine Ev.ttVB ?_ | refine Ev.ttNot ?_ | refine Ev.tup ?_ | refine Ev.lst ?_ | refine Ev.sl ?_ | refine Ev.onone ?_ | refine Ev.osome ?_ | refine Ev.fAnd ?_ | refine Ev.fOr ?_ | refine Ev.fNot ?_ | refine Ev.ttAnd ?_ | refine Ev.ttOr ?_ | refine Ev.fIf ?_
  | (refine ⟨?w, ?h, ?_⟩; (case h => with_unfolding_all exact rfl)) | (refine ⟨?h, ?_⟩; (case h => with_unfolding_all exact Nat.le_of_ble_eq_true rfl)) | (refine ⟨?w, ?h, ?_⟩; (case h => exact putL (by assumption) (by with_unfolding_all exact rfl)))
  | dsimp only)
local macro_rules | `(tactic| walk_at "if") => `(tactic| ((with_reducible first | (refine Fls.seq ?_; refine Fls.si ?_) | refine Fls.si ?_); repeat walk_at "ev"))
local macro_rules | `(tactic| walk_at "c") => `(tactic| ((first | (refine ⟨fun _ => ?_, fun h => ?bad⟩; (case bad => first | exact Bool.noConfusion (show true = false from h) | exact Bool.noConfusion (show false = true from h))) | (refine ⟨fun h => ?bad, fun _ => ?_⟩; (case bad => first | exact Bool.noConfusion (show true = false from h) | exact Bool.noConfusion (show false = true from h)))); repeat walk_at "ev"))
theorem q0_qD {ax : Str} {sh : List Str} (ho : E0 ∉ sh) : qD ax sh (q0 sh) = dL (β := Str) Sum.inr (fun n => cG ax (ownC E0 n)) sh := by
  have e1 : qn sh (q0 sh) = sh := by unfold qn q0; rw [if_neg (by simp [ho])]
  unfold qD
  rw [e1]
  unfold dL
  refine List.map_congr_left fun y hy => ?_
  show (Sum.inr y, qv ax (q0 sh y)) = _
  unfold q0
  rw [if_pos hy]; rfl
/-- the dicts at the start -/
structure Dic (ax : Str) (sh : List Str) (s : Rs) (dp dq : Nat) (S : Sto) : Prop where
  p : S[dp]? = some (.dic (pD sh s.P))
  q : S[dq]? = some (.dic (qD ax sh s.Q))
theorem Dic.upto {ax : Str} {sh : List Str} {s : Rs} {dp dq : Nat} {S S' : Sto} (D : Dic ax sh s dp dq S) (U : Upto [] S S') : Dic ax sh s dp dq S' := ⟨U.get (by simp) D.p, U.get (by simp) D.q⟩
theorem inv_mem {sh : List Str} {ev : List K} (X : Ctx sh ev) {P : Str → Int} {Q : QF Str} {R T : Str → Nat} {k t : Nat} {dn : List K} (I : Inv ev E0 sh P Q R T k t dn) : ∀ v c, Q v = some c → v ∈ E0 :: sh := fun v c h => by
  obtain ⟨h1, h2, _⟩ := I.c1 v c h
  rw [← h1]
  exact (X.hN c h2).1
theorem wG_not (w : Option Str) : FL.isNon (wG w) = w.isNone := by cases w <;> rfl
theorem chains_of {sh : List Str} {Q : QF Str} {n : Nat} (h : ∀ s ∈ sh, ∃ w, QP Q w s E0 ∧ w.length ≤ n) : ∃ ch : Str → List K, ∀ s ∈ sh, QP Q (ch s) s E0 ∧ (ch s).length ≤ n := by
  classical
  refine ⟨fun s => if hs : s ∈ sh then Classical.choose (h s hs) else [], fun s hs => ?_⟩
  dsimp only
  rw [dif_pos hs]
  exact Classical.choose_spec (h s hs)
theorem place_ok {S : Sto} {ax : Str} {sh : List Str} {cs : List K} (X : Ctx sh (evL sh cs)) (hc : cs.length ≤ 900) :
    Ev (d_place_axis [.str ax, shG sh, csG ax cs] S) fun g S' => Due ax sh (evL sh cs) g ∧ Upto [] S S' := by
  have hl1 := X.l1
  refine Ev.call rfl ?_
  unfold b_place_axis
  refine Fls.seqSet (Ev.disp1 ?_)
  repeat walk_at "ev"
  refine ⟨get_new _, ?_⟩
  refine Fls.seqSet (Ev.dic0 ?_)
  have U0 : Upto [] S (List.set (S ++ [C.dic []]) S.length (.dic [(.inr E0, .int 0)]) ++ [C.dic []]) := by
    have h1 : Upto [S.length] (S ++ [C.dic []]) (List.set (S ++ [C.dic []]) S.length (.dic [(.inr E0, .int 0)])) := Upto.set (by simp) _
    exact (((Upto.app [S.length] S _).trans h1).trans (Upto.app _ _ _)).drop (fun n hn l => by simp at hn; omega)
  have hp0 : (List.set (S ++ [C.dic []]) S.length (.dic [(.inr E0, .int 0)]) ++ [C.dic []])[S.length]? = some (.dic [(.inr E0, .int 0)]) := by
    rw [List.getElem?_append_left (by simp)]
    exact get_set (get_new _)
  have hq0 : (List.set (S ++ [C.dic []]) S.length (.dic [(.inr E0, .int 0)]) ++ [C.dic []])[(List.set (S ++ [C.dic []]) S.length (.dic [(.inr E0, .int 0)])).length]? = some (.dic []) := get_new _
  have hne0 : S.length < (List.set (S ++ [C.dic []]) S.length (C.dic [(.inr E0, .int 0)])).length := by simp
  generalize (List.set (S ++ [C.dic []]) S.length (C.dic [(.inr E0, .int 0)])).length = dq at hq0 hne0 ⊢
  generalize List.set (S ++ [C.dic []]) S.length (.dic [(.inr E0, .int 0)]) ++ [C.dic []] = S0 at U0 hp0 hq0 ⊢
  generalize hdp : S.length = dp at hne0 hp0 ⊢
  have hne : dp ≠ dq := by omega
  refine Fls.seq (Fls.forT ?_)
  repeat walk_at "ev"
  refine Ev.mono (own_ok (by omega)) ?_
  rintro g S1 ⟨rfl, U1⟩
  refine ⟨_, rfl, ?_⟩
  rw [List.map_map]
  refine Fls.mono (map_inv (Qr := fun _ _ => False) sh (fun pre σ S2 => ∃ (x5 : Option G), σ = [some (.str ax), some (shG sh), some (csG ax cs), some (.loc dp), some (.loc dq), x5, none, none, none, none, none] ∧
      S2[dp]? = some (.dic (dL (β := Str) Sum.inr (fun _ => G.int 0) (E0 :: pre))) ∧ S2[dq]? = some (.dic (dL (β := Str) Sum.inr (fun n => cG ax (ownC E0 n)) pre)) ∧ Upto [] S S2)
    ⟨_, rfl, U1.get (by simp) hp0, U1.get (by simp) hq0, U0.trans U1⟩ (fun _ _ _ _ => trivial) ?_) ?_
  · rintro pre s post σ S2 epost ⟨x5, rfl, hp2, hq2, U2⟩
    have hpl : pre.length ≤ sh.length := by rw [epost]; simp
    have hnot : s ∉ pre := fun hm => by
      have := X.nd
      rw [epost, List.nodup_append] at this
      exact this.2.2 s hm s List.mem_cons_self rfl
    have hnotE : s ∉ E0 :: pre := fun hm => by
      rcases List.mem_cons.mp hm with e | hm
      · exact X.ho (by rw [← e, epost]; simp)
      · exact hnot hm
    refine ⟨_, rfl, ?_⟩
    dsimp only [Function.comp]
    repeat walk_at "ev"
    refine ⟨_, putD_old hp2 rfl (by rw [dL_len, sizeLine_eq]; simp; omega) (dL_new inr_inj (L := fun _ => G.int 0) (x := s) hnotE), ?_⟩
    have Ua : Upto [dp] S2 (List.set S2 dp (C.dic (dL (β := Str) Sum.inr (fun _ => G.int 0) (E0 :: pre ++ [s])))) := Upto.set (by simp) _
    have hp3 := get_set (c := C.dic (dL (β := Str) Sum.inr (fun _ => G.int 0) (E0 :: pre ++ [s]))) hp2
    have hq3 := Ua.get (by simp; omega) hq2
    generalize List.set S2 dp (C.dic (dL (β := Str) Sum.inr (fun _ => G.int 0) (E0 :: pre ++ [s]))) = S3 at Ua hp3 hq3 ⊢
    repeat walk_at "ev"
    refine ⟨_, putD_old hq3 rfl (by rw [dL_len, sizeLine_eq]; omega) (dL_new inr_inj (L := fun n => cG ax (ownC E0 n)) (x := s) hnot), ?_⟩
    have Ub : Upto [dq] S3 (List.set S3 dq (C.dic (dL (β := Str) Sum.inr (fun n => cG ax (ownC E0 n)) (pre ++ [s])))) := Upto.set (by simp) _
    exact ⟨_, rfl, Ub.get (by simp; omega) hp3, get_set hq3, (((U2.mono (Z' := [dp, dq]) (by simp)).trans (Ua.mono (by simp))).trans (Ub.mono (by simp))).drop (fun n hn l => by simp at hn; omega)⟩
  intro rr q
  cases rr with
  | nx σ S2 =>
    obtain ⟨x5, rfl, hp2, hq2, U2⟩ := q
    have D2 : Dic ax sh (run sh (evL sh cs) 0) dp dq S2 := ⟨hp2, by rw [show (run sh (evL sh cs) 0).Q = q0 sh from rfl, q0_qD X.ho]; exact hq2⟩
    repeat walk_at "ev"
    refine Ev.mono (all_ok (by omega) (by omega)) ?_
    rintro g S3 ⟨rfl, U3⟩
    repeat walk_at "ev"
    refine Fls.seq (Fls.mono (while_ev (n := fuel_place_axis) (Qr := fun _ _ => False) (Qx := fun σ S4 => ∃ (m : Nat) (x5 : Option G), σ = [some (.str ax), some (shG sh), some (csG ax cs), some (.loc dp), some (.loc dq), x5, some (csG ax (evL sh cs)), some (wG (run sh (evL sh cs) m).w), some (.int m), none, none] ∧ Fin sh (evL sh cs) m ∧ Dic ax sh (run sh (evL sh cs) m) dp dq S4 ∧ Upto [] S S4)
      (fun m σ S4 => ∃ (i : Nat) (x5 : Option G), σ = [some (.str ax), some (shG sh), some (csG ax cs), some (.loc dp), some (.loc dq), x5, some (csG ax (evL sh cs)), some (wG (run sh (evL sh cs) i).w), some (.int i), none, none] ∧ (∀ j, j < i → (run sh (evL sh cs) j).w ≠ none) ∧ i ≤ sh.length + 2 ∧ m = sh.length + 2 - i ∧ Dic ax sh (run sh (evL sh cs) i) dp dq S4 ∧ Upto [] S S4)
      (m := sh.length + 2) ?_ ?_ ?_) ?_)
    · show _ < 100000
      omega
    · exact ⟨0, _, rfl, fun j h => absurd h (Nat.not_lt_zero _), by omega, rfl, D2.upto U3, U2.trans U3⟩
    · rintro m σ S4 ⟨i, x5, rfl, hj, hi, rfl, D4, U4⟩
      repeat walk_at "ev"
      rw [wG_not]
      refine ⟨fun h => ?_, fun h => ?_⟩
      · have hw : (run sh (evL sh cs) i).w ≠ none := fun e => by rw [e] at h; cases h
        repeat walk_at "ev"
        refine ⟨fun h2 => ?_, fun h2 => ?_⟩
        · have h2 : i < sh.length + 2 := by
            have := of_decide_eq_true h2
            rw [List.length_map] at this
            omega
          repeat walk_at "ev"
          refine Ev.mono (pass_ok X D4.p D4.q hne) ?_
          rintro g S5 ⟨rfl, hp5, hq5, U5⟩
          repeat walk_at "ev"
          refine ⟨sh.length + 2 - (i + 1), by omega, i + 1, _, rfl, fun j hj2 => ?_, by omega, rfl, ⟨hp5, hq5⟩, ((U4.mono (Z' := [dp, dq]) (by simp)).trans U5).drop (fun n hn l => by simp at hn; omega)⟩
          by_cases q : j = i
          · subst q; exact hw
          · exact hj j (by omega)
        · have h2 : i = sh.length + 2 := by
            have := of_decide_eq_false h2
            rw [List.length_map] at this
            omega
          exact ⟨i, _, rfl, ⟨by omega, by omega, fun j _ h => hj j h, .inr h2⟩, D4, U4⟩
      · have hw : (run sh (evL sh cs) i).w = none := by
          cases q : (run sh (evL sh cs) i).w with
          | none => rfl
          | some v => rw [q] at h; cases h
        have hi0 : i ≠ 0 := by rintro rfl; cases hw
        refine ⟨(fun h => nomatch h), fun _ => ?_⟩
        exact ⟨i, _, rfl, ⟨by omega, by omega, fun j _ h => hj j h, .inl hw⟩, D4, U4⟩
    · intro rr q
      cases rr with
      | nx σ S4 =>
        obtain ⟨m, x5, rfl, F, D4, U4⟩ := q
        obtain ⟨R, T, t, I, hL⟩ := run_inv X m
        have hL := hL F.h1
        have hm := inv_mem X I
        walk_at "if"
        rw [wG_not]
        cases ew : (run sh (evL sh cs) m).w with
        | some v =>
          rw [ew] at hL
          have hm2 : m = sh.length + 2 := by
            rcases F.h4 with h | h
            · rw [ew] at h; cases h
            · exact h
          obtain ⟨w, y, cy, h1, h2, hR, hcl, _⟩ := I.ring X.hN hL.1 (by omega)
          refine ⟨fun _ => ?_, fun h => nomatch h⟩
          repeat walk_at "ev"
          rw [List.length_map, show ((sh.length : Nat) : Int) + 1 = ((sh.length + 1 : Nat) : Int) by omega]
          refine Ev.mono (cycle_ok D4.q hm h1 h2 hR (by omega) (by omega)) ?_
          rintro g S5 ⟨rfl, U5⟩
          repeat walk_at "ev"
          exact ⟨⟨m, F, .inr ⟨v, w, y, cy, ew, h1, h2, hR, rfl⟩⟩, U4.trans U5⟩
        | none =>
          rw [ew] at hL
          have hF : Fix (evL sh cs) (run sh (evL sh cs) m).P := hL
          have h0 := (I.chain hF X.hN (v := E0) (by simp)).1
          obtain ⟨ch, hch⟩ := chains_of (sh := sh) (Q := (run sh (evL sh cs) m).Q) (n := sh.length) fun s hs => by
            obtain ⟨_, w, h1, h2, _⟩ := I.chain hF X.hN (v := s) (by simp [hs])
            exact ⟨w, h1, h2⟩
          refine ⟨fun h => (nomatch h), fun _ => ?_⟩
          repeat walk_at "ev"
          refine Ev.lcInvT (β := Str) (f := G.str) (fun S1 pre acc S' => acc = pre.map (fun s => csG ax (ch s).reverse) ∧ Upto [] S1 S') ?_
          repeat walk_at "ev"
          refine ⟨⟨rfl, Upto.app _ _ _⟩, ?_, ?_⟩
          · rintro pre s post acc S5 epost ⟨rfl, U5⟩ hacc
            have hs : s ∈ sh := by rw [epost]; simp
            have hpl : pre.length ≤ sh.length := by rw [epost]; simp
            have D5 := D4.upto U5
            refine ⟨_, rfl, Ev.ok ⟨fun _ => ?_, fun h => nomatch h⟩⟩
            repeat walk_at "ev"
            refine Ev.mono (chain_ok D5.q hm h0 (hch s hs).1 (by have := (hch s hs).2; omega)) ?_
            rintro g S6 ⟨rfl, U6⟩
            refine ⟨U6.get (by simp) hacc, by rw [List.length_map, sizeLine_eq]; omega, by simp, ?_⟩
            have Ut : Upto [S4.length] S6 (List.set S6 S4.length (C.lst (pre.map (fun s => csG ax (ch s).reverse) ++ [csG ax (ch s).reverse]))) := Upto.set (by simp) _
            exact (((U5.trans U6).mono (Z' := [S4.length]) (by simp)).trans Ut).drop (fun n hn l => by simp at hn; omega)
          rintro acc S5 hacc ⟨rfl, U5⟩
          repeat walk_at "ev"
          refine Ev.tupL (getL_lst hacc) ?_
          repeat walk_at "ev"
          refine Ev.lcT (β := Str) (f := G.str) (h := fun s => .int ((run sh (evL sh cs) m).P s)) ?_
          repeat walk_at "ev"
          have D5 := D4.upto U5
          refine ⟨by omega, fun x hx => ⟨_, rfl, fun S6 U6 => ?_⟩, ?_⟩
          · refine Ev.ok ⟨rfl, rfl, ?_⟩
            repeat walk_at "ev"
            refine Ev.ixD (D5.upto U6).p rfl (pD_get (by simp [hx])) ?_
            exact ⟨rfl, rfl⟩
          repeat walk_at "ev"
          refine Ev.tupL (getL_lst (get_new _)) ?_
          repeat walk_at "ev"
          exact ⟨⟨m, F, .inl ⟨ew, ch, fun s hs => (hch s hs).1, h0, rfl⟩⟩, (U4.trans U5).trans (Upto.app _ _ _)⟩
      | _ => exact q.elim
  | _ => exact q.elim
end K48
set_option Elab.async false
set_option linter.all false
set_option maxRecDepth 100000
set_option maxHeartbeats 1000000
namespace K48
open PySem L2 FL TL
local macro_rules | `(tactic| walk_at "ev") => `(tactic| with_reducible first
  | (refine Ev.var (g := ?g) ?e ?_; (case e => with_unfolding_all exact rfl)) | refine Ev.k ?_ | refine Ev.op ?_ | refine Ev.un ?_ | refine Ev.anil ?_ | refine Ev.acons ?_ | refine Ev.fcall ?_
  | refine Fls.seqSet ?_ | refine Fls.seqExpr ?_ | refine Fls.seqUnp ?_ | refine Fls.seqPar ?_ | refine Fls.seqPut ?_ | (refine Fls.seqAug (x := ?x) ?e ?_; (case e => with_unfolding_all exact rfl)) | refine Fls.seqRet ?_ | refine Fls.set ?_ | refine Fls.expr ?_ | refine Fls.ret ?_ | refine Fls.nil ?_ | refine Fls.unp ?_ | refine Fls.put ?_ | (refine Fls.aug (x := ?x) ?e ?_; (case e => with_unfolding_all exact rfl))
  | refine Ev.addI ?_ | refine Ev.subI ?_ | refine Ev.ltI ?_ | refine Ev.leI ?_ | refine Ev.gtI ?_ | refine Ev.geI ?_ | refine Ev.eqI ?_ | refine Ev.neI ?_ | refine Ev.eqS ?_ | refine Ev.neS ?_ | refine Ev.eqB ?_ | refine Ev.negI ?_
  | refine Ev.intI ?_ | refine Ev.absI ?_ | refine Ev.minI ?_ | refine Ev.maxI ?_ | refine Ev.lenT ?_ | refine Ev.tupT ?_ | refine Ev.lstT ?_ | refine Ev.slT ?_ | refine Ev.isT ?_ | refine Ev.isN ?_ | refine Ev.isB ?_ | refine Ev.isI ?_ | refine Ev.isS ?_ | refine Ev.isNon ?_ | refine Ev.isNotNon ?_ | refine Ev.isBl ?_ | refine Ev.isNotBl ?_ | refine Ev.augI ?_
  | (refine Ev.ixL (gs := ?gs) (g := ?g) ?e ?h ?_; (case e => assumption); (case h => with_unfolding_all exact rfl)) | (refine Ev.ixT (g := ?g) ?h ?_; (case h => with_unfolding_all exact rfl)) | (refine Ev.lenL (gs := ?gs) ?e ?_; (case e => assumption)) | (refine Ev.isL (gs := ?gs) ?e ?_; (case e => assumption)) | (refine Ev.tupL (gs := ?gs) ?e ?_; (case e => assumption))
  | refine Ev.ttB ?_ | refine Ev.ttVB ?_ | refine Ev.ttNot ?_ | refine Ev.tup ?_ | refine Ev.lst ?_ | refine Ev.sl ?_ | refine Ev.onone ?_ | refine Ev.osome ?_ | refine Ev.fAnd ?_ | refine Ev.fOr ?_ | refine Ev.fNot ?_ | refine Ev.ttAnd ?_ | refine Ev.ttOr ?_ | refine Ev.fIf ?_
  | (refine ⟨?w, ?h, ?_⟩; (case h => with_unfolding_all exact rfl)) | (refine ⟨?h, ?_⟩; (case h => with_unfolding_all exact Nat.le_of_ble_eq_true rfl)) | (refine ⟨?w, ?h, ?_⟩; (case h => exact putL (by assumption) (by with_unfolding_all exact rfl)))
  | dsimp only)
local macro_rules | `(tactic| walk_at "if") => `(tactic| ((with_reducible first | (refine Fls.seq ?_; refine Fls.si ?_) | refine Fls.si ?_); repeat walk_at "ev"))
local macro_rules | `(tactic| walk_at "c") => `(tactic| ((first | (refine ⟨fun _ => ?_, fun h => ?bad⟩; (case bad => first | exact Bool.noConfusion (show true = false from h) | exact Bool.noConfusion (show false = true from h))) | (refine ⟨fun h => ?bad, fun _ => ?_⟩; (case bad => first | exact Bool.noConfusion (show true = false from h) | exact Bool.noConfusion (show false = true from h)))); repeat walk_at "ev"))
theorem due_ok {S : Sto} {ax : Str} {sh : List Str} {cs : List K} (X : Ctx sh (evL sh cs)) (hc : cs.length ≤ 900) :
    Ev (d__law_due [.str ax, shG sh, csG ax cs] S) fun g S' => Due ax sh (evL sh cs) g ∧ Upto [] S S' := by
  have hl1 := X.l1
  refine Ev.call rfl ?_
  unfold b__law_due
  refine Fls.seqSet (Ev.disp1 ?_)
  repeat walk_at "ev"
  refine ⟨get_new _, ?_⟩
  refine Fls.seqSet (Ev.dic0 ?_)
  have U0 : Upto [] S (List.set (S ++ [C.dic []]) S.length (.dic [(.inr E0, .int 0)]) ++ [C.dic []]) := by
    have h1 : Upto [S.length] (S ++ [C.dic []]) (List.set (S ++ [C.dic []]) S.length (.dic [(.inr E0, .int 0)])) := Upto.set (by simp) _
    exact (((Upto.app [S.length] S _).trans h1).trans (Upto.app _ _ _)).drop (fun n hn l => by simp at hn; omega)
  have hp0 : (List.set (S ++ [C.dic []]) S.length (.dic [(.inr E0, .int 0)]) ++ [C.dic []])[S.length]? = some (.dic [(.inr E0, .int 0)]) := by
    rw [List.getElem?_append_left (by simp)]
    exact get_set (get_new _)
  have hq0 : (List.set (S ++ [C.dic []]) S.length (.dic [(.inr E0, .int 0)]) ++ [C.dic []])[(List.set (S ++ [C.dic []]) S.length (.dic [(.inr E0, .int 0)])).length]? = some (.dic []) := get_new _
  have hne0 : S.length < (List.set (S ++ [C.dic []]) S.length (C.dic [(.inr E0, .int 0)])).length := by simp
  generalize (List.set (S ++ [C.dic []]) S.length (C.dic [(.inr E0, .int 0)])).length = dq at hq0 hne0 ⊢
  generalize List.set (S ++ [C.dic []]) S.length (.dic [(.inr E0, .int 0)]) ++ [C.dic []] = S0 at U0 hp0 hq0 ⊢
  generalize hdp : S.length = dp at hne0 hp0 ⊢
  have hne : dp ≠ dq := by omega
  refine Fls.seq (Fls.forT ?_)
  repeat walk_at "ev"
  refine Fls.mono (map_inv (Qr := fun _ _ => False) sh (fun pre σ S2 => ∃ (x5 : Option G), σ = [some (.str ax), some (shG sh), some (csG ax cs), some (.loc dp), some (.loc dq), x5, none, none, none, none, none, none, none, none] ∧
      S2[dp]? = some (.dic (dL (β := Str) Sum.inr (fun _ => G.int 0) (E0 :: pre))) ∧ S2[dq]? = some (.dic (dL (β := Str) Sum.inr (fun n => cG ax (ownC E0 n)) pre)) ∧ Upto [] S S2)
    ⟨_, rfl, hp0, hq0, U0⟩ (fun _ _ _ _ => trivial) ?_) ?_
  · rintro pre s post σ S2 epost ⟨x5, rfl, hp2, hq2, U2⟩
    have hpl : pre.length ≤ sh.length := by rw [epost]; simp
    have hnot : s ∉ pre := fun hm => by
      have := X.nd
      rw [epost, List.nodup_append] at this
      exact this.2.2 s hm s List.mem_cons_self rfl
    have hnotE : s ∉ E0 :: pre := fun hm => by
      rcases List.mem_cons.mp hm with e | hm
      · exact X.ho (by rw [← e, epost]; simp)
      · exact hnot hm
    refine ⟨_, rfl, ?_⟩
    repeat walk_at "ev"
    refine ⟨_, putD_old hp2 rfl (by rw [dL_len, sizeLine_eq]; simp; omega) (dL_new inr_inj (L := fun _ => G.int 0) (x := s) hnotE), ?_⟩
    have Ua : Upto [dp] S2 (List.set S2 dp (C.dic (dL (β := Str) Sum.inr (fun _ => G.int 0) (E0 :: pre ++ [s])))) := Upto.set (by simp) _
    have hp3 := get_set (c := C.dic (dL (β := Str) Sum.inr (fun _ => G.int 0) (E0 :: pre ++ [s]))) hp2
    have hq3 := Ua.get (by simp; omega) hq2
    generalize List.set S2 dp (C.dic (dL (β := Str) Sum.inr (fun _ => G.int 0) (E0 :: pre ++ [s]))) = S3 at Ua hp3 hq3 ⊢
    repeat walk_at "ev"
    refine ⟨_, putD_old hq3 rfl (by rw [dL_len, sizeLine_eq]; omega) (dL_new inr_inj (L := fun n => cG ax (ownC E0 n)) (x := s) hnot), ?_⟩
    have Ub : Upto [dq] S3 (List.set S3 dq (C.dic (dL (β := Str) Sum.inr (fun n => cG ax (ownC E0 n)) (pre ++ [s])))) := Upto.set (by simp) _
    exact ⟨_, rfl, Ub.get (by simp; omega) hp3, get_set hq3, (((U2.mono (Z' := [dp, dq]) (by simp)).trans (Ua.mono (by simp))).trans (Ub.mono (by simp))).drop (fun n hn l => by simp at hn; omega)⟩
  intro rr q
  cases rr with
  | nx σ S2 =>
    obtain ⟨x5, rfl, hp2, hq2, U2⟩ := q
    have D2 : Dic ax sh (run sh (evL sh cs) 0) dp dq S2 := ⟨hp2, by rw [show (run sh (evL sh cs) 0).Q = q0 sh from rfl, q0_qD X.ho]; exact hq2⟩
    repeat walk_at "ev"
    refine Fls.seq (Fls.forR1 ?_)
    repeat walk_at "ev"
    rw [List.length_map]
    refine ⟨by omega, ?_⟩
    have et : ((sh.length : Int) + 2).toNat = sh.length + 2 := by omega
    rw [et]
    refine Fls.mono (range_inv (Qr := fun g S' => Due ax sh (evL sh cs) g ∧ Upto [] S S') (sh.length + 2) (fun i σ S4 => ∃ (x5 x7 x8 x9 x10 : Option G), σ = [some (.str ax), some (shG sh), some (csG ax cs), some (.loc dp), some (.loc dq), x5, some (wG (run sh (evL sh cs) i).w), x7, x8, x9, x10, none, none, none] ∧ (∀ j, j < i + 1 → (run sh (evL sh cs) j).w ≠ none) ∧ Dic ax sh (run sh (evL sh cs) i) dp dq S4 ∧ Upto [] S S4)
      ⟨_, _, _, _, _, rfl, (fun j h => by
        have : j = 0 := by omega
        subst this
        exact fun h => nomatch h), D2, U2⟩ ?_) ?_
    · rintro i σ S4 hi ⟨x5, x7, x8, x9, x10, rfl, hj, D4, U4⟩
      repeat walk_at "ev"
      refine Fls.seq (Fls.forL ?_)
      repeat walk_at "ev"
      refine Ev.mono (every_ok (by omega) (by omega)) ?_
      rintro g S5 ⟨l, rfl, hll, hl5, U5⟩
      refine ⟨_, _, rfl, getL_lst hl5, ?_⟩
      have hdp4 := lt_of_get D4.p
      have hdq4 := lt_of_get D4.q
      have D5 := D4.upto U5
      have hrun : run sh (evL sh cs) (i + 1) = (evL sh cs).foldl stp ⟨(run sh (evL sh cs) i).P, (run sh (evL sh cs) i).Q, none⟩ := rfl
      refine Fls.mono (map_inv (Qr := fun _ _ => False) (evL sh cs) (fun pre σ S6 => ∃ (x8 x9 : Option G), σ = [some (.str ax), some (shG sh), some (csG ax cs), some (.loc dp), some (.loc dq), x5, some (wG (pre.foldl stp ⟨(run sh (evL sh cs) i).P, (run sh (evL sh cs) i).Q, none⟩).w), some (.int i), x8, x9, x10, none, none, none] ∧
          Dic ax sh (pre.foldl stp ⟨(run sh (evL sh cs) i).P, (run sh (evL sh cs) i).Q, none⟩) dp dq S6 ∧ S6[l]? = some (.lst ((evL sh cs).map (cG ax))) ∧ Upto [dp, dq] S5 S6)
        ⟨_, _, rfl, ⟨D5.p, D5.q⟩, hl5, Upto.refl _ _⟩ (fun pre σ S6 h => by obtain ⟨_, _, _, _, h, _⟩ := h; exact getL_lst h) ?_) ?_
      · rintro pre c post σ S6 epost ⟨x8, x9, rfl, D6, hl6, U6⟩
        have hc : c ∈ evL sh cs := by rw [epost]; simp
        obtain ⟨hcl, hce⟩ := X.hN c hc
        have eapp : (pre ++ [c]).foldl stp ⟨(run sh (evL sh cs) i).P, (run sh (evL sh cs) i).Q, none⟩ = stp (pre.foldl stp ⟨(run sh (evL sh cs) i).P, (run sh (evL sh cs) i).Q, none⟩) c := by rw [List.foldl_append]; rfl
        rw [eapp]
        generalize pre.foldl stp ⟨(run sh (evL sh cs) i).P, (run sh (evL sh cs) i).Q, none⟩ = r at D6 ⊢
        have hp1 := D6.p
        have hq1 := D6.q
        refine ⟨_, rfl, ?_⟩
        repeat walk_at "ev"
        refine Ev.ixD hp1 rfl (pD_get hce) ?_
        repeat walk_at "ev"
        refine Fls.si ?_
        repeat walk_at "ev"
        refine Ev.ixD hp1 rfl (pD_get hcl) ?_
        repeat walk_at "ev"
        refine ⟨fun h => ?_, fun h => ?_⟩
        · have h : r.P c.l < r.P c.e + c.g := of_decide_eq_true h
          rw [stp_hit h]
          repeat walk_at "ev"
          refine ⟨_, putD_old hp1 rfl (by rw [dL_len, sizeLine_eq]; simp; omega) (pD_put hcl _), ?_⟩
          have Ua : Upto [dp] S6 (List.set S6 dp (C.dic (pD sh (upd r.P c.l (r.P c.e + c.g))))) := Upto.set (by simp) _
          have hp2 := get_set (c := C.dic (pD sh (upd r.P c.l (r.P c.e + c.g)))) hp1
          have hq2 := Ua.get (by simpa using fun e => hne e.symm) hq1
          have hl7 := Ua.get (by simp; omega) hl6
          generalize List.set S6 dp (C.dic (pD sh (upd r.P c.l (r.P c.e + c.g)))) = S7 at Ua hp2 hq2 hl7 ⊢
          repeat walk_at "ev"
          refine ⟨_, putD_old hq2 rfl (by rw [sizeLine_eq]; have := qD_len ax sh r.Q; omega) (qD_put X.ho hcl), ?_⟩
          have Ub : Upto [dq] S7 (List.set S7 dq (C.dic (qD ax sh (upd r.Q c.l (some c))))) := Upto.set (by simp) _
          repeat walk_at "ev"
          exact ⟨_, _, rfl, ⟨Ub.get (by simpa using hne) hp2, get_set hq2⟩, Ub.get (by simp; omega) hl7, (U6.trans (Ua.mono (by simp))).trans (Ub.mono (by simp))⟩
        · have h : ¬ r.P c.l < r.P c.e + c.g := of_decide_eq_false h
          rw [stp_skip h]
          repeat walk_at "ev"
          exact ⟨_, _, rfl, D6, hl6, U6⟩
      · intro rr q
        cases rr with
        | nx σ' S6 =>
          obtain ⟨x8, x9, rfl, D6, hl6, U6⟩ := q
          rw [← hrun] at D6 ⊢
          have U46 : Upto [] S S6 := (((U4.trans U5).mono (Z' := [dp, dq]) (by simp)).trans U6).drop (fun n hn l => by simp at hn; omega)
          refine Fls.si ?_
          repeat walk_at "ev"
          rw [wG_not]
          refine ⟨fun h => ?_, fun h => ?_⟩
          · have ew : (run sh (evL sh cs) (i + 1)).w = none := by
              cases q : (run sh (evL sh cs) (i + 1)).w with
              | none => rfl
              | some v => rw [q] at h; cases h
            have F : Fin sh (evL sh cs) (i + 1) := ⟨by omega, by omega, fun j _ h => hj j h, .inl ew⟩
            obtain ⟨R, T, t, I, hL⟩ := run_inv X (i + 1)
            have hL := hL F.h1
            have hm := inv_mem X I
            rw [ew] at hL
            have hF : Fix (evL sh cs) (run sh (evL sh cs) (i + 1)).P := hL
            have h0 := (I.chain hF X.hN (v := E0) (by simp)).1
            obtain ⟨ch, hch⟩ := chains_of (sh := sh) (Q := (run sh (evL sh cs) (i + 1)).Q) (n := sh.length) fun s hs => by
              obtain ⟨_, w, h1, h2, _⟩ := I.chain hF X.hN (v := s) (by simp [hs])
              exact ⟨w, h1, h2⟩
            repeat walk_at "ev"
            refine Ev.lcInvT (β := Str) (f := G.str) (fun S1 pre acc S' => acc = pre.map (fun s => csG ax (ch s).reverse) ∧ Upto [] S1 S') ?_
            repeat walk_at "ev"
            refine ⟨⟨rfl, Upto.app _ _ _⟩, ?_, ?_⟩
            · rintro pre s post acc S7 epost ⟨rfl, U7⟩ hacc
              have hs : s ∈ sh := by rw [epost]; simp
              have hpl : pre.length ≤ sh.length := by rw [epost]; simp
              have D7 := D6.upto U7
              refine ⟨_, rfl, Ev.ok ⟨fun _ => ?_, fun h => nomatch h⟩⟩
              repeat walk_at "ev"
              refine Ev.mono (law_chain_ok D7.q hm h0 (hch s hs).1 (hch s hs).2 hl1) ?_
              rintro g S8 ⟨rfl, U8⟩
              refine ⟨U8.get (by simp) hacc, by rw [List.length_map, sizeLine_eq]; omega, by simp, ?_⟩
              have Ut : Upto [S6.length] S8 (List.set S8 S6.length (C.lst (pre.map (fun s => csG ax (ch s).reverse) ++ [csG ax (ch s).reverse]))) := Upto.set (by simp) _
              exact (((U7.trans U8).mono (Z' := [S6.length]) (by simp)).trans Ut).drop (fun n hn l => by simp at hn; omega)
            rintro acc S7 hacc ⟨rfl, U7⟩
            repeat walk_at "ev"
            refine Ev.lcT (β := Str) (f := G.str) (h := fun s => .int ((run sh (evL sh cs) (i + 1)).P s)) ?_
            repeat walk_at "ev"
            have D7 := D6.upto U7
            refine ⟨by omega, fun x hx => ⟨_, rfl, fun S8 U8 => ?_⟩, ?_⟩
            · refine Ev.ok ⟨rfl, rfl, ?_⟩
              repeat walk_at "ev"
              refine Ev.ixD (D7.upto U8).p rfl (pD_get (by simp [hx])) ?_
              exact ⟨rfl, rfl⟩
            repeat walk_at "ev"
            have U8 := Upto.app [] S7 [C.lst (sh.map fun s => G.int ((run sh (evL sh cs) (i + 1)).P s))]
            refine Ev.tupL (getL_lst (get_new _)) ?_
            repeat walk_at "ev"
            refine Ev.tupL (getL_lst (U8.get (by simp) hacc)) ?_
            repeat walk_at "ev"
            exact ⟨⟨i + 1, F, .inl ⟨ew, ch, fun s hs => (hch s hs).1, h0, rfl⟩⟩, (U46.trans U7).trans U8⟩
          · have hw : (run sh (evL sh cs) (i + 1)).w ≠ none := fun e => by rw [e] at h; cases h
            repeat walk_at "ev"
            refine ⟨_, _, _, _, _, rfl, fun j hj2 => ?_, D6, U46⟩
            by_cases q : j = i + 1
            · subst q; exact hw
            · exact hj j (by omega)
        | _ => exact q.elim
    · intro rr q
      cases rr with
      | nx σ S4 =>
        obtain ⟨x5, x7, x8, x9, x10, rfl, hj, D4, U4⟩ := q
        have F : Fin sh (evL sh cs) (sh.length + 2) := ⟨by omega, by omega, fun j _ h => hj j (by omega), .inr rfl⟩
        obtain ⟨R, T, t, I, hL⟩ := run_inv X (sh.length + 2)
        have hL := hL F.h1
        have hm := inv_mem X I
        cases ew : (run sh (evL sh cs) (sh.length + 2)).w with
        | none => exact absurd ew (hj _ (by omega))
        | some v =>
          rw [ew] at hL
          obtain ⟨w, y, cy, h1, h2, hR, hcl, _⟩ := I.ring X.hN hL.1 (by omega)
          have hDue : Due ax sh (evL sh cs) (.tup [.str (Str.ofString "cycle"), csG ax cy.reverse]) := ⟨_, F, .inr ⟨v, w, y, cy, ew, h1, h2, hR, rfl⟩⟩
          have hq := D4.q
          clear hL hj F I D4 ew
          generalize (run sh (evL sh cs) (sh.length + 2)).Q = Q at hq hm h1 hR
          repeat walk_at "ev"
          refine Fls.seq (Fls.forR1 ?_)
          repeat walk_at "ev"
          rw [List.length_map]
          refine ⟨by omega, ?_⟩
          have et1 : ((sh.length : Int) + 1).toNat = sh.length + 1 := by omega
          rw [et1]
          refine Fls.mono (range_inv (Qr := fun _ _ => False) (sh.length + 1) (fun i σ S5 => ∃ (p q : List K) (z : Str) (x12 : Option G), σ = [some (.str ax), some (shG sh), some (csG ax cs), some (.loc dp), some (.loc dq), x5, some (.str v), x7, x8, x9, x10, some (.str z), x12, none] ∧ S5 = S4 ∧ w = p ++ q ∧ p.length = i ∧ QP Q q z y)
            ⟨[], w, v, _, rfl, rfl, rfl, rfl, h1⟩ ?_) ?_
          · rintro i σ S5 hi ⟨p, q, z, x12, rfl, rfl, ewp, hpi, hqp⟩
            have hql : w.length = p.length + q.length := by rw [ewp]; simp
            cases q with
            | nil => simp at hql; omega
            | cons c q =>
              obtain ⟨g1, g2⟩ := hqp
              repeat walk_at "ev"
              refine Ev.ixD hq rfl (qD_get (hm z c g1) g1) ?_
              repeat walk_at "ev"
              exact ⟨p ++ [c], q, c.e, _, rfl, rfl, by rw [ewp]; simp, by simp; omega, g2⟩
          intro rr q
          cases rr with
          | nx σ' S5 =>
            obtain ⟨p, q, z, x12, rfl, rfl, ewp, hpi, hqp⟩ := q
            have hql : w.length = p.length + q.length := by rw [ewp]; simp
            have hq0 : q = [] := List.length_eq_zero_iff.mp (by omega)
            subst hq0
            have hz : z = y := hqp
            subst hz
            obtain ⟨c, r, ecy⟩ : ∃ c r, cy = c :: r := by
              cases cy with
              | nil => exact absurd rfl hR.ne
              | cons c r => exact ⟨c, r, rfl⟩
            have hRa := hR.at'
            rw [ecy] at hRa
            obtain ⟨g1, g2⟩ := hRa
            have hzN := hm z c g1
            repeat walk_at "ev"
            refine Ev.ixD hq rfl (qD_get hzN g1) ?_
            repeat walk_at "ev"
            have hq1 := (Upto.app [] S5 [C.lst [cG ax c]]).get (by simp) hq
            refine Fls.seq (Fls.forR1 ?_)
            repeat walk_at "ev"
            rw [List.length_map]
            refine ⟨by omega, ?_⟩
            rw [et1]
            refine Fls.mono (range_inv (Qr := fun _ _ => False) (sh.length + 1) (fun i σ S6 => ∃ (p q : List K) (c : K) (l : Nat) (x12 : Option G), σ = [some (.str ax), some (shG sh), some (csG ax cs), some (.loc dp), some (.loc dq), x5, some (.str v), x7, x8, x9, x10, some (.str z), x12, some (.loc l)] ∧ S6[dq]? = some (.dic (qD ax sh Q)) ∧ S6[l]? = some (.lst (cG ax c :: p.reverse.map (cG ax))) ∧
                cy = (p ++ [c]) ++ q ∧ QP Q (p ++ [c]) z c.e ∧ QP Q q c.e z ∧ (q = [] ∨ p.length = i) ∧ Upto [] S5 S6)
              ⟨[], r, c, _, _, rfl, hq1, get_new _, ecy, ⟨g1, rfl⟩, g2, .inr rfl, Upto.app _ _ _⟩ ?_) ?_
            · rintro i σ S6 hi ⟨p, q, c, l, x12, rfl, hq2, hl2, ew2, hp2, hqp2, hd, U6⟩
              have hpart := hR.part ew2 (by simp) hp2
              have hlL := getL_lst hl2
              refine Fls.si ?_
              repeat walk_at "ev"
              refine Ev.ixL hlL (atI_nat (j := 0) rfl) ?_
              repeat walk_at "ev"
              refine ⟨fun h => ?_, fun h => ?_⟩
              · have hy : c.e ≠ z := by simpa using h
                cases q with
                | nil => exact absurd (hpart.mpr rfl) hy
                | cons d q =>
                  obtain ⟨g3, g4⟩ := hqp2
                  have hyN := hm _ d g3
                  have hpi : p.length = i := by
                    rcases hd with hd | hd
                    · cases hd
                    · exact hd
                  repeat walk_at "ev"
                  refine Ev.ixL hlL (atI_nat (j := 0) rfl) ?_
                  repeat walk_at "ev"
                  refine Ev.ixD hq2 rfl (qD_get hyN g3) ?_
                  repeat walk_at "ev"
                  have Ua : Upto [] S6 (S6 ++ [C.lst [cG ax d]]) := Upto.app _ _ _
                  refine Ev.addL (get_new _) (Ua.get (by simp) hl2) (line_ok (by simp; omega)) ?_
                  have Ub : Upto [] S6 (S6 ++ [C.lst [cG ax d]] ++ [C.lst ([cG ax d] ++ cG ax c :: p.reverse.map (cG ax))]) := Ua.trans (Upto.app _ _ _)
                  exact ⟨p ++ [c], q, d, _, _, rfl, Ub.get (by simp) hq2, by rw [get_new]; simp, by rw [ew2]; simp, hp2.append ⟨g3, rfl⟩, g4, .inr (by simp; omega), U6.trans Ub⟩
              · have hy : c.e = z := by simpa using h
                have hq0 := hpart.mp hy
                subst hq0
                repeat walk_at "ev"
                exact ⟨p, [], c, l, _, rfl, hq2, hl2, ew2, hp2, hqp2, .inl rfl, U6⟩
            · intro rr q
              cases rr with
              | nx σ' S6 =>
                obtain ⟨p, q, c, l, x12, rfl, hq2, hl2, ew2, hp2, hqp2, hd, U6⟩ := q
                have hq0 : q = [] := by
                  rcases hd with hd | hd
                  · exact hd
                  · have : cy.length = p.length + 1 + q.length := by rw [ew2]; simp; omega
                    omega
                subst hq0
                rw [List.append_nil] at ew2
                have hlL := getL_lst hl2
                have erev : cG ax c :: p.reverse.map (cG ax) = cy.reverse.map (cG ax) := by rw [ew2]; simp
                rw [erev] at hlL
                repeat walk_at "ev"
                exact ⟨hDue, U4.trans U6⟩
              | _ => exact q.elim
          | _ => exact q.elim
      | rt v S' => exact q
      | _ => exact q.elim
  | _ => exact q.elim
end K48
set_option Elab.async false
set_option linter.all false
set_option maxRecDepth 100000
set_option maxHeartbeats 1000000
namespace K48
open PySem L2 FL TL
local macro_rules | `(tactic| walk_at "ev") => `(tactic| with_reducible first
  | (refine Ev.var (g := ?g) ?e ?_; (case e => with_unfolding_all exact rfl)) | refine Ev.k ?_ | refine Ev.op ?_ | refine Ev.un ?_ | refine Ev.anil ?_ | refine Ev.acons ?_ | refine Ev.fcall ?_
  | refine Fls.seqSet ?_ | refine Fls.seqExpr ?_ | refine Fls.seqUnp ?_ | refine Fls.seqPar ?_ | refine Fls.seqPut ?_ | (refine Fls.seqAug (x := ?x) ?e ?_; (case e => with_unfolding_all exact rfl)) | refine Fls.seqRet ?_ | refine Fls.set ?_ | refine Fls.expr ?_ | refine Fls.ret ?_ | refine Fls.nil ?_ | refine Fls.unp ?_ | refine Fls.put ?_ | (refine Fls.aug (x := ?x) ?e ?_; (case e => with_unfolding_all exact rfl))
  | refine Ev.addI ?_ | refine Ev.subI ?_ | refine Ev.ltI ?_ | refine Ev.leI ?_ | refine Ev.gtI ?_ | refine Ev.geI ?_ | refine Ev.eqI ?_ | refine Ev.neI ?_ | refine Ev.eqS ?_ | refine Ev.neS ?_ | refine Ev.eqB ?_ | refine Ev.negI ?_
  | refine Ev.intI ?_ | refine Ev.absI ?_ | refine Ev.minI ?_ | refine Ev.maxI ?_ | refine Ev.lenT ?_ | refine Ev.tupT ?_ | refine Ev.lstT ?_ | refine Ev.slT ?_ | refine Ev.isT ?_ | refine Ev.isN ?_ | refine Ev.isB ?_ | refine Ev.isI ?_ | refine Ev.isS ?_ | refine Ev.isNon ?_ | refine Ev.isNotNon ?_ | refine Ev.isBl ?_ | refine Ev.isNotBl ?_ | refine Ev.augI ?_
  | (refine Ev.ixL (gs := ?gs) (g := ?g) ?e ?h ?_; (case e => assumption); (case h => with_unfolding_all exact rfl)) | (refine Ev.ixT (g := ?g) ?h ?_; (case h => with_unfolding_all exact rfl)) | (refine Ev.lenL (gs := ?gs) ?e ?_; (case e => assumption)) | (refine Ev.isL (gs := ?gs) ?e ?_; (case e => assumption)) | (refine Ev.tupL (gs := ?gs) ?e ?_; (case e => assumption))
  | refine Ev.ttB ?_ | refine Ev.ttVB ?_ | refine Ev.ttNot ?_ | refine Ev.tup ?_ | refine Ev.lst ?_ | refine Ev.sl ?_ | refine Ev.onone ?_ | refine Ev.osome ?_ | refine Ev.fAnd ?_ | refine Ev.fOr ?_ | refine Ev.fNot ?_ | refine Ev.ttAnd ?_ | refine Ev.ttOr ?_ | refine Ev.fIf ?_
  | (refine ⟨?w, ?h, ?_⟩; (case h => with_unfolding_all exact rfl)) | (refine ⟨?h, ?_⟩; (case h => with_unfolding_all exact Nat.le_of_ble_eq_true rfl)) | (refine ⟨?w, ?h, ?_⟩; (case h => exact putL (by assumption) (by with_unfolding_all exact rfl)))
  | dsimp only)
local macro_rules | `(tactic| walk_at "if") => `(tactic| ((with_reducible first | (refine Fls.seq ?_; refine Fls.si ?_) | refine Fls.si ?_); repeat walk_at "ev"))
local macro_rules | `(tactic| walk_at "c") => `(tactic| ((first | (refine ⟨fun _ => ?_, fun h => ?bad⟩; (case bad => first | exact Bool.noConfusion (show true = false from h) | exact Bool.noConfusion (show false = true from h))) | (refine ⟨fun h => ?bad, fun _ => ?_⟩; (case bad => first | exact Bool.noConfusion (show true = false from h) | exact Bool.noConfusion (show false = true from h)))); repeat walk_at "ev"))
/-- texts of valid signs -/
def OkC (ax : Str) (c : K) : Prop := PyData.strOk ax = true ∧ PyData.strOk c.l = true ∧ PyData.strOk c.e = true ∧ PyData.strOk c.id = true
theorem can_cG {ax : Str} {c : K} (h : OkC ax c) : canG (cG ax c) = true := by simp [canG, canGs, h.1, h.2.1, h.2.2.1, h.2.2.2]
theorem dep_cG (ax : Str) (c : K) : depG (cG ax c) = 1 := by simp [depG, depGs]
theorem eq_cG (ax : Str) (c d : K) : eqG (cG ax c) (cG ax d) = decide (c = d) := by
  cases c; cases d
  simp only [eqG, eqGs, Bool.and_true]
  rw [Bool.eq_iff_iff]
  simp
theorem in_cG (ax : Str) (c : K) : ∀ cs : List K, inG (cG ax c) (cs.map (cG ax)) = decide (c ∈ cs)
  | [] => by simp [inG]
  | d :: cs => by
    have ih := in_cG ax c cs
    simp only [inG] at ih
    simp only [inG, List.map_cons, List.any_cons, ih, eq_cG]
    by_cases h : d = c
    · subst h; simp
    · have h' : ¬ c = d := fun z => h z.symm
      simp [h, h']
theorem ok_in {ax : Str} {c : K} {cs : List K} (h : OkC ax c) (hs : ∀ d ∈ cs, OkC ax d) : okIn (cG ax c) (cs.map (cG ax)) = true :=
  okIn_dat (can_cG h) (fun g hg => by
    obtain ⟨f, hf, rfl⟩ := List.mem_map.mp hg
    exact can_cG (hs f hf)) (by rw [dep_cG]; omega) (fun g hg => by
    obtain ⟨f, hf, rfl⟩ := List.mem_map.mp hg
    rw [dep_cG]; omega)
theorem among_ok {S : Sto} {ax : Str} {c : K} {cs : List K} (h : OkC ax c) (hs : ∀ d ∈ cs, OkC ax d) : Ev (d_is_among [cG ax c, csG ax cs] S) fun r S' => r = .bl (decide (c ∈ cs)) ∧ S' = S := by
  refine Ev.call rfl ?_
  unfold b_is_among
  walk_at "if"
  repeat walk_at "c"
  refine Ev.call rfl ?_
  unfold b_is_whole
  repeat walk_at "ev"
  repeat walk_at "c"
  refine Ev.inn (inT (ok_in h hs)) ?_
  rw [in_cG]
  exact ⟨rfl, rfl⟩
/-- no constraint by its shape -/
def NoC5 : G → Prop
  | .tup gs => gs.length = 5 → ∃ a b c d e, gs = [a, b, c, .bl d, e]
  | .non => True
  | _ => False
theorem among_no {S : Sto} {g : G} {ax : Str} {cs : List K} (h : NoC5 g) : Ev (d_is_among [g, csG ax cs] S) fun r S' => r = .bl false ∧ S' = S := by
  refine Ev.call rfl ?_
  unfold b_is_among
  cases g with
  | non =>
    walk_at "if"
    repeat walk_at "c"
    exact ⟨rfl, rfl⟩
  | tup gs =>
    walk_at "if"
    walk_at "c"
    refine ⟨fun h3 => ?_, fun _ => ?_⟩
    · obtain ⟨a, b, c, d, e, rfl⟩ := h (by
        have : (gs.length : Int) = 5 := by simpa using h3
        omega)
      repeat walk_at "ev"
      refine Ev.call rfl ?_
      unfold b_is_whole
      repeat walk_at "ev"
      repeat walk_at "c"
      exact ⟨rfl, rfl⟩
    · repeat walk_at "ev"
      repeat walk_at "c"
      exact ⟨rfl, rfl⟩
  | _ => exact h.elim
theorem are_ok {S : Sto} {ax : Str} {p cs : List K} (h : ∀ d ∈ p, OkC ax d) (hs : ∀ d ∈ cs, OkC ax d) : Ev (d_are_among [csG ax p, csG ax cs] S) fun r S' => r = .bl (p.all fun c => decide (c ∈ cs)) ∧ S' = S := by
  refine Ev.call rfl ?_
  unfold b_are_among
  walk_at "if"
  repeat walk_at "c"
  refine Fls.seq (Fls.forT ?_)
  repeat walk_at "ev"
  refine Fls.mono (map_inv (Qr := fun r S' => r = .bl (p.all fun c => decide (c ∈ cs)) ∧ S' = S) p (fun pre σ S1 => ∃ x2, σ = [some (csG ax p), some (csG ax cs), x2] ∧ S1 = S ∧ pre.all (fun c => decide (c ∈ cs)) = true)
    ⟨_, rfl, rfl, rfl⟩ (fun _ _ _ _ => trivial) ?_) ?_
  · rintro pre c post σ S1 epost ⟨x2, rfl, rfl, hp⟩
    have hc : c ∈ p := by rw [epost]; simp
    refine ⟨_, rfl, ?_⟩
    walk_at "if"
    refine Ev.mono (among_ok (h c hc) hs) ?_
    rintro r S2 ⟨rfl, rfl⟩
    refine ⟨_, rfl, ?_⟩
    refine ⟨fun h1 => ?_, fun h1 => ?_⟩
    · have h1 : c ∉ cs := by simpa using h1
      repeat walk_at "ev"
      refine ⟨?_, rfl⟩
      have : (p.all fun c => decide (c ∈ cs)) = false := by rw [List.all_eq_false]; exact ⟨c, hc, by simpa using h1⟩
      rw [this]
    · have h1 : c ∈ cs := by simpa using h1
      repeat walk_at "ev"
      first | refine ⟨_, rfl, rfl, ?_⟩ | refine ⟨rfl, ?_⟩ | skip
      rw [List.all_append, hp]
      simpa using h1
  intro r q
  cases r with
  | nx σ' S1 =>
    obtain ⟨x2, rfl, rfl, hp⟩ := q
    repeat walk_at "ev"
    exact ⟨by rw [hp], rfl⟩
  | rt v S' => exact q
  | _ => exact q.elim
theorem are_not {S : Sto} {ax : Str} {cs : List K} {g : G} (h : match g with
    | .tup _ => False
    | .loc n => ∃ gs, getL S n = some gs
    | _ => True) : Ev (d_are_among [g, csG ax cs] S) fun r S' => r = .bl false ∧ S' = S := by
  refine Ev.call rfl ?_
  unfold b_are_among
  cases g with
  | tup gs => exact h.elim
  | loc n =>
    obtain ⟨gs, h⟩ := h
    walk_at "if"
    repeat walk_at "c"
    exact ⟨rfl, rfl⟩
  | non =>
    walk_at "if"
    repeat walk_at "c"
    exact ⟨rfl, rfl⟩
  | bl b =>
    walk_at "if"
    repeat walk_at "c"
    exact ⟨rfl, rfl⟩
  | int b =>
    walk_at "if"
    repeat walk_at "c"
    exact ⟨rfl, rfl⟩
  | str b =>
    walk_at "if"
    repeat walk_at "c"
    exact ⟨rfl, rfl⟩
theorem at_of_lt {α : Type} {xs : List α} {i : Nat} (h : i < xs.length) : ∃ x, xs[i]? = some x ∧ x ∈ xs := ⟨xs[i], List.getElem?_eq_getElem h, List.getElem_mem h⟩
theorem are_bad {S : Sto} {ax : Str} {p cs : List K} {g : G} {r : List G} (hg : NoC5 g) (h : ∀ d ∈ p, OkC ax d) (hs : ∀ d ∈ cs, OkC ax d) : Ev (d_are_among [.tup (p.map (cG ax) ++ g :: r), csG ax cs] S) fun r S' => r = .bl false ∧ S' = S := by
  refine Ev.call rfl ?_
  unfold b_are_among
  walk_at "if"
  repeat walk_at "c"
  refine Fls.seq (Fls.forT ?_)
  repeat walk_at "ev"
  refine Fls.mono (loop_inv (Qr := fun r S' => r = .bl false ∧ S' = S) (Qb := fun _ _ => False) (p.map (cG ax) ++ g :: r) (fun i σ S1 => ∃ x2, σ = [some (.tup (p.map (cG ax) ++ g :: r)), some (csG ax cs), x2] ∧ S1 = S ∧ i ≤ p.length) _ _
    ⟨_, rfl, rfl, Nat.zero_le _⟩ ?_ (fun _ _ _ => trivial)) ?_
  · rintro i g' σ S1 hg' ⟨x2, rfl, rfl, hi⟩
    refine ⟨trivial, _, rfl, ?_⟩
    by_cases q : i < p.length
    · rw [List.getElem?_append_left (by rw [List.length_map]; exact q)] at hg'
      rw [List.getElem?_map, List.getElem?_eq_getElem q] at hg'
      cases hg'
      walk_at "if"
      refine Ev.mono (among_ok (h _ (List.getElem_mem q)) hs) ?_
      rintro r S2 ⟨rfl, rfl⟩
      refine ⟨_, rfl, ?_⟩
      refine ⟨fun h1 => ?_, fun h1 => ?_⟩
      · repeat walk_at "ev"
        exact ⟨rfl, rfl⟩
      · repeat walk_at "ev"
        first | exact ⟨_, rfl, rfl, q⟩ | exact ⟨rfl, q⟩ | exact q
    · have : i = p.length := by omega
      subst this
      rw [List.getElem?_append_right (by simp)] at hg'
      simp at hg'
      subst hg'
      walk_at "if"
      refine Ev.mono (among_no hg) ?_
      rintro r S2 ⟨rfl, rfl⟩
      refine ⟨_, rfl, ?_⟩
      repeat walk_at "c"
      exact ⟨rfl, rfl⟩
  · intro rr q
    cases rr with
    | nx σ' S1 =>
      rcases q with ⟨x2, _, _, hi⟩ | q
      · simp at hi
        omega
      · exact q.elim
    | rt v S' => exact q
    | _ => exact q.elim
/-! ### ways, judged -/
instance lkDec : ∀ (x : Str) (p : List K), Decidable (lk x p)
  | _, [] => .isTrue trivial
  | x, c :: p => by
    unfold lk
    have := lkDec c.l p
    infer_instance
def inB (ev p : List K) : Bool := p.all fun c => decide (c ∈ ev)
def chB (ev : List K) (s : Str) (n : Int) (p : List K) : Bool := inB ev p && decide (lk E0 p) && decide (endp E0 p = s) && decide (tot p = n)
def cyB (ev : List K) : List K → Bool
  | [] => false
  | c :: p => inB ev (c :: p) && decide (lk c.e (c :: p)) && decide (endp c.e (c :: p) = c.e) && decide (0 < tot (c :: p))
/-- what the walker tells -/
def wkV (ev : List K) : List K → Option (Str × Str × Int)
  | [] => none
  | c :: p => if inB ev (c :: p) && decide (lk c.e (c :: p)) then some (c.e, endp c.e (c :: p), tot (c :: p)) else none
theorem chB_wk {ev : List K} {s : Str} {n : Int} (hs : s ≠ E0) (p : List K) : chB ev s n p = decide (wkV ev p = some (E0, s, n)) := by
  cases p with
  | nil =>
    have : ¬ E0 = s := fun e => hs e.symm
    simp [chB, wkV, endp, this]
  | cons c p =>
    unfold chB wkV
    by_cases h1 : inB ev (c :: p) = true
    · by_cases h2 : c.e = E0
      · have e1 : endp c.e (c :: p) = endp E0 (c :: p) := rfl
        rw [h1, ← h2]
        by_cases h3 : lk c.e (c :: p)
        · by_cases h4 : endp c.e (c :: p) = s
          · by_cases h5 : tot (c :: p) = n
            · simp [h1, h3, h4, h5]
            · simp [h1, h3, h4, h5]
          · simp [h1, h3, h4]
        · simp [h1, h3]
      · have h3 : ¬ lk E0 (c :: p) := fun h => h2 h.1
        have : (if (inB ev (c :: p) && decide (lk c.e (c :: p))) = true then some (c.e, endp c.e (c :: p), tot (c :: p)) else none) ≠ some (E0, s, n) := by
          split
          · intro e
            have := (Prod.mk.inj (Option.some.inj e)).1
            exact h2 this
          · intro e; cases e
        simp [h1, h2, h3]
    · have h1 : inB ev (c :: p) = false := by simpa using h1
      simp [h1]
theorem cyB_wk {ev : List K} (p : List K) : cyB ev p = match wkV ev p with
    | none => false
    | some (a, b, n) => decide (a = b) && decide (0 < n) := by
  cases p with
  | nil => rfl
  | cons c p =>
    unfold cyB wkV
    by_cases h1 : inB ev (c :: p) = true
    · by_cases h3 : lk c.e (c :: p)
      · by_cases h4 : endp c.e (c :: p) = c.e
        · simp [h1, h3, h4]
        · have h5 : ¬ c.e = endp c.e (c :: p) := fun e => h4 e.symm
          simp [h1, h3, h4, h5]
      · simp [h1, h3]
    · have h1 : inB ev (c :: p) = false := by simpa using h1
      simp [h1]
theorem setAll5 {σ : Sl} : True := trivial
theorem is_chain_ok {S : Sto} {ax s : Str} {n : Int} {sh : List Str} {cs p : List K} (hl : sh.length ≤ 1000) (hc : cs.length ≤ 1000) (h : ∀ d ∈ p, OkC ax d) (hs : ∀ d ∈ evL sh cs, OkC ax d) :
    Ev (d_is_chain [.str ax, shG sh, csG ax cs, .str s, .int n, csG ax p] S) fun r S' => r = .bl (chB (evL sh cs) s n p) ∧ Upto [] S S' := by
  refine Ev.call rfl ?_
  unfold b_is_chain
  walk_at "if"
  refine Ev.mono (all_ok hl hc) ?_
  rintro g S1 ⟨rfl, U1⟩
  repeat walk_at "ev"
  refine Ev.mono (are_ok h hs) ?_
  rintro g S2 ⟨rfl, rfl⟩
  refine ⟨_, rfl, ?_⟩
  refine ⟨fun h1 => ?_, fun h1 => ?_⟩
  · have h1 : inB (evL sh cs) p = false := by unfold inB; cases q : (p.all fun c => decide (c ∈ evL sh cs)) <;> simp_all
    repeat walk_at "ev"
    refine ⟨?_, U1⟩
    unfold chB
    rw [h1]; rfl
  have h1 : inB (evL sh cs) p = true := by unfold inB; cases q : (p.all fun c => decide (c ∈ evL sh cs)) <;> simp_all
  repeat walk_at "ev"
  refine Fls.seq (Fls.forT ?_)
  repeat walk_at "ev"
  refine Fls.mono (map_inv (Qr := fun r S' => r = .bl (chB (evL sh cs) s n p) ∧ Upto [] S S') p (fun pre σ S3 => ∃ (x8 x9 x10 x11 : Option G), σ = [some (.str ax), some (shG sh), some (csG ax cs), some (.str s), some (.int n), some (csG ax p), some (.str (endp E0 pre)), some (.int (tot pre)), x8, x9, x10, x11] ∧ S3 = S2 ∧ lk E0 pre)
    ⟨_, _, _, _, rfl, rfl, trivial⟩ (fun _ _ _ _ => trivial) ?_) ?_
  · rintro pre c post σ S3 epost ⟨x8, x9, x10, x11, rfl, rfl, hlk⟩
    refine ⟨_, rfl, ?_⟩
    walk_at "if"
    refine ⟨fun h2 => ?_, fun h2 => ?_⟩
    · have h2 : c.e ≠ endp E0 pre := by simpa using h2
      repeat walk_at "ev"
      refine ⟨?_, U1⟩
      have : ¬ lk E0 p := fun z => by
        rw [epost, lk_app] at z
        exact h2 z.2.1
      unfold chB
      simp [this]
    · have h2 : c.e = endp E0 pre := by simpa using h2
      repeat walk_at "ev"
      rw [show endp E0 (pre ++ [c]) = c.l by rw [endp_app]; rfl, show tot (pre ++ [c]) = tot pre + c.g by rw [tot_app]; simp [tot], lk_app]
      exact ⟨_, _, _, _, rfl, rfl, hlk, h2, trivial⟩
  intro r q
  cases r with
  | nx σ' S3 =>
    obtain ⟨x8, x9, x10, x11, rfl, rfl, hlk⟩ := q
    repeat walk_at "ev"
    refine ⟨fun h2 => ?_, fun h2 => ?_⟩
    · have h2 : endp E0 p = s := by simpa using h2
      repeat walk_at "ev"
      refine ⟨?_, U1⟩
      unfold chB
      rw [h1]
      by_cases h3 : tot p = n
      · simp [hlk, h2, h3]
      · simp [hlk, h2, h3]
    · have h2 : ¬ endp E0 p = s := by simpa using h2
      refine ⟨?_, U1⟩
      unfold chB
      simp [h2]
  | rt v S' => exact q
  | _ => exact q.elim
theorem is_cycle_ok {S : Sto} {ax : Str} {sh : List Str} {cs p : List K} (hl : sh.length ≤ 1000) (hc : cs.length ≤ 1000) (h : ∀ d ∈ p, OkC ax d) (hs : ∀ d ∈ evL sh cs, OkC ax d) :
    Ev (d_is_cycle [.str ax, shG sh, csG ax cs, csG ax p] S) fun r S' => r = .bl (cyB (evL sh cs) p) ∧ Upto [] S S' := by
  refine Ev.call rfl ?_
  unfold b_is_cycle
  walk_at "if"
  refine Ev.mono (all_ok hl hc) ?_
  rintro g S1 ⟨rfl, U1⟩
  repeat walk_at "ev"
  refine Ev.mono (are_ok h hs) ?_
  rintro g S2 ⟨rfl, rfl⟩
  refine ⟨_, rfl, ?_⟩
  refine ⟨fun h1 => ?_, fun h1 => ?_⟩
  rotate_left
  · have h1 : inB (evL sh cs) p = false := by unfold inB; cases q : (p.all fun c => decide (c ∈ evL sh cs)) <;> simp_all
    repeat walk_at "ev"
    repeat walk_at "c"
    refine ⟨?_, U1⟩
    cases p with
    | nil => rfl
    | cons c p =>
      unfold cyB
      simp [h1]
  have h1 : inB (evL sh cs) p = true := by unfold inB; cases q : (p.all fun c => decide (c ∈ evL sh cs)) <;> simp_all
  repeat walk_at "ev"
  cases p with
  | nil =>
    repeat walk_at "c"
    exact ⟨rfl, U1⟩
  | cons c0 p0 =>
    refine ⟨fun h2 => ?_, fun _ => ?_⟩
    · simp at h2
      omega
    repeat walk_at "ev"
    refine Ev.ixT (atI_nat (j := 0) rfl) ?_
    repeat walk_at "ev"
    refine Fls.seq (Fls.forT ?_)
    repeat walk_at "ev"
    refine Fls.mono (map_inv (Qr := fun r S' => r = .bl (cyB (evL sh cs) (c0 :: p0)) ∧ Upto [] S S') (c0 :: p0) (fun pre σ S3 => ∃ (x6 x7 x8 x9 : Option G), σ = [some (.str ax), some (shG sh), some (csG ax cs), some (csG ax (c0 :: p0)), some (.str (endp c0.e pre)), some (.int (tot pre)), x6, x7, x8, x9] ∧ S3 = S2 ∧ lk c0.e pre)
      ⟨_, _, _, _, rfl, rfl, trivial⟩ (fun _ _ _ _ => trivial) ?_) ?_
    · rintro pre c post σ S3 epost ⟨x6, x7, x8, x9, rfl, rfl, hlk⟩
      refine ⟨_, rfl, ?_⟩
      walk_at "if"
      refine ⟨fun h2 => ?_, fun h2 => ?_⟩
      · have h2 : c.e ≠ endp c0.e pre := by simpa using h2
        repeat walk_at "ev"
        refine ⟨?_, U1⟩
        have : ¬ lk c0.e (c0 :: p0) := fun z => by
          rw [epost, lk_app] at z
          exact h2 z.2.1
        unfold cyB
        simp [this]
      · have h2 : c.e = endp c0.e pre := by simpa using h2
        repeat walk_at "ev"
        rw [show endp c0.e (pre ++ [c]) = c.l by rw [endp_app]; rfl, show tot (pre ++ [c]) = tot pre + c.g by rw [tot_app]; simp [tot], lk_app]
        exact ⟨_, _, _, _, rfl, rfl, hlk, h2, trivial⟩
    intro r q
    cases r with
    | nx σ' S3 =>
      obtain ⟨x6, x7, x8, x9, rfl, rfl, hlk⟩ := q
      repeat walk_at "ev"
      refine Ev.ixT (atI_nat (j := 0) rfl) ?_
      repeat walk_at "ev"
      refine ⟨fun h2 => ?_, fun h2 => ?_⟩
      · have h2 : endp c0.e (c0 :: p0) = c0.e := by simpa using h2
        repeat walk_at "ev"
        refine ⟨?_, U1⟩
        unfold cyB
        simp [h1, hlk, h2]
      · have h2 : ¬ endp c0.e (c0 :: p0) = c0.e := by simpa using h2
        refine ⟨?_, U1⟩
        unfold cyB
        simp [h2]
    | rt v S' => exact q
    | _ => exact q.elim
end K48
set_option Elab.async false
set_option linter.all false
set_option maxRecDepth 100000
set_option maxHeartbeats 1000000
namespace K48
open PySem L2 FL TL
local macro_rules | `(tactic| walk_at "ev") => `(tactic| with_reducible first
  | (refine Ev.var (g := ?g) ?e ?_; (case e => with_unfolding_all exact rfl)) | refine Ev.k ?_ | refine Ev.op ?_ | refine Ev.un ?_ | refine Ev.anil ?_ | refine Ev.acons ?_ | refine Ev.fcall ?_
  | refine Fls.seqSet ?_ | refine Fls.seqExpr ?_ | refine Fls.seqUnp ?_ | refine Fls.seqPar ?_ | refine Fls.seqPut ?_ | (refine Fls.seqAug (x := ?x) ?e ?_; (case e => with_unfolding_all exact rfl)) | refine Fls.seqRet ?_ | refine Fls.set ?_ | refine Fls.expr ?_ | refine Fls.ret ?_ | refine Fls.nil ?_ | refine Fls.unp ?_ | refine Fls.put ?_ | (refine Fls.aug (x := ?x) ?e ?_; (case e => with_unfolding_all exact rfl))
  | refine Ev.addI ?_ | refine Ev.subI ?_ | refine Ev.ltI ?_ | refine Ev.leI ?_ | refine Ev.gtI ?_ | refine Ev.geI ?_ | refine Ev.eqI ?_ | refine Ev.neI ?_ | refine Ev.eqS ?_ | refine Ev.neS ?_ | refine Ev.eqB ?_ | refine Ev.negI ?_
  | refine Ev.intI ?_ | refine Ev.absI ?_ | refine Ev.minI ?_ | refine Ev.maxI ?_ | refine Ev.lenT ?_ | refine Ev.tupT ?_ | refine Ev.lstT ?_ | refine Ev.slT ?_ | refine Ev.isT ?_ | refine Ev.isN ?_ | refine Ev.isB ?_ | refine Ev.isI ?_ | refine Ev.isS ?_ | refine Ev.isNon ?_ | refine Ev.isNotNon ?_ | refine Ev.isBl ?_ | refine Ev.isNotBl ?_ | refine Ev.augI ?_
  | (refine Ev.ixL (gs := ?gs) (g := ?g) ?e ?h ?_; (case e => assumption); (case h => with_unfolding_all exact rfl)) | (refine Ev.ixT (g := ?g) ?h ?_; (case h => with_unfolding_all exact rfl)) | (refine Ev.lenL (gs := ?gs) ?e ?_; (case e => assumption)) | (refine Ev.isL (gs := ?gs) ?e ?_; (case e => assumption)) | (refine Ev.tupL (gs := ?gs) ?e ?_; (case e => assumption))
  | refine Ev.ttB ?_ | refine Ev.ttVB ?_ | refine Ev.ttNot ?_ | refine Ev.tup ?_ | refine Ev.lst ?_ | refine Ev.sl ?_ | refine Ev.onone ?_ | refine Ev.osome ?_ | refine Ev.fAnd ?_ | refine Ev.fOr ?_ | refine Ev.fNot ?_ | refine Ev.ttAnd ?_ | refine Ev.ttOr ?_ | refine Ev.fIf ?_
  | (refine ⟨?w, ?h, ?_⟩; (case h => with_unfolding_all exact rfl)) | (refine ⟨?h, ?_⟩; (case h => with_unfolding_all exact Nat.le_of_ble_eq_true rfl)) | (refine ⟨?w, ?h, ?_⟩; (case h => exact putL (by assumption) (by with_unfolding_all exact rfl)))
  | dsimp only)
local macro_rules | `(tactic| walk_at "if") => `(tactic| ((with_reducible first | (refine Fls.seq ?_; refine Fls.si ?_) | refine Fls.si ?_); repeat walk_at "ev"))
local macro_rules | `(tactic| walk_at "c") => `(tactic| ((first | (refine ⟨fun _ => ?_, fun h => ?bad⟩; (case bad => first | exact Bool.noConfusion (show true = false from h) | exact Bool.noConfusion (show false = true from h))) | (refine ⟨fun h => ?bad, fun _ => ?_⟩; (case bad => first | exact Bool.noConfusion (show true = false from h) | exact Bool.noConfusion (show false = true from h)))); repeat walk_at "ev"))
def wkG : Option (Str × Str × Int) → G
  | none => .non
  | some (a, b, n) => .tup [.str a, .str b, .int n]
theorem endp_last : ∀ {p : List K} {x : Str} {d : K}, p.getLast? = some d → endp x p = d.l
  | [], _, _, h => by cases h
  | [c], x, d, h => by
    have : c = d := by simpa using h
    subst this; rfl
  | c :: b :: p, x, d, h => by
    rw [List.getLast?_cons_cons] at h
    exact endp_last (p := b :: p) (x := c.l) h
theorem inB_app (ev a b : List K) : inB ev (a ++ b) = (inB ev a && inB ev b) := by unfold inB; rw [List.all_append]
theorem at_cG {ax : Str} {p : List K} {i : Nat} {c : K} (h : p[i]? = some c) : (p.map (cG ax))[i]? = some (cG ax c) := by rw [List.getElem?_map, h]; rfl
theorem take_succ' {α : Type} {p : List α} {i : Nat} {c : α} (h : p[i]? = some c) : p.take (i + 1) = p.take i ++ [c] := by rw [List.take_add_one, h]; rfl
theorem take_app' {α : Type} {p : List α} {i : Nat} {c : α} (h : p[i]? = some c) : p = p.take i ++ c :: p.drop (i + 1) := by
  obtain ⟨hi, e⟩ := List.getElem?_eq_some_iff.mp h
  rw [← e, ← List.drop_eq_getElem_cons hi, List.take_append_drop]
theorem law_walk_ok {S : Sto} {ax : Str} {sh : List Str} {cs p : List K} (hl : sh.length ≤ 1000) (hc : cs.length ≤ 1000) (hpl : p.length ≤ 10000) (h : ∀ d ∈ p, OkC ax d) (hs : ∀ d ∈ evL sh cs, OkC ax d) :
    Ev (d__law_walk [.str ax, shG sh, csG ax cs, csG ax p] S) fun r S' => r = wkG (wkV (evL sh cs) p) ∧ Upto [] S S' := by
  refine Ev.call rfl ?_
  unfold b__law_walk
  repeat walk_at "ev"
  refine Ev.mono (every_ok hl hc) ?_
  rintro g S1 ⟨l, rfl, hll, hl1, U1⟩
  have hL1 := getL_lst hl1
  repeat walk_at "ev"
  refine Fls.seq (Fls.forR1 ?_)
  repeat walk_at "ev"
  rw [List.length_map]
  refine ⟨by omega, ?_⟩
  cases p with
  | nil =>
    refine Fls.mono (range_inv (Qr := fun r S' => False) (([] : List K).length : Int).toNat (fun i σ S2 => ∃ (x6 : Option G), σ = [some (.str ax), some (shG sh), some (csG ax cs), some (csG ax []), some (.loc l), some (.int 0), x6] ∧ S2 = S1)
      ⟨_, rfl, rfl⟩ ?_) ?_
    · rintro i σ S2 hi _
      simp at hi
    · intro r q
      cases r with
      | nx σ S2 =>
        obtain ⟨x6, rfl, rfl⟩ := q
        walk_at "if"
        repeat walk_at "c"
        exact ⟨rfl, U1⟩
      | _ => exact q.elim
  | cons c0 p0 =>
    generalize ep : c0 :: p0 = p at *
    refine Fls.mono (range_inv (Qr := fun r S' => r = wkG (wkV (evL sh cs) p) ∧ Upto [] S S') (p.length : Int).toNat (fun i σ S2 => ∃ (x6 : Option G), σ = [some (.str ax), some (shG sh), some (csG ax cs), some (csG ax p), some (.loc l), some (.int (tot (p.take i))), x6] ∧ S2 = S1 ∧ inB (evL sh cs) (p.take i) = true ∧ lk c0.e (p.take i))
      ⟨_, rfl, rfl, rfl, trivial⟩ ?_) ?_
    · rintro i σ S2 hi ⟨x6, rfl, rfl, hin, hlk⟩
      have hi : i < p.length := by omega
      obtain ⟨c, hcp, hcm⟩ := at_of_lt hi
      have ewk : ¬ ((inB (evL sh cs) p && decide (lk c0.e p)) = true) → wkV (evL sh cs) p = none := fun hno => by
        rw [← ep] at hno ⊢
        unfold wkV
        exact if_neg hno
      have happ := take_app' hcp
      have efin : endp c0.e (p.take i) = c.e ∨ (0 < i ∧ ∃ d, p[i - 1]? = some d ∧ endp c0.e (p.take i) = d.l) := by
        by_cases q : i = 0
        · subst q
          rw [← ep] at hcp ⊢
          left
          have : c0 = c := by simpa using hcp
          subst this; rfl
        · right
          obtain ⟨d, hd, _⟩ := at_of_lt (xs := p) (i := i - 1) (by omega)
          refine ⟨by omega, d, hd, ?_⟩
          have := take_succ' hd
          rw [show i - 1 + 1 = i by omega] at this
          rw [this, endp_app]; rfl
      refine Fls.join (P := fun σ' S' => σ' = [some (.str ax), some (shG sh), some (csG ax cs), some (csG ax p), some (.loc l), some (.int (tot (p.take i))), some (.int i)] ∧ S' = S2 ∧ c ∈ evL sh cs ∧ c.e = endp c0.e (p.take i)) ?_ ?_
      · refine Fls.si ?_
        repeat walk_at "ev"
        refine Ev.ixT (atI_nat (at_cG hcp)) ?_
        repeat walk_at "ev"
        refine Ev.nin (inL hL1 (ok_in (h c hcm) hs)) ?_
        rw [in_cG]
        repeat walk_at "ev"
        refine ⟨fun h2 => ?_, fun h2 => ?_⟩
        · have h2 : c ∈ evL sh cs := by simpa using h2
          repeat walk_at "ev"
          refine ⟨fun h3 => ?_, fun h3 => ?_⟩
          · have h3 : 0 < i := by have := of_decide_eq_true h3; omega
            obtain ⟨d, hd, _⟩ := at_of_lt (xs := p) (i := i - 1) (by omega)
            have ed : endp c0.e (p.take i) = d.l := by
              have := take_succ' hd
              rw [show i - 1 + 1 = i by omega] at this
              rw [this, endp_app]; rfl
            repeat walk_at "ev"
            refine Ev.ixT (atI_nat (at_cG hcp)) ?_
            repeat walk_at "ev"
            rw [show (i : Int) - 1 = ((i - 1 : Nat) : Int) by omega]
            refine Ev.ixT (atI_nat (at_cG hd)) ?_
            repeat walk_at "ev"
            refine ⟨fun h4 => ?_, fun h4 => ?_⟩
            · have h4 : ¬ c.e = d.l := by simpa using h4
              repeat walk_at "ev"
              refine ⟨?_, U1⟩
              rw [ewk]
              · rfl
              · intro z
                rw [Bool.and_eq_true, decide_eq_true_iff] at z
                have := z.2
                rw [happ, lk_app] at this
                rw [ed] at this
                exact h4 this.2.1
            · have h4 : c.e = d.l := by simpa using h4
              repeat walk_at "ev"
              all_goals first | rfl | exact ⟨rfl, rfl, h2, by rw [ed, h4]⟩ | exact ⟨h2, by rw [ed, h4]⟩
          · have h3 : i = 0 := by have := of_decide_eq_false h3; omega
            have h5 : c.e = endp c0.e (p.take i) := by
              rcases efin with h | ⟨h, _⟩
              · exact h.symm
              · omega
            repeat walk_at "ev"
            repeat walk_at "c"
            all_goals first | rfl | exact ⟨rfl, rfl, h2, h5⟩ | exact ⟨h2, h5⟩
        · have h2 : c ∉ evL sh cs := by simpa using h2
          repeat walk_at "ev"
          repeat walk_at "c"
          refine ⟨?_, U1⟩
          rw [ewk]
          · rfl
          · intro z
            rw [Bool.and_eq_true] at z
            have := z.1
            unfold inB at this
            rw [List.all_eq_true] at this
            exact h2 (of_decide_eq_true (this c hcm))
      · rintro σ' S' ⟨rfl, rfl, h2, h3⟩
        repeat walk_at "ev"
        refine Ev.ixT (atI_nat (at_cG hcp)) ?_
        repeat walk_at "ev"
        rw [take_succ' hcp, show tot (p.take i ++ [c]) = tot (p.take i) + c.g by rw [tot_app]; simp [tot], lk_app, inB_app, hin]
        exact ⟨_, rfl, rfl, by simpa [inB] using h2, hlk, h3, trivial⟩
    · intro r q
      cases r with
      | nx σ S2 =>
        obtain ⟨x6, rfl, rfl, hin, hlk⟩ := q
        have et : (p.length : Int).toNat = p.length := by omega
        rw [et, List.take_length] at hin hlk
        rw [et, List.take_length]
        have ewk : wkV (evL sh cs) p = some (c0.e, endp c0.e p, tot p) := by
          rw [← ep] at hin hlk ⊢
          unfold wkV
          simp [hin, hlk]
        rw [ewk]
        walk_at "if"
        refine ⟨fun h2 => ?_, fun _ => ?_⟩
        · rw [← ep] at h2
          simp at h2
          omega
        · repeat walk_at "ev"
          refine Ev.ixT (atI_nat (j := 0) (v := cG ax c0) (by rw [← ep]; rfl)) ?_
          repeat walk_at "ev"
          obtain ⟨d, hd⟩ : ∃ d, p.getLast? = some d := by
            cases q : p.getLast? with
            | none => rw [List.getLast?_eq_none_iff] at q; rw [q] at ep; cases ep
            | some d => exact ⟨d, rfl⟩
          refine Ev.ixT (atI_last (x := cG ax d) (by rw [List.getLast?_map, hd]; rfl)) ?_
          repeat walk_at "ev"
          rw [endp_last hd]
          exact ⟨rfl, U1⟩
      | rt v S' => exact q
      | _ => exact q.elim
theorem take_k {S : Sto} {j r : Nat} {many : Int} (J : Jar S j r) (hm : 0 < many) : Ev (d__law_take [.loc j, .int many] S) fun g S' => ∃ v, g = .int v ∧ 0 ≤ v ∧ v < many ∧ Jar S' j r ∧ Upto [j] S S' := take_ok J hm
theorem take_n {S : Sto} {j r : Nat} {n : Nat} (J : Jar S j r) (hm : 0 < n) : Ev (d__law_take [.loc j, .int (n : Int)] S) fun g S' => ∃ v : Nat, g = .int v ∧ v < n ∧ Jar S' j r ∧ Upto [j] S S' := (take_k J (many := (n : Int)) (by omega)).mono fun g S' ⟨v, e, h0, h1, J', U⟩ => ⟨v.toNat, by rw [e]; congr 1; omega, by omega, J', U⟩
theorem zz_ok : PyData.strOk (Str.ofString "zz.999") = true := by decide +kernel
theorem near_ok {S : Sto} {j r : Nat} {ax : Str} {sh : List Str} {cs p : List K} (J : Jar S j r) (hl : sh.length ≤ 1000) (hc : cs.length ≤ 1000) (hpl : p.length ≤ 10000) (hp0 : p ≠ []) (h : ∀ d ∈ p, OkC ax d) (hs : ∀ d ∈ evL sh cs, OkC ax d) (hne : evL sh cs ≠ []) :
    Ev (d__law_near [.loc j, .str ax, shG sh, csG ax cs, csG ax p] S) fun g S' => ∃ q, g = csG ax q ∧ (∀ d ∈ q, OkC ax d) ∧ q.length ≤ p.length + 1 ∧ Jar S' j r ∧ Upto [j] S S' := by
  have hplen : 0 < p.length := List.length_pos_iff.mpr hp0
  have helen : 0 < (evL sh cs).length := List.length_pos_iff.mpr hne
  refine Ev.call rfl ?_
  unfold b__law_near
  repeat walk_at "ev"
  rw [List.length_map]
  refine Ev.mono (take_n J hplen) ?_
  rintro g S1 ⟨k, rfl, hk, J1, U1⟩
  obtain ⟨e, hek, hem⟩ := at_of_lt hk
  have heo := h e hem
  repeat walk_at "ev"
  refine Ev.mono (every_ok hl hc) ?_
  rintro g S2 ⟨l, rfl, hll, hl2, U2⟩
  have hL2 := getL_lst hl2
  have hjl := J1.jlt
  have J2 := J1.upto U2 (by simp) (by simp)
  repeat walk_at "ev"
  refine Ev.ixT (atI_nat (at_cG hek)) ?_
  repeat walk_at "ev"
  refine ⟨rfl, ?_⟩
  change Fls (sSeq _ _ [some (.loc j), some (.str ax), some (shG sh), some (csG ax cs), some (csG ax p), some (.int k), some (.loc l), some (.str ax), some (.str e.l), some (.str e.e), some (.int e.g), some (.str e.id), none, none, none] S2) _
  repeat walk_at "ev"
  rw [List.length_map]
  refine Ev.mono (take_n J2 helen) ?_
  rintro g S3 ⟨k3, rfl, hk3, J3, U3⟩
  obtain ⟨o, hok, hom⟩ := at_of_lt hk3
  have hoo := hs o hom
  refine Ev.ixL (getL_lst (U3.get (by simp; omega) hl2)) (atI_nat (at_cG hok)) ?_
  repeat walk_at "ev"
  generalize eo : [cG ax ⟨e.l, e.e, e.g + 1, e.id⟩, cG ax ⟨e.e, e.l, e.g, e.id⟩, cG ax o, cG ax ⟨e.l, e.e, e.g, Str.ofString "zz.999"⟩] = others
  have hothers : ∃ os : List K, others = os.map (cG ax) ∧ os.length = 4 ∧ ∀ d ∈ os, OkC ax d := by
    refine ⟨[⟨e.l, e.e, e.g + 1, e.id⟩, ⟨e.e, e.l, e.g, e.id⟩, o, ⟨e.l, e.e, e.g, Str.ofString "zz.999"⟩], by rw [← eo]; rfl, rfl, fun d hd => ?_⟩
    simp only [List.mem_cons, List.not_mem_nil, or_false] at hd
    rcases hd with rfl | rfl | rfl | rfl
    · exact heo
    · exact ⟨heo.1, heo.2.2.1, heo.2.1, heo.2.2.2⟩
    · exact hoo
    · exact ⟨heo.1, heo.2.1, heo.2.2.1, zz_ok⟩
  obtain ⟨os, rfl, hosl, hoso⟩ := hothers
  have U4 : Upto [] S3 (S3 ++ [C.lst (os.map (cG ax))]) := Upto.app _ _ _
  have hj3 := J3.jlt
  refine Ev.mono (take_n (n := 8) (J3.upto U4 (by simp) (by simp)) (by decide)) ?_
  rintro g S5 ⟨k5, rfl, hk5, J5, U5⟩
  have hl5 : S5[S3.length]? = some (.lst (os.map (cG ax))) := U5.get (by simp; omega) (get_new _)
  have U15 : Upto [j] S S5 := (((U1.trans (U2.mono (by simp))).trans U3).trans (U4.mono (by simp))).trans U5
  have hlenk : (cutL (p.map (cG ax)) none (some (k : Int))).length ≤ 10001 := by rw [cut_take]; simp; omega
  have hlenk1 : (cutL (p.map (cG ax)) (some ((k : Int) + 1)) none).length ≤ 10001 := by rw [show ((k : Int) + 1) = ((k + 1 : Nat) : Int) by omega, cut_drop]; simp; omega
  have hlenk0 : (cutL (p.map (cG ax)) (some (k : Int)) none).length ≤ 10001 := by rw [cut_drop]; simp; omega
  change Fls (sSeq _ _ [some (.loc j), some (.str ax), some (shG sh), some (csG ax cs), some (csG ax p), some (.int k), some (.loc l), some (.str ax), some (.str e.l), some (.str e.e), some (.int e.g), some (.str e.id), some (cG ax o), some (.loc S3.length), some (.int k5)] S5) _
  walk_at "if"
  refine ⟨fun h4 => ?_, fun _ => ?_⟩
  · have h4 : k5 < 4 := by have := of_decide_eq_true h4; omega
    obtain ⟨f, hf, hfm⟩ := at_of_lt (xs := os) (i := k5) (by omega)
    repeat walk_at "ev"
    refine Ev.ixL (getL_lst hl5) (atI_nat (at_cG hf)) ?_
    repeat walk_at "ev"
    refine Ev.addT (line_ok (by rw [List.length_singleton]; omega)) ?_
    repeat walk_at "ev"
    refine Ev.addT (line_ok (by rw [List.length_append, List.length_singleton]; omega)) ?_
    rw [cut_set (by simpa using hk), ← List.map_set]
    refine ⟨_, rfl, fun d hd => ?_, by simp, J5, U15⟩
    rcases List.mem_or_eq_of_mem_set hd with hd | rfl
    · exact h d hd
    · exact hoso d hfm
  repeat walk_at "ev"
  walk_at "if"
  refine ⟨fun _ => ?_, fun _ => ?_⟩
  · repeat walk_at "ev"
    refine Ev.addT (line_ok (by omega)) ?_
    rw [cut_del, ← List.map_drop, ← List.map_take, ← List.map_append]
    refine ⟨_, rfl, fun d hd => ?_, by simp; omega, J5, U15⟩
    rcases List.mem_append.mp hd with hd | hd
    · exact h d (List.mem_of_mem_take hd)
    · exact h d (List.mem_of_mem_drop hd)
  repeat walk_at "ev"
  walk_at "if"
  refine ⟨fun _ => ?_, fun _ => ?_⟩
  · repeat walk_at "ev"
    refine Ev.addT (line_ok (by simp; omega)) ?_
    refine ⟨p ++ [o], by rw [csG, List.map_append]; rfl, fun d hd => ?_, by simp, J5, U15⟩
    rcases List.mem_append.mp hd with hd | hd
    · exact h d hd
    · simp at hd; subst hd; exact hoo
  repeat walk_at "ev"
  walk_at "if"
  refine ⟨fun _ => ?_, fun _ => ?_⟩
  · repeat walk_at "ev"
    refine Ev.addT (line_ok (by omega)) ?_
    rw [cut_swap, ← List.map_drop, ← List.map_take, ← List.map_append]
    refine ⟨_, rfl, fun d hd => ?_, by simp; omega, J5, U15⟩
    rcases List.mem_append.mp hd with hd | hd
    · exact h d (List.mem_of_mem_drop hd)
    · exact h d (List.mem_of_mem_take hd)
  repeat walk_at "ev"
  refine Ev.addT (line_ok (by rw [List.length_singleton]; omega)) ?_
  repeat walk_at "ev"
  refine Ev.addT (line_ok (by rw [List.length_append, List.length_singleton]; omega)) ?_
  rw [cut_take, cut_drop, ← List.map_drop, ← List.map_take]
  refine ⟨p.take k ++ [o] ++ p.drop k, by rw [csG, List.map_append, List.map_append]; rfl, fun d hd => ?_, by simp; omega, J5, U15⟩
  rcases List.mem_append.mp hd with hd | hd
  · rcases List.mem_append.mp hd with hd | hd
    · exact h d (List.mem_of_mem_take hd)
    · simp at hd; subst hd; exact hoo
  · exact h d (List.mem_of_mem_drop hd)
/-- no way by its shape -/
def Bad (ax : Str) (S : Sto) (g : G) : Prop := (match g with
    | .tup _ => False
    | .loc n => ∃ gs, getL S n = some gs
    | _ => True) ∨ ∃ (a : List K) (x : G) (r : List G), g = .tup (a.map (cG ax) ++ x :: r) ∧ NoC5 x ∧ ∀ d ∈ a, OkC ax d
theorem bad_are {S : Sto} {ax : Str} {cs : List K} {g : G} (h : Bad ax S g) (hs : ∀ d ∈ cs, OkC ax d) : Ev (d_are_among [g, csG ax cs] S) fun r S' => r = .bl false ∧ S' = S := by
  rcases h with h | ⟨a, x, r, rfl, hx, ha⟩
  · exact are_not h
  · exact are_bad hx ha hs
theorem bad_upto {S S' : Sto} {ax : Str} {g : G} (h : Bad ax S g) (U : Upto [] S S') : Bad ax S' g := by
  rcases h with h | h
  · left
    cases g with
    | loc n =>
      obtain ⟨gs, h⟩ := h
      exact ⟨gs, U.getL (by simp) h⟩
    | _ => exact h
  · exact .inr h
theorem is_chain_bad {S : Sto} {ax s : Str} {n : Int} {sh : List Str} {cs : List K} {g : G} (hl : sh.length ≤ 1000) (hc : cs.length ≤ 1000) (h : Bad ax S g) (hs : ∀ d ∈ evL sh cs, OkC ax d) :
    Ev (d_is_chain [.str ax, shG sh, csG ax cs, .str s, .int n, g] S) fun r S' => r = .bl false ∧ Upto [] S S' := by
  refine Ev.call rfl ?_
  unfold b_is_chain
  walk_at "if"
  refine Ev.mono (all_ok hl hc) ?_
  rintro g S1 ⟨rfl, U1⟩
  repeat walk_at "ev"
  refine Ev.mono (bad_are (bad_upto h U1) hs) ?_
  rintro g S2 ⟨rfl, rfl⟩
  refine ⟨_, rfl, ?_⟩
  repeat walk_at "c"
  exact ⟨rfl, U1⟩
theorem is_cycle_bad {S : Sto} {ax : Str} {sh : List Str} {cs : List K} {g : G} (hl : sh.length ≤ 1000) (hc : cs.length ≤ 1000) (h : Bad ax S g) (hs : ∀ d ∈ evL sh cs, OkC ax d) :
    Ev (d_is_cycle [.str ax, shG sh, csG ax cs, g] S) fun r S' => r = .bl false ∧ Upto [] S S' := by
  refine Ev.call rfl ?_
  unfold b_is_cycle
  walk_at "if"
  refine Ev.mono (all_ok hl hc) ?_
  rintro g S1 ⟨rfl, U1⟩
  repeat walk_at "ev"
  refine Ev.mono (bad_are (bad_upto h U1) hs) ?_
  rintro g S2 ⟨rfl, rfl⟩
  refine ⟨_, rfl, ?_⟩
  repeat walk_at "c"
  exact ⟨rfl, U1⟩
theorem wrong_ok {S : Sto} {j r : Nat} {ax : Str} {p : List K} (J : Jar S j r) (hpl : p.length ≤ 10000) (hp0 : p ≠ []) (h : ∀ d ∈ p, OkC ax d) :
    Ev (d__law_wrong [.loc j, csG ax p] S) fun g S' => Bad ax S' g ∧ Jar S' j r ∧ Upto [j] S S' := by
  have hplen : 0 < p.length := List.length_pos_iff.mpr hp0
  refine Ev.call rfl ?_
  unfold b__law_wrong
  repeat walk_at "ev"
  rw [List.length_map]
  refine Ev.mono (take_n J hplen) ?_
  rintro g S1 ⟨k, rfl, hk, J1, U1⟩
  obtain ⟨e, hek, hem⟩ := at_of_lt hk
  repeat walk_at "ev"
  refine Ev.ixT (atI_nat (at_cG hek)) ?_
  repeat walk_at "ev"
  refine ⟨rfl, ?_⟩
  repeat walk_at "ev"
  have hlenk : (cutL (p.map (cG ax)) none (some (k : Int))).length ≤ 10001 := by rw [cut_take]; simp; omega
  have hlenk1 : (cutL (p.map (cG ax)) (some ((k : Int) + 1)) none).length ≤ 10001 := by rw [show ((k : Int) + 1) = ((k + 1 : Nat) : Int) by omega, cut_drop]; simp; omega
  refine Ev.addT (line_ok (by rw [List.length_singleton]; omega)) ?_
  repeat walk_at "ev"
  refine Ev.addT (line_ok (by rw [List.length_append, List.length_singleton]; omega)) ?_
  repeat walk_at "ev"
  refine Ev.addT (line_ok (by rw [List.length_singleton]; omega)) ?_
  repeat walk_at "ev"
  refine Ev.addT (line_ok (by rw [List.length_append, List.length_singleton]; omega)) ?_
  repeat walk_at "ev"
  refine Ev.ixT (atI_nat (at_cG hek)) ?_
  repeat walk_at "ev"
  refine Ev.addT (line_ok (by rw [List.length_singleton]; omega)) ?_
  repeat walk_at "ev"
  refine Ev.addT (line_ok (by rw [List.length_append, List.length_singleton]; omega)) ?_
  repeat walk_at "ev"
  generalize eo : [G.loc S1.length, .non, .int 5, .str (Str.ofString ""), .tup (cutL (p.map (cG ax)) none (some (k : Int)) ++ [.tup [.str ax, .str e.l, .str e.e, .bl (e.g == 1), .str e.id]] ++ cutL (p.map (cG ax)) (some ((k : Int) + 1)) none), .tup (cutL (p.map (cG ax)) none (some (k : Int)) ++ [.non] ++ cutL (p.map (cG ax)) (some ((k : Int) + 1)) none), .tup (cutL (p.map (cG ax)) none (some (k : Int)) ++ [.tup (cutL [.str ax, .str e.l, .str e.e, .int e.g, .str e.id] none (some 4))] ++ cutL (p.map (cG ax)) (some ((k : Int) + 1)) none)] = others
  have ho : others.length = 7 := by rw [← eo]; rfl
  have U2 : Upto [] S1 (S1 ++ [C.lst (p.map (cG ax))] ++ [C.lst others]) := (Upto.app _ _ _).trans (Upto.app _ _ _)
  have hoL : (S1 ++ [C.lst (p.map (cG ax))] ++ [C.lst others])[(S1 ++ [C.lst (p.map (cG ax))]).length]? = some (.lst others) := get_new _
  have hlL : (S1 ++ [C.lst (p.map (cG ax))] ++ [C.lst others])[S1.length]? = some (.lst (p.map (cG ax))) := by rw [List.getElem?_append_left (by simp)]; exact get_new _
  have J2 := J1.upto U2 (by simp) (by simp)
  have hlen2 : (S1 ++ [C.lst (p.map (cG ax))]).length = S1.length + 1 := by simp
  rw [hlen2] at hoL ⊢
  have hj1 := J1.jlt
  generalize S1 ++ [C.lst (p.map (cG ax))] ++ [C.lst others] = S2 at hoL hlL J2 U2 ⊢
  refine Ev.mono (take_n (n := 7) J2 (by decide)) ?_
  rintro g S3 ⟨m, rfl, hm, J3, U3⟩
  obtain ⟨g, hg, hgm⟩ := at_of_lt (xs := others) (i := m) (by omega)
  refine Ev.ixL (getL_lst (U3.get (by simp; omega) hoL)) (atI_nat hg) ?_
  repeat walk_at "ev"
  have hlL3 := U3.get (by simp; omega) hlL
  have hpre : ∀ d ∈ p.take k, OkC ax d := fun d hd => h d (List.mem_of_mem_take hd)
  refine ⟨?_, J3, (U1.trans (U2.mono (by simp))).trans U3⟩
  rw [← eo] at hgm
  simp only [List.mem_cons, List.not_mem_nil, or_false] at hgm
  rcases hgm with rfl | rfl | rfl | rfl | rfl | rfl | rfl
  · exact .inl ⟨_, getL_lst hlL3⟩
  · exact .inl trivial
  · exact .inl trivial
  · exact .inl trivial
  · exact .inr ⟨p.take k, .tup [.str ax, .str e.l, .str e.e, .bl (e.g == 1), .str e.id], _, by rw [cut_take, List.append_assoc, ← List.map_take]; rfl, fun _ => ⟨_, _, _, _, _, rfl⟩, hpre⟩
  · exact .inr ⟨p.take k, .non, _, by rw [cut_take, List.append_assoc, ← List.map_take]; rfl, trivial, hpre⟩
  · exact .inr ⟨p.take k, .tup [.str ax, .str e.l, .str e.e, .int e.g], _, by rw [cut_take, List.append_assoc, ← List.map_take]; rfl, fun h => by simp at h, hpre⟩
end K48
set_option Elab.async false
set_option linter.all false
set_option maxRecDepth 100000
set_option maxHeartbeats 1000000
namespace K48
open PySem L2 FL TL
local macro_rules | `(tactic| walk_at "ev") => `(tactic| with_reducible first
  | (refine Ev.var (g := ?g) ?e ?_; (case e => with_unfolding_all exact rfl)) | refine Ev.k ?_ | refine Ev.op ?_ | refine Ev.un ?_ | refine Ev.anil ?_ | refine Ev.acons ?_ | refine Ev.fcall ?_
  | refine Fls.seqSet ?_ | refine Fls.seqExpr ?_ | refine Fls.seqUnp ?_ | refine Fls.seqPar ?_ | refine Fls.seqPut ?_ | (refine Fls.seqAug (x := ?x) ?e ?_; (case e => with_unfolding_all exact rfl)) | refine Fls.seqRet ?_ | refine Fls.set ?_ | refine Fls.expr ?_ | refine Fls.ret ?_ | refine Fls.nil ?_ | refine Fls.unp ?_ | refine Fls.put ?_ | (refine Fls.aug (x := ?x) ?e ?_; (case e => with_unfolding_all exact rfl))
  | refine Ev.addI ?_ | refine Ev.subI ?_ | refine Ev.ltI ?_ | refine Ev.leI ?_ | refine Ev.gtI ?_ | refine Ev.geI ?_ | refine Ev.eqI ?_ | refine Ev.neI ?_ | refine Ev.eqS ?_ | refine Ev.neS ?_ | refine Ev.eqB ?_ | refine Ev.negI ?_
  | refine Ev.intI ?_ | refine Ev.absI ?_ | refine Ev.minI ?_ | refine Ev.maxI ?_ | refine Ev.lenT ?_ | refine Ev.tupT ?_ | refine Ev.lstT ?_ | refine Ev.slT ?_ | refine Ev.isT ?_ | refine Ev.isN ?_ | refine Ev.isB ?_ | refine Ev.isI ?_ | refine Ev.isS ?_ | refine Ev.isNon ?_ | refine Ev.isNotNon ?_ | refine Ev.isBl ?_ | refine Ev.isNotBl ?_ | refine Ev.augI ?_
  | (refine Ev.ixL (gs := ?gs) (g := ?g) ?e ?h ?_; (case e => assumption); (case h => with_unfolding_all exact rfl)) | (refine Ev.ixT (g := ?g) ?h ?_; (case h => with_unfolding_all exact rfl)) | (refine Ev.lenL (gs := ?gs) ?e ?_; (case e => assumption)) | (refine Ev.isL (gs := ?gs) ?e ?_; (case e => assumption)) | (refine Ev.tupL (gs := ?gs) ?e ?_; (case e => assumption))
  | refine Ev.ttB ?_ | refine Ev.ttVB ?_ | refine Ev.ttNot ?_ | refine Ev.tup ?_ | refine Ev.lst ?_ | refine Ev.sl ?_ | refine Ev.onone ?_ | refine Ev.osome ?_ | refine Ev.fAnd ?_ | refine Ev.fOr ?_ | refine Ev.fNot ?_ | refine Ev.ttAnd ?_ | refine Ev.ttOr ?_ | refine Ev.fIf ?_
  | (refine ⟨?w, ?h, ?_⟩; (case h => with_unfolding_all exact rfl)) | (refine ⟨?h, ?_⟩; (case h => with_unfolding_all exact Nat.le_of_ble_eq_true rfl)) | (refine ⟨?w, ?h, ?_⟩; (case h => exact putL (by assumption) (by with_unfolding_all exact rfl)))
  | dsimp only)
local macro_rules | `(tactic| walk_at "if") => `(tactic| ((with_reducible first | (refine Fls.seq ?_; refine Fls.si ?_) | refine Fls.si ?_); repeat walk_at "ev"))
local macro_rules | `(tactic| walk_at "c") => `(tactic| ((first | (refine ⟨fun _ => ?_, fun h => ?bad⟩; (case bad => first | exact Bool.noConfusion (show true = false from h) | exact Bool.noConfusion (show false = true from h))) | (refine ⟨fun h => ?bad, fun _ => ?_⟩; (case bad => first | exact Bool.noConfusion (show true = false from h) | exact Bool.noConfusion (show false = true from h)))); repeat walk_at "ev"))
abbrev plG (sh : List Str) (L : Str → Int) : G := .tup (sh.map fun s => .int (L s))
def kpB (L : Str → Int) (ev : List K) : Bool := ev.all fun c => decide (L c.e + c.g ≤ L c.l)
theorem kpB_true {L : Str → Int} {ev : List K} : kpB L ev = true ↔ Fix ev L := by
  unfold kpB Fix
  rw [List.all_eq_true]
  exact ⟨fun h c hc => of_decide_eq_true (h c hc), fun h c hc => decide_eq_true (h c hc)⟩
/-- a value that may stand in a wrong paper -/
def Whl : G → Bool
  | .int _ => true
  | _ => false
def Fl3 : G → Prop
  | .int _ => True
  | .bl _ => True
  | .str _ => True
  | _ => False
theorem whole_ok {S : Sto} {g : G} (h : Fl3 g) : Ev (d_is_whole [g] S) fun r S' => r = .bl (Whl g) ∧ S' = S := by
  refine Ev.call rfl ?_
  unfold b_is_whole
  cases g with
  | int i =>
    repeat walk_at "ev"
    repeat walk_at "c"
    exact ⟨rfl, rfl⟩
  | bl i =>
    repeat walk_at "ev"
    repeat walk_at "c"
    exact ⟨rfl, rfl⟩
  | str i =>
    repeat walk_at "ev"
    repeat walk_at "c"
    exact ⟨rfl, rfl⟩
  | _ => exact h.elim
theorem at_str {sh : List Str} {i : Nat} {s : Str} (h : sh[i]? = some s) : (sh.map G.str)[i]? = some (.str s) := by rw [List.getElem?_map, h]; rfl
theorem not_mem_take {α : Type} {xs : List α} (hnd : xs.Nodup) {i : Nat} {x : α} (h : xs[i]? = some x) : x ∉ xs.take i := fun hm => by
  have e := take_app' h
  rw [e, List.nodup_append] at hnd
  exact hnd.2.2 x hm x List.mem_cons_self rfl
/-- the dict from nought and the places -/
theorem dict_start {S : Sto} {Q : G → Sto → Prop} {σ : Sl} (h : ∀ S', S'[S.length]? = some (.dic (dL (β := Str) Sum.inr (fun _ => G.int 0) [E0])) → Upto [] S S' → Q (.loc S.length) S') : Ev (fDisp [((fK (.str E0)), (fK (.int 0)))] σ S) Q := by
  refine Ev.disp1 ?_
  repeat walk_at "ev"
  refine ⟨get_new _, h _ (get_set (get_new _)) ?_⟩
  exact ((Upto.app [S.length] S _).trans (Upto.set (by simp) _)).drop (fun n hn l => by simp at hn; omega)
theorem places_false {S : Sto} {ax : Str} {sh : List Str} {cs : List K} {gs : List G} (hl : sh.length ≤ 1000) (hlen : gs.length = sh.length) (h3 : ∀ g ∈ gs, Fl3 g) (hb : ∃ g ∈ gs, Whl g = false) :
    Ev (d_is_places [.str ax, shG sh, csG ax cs, .tup gs] S) fun r S' => r = .bl false ∧ Upto [] S S' := by
  refine Ev.call rfl ?_
  unfold b_is_places
  walk_at "if"
  walk_at "c"
  refine ⟨fun h => ?_, fun _ => ?_⟩
  · simp [hlen] at h
  repeat walk_at "ev"
  refine dict_start fun S1 hd1 U1 => ?_
  refine Fls.seq (Fls.forR1 ?_)
  repeat walk_at "ev"
  refine ⟨by rw [List.length_map]; omega, ?_⟩
  rw [List.length_map]
  refine Fls.mono (range_inv (Qr := fun r S' => r = .bl false ∧ Upto [] S S') (sh.length : Int).toNat (fun i σ S2 => ∃ (ks : List (Key × G)) (x5 : Option G), σ = [some (.str ax), some (shG sh), some (csG ax cs), some (.tup gs), some (.loc S.length), x5, none, none, none, none] ∧ S2[S.length]? = some (.dic ks) ∧ ks.length ≤ 1 + i ∧ Upto [] S S2 ∧ ∀ j g, j < i → gs[j]? = some g → Whl g = true)
    ⟨_, _, rfl, hd1, by simp [dL], U1, fun j g h => absurd h (Nat.not_lt_zero _)⟩ ?_) ?_
  · rintro i σ S2 hi ⟨ks, x5, rfl, hd2, hkl, U2, hp⟩
    obtain ⟨s, hs, _⟩ := at_of_lt (xs := sh) (i := i) (by omega)
    obtain ⟨g, hg, hgm⟩ := at_of_lt (xs := gs) (i := i) (by omega)
    walk_at "if"
    refine Ev.ixT (atI_nat hg) ?_
    repeat walk_at "ev"
    refine Ev.mono (whole_ok (h3 g hgm)) ?_
    rintro r S3 ⟨rfl, rfl⟩
    refine ⟨_, rfl, ?_⟩
    refine ⟨fun h => ?_, fun h => ?_⟩
    · repeat walk_at "ev"
      exact ⟨rfl, U2⟩
    · have h : Whl g = true := by simpa using h
      repeat walk_at "ev"
      refine Ev.ixT (atI_nat hg) ?_
      repeat walk_at "ev"
      refine Ev.ixT (atI_nat (at_str hs)) ?_
      refine ⟨_, putD hd2 rfl (by rw [sizeLine_eq]; omega), ?_⟩
      have Ut : Upto [S.length] S3 (List.set S3 S.length (C.dic (putG ks (.inr s) g))) := Upto.set (by simp) _
      refine ⟨_, _, rfl, get_set hd2, by have := putG_len ks (.inr s) g; omega, ((U2.mono (Z' := [S.length]) (by simp)).trans Ut).drop (fun n hn l => by simp at hn; omega), fun j g' hj hg' => ?_⟩
      by_cases q : j = i
      · subst q
        rw [hg] at hg'; cases hg'
        exact h
      · exact hp j g' (by omega) hg'
  · intro r q
    cases r with
    | nx σ' S2 =>
      obtain ⟨ks, x5, rfl, hd2, hkl, U2, hp⟩ := q
      obtain ⟨g, hgm, hf⟩ := hb
      obtain ⟨i, hi⟩ := List.mem_iff_getElem?.mp hgm
      have hil : i < gs.length := (List.getElem?_eq_some_iff.mp hi).1
      rw [hp i g (by omega) hi] at hf
      cases hf
    | rt v S' => exact q
    | _ => exact q.elim
theorem places_len {S : Sto} {ax : Str} {sh : List Str} {cs : List K} {gs : List G} (hlen : gs.length ≠ sh.length) :
    Ev (d_is_places [.str ax, shG sh, csG ax cs, .tup gs] S) fun r S' => r = .bl false ∧ Upto [] S S' := by
  refine Ev.call rfl ?_
  unfold b_is_places
  walk_at "if"
  walk_at "c"
  refine ⟨fun _ => ?_, fun h => ?_⟩
  · repeat walk_at "ev"
    exact ⟨rfl, Upto.refl _ _⟩
  · simp [hlen] at h
    omega
theorem places_not {S : Sto} {ax : Str} {sh : List Str} {cs : List K} {g : G} (h : match g with
    | .tup _ => False
    | .loc n => ∃ gs, getL S n = some gs
    | _ => True) : Ev (d_is_places [.str ax, shG sh, csG ax cs, g] S) fun r S' => r = .bl false ∧ Upto [] S S' := by
  refine Ev.call rfl ?_
  unfold b_is_places
  cases g with
  | tup gs => exact h.elim
  | loc n =>
    obtain ⟨gs, h⟩ := h
    walk_at "if"
    repeat walk_at "c"
    exact ⟨rfl, Upto.refl _ _⟩
  | non =>
    walk_at "if"
    repeat walk_at "c"
    exact ⟨rfl, Upto.refl _ _⟩
  | bl b =>
    walk_at "if"
    repeat walk_at "c"
    exact ⟨rfl, Upto.refl _ _⟩
  | int b =>
    walk_at "if"
    repeat walk_at "c"
    exact ⟨rfl, Upto.refl _ _⟩
  | str b =>
    walk_at "if"
    repeat walk_at "c"
    exact ⟨rfl, Upto.refl _ _⟩
theorem at_pl {sh : List Str} {L : Str → Int} {i : Nat} {s : Str} (h : sh[i]? = some s) : (sh.map fun s => G.int (L s))[i]? = some (.int (L s)) := by rw [List.getElem?_map, h]; rfl
theorem nE0 {sh : List Str} (ho : E0 ∉ sh) (hnd : sh.Nodup) {i : Nat} {s : Str} (h : sh[i]? = some s) : s ∉ E0 :: sh.take i := fun hm => by
  rcases List.mem_cons.mp hm with e | hm
  · exact ho (e ▸ List.mem_of_getElem? h)
  · exact not_mem_take hnd h hm
theorem places_ok {S : Sto} {ax : Str} {sh : List Str} {cs : List K} {L : Str → Int} (X : Ctx sh (evL sh cs)) (hc : cs.length ≤ 900) (h0 : L E0 = 0) :
    Ev (d_is_places [.str ax, shG sh, csG ax cs, plG sh L] S) fun r S' => r = .bl (kpB L (evL sh cs)) ∧ Upto [] S S' := by
  have hl1 := X.l1
  refine Ev.call rfl ?_
  unfold b_is_places
  walk_at "if"
  walk_at "c"
  refine ⟨fun h => ?_, fun _ => ?_⟩
  · simp at h
  repeat walk_at "ev"
  refine dict_start fun S1 hd1 U1 => ?_
  refine Fls.seq (Fls.forR1 ?_)
  repeat walk_at "ev"
  refine ⟨by rw [List.length_map]; omega, ?_⟩
  rw [List.length_map]
  refine Fls.mono (range_inv (Qr := fun r S' => False) (sh.length : Int).toNat (fun i σ S2 => ∃ (x5 : Option G), σ = [some (.str ax), some (shG sh), some (csG ax cs), some (plG sh L), some (.loc S.length), x5, none, none, none, none] ∧ S2[S.length]? = some (.dic (dL (β := Str) Sum.inr (fun s => G.int (L s)) (E0 :: sh.take i))) ∧ Upto [] S S2)
    ⟨_, rfl, by rw [hd1]; simp [dL, h0], U1⟩ ?_) ?_
  · rintro i σ S2 hi ⟨x5, rfl, hd2, U2⟩
    obtain ⟨s, hs, _⟩ := at_of_lt (xs := sh) (i := i) (by omega)
    walk_at "if"
    refine Ev.ixT (atI_nat (at_pl hs)) ?_
    repeat walk_at "ev"
    refine Ev.mono (whole_ok (g := .int (L s)) trivial) ?_
    rintro r S3 ⟨rfl, rfl⟩
    refine ⟨_, rfl, ?_⟩
    repeat walk_at "c"
    refine Ev.ixT (atI_nat (at_pl hs)) ?_
    repeat walk_at "ev"
    refine Ev.ixT (atI_nat (at_str hs)) ?_
    refine ⟨_, putD_old hd2 rfl (by rw [dL_len, sizeLine_eq]; simp; omega) (dL_new inr_inj (L := fun s => G.int (L s)) (x := s) (nE0 X.ho X.nd hs)), ?_⟩
    have Ut : Upto [S.length] S3 (List.set S3 S.length (C.dic (dL (β := Str) Sum.inr (fun s => G.int (L s)) (E0 :: sh.take i ++ [s])))) := Upto.set (by simp) _
    refine ⟨_, rfl, ?_, ((U2.mono (Z' := [S.length]) (by simp)).trans Ut).drop (fun n hn l => by simp at hn; omega)⟩
    rw [get_set hd2, take_succ' hs]; rfl
  · intro r q
    cases r with
    | nx σ' S2 =>
      obtain ⟨x5, rfl, hd2, U2⟩ := q
      have et : (sh.length : Int).toNat = sh.length := by omega
      rw [et, List.take_length] at hd2
      have hget : ∀ x ∈ E0 :: sh, getK (dL (β := Str) Sum.inr (fun s => G.int (L s)) (E0 :: sh)) (.inr x) = some (.int (L x)) := fun x hx => dL_get inr_inj hx
      refine Fls.seq (Fls.forT ?_)
      repeat walk_at "ev"
      refine Ev.mono (all_ok (by omega) (by omega)) ?_
      rintro g S3 ⟨rfl, U3⟩
      have hd3 := U3.get (by simp) hd2
      refine ⟨_, rfl, ?_⟩
      refine Fls.mono (map_inv (Qr := fun r S' => r = .bl (kpB L (evL sh cs)) ∧ Upto [] S S') (evL sh cs) (fun pre σ S4 => ∃ (x6 x7 x8 x9 : Option G), σ = [some (.str ax), some (shG sh), some (csG ax cs), some (plG sh L), some (.loc S.length), x5, x6, x7, x8, x9] ∧ S4 = S3 ∧ kpB L pre = true)
        ⟨_, _, _, _, rfl, rfl, rfl⟩ (fun _ _ _ _ => trivial) ?_) ?_
      · rintro pre c post σ S4 epost ⟨x6, x7, x8, x9, rfl, rfl, hp⟩
        have hcm : c ∈ evL sh cs := by rw [epost]; simp
        obtain ⟨hcl, hce⟩ := X.hN c hcm
        refine ⟨_, rfl, ?_⟩
        walk_at "if"
        refine Ev.ixD hd3 rfl (hget _ hcl) ?_
        repeat walk_at "ev"
        refine Ev.ixD hd3 rfl (hget _ hce) ?_
        repeat walk_at "ev"
        refine ⟨fun h => ?_, fun h => ?_⟩
        · have h := of_decide_eq_true h
          repeat walk_at "ev"
          refine ⟨?_, U2.trans U3⟩
          have : kpB L (evL sh cs) = false := by
            unfold kpB
            rw [List.all_eq_false]
            exact ⟨c, hcm, by simp; omega⟩
          rw [this]
        · have h := of_decide_eq_false h
          repeat walk_at "ev"
          refine ⟨_, _, _, _, rfl, rfl, ?_⟩
          unfold kpB at hp ⊢
          rw [List.all_append, hp]
          simp; omega
      · intro r q
        cases r with
        | nx σ' S4 =>
          obtain ⟨x6, x7, x8, x9, rfl, rfl, hp⟩ := q
          repeat walk_at "ev"
          exact ⟨by rw [hp], U2.trans U3⟩
        | rt v S' => exact q
        | _ => exact q.elim
    | _ => exact q.elim
theorem keeps_ok {S : Sto} {ax : Str} {sh : List Str} {cs : List K} {L : Str → Int} (X : Ctx sh (evL sh cs)) (hc : cs.length ≤ 900) (h0 : L E0 = 0) :
    Ev (d__law_keeps [.str ax, shG sh, csG ax cs, plG sh L] S) fun r S' => r = .bl (kpB L (evL sh cs)) ∧ Upto [] S S' := by
  have hl1 := X.l1
  refine Ev.call rfl ?_
  unfold b__law_keeps
  repeat walk_at "ev"
  refine dict_start fun S1 hd1 U1 => ?_
  refine Fls.seq (Fls.forR1 ?_)
  repeat walk_at "ev"
  refine ⟨by rw [List.length_map]; omega, ?_⟩
  rw [List.length_map]
  refine Fls.mono (range_inv (Qr := fun r S' => False) (sh.length : Int).toNat (fun i σ S2 => ∃ (x5 : Option G), σ = [some (.str ax), some (shG sh), some (csG ax cs), some (plG sh L), some (.loc S.length), x5, none] ∧ S2[S.length]? = some (.dic (dL (β := Str) Sum.inr (fun s => G.int (L s)) (E0 :: sh.take i))) ∧ Upto [] S S2)
    ⟨_, rfl, by rw [hd1]; simp [dL, h0], U1⟩ ?_) ?_
  · rintro i σ S2 hi ⟨x5, rfl, hd2, U2⟩
    obtain ⟨s, hs, _⟩ := at_of_lt (xs := sh) (i := i) (by omega)
    repeat walk_at "ev"
    refine Ev.ixT (atI_nat (at_pl hs)) ?_
    repeat walk_at "ev"
    refine Ev.ixT (atI_nat (at_str hs)) ?_
    refine ⟨_, putD_old hd2 rfl (by rw [dL_len, sizeLine_eq]; simp; omega) (dL_new inr_inj (L := fun s => G.int (L s)) (x := s) (nE0 X.ho X.nd hs)), ?_⟩
    have Ut : Upto [S.length] S2 (List.set S2 S.length (C.dic (dL (β := Str) Sum.inr (fun s => G.int (L s)) (E0 :: sh.take i ++ [s])))) := Upto.set (by simp) _
    refine ⟨_, rfl, ?_, ((U2.mono (Z' := [S.length]) (by simp)).trans Ut).drop (fun n hn l => by simp at hn; omega)⟩
    rw [get_set hd2, take_succ' hs]; rfl
  · intro r q
    cases r with
    | nx σ' S2 =>
      obtain ⟨x5, rfl, hd2, U2⟩ := q
      have et : (sh.length : Int).toNat = sh.length := by omega
      rw [et, List.take_length] at hd2
      have hget : ∀ x ∈ E0 :: sh, getK (dL (β := Str) Sum.inr (fun s => G.int (L s)) (E0 :: sh)) (.inr x) = some (.int (L x)) := fun x hx => dL_get inr_inj hx
      refine Fls.seq (Fls.forL ?_)
      repeat walk_at "ev"
      refine Ev.mono (every_ok (by omega) (by omega)) ?_
      rintro g S3 ⟨l, rfl, hll, hl3, U3⟩
      have hd3 := U3.get (by simp) hd2
      refine ⟨_, _, rfl, getL_lst hl3, ?_⟩
      refine Fls.mono (map_inv (Qr := fun r S' => r = .bl (kpB L (evL sh cs)) ∧ Upto [] S S') (evL sh cs) (fun pre σ S4 => ∃ (x6 : Option G), σ = [some (.str ax), some (shG sh), some (csG ax cs), some (plG sh L), some (.loc S.length), x5, x6] ∧ S4 = S3 ∧ kpB L pre = true)
        ⟨_, rfl, rfl, rfl⟩ (fun _ _ _ h => by obtain ⟨_, _, rfl, _⟩ := h; exact getL_lst hl3) ?_) ?_
      · rintro pre c post σ S4 epost ⟨x6, rfl, rfl, hp⟩
        have hcm : c ∈ evL sh cs := by rw [epost]; simp
        obtain ⟨hcl, hce⟩ := X.hN c hcm
        refine ⟨_, rfl, ?_⟩
        walk_at "if"
        refine Ev.ixD hd3 rfl (hget _ hcl) ?_
        repeat walk_at "ev"
        refine Ev.ixD hd3 rfl (hget _ hce) ?_
        repeat walk_at "ev"
        refine ⟨fun h => ?_, fun h => ?_⟩
        · have h := of_decide_eq_true h
          repeat walk_at "ev"
          refine ⟨?_, U2.trans U3⟩
          have : kpB L (evL sh cs) = false := by
            unfold kpB
            rw [List.all_eq_false]
            exact ⟨c, hcm, by simp; omega⟩
          rw [this]
        · have h := of_decide_eq_false h
          repeat walk_at "ev"
          have hk : kpB L (pre ++ [c]) = true := by
            unfold kpB at hp ⊢
            rw [List.all_append, hp]
            simp; omega
          all_goals first | rfl | exact ⟨_, rfl, rfl, hk⟩ | exact ⟨rfl, hk⟩ | exact hk
      · intro r q
        cases r with
        | nx σ' S4 =>
          obtain ⟨x6, rfl, rfl, hp⟩ := q
          repeat walk_at "ev"
          exact ⟨by rw [hp], U2.trans U3⟩
        | rt v S' => exact q
        | _ => exact q.elim
    | _ => exact q.elim
theorem same_eq : ∀ n, d__law_same n = Hlp.d__law_same n
  | 0 => rfl
  | n + 1 => by
    show callG 2 3 (b__law_same (d__law_same n)) = callG 2 3 (Hlp.b__law_same (Hlp.d__law_same n))
    rw [same_eq n]; rfl
theorem same_k {g : G} {S : Sto} (h1 : depG g < 12) (h2 : nlG g = true) : Ev (d__law_same 12 [g, g] S) fun r S' => r = .bl true ∧ S' = S := by
  rw [same_eq]
  exact ⟨_, _, same_ok 12 g S h1 h2, rfl, rfl⟩
theorem same_bl {b : Bool} {S : Sto} : Ev (d__law_same 12 [.bl b, .bl b] S) fun r S' => r = .bl true ∧ S' = S := same_k (by simp [depG]) rfl
theorem near_pl {sh : List Str} (hnd : sh.Nodup) {k : Nat} {s : Str} (hk : sh[k]? = some s) (L : Str → Int) (v : Int) : (sh.map fun s => G.int (L s)).set k (.int v) = sh.map fun z => .int (upd L s v z) := by
  rw [map_set_of hnd hk]
  refine List.map_congr_left fun z _ => ?_
  unfold upd
  by_cases q : z = s
  · subst q; simp
  · simp [q]
theorem kpB_near {sh : List Str} {cs : List K} (X : Ctx sh (evL sh cs)) {L : Str → Int} (h0 : L E0 = 0) {s : Str} (hs : s ∈ sh) (v : Int) : (decide (0 ≤ v) && kpB (upd L s v) (evL sh cs)) = kpB (upd L s v) (evL sh cs) := by
  cases q : kpB (upd L s v) (evL sh cs) with
  | false => simp
  | true =>
    have := kpB_true.mp q (ownC E0 s) (X.own s hs)
    have hne : E0 ≠ s := fun e => X.ho (e ▸ hs)
    simp only [ownC] at this
    rw [upd_same, upd_ne _ _ hne, h0] at this
    have : 0 ≤ v := by omega
    simp [this]
theorem judges_places_ok {S : Sto} {j r : Nat} {ax : Str} {sh : List Str} {cs : List K} {L : Str → Int} (J : Jar S j r) (hne : sh ≠ []) (X : Ctx sh (evL sh cs)) (hc : cs.length ≤ 900) (h0 : L E0 = 0) (hF : Fix (evL sh cs) L) :
    Ev (d__law_judges_places [.loc j, .str ax, shG sh, csG ax cs, plG sh L] S) fun r _ => r = .bl true := by
  have hl1 := X.l1
  have hsl : 0 < sh.length := List.length_pos_iff.mpr hne
  refine Ev.call rfl ?_
  unfold b__law_judges_places
  walk_at "if"
  refine Ev.mono (places_ok X hc h0) ?_
  rintro g S1 ⟨rfl, U1⟩
  rw [kpB_true.mpr hF]
  repeat walk_at "ev"
  repeat walk_at "c"
  have J1 := J.upto U1 (by simp) (by simp)
  refine Fls.seq (Fls.forR1 ?_)
  repeat walk_at "ev"
  refine ⟨by omega, ?_⟩
  refine Fls.mono (range_inv (Qr := fun r S' => False) 3 (fun i σ S2 => ∃ (x5 x6 x7 x8 x9 : Option G), σ = [some (.loc j), some (.str ax), some (shG sh), some (csG ax cs), some (plG sh L), x5, x6, x7, x8, x9, none, none] ∧ Jar S2 j r)
    ⟨_, _, _, _, _, rfl, J1⟩ ?_) ?_
  · rintro i σ S2 hi ⟨x5, x6, x7, x8, x9, rfl, J2⟩
    repeat walk_at "ev"
    rw [List.length_map]
    refine Ev.mono (take_n J2 hsl) ?_
    rintro g S3 ⟨k, rfl, hk, J3, U3⟩
    obtain ⟨s, hs, hsm⟩ := at_of_lt hk
    repeat walk_at "ev"
    refine Ev.ixT (atI_nat (at_pl hs)) ?_
    repeat walk_at "ev"
    obtain ⟨d, hd⟩ : ∃ d : Int, atI [G.int (-1), .int 1, .int 7] (i : Int) = some (.int d) := by
      have : i = 0 ∨ i = 1 ∨ i = 2 := by omega
      rcases this with rfl | rfl | rfl
      · exact ⟨-1, rfl⟩
      · exact ⟨1, rfl⟩
      · exact ⟨7, rfl⟩
    refine Ev.ixL (getL_lst (get_new _)) hd ?_
    have J4 := J3.upto (Upto.app [] _ [C.lst [G.int (-1), .int 1, .int 7]]) (by simp) (by simp)
    generalize S3 ++ [C.lst [G.int (-1), .int 1, .int 7]] = S4 at J4 ⊢
    repeat walk_at "ev"
    generalize L s + d = mv
    refine Ev.addT (line_ok (by simp [cut_take]; omega)) ?_
    repeat walk_at "ev"
    refine Ev.addT (line_ok (by rw [show ((k : Int) + 1) = ((k + 1 : Nat) : Int) by omega, cut_take, cut_drop]; simp; omega)) ?_
    rw [cut_set (by simpa using hk), near_pl X.nd hs]
    have h0' : upd L s mv E0 = 0 := by
      rw [upd_ne, h0]
      intro e
      exact X.ho (e ▸ hsm)
    refine Fls.seqSet ?_
    refine Ev.mono (Q := fun g S' => g = .bl (kpB (upd L s mv) (evL sh cs)) ∧ Jar S' j r) ?_ ?_
    · rw [← kpB_near X h0 hsm]
      repeat walk_at "ev"
      refine ⟨fun h => ?_, fun h => ?_⟩
      · repeat walk_at "ev"
        refine Ev.mono (keeps_ok X hc h0') ?_
        rintro g S5 ⟨rfl, U5⟩
        exact ⟨by rw [h]; rfl, J4.upto U5 (by simp) (by simp)⟩
      · exact ⟨by rw [h]; rfl, J4⟩
    rintro g S5 ⟨rfl, J5⟩
    refine Fls.si ?_
    repeat walk_at "ev"
    refine Ev.mono (places_ok X hc h0') ?_
    rintro g S6 ⟨rfl, U6⟩
    repeat walk_at "ev"
    refine Ev.mono same_bl ?_
    rintro g S7 ⟨rfl, rfl⟩
    refine ⟨_, rfl, ?_⟩
    repeat walk_at "c"
    have J7 := J5.upto U6 (by simp) (by simp)
    all_goals first | exact ⟨_, _, _, _, _, rfl, J7⟩ | exact J7 | rfl
  intro rr q
  cases rr with
  | nx σ S2 =>
    obtain ⟨x5, x6, x7, x8, x9, rfl, J2⟩ := q
    repeat walk_at "ev"
    rw [List.length_map]
    refine Ev.mono (take_n J2 hsl) ?_
    rintro g S3 ⟨k, rfl, hk, J3, U3⟩
    obtain ⟨s, hs, hsm⟩ := at_of_lt hk
    repeat walk_at "ev"
    refine Ev.ixT (atI_nat (at_pl hs)) ?_
    repeat walk_at "ev"
    refine Ev.addT (line_ok (by simp [cut_take]; omega)) ?_
    repeat walk_at "ev"
    refine Ev.addT (line_ok (by rw [show ((k : Int) + 1) = ((k + 1 : Nat) : Int) by omega, cut_take, cut_drop]; simp; omega)) ?_
    repeat walk_at "ev"
    refine Ev.addT (line_ok (by simp; omega)) ?_
    repeat walk_at "ev"
    refine Ev.addT (line_ok (by simp [cut_take]; omega)) ?_
    repeat walk_at "ev"
    refine Ev.addT (line_ok (by rw [show ((k : Int) + 1) = ((k + 1 : Nat) : Int) by omega, cut_take, cut_drop]; simp; omega)) ?_
    repeat walk_at "ev"
    rw [cut_set (by simpa using hk), cut_set (by simpa using hk)]
    generalize eo : [G.loc S3.length, .tup (cutL (sh.map fun s => G.int (L s)) (some 1) none), .tup ((sh.map fun s => G.int (L s)) ++ [.int 0]), .non, .tup ((sh.map fun s => G.int (L s)).set k (.bl (L s == 1))), .str (Str.ofString ""), .tup ((sh.map fun s => G.int (L s)).set k (.str (Str.ofString "1")))] = others
    have ho : others.length = 7 := by rw [← eo]; rfl
    have U4 : Upto [] S3 (S3 ++ [C.lst (sh.map fun s => G.int (L s))] ++ [C.lst others]) := (Upto.app _ _ _).trans (Upto.app _ _ _)
    have hoL : (S3 ++ [C.lst (sh.map fun s => G.int (L s))] ++ [C.lst others])[(S3 ++ [C.lst (sh.map fun s => G.int (L s))]).length]? = some (.lst others) := get_new _
    have hlL : (S3 ++ [C.lst (sh.map fun s => G.int (L s))] ++ [C.lst others])[S3.length]? = some (.lst (sh.map fun s => G.int (L s))) := by rw [List.getElem?_append_left (by simp)]; exact get_new _
    have J4 := J3.upto U4 (by simp) (by simp)
    have hlen : (S3 ++ [C.lst (sh.map fun s => G.int (L s))]).length = S3.length + 1 := by simp
    rw [hlen] at hoL ⊢
    have hj3 := J3.jlt
    generalize S3 ++ [C.lst (sh.map fun s => G.int (L s))] ++ [C.lst others] = S4 at hoL hlL J4 ⊢
    refine Ev.mono (take_n (n := 7) J4 (by decide)) ?_
    rintro g S5 ⟨m, rfl, hm, J5, U5⟩
    obtain ⟨g, hg, hgm⟩ := at_of_lt (xs := others) (i := m) (by omega)
    refine Ev.ixL (getL_lst (U5.get (by simp; omega) hoL)) (atI_nat hg) ?_
    repeat walk_at "ev"
    have hlL5 := U5.get (by simp; omega) hlL
    have hset : ∀ y : G, Fl3 y → ∀ g ∈ (sh.map fun s => G.int (L s)).set k y, Fl3 g := fun y hy g hg => by
      rcases List.mem_or_eq_of_mem_set hg with hg | rfl
      · obtain ⟨z, _, rfl⟩ := List.mem_map.mp hg
        trivial
      · exact hy
    have hat : ∀ y : G, y ∈ (sh.map fun s => G.int (L s)).set k y := fun y => List.mem_set (by simpa using hk) y
    refine Ev.mono (Q := fun r S' => r = .bl false) ?_ ?_
    · rw [← eo] at hgm
      simp only [List.mem_cons, List.not_mem_nil, or_false] at hgm
      rcases hgm with rfl | rfl | rfl | rfl | rfl | rfl | rfl
      · exact (places_not (g := .loc S3.length) ⟨_, getL_lst hlL5⟩).mono fun _ _ h => h.1
      · refine (places_len ?_).mono fun _ _ h => h.1
        rw [show (some (1 : Int)) = some ((1 : Nat) : Int) from rfl, cut_drop]; simp; omega
      · exact (places_len (by simp)).mono fun _ _ h => h.1
      · exact (places_not trivial).mono fun _ _ h => h.1
      · exact (places_false (by omega) (by simp) (hset (.bl _) trivial) ⟨.bl _, hat _, rfl⟩).mono fun _ _ h => h.1
      · exact (places_not trivial).mono fun _ _ h => h.1
      · exact (places_false (by omega) (by simp) (hset (.str _) trivial) ⟨.str _, hat _, rfl⟩).mono fun _ _ h => h.1
    rintro r9 S9 rfl
    repeat walk_at "ev"
    rfl
  | _ => exact q.elim
end K48
set_option Elab.async false
set_option linter.all false
set_option maxRecDepth 100000
set_option maxHeartbeats 1000000
namespace K48
open PySem L2 FL TL
local macro_rules | `(tactic| walk_at "ev") => `(tactic| with_reducible first
  | (refine Ev.var (g := ?g) ?e ?_; (case e => with_unfolding_all exact rfl)) | refine Ev.k ?_ | refine Ev.op ?_ | refine Ev.un ?_ | refine Ev.anil ?_ | refine Ev.acons ?_ | refine Ev.fcall ?_
  | refine Fls.seqSet ?_ | refine Fls.seqExpr ?_ | refine Fls.seqUnp ?_ | refine Fls.seqPar ?_ | refine Fls.seqPut ?_ | (refine Fls.seqAug (x := ?x) ?e ?_; (case e => with_unfolding_all exact rfl)) | refine Fls.seqRet ?_ | refine Fls.set ?_ | refine Fls.expr ?_ | refine Fls.ret ?_ | refine Fls.nil ?_ | refine Fls.unp ?_ | refine Fls.put ?_ | (refine Fls.aug (x := ?x) ?e ?_; (case e => with_unfolding_all exact rfl))
  | refine Ev.addI ?_ | refine Ev.subI ?_ | refine Ev.ltI ?_ | refine Ev.leI ?_ | refine Ev.gtI ?_ | refine Ev.geI ?_ | refine Ev.eqI ?_ | refine Ev.neI ?_ | refine Ev.eqS ?_ | refine Ev.neS ?_ | refine Ev.eqB ?_ | refine Ev.negI ?_
  | refine Ev.intI ?_ | refine Ev.absI ?_ | refine Ev.minI ?_ | refine Ev.maxI ?_ | refine Ev.lenT ?_ | refine Ev.tupT ?_ | refine Ev.lstT ?_ | refine Ev.slT ?_ | refine Ev.isT ?_ | refine Ev.isN ?_ | refine Ev.isB ?_ | refine Ev.isI ?_ | refine Ev.isS ?_ | refine Ev.isNon ?_ | refine Ev.isNotNon ?_ | refine Ev.isBl ?_ | refine Ev.isNotBl ?_ | refine Ev.augI ?_
  | (refine Ev.ixL (gs := ?gs) (g := ?g) ?e ?h ?_; (case e => assumption); (case h => with_unfolding_all exact rfl)) | (refine Ev.ixT (g := ?g) ?h ?_; (case h => with_unfolding_all exact rfl)) | (refine Ev.lenL (gs := ?gs) ?e ?_; (case e => assumption)) | (refine Ev.isL (gs := ?gs) ?e ?_; (case e => assumption)) | (refine Ev.tupL (gs := ?gs) ?e ?_; (case e => assumption))
  | refine Ev.ttB ?_ | refine Ev.ttVB ?_ | refine Ev.ttNot ?_ | refine Ev.tup ?_ | refine Ev.lst ?_ | refine Ev.sl ?_ | refine Ev.onone ?_ | refine Ev.osome ?_ | refine Ev.fAnd ?_ | refine Ev.fOr ?_ | refine Ev.fNot ?_ | refine Ev.ttAnd ?_ | refine Ev.ttOr ?_ | refine Ev.fIf ?_
  | (refine ⟨?w, ?h, ?_⟩; (case h => with_unfolding_all exact rfl)) | (refine ⟨?h, ?_⟩; (case h => with_unfolding_all exact Nat.le_of_ble_eq_true rfl)) | (refine ⟨?w, ?h, ?_⟩; (case h => exact putL (by assumption) (by with_unfolding_all exact rfl)))
  | dsimp only)
local macro_rules | `(tactic| walk_at "if") => `(tactic| ((with_reducible first | (refine Fls.seq ?_; refine Fls.si ?_) | refine Fls.si ?_); repeat walk_at "ev"))
local macro_rules | `(tactic| walk_at "c") => `(tactic| ((first | (refine ⟨fun _ => ?_, fun h => ?bad⟩; (case bad => first | exact Bool.noConfusion (show true = false from h) | exact Bool.noConfusion (show false = true from h))) | (refine ⟨fun h => ?bad, fun _ => ?_⟩; (case bad => first | exact Bool.noConfusion (show true = false from h) | exact Bool.noConfusion (show false = true from h)))); repeat walk_at "ev"))
theorem endp_ok {ax : Str} : ∀ {p : List K} {x : Str}, PyData.strOk x = true → (∀ d ∈ p, OkC ax d) → PyData.strOk (endp x p) = true
  | [], _, h, _ => h
  | c :: p, _, _, hp => endp_ok (p := p) (hp c List.mem_cons_self).2.1 fun d hd => hp d (List.mem_cons_of_mem _ hd)
theorem wk_dat {ax : Str} {ev p : List K} (h : ∀ d ∈ p, OkC ax d) : datG (wkG (wkV ev p)) = true := by
  cases p with
  | nil => simp [wkV, wkG, datG, canG, depG]
  | cons c p =>
    by_cases hq : (inB ev (c :: p) && decide (lk c.e (c :: p))) = true
    · have e : wkV ev (c :: p) = some (c.e, endp c.e (c :: p), tot (c :: p)) := if_pos hq
      rw [e]
      have h1 := (h c List.mem_cons_self).2.2.1
      have h2 := endp_ok h1 h
      simp [wkG, datG, canG, canGs, depG, depGs, h1, h2]
    · have e : wkV ev (c :: p) = none := if_neg hq
      rw [e]
      simp [wkG, datG, canG, depG]
theorem wk_eq (w : Option (Str × Str × Int)) (a b : Str) (n : Int) : eqG (wkG w) (.tup [.str a, .str b, .int n]) = decide (w = some (a, b, n)) := by
  cases w with
  | none => simp [wkG, eqG]
  | some v =>
    obtain ⟨x, y, m⟩ := v
    simp only [wkG, eqG, eqGs, Bool.and_true]
    rw [Bool.eq_iff_iff]
    simp
theorem judges_chain_ok {S : Sto} {j r : Nat} {ax s : Str} {n : Int} {sh : List Str} {cs p : List K} (J : Jar S j r) (X : Ctx sh (evL sh cs)) (hc : cs.length ≤ 900) (hs : ∀ d ∈ evL sh cs, OkC ax d) (hss : PyData.strOk s = true) (hsE : s ≠ E0)
    (hp0 : p ≠ []) (hpl : p.length ≤ 1000) (hin : ∀ c ∈ p, c ∈ evL sh cs) (hch : chB (evL sh cs) s n p = true) (hev : evL sh cs ≠ []) :
    Ev (d__law_judges_chain [.loc j, .str ax, shG sh, csG ax cs, .str s, .int n, csG ax p] S) fun r' S' => r' = .bl true ∧ Jar S' j r := by
  have hl1 := X.l1
  have hpo : ∀ d ∈ p, OkC ax d := fun d hd => hs d (hin d hd)
  refine Ev.call rfl ?_
  unfold b__law_judges_chain
  walk_at "if"
  refine Ev.mono (is_chain_ok (by omega) (by omega) hpo hs) ?_
  rintro g S1 ⟨rfl, U1⟩
  rw [hch]
  repeat walk_at "ev"
  repeat walk_at "c"
  walk_at "if"
  refine Ev.mono (is_chain_ok (p := []) (by omega) (by omega) (by simp) hs) ?_
  rintro g S2 ⟨rfl, U2⟩
  have e2 : chB (evL sh cs) s n [] = false := by
    have : ¬ E0 = s := fun e => hsE e.symm
    simp [chB, endp, this]
  rw [e2]
  repeat walk_at "ev"
  repeat walk_at "c"
  refine Ev.mono (near_ok ((J.upto U1 (by simp) (by simp)).upto U2 (by simp) (by simp)) (by omega) (by omega) (by omega) hp0 hpo hs hev) ?_
  rintro g S3 ⟨q, rfl, hq, hql, J3, U3⟩
  repeat walk_at "ev"
  refine Ev.mono (law_walk_ok (by omega) (by omega) (by omega) hq hs) ?_
  rintro g S4 ⟨rfl, U4⟩
  repeat walk_at "ev"
  refine Ev.eqq ?_ ?_
  · unfold okEq
    rw [wk_dat hq]
    have : datG (.tup [.str E0, .str s, .int n]) = true := by
      have : PyData.strOk E0 = true := by decide +kernel
      simp [datG, canG, canGs, depG, depGs, this, hss]
    simp [this]
  rw [wk_eq, ← chB_wk hsE]
  walk_at "if"
  refine Ev.mono (is_chain_ok (by omega) (by omega) hq hs) ?_
  rintro g S5 ⟨rfl, U5⟩
  repeat walk_at "ev"
  refine Ev.mono same_bl ?_
  rintro g S6 ⟨rfl, rfl⟩
  refine ⟨_, rfl, ?_⟩
  repeat walk_at "c"
  walk_at "if"
  refine Ev.mono (is_chain_ok (n := n + 1) (by omega) (by omega) hpo hs) ?_
  rintro g S7 ⟨rfl, U7⟩
  have e7 : chB (evL sh cs) s (n + 1) p = false := by
    unfold chB at hch ⊢
    simp only [Bool.and_eq_true, decide_eq_true_eq] at hch
    have : ¬ tot p = n + 1 := by omega
    simp [this]
  rw [e7]
  repeat walk_at "ev"
  repeat walk_at "c"
  have J7 := ((J3.upto U4 (by simp) (by simp)).upto U5 (by simp) (by simp)).upto U7 (by simp) (by simp)
  refine Ev.mono (wrong_ok J7 (by omega) hp0 hpo) ?_
  rintro g S8 ⟨hb, J8, U8⟩
  repeat walk_at "ev"
  refine Ev.mono (is_chain_bad (by omega) (by omega) hb hs) ?_
  rintro g S9 ⟨rfl, U9⟩
  repeat walk_at "ev"
  exact ⟨rfl, J8.upto U9 (by simp) (by simp)⟩
theorem cyB_double {ev p : List K} (h : cyB ev p = true) : cyB ev (p ++ p) = true := by
  cases p with
  | nil => exact h
  | cons c p =>
    unfold cyB at h
    simp only [Bool.and_eq_true, decide_eq_true_eq] at h
    obtain ⟨⟨⟨h1, h2⟩, h3⟩, h4⟩ := h
    show (inB ev (c :: p ++ c :: p) && decide (lk c.e (c :: p ++ c :: p)) && decide (endp c.e (c :: p ++ c :: p) = c.e) && decide (0 < tot (c :: p ++ c :: p))) = true
    simp only [Bool.and_eq_true, decide_eq_true_eq]
    refine ⟨⟨⟨?_, ?_⟩, ?_⟩, ?_⟩
    · rw [inB_app, h1]; rfl
    · rw [lk_app, h3]; exact ⟨h2, h2⟩
    · rw [endp_app, h3, h3]
    · rw [tot_app]; omega
theorem cyB_fix {ev p : List K} {P : Str → Int} (F : Fix ev P) : cyB ev p = false := by
  cases p with
  | nil => rfl
  | cons c p =>
    unfold cyB
    by_cases h1 : inB ev (c :: p) = true
    · by_cases h2 : lk c.e (c :: p)
      · by_cases h3 : endp c.e (c :: p) = c.e
        · have := fix_le F (fun d hd => of_decide_eq_true ((List.all_eq_true.mp h1) d hd)) h2
          rw [h3] at this
          have : ¬ 0 < tot (c :: p) := by omega
          simp [this]
        · simp [h3]
      · simp [h2]
    · have h1 : inB ev (c :: p) = false := by simpa using h1
      simp [h1]
theorem judges_cycle_ok {S : Sto} {j r : Nat} {ax : Str} {sh : List Str} {cs p : List K} (J : Jar S j r) (X : Ctx sh (evL sh cs)) (hc : cs.length ≤ 900) (hs : ∀ d ∈ evL sh cs, OkC ax d)
    (hp0 : p ≠ []) (hpl : p.length ≤ 1000) (hin : ∀ c ∈ p, c ∈ evL sh cs) (hcy : cyB (evL sh cs) p = true) (hev : evL sh cs ≠ []) :
    Ev (d__law_judges_cycle [.loc j, .str ax, shG sh, csG ax cs, csG ax p] S) fun r' _ => r' = .bl true := by
  have hl1 := X.l1
  have hpo : ∀ d ∈ p, OkC ax d := fun d hd => hs d (hin d hd)
  obtain ⟨a, n, hw, hn⟩ : ∃ a n, wkV (evL sh cs) p = some (a, a, n) ∧ 0 < n := by
    rw [cyB_wk] at hcy
    cases q : wkV (evL sh cs) p with
    | none => rw [q] at hcy; cases hcy
    | some v =>
      obtain ⟨a, b, n⟩ := v
      rw [q] at hcy
      simp only [Bool.and_eq_true, decide_eq_true_eq] at hcy
      obtain ⟨rfl, hn⟩ := hcy
      exact ⟨_, _, rfl, hn⟩
  refine Ev.call rfl ?_
  unfold b__law_judges_cycle
  repeat walk_at "ev"
  refine Ev.mono (law_walk_ok (by omega) (by omega) (by omega) hpo hs) ?_
  rintro g S1 ⟨rfl, U1⟩
  rw [hw]
  change Fls (sSeq _ _ [some (.loc j), some (.str ax), some (shG sh), some (csG ax cs), some (csG ax p), some (.tup [.str a, .str a, .int n]), none, none, none, none, none] S1) _
  walk_at "if"
  repeat walk_at "c"
  refine ⟨fun _ => ?_, fun h => ?_⟩
  rotate_left
  · simp at h
  repeat walk_at "ev"
  refine ⟨fun h => ?_, fun _ => ?_⟩
  · have := of_decide_eq_true h
    omega
  repeat walk_at "ev"
  walk_at "if"
  refine Ev.mono (is_cycle_ok (by omega) (by omega) hpo hs) ?_
  rintro g S2 ⟨rfl, U2⟩
  rw [hcy]
  repeat walk_at "ev"
  repeat walk_at "c"
  refine Ev.mono (is_cycle_ok (p := []) (by omega) (by omega) (by simp) hs) ?_
  rintro g S3 ⟨rfl, U3⟩
  rw [show cyB (evL sh cs) [] = false from rfl]
  repeat walk_at "ev"
  repeat walk_at "c"
  walk_at "if"
  refine Ev.addT (line_ok (by simp; omega)) ?_
  rw [← List.map_append]
  repeat walk_at "ev"
  refine Ev.mono (is_cycle_ok (p := p ++ p) (by omega) (by omega) (fun d hd => by
    rcases List.mem_append.mp hd with hd | hd
    · exact hpo d hd
    · exact hpo d hd) hs) ?_
  rintro g S4 ⟨rfl, U4⟩
  rw [cyB_double hcy]
  repeat walk_at "ev"
  repeat walk_at "c"
  have J4 := (((J.upto U1 (by simp) (by simp)).upto U2 (by simp) (by simp)).upto U3 (by simp) (by simp)).upto U4 (by simp) (by simp)
  refine Fls.seq (Fls.forR1 ?_)
  repeat walk_at "ev"
  refine ⟨by omega, ?_⟩
  refine Fls.mono (range_inv (Qr := fun r S' => False) 2 (fun i σ S5 => ∃ (x5 x6 x7 x8 : Option G), σ = [some (.loc j), some (.str ax), some (shG sh), some (csG ax cs), some (csG ax p), x5, x6, x7, x8, none, none] ∧ Jar S5 j r)
    ⟨_, _, _, _, rfl, J4⟩ ?_) ?_
  · rintro i σ S5 hi ⟨x5, x6, x7, x8, rfl, J5⟩
    repeat walk_at "ev"
    refine Ev.mono (near_ok J5 (by omega) (by omega) (by omega) hp0 hpo hs hev) ?_
    rintro g S6 ⟨q, rfl, hq, hql, J6, U6⟩
    repeat walk_at "ev"
    refine Ev.mono (law_walk_ok (by omega) (by omega) (by omega) hq hs) ?_
    rintro g S7 ⟨rfl, U7⟩
    have J7 := J6.upto U7 (by simp) (by simp)
    refine Fls.seqSet ?_
    refine Ev.mono (Q := fun g S' => g = .bl (cyB (evL sh cs) q) ∧ S' = S7) ?_ ?_
    · rw [cyB_wk]
      cases wkV (evL sh cs) q with
      | none =>
        repeat walk_at "ev"
        repeat walk_at "c"
        exact ⟨rfl, rfl⟩
      | some v =>
        obtain ⟨a, b, n⟩ := v
        change Ev (fAnd _ _ [some (.loc j), some (.str ax), some (shG sh), some (csG ax cs), some (csG ax p), some (.tup [.str a, .str b, .int n]), some (.int i), some (csG ax q), x8, none, none] S7) _
        repeat walk_at "ev"
        repeat walk_at "c"
        refine ⟨fun h => ?_, fun h => ?_⟩
        · have h : a = b := by simpa using h
          repeat walk_at "ev"
          refine ⟨?_, rfl⟩
          simp [h]
        · have h : ¬ a = b := by simpa using h
          refine ⟨?_, rfl⟩
          simp [h]
    rintro g S8 ⟨rfl, rfl⟩
    refine Fls.si ?_
    repeat walk_at "ev"
    refine Ev.mono (is_cycle_ok (by omega) (by omega) hq hs) ?_
    rintro g S9 ⟨rfl, U9⟩
    repeat walk_at "ev"
    refine Ev.mono same_bl ?_
    rintro g S10 ⟨rfl, rfl⟩
    refine ⟨_, rfl, ?_⟩
    repeat walk_at "c"
    have J9 := J7.upto U9 (by simp) (by simp)
    all_goals first | exact ⟨_, _, _, _, rfl, J9⟩ | exact J9 | rfl
  intro rr q
  cases rr with
  | nx σ S5 =>
    obtain ⟨x5, x6, x7, x8, rfl, J5⟩ := q
    repeat walk_at "ev"
    refine Ev.lcT (β := Str) (f := G.str) (h := fun s => .int ((fun _ => (0 : Int)) s)) ?_
    repeat walk_at "ev"
    refine ⟨by omega, fun x hx => ⟨_, rfl, fun S6 U6 => ?_⟩, ?_⟩
    · refine Ev.ok ⟨rfl, rfl, ?_⟩
      repeat walk_at "ev"
      all_goals first | rfl | exact ⟨rfl, rfl⟩
    repeat walk_at "ev"
    refine Ev.tupL (getL_lst (get_new _)) ?_
    walk_at "if"
    refine Ev.mono (places_ok (L := fun _ => 0) X hc rfl) ?_
    rintro g S7 ⟨rfl, U7⟩
    have hz : kpB (fun _ => 0) (evL sh cs) = false := by
      cases q : kpB (fun _ => 0) (evL sh cs) with
      | false => rfl
      | true => rw [cyB_fix (kpB_true.mp q)] at hcy; cases hcy
    rw [hz]
    repeat walk_at "ev"
    repeat walk_at "c"
    have J7 := (J5.upto (Upto.app [] _ _) (by simp) (by simp)).upto U7 (by simp) (by simp)
    refine Ev.mono (wrong_ok J7 (by omega) hp0 hpo) ?_
    rintro g S8 ⟨hb, J8, U8⟩
    repeat walk_at "ev"
    refine Ev.mono (is_cycle_bad (by omega) (by omega) hb hs) ?_
    rintro g S9 ⟨rfl, U9⟩
    repeat walk_at "ev"
    rfl
  | _ => exact q.elim
theorem judges_short_ok {S : Sto} {ax : Str} {sh : List Str} {cs : List K} (hl1 : sh.length ≤ 1000) (hc : cs.length ≤ 900) (hs : ∀ d ∈ evL sh cs, OkC ax d) :
    Ev (d__law_judges_short [.str ax, shG sh, csG ax cs] S) fun r' S' => r' = .bl true ∧ Upto [] S S' := by
  refine Ev.call rfl ?_
  unfold b__law_judges_short
  repeat walk_at "ev"
  refine Ev.mono (every_ok (by omega) (by omega)) ?_
  rintro g S1 ⟨l, rfl, hll, hl1', U1⟩
  repeat walk_at "ev"
  refine Ev.slL (getL_lst hl1') ?_
  rw [show (some (40 : Int)) = some ((40 : Nat) : Int) from rfl, cut_take, ← List.map_take]
  have U2 := Upto.app [] S1 [C.lst ((List.take 40 (evL sh cs)).map (cG ax))]
  have hl2 : (S1 ++ [C.lst ((List.take 40 (evL sh cs)).map (cG ax))])[S1.length]? = some (.lst ((List.take 40 (evL sh cs)).map (cG ax))) := get_new _
  have U12 := U1.trans U2
  generalize S1 ++ [C.lst ((List.take 40 (evL sh cs)).map (cG ax))] = S2 at U12 hl2 ⊢
  have htk : ∀ c ∈ List.take 40 (evL sh cs), c ∈ evL sh cs := fun c hc => List.mem_of_mem_take hc
  generalize List.take 40 (evL sh cs) = ts at hl2 htk ⊢
  generalize S1.length = l2 at hl2 ⊢
  repeat walk_at "ev"
  refine Fls.seq (Fls.forL ?_)
  repeat walk_at "ev"
  refine ⟨_, _, rfl, getL_lst hl2, ?_⟩
  refine Fls.mono (map_inv (Qr := fun r S' => False) ts (fun pre σ S4 => ∃ (n : Int) (x5 x6 : Option G), σ = [some (.str ax), some (shG sh), some (csG ax cs), some (.loc l2), some (.int n), x5, x6] ∧ S4[l2]? = some (.lst (ts.map (cG ax))) ∧ Upto [] S S4)
    ⟨0, _, _, rfl, hl2, U12⟩ (fun _ _ _ h => by obtain ⟨_, _, _, _, h, _⟩ := h; exact getL_lst h) ?_) ?_
  · rintro pre a post σ S4 epost ⟨n, x5, x6, rfl, hl4, U4⟩
    have ham := htk a (by rw [epost]; simp)
    refine ⟨_, rfl, ?_⟩
    refine Fls.join (P := fun σ' S' => ∃ (n : Int) (x6 : Option G), σ' = [some (.str ax), some (shG sh), some (csG ax cs), some (.loc l2), some (.int n), some (cG ax a), x6] ∧ S'[l2]? = some (.lst (ts.map (cG ax))) ∧ Upto [] S S') ?_ ?_
    · refine Fls.forL ?_
      repeat walk_at "ev"
      refine ⟨_, _, rfl, getL_lst hl4, ?_⟩
      refine Fls.mono (map_inv (Qr := fun r S' => False) ts (fun pre σ S5 => ∃ (n : Int) (x6 : Option G), σ = [some (.str ax), some (shG sh), some (csG ax cs), some (.loc l2), some (.int n), some (cG ax a), x6] ∧ S5[l2]? = some (.lst (ts.map (cG ax))) ∧ Upto [] S S5)
        ⟨n, _, rfl, hl4, U4⟩ (fun _ _ _ h => by obtain ⟨_, _, _, h, _⟩ := h; exact getL_lst h) ?_) ?_
      · rintro pre b post σ S5 epost5 ⟨n, x6, rfl, hl5, U5⟩
        have hbm := htk b (by rw [epost5]; simp)
        refine ⟨_, rfl, ?_⟩
        change Fls (sIf _ _ _ [some (.str ax), some (shG sh), some (csG ax cs), some (.loc l2), some (.int n), some (cG ax a), some (cG ax b)] S5) _
        refine Fls.si ?_
        repeat walk_at "ev"
        refine ⟨fun _ => ?_, fun _ => ?_⟩
        · repeat walk_at "ev"
          refine ⟨fun h1 => ?_, fun _ => ?_⟩
          · have h1 : a.l = b.e := by simpa using h1
            repeat walk_at "ev"
            refine ⟨fun h2 => ?_, fun _ => ?_⟩
            · have h2 : b.l = a.e := by simpa using h2
              repeat walk_at "ev"
              refine Fls.si ?_
              repeat walk_at "ev"
              refine Ev.mono (is_cycle_ok (p := [a, b]) hl1 (by omega) (fun d hd => by
                simp at hd
                rcases hd with rfl | rfl
                · exact hs _ ham
                · exact hs _ hbm) hs) ?_
              rintro g S6 ⟨rfl, U6⟩
              have e : cyB (evL sh cs) [a, b] = decide (0 < a.g + b.g) := by
                simp [cyB, inB, lk, endp, tot, ham, hbm, h1, h2]
              rw [e]
              repeat walk_at "ev"
              refine Ev.mono same_bl ?_
              rintro g S7 ⟨rfl, rfl⟩
              refine ⟨_, rfl, ?_⟩
              repeat walk_at "c"
              have hl6 := U6.get (by simp) hl5
              all_goals first | exact ⟨_, _, rfl, hl6, U5.trans U6⟩ | exact ⟨hl6, U5.trans U6⟩ | rfl
            · repeat walk_at "ev"
              exact ⟨_, _, rfl, hl5, U5⟩
          · repeat walk_at "ev"
            repeat walk_at "c"
            all_goals first | exact ⟨_, _, rfl, hl5, U5⟩ | exact ⟨hl5, U5⟩ | rfl
        · repeat walk_at "ev"
          repeat walk_at "c"
          all_goals first | exact ⟨_, _, rfl, hl5, U5⟩ | exact ⟨hl5, U5⟩ | rfl
      · intro rr q
        cases rr with
        | nx σ' S5 => exact q
        | _ => exact q.elim
    · rintro σ' S5 ⟨n, x6, rfl, hl5, U5⟩
      refine Fls.si ?_
      repeat walk_at "ev"
      refine ⟨fun h1 => ?_, fun _ => ?_⟩
      · have h1 : a.l = a.e := by simpa using h1
        repeat walk_at "ev"
        refine Ev.mono (is_cycle_ok (p := [a]) hl1 (by omega) (fun d hd => by
          simp at hd
          subst hd
          exact hs _ ham) hs) ?_
        rintro g S6 ⟨rfl, U6⟩
        have e : cyB (evL sh cs) [a] = decide (0 < a.g) := by
          simp [cyB, inB, lk, endp, tot, ham, h1]
        rw [e]
        repeat walk_at "ev"
        refine Ev.mono same_bl ?_
        rintro g S7 ⟨rfl, rfl⟩
        refine ⟨_, rfl, ?_⟩
        repeat walk_at "c"
        have hl6 := U6.get (by simp) hl5
        all_goals first | exact ⟨_, _, _, rfl, hl6, U5.trans U6⟩ | exact ⟨hl6, U5.trans U6⟩ | rfl
      · repeat walk_at "ev"
        repeat walk_at "c"
        all_goals first | exact ⟨_, _, _, rfl, hl5, U5⟩ | exact ⟨hl5, U5⟩ | rfl
  · intro rr q
    cases rr with
    | nx σ' S4 =>
      obtain ⟨n, x5, x6, rfl, hl4, U4⟩ := q
      repeat walk_at "ev"
      exact ⟨rfl, U4⟩
    | _ => exact q.elim
end K48
set_option Elab.async false
set_option linter.all false
set_option maxRecDepth 100000
set_option maxHeartbeats 1000000
namespace K48
open PySem L2 FL TL
local macro_rules | `(tactic| walk_at "ev") => `(tactic| with_reducible first
  | (refine Ev.var (g := ?g) ?e ?_; (case e => with_unfolding_all exact rfl)) | refine Ev.k ?_ | refine Ev.op ?_ | refine Ev.un ?_ | refine Ev.anil ?_ | refine Ev.acons ?_ | refine Ev.fcall ?_
  | refine Fls.seqSet ?_ | refine Fls.seqExpr ?_ | refine Fls.seqUnp ?_ | refine Fls.seqPar ?_ | refine Fls.seqPut ?_ | (refine Fls.seqAug (x := ?x) ?e ?_; (case e => with_unfolding_all exact rfl)) | refine Fls.seqRet ?_ | refine Fls.set ?_ | refine Fls.expr ?_ | refine Fls.ret ?_ | refine Fls.nil ?_ | refine Fls.unp ?_ | refine Fls.put ?_ | (refine Fls.aug (x := ?x) ?e ?_; (case e => with_unfolding_all exact rfl))
  | refine Ev.addI ?_ | refine Ev.subI ?_ | refine Ev.ltI ?_ | refine Ev.leI ?_ | refine Ev.gtI ?_ | refine Ev.geI ?_ | refine Ev.eqI ?_ | refine Ev.neI ?_ | refine Ev.eqS ?_ | refine Ev.neS ?_ | refine Ev.eqB ?_ | refine Ev.negI ?_
  | refine Ev.intI ?_ | refine Ev.absI ?_ | refine Ev.minI ?_ | refine Ev.maxI ?_ | refine Ev.lenT ?_ | refine Ev.tupT ?_ | refine Ev.lstT ?_ | refine Ev.slT ?_ | refine Ev.isT ?_ | refine Ev.isN ?_ | refine Ev.isB ?_ | refine Ev.isI ?_ | refine Ev.isS ?_ | refine Ev.isNon ?_ | refine Ev.isNotNon ?_ | refine Ev.isBl ?_ | refine Ev.isNotBl ?_ | refine Ev.augI ?_
  | (refine Ev.ixL (gs := ?gs) (g := ?g) ?e ?h ?_; (case e => assumption); (case h => with_unfolding_all exact rfl)) | (refine Ev.ixT (g := ?g) ?h ?_; (case h => with_unfolding_all exact rfl)) | (refine Ev.lenL (gs := ?gs) ?e ?_; (case e => assumption)) | (refine Ev.isL (gs := ?gs) ?e ?_; (case e => assumption)) | (refine Ev.tupL (gs := ?gs) ?e ?_; (case e => assumption))
  | refine Ev.ttB ?_ | refine Ev.ttVB ?_ | refine Ev.ttNot ?_ | refine Ev.tup ?_ | refine Ev.lst ?_ | refine Ev.sl ?_ | refine Ev.onone ?_ | refine Ev.osome ?_ | refine Ev.fAnd ?_ | refine Ev.fOr ?_ | refine Ev.fNot ?_ | refine Ev.ttAnd ?_ | refine Ev.ttOr ?_ | refine Ev.fIf ?_
  | (refine ⟨?w, ?h, ?_⟩; (case h => with_unfolding_all exact rfl)) | (refine ⟨?h, ?_⟩; (case h => with_unfolding_all exact Nat.le_of_ble_eq_true rfl)) | (refine ⟨?w, ?h, ?_⟩; (case h => exact putL (by assumption) (by with_unfolding_all exact rfl)))
  | dsimp only)
local macro_rules | `(tactic| walk_at "if") => `(tactic| ((with_reducible first | (refine Fls.seq ?_; refine Fls.si ?_) | refine Fls.si ?_); repeat walk_at "ev"))
local macro_rules | `(tactic| walk_at "c") => `(tactic| ((first | (refine ⟨fun _ => ?_, fun h => ?bad⟩; (case bad => first | exact Bool.noConfusion (show true = false from h) | exact Bool.noConfusion (show false = true from h))) | (refine ⟨fun h => ?bad, fun _ => ?_⟩; (case bad => first | exact Bool.noConfusion (show true = false from h) | exact Bool.noConfusion (show false = true from h)))); repeat walk_at "ev"))
theorem due_cases {ax : Str} {sh : List Str} {ev : List K} {g : G} (X : Ctx sh ev) (h : Due ax sh ev g) :
    (∃ (P : Str → Int) (ch : Str → List K), g = .tup [.str (Str.ofString "places"), plG sh P, .tup (sh.map fun s => csG ax (ch s))] ∧ Fix ev P ∧ P E0 = 0 ∧ ∀ s ∈ sh, ch s ≠ [] ∧ (∀ c ∈ ch s, c ∈ ev) ∧ (ch s).length ≤ 60 ∧ chB ev s (P s) (ch s) = true) ∨
    (∃ p : List K, g = .tup [.str (Str.ofString "cycle"), csG ax p] ∧ p ≠ [] ∧ (∀ c ∈ p, c ∈ ev) ∧ p.length ≤ 61 ∧ cyB ev p = true) := by
  obtain ⟨m, F, h⟩ := h
  obtain ⟨R, T, t, I, hL⟩ := run_inv X m
  have hL := hL F.h1
  have hl1 := X.l1
  have hin : ∀ {w : List K} {v u : Str}, QP (run sh ev m).Q w v u → ∀ c ∈ w, c ∈ ev := fun hw c hc => by
    obtain ⟨x, hx⟩ := hw.mem c hc
    exact (I.c1 x c hx).2.1
  have hInB : ∀ {p : List K}, (∀ c ∈ p, c ∈ ev) → inB ev p = true := fun hp => by
    unfold inB
    rw [List.all_eq_true]
    exact fun c hc => decide_eq_true (hp c hc)
  have hQl : ∀ v c, (run sh ev m).Q v = some c → c.l = v := fun v c h => (I.c1 v c h).1
  rcases h with ⟨hw, ch, h1, h2, rfl⟩ | ⟨v, w, y, cy, h1, h2, h3, h4, rfl⟩
  · left
    rw [hw] at hL
    have hF : Fix ev (run sh ev m).P := hL
    have hP0 := I.c3 h2
    refine ⟨(run sh ev m).P, fun s => (ch s).reverse, rfl, hF, hP0, fun s hs => ?_⟩
    have hq := h1 s hs
    obtain ⟨_, w', hw', hwl, hwt⟩ := I.chain hF X.hN (v := s) (by simp [hs])
    have ew := QP.det0 h2 hq hw'
    obtain ⟨hlk, hend⟩ := hq.fwd hQl
    have hrin : ∀ c ∈ (ch s).reverse, c ∈ ev := fun c hc => hin hq c (by simpa using hc)
    refine ⟨fun e => ?_, hrin, by rw [List.length_reverse, ew]; omega, ?_⟩
    · have : ch s = [] := by simpa using e
      rw [this] at hq
      have hq : s = E0 := hq
      exact X.ho (hq ▸ hs)
    · unfold chB
      rw [hInB hrin, tot_rev, hwt, ew]
      simp [hlk, hend, ← ew]
  · right
    have hm2 : m = sh.length + 2 := by
      rcases F.h4 with h | h
      · rw [h1] at h; cases h
      · exact h
    rw [h1] at hL
    obtain ⟨w', y', cy', g1, g2, g3, g4, _⟩ := I.ring X.hN hL.1 (by omega)
    obtain ⟨_, e⟩ := QP.det h2 g1 (by omega)
    subst e
    have hle := h4.least cy' g3.at' g3.ne
    obtain ⟨hlk, hend⟩ := h4.at'.fwd hQl
    have hrin : ∀ c ∈ cy.reverse, c ∈ ev := fun c hc => hin h4.at' c (by simpa using hc)
    have htot := I.cyc h4.at' h4.ne
    rw [← tot_rev] at htot
    have hne : cy.reverse ≠ [] := by simpa using h4.ne
    have hlen : cy.reverse.length ≤ 61 := by rw [List.length_reverse]; omega
    refine ⟨cy.reverse, rfl, hne, hrin, hlen, ?_⟩
    generalize cy.reverse = p at *
    cases p with
    | nil => exact absurd rfl hne
    | cons c p =>
      have hc : c.e = y := hlk.1
      show (inB ev (c :: p) && decide (lk c.e (c :: p)) && decide (endp c.e (c :: p) = c.e) && decide (0 < tot (c :: p))) = true
      rw [hInB hrin, hc]
      simp [hlk, hend, htot]
theorem okOf {x : Str} (h : ∀ c ∈ tl x, c < 256) : PyData.strOk x = true := by
  unfold PyData.strOk
  rw [← Array.all_toList]
  show (tl x).all _ = true
  rw [List.all_eq_true]
  intro d hd
  have := h d hd
  simp; omega
theorem num_lt (n : Nat) : ∀ c ∈ tl (Str.ofString (toString (n : Int))), c < 256 := fun c hc => by
  rw [tl_num] at hc
  have h := numL_digits n c hc
  have := h
  omega
theorem zz_num (n : Nat) : PyData.strOk (Str.ofString "zz." ++ Str.ofString (toString (n : Int))) = true := okOf fun c hc => by
  rw [tl_append] at hc
  rcases List.mem_append.mp hc with hc | hc
  · have : ∀ c ∈ tl (Str.ofString "zz."), c < 256 := by rw [tl_ofString]; decide +kernel
    exact this c hc
  · exact num_lt n c hc
theorem num_len {n : Nat} (h : n < 1000) : (Str.ofString (toString (n : Int))).length ≤ 3 := by
  rw [len_tl, tl_num]
  exact numL_len (by decide) (by omega)
theorem log_ok {n : Nat} (h : n < 1000) : ((n : Int)).natAbs.log2 < 1920 := by
  have h1 : (n : Int).natAbs = n := by omega
  rw [h1]
  have : n.log2 ≤ n := Nat.log2_le_self n
  omega
structure CO (sh : List Str) (c : K) : Prop where
  l : c.l ∈ E0 :: sh
  e : c.e ∈ E0 :: sh
  id : PyData.strOk c.id = true
theorem at_names {sh : List Str} {v : Nat} (h : v ≤ sh.length) : ∃ x, (sh.map G.str ++ [G.str E0])[v]? = some (.str x) ∧ x ∈ E0 :: sh := by
  by_cases q : v < sh.length
  · obtain ⟨x, hx, hm⟩ := at_of_lt q
    exact ⟨x, by rw [List.getElem?_append_left (by simpa using q)]; exact at_str hx, by simp [hm]⟩
  · have : v = sh.length := by omega
    subst this
    exact ⟨E0, by rw [List.getElem?_append_right (by simp)]; simp, by simp⟩
theorem cons_ok {S : Sto} {j r : Nat} {ax : Str} {sh : List Str} {many : Nat} (J : Jar S j r) (hl : sh.length ≤ 60) (hsl : 0 < sh.length) (hm : many ≤ 200) :
    Ev (d__law_constraints [.loc j, .str ax, shG sh, .int many] S) fun g S' => ∃ cs, g = csG ax cs ∧ (∀ c ∈ cs, CO sh c) ∧ cs.length ≤ 400 ∧ Jar S' j r ∧ Upto [j] S S' := by
  have hjl := J.jlt
  have hrl := J.rlt
  have J0 : Jar (S ++ [C.lst []]) j r := J.upto (Upto.app [] _ _) (by simp) (by simp)
  refine Ev.call rfl ?_
  unfold b__law_constraints
  repeat walk_at "ev"
  refine Ev.mono (take_k J0 (by decide)) ?_
  rintro g S1 ⟨v1, rfl, _, _, J1, U1⟩
  repeat walk_at "ev"
  have hl1 : S1[S.length]? = some (.lst []) := U1.get (by simp; omega) (get_new _)
  have U01 : Upto [j] S S1 := (Upto.app _ _ _).trans U1
  generalize decide (0 < v1) = small
  refine Fls.seq (Fls.forR1 ?_)
  repeat walk_at "ev"
  refine ⟨by omega, ?_⟩
  refine Fls.mono (range_inv (Qr := fun _ _ => False) (many : Int).toNat (fun i σ S2 => ∃ (cs : List K) (x6 x7 x8 x9 x10 x11 : Option G), σ = [some (.loc j), some (.str ax), some (shG sh), some (.int many), some (.loc S.length), some (.bl small), x6, x7, x8, x9, x10, x11] ∧
      S2[S.length]? = some (.lst (cs.map (cG ax))) ∧ (∀ c ∈ cs, CO sh c) ∧ cs.length ≤ 2 * i ∧ Jar S2 j r ∧ Upto [j] S S2)
    ⟨[], _, _, _, _, _, _, rfl, hl1, by simp, by simp, J1, U01⟩ ?_) ?_
  · rintro i σ S2 hi ⟨cs, x6, x7, x8, x9, x10, x11, rfl, hl2, hin, hle, J2, U2⟩
    have hi : i < many := by omega
    have go : ∀ {A B : Sto}, A[S.length]? = some (.lst (cs.map (cG ax))) → Upto [j] A B → B[S.length]? = some (.lst (cs.map (cG ax))) := fun h U => U.get (by simp; omega) h
    have el1 : ((sh.length : Nat) : Int) + 1 = ((sh.length + 1 : Nat) : Int) := by omega
    repeat walk_at "ev"
    rw [List.length_map, el1]
    refine Ev.mono (take_n J2 (by omega)) ?_
    rintro g S3 ⟨u, rfl, hu, J3, U3⟩
    repeat walk_at "ev"
    rw [List.length_map, el1]
    refine Ev.mono (take_n J3 (by omega)) ?_
    rintro g S4 ⟨e, rfl, he, J4, U4⟩
    have hl4 := go (go hl2 U3) U4
    have U04 := (U2.trans U3).trans U4
    clear J2 J3 U2 U3 U4 hl2
    repeat walk_at "ev"
    change Fls (sSeq _ _ [some (.loc j), some (.str ax), some (shG sh), some (.int many), some (.loc S.length), some (.bl small), some (.int i), some (.int u), some (.int e), x9, x10, x11] S4) _
    refine Fls.join (P := fun σ' S' => ∃ e : Nat, e < sh.length + 1 ∧ σ' = [some (.loc j), some (.str ax), some (shG sh), some (.int many), some (.loc S.length), some (.bl small), some (.int i), some (.int u), some (.int e), x9, x10, x11] ∧ S' = S4) ?_ ?_
    · refine Fls.si ?_
      repeat walk_at "ev"
      refine ⟨fun _ => ?_, fun _ => ?_⟩
      · repeat walk_at "ev"
        refine ⟨fun _ => ?_, fun _ => ?_⟩
        · repeat walk_at "ev"
          exact ⟨0, by omega, rfl, rfl⟩
        · repeat walk_at "ev"
          exact ⟨e, he, rfl, rfl⟩
      · repeat walk_at "ev"
        repeat walk_at "c"
        exact ⟨e, he, rfl, rfl⟩
    rintro σ' S' ⟨e, he, rfl, rfl⟩
    repeat walk_at "ev"
    refine Ev.mono (take_k J4 (by decide)) ?_
    rintro g S5 ⟨g5, rfl, _, _, J5, U5⟩
    have hl5 := go hl4 U5
    have U05 := U04.trans U5
    clear J4 U04 U5 hl4
    repeat walk_at "ev"
    generalize g5 - 3 = g6
    change Fls (sSeq _ _ [some (.loc j), some (.str ax), some (shG sh), some (.int many), some (.loc S.length), some (.bl small), some (.int i), some (.int u), some (.int e), some (.int g6), x10, x11] S5) _
    refine Fls.join (P := fun σ' S' => ∃ gp : Int, σ' = [some (.loc j), some (.str ax), some (shG sh), some (.int many), some (.loc S.length), some (.bl small), some (.int i), some (.int u), some (.int e), some (.int gp), x10, x11] ∧ S'[S.length]? = some (.lst (cs.map (cG ax))) ∧ Jar S' j r ∧ Upto [j] S S') ?_ ?_
    · refine Fls.si ?_
      repeat walk_at "ev"
      refine Ev.mono (take_k J5 (by decide)) ?_
      rintro g S6 ⟨v6, rfl, _, _, J6, U6⟩
      have hl6 := go hl5 U6
      repeat walk_at "ev"
      refine ⟨fun _ => ?_, fun _ => ?_⟩
      · repeat walk_at "ev"
        have U7 := Upto.app [] S6 [C.lst [.int (-200), .int 260, .int 200, .int (-1), .int 0]]
        have hln := J6.jlt
        refine Ev.mono (take_k (J6.upto U7 (by simp) (by simp)) (by decide)) ?_
        rintro g S8 ⟨v8, rfl, h80, h81, J8, U8⟩
        have hlt : S8[S6.length]? = some (.lst [.int (-200), .int 260, .int 200, .int (-1), .int 0]) := U8.get (by simp; omega) (get_new _)
        obtain ⟨d, hd⟩ : ∃ d : Int, atI [G.int (-200), .int 260, .int 200, .int (-1), .int 0] v8 = some (.int d) := by
          have : v8 = 0 ∨ v8 = 1 ∨ v8 = 2 ∨ v8 = 3 ∨ v8 = 4 := by omega
          rcases this with rfl | rfl | rfl | rfl | rfl <;> exact ⟨_, rfl⟩
        refine Ev.ixL (getL_lst hlt) hd ?_
        repeat walk_at "ev"
        first | exact ⟨d, rfl, go (U7.get (by simp) hl6) U8, J8, ((U05.trans U6).trans (U7.mono (by simp))).trans U8⟩ | exact ⟨go (U7.get (by simp) hl6) U8, J8, ((U05.trans U6).trans (U7.mono (by simp))).trans U8⟩
      · repeat walk_at "ev"
        first | exact ⟨g6, rfl, hl6, J6, U05.trans U6⟩ | exact ⟨hl6, J6, U05.trans U6⟩
    clear J5 U05 hl5
    rintro σ' S6 ⟨gp, rfl, hl6, J6, U6⟩
    refine Fls.join (P := fun σ' S' => ∃ (u e : Nat), u < sh.length + 1 ∧ e < sh.length + 1 ∧ σ' = [some (.loc j), some (.str ax), some (shG sh), some (.int many), some (.loc S.length), some (.bl small), some (.int i), some (.int u), some (.int e), some (.int gp), x10, x11] ∧ S' = S6) ?_ ?_
    · refine Fls.si ?_
      repeat walk_at "ev"
      refine ⟨fun _ => ?_, fun _ => ?_⟩
      · repeat walk_at "ev"
        refine ⟨fun _ => ?_, fun _ => ?_⟩
        · repeat walk_at "ev"
          refine ⟨fun _ => ?_, fun _ => ?_⟩
          · refine Fls.par ?_
            repeat walk_at "ev"
            exact ⟨e, u, he, hu, rfl, rfl⟩
          · repeat walk_at "ev"
            exact ⟨u, e, hu, he, rfl, rfl⟩
        · repeat walk_at "ev"
          repeat walk_at "c"
          exact ⟨u, e, hu, he, rfl, rfl⟩
      · repeat walk_at "ev"
        repeat walk_at "c"
        exact ⟨u, e, hu, he, rfl, rfl⟩
    clear hu he
    rintro σ' S6' ⟨u, e, hu, he, rfl, rfl⟩
    refine Fls.join (P := fun σ' S' => ∃ (gp : Int), σ' = [some (.loc j), some (.str ax), some (shG sh), some (.int many), some (.loc S.length), some (.bl small), some (.int i), some (.int u), some (.int e), some (.int gp), x10, x11] ∧ S' = S6') ?_ ?_
    · refine Fls.si ?_
      repeat walk_at "ev"
      refine ⟨fun _ => ?_, fun _ => ?_⟩
      · repeat walk_at "ev"
        refine ⟨fun _ => ?_, fun _ => ?_⟩
        · repeat walk_at "ev"
          all_goals first | exact ⟨_, rfl, rfl⟩ | rfl
        · repeat walk_at "ev"
          all_goals first | exact ⟨_, rfl, rfl⟩ | rfl
      · repeat walk_at "ev"
        repeat walk_at "c"
        all_goals first | exact ⟨_, rfl, rfl⟩ | rfl
    rintro σ' S' ⟨gp, rfl, rfl⟩
    refine Fls.join (P := fun σ' S' => ∃ (gp : Int), σ' = [some (.loc j), some (.str ax), some (shG sh), some (.int many), some (.loc S.length), some (.bl small), some (.int i), some (.int u), some (.int e), some (.int gp), x10, x11] ∧ S'[S.length]? = some (.lst (cs.map (cG ax))) ∧ Jar S' j r ∧ Upto [j] S S') ?_ ?_
    · refine Fls.si ?_
      repeat walk_at "ev"
      refine ⟨fun _ => ?_, fun _ => ?_⟩
      · repeat walk_at "ev"
        refine Ev.mono (take_k J6 (by decide)) ?_
        rintro g S7 ⟨v7, rfl, _, _, J7, U7⟩
        repeat walk_at "ev"
        refine ⟨fun _ => ?_, fun _ => ?_⟩
        · repeat walk_at "ev"
          first | exact ⟨_, rfl, go hl6 U7, J7, U6.trans U7⟩ | exact ⟨go hl6 U7, J7, U6.trans U7⟩
        · repeat walk_at "ev"
          first | exact ⟨_, rfl, go hl6 U7, J7, U6.trans U7⟩ | exact ⟨go hl6 U7, J7, U6.trans U7⟩
      · repeat walk_at "ev"
        repeat walk_at "c"
        first | exact ⟨_, rfl, hl6, J6, U6⟩ | exact ⟨hl6, J6, U6⟩
    clear J6 U6 hl6
    rintro σ' S7 ⟨gp, rfl, hl7, J7, U7⟩
    repeat walk_at "ev"
    have Ua : Upto [] S7 (S7 ++ [C.lst (sh.map G.str)]) := Upto.app _ _ _
    have Ub : Upto [] (S7 ++ [C.lst (sh.map G.str)]) (S7 ++ [C.lst (sh.map G.str)] ++ [C.lst [.str E0]]) := Upto.app _ _ _
    refine Ev.addL (Ub.get (by simp) (get_new _)) (get_new _) (line_ok (by simp; omega)) ?_
    have Uc : Upto [] S7 (S7 ++ [C.lst (sh.map G.str)] ++ [C.lst [.str E0]] ++ [C.lst (sh.map G.str ++ [.str E0])]) := (Ua.trans Ub).trans (Upto.app _ _ _)
    have hln : (S7 ++ [C.lst (sh.map G.str)] ++ [C.lst [.str E0]] ++ [C.lst (sh.map G.str ++ [.str E0])])[(S7 ++ [C.lst (sh.map G.str)] ++ [C.lst [.str E0]]).length]? = some (.lst (sh.map G.str ++ [.str E0])) := get_new _
    have hl8 := Uc.get (by simp) hl7
    have J8 := J7.upto Uc (by simp) (by simp)
    have U8 := U7.trans (Uc.mono (Z' := [j]) (by simp))
    generalize S7 ++ [C.lst (sh.map G.str)] ++ [C.lst [.str E0]] ++ [C.lst (sh.map G.str ++ [.str E0])] = S8 at hln hl8 J8 U8 ⊢
    generalize (S7 ++ [C.lst (sh.map G.str)] ++ [C.lst [.str E0]]).length = ln at hln ⊢
    clear J7 U7 hl7 Ua Ub Uc
    have hlnL := getL_lst hln
    obtain ⟨xu, eu, hxu⟩ := at_names (sh := sh) (v := u) (by omega)
    obtain ⟨xe, ee, hxe⟩ := at_names (sh := sh) (v := e) (by omega)
    repeat walk_at "ev"
    refine Ev.ixL hlnL (atI_nat eu) ?_
    repeat walk_at "ev"
    refine Ev.ixL hlnL (atI_nat ee) ?_
    repeat walk_at "ev"
    rw [show ((i : Nat) : Int) + 1 = ((i + 1 : Nat) : Int) by omega]
    refine Ev.strI (log_ok (by omega)) ?_
    have hzl : (Str.ofString "zz.").length = 3 := by rw [len_tl, tl_ofString]; decide +kernel
    refine Ev.addS (line_ok (by have := num_len (n := i + 1) (by omega); omega)) ?_
    repeat walk_at "ev"
    change Fls (sSeq _ _ [some (.loc j), some (.str ax), some (shG sh), some (.int many), some (.loc S.length), some (.bl small), some (.int i), some (.int u), some (.int e), some (.int gp), some (.loc ln), some (cG ax ⟨xu, xe, gp, Str.ofString "zz." ++ Str.ofString (toString ((i + 1 : Nat) : Int))⟩)] S8) _
    have hc0 : CO sh ⟨xu, xe, gp, Str.ofString "zz." ++ Str.ofString (toString ((i + 1 : Nat) : Int))⟩ := ⟨hxu, hxe, zz_num _⟩
    generalize (⟨xu, xe, gp, Str.ofString "zz." ++ Str.ofString (toString ((i + 1 : Nat) : Int))⟩ : K) = c0 at hc0 ⊢
    refine Fls.join (P := fun σ' S' => ∃ (c : K), CO sh c ∧ σ' = [some (.loc j), some (.str ax), some (shG sh), some (.int many), some (.loc S.length), some (.bl small), some (.int i), some (.int u), some (.int e), some (.int gp), some (.loc ln), some (cG ax c)] ∧ S'[S.length]? = some (.lst (cs.map (cG ax))) ∧ Jar S' j r ∧ Upto [j] S S') ?_ ?_
    · have hL8 := getL_lst hl8
      refine Fls.si ?_
      repeat walk_at "ev"
      refine ⟨fun h => ?_, fun _ => ?_⟩
      · rw [List.length_map] at h
        have hpos : 0 < cs.length := by have := of_decide_eq_true h; omega
        repeat walk_at "ev"
        refine Ev.mono (take_k J8 (by decide)) ?_
        rintro g S9 ⟨v9, rfl, _, _, J9, U9⟩
        have hl9 := go hl8 U9
        have hL9 := getL_lst hl9
        repeat walk_at "ev"
        refine ⟨fun _ => ?_, fun _ => ?_⟩
        · repeat walk_at "ev"
          rw [List.length_map]
          refine Ev.mono (take_n J9 hpos) ?_
          rintro g S10 ⟨v10, rfl, hv10, J10, U10⟩
          have hl10 := go hl9 U10
          obtain ⟨c, hc, hcm⟩ := at_of_lt hv10
          refine Ev.ixL (getL_lst hl10) (atI_nat (at_cG hc)) ?_
          repeat walk_at "ev"
          exact ⟨c, hin c hcm, rfl, hl10, J10, (U8.trans U9).trans U10⟩
        · repeat walk_at "ev"
          exact ⟨c0, hc0, rfl, hl9, J9, U8.trans U9⟩
      · repeat walk_at "ev"
        repeat walk_at "c"
        exact ⟨c0, hc0, rfl, hl8, J8, U8⟩
    clear J8 U8 hl8 hln hlnL
    rintro σ' S9 ⟨c, hc, rfl, hl9, J9, U9⟩
    repeat walk_at "ev"
    refine Ev.app (n := 0) (gs := []) (y := .non) ?_
    repeat walk_at "ev"
    refine ⟨by rw [getL_lst hl9]; rfl, ?_⟩
    repeat walk_at "ev"
    refine ⟨_, hl9, by rw [List.length_map, sizeLine_eq]; omega, ?_⟩
    have Ut : Upto [S.length] S9 (List.set S9 S.length (C.lst (cs.map (cG ax) ++ [cG ax c]))) := Upto.set (by simp) _
    have hl10 : (List.set S9 S.length (C.lst (cs.map (cG ax) ++ [cG ax c])))[S.length]? = some (.lst ((cs ++ [c]).map (cG ax))) := by rw [get_set hl9]; simp
    have J10 := J9.upto Ut (by simp; omega) (by simp; omega)
    have U10 : Upto [j] S (List.set S9 S.length (C.lst (cs.map (cG ax) ++ [cG ax c]))) := ((U9.mono (Z' := [j, S.length]) (by simp)).trans (Ut.mono (by simp))).drop (fun n hn l => by simp at hn ⊢; omega)
    generalize List.set S9 S.length (C.lst (cs.map (cG ax) ++ [cG ax c])) = S10 at hl10 J10 U10 ⊢
    have hin2 : ∀ d ∈ cs ++ [c], CO sh d := fun d hd => by
      rcases List.mem_append.mp hd with hd | hd
      · exact hin d hd
      · simp at hd; subst hd; exact hc
    have hL10 := getL_lst hl10
    have hcsl : (cs ++ [c]).length ≤ 2 * i + 1 := by simp; omega
    generalize cs ++ [c] = ds at hl10 hin2 hL10 hcsl
    clear hl9 J9 U9 Ut
    refine Fls.si ?_
    repeat walk_at "ev"
    refine ⟨fun _ => ?_, fun _ => ?_⟩
    · repeat walk_at "ev"
      refine Ev.mono (take_k J10 (by decide)) ?_
      rintro g S11 ⟨v11, rfl, _, _, J11, U11⟩
      have hl11 : S11[S.length]? = some (.lst (ds.map (cG ax))) := U11.get (by simp; omega) hl10
      repeat walk_at "ev"
      refine ⟨fun _ => ?_, fun _ => ?_⟩
      · refine Fls.expr ?_
        refine Ev.app (n := 0) (gs := []) (y := .non) ?_
        repeat walk_at "ev"
        refine ⟨by rw [getL_lst hl11]; rfl, ?_⟩
        repeat walk_at "ev"
        rw [show ((i : Nat) : Int) + 301 = ((i + 301 : Nat) : Int) by omega]
        refine Ev.strI (log_ok (by omega)) ?_
        refine Ev.addS (line_ok (by have := num_len (n := i + 301) (by omega); omega)) ?_
        repeat walk_at "ev"
        refine ⟨_, hl11, by rw [List.length_map, sizeLine_eq]; omega, ?_⟩
        have Ut : Upto [S.length] S11 (List.set S11 S.length (C.lst (ds.map (cG ax) ++ [cG ax ⟨c.e, c.l, -c.g, Str.ofString "zz." ++ Str.ofString (toString ((i + 301 : Nat) : Int))⟩]))) := Upto.set (by simp) _
        refine ⟨ds ++ [⟨c.e, c.l, -c.g, Str.ofString "zz." ++ Str.ofString (toString ((i + 301 : Nat) : Int))⟩], _, _, _, _, _, _, rfl, by rw [get_set hl11]; simp, fun d hd => ?_, by simp; omega, J11.upto Ut (by simp; omega) (by simp; omega), (((U10.trans U11).mono (Z' := [j, S.length]) (by simp)).trans (Ut.mono (by simp))).drop (fun n hn l => by simp at hn ⊢; omega)⟩
        rcases List.mem_append.mp hd with hd | hd
        · exact hin2 d hd
        · simp at hd; subst hd; exact ⟨hc.e, hc.l, zz_num _⟩
      · repeat walk_at "ev"
        exact ⟨ds, _, _, _, _, _, _, rfl, hl11, hin2, by omega, J11, U10.trans U11⟩
    · repeat walk_at "ev"
      repeat walk_at "c"
      exact ⟨ds, _, _, _, _, _, _, rfl, hl10, hin2, by omega, J10, U10⟩
  intro rr q
  cases rr with
  | nx σ S2 =>
    obtain ⟨cs, x6, x7, x8, x9, x10, x11, rfl, hl2, hin, hle, J2, U2⟩ := q
    refine Fls.join (P := fun σ' S' => ∃ (cs : List K) (l : Nat), σ' = [some (.loc j), some (.str ax), some (shG sh), some (.int many), some (.loc l), some (.bl small), x6, x7, x8, x9, x10, x11] ∧ S'[l]? = some (.lst (cs.map (cG ax))) ∧ (∀ c ∈ cs, CO sh c) ∧ cs.length ≤ 400 ∧ Jar S' j r ∧ Upto [j] S S') ?_ ?_
    · refine Fls.si ?_
      repeat walk_at "ev"
      refine Ev.mono (take_k J2 (by decide)) ?_
      rintro g S3 ⟨v3, rfl, _, _, J3, U3⟩
      have hl3 : S3[S.length]? = some (.lst (cs.map (cG ax))) := U3.get (by simp; omega) hl2
      repeat walk_at "ev"
      refine ⟨fun _ => ?_, fun _ => ?_⟩
      · repeat walk_at "ev"
        refine Ev.revL ?_
        repeat walk_at "ev"
        refine ⟨_, _, rfl, getL_lst hl3, ?_⟩
        repeat walk_at "ev"
        have U4 := Upto.app [] S3 [C.lst (cs.map (cG ax)).reverse]
        exact ⟨cs.reverse, _, rfl, by rw [get_new, List.map_reverse], fun c hc => hin c (by simpa using hc), by simp; omega, J3.upto U4 (by simp) (by simp), (U2.trans U3).trans (U4.mono (by simp))⟩
      · repeat walk_at "ev"
        exact ⟨cs, _, rfl, hl3, hin, by omega, J3, U2.trans U3⟩
    rintro σ' S3 ⟨cs, l, rfl, hl3, hin, hle, J3, U3⟩
    have hL3 := getL_lst hl3
    repeat walk_at "ev"
    exact ⟨hin, hle, J3, U3⟩
  | _ => exact q.elim
end K48
set_option Elab.async false
set_option linter.all false
set_option maxRecDepth 100000
set_option maxHeartbeats 4000000
namespace K48
open PySem L2 FL
def topS (i : Nat) : Stmt := PySem.Challenge.pw_lectern_k48_places_exactly.main.body.getD i (.Pass ⟨0, 0, 0, 0⟩)
structure Blt (mg : Str → Option Value) : Prop where
  «abs» : mg "abs" = none
  «bool» : mg "bool" = none
  «int» : mg "int" = none
  «isinstance» : mg "isinstance" = none
  «len» : mg "len" = none
  «list» : mg "list" = none
  «min» : mg "min" = none
  «range» : mg "range" = none
  «str» : mg "str" = none
  «tuple» : mg "tuple" = none
section
variable {P : Program} {w : World} {K : PySem.W.Frag} {mg : Str → Option Value} {base : Heap}
theorem sc_own_constraints : FnScope ["axis", "shapes", "shape"] ["axis", "shapes"] (defScope (topS 2)) := ⟨rfl, rfl, rfl, by decide +kernel, rfl, by decide +kernel, by decide +kernel⟩
theorem ok_own_constraints {f : Addr} {fd : FuncData} (c_ORIGIN : GlobG mg "ORIGIN" (.str "")) (B : Blt mg) (F : Fun K "own_constraints" "own_constraints" (topS 2) f fd) (g : mg "own_constraints" = some (.ref f)) : DefAt P w K mg base 1 "own_constraints" 2 d_own_constraints := by
  have sc := sc_own_constraints
  exact defAt ["axis", "shapes"] F g sc (fun _ _ _ _ _ _ us hl => match us, hl with | [_, _], _ => rfl) fun cdv A outer s H E hr => (iss_one (is_ret (ie_callT cg_tuple B.tuple (ia_cons (ie_lc [("shape", 2)] rfl sc.nd (ii_seq (ie_var 1)) (blkOk_by (N := ["axis", "shapes", "shape"]) (sc := defScope (topS 2)) (by decide +kernel)) rfl (fun _ _ _ _ _ => (ig_name 2 sc.nd)) (fun _ _ _ _ _ => its_nil) (fun _ _ _ _ _ => (ie_tup (ia_cons (ie_var 0) (ia_cons (ie_var 2) (ia_cons (ie_glob c_ORIGIN) (ia_cons ie_int (ia_cons ie_str ia_nil)))))))) ia_nil))))
theorem sc_make_pass : FnScope ["constraints", "places", "causes", "last", "constraint", "later", "least"] ["constraints", "places", "causes"] (defScope (topS 4)) := ⟨rfl, rfl, rfl, by decide +kernel, rfl, by decide +kernel, by decide +kernel⟩
theorem ok_make_pass {f : Addr} {fd : FuncData} (B : Blt mg) (F : Fun K "make_pass" "make_pass" (topS 4) f fd) (g : mg "make_pass" = some (.ref f)) : DefAt P w K mg base 1 "make_pass" 3 d_make_pass := by
  have sc := sc_make_pass
  exact defAt ["constraints", "places", "causes"] F g sc (fun _ _ _ _ _ _ us hl => match us, hl with | [_, _, _], _ => rfl) fun cdv A outer s H E hr => (iss_cons (is_set 3 sc.nd ie_non)
  (iss_cons (is_for PassesOwn.never rfl (ii_seq (ie_var 0)) (ig_name 4 sc.nd)
  (iss_cons (is_set 5 sc.nd (ie_ix (hu1 hr) (ie_var 4) ie_int))
  (iss_cons (is_set 6 sc.nd (ie_op og_add (ie_ix (hu1 hr) (ie_var 1) (ie_ix (hu1 hr) (ie_var 4) ie_int)) (ie_ix (hu1 hr) (ie_var 4) ie_int)))
  (iss_one (is_if (it_cmp og_lt (ie_ix (hu1 hr) (ie_var 1) (ie_var 5)) (ie_var 6))
  (iss_cons (is_put (hu1 hr) (ie_var 1) (ie_var 5) (ie_var 6))
  (iss_cons (is_put (hu1 hr) (ie_var 2) (ie_var 5) (ie_var 4))
  (iss_one (is_set 3 sc.nd (ie_var 5)))))
  iss_nil)))))
  (iss_one (is_ret (ie_var 3)))))
theorem sc_chain_of : FnScope ["causes", "shape", "chain", "at"] ["causes", "shape"] (defScope (topS 5)) := ⟨rfl, rfl, rfl, by decide +kernel, rfl, by decide +kernel, by decide +kernel⟩
theorem ok_chain_of {f : Addr} {fd : FuncData} (c_ORIGIN : GlobG mg "ORIGIN" (.str "")) (B : Blt mg) (F : Fun K "chain_of" "chain_of" (topS 5) f fd) (g : mg "chain_of" = some (.ref f)) : DefAt P w K mg base 1 "chain_of" 2 d_chain_of := by
  have sc := sc_chain_of
  exact defAt ["causes", "shape"] F g sc (fun _ _ _ _ _ _ us hl => match us, hl with | [_, _], _ => rfl) fun cdv A outer s H E hr => (iss_cons (is_set 2 sc.nd (ie_lst ia_nil))
  (iss_cons (is_set 3 sc.nd (ie_var 1))
  (iss_cons (is_while PassesOwn.never (it_cmp (og_ne (hu65 hr)) (ie_var 3) (ie_glob c_ORIGIN))
  (iss_cons (is_expr (ie_app (ie_var 2) (ie_ix (hu1 hr) (ie_var 0) (ie_var 3))))
  (iss_one (is_set 3 sc.nd (ie_ix (hu1 hr) (ie_ix (hu1 hr) (ie_var 0) (ie_var 3)) ie_int)))))
  (iss_one (is_ret (ie_callT cg_tuple B.tuple (ia_cons (ie_rev (ie_var 2)) ia_nil)))))))
theorem sc_cycle_of : FnScope ["causes", "start", "steps", "node", "_", "cycle", "at"] ["causes", "start", "steps"] (defScope (topS 6)) := ⟨rfl, rfl, rfl, by decide +kernel, rfl, by decide +kernel, by decide +kernel⟩
theorem ok_cycle_of {f : Addr} {fd : FuncData} (B : Blt mg) (F : Fun K "cycle_of" "cycle_of" (topS 6) f fd) (g : mg "cycle_of" = some (.ref f)) : DefAt P w K mg base 1 "cycle_of" 3 d_cycle_of := by
  have sc := sc_cycle_of
  exact defAt ["causes", "start", "steps"] F g sc (fun _ _ _ _ _ _ us hl => match us, hl with | [_, _, _], _ => rfl) fun cdv A outer s H E hr => (iss_cons (is_set 3 sc.nd (ie_var 1))
  (iss_cons (is_for PassesOwn.never rfl (ii_rng1 B.range (ia_cons (ie_var 2) ia_nil)) (ig_name 4 sc.nd)
  (iss_one (is_set 3 sc.nd (ie_ix (hu1 hr) (ie_ix (hu1 hr) (ie_var 0) (ie_var 3)) ie_int))))
  (iss_cons (is_set 5 sc.nd (ie_lst (ia_cons (ie_ix (hu1 hr) (ie_var 0) (ie_var 3)) ia_nil)))
  (iss_cons (is_set 6 sc.nd (ie_ix (hu1 hr) (ie_ix (hu1 hr) (ie_var 0) (ie_var 3)) ie_int))
  (iss_cons (is_while PassesOwn.never (it_cmp (og_ne (hu65 hr)) (ie_var 6) (ie_var 3))
  (iss_cons (is_expr (ie_app (ie_var 5) (ie_ix (hu1 hr) (ie_var 0) (ie_var 6))))
  (iss_one (is_set 6 sc.nd (ie_ix (hu1 hr) (ie_ix (hu1 hr) (ie_var 0) (ie_var 6)) ie_int)))))
  (iss_one (is_ret (ie_callT cg_tuple B.tuple (ia_cons (ie_rev (ie_var 5)) ia_nil)))))))))
theorem sc_is_whole : FnScope ["value"] ["value"] (defScope (topS 9)) := ⟨rfl, rfl, rfl, by decide +kernel, rfl, by decide +kernel, by decide +kernel⟩
theorem ok_is_whole {f : Addr} {fd : FuncData} (B : Blt mg) (F : Fun K "is_whole" "is_whole" (topS 9) f fd) (g : mg "is_whole" = some (.ref f)) : DefAt P w K mg base 1 "is_whole" 1 d_is_whole := by
  have sc := sc_is_whole
  exact defAt ["value"] F g sc (fun _ _ _ _ _ _ us hl => match us, hl with | [_], _ => rfl) fun cdv A outer s H E hr => (iss_one (is_ret (ie_and (ie_isi .int (ie_var 0) B.isinstance B.int) (ie_one (ie_not (ie_isi .bool (ie_var 0) B.isinstance B.bool))))))
theorem sc__law_jar : FnScope ["script", "rows", "k", "cell", "step", "mixed"] ["script"] (defScope (topS 16)) := ⟨rfl, rfl, rfl, by decide +kernel, rfl, by decide +kernel, by decide +kernel⟩
theorem ok__law_jar {f : Addr} {fd : FuncData} (B : Blt mg) (F : Fun K "_law_jar" "_law_jar" (topS 16) f fd) (g : mg "_law_jar" = some (.ref f)) : DefAt P w K mg base 1 "_law_jar" 1 d__law_jar := by
  have sc := sc__law_jar
  exact defAt ["script"] F g sc (fun _ _ _ _ _ _ us hl => match us, hl with | [_], _ => rfl) fun cdv A outer s H E hr => (iss_cons (is_set 1 sc.nd (ie_lst ia_nil))
  (iss_cons (is_for PassesOwn.never rfl (ii_rng1 B.range (ia_cons (ie_callB (cg_min rfl) B.min (ia_cons (ie_callB cg_len B.len (ia_cons (ie_var 0) ia_nil)) (ia_cons ie_int ia_nil))) ia_nil)) (ig_name 2 sc.nd)
  (iss_cons (is_set 3 sc.nd (ie_callT cg_int B.int (ia_cons (ie_ix (hu1 hr) (ie_var 0) (ie_var 2)) ia_nil)))
  (iss_cons (is_if (it_cmp og_lt (ie_var 3) ie_int)
  (iss_one (is_set 3 sc.nd (ie_un ug_neg (ie_var 3))))
  iss_nil)
  (iss_one (is_if (it_cmp og_ge (ie_var 3) (ie_op og_pow ie_int ie_int))
  (iss_one (is_for PassesOwn.never rfl (ii_rng1 B.range (ia_cons ie_int ia_nil)) (ig_name 4 sc.nd)
  (iss_one (is_if (it_cmp og_gt (ie_var 3) ie_int)
  (iss_cons (is_expr (ie_app (ie_var 1) (ie_op og_mod (ie_callT cg_int B.int (ia_cons (ie_var 3) ia_nil)) ie_int)))
  (iss_one (is_set 3 sc.nd (ie_op og_div (ie_var 3) ie_int))))
  iss_nil))))
  (iss_cons (is_set 5 sc.nd (ie_op og_mod (ie_callT cg_int B.int (ia_cons (ie_op og_add (ie_op og_add (ie_op og_mul (ie_var 3) ie_int) (ie_op og_mul (ie_var 2) ie_int)) ie_int) ia_nil)) ie_int))
  (iss_cons (is_expr (ie_app (ie_var 1) (ie_var 5)))
  (iss_one (is_expr (ie_app (ie_var 1) (ie_op og_mod (ie_callT cg_int B.int (ia_cons (ie_op og_add (ie_op og_add (ie_op og_mul (ie_var 5) ie_int) (ie_op og_mul (ie_var 2) ie_int)) ie_int) ia_nil)) ie_int)))))))))))
  (iss_one (is_ret (ie_lst (ia_cons (ie_var 1) (ia_cons ie_int ia_nil)))))))
theorem sc__law_take : FnScope ["jar", "many", "at", "rows", "mixed"] ["jar", "many"] (defScope (topS 17)) := ⟨rfl, rfl, rfl, by decide +kernel, rfl, by decide +kernel, by decide +kernel⟩
theorem ok__law_take {f : Addr} {fd : FuncData} (B : Blt mg) (F : Fun K "_law_take" "_law_take" (topS 17) f fd) (g : mg "_law_take" = some (.ref f)) : DefAt P w K mg base 1 "_law_take" 2 d__law_take := by
  have sc := sc__law_take
  exact defAt ["jar", "many"] F g sc (fun _ _ _ _ _ _ us hl => match us, hl with | [_, _], _ => rfl) fun cdv A outer s H E hr => (iss_cons (is_set 2 sc.nd (ie_ix (hu1 hr) (ie_var 0) ie_int))
  (iss_cons (is_put (hu1 hr) (ie_var 0) ie_int (ie_op og_add (ie_var 2) ie_int))
  (iss_cons (is_set 3 sc.nd (ie_ix (hu1 hr) (ie_var 0) ie_int))
  (iss_cons (is_if (it_cmp og_lt (ie_var 2) (ie_callB cg_len B.len (ia_cons (ie_var 3) ia_nil)))
  (iss_one (is_ret (ie_op og_mod (ie_callT cg_int B.int (ia_cons (ie_ix (hu1 hr) (ie_var 3) (ie_var 2)) ia_nil)) (ie_var 1))))
  iss_nil)
  (iss_cons (is_set 4 sc.nd (ie_op og_mod (ie_callT cg_int B.int (ia_cons (ie_op og_add (ie_op og_add (ie_op og_mul (ie_var 2) ie_int) (ie_op og_mul (ie_callB cg_len B.len (ia_cons (ie_var 3) ia_nil)) ie_int)) ie_int) ia_nil)) ie_int))
  (iss_cons (is_if (it_cmp og_gt (ie_callB cg_len B.len (ia_cons (ie_var 3) ia_nil)) ie_int)
  (iss_one (is_set 4 sc.nd (ie_op og_mod (ie_callT cg_int B.int (ia_cons (ie_op og_add (ie_var 4) (ie_op og_mul (ie_ix (hu1 hr) (ie_var 3) (ie_op og_sub (ie_var 2) (ie_op og_mul (ie_op og_div (ie_var 2) (ie_callB cg_len B.len (ia_cons (ie_var 3) ia_nil))) (ie_callB cg_len B.len (ia_cons (ie_var 3) ia_nil))))) (ie_op og_add (ie_op og_div (ie_var 2) (ie_callB cg_len B.len (ia_cons (ie_var 3) ia_nil))) ie_int))) ia_nil)) ie_int)))
  iss_nil)
  (iss_one (is_ret (ie_op og_mod (ie_callT cg_int B.int (ia_cons (ie_op og_div (ie_op og_mod (ie_callT cg_int B.int (ia_cons (ie_op og_mul (ie_var 4) ie_int) ia_nil)) ie_int) ie_int) ia_nil)) (ie_var 1))))))))))
theorem sc__law_every : FnScope ["axis", "shapes", "constraints", "shape"] ["axis", "shapes", "constraints"] (defScope (topS 21)) := ⟨rfl, rfl, rfl, by decide +kernel, rfl, by decide +kernel, by decide +kernel⟩
theorem ok__law_every {f : Addr} {fd : FuncData} (B : Blt mg) (F : Fun K "_law_every" "_law_every" (topS 21) f fd) (g : mg "_law_every" = some (.ref f)) : DefAt P w K mg base 1 "_law_every" 3 d__law_every := by
  have sc := sc__law_every
  exact defAt ["axis", "shapes", "constraints"] F g sc (fun _ _ _ _ _ _ us hl => match us, hl with | [_, _, _], _ => rfl) fun cdv A outer s H E hr => (iss_one (is_ret (ie_op og_add (ie_lc [("shape", 3)] rfl sc.nd (ii_seq (ie_var 1)) (blkOk_by (N := ["axis", "shapes", "constraints", "shape"]) (sc := defScope (topS 21)) (by decide +kernel)) rfl (fun _ _ _ _ _ => (ig_name 3 sc.nd)) (fun _ _ _ _ _ => its_nil) (fun _ _ _ _ _ => (ie_tup (ia_cons (ie_var 0) (ia_cons (ie_var 3) (ia_cons ie_str (ia_cons ie_int (ia_cons ie_str ia_nil)))))))) (ie_callT cg_list B.list (ia_cons (ie_var 2) ia_nil)))))
theorem sc__law_chain : FnScope ["causes", "shape", "chain", "at", "step"] ["causes", "shape"] (defScope (topS 22)) := ⟨rfl, rfl, rfl, by decide +kernel, rfl, by decide +kernel, by decide +kernel⟩
theorem ok__law_chain {f : Addr} {fd : FuncData} (B : Blt mg) (F : Fun K "_law_chain" "_law_chain" (topS 22) f fd) (g : mg "_law_chain" = some (.ref f)) : DefAt P w K mg base 1 "_law_chain" 2 d__law_chain := by
  have sc := sc__law_chain
  exact defAt ["causes", "shape"] F g sc (fun _ _ _ _ _ _ us hl => match us, hl with | [_, _], _ => rfl) fun cdv A outer s H E hr => (iss_cons (is_set 2 sc.nd (ie_lst ia_nil))
  (iss_cons (is_set 3 sc.nd (ie_var 1))
  (iss_cons (is_for PassesOwn.never rfl (ii_rng1 B.range (ia_cons (ie_op og_add (ie_callB cg_len B.len (ia_cons (ie_var 0) ia_nil)) ie_int) ia_nil)) (ig_name 4 sc.nd)
  (iss_one (is_if (it_cmp (og_ne (hu65 hr)) (ie_var 3) ie_str)
  (iss_cons (is_set 2 sc.nd (ie_op og_add (ie_lst (ia_cons (ie_ix (hu1 hr) (ie_var 0) (ie_var 3)) ia_nil)) (ie_var 2)))
  (iss_one (is_set 3 sc.nd (ie_ix (hu1 hr) (ie_ix (hu1 hr) (ie_var 0) (ie_var 3)) ie_int))))
  iss_nil)))
  (iss_one (is_ret (ie_callT cg_tuple B.tuple (ia_cons (ie_var 2) ia_nil)))))))
theorem sc_all_constraints : FnScope ["axis", "shapes", "constraints"] ["axis", "shapes", "constraints"] (defScope (topS 3)) := ⟨rfl, rfl, rfl, by decide +kernel, rfl, by decide +kernel, by decide +kernel⟩
theorem ok_all_constraints {f : Addr} {fd : FuncData} (D_own_constraints : DefAt P w K mg base 1 "own_constraints" 2 d_own_constraints) (B : Blt mg) (F : Fun K "all_constraints" "all_constraints" (topS 3) f fd) (g : mg "all_constraints" = some (.ref f)) : DefAt P w K mg base 2 "all_constraints" 3 d_all_constraints := by
  have sc := sc_all_constraints
  exact defAt ["axis", "shapes", "constraints"] F g sc (fun _ _ _ _ _ _ us hl => match us, hl with | [_, _, _], _ => rfl) fun cdv A outer s H E hr => (iss_one (is_ret (ie_op og_add (ie_call D_own_constraints hr (ia_cons (ie_var 0) (ia_cons (ie_var 1) ia_nil))) (ie_callT cg_tuple B.tuple (ia_cons (ie_var 2) ia_nil)))))
theorem sc_is_among : FnScope ["value", "constraints"] ["value", "constraints"] (defScope (topS 10)) := ⟨rfl, rfl, rfl, by decide +kernel, rfl, by decide +kernel, by decide +kernel⟩
theorem ok_is_among {f : Addr} {fd : FuncData} (D_is_whole : DefAt P w K mg base 1 "is_whole" 1 d_is_whole) (B : Blt mg) (F : Fun K "is_among" "is_among" (topS 10) f fd) (g : mg "is_among" = some (.ref f)) : DefAt P w K mg base 2 "is_among" 2 d_is_among := by
  have sc := sc_is_among
  exact defAt ["value", "constraints"] F g sc (fun _ _ _ _ _ _ us hl => match us, hl with | [_, _], _ => rfl) fun cdv A outer s H E hr => (iss_cons (is_if (it_w (iw_or (it_not (it_val (ie_isi .tuple (ie_var 0) B.isinstance B.tuple))) (iw_or (it_cmp (og_ne (hu65 hr)) (ie_callB cg_len B.len (ia_cons (ie_var 0) ia_nil)) ie_int) (iw_or1 (it_not (it_val (ie_call D_is_whole hr (ia_cons (ie_ix (hu1 hr) (ie_var 0) ie_int) ia_nil))))))))
  (iss_one (is_ret ie_bl))
  iss_nil)
  (iss_one (is_ret (ie_cmp (og_in (hu65 hr)) (ie_var 0) (ie_var 1)))))
theorem sc__law_name : FnScope ["jar", "taken", "letters", "signs", "text", "k"] ["jar", "taken"] (defScope (topS 18)) := ⟨rfl, rfl, rfl, by decide +kernel, rfl, by decide +kernel, by decide +kernel⟩
theorem ok__law_name {f : Addr} {fd : FuncData} (D__law_take : DefAt P w K mg base 1 "_law_take" 2 d__law_take) (B : Blt mg) (F : Fun K "_law_name" "_law_name" (topS 18) f fd) (g : mg "_law_name" = some (.ref f)) : DefAt P w K mg base 2 "_law_name" 2 d__law_name := by
  have sc := sc__law_name
  exact defAt ["jar", "taken"] F g sc (fun _ _ _ _ _ _ us hl => match us, hl with | [_, _], _ => rfl) fun cdv A outer s H E hr => (iss_cons (is_set 2 sc.nd ie_str)
  (iss_cons (is_set 3 sc.nd (ie_op og_add (ie_var 2) ie_str))
  (iss_cons (is_set 4 sc.nd (ie_ix (hu1 hr) (ie_var 2) (ie_call D__law_take hr (ia_cons (ie_var 0) (ia_cons ie_int ia_nil)))))
  (iss_cons (is_for PassesOwn.never rfl (ii_rng1 B.range (ia_cons (ie_op og_mul (ie_call D__law_take hr (ia_cons (ie_var 0) (ia_cons ie_int ia_nil))) (ie_op og_add ie_int (ie_call D__law_take hr (ia_cons (ie_var 0) (ia_cons ie_int ia_nil))))) ia_nil)) (ig_name 5 sc.nd)
  (iss_one (is_set 4 sc.nd (ie_op og_add (ie_var 4) (ie_ix (hu1 hr) (ie_var 3) (ie_call D__law_take hr (ia_cons (ie_var 0) (ia_cons ie_int ia_nil))))))))
  (iss_cons (is_set 4 sc.nd (ie_sl (ie_var 4) io_none (io_some ie_int)))
  (iss_cons (is_for PassesOwn.never rfl (ii_rng1 B.range (ia_cons ie_int ia_nil)) (ig_name 5 sc.nd)
  (iss_one (is_if (it_cmp (og_in (hu65 hr)) (ie_var 4) (ie_var 1))
  (iss_one (is_set 4 sc.nd (ie_op og_add (ie_op og_add (ie_sl (ie_var 4) io_none (io_some ie_int)) ie_str) (ie_callT cg_str B.str (ia_cons (ie_var 5) ia_nil)))))
  iss_nil)))
  (iss_cons (is_expr (ie_app (ie_var 1) (ie_var 4)))
  (iss_one (is_ret (ie_var 4))))))))))
theorem sc__law_constraints : FnScope ["jar", "axis", "shapes", "many", "found", "small", "k", "later", "earlier", "gap", "names", "constraint"] ["jar", "axis", "shapes", "many"] (defScope (topS 20)) := ⟨rfl, rfl, rfl, by decide +kernel, rfl, by decide +kernel, by decide +kernel⟩
theorem ok__law_constraints {f : Addr} {fd : FuncData} (D__law_take : DefAt P w K mg base 1 "_law_take" 2 d__law_take) (B : Blt mg) (F : Fun K "_law_constraints" "_law_constraints" (topS 20) f fd) (g : mg "_law_constraints" = some (.ref f)) : DefAt P w K mg base 2 "_law_constraints" 4 d__law_constraints := by
  have sc := sc__law_constraints
  exact defAt ["jar", "axis", "shapes", "many"] F g sc (fun _ _ _ _ _ _ us hl => match us, hl with | [_, _, _, _], _ => rfl) fun cdv A outer s H E hr => (iss_cons (is_set 4 sc.nd (ie_lst ia_nil))
  (iss_cons (is_set 5 sc.nd (ie_cmp og_gt (ie_call D__law_take hr (ia_cons (ie_var 0) (ia_cons ie_int ia_nil))) ie_int))
  (iss_cons (is_for PassesOwn.never rfl (ii_rng1 B.range (ia_cons (ie_var 3) ia_nil)) (ig_name 6 sc.nd)
  (iss_cons (is_set 7 sc.nd (ie_call D__law_take hr (ia_cons (ie_var 0) (ia_cons (ie_op og_add (ie_callB cg_len B.len (ia_cons (ie_var 2) ia_nil)) ie_int) ia_nil))))
  (iss_cons (is_set 8 sc.nd (ie_call D__law_take hr (ia_cons (ie_var 0) (ia_cons (ie_op og_add (ie_callB cg_len B.len (ia_cons (ie_var 2) ia_nil)) ie_int) ia_nil))))
  (iss_cons (is_if (it_w (iw_and (it_cmp (og_eq (hu65 hr)) (ie_var 7) (ie_var 8)) (iw_and1 (it_cmp (og_eq (hu65 hr)) (ie_var 7) (ie_callB cg_len B.len (ia_cons (ie_var 2) ia_nil))))))
  (iss_one (is_set 8 sc.nd ie_int))
  iss_nil)
  (iss_cons (is_set 9 sc.nd (ie_op og_sub (ie_call D__law_take hr (ia_cons (ie_var 0) (ia_cons ie_int ia_nil))) ie_int))
  (iss_cons (is_if (it_cmp (og_eq (hu65 hr)) (ie_call D__law_take hr (ia_cons (ie_var 0) (ia_cons ie_int ia_nil))) ie_int)
  (iss_one (is_set 9 sc.nd (ie_ix (hu1 hr) (ie_lst (ia_cons (ie_un ug_neg ie_int) (ia_cons ie_int (ia_cons ie_int (ia_cons (ie_un ug_neg ie_int) (ia_cons ie_int ia_nil)))))) (ie_call D__law_take hr (ia_cons (ie_var 0) (ia_cons ie_int ia_nil))))))
  iss_nil)
  (iss_cons (is_if (it_w (iw_and (it_val (ie_var 5)) (iw_and (it_cmp og_lt (ie_var 7) (ie_var 8)) (iw_and1 (it_cmp og_lt (ie_var 7) (ie_callB cg_len B.len (ia_cons (ie_var 2) ia_nil)))))))
  (iss_one (is_par 7 8 rfl sc.nd (by decide) (ie_var 8) (ie_var 7)))
  iss_nil)
  (iss_cons (is_if (it_w (iw_and (it_val (ie_var 5)) (iw_and1 (it_cmp (og_eq (hu65 hr)) (ie_var 7) (ie_var 8)))))
  (iss_one (is_set 9 sc.nd (ie_op og_sub ie_int (ie_callB cg_abs B.abs (ia_cons (ie_var 9) ia_nil)))))
  iss_nil)
  (iss_cons (is_if (it_w (iw_and (it_cmp (og_eq (hu65 hr)) (ie_var 7) (ie_callB cg_len B.len (ia_cons (ie_var 2) ia_nil))) (iw_and1 (it_cmp og_gt (ie_call D__law_take hr (ia_cons (ie_var 0) (ia_cons ie_int ia_nil))) ie_int))))
  (iss_one (is_set 9 sc.nd (ie_op og_sub (ie_var 9) ie_int)))
  iss_nil)
  (iss_cons (is_set 10 sc.nd (ie_op og_add (ie_callT cg_list B.list (ia_cons (ie_var 2) ia_nil)) (ie_lst (ia_cons ie_str ia_nil))))
  (iss_cons (is_set 11 sc.nd (ie_tup (ia_cons (ie_var 1) (ia_cons (ie_ix (hu1 hr) (ie_var 10) (ie_var 7)) (ia_cons (ie_ix (hu1 hr) (ie_var 10) (ie_var 8)) (ia_cons (ie_var 9) (ia_cons (ie_op og_add ie_str (ie_callT cg_str B.str (ia_cons (ie_op og_add (ie_var 6) ie_int) ia_nil))) ia_nil)))))))
  (iss_cons (is_if (it_w (iw_and (it_cmp og_gt (ie_callB cg_len B.len (ia_cons (ie_var 4) ia_nil)) ie_int) (iw_and1 (it_cmp (og_eq (hu65 hr)) (ie_call D__law_take hr (ia_cons (ie_var 0) (ia_cons ie_int ia_nil))) ie_int))))
  (iss_one (is_set 11 sc.nd (ie_ix (hu1 hr) (ie_var 4) (ie_call D__law_take hr (ia_cons (ie_var 0) (ia_cons (ie_callB cg_len B.len (ia_cons (ie_var 4) ia_nil)) ia_nil))))))
  iss_nil)
  (iss_cons (is_expr (ie_app (ie_var 4) (ie_var 11)))
  (iss_one (is_if (it_w (iw_and (it_cmp og_lt (ie_callB cg_len B.len (ia_cons (ie_var 4) ia_nil)) ie_int) (iw_and1 (it_cmp (og_eq (hu65 hr)) (ie_call D__law_take hr (ia_cons (ie_var 0) (ia_cons ie_int ia_nil))) ie_int))))
  (iss_one (is_expr (ie_app (ie_var 4) (ie_tup (ia_cons (ie_var 1) (ia_cons (ie_ix (hu1 hr) (ie_var 11) ie_int) (ia_cons (ie_ix (hu1 hr) (ie_var 11) ie_int) (ia_cons (ie_un ug_neg (ie_ix (hu1 hr) (ie_var 11) ie_int)) (ia_cons (ie_op og_add ie_str (ie_callT cg_str B.str (ia_cons (ie_op og_add (ie_var 6) ie_int) ia_nil))) ia_nil)))))))))
  iss_nil)))))))))))))))
  (iss_cons (is_if (it_cmp (og_eq (hu65 hr)) (ie_call D__law_take hr (ia_cons (ie_var 0) (ia_cons ie_int ia_nil))) ie_int)
  (iss_one (is_set 4 sc.nd (ie_rev (ie_var 4))))
  iss_nil)
  (iss_one (is_ret (ie_callT cg_tuple B.tuple (ia_cons (ie_var 4) ia_nil))))))))
theorem sc__law_due : FnScope ["axis", "shapes", "constraints", "places", "causes", "shape", "last", "turn", "constraint", "least", "chains", "node", "step", "cycle"] ["axis", "shapes", "constraints"] (defScope (topS 23)) := ⟨rfl, rfl, rfl, by decide +kernel, rfl, by decide +kernel, by decide +kernel⟩
theorem ok__law_due {f : Addr} {fd : FuncData} (D__law_chain : DefAt P w K mg base 1 "_law_chain" 2 d__law_chain) (D__law_every : DefAt P w K mg base 1 "_law_every" 3 d__law_every) (B : Blt mg) (F : Fun K "_law_due" "_law_due" (topS 23) f fd) (g : mg "_law_due" = some (.ref f)) : DefAt P w K mg base 2 "_law_due" 3 d__law_due := by
  have sc := sc__law_due
  exact defAt ["axis", "shapes", "constraints"] F g sc (fun _ _ _ _ _ _ us hl => match us, hl with | [_, _, _], _ => rfl) fun cdv A outer s H E hr => (iss_cons (is_set 3 sc.nd (ie_disp (ips_cons ie_str ie_int ips_nil)))
  (iss_cons (is_set 4 sc.nd ie_dic0)
  (iss_cons (is_for PassesOwn.never rfl (ii_seq (ie_var 1)) (ig_name 5 sc.nd)
  (iss_cons (is_put (hu1 hr) (ie_var 3) (ie_var 5) ie_int)
  (iss_one (is_put (hu1 hr) (ie_var 4) (ie_var 5) (ie_tup (ia_cons (ie_var 0) (ia_cons (ie_var 5) (ia_cons ie_str (ia_cons ie_int (ia_cons ie_str ia_nil))))))))))
  (iss_cons (is_set 6 sc.nd ie_str)
  (iss_cons (is_for PassesOwn.never rfl (ii_rng1 B.range (ia_cons (ie_op og_add (ie_callB cg_len B.len (ia_cons (ie_var 1) ia_nil)) ie_int) ia_nil)) (ig_name 7 sc.nd)
  (iss_cons (is_set 6 sc.nd ie_non)
  (iss_cons (is_for PassesOwn.never rfl (ii_seq (ie_call D__law_every hr (ia_cons (ie_var 0) (ia_cons (ie_var 1) (ia_cons (ie_var 2) ia_nil))))) (ig_name 8 sc.nd)
  (iss_cons (is_set 9 sc.nd (ie_op og_add (ie_ix (hu1 hr) (ie_var 3) (ie_ix (hu1 hr) (ie_var 8) ie_int)) (ie_ix (hu1 hr) (ie_var 8) ie_int)))
  (iss_one (is_if (it_cmp og_lt (ie_ix (hu1 hr) (ie_var 3) (ie_ix (hu1 hr) (ie_var 8) ie_int)) (ie_var 9))
  (iss_cons (is_put (hu1 hr) (ie_var 3) (ie_ix (hu1 hr) (ie_var 8) ie_int) (ie_var 9))
  (iss_cons (is_put (hu1 hr) (ie_var 4) (ie_ix (hu1 hr) (ie_var 8) ie_int) (ie_var 8))
  (iss_one (is_set 6 sc.nd (ie_ix (hu1 hr) (ie_var 8) ie_int)))))
  iss_nil))))
  (iss_one (is_if (it_cmp og_is (ie_var 6) ie_non)
  (iss_cons (is_setLc 10 [("shape", 5)] rfl sc.nd (ii_seq (ie_var 1)) (blkOk_by (N := ["axis", "shapes", "constraints", "places", "causes", "shape", "last", "turn", "constraint", "least", "chains", "node", "step", "cycle"]) (sc := defScope (topS 23)) (by decide +kernel)) rfl (fun _ _ _ _ _ => (ig_name 5 sc.nd)) (fun _ _ _ _ _ => its_nil) (fun _ _ _ _ _ => (ie_call D__law_chain hr (ia_cons (ie_var 4) (ia_cons (ie_var 5) ia_nil)))) (sw_true rfl rfl rfl (by decide +kernel)))
  (iss_one (is_ret (ie_tup (ia_cons ie_str (ia_cons (ie_callT cg_tuple B.tuple (ia_cons (ie_lc [("shape", 5)] rfl sc.nd (ii_seq (ie_var 1)) (blkOk_by (N := ["axis", "shapes", "constraints", "places", "causes", "shape", "last", "turn", "constraint", "least", "chains", "node", "step", "cycle"]) (sc := defScope (topS 23)) (by decide +kernel)) rfl (fun _ _ _ _ _ => (ig_name 5 sc.nd)) (fun _ _ _ _ _ => its_nil) (fun _ _ _ _ _ => (ie_ix (hu1 hr) (ie_var 3) (ie_var 5)))) ia_nil)) (ia_cons (ie_callT cg_tuple B.tuple (ia_cons (ie_var 10) ia_nil)) ia_nil)))))))
  iss_nil)))))
  (iss_cons (is_set 11 sc.nd (ie_var 6))
  (iss_cons (is_for PassesOwn.never rfl (ii_rng1 B.range (ia_cons (ie_op og_add (ie_callB cg_len B.len (ia_cons (ie_var 1) ia_nil)) ie_int) ia_nil)) (ig_name 12 sc.nd)
  (iss_one (is_set 11 sc.nd (ie_ix (hu1 hr) (ie_ix (hu1 hr) (ie_var 4) (ie_var 11)) ie_int))))
  (iss_cons (is_set 13 sc.nd (ie_lst (ia_cons (ie_ix (hu1 hr) (ie_var 4) (ie_var 11)) ia_nil)))
  (iss_cons (is_for PassesOwn.never rfl (ii_rng1 B.range (ia_cons (ie_op og_add (ie_callB cg_len B.len (ia_cons (ie_var 1) ia_nil)) ie_int) ia_nil)) (ig_name 12 sc.nd)
  (iss_one (is_if (it_cmp (og_ne (hu65 hr)) (ie_ix (hu1 hr) (ie_ix (hu1 hr) (ie_var 13) ie_int) ie_int) (ie_var 11))
  (iss_one (is_set 13 sc.nd (ie_op og_add (ie_lst (ia_cons (ie_ix (hu1 hr) (ie_var 4) (ie_ix (hu1 hr) (ie_ix (hu1 hr) (ie_var 13) ie_int) ie_int)) ia_nil)) (ie_var 13))))
  iss_nil)))
  (iss_one (is_ret (ie_tup (ia_cons ie_str (ia_cons (ie_callT cg_tuple B.tuple (ia_cons (ie_var 13) ia_nil)) ia_nil))))))))))))))
theorem sc__law_keeps : FnScope ["axis", "shapes", "constraints", "places", "known", "k", "constraint"] ["axis", "shapes", "constraints", "places"] (defScope (topS 24)) := ⟨rfl, rfl, rfl, by decide +kernel, rfl, by decide +kernel, by decide +kernel⟩
theorem ok__law_keeps {f : Addr} {fd : FuncData} (D__law_every : DefAt P w K mg base 1 "_law_every" 3 d__law_every) (B : Blt mg) (F : Fun K "_law_keeps" "_law_keeps" (topS 24) f fd) (g : mg "_law_keeps" = some (.ref f)) : DefAt P w K mg base 2 "_law_keeps" 4 d__law_keeps := by
  have sc := sc__law_keeps
  exact defAt ["axis", "shapes", "constraints", "places"] F g sc (fun _ _ _ _ _ _ us hl => match us, hl with | [_, _, _, _], _ => rfl) fun cdv A outer s H E hr => (iss_cons (is_set 4 sc.nd (ie_disp (ips_cons ie_str ie_int ips_nil)))
  (iss_cons (is_for PassesOwn.never rfl (ii_rng1 B.range (ia_cons (ie_callB cg_len B.len (ia_cons (ie_var 1) ia_nil)) ia_nil)) (ig_name 5 sc.nd)
  (iss_one (is_put (hu1 hr) (ie_var 4) (ie_ix (hu1 hr) (ie_var 1) (ie_var 5)) (ie_ix (hu1 hr) (ie_var 3) (ie_var 5)))))
  (iss_cons (is_for PassesOwn.never rfl (ii_seq (ie_call D__law_every hr (ia_cons (ie_var 0) (ia_cons (ie_var 1) (ia_cons (ie_var 2) ia_nil))))) (ig_name 6 sc.nd)
  (iss_one (is_if (it_cmp og_lt (ie_ix (hu1 hr) (ie_var 4) (ie_ix (hu1 hr) (ie_var 6) ie_int)) (ie_op og_add (ie_ix (hu1 hr) (ie_var 4) (ie_ix (hu1 hr) (ie_var 6) ie_int)) (ie_ix (hu1 hr) (ie_var 6) ie_int)))
  (iss_one (is_ret ie_bl))
  iss_nil)))
  (iss_one (is_ret ie_bl)))))
theorem sc__law_walk : FnScope ["axis", "shapes", "constraints", "path", "every", "total", "k"] ["axis", "shapes", "constraints", "path"] (defScope (topS 25)) := ⟨rfl, rfl, rfl, by decide +kernel, rfl, by decide +kernel, by decide +kernel⟩
theorem ok__law_walk {f : Addr} {fd : FuncData} (D__law_every : DefAt P w K mg base 1 "_law_every" 3 d__law_every) (B : Blt mg) (F : Fun K "_law_walk" "_law_walk" (topS 25) f fd) (g : mg "_law_walk" = some (.ref f)) : DefAt P w K mg base 2 "_law_walk" 4 d__law_walk := by
  have sc := sc__law_walk
  exact defAt ["axis", "shapes", "constraints", "path"] F g sc (fun _ _ _ _ _ _ us hl => match us, hl with | [_, _, _, _], _ => rfl) fun cdv A outer s H E hr => (iss_cons (is_set 4 sc.nd (ie_call D__law_every hr (ia_cons (ie_var 0) (ia_cons (ie_var 1) (ia_cons (ie_var 2) ia_nil)))))
  (iss_cons (is_set 5 sc.nd ie_int)
  (iss_cons (is_for PassesOwn.never rfl (ii_rng1 B.range (ia_cons (ie_callB cg_len B.len (ia_cons (ie_var 3) ia_nil)) ia_nil)) (ig_name 6 sc.nd)
  (iss_cons (is_if (it_w (iw_or (it_cmp (og_notIn (hu65 hr)) (ie_ix (hu1 hr) (ie_var 3) (ie_var 6)) (ie_var 4)) (iw_or1 (it_w (iw_and (it_cmp og_gt (ie_var 6) ie_int) (iw_and1 (it_cmp (og_ne (hu65 hr)) (ie_ix (hu1 hr) (ie_ix (hu1 hr) (ie_var 3) (ie_var 6)) ie_int) (ie_ix (hu1 hr) (ie_ix (hu1 hr) (ie_var 3) (ie_op og_sub (ie_var 6) ie_int)) ie_int))))))))
  (iss_one (is_ret ie_non))
  iss_nil)
  (iss_one (is_set 5 sc.nd (ie_op og_add (ie_var 5) (ie_ix (hu1 hr) (ie_ix (hu1 hr) (ie_var 3) (ie_var 6)) ie_int))))))
  (iss_cons (is_if (it_cmp (og_eq (hu65 hr)) (ie_callB cg_len B.len (ia_cons (ie_var 3) ia_nil)) ie_int)
  (iss_one (is_ret ie_non))
  iss_nil)
  (iss_one (is_ret (ie_tup (ia_cons (ie_ix (hu1 hr) (ie_ix (hu1 hr) (ie_var 3) ie_int) ie_int) (ia_cons (ie_ix (hu1 hr) (ie_ix (hu1 hr) (ie_var 3) (ie_un ug_neg ie_int)) ie_int) (ia_cons (ie_var 5) ia_nil))))))))))
theorem sc__law_near : FnScope ["jar", "axis", "shapes", "constraints", "path", "at", "every", "one", "later", "earlier", "gap", "line_id", "other", "changed", "pick"] ["jar", "axis", "shapes", "constraints", "path"] (defScope (topS 26)) := ⟨rfl, rfl, rfl, by decide +kernel, rfl, by decide +kernel, by decide +kernel⟩
theorem ok__law_near {f : Addr} {fd : FuncData} (D__law_every : DefAt P w K mg base 1 "_law_every" 3 d__law_every) (D__law_take : DefAt P w K mg base 1 "_law_take" 2 d__law_take) (B : Blt mg) (F : Fun K "_law_near" "_law_near" (topS 26) f fd) (g : mg "_law_near" = some (.ref f)) : DefAt P w K mg base 2 "_law_near" 5 d__law_near := by
  have sc := sc__law_near
  exact defAt ["jar", "axis", "shapes", "constraints", "path"] F g sc (fun _ _ _ _ _ _ us hl => match us, hl with | [_, _, _, _, _], _ => rfl) fun cdv A outer s H E hr => (iss_cons (is_set 5 sc.nd (ie_call D__law_take hr (ia_cons (ie_var 0) (ia_cons (ie_callB cg_len B.len (ia_cons (ie_var 4) ia_nil)) ia_nil))))
  (iss_cons (is_set 6 sc.nd (ie_call D__law_every hr (ia_cons (ie_var 1) (ia_cons (ie_var 2) (ia_cons (ie_var 3) ia_nil)))))
  (iss_cons (is_unp (ie_ix (hu1 hr) (ie_var 4) (ie_var 5)) (ig_tup rfl (igs_cons 7 sc.nd (igs_cons 8 sc.nd (igs_cons 9 sc.nd (igs_cons 10 sc.nd (igs_cons 11 sc.nd igs_nil)))))))
  (iss_cons (is_set 12 sc.nd (ie_ix (hu1 hr) (ie_var 6) (ie_call D__law_take hr (ia_cons (ie_var 0) (ia_cons (ie_callB cg_len B.len (ia_cons (ie_var 6) ia_nil)) ia_nil)))))
  (iss_cons (is_set 13 sc.nd (ie_lst (ia_cons (ie_tup (ia_cons (ie_var 7) (ia_cons (ie_var 8) (ia_cons (ie_var 9) (ia_cons (ie_op og_add (ie_var 10) ie_int) (ia_cons (ie_var 11) ia_nil)))))) (ia_cons (ie_tup (ia_cons (ie_var 7) (ia_cons (ie_var 9) (ia_cons (ie_var 8) (ia_cons (ie_var 10) (ia_cons (ie_var 11) ia_nil)))))) (ia_cons (ie_var 12) (ia_cons (ie_tup (ia_cons (ie_var 7) (ia_cons (ie_var 8) (ia_cons (ie_var 9) (ia_cons (ie_var 10) (ia_cons ie_str ia_nil)))))) ia_nil))))))
  (iss_cons (is_set 14 sc.nd (ie_call D__law_take hr (ia_cons (ie_var 0) (ia_cons ie_int ia_nil))))
  (iss_cons (is_if (it_cmp og_lt (ie_var 14) ie_int)
  (iss_one (is_ret (ie_op og_add (ie_op og_add (ie_sl (ie_var 4) io_none (io_some (ie_var 5))) (ie_tup (ia_cons (ie_ix (hu1 hr) (ie_var 13) (ie_var 14)) ia_nil))) (ie_sl (ie_var 4) (io_some (ie_op og_add (ie_var 5) ie_int)) io_none))))
  iss_nil)
  (iss_cons (is_if (it_cmp (og_eq (hu65 hr)) (ie_var 14) ie_int)
  (iss_one (is_ret (ie_op og_add (ie_sl (ie_var 4) io_none (io_some (ie_var 5))) (ie_sl (ie_var 4) (io_some (ie_op og_add (ie_var 5) ie_int)) io_none))))
  iss_nil)
  (iss_cons (is_if (it_cmp (og_eq (hu65 hr)) (ie_var 14) ie_int)
  (iss_one (is_ret (ie_op og_add (ie_var 4) (ie_tup (ia_cons (ie_var 12) ia_nil)))))
  iss_nil)
  (iss_cons (is_if (it_cmp (og_eq (hu65 hr)) (ie_var 14) ie_int)
  (iss_one (is_ret (ie_op og_add (ie_sl (ie_var 4) (io_some (ie_var 5)) io_none) (ie_sl (ie_var 4) io_none (io_some (ie_var 5))))))
  iss_nil)
  (iss_one (is_ret (ie_op og_add (ie_op og_add (ie_sl (ie_var 4) io_none (io_some (ie_var 5))) (ie_tup (ia_cons (ie_var 12) ia_nil))) (ie_sl (ie_var 4) (io_some (ie_var 5)) io_none))))))))))))))
theorem sc__law_wrong : FnScope ["jar", "path", "at", "one", "later", "earlier", "gap", "line_id", "other", "wrong"] ["jar", "path"] (defScope (topS 27)) := ⟨rfl, rfl, rfl, by decide +kernel, rfl, by decide +kernel, by decide +kernel⟩
theorem ok__law_wrong {f : Addr} {fd : FuncData} (D__law_take : DefAt P w K mg base 1 "_law_take" 2 d__law_take) (B : Blt mg) (F : Fun K "_law_wrong" "_law_wrong" (topS 27) f fd) (g : mg "_law_wrong" = some (.ref f)) : DefAt P w K mg base 2 "_law_wrong" 2 d__law_wrong := by
  have sc := sc__law_wrong
  exact defAt ["jar", "path"] F g sc (fun _ _ _ _ _ _ us hl => match us, hl with | [_, _], _ => rfl) fun cdv A outer s H E hr => (iss_cons (is_set 2 sc.nd (ie_call D__law_take hr (ia_cons (ie_var 0) (ia_cons (ie_callB cg_len B.len (ia_cons (ie_var 1) ia_nil)) ia_nil))))
  (iss_cons (is_unp (ie_ix (hu1 hr) (ie_var 1) (ie_var 2)) (ig_tup rfl (igs_cons 3 sc.nd (igs_cons 4 sc.nd (igs_cons 5 sc.nd (igs_cons 6 sc.nd (igs_cons 7 sc.nd igs_nil)))))))
  (iss_cons (is_set 8 sc.nd (ie_op og_add (ie_op og_add (ie_sl (ie_var 1) io_none (io_some (ie_var 2))) (ie_tup (ia_cons (ie_tup (ia_cons (ie_var 3) (ia_cons (ie_var 4) (ia_cons (ie_var 5) (ia_cons (ie_cmp (og_eq (hu65 hr)) (ie_var 6) ie_int) (ia_cons (ie_var 7) ia_nil)))))) ia_nil))) (ie_sl (ie_var 1) (io_some (ie_op og_add (ie_var 2) ie_int)) io_none)))
  (iss_cons (is_set 9 sc.nd (ie_lst (ia_cons (ie_callT cg_list B.list (ia_cons (ie_var 1) ia_nil)) (ia_cons ie_non (ia_cons ie_int (ia_cons ie_str (ia_cons (ie_var 8) (ia_cons (ie_op og_add (ie_op og_add (ie_sl (ie_var 1) io_none (io_some (ie_var 2))) (ie_tup (ia_cons ie_non ia_nil))) (ie_sl (ie_var 1) (io_some (ie_op og_add (ie_var 2) ie_int)) io_none)) (ia_cons (ie_op og_add (ie_op og_add (ie_sl (ie_var 1) io_none (io_some (ie_var 2))) (ie_tup (ia_cons (ie_sl (ie_ix (hu1 hr) (ie_var 1) (ie_var 2)) io_none (io_some ie_int)) ia_nil))) (ie_sl (ie_var 1) (io_some (ie_op og_add (ie_var 2) ie_int)) io_none)) ia_nil)))))))))
  (iss_one (is_ret (ie_ix (hu1 hr) (ie_var 9) (ie_call D__law_take hr (ia_cons (ie_var 0) (ia_cons ie_int ia_nil))))))))))
theorem sc_place_axis : FnScope ["axis", "shapes", "constraints", "places", "causes", "constraint", "every", "last", "passes", "chains", "shape"] ["axis", "shapes", "constraints"] (defScope (topS 7)) := ⟨rfl, rfl, rfl, by decide +kernel, rfl, by decide +kernel, by decide +kernel⟩
theorem ok_place_axis {f : Addr} {fd : FuncData} (c_ORIGIN : GlobG mg "ORIGIN" (.str "")) (D_all_constraints : DefAt P w K mg base 2 "all_constraints" 3 d_all_constraints) (D_chain_of : DefAt P w K mg base 2 "chain_of" 2 d_chain_of) (D_cycle_of : DefAt P w K mg base 2 "cycle_of" 3 d_cycle_of) (D_make_pass : DefAt P w K mg base 2 "make_pass" 3 d_make_pass) (D_own_constraints : DefAt P w K mg base 2 "own_constraints" 2 d_own_constraints) (B : Blt mg) (F : Fun K "place_axis" "place_axis" (topS 7) f fd) (g : mg "place_axis" = some (.ref f)) : DefAt P w K mg base 3 "place_axis" 3 d_place_axis := by
  have sc := sc_place_axis
  exact defAt ["axis", "shapes", "constraints"] F g sc (fun _ _ _ _ _ _ us hl => match us, hl with | [_, _, _], _ => rfl) fun cdv A outer s H E hr => (iss_cons (is_set 3 sc.nd (ie_disp (ips_cons (ie_glob c_ORIGIN) ie_int ips_nil)))
  (iss_cons (is_set 4 sc.nd ie_dic0)
  (iss_cons (is_for PassesOwn.never rfl (ii_seq (ie_call D_own_constraints hr (ia_cons (ie_var 0) (ia_cons (ie_var 1) ia_nil)))) (ig_name 5 sc.nd)
  (iss_cons (is_put (hu1 hr) (ie_var 3) (ie_ix (hu1 hr) (ie_var 5) ie_int) ie_int)
  (iss_one (is_put (hu1 hr) (ie_var 4) (ie_ix (hu1 hr) (ie_var 5) ie_int) (ie_var 5)))))
  (iss_cons (is_set 6 sc.nd (ie_call D_all_constraints hr (ia_cons (ie_var 0) (ia_cons (ie_var 1) (ia_cons (ie_var 2) ia_nil)))))
  (iss_cons (is_set 7 sc.nd (ie_glob c_ORIGIN))
  (iss_cons (is_set 8 sc.nd ie_int)
  (iss_cons (is_while PassesOwn.never (it_w (iw_and (it_cmp og_isNot (ie_var 7) ie_non) (iw_and1 (it_cmp og_lt (ie_var 8) (ie_op og_add (ie_callB cg_len B.len (ia_cons (ie_var 1) ia_nil)) ie_int)))))
  (iss_cons (is_set 7 sc.nd (ie_call D_make_pass hr (ia_cons (ie_var 6) (ia_cons (ie_var 3) (ia_cons (ie_var 4) ia_nil)))))
  (iss_one (is_aug 8 sc.nd ipg_add ie_int))))
  (iss_cons (is_if (it_cmp og_isNot (ie_var 7) ie_non)
  (iss_one (is_ret (ie_tup (ia_cons ie_str (ia_cons (ie_call D_cycle_of hr (ia_cons (ie_var 4) (ia_cons (ie_var 7) (ia_cons (ie_op og_add (ie_callB cg_len B.len (ia_cons (ie_var 1) ia_nil)) ie_int) ia_nil)))) ia_nil)))))
  iss_nil)
  (iss_cons (is_set 9 sc.nd (ie_callT cg_tuple B.tuple (ia_cons (ie_lc [("shape", 10)] rfl sc.nd (ii_seq (ie_var 1)) (blkOk_by (N := ["axis", "shapes", "constraints", "places", "causes", "constraint", "every", "last", "passes", "chains", "shape"]) (sc := defScope (topS 7)) (by decide +kernel)) rfl (fun _ _ _ _ _ => (ig_name 10 sc.nd)) (fun _ _ _ _ _ => its_nil) (fun _ _ _ _ _ => (ie_call D_chain_of hr (ia_cons (ie_var 4) (ia_cons (ie_var 10) ia_nil))))) ia_nil)))
  (iss_one (is_ret (ie_tup (ia_cons ie_str (ia_cons (ie_callT cg_tuple B.tuple (ia_cons (ie_lc [("shape", 10)] rfl sc.nd (ii_seq (ie_var 1)) (blkOk_by (N := ["axis", "shapes", "constraints", "places", "causes", "constraint", "every", "last", "passes", "chains", "shape"]) (sc := defScope (topS 7)) (by decide +kernel)) rfl (fun _ _ _ _ _ => (ig_name 10 sc.nd)) (fun _ _ _ _ _ => its_nil) (fun _ _ _ _ _ => (ie_ix (hu1 hr) (ie_var 3) (ie_var 10)))) ia_nil)) (ia_cons (ie_var 9) ia_nil)))))))))))))))
theorem sc_are_among : FnScope ["values", "constraints", "value"] ["values", "constraints"] (defScope (topS 11)) := ⟨rfl, rfl, rfl, by decide +kernel, rfl, by decide +kernel, by decide +kernel⟩
theorem ok_are_among {f : Addr} {fd : FuncData} (D_is_among : DefAt P w K mg base 2 "is_among" 2 d_is_among) (B : Blt mg) (F : Fun K "are_among" "are_among" (topS 11) f fd) (g : mg "are_among" = some (.ref f)) : DefAt P w K mg base 3 "are_among" 2 d_are_among := by
  have sc := sc_are_among
  exact defAt ["values", "constraints"] F g sc (fun _ _ _ _ _ _ us hl => match us, hl with | [_, _], _ => rfl) fun cdv A outer s H E hr => (iss_cons (is_if (it_not (it_val (ie_isi .tuple (ie_var 0) B.isinstance B.tuple)))
  (iss_one (is_ret ie_bl))
  iss_nil)
  (iss_cons (is_for PassesOwn.never rfl (ii_seq (ie_var 0)) (ig_name 2 sc.nd)
  (iss_one (is_if (it_not (it_val (ie_call D_is_among hr (ia_cons (ie_var 2) (ia_cons (ie_var 1) ia_nil)))))
  (iss_one (is_ret ie_bl))
  iss_nil)))
  (iss_one (is_ret ie_bl))))
theorem sc_is_places : FnScope ["axis", "shapes", "constraints", "places", "known", "k", "_", "later", "earlier", "gap"] ["axis", "shapes", "constraints", "places"] (defScope (topS 12)) := ⟨rfl, rfl, rfl, by decide +kernel, rfl, by decide +kernel, by decide +kernel⟩
theorem ok_is_places {f : Addr} {fd : FuncData} (c_ORIGIN : GlobG mg "ORIGIN" (.str "")) (D_all_constraints : DefAt P w K mg base 2 "all_constraints" 3 d_all_constraints) (D_is_whole : DefAt P w K mg base 2 "is_whole" 1 d_is_whole) (B : Blt mg) (F : Fun K "is_places" "is_places" (topS 12) f fd) (g : mg "is_places" = some (.ref f)) : DefAt P w K mg base 3 "is_places" 4 d_is_places := by
  have sc := sc_is_places
  exact defAt ["axis", "shapes", "constraints", "places"] F g sc (fun _ _ _ _ _ _ us hl => match us, hl with | [_, _, _, _], _ => rfl) fun cdv A outer s H E hr => (iss_cons (is_if (it_w (iw_or (it_not (it_val (ie_isi .tuple (ie_var 3) B.isinstance B.tuple))) (iw_or1 (it_cmp (og_ne (hu65 hr)) (ie_callB cg_len B.len (ia_cons (ie_var 3) ia_nil)) (ie_callB cg_len B.len (ia_cons (ie_var 1) ia_nil))))))
  (iss_one (is_ret ie_bl))
  iss_nil)
  (iss_cons (is_set 4 sc.nd (ie_disp (ips_cons (ie_glob c_ORIGIN) ie_int ips_nil)))
  (iss_cons (is_for PassesOwn.never rfl (ii_rng1 B.range (ia_cons (ie_callB cg_len B.len (ia_cons (ie_var 1) ia_nil)) ia_nil)) (ig_name 5 sc.nd)
  (iss_cons (is_if (it_not (it_val (ie_call D_is_whole hr (ia_cons (ie_ix (hu1 hr) (ie_var 3) (ie_var 5)) ia_nil))))
  (iss_one (is_ret ie_bl))
  iss_nil)
  (iss_one (is_put (hu1 hr) (ie_var 4) (ie_ix (hu1 hr) (ie_var 1) (ie_var 5)) (ie_ix (hu1 hr) (ie_var 3) (ie_var 5))))))
  (iss_cons (is_for PassesOwn.never rfl (ii_seq (ie_call D_all_constraints hr (ia_cons (ie_var 0) (ia_cons (ie_var 1) (ia_cons (ie_var 2) ia_nil))))) (ig_tup rfl (igs_cons 6 sc.nd (igs_cons 7 sc.nd (igs_cons 8 sc.nd (igs_cons 9 sc.nd (igs_cons 6 sc.nd igs_nil))))))
  (iss_one (is_if (it_cmp og_lt (ie_ix (hu1 hr) (ie_var 4) (ie_var 7)) (ie_op og_add (ie_ix (hu1 hr) (ie_var 4) (ie_var 8)) (ie_var 9)))
  (iss_one (is_ret ie_bl))
  iss_nil)))
  (iss_one (is_ret ie_bl))))))
theorem sc_is_chain : FnScope ["axis", "shapes", "constraints", "shape", "place", "chain", "at", "total", "_", "later", "earlier", "gap"] ["axis", "shapes", "constraints", "shape", "place", "chain"] (defScope (topS 13)) := ⟨rfl, rfl, rfl, by decide +kernel, rfl, by decide +kernel, by decide +kernel⟩
theorem ok_is_chain {f : Addr} {fd : FuncData} (c_ORIGIN : GlobG mg "ORIGIN" (.str "")) (D_all_constraints : DefAt P w K mg base 3 "all_constraints" 3 d_all_constraints) (D_are_among : DefAt P w K mg base 3 "are_among" 2 d_are_among) (B : Blt mg) (F : Fun K "is_chain" "is_chain" (topS 13) f fd) (g : mg "is_chain" = some (.ref f)) : DefAt P w K mg base 4 "is_chain" 6 d_is_chain := by
  have sc := sc_is_chain
  exact defAt ["axis", "shapes", "constraints", "shape", "place", "chain"] F g sc (fun _ _ _ _ _ _ us hl => match us, hl with | [_, _, _, _, _, _], _ => rfl) fun cdv A outer s H E hr => (iss_cons (is_if (it_not (it_val (ie_call D_are_among hr (ia_cons (ie_var 5) (ia_cons (ie_call D_all_constraints hr (ia_cons (ie_var 0) (ia_cons (ie_var 1) (ia_cons (ie_var 2) ia_nil)))) ia_nil)))))
  (iss_one (is_ret ie_bl))
  iss_nil)
  (iss_cons (is_set 6 sc.nd (ie_glob c_ORIGIN))
  (iss_cons (is_set 7 sc.nd ie_int)
  (iss_cons (is_for PassesOwn.never rfl (ii_seq (ie_var 5)) (ig_tup rfl (igs_cons 8 sc.nd (igs_cons 9 sc.nd (igs_cons 10 sc.nd (igs_cons 11 sc.nd (igs_cons 8 sc.nd igs_nil))))))
  (iss_cons (is_if (it_cmp (og_ne (hu65 hr)) (ie_var 10) (ie_var 6))
  (iss_one (is_ret ie_bl))
  iss_nil)
  (iss_cons (is_set 6 sc.nd (ie_var 9))
  (iss_one (is_aug 7 sc.nd ipg_add (ie_var 11))))))
  (iss_one (is_ret (ie_and (ie_cmp (og_eq (hu65 hr)) (ie_var 6) (ie_var 3)) (ie_one (ie_cmp (og_eq (hu65 hr)) (ie_var 7) (ie_var 4))))))))))
theorem sc_is_cycle : FnScope ["axis", "shapes", "constraints", "cycle", "at", "total", "_", "later", "earlier", "gap"] ["axis", "shapes", "constraints", "cycle"] (defScope (topS 14)) := ⟨rfl, rfl, rfl, by decide +kernel, rfl, by decide +kernel, by decide +kernel⟩
theorem ok_is_cycle {f : Addr} {fd : FuncData} (D_all_constraints : DefAt P w K mg base 3 "all_constraints" 3 d_all_constraints) (D_are_among : DefAt P w K mg base 3 "are_among" 2 d_are_among) (B : Blt mg) (F : Fun K "is_cycle" "is_cycle" (topS 14) f fd) (g : mg "is_cycle" = some (.ref f)) : DefAt P w K mg base 4 "is_cycle" 4 d_is_cycle := by
  have sc := sc_is_cycle
  exact defAt ["axis", "shapes", "constraints", "cycle"] F g sc (fun _ _ _ _ _ _ us hl => match us, hl with | [_, _, _, _], _ => rfl) fun cdv A outer s H E hr => (iss_cons (is_if (it_w (iw_or (it_not (it_val (ie_call D_are_among hr (ia_cons (ie_var 3) (ia_cons (ie_call D_all_constraints hr (ia_cons (ie_var 0) (ia_cons (ie_var 1) (ia_cons (ie_var 2) ia_nil)))) ia_nil))))) (iw_or1 (it_cmp (og_eq (hu65 hr)) (ie_callB cg_len B.len (ia_cons (ie_var 3) ia_nil)) ie_int))))
  (iss_one (is_ret ie_bl))
  iss_nil)
  (iss_cons (is_set 4 sc.nd (ie_ix (hu1 hr) (ie_ix (hu1 hr) (ie_var 3) ie_int) ie_int))
  (iss_cons (is_set 5 sc.nd ie_int)
  (iss_cons (is_for PassesOwn.never rfl (ii_seq (ie_var 3)) (ig_tup rfl (igs_cons 6 sc.nd (igs_cons 7 sc.nd (igs_cons 8 sc.nd (igs_cons 9 sc.nd (igs_cons 6 sc.nd igs_nil))))))
  (iss_cons (is_if (it_cmp (og_ne (hu65 hr)) (ie_var 8) (ie_var 4))
  (iss_one (is_ret ie_bl))
  iss_nil)
  (iss_cons (is_set 4 sc.nd (ie_var 7))
  (iss_one (is_aug 5 sc.nd ipg_add (ie_var 9))))))
  (iss_one (is_ret (ie_and (ie_cmp (og_eq (hu65 hr)) (ie_var 4) (ie_ix (hu1 hr) (ie_ix (hu1 hr) (ie_var 3) ie_int) ie_int)) (ie_one (ie_cmp og_gt (ie_var 5) ie_int)))))))))
theorem sc__law_same : FnScope ["one", "two", "k"] ["one", "two"] (defScope (topS 19)) := ⟨rfl, rfl, rfl, by decide +kernel, rfl, by decide +kernel, by decide +kernel⟩
theorem ok__law_same {f : Addr} {fd : FuncData} (B : Blt mg) (F : Fun K "_law_same" "_law_same" (topS 19) f fd) (g : mg "_law_same" = some (.ref f)) : ∀ n : Nat, DefAt P w K mg base n "_law_same" 2 (d__law_same n)
  | 0 => defAt0 ["one", "two"] F g (fun _ _ _ _ _ _ us hl => match us, hl with | [_, _], _ => rfl)
  | n + 1 => by
    have D__law_same := ok__law_same B F g n
    have sc := sc__law_same
    exact defAt ["one", "two"] F g sc (fun _ _ _ _ _ _ us hl => match us, hl with | [_, _], _ => rfl) fun cdv A outer s H E hr => (iss_cons (is_if (it_val (ie_isi .tuple (ie_var 1) B.isinstance B.tuple))
      (iss_cons (is_if (it_w (iw_or (it_not (it_val (ie_isi .tuple (ie_var 0) B.isinstance B.tuple))) (iw_or1 (it_cmp (og_ne (hu65 hr)) (ie_callB cg_len B.len (ia_cons (ie_var 0) ia_nil)) (ie_callB cg_len B.len (ia_cons (ie_var 1) ia_nil))))))
      (iss_one (is_ret ie_bl))
      iss_nil)
      (iss_cons (is_for PassesOwn.never rfl (ii_rng1 B.range (ia_cons (ie_callB cg_len B.len (ia_cons (ie_var 1) ia_nil)) ia_nil)) (ig_name 2 sc.nd)
      (iss_one (is_if (it_not (it_val (ie_call D__law_same hr (ia_cons (ie_ix (hu1 hr) (ie_var 0) (ie_var 2)) (ia_cons (ie_ix (hu1 hr) (ie_var 1) (ie_var 2)) ia_nil)))))
      (iss_one (is_ret ie_bl))
      iss_nil)))
      (iss_one (is_ret ie_bl))))
      iss_nil)
      (iss_cons (is_if (it_val (ie_isi .bool (ie_var 1) B.isinstance B.bool))
      (iss_one (is_ret (ie_and (ie_isi .bool (ie_var 0) B.isinstance B.bool) (ie_one (ie_cmp (og_eq (hu65 hr)) (ie_var 0) (ie_var 1))))))
      iss_nil)
      (iss_cons (is_if (it_val (ie_isi .int (ie_var 1) B.isinstance B.int))
      (iss_one (is_ret (ie_and (ie_isi .int (ie_var 0) B.isinstance B.int) (ie_and (ie_not (ie_isi .bool (ie_var 0) B.isinstance B.bool)) (ie_one (ie_cmp (og_eq (hu65 hr)) (ie_var 0) (ie_var 1)))))))
      iss_nil)
      (iss_cons (is_if (it_val (ie_isi .str (ie_var 1) B.isinstance B.str))
      (iss_one (is_ret (ie_and (ie_isi .str (ie_var 0) B.isinstance B.str) (ie_one (ie_cmp (og_eq (hu65 hr)) (ie_var 0) (ie_var 1))))))
      iss_nil)
      (iss_one (is_ret (ie_and (ie_cmp og_is (ie_var 0) ie_non) (ie_one (ie_cmp og_is (ie_var 1) ie_non)))))))))
theorem sc__law_judges_chain : FnScope ["jar", "axis", "shapes", "constraints", "shape", "place", "chain", "near", "due"] ["jar", "axis", "shapes", "constraints", "shape", "place", "chain"] (defScope (topS 28)) := ⟨rfl, rfl, rfl, by decide +kernel, rfl, by decide +kernel, by decide +kernel⟩
theorem ok__law_judges_chain {f : Addr} {fd : FuncData} (D__law_near : DefAt P w K mg base 12 "_law_near" 5 d__law_near) (D__law_same : DefAt P w K mg base 12 "_law_same" 2 (d__law_same 12)) (D__law_walk : DefAt P w K mg base 12 "_law_walk" 4 d__law_walk) (D__law_wrong : DefAt P w K mg base 12 "_law_wrong" 2 d__law_wrong) (D_is_chain : DefAt P w K mg base 12 "is_chain" 6 d_is_chain) (B : Blt mg) (F : Fun K "_law_judges_chain" "_law_judges_chain" (topS 28) f fd) (g : mg "_law_judges_chain" = some (.ref f)) : DefAt P w K mg base 13 "_law_judges_chain" 7 d__law_judges_chain := by
  have sc := sc__law_judges_chain
  exact defAt ["jar", "axis", "shapes", "constraints", "shape", "place", "chain"] F g sc (fun _ _ _ _ _ _ us hl => match us, hl with | [_, _, _, _, _, _, _], _ => rfl) fun cdv A outer s H E hr => (iss_cons (is_if (it_cmp og_isNot (ie_call D_is_chain hr (ia_cons (ie_var 1) (ia_cons (ie_var 2) (ia_cons (ie_var 3) (ia_cons (ie_var 4) (ia_cons (ie_var 5) (ia_cons (ie_var 6) ia_nil))))))) ie_bl)
  (iss_one (is_ret ie_bl))
  iss_nil)
  (iss_cons (is_if (it_cmp og_isNot (ie_call D_is_chain hr (ia_cons (ie_var 1) (ia_cons (ie_var 2) (ia_cons (ie_var 3) (ia_cons (ie_var 4) (ia_cons (ie_var 5) (ia_cons (ie_tup ia_nil) ia_nil))))))) ie_bl)
  (iss_one (is_ret ie_bl))
  iss_nil)
  (iss_cons (is_set 7 sc.nd (ie_call D__law_near hr (ia_cons (ie_var 0) (ia_cons (ie_var 1) (ia_cons (ie_var 2) (ia_cons (ie_var 3) (ia_cons (ie_var 6) ia_nil)))))))
  (iss_cons (is_set 8 sc.nd (ie_cmp (og_eq (hu65 hr)) (ie_call D__law_walk hr (ia_cons (ie_var 1) (ia_cons (ie_var 2) (ia_cons (ie_var 3) (ia_cons (ie_var 7) ia_nil))))) (ie_tup (ia_cons ie_str (ia_cons (ie_var 4) (ia_cons (ie_var 5) ia_nil))))))
  (iss_cons (is_if (it_not (it_val (ie_call D__law_same hr (ia_cons (ie_call D_is_chain hr (ia_cons (ie_var 1) (ia_cons (ie_var 2) (ia_cons (ie_var 3) (ia_cons (ie_var 4) (ia_cons (ie_var 5) (ia_cons (ie_var 7) ia_nil))))))) (ia_cons (ie_var 8) ia_nil)))))
  (iss_one (is_ret ie_bl))
  iss_nil)
  (iss_cons (is_if (it_cmp og_isNot (ie_call D_is_chain hr (ia_cons (ie_var 1) (ia_cons (ie_var 2) (ia_cons (ie_var 3) (ia_cons (ie_var 4) (ia_cons (ie_op og_add (ie_var 5) ie_int) (ia_cons (ie_var 6) ia_nil))))))) ie_bl)
  (iss_one (is_ret ie_bl))
  iss_nil)
  (iss_one (is_ret (ie_cmp og_is (ie_call D_is_chain hr (ia_cons (ie_var 1) (ia_cons (ie_var 2) (ia_cons (ie_var 3) (ia_cons (ie_var 4) (ia_cons (ie_var 5) (ia_cons (ie_call D__law_wrong hr (ia_cons (ie_var 0) (ia_cons (ie_var 6) ia_nil))) ia_nil))))))) ie_bl)))))))))
theorem sc__law_judges_places : FnScope ["jar", "axis", "shapes", "constraints", "places", "step", "at", "moved", "near", "due", "other", "wrong"] ["jar", "axis", "shapes", "constraints", "places"] (defScope (topS 29)) := ⟨rfl, rfl, rfl, by decide +kernel, rfl, by decide +kernel, by decide +kernel⟩
theorem ok__law_judges_places {f : Addr} {fd : FuncData} (D__law_keeps : DefAt P w K mg base 12 "_law_keeps" 4 d__law_keeps) (D__law_same : DefAt P w K mg base 12 "_law_same" 2 (d__law_same 12)) (D__law_take : DefAt P w K mg base 12 "_law_take" 2 d__law_take) (D_is_places : DefAt P w K mg base 12 "is_places" 4 d_is_places) (B : Blt mg) (F : Fun K "_law_judges_places" "_law_judges_places" (topS 29) f fd) (g : mg "_law_judges_places" = some (.ref f)) : DefAt P w K mg base 13 "_law_judges_places" 5 d__law_judges_places := by
  have sc := sc__law_judges_places
  exact defAt ["jar", "axis", "shapes", "constraints", "places"] F g sc (fun _ _ _ _ _ _ us hl => match us, hl with | [_, _, _, _, _], _ => rfl) fun cdv A outer s H E hr => (iss_cons (is_if (it_cmp og_isNot (ie_call D_is_places hr (ia_cons (ie_var 1) (ia_cons (ie_var 2) (ia_cons (ie_var 3) (ia_cons (ie_var 4) ia_nil))))) ie_bl)
  (iss_one (is_ret ie_bl))
  iss_nil)
  (iss_cons (is_for PassesOwn.never rfl (ii_rng1 B.range (ia_cons ie_int ia_nil)) (ig_name 5 sc.nd)
  (iss_cons (is_set 6 sc.nd (ie_call D__law_take hr (ia_cons (ie_var 0) (ia_cons (ie_callB cg_len B.len (ia_cons (ie_var 2) ia_nil)) ia_nil))))
  (iss_cons (is_set 7 sc.nd (ie_op og_add (ie_ix (hu1 hr) (ie_var 4) (ie_var 6)) (ie_ix (hu1 hr) (ie_lst (ia_cons (ie_un ug_neg ie_int) (ia_cons ie_int (ia_cons ie_int ia_nil)))) (ie_var 5))))
  (iss_cons (is_set 8 sc.nd (ie_op og_add (ie_op og_add (ie_sl (ie_var 4) io_none (io_some (ie_var 6))) (ie_tup (ia_cons (ie_var 7) ia_nil))) (ie_sl (ie_var 4) (io_some (ie_op og_add (ie_var 6) ie_int)) io_none)))
  (iss_cons (is_set 9 sc.nd (ie_and (ie_cmp og_ge (ie_var 7) ie_int) (ie_one (ie_call D__law_keeps hr (ia_cons (ie_var 1) (ia_cons (ie_var 2) (ia_cons (ie_var 3) (ia_cons (ie_var 8) ia_nil))))))))
  (iss_one (is_if (it_not (it_val (ie_call D__law_same hr (ia_cons (ie_call D_is_places hr (ia_cons (ie_var 1) (ia_cons (ie_var 2) (ia_cons (ie_var 3) (ia_cons (ie_var 8) ia_nil))))) (ia_cons (ie_var 9) ia_nil)))))
  (iss_one (is_ret ie_bl))
  iss_nil)))))))
  (iss_cons (is_set 6 sc.nd (ie_call D__law_take hr (ia_cons (ie_var 0) (ia_cons (ie_callB cg_len B.len (ia_cons (ie_var 2) ia_nil)) ia_nil))))
  (iss_cons (is_set 10 sc.nd (ie_op og_add (ie_op og_add (ie_sl (ie_var 4) io_none (io_some (ie_var 6))) (ie_tup (ia_cons (ie_cmp (og_eq (hu65 hr)) (ie_ix (hu1 hr) (ie_var 4) (ie_var 6)) ie_int) ia_nil))) (ie_sl (ie_var 4) (io_some (ie_op og_add (ie_var 6) ie_int)) io_none)))
  (iss_cons (is_set 11 sc.nd (ie_lst (ia_cons (ie_callT cg_list B.list (ia_cons (ie_var 4) ia_nil)) (ia_cons (ie_sl (ie_var 4) (io_some ie_int) io_none) (ia_cons (ie_op og_add (ie_var 4) (ie_tup (ia_cons ie_int ia_nil))) (ia_cons ie_non (ia_cons (ie_var 10) (ia_cons ie_str (ia_cons (ie_op og_add (ie_op og_add (ie_sl (ie_var 4) io_none (io_some (ie_var 6))) (ie_tup (ia_cons ie_str ia_nil))) (ie_sl (ie_var 4) (io_some (ie_op og_add (ie_var 6) ie_int)) io_none)) ia_nil)))))))))
  (iss_one (is_ret (ie_cmp og_is (ie_call D_is_places hr (ia_cons (ie_var 1) (ia_cons (ie_var 2) (ia_cons (ie_var 3) (ia_cons (ie_ix (hu1 hr) (ie_var 11) (ie_call D__law_take hr (ia_cons (ie_var 0) (ia_cons ie_int ia_nil)))) ia_nil))))) ie_bl))))))))
theorem sc__law_judges_cycle : FnScope ["jar", "axis", "shapes", "constraints", "cycle", "found", "step", "near", "due", "zeros", "shape"] ["jar", "axis", "shapes", "constraints", "cycle"] (defScope (topS 30)) := ⟨rfl, rfl, rfl, by decide +kernel, rfl, by decide +kernel, by decide +kernel⟩
theorem ok__law_judges_cycle {f : Addr} {fd : FuncData} (D__law_near : DefAt P w K mg base 12 "_law_near" 5 d__law_near) (D__law_same : DefAt P w K mg base 12 "_law_same" 2 (d__law_same 12)) (D__law_walk : DefAt P w K mg base 12 "_law_walk" 4 d__law_walk) (D__law_wrong : DefAt P w K mg base 12 "_law_wrong" 2 d__law_wrong) (D_is_cycle : DefAt P w K mg base 12 "is_cycle" 4 d_is_cycle) (D_is_places : DefAt P w K mg base 12 "is_places" 4 d_is_places) (B : Blt mg) (F : Fun K "_law_judges_cycle" "_law_judges_cycle" (topS 30) f fd) (g : mg "_law_judges_cycle" = some (.ref f)) : DefAt P w K mg base 13 "_law_judges_cycle" 5 d__law_judges_cycle := by
  have sc := sc__law_judges_cycle
  exact defAt ["jar", "axis", "shapes", "constraints", "cycle"] F g sc (fun _ _ _ _ _ _ us hl => match us, hl with | [_, _, _, _, _], _ => rfl) fun cdv A outer s H E hr => (iss_cons (is_set 5 sc.nd (ie_call D__law_walk hr (ia_cons (ie_var 1) (ia_cons (ie_var 2) (ia_cons (ie_var 3) (ia_cons (ie_var 4) ia_nil))))))
  (iss_cons (is_if (it_w (iw_or (it_cmp og_is (ie_var 5) ie_non) (iw_or (it_cmp (og_ne (hu65 hr)) (ie_ix (hu1 hr) (ie_var 5) ie_int) (ie_ix (hu1 hr) (ie_var 5) ie_int)) (iw_or1 (it_cmp og_le (ie_ix (hu1 hr) (ie_var 5) ie_int) ie_int)))))
  (iss_one (is_ret ie_bl))
  iss_nil)
  (iss_cons (is_if (it_w (iw_or (it_cmp og_isNot (ie_call D_is_cycle hr (ia_cons (ie_var 1) (ia_cons (ie_var 2) (ia_cons (ie_var 3) (ia_cons (ie_var 4) ia_nil))))) ie_bl) (iw_or1 (it_cmp og_isNot (ie_call D_is_cycle hr (ia_cons (ie_var 1) (ia_cons (ie_var 2) (ia_cons (ie_var 3) (ia_cons (ie_tup ia_nil) ia_nil))))) ie_bl))))
  (iss_one (is_ret ie_bl))
  iss_nil)
  (iss_cons (is_if (it_cmp og_isNot (ie_call D_is_cycle hr (ia_cons (ie_var 1) (ia_cons (ie_var 2) (ia_cons (ie_var 3) (ia_cons (ie_op og_add (ie_var 4) (ie_var 4)) ia_nil))))) ie_bl)
  (iss_one (is_ret ie_bl))
  iss_nil)
  (iss_cons (is_for PassesOwn.never rfl (ii_rng1 B.range (ia_cons ie_int ia_nil)) (ig_name 6 sc.nd)
  (iss_cons (is_set 7 sc.nd (ie_call D__law_near hr (ia_cons (ie_var 0) (ia_cons (ie_var 1) (ia_cons (ie_var 2) (ia_cons (ie_var 3) (ia_cons (ie_var 4) ia_nil)))))))
  (iss_cons (is_set 5 sc.nd (ie_call D__law_walk hr (ia_cons (ie_var 1) (ia_cons (ie_var 2) (ia_cons (ie_var 3) (ia_cons (ie_var 7) ia_nil))))))
  (iss_cons (is_set 8 sc.nd (ie_and (ie_cmp og_isNot (ie_var 5) ie_non) (ie_and (ie_cmp (og_eq (hu65 hr)) (ie_ix (hu1 hr) (ie_var 5) ie_int) (ie_ix (hu1 hr) (ie_var 5) ie_int)) (ie_one (ie_cmp og_gt (ie_ix (hu1 hr) (ie_var 5) ie_int) ie_int)))))
  (iss_one (is_if (it_not (it_val (ie_call D__law_same hr (ia_cons (ie_call D_is_cycle hr (ia_cons (ie_var 1) (ia_cons (ie_var 2) (ia_cons (ie_var 3) (ia_cons (ie_var 7) ia_nil))))) (ia_cons (ie_var 8) ia_nil)))))
  (iss_one (is_ret ie_bl))
  iss_nil))))))
  (iss_cons (is_set 9 sc.nd (ie_callT cg_tuple B.tuple (ia_cons (ie_lc [("shape", 10)] rfl sc.nd (ii_seq (ie_var 2)) (blkOk_by (N := ["jar", "axis", "shapes", "constraints", "cycle", "found", "step", "near", "due", "zeros", "shape"]) (sc := defScope (topS 30)) (by decide +kernel)) rfl (fun _ _ _ _ _ => (ig_name 10 sc.nd)) (fun _ _ _ _ _ => its_nil) (fun _ _ _ _ _ => ie_int)) ia_nil)))
  (iss_cons (is_if (it_cmp og_isNot (ie_call D_is_places hr (ia_cons (ie_var 1) (ia_cons (ie_var 2) (ia_cons (ie_var 3) (ia_cons (ie_var 9) ia_nil))))) ie_bl)
  (iss_one (is_ret ie_bl))
  iss_nil)
  (iss_one (is_ret (ie_cmp og_is (ie_call D_is_cycle hr (ia_cons (ie_var 1) (ia_cons (ie_var 2) (ia_cons (ie_var 3) (ia_cons (ie_call D__law_wrong hr (ia_cons (ie_var 0) (ia_cons (ie_var 4) ia_nil))) ia_nil))))) ie_bl))))))))))
theorem sc__law_judges_short : FnScope ["axis", "shapes", "constraints", "every", "asked", "one", "two"] ["axis", "shapes", "constraints"] (defScope (topS 31)) := ⟨rfl, rfl, rfl, by decide +kernel, rfl, by decide +kernel, by decide +kernel⟩
theorem ok__law_judges_short {f : Addr} {fd : FuncData} (D__law_every : DefAt P w K mg base 12 "_law_every" 3 d__law_every) (D__law_same : DefAt P w K mg base 12 "_law_same" 2 (d__law_same 12)) (D_is_cycle : DefAt P w K mg base 12 "is_cycle" 4 d_is_cycle) (B : Blt mg) (F : Fun K "_law_judges_short" "_law_judges_short" (topS 31) f fd) (g : mg "_law_judges_short" = some (.ref f)) : DefAt P w K mg base 13 "_law_judges_short" 3 d__law_judges_short := by
  have sc := sc__law_judges_short
  exact defAt ["axis", "shapes", "constraints"] F g sc (fun _ _ _ _ _ _ us hl => match us, hl with | [_, _, _], _ => rfl) fun cdv A outer s H E hr => (iss_cons (is_set 3 sc.nd (ie_sl (ie_call D__law_every hr (ia_cons (ie_var 0) (ia_cons (ie_var 1) (ia_cons (ie_var 2) ia_nil)))) io_none (io_some ie_int)))
  (iss_cons (is_set 4 sc.nd ie_int)
  (iss_cons (is_for PassesOwn.never rfl (ii_seq (ie_var 3)) (ig_name 5 sc.nd)
  (iss_cons (is_for PassesOwn.never rfl (ii_seq (ie_var 3)) (ig_name 6 sc.nd)
  (iss_one (is_if (it_w (iw_and (it_cmp og_lt (ie_var 4) ie_int) (iw_and (it_cmp (og_eq (hu65 hr)) (ie_ix (hu1 hr) (ie_var 5) ie_int) (ie_ix (hu1 hr) (ie_var 6) ie_int)) (iw_and1 (it_cmp (og_eq (hu65 hr)) (ie_ix (hu1 hr) (ie_var 6) ie_int) (ie_ix (hu1 hr) (ie_var 5) ie_int))))))
  (iss_cons (is_set 4 sc.nd (ie_op og_add (ie_var 4) ie_int))
  (iss_one (is_if (it_not (it_val (ie_call D__law_same hr (ia_cons (ie_call D_is_cycle hr (ia_cons (ie_var 0) (ia_cons (ie_var 1) (ia_cons (ie_var 2) (ia_cons (ie_tup (ia_cons (ie_var 5) (ia_cons (ie_var 6) ia_nil))) ia_nil))))) (ia_cons (ie_cmp og_gt (ie_op og_add (ie_ix (hu1 hr) (ie_var 5) ie_int) (ie_ix (hu1 hr) (ie_var 6) ie_int)) ie_int) ia_nil)))))
  (iss_one (is_ret ie_bl))
  iss_nil)))
  iss_nil)))
  (iss_one (is_if (it_w (iw_and (it_cmp (og_eq (hu65 hr)) (ie_ix (hu1 hr) (ie_var 5) ie_int) (ie_ix (hu1 hr) (ie_var 5) ie_int)) (iw_and1 (it_not (it_val (ie_call D__law_same hr (ia_cons (ie_call D_is_cycle hr (ia_cons (ie_var 0) (ia_cons (ie_var 1) (ia_cons (ie_var 2) (ia_cons (ie_tup (ia_cons (ie_var 5) ia_nil)) ia_nil))))) (ia_cons (ie_cmp og_gt (ie_ix (hu1 hr) (ie_var 5) ie_int) ie_int) ia_nil))))))))
  (iss_one (is_ret ie_bl))
  iss_nil))))
  (iss_one (is_ret ie_bl)))))
theorem sc_law : FnScope ["script", "jar", "axis", "size", "many", "taken", "shapes", "k", "name", "constraints", "due", "at", "near", "found"] ["script"] (defScope (topS 32)) := ⟨rfl, rfl, rfl, by decide +kernel, rfl, by decide +kernel, by decide +kernel⟩
theorem ok_law {f : Addr} {fd : FuncData} (D__law_constraints : DefAt P w K mg base 13 "_law_constraints" 4 d__law_constraints) (D__law_due : DefAt P w K mg base 13 "_law_due" 3 d__law_due) (D__law_jar : DefAt P w K mg base 13 "_law_jar" 1 d__law_jar) (D__law_judges_chain : DefAt P w K mg base 13 "_law_judges_chain" 7 d__law_judges_chain) (D__law_judges_cycle : DefAt P w K mg base 13 "_law_judges_cycle" 5 d__law_judges_cycle) (D__law_judges_places : DefAt P w K mg base 13 "_law_judges_places" 5 d__law_judges_places) (D__law_judges_short : DefAt P w K mg base 13 "_law_judges_short" 3 d__law_judges_short) (D__law_name : DefAt P w K mg base 13 "_law_name" 2 d__law_name) (D__law_near : DefAt P w K mg base 13 "_law_near" 5 d__law_near) (D__law_same : DefAt P w K mg base 13 "_law_same" 2 (d__law_same 12)) (D__law_take : DefAt P w K mg base 13 "_law_take" 2 d__law_take) (D__law_walk : DefAt P w K mg base 13 "_law_walk" 4 d__law_walk) (D_is_cycle : DefAt P w K mg base 13 "is_cycle" 4 d_is_cycle) (D_place_axis : DefAt P w K mg base 13 "place_axis" 3 d_place_axis) (B : Blt mg) (F : Fun K "law" "law" (topS 32) f fd) : FnG P w K mg base 14 f fd ["script"] d_law := by
  have sc := sc_law
  exact fng F sc fun cdv A outer s H E hr => (iss_cons (is_set 1 sc.nd (ie_call D__law_jar hr (ia_cons (ie_var 0) ia_nil)))
  (iss_cons (is_set 2 sc.nd (ie_ix (hu1 hr) ie_str (ie_call D__law_take hr (ia_cons (ie_var 1) (ia_cons ie_int ia_nil)))))
  (iss_cons (is_set 3 sc.nd (ie_op og_add ie_int (ie_call D__law_take hr (ia_cons (ie_var 1) (ia_cons ie_int ia_nil)))))
  (iss_cons (is_set 4 sc.nd (ie_call D__law_take hr (ia_cons (ie_var 1) (ia_cons ie_int ia_nil))))
  (iss_cons (is_if (it_cmp (og_eq (hu65 hr)) (ie_call D__law_take hr (ia_cons (ie_var 1) (ia_cons ie_int ia_nil))) ie_int)
  (iss_cons (is_set 3 sc.nd ie_int)
  (iss_one (is_set 4 sc.nd (ie_op og_add ie_int (ie_call D__law_take hr (ia_cons (ie_var 1) (ia_cons ie_int ia_nil)))))))
  iss_nil)
  (iss_cons (is_set 5 sc.nd (ie_lst ia_nil))
  (iss_cons (is_set 6 sc.nd (ie_lst ia_nil))
  (iss_cons (is_for PassesOwn.never rfl (ii_rng1 B.range (ia_cons (ie_var 3) ia_nil)) (ig_name 7 sc.nd)
  (iss_cons (is_set 8 sc.nd (ie_call D__law_name hr (ia_cons (ie_var 1) (ia_cons (ie_var 5) ia_nil))))
  (iss_cons (is_if (it_cmp (og_eq (hu65 hr)) (ie_call D__law_take hr (ia_cons (ie_var 1) (ia_cons ie_int ia_nil))) ie_int)
  (iss_one (is_set 8 sc.nd (ie_op og_add (ie_op og_add (ie_var 8) ie_str) (ie_callT cg_str B.str (ia_cons (ie_op og_add ie_int (ie_call D__law_take hr (ia_cons (ie_var 1) (ia_cons ie_int ia_nil)))) ia_nil)))))
  iss_nil)
  (iss_one (is_expr (ie_app (ie_var 6) (ie_var 8)))))))
  (iss_cons (is_set 6 sc.nd (ie_callT cg_tuple B.tuple (ia_cons (ie_var 6) ia_nil)))
  (iss_cons (is_set 9 sc.nd (ie_call D__law_constraints hr (ia_cons (ie_var 1) (ia_cons (ie_var 2) (ia_cons (ie_var 6) (ia_cons (ie_var 4) ia_nil))))))
  (iss_cons (is_set 10 sc.nd (ie_call D__law_due hr (ia_cons (ie_var 2) (ia_cons (ie_var 6) (ia_cons (ie_var 9) ia_nil)))))
  (iss_cons (is_if (it_not (it_val (ie_call D__law_same hr (ia_cons (ie_call D_place_axis hr (ia_cons (ie_var 2) (ia_cons (ie_var 6) (ia_cons (ie_var 9) ia_nil)))) (ia_cons (ie_var 10) ia_nil)))))
  (iss_one (is_ret ie_bl))
  iss_nil)
  (iss_cons (is_if (it_not (it_val (ie_call D__law_judges_short hr (ia_cons (ie_var 2) (ia_cons (ie_var 6) (ia_cons (ie_var 9) ia_nil))))))
  (iss_one (is_ret ie_bl))
  iss_nil)
  (iss_cons (is_if (it_cmp (og_eq (hu65 hr)) (ie_ix (hu1 hr) (ie_var 10) ie_int) ie_str)
  (iss_one (is_ret (ie_call D__law_judges_cycle hr (ia_cons (ie_var 1) (ia_cons (ie_var 2) (ia_cons (ie_var 6) (ia_cons (ie_var 9) (ia_cons (ie_ix (hu1 hr) (ie_var 10) ie_int) ia_nil))))))))
  iss_nil)
  (iss_cons (is_set 11 sc.nd (ie_call D__law_take hr (ia_cons (ie_var 1) (ia_cons (ie_var 3) ia_nil))))
  (iss_cons (is_if (it_not (it_val (ie_call D__law_judges_chain hr (ia_cons (ie_var 1) (ia_cons (ie_var 2) (ia_cons (ie_var 6) (ia_cons (ie_var 9) (ia_cons (ie_ix (hu1 hr) (ie_var 6) (ie_var 11)) (ia_cons (ie_ix (hu1 hr) (ie_ix (hu1 hr) (ie_var 10) ie_int) (ie_var 11)) (ia_cons (ie_ix (hu1 hr) (ie_ix (hu1 hr) (ie_var 10) ie_int) (ie_var 11)) ia_nil))))))))))
  (iss_one (is_ret ie_bl))
  iss_nil)
  (iss_cons (is_set 12 sc.nd (ie_call D__law_near hr (ia_cons (ie_var 1) (ia_cons (ie_var 2) (ia_cons (ie_var 6) (ia_cons (ie_var 9) (ia_cons (ie_ix (hu1 hr) (ie_ix (hu1 hr) (ie_var 10) ie_int) (ie_var 11)) ia_nil)))))))
  (iss_cons (is_set 13 sc.nd (ie_call D__law_walk hr (ia_cons (ie_var 2) (ia_cons (ie_var 6) (ia_cons (ie_var 9) (ia_cons (ie_var 12) ia_nil))))))
  (iss_cons (is_if (it_w (iw_and (it_cmp og_isNot (ie_var 13) ie_non) (iw_and (it_cmp (og_eq (hu65 hr)) (ie_ix (hu1 hr) (ie_var 13) ie_int) (ie_ix (hu1 hr) (ie_var 13) ie_int)) (iw_and1 (it_cmp og_gt (ie_ix (hu1 hr) (ie_var 13) ie_int) ie_int)))))
  (iss_one (is_ret ie_bl))
  iss_nil)
  (iss_cons (is_if (it_cmp og_isNot (ie_call D_is_cycle hr (ia_cons (ie_var 2) (ia_cons (ie_var 6) (ia_cons (ie_var 9) (ia_cons (ie_var 12) ia_nil))))) ie_bl)
  (iss_one (is_ret ie_bl))
  iss_nil)
  (iss_one (is_ret (ie_call D__law_judges_places hr (ia_cons (ie_var 1) (ia_cons (ie_var 2) (ia_cons (ie_var 6) (ia_cons (ie_var 9) (ia_cons (ie_ix (hu1 hr) (ie_var 10) ie_int) ia_nil))))))))))))))))))))))))))))
end
end K48
set_option Elab.async false
set_option linter.all false
set_option maxRecDepth 100000
set_option maxHeartbeats 1000000
namespace K48
open PySem L2 FL TL
local macro_rules | `(tactic| walk_at "ev") => `(tactic| with_reducible first
  | (refine Ev.var (g := ?g) ?e ?_; (case e => with_unfolding_all exact rfl)) | refine Ev.k ?_ | refine Ev.op ?_ | refine Ev.un ?_ | refine Ev.anil ?_ | refine Ev.acons ?_ | refine Ev.fcall ?_
  | refine Fls.seqSet ?_ | refine Fls.seqExpr ?_ | refine Fls.seqUnp ?_ | refine Fls.seqPar ?_ | refine Fls.seqPut ?_ | (refine Fls.seqAug (x := ?x) ?e ?_; (case e => with_unfolding_all exact rfl)) | refine Fls.seqRet ?_ | refine Fls.set ?_ | refine Fls.expr ?_ | refine Fls.ret ?_ | refine Fls.nil ?_ | refine Fls.unp ?_ | refine Fls.put ?_ | (refine Fls.aug (x := ?x) ?e ?_; (case e => with_unfolding_all exact rfl))
  | refine Ev.addI ?_ | refine Ev.subI ?_ | refine Ev.ltI ?_ | refine Ev.leI ?_ | refine Ev.gtI ?_ | refine Ev.geI ?_ | refine Ev.eqI ?_ | refine Ev.neI ?_ | refine Ev.eqS ?_ | refine Ev.neS ?_ | refine Ev.eqB ?_ | refine Ev.negI ?_
  | refine Ev.intI ?_ | refine Ev.absI ?_ | refine Ev.minI ?_ | refine Ev.maxI ?_ | refine Ev.lenT ?_ | refine Ev.tupT ?_ | refine Ev.lstT ?_ | refine Ev.slT ?_ | refine Ev.isT ?_ | refine Ev.isN ?_ | refine Ev.isB ?_ | refine Ev.isI ?_ | refine Ev.isS ?_ | refine Ev.isNon ?_ | refine Ev.isNotNon ?_ | refine Ev.isBl ?_ | refine Ev.isNotBl ?_ | refine Ev.augI ?_
  | (refine Ev.ixL (gs := ?gs) (g := ?g) ?e ?h ?_; (case e => assumption); (case h => with_unfolding_all exact rfl)) | (refine Ev.ixT (g := ?g) ?h ?_; (case h => with_unfolding_all exact rfl)) | (refine Ev.lenL (gs := ?gs) ?e ?_; (case e => assumption)) | (refine Ev.isL (gs := ?gs) ?e ?_; (case e => assumption)) | (refine Ev.tupL (gs := ?gs) ?e ?_; (case e => assumption))
  | refine Ev.ttB ?_ | refine Ev.ttVB ?_ | refine Ev.ttNot ?_ | refine Ev.tup ?_ | refine Ev.lst ?_ | refine Ev.sl ?_ | refine Ev.onone ?_ | refine Ev.osome ?_ | refine Ev.fAnd ?_ | refine Ev.fOr ?_ | refine Ev.fNot ?_ | refine Ev.ttAnd ?_ | refine Ev.ttOr ?_ | refine Ev.fIf ?_
  | (refine ⟨?w, ?h, ?_⟩; (case h => with_unfolding_all exact rfl)) | (refine ⟨?h, ?_⟩; (case h => with_unfolding_all exact Nat.le_of_ble_eq_true rfl)) | (refine ⟨?w, ?h, ?_⟩; (case h => exact putL (by assumption) (by with_unfolding_all exact rfl)))
  | dsimp only)
local macro_rules | `(tactic| walk_at "if") => `(tactic| ((with_reducible first | (refine Fls.seq ?_; refine Fls.si ?_) | refine Fls.si ?_); repeat walk_at "ev"))
local macro_rules | `(tactic| walk_at "c") => `(tactic| ((first | (refine ⟨fun _ => ?_, fun h => ?bad⟩; (case bad => first | exact Bool.noConfusion (show true = false from h) | exact Bool.noConfusion (show false = true from h))) | (refine ⟨fun h => ?bad, fun _ => ?_⟩; (case bad => first | exact Bool.noConfusion (show true = false from h) | exact Bool.noConfusion (show false = true from h)))); repeat walk_at "ev"))
theorem name_k {S : Sto} {j r t : Nat} {names : List Str} (J : Jar S j r) (ht : S[t]? = some (.lst (names.map G.str))) (htj : t ≠ j) (htr : t ≠ r) (hlen : names.length ≤ 59) :
    Ev (d__law_name [.loc j, .loc t] S) fun g S' => ∃ x, g = .str x ∧ NameN 8 x ∧ x ∉ names ∧ Jar S' j r ∧ S'[t]? = some (.lst ((names ++ [x]).map G.str)) ∧ Upto [j, t] S S' := name_ok J ht htj htr hlen
theorem jar_k {S : Sto} {s : Nat} {ns : List Int} (hs : getL S s = some (ns.map G.int)) (hl : ns.length ≤ 63) :
    Ev (d__law_jar [.loc s] S) fun g S' => ∃ j r, g = .loc j ∧ Jar S' j r ∧ S.length ≤ j ∧ S.length ≤ r ∧ Upto [] S S' := jar_ok hs hl
theorem isGetC {c : C} {ns : List Int} (hc : c = .ro (ns.map G.int) ∨ c = .kro (ns.map G.int)) : getL [c] 0 = some (ns.map G.int) := by
  rcases hc with rfl | rfl <;> rfl
/-- what stands ahead of the dot -/
def base (s : Str) : List Nat := (tl s).takeWhile fun c => c != 46
theorem NameN.no46 {n : Nat} {x : Str} (h : NameN n x) : ∀ c ∈ tl x, c ≠ 46 := by
  obtain ⟨c, cs, e, h1, h2, h3⟩ := h
  intro d hd
  rw [e] at hd
  rcases List.mem_cons.mp hd with rfl | hd
  · unfold Low at h1; omega
  · have := h2 d hd
    unfold Aln at this; omega
theorem takeWhile_all {p : Nat → Bool} : ∀ {l r : List Nat}, (∀ c ∈ l, p c = true) → (l ++ r).takeWhile p = l ++ r.takeWhile p
  | [], _, _ => rfl
  | c :: l, r, h => by
    rw [List.cons_append, List.takeWhile_cons_of_pos (h c List.mem_cons_self), takeWhile_all fun d hd => h d (List.mem_cons_of_mem _ hd)]
    rfl
theorem base_name {n : Nat} {x : Str} (h : NameN n x) : base x = tl x := by
  unfold base
  have := takeWhile_all (p := fun c => c != 46) (l := tl x) (r := []) fun c hc => by simpa using NameN.no46 h c hc
  simpa using this
theorem dot_tl : tl (Str.ofString ".") = [46] := by rw [tl_ofString]; decide +kernel
theorem base_dot {n : Nat} {x y : Str} (h : NameN n x) : base (x ++ Str.ofString "." ++ y) = tl x := by
  unfold base
  rw [tl_append, tl_append, dot_tl, List.append_assoc, takeWhile_all fun c hc => by simpa using NameN.no46 h c hc]
  simp
theorem tl_ext {x y : Str} (h : tl x = tl y) : x = y := by
  obtain ⟨a⟩ := x
  obtain ⟨b⟩ := y
  have : a.toList = b.toList := h
  rw [Array.toList_inj.mp this]
theorem name_tl {n : Nat} {x : Str} (h : NameN n x) : ∀ c ∈ tl x, c < 256 := by
  obtain ⟨c, cs, e, h1, h2, h3⟩ := h
  intro d hd
  rw [e] at hd
  rcases List.mem_cons.mp hd with rfl | hd
  · unfold Low at h1; omega
  · have := h2 d hd
    unfold Aln at this; omega
theorem name_pos {n : Nat} {x : Str} (h : NameN n x) : tl x ≠ [] := by
  obtain ⟨c, cs, e, h1, h2, h3⟩ := h
  rw [e]; simp
theorem E0_tl : tl E0 = [] := by rw [tl_ofString]; decide +kernel
theorem due_nl {sh : List Str} {ax : Str} {P : Str → Int} {ch : Str → List K} (h1 : sh.length ≤ 60) (h2 : ∀ s ∈ sh, (ch s).length ≤ 60) :
    depG (.tup [.str (Str.ofString "places"), plG sh P, .tup (sh.map fun s => csG ax (ch s))]) < 12 ∧ nlG (.tup [.str (Str.ofString "places"), plG sh P, .tup (sh.map fun s => csG ax (ch s))]) = true := by
  have a1 : ∀ p : List K, depGs (p.map (cG ax)) ≤ 1 := fun p => depGs_le fun g hg => by
    obtain ⟨c, _, rfl⟩ := List.mem_map.mp hg
    simp [depG, depGs]
  have a2 : ∀ p : List K, nlGs (p.map (cG ax)) = true := fun p => (nlGs_iff _).mpr fun g hg => by
    obtain ⟨c, _, rfl⟩ := List.mem_map.mp hg
    simp [nlG, nlGs]
  have b1 : depGs (sh.map fun s => G.int (P s)) ≤ 1 := depGs_le fun g hg => by
    obtain ⟨c, _, rfl⟩ := List.mem_map.mp hg
    simp [depG]
  have b2 : nlGs (sh.map fun s => G.int (P s)) = true := (nlGs_iff _).mpr fun g hg => by
    obtain ⟨c, _, rfl⟩ := List.mem_map.mp hg
    simp [nlG]
  have c1 : depGs (sh.map fun s => csG ax (ch s)) ≤ 2 := depGs_le fun g hg => by
    obtain ⟨c, _, rfl⟩ := List.mem_map.mp hg
    have := a1 (ch c)
    simp only [depG]; omega
  have c2 : nlGs (sh.map fun s => csG ax (ch s)) = true := (nlGs_iff _).mpr fun g hg => by
    obtain ⟨c, hc, rfl⟩ := List.mem_map.mp hg
    have := h2 c hc
    simp only [nlG, a2, Bool.and_true, decide_eq_true_eq, List.length_map]; omega
  constructor
  · have e1 : depG (plG sh P) ≤ 2 := by simp only [depG]; omega
    have e2 : depG (.tup (sh.map fun s => csG ax (ch s))) ≤ 3 := by simp only [depG]; omega
    have e3 : depG (.tup [.str (Str.ofString "places"), plG sh P, .tup (sh.map fun s => csG ax (ch s))]) ≤ 4 := by
      rw [depG]
      have := depGs_le (gs := [.str (Str.ofString "places"), plG sh P, .tup (sh.map fun s => csG ax (ch s))]) (n := 3) fun g hg => by
        simp only [List.mem_cons, List.not_mem_nil, or_false] at hg
        rcases hg with rfl | rfl | rfl
        · simp [depG]
        · omega
        · exact e2
      omega
    omega
  · simp only [nlG, nlGs, b2, c2, Bool.and_true, Bool.and_eq_true, decide_eq_true_eq, List.length_map, List.length_cons, List.length_nil]
    simp
    omega
theorem cyc_nl {ax : Str} {p : List K} (h1 : p.length ≤ 61) : depG (.tup [.str (Str.ofString "cycle"), csG ax p]) < 12 ∧ nlG (.tup [.str (Str.ofString "cycle"), csG ax p]) = true := by
  have a1 : depGs (p.map (cG ax)) ≤ 1 := depGs_le fun g hg => by
    obtain ⟨c, _, rfl⟩ := List.mem_map.mp hg
    simp [depG, depGs]
  have a2 : nlGs (p.map (cG ax)) = true := (nlGs_iff _).mpr fun g hg => by
    obtain ⟨c, _, rfl⟩ := List.mem_map.mp hg
    simp [nlG, nlGs]
  constructor
  · have e1 : depG (csG ax p) ≤ 2 := by simp only [depG]; omega
    have e3 : depG (.tup [.str (Str.ofString "cycle"), csG ax p]) ≤ 4 := by
      rw [depG]
      have := depGs_le (gs := [.str (Str.ofString "cycle"), csG ax p]) (n := 3) fun g hg => by
        simp only [List.mem_cons, List.not_mem_nil, or_false] at hg
        rcases hg with rfl | rfl
        · simp [depG]
        · omega
      omega
    omega
  · simp only [nlG, nlGs, a2, Bool.and_true, Bool.and_eq_true, decide_eq_true_eq, List.length_map, List.length_cons, List.length_nil]
    simp
    omega
/-- the law's part behind the drawing -/
theorem law_tail {S : Sto} {j r : Nat} {ax : Str} {sh : List Str} {cs : List K} {x0 x5 x7 x8 : Option G} {many : Int} (J : Jar S j r) (X : Ctx sh (evL sh cs)) (hc : cs.length ≤ 900) (hs : ∀ d ∈ evL sh cs, OkC ax d) (hsok : ∀ s ∈ sh, PyData.strOk s = true) (hne : sh ≠ []) {due : G} (hD : Due ax sh (evL sh cs) due) {f : FS}
    (hf : f = (sSeq (sIf (ttNot (ttV (fCall (d__law_same 12) (faCons (fCall d_place_axis (faCons (fVar 2) (faCons (fVar 6) (faCons (fVar 9) faNil)))) (faCons (fVar 10) faNil)))))
  (sRet (fK (.bl false)))
  sNil)
  (sSeq (sIf (ttNot (ttV (fCall d__law_judges_short (faCons (fVar 2) (faCons (fVar 6) (faCons (fVar 9) faNil))))))
  (sRet (fK (.bl false)))
  sNil)
  (sSeq (sIf (ttB (fOp opEq (fOp opIx (fVar 10) (fK (.int 0))) (fK (.str "cycle"))))
  (sRet (fCall d__law_judges_cycle (faCons (fVar 1) (faCons (fVar 2) (faCons (fVar 6) (faCons (fVar 9) (faCons (fOp opIx (fVar 10) (fK (.int 1))) faNil)))))))
  sNil)
  (sSeq (sSet 11 (fCall d__law_take (faCons (fVar 1) (faCons (fVar 3) faNil))))
  (sSeq (sIf (ttNot (ttV (fCall d__law_judges_chain (faCons (fVar 1) (faCons (fVar 2) (faCons (fVar 6) (faCons (fVar 9) (faCons (fOp opIx (fVar 6) (fVar 11)) (faCons (fOp opIx (fOp opIx (fVar 10) (fK (.int 1))) (fVar 11)) (faCons (fOp opIx (fOp opIx (fVar 10) (fK (.int 2))) (fVar 11)) faNil))))))))))
  (sRet (fK (.bl false)))
  sNil)
  (sSeq (sSet 12 (fCall d__law_near (faCons (fVar 1) (faCons (fVar 2) (faCons (fVar 6) (faCons (fVar 9) (faCons (fOp opIx (fOp opIx (fVar 10) (fK (.int 2))) (fVar 11)) faNil)))))))
  (sSeq (sSet 13 (fCall d__law_walk (faCons (fVar 2) (faCons (fVar 6) (faCons (fVar 9) (faCons (fVar 12) faNil))))))
  (sSeq (sIf (ttAnd (ttB (fOp opIsNot (fVar 13) (fK .non))) (ttAnd (ttB (fOp opEq (fOp opIx (fVar 13) (fK (.int 0))) (fOp opIx (fVar 13) (fK (.int 1))))) (ttB (fOp opGt (fOp opIx (fVar 13) (fK (.int 2))) (fK (.int 0))))))
  (sRet (fK (.bl false)))
  sNil)
  (sSeq (sIf (ttB (fOp opIsNot (fCall d_is_cycle (faCons (fVar 2) (faCons (fVar 6) (faCons (fVar 9) (faCons (fVar 12) faNil))))) (fK (.bl false))))
  (sRet (fK (.bl false)))
  sNil)
  (sRet (fCall d__law_judges_places (faCons (fVar 1) (faCons (fVar 2) (faCons (fVar 6) (faCons (fVar 9) (faCons (fOp opIx (fVar 10) (fK (.int 1))) faNil))))))))))))))))) :
    Fls (f [x0, some (.loc j), some (.str ax), some (.int sh.length), some (.int many), x5, some (shG sh), x7, x8, some (csG ax cs), some due, none, none, none] S) fun
      | .rt v _ => v = .bl true
      | _ => False := by
  subst hf
  have hl1 := X.l1
  have hsl : 0 < sh.length := List.length_pos_iff.mpr hne
  have hev : evL sh cs ≠ [] := by
    intro e
    have := evL_len sh cs
    rw [e] at this
    simp at this
    omega
  refine Fls.seq (Fls.si ?_)
  repeat walk_at "ev"
  refine Ev.mono (place_ok X hc) ?_
  rintro g S1 ⟨hg, U1⟩
  have := hg.unique hD
  subst this
  repeat walk_at "ev"
  have hsame : depG g < 12 ∧ nlG g = true := by
    rcases due_cases X hD with ⟨P, ch, rfl, _, _, hch⟩ | ⟨p, rfl, _, _, hpl, _⟩
    · exact due_nl (by omega) fun s hs => (hch s hs).2.2.1
    · exact cyc_nl hpl
  refine Ev.mono (same_k hsame.1 hsame.2) ?_
  rintro g' S2 ⟨rfl, rfl⟩
  refine ⟨_, rfl, ?_⟩
  repeat walk_at "c"
  walk_at "if"
  refine Ev.mono (judges_short_ok (by omega) hc hs) ?_
  rintro g' S3 ⟨rfl, U3⟩
  refine ⟨_, rfl, ?_⟩
  repeat walk_at "c"
  have J3 := (J.upto U1 (by simp) (by simp)).upto U3 (by simp) (by simp)
  rcases due_cases X hD with ⟨P, ch, rfl, hF, hP0, hch⟩ | ⟨p, rfl, hp0, hpin, hpl, hcy⟩
  · walk_at "if"
    refine ⟨fun h => ?_, fun _ => ?_⟩
    · have : Str.ofString "places" = Str.ofString "cycle" := by simpa using h
      have := congrArg tl this
      rw [tl_ofString, tl_ofString] at this
      exact absurd this (by decide)
    repeat walk_at "ev"
    refine Ev.mono (take_n J3 hsl) ?_
    rintro g' S4 ⟨k, rfl, hk, J4, U4⟩
    obtain ⟨s, hks, hsm⟩ := at_of_lt hk
    obtain ⟨hc1, hc2, hc3, hc4⟩ := hch s hsm
    have hsE : s ≠ E0 := fun e => X.ho (e ▸ hsm)
    have hpo : ∀ d ∈ ch s, OkC ax d := fun d hd => hs d (hc2 d hd)
    have hatc : (sh.map fun s => csG ax (ch s))[k]? = some (csG ax (ch s)) := by rw [List.getElem?_map, hks]; rfl
    walk_at "if"
    refine Ev.ixT (atI_nat (at_str hks)) ?_
    repeat walk_at "ev"
    refine Ev.ixT (atI_nat (at_pl hks)) ?_
    repeat walk_at "ev"
    refine Ev.ixT (atI_nat hatc) ?_
    repeat walk_at "ev"
    refine Ev.mono (judges_chain_ok J4 X hc hs (hsok s hsm) hsE hc1 (by omega) hc2 hc4 hev) ?_
    rintro g' S5 ⟨rfl, J5⟩
    refine ⟨_, rfl, ?_⟩
    repeat walk_at "c"
    refine Ev.ixT (atI_nat hatc) ?_
    repeat walk_at "ev"
    refine Ev.mono (near_ok J5 (by omega) (by omega) (by omega) hc1 hpo hs hev) ?_
    rintro g' S6 ⟨q, rfl, hq, hql, J6, U6⟩
    repeat walk_at "ev"
    refine Ev.mono (law_walk_ok (by omega) (by omega) (by omega) hq hs) ?_
    rintro g' S7 ⟨rfl, U7⟩
    have hcq := cyB_fix (p := q) hF
    have J7 := J6.upto U7 (by simp) (by simp)
    refine Fls.join (P := fun σ' S' => S' = S7 ∧ σ' = [x0, some (.loc j), some (.str ax), some (.int sh.length), some (.int many), x5, some (shG sh), x7, x8, some (csG ax cs), some (.tup [.str (Str.ofString "places"), plG sh P, .tup (sh.map fun s => csG ax (ch s))]), some (.int k), some (csG ax q), some (wkG (wkV (evL sh cs) q))]) ?_ ?_
    · refine Fls.si ?_
      rw [cyB_wk] at hcq
      cases hw : wkV (evL sh cs) q with
      | none =>
        repeat walk_at "ev"
        repeat walk_at "c"
        all_goals first | exact ⟨rfl, rfl⟩ | rfl
      | some v =>
        obtain ⟨a, b, n⟩ := v
        rw [hw] at hcq
        change Ev (ttAnd _ _ [x0, some (.loc j), some (.str ax), some (.int sh.length), some (.int many), x5, some (shG sh), x7, x8, some (csG ax cs), some (.tup [.str (Str.ofString "places"), plG sh P, .tup (sh.map fun s => csG ax (ch s))]), some (.int k), some (csG ax q), some (.tup [.str a, .str b, .int n])] S7) _
        repeat walk_at "ev"
        repeat walk_at "c"
        refine ⟨fun h => ?_, fun h => ?_⟩
        · have h : a = b := by simpa using h
          subst h
          repeat walk_at "ev"
          refine ⟨fun h => ?_, fun h => ?_⟩
          · simp [h] at hcq
          · repeat walk_at "ev"
            all_goals first | exact ⟨rfl, rfl⟩ | rfl
        · repeat walk_at "ev"
          repeat walk_at "c"
          all_goals first | exact ⟨rfl, rfl⟩ | rfl
    rintro σ' S' ⟨rfl, rfl⟩
    walk_at "if"
    refine Ev.mono (is_cycle_ok (by omega) (by omega) hq hs) ?_
    rintro g' S8 ⟨rfl, U8⟩
    rw [hcq]
    repeat walk_at "ev"
    repeat walk_at "c"
    refine Ev.mono (judges_places_ok (J7.upto U8 (by simp) (by simp)) hne X hc hP0 hF) ?_
    rintro g' S9 rfl
    rfl
  · walk_at "if"
    refine ⟨fun _ => ?_, fun h => ?_⟩
    rotate_left
    · simp at h
    repeat walk_at "ev"
    refine Ev.mono (judges_cycle_ok J3 X hc hs hp0 (by omega) hpin hcy hev) ?_
    rintro g' S4 rfl
    rfl
theorem law_true (c : C) (ns : List Int) (hl : ns.length ≤ 63) (hc : c = .ro (ns.map G.int) ∨ c = .kro (ns.map G.int)) : ∃ S', d_law [.loc 0] [c] = some (.bl true, S') := by
  have h : Ev (d_law [.loc 0] [c]) fun g _ => g = .bl true := by
    refine Ev.call rfl ?_
    unfold b_law
    repeat walk_at "ev"
    refine Ev.mono (jar_k (isGetC hc) hl) ?_
    rintro g S1 ⟨j, r, rfl, J1, _, _, _⟩
    repeat walk_at "ev"
    refine Ev.mono (take_k J1 (by decide)) ?_
    rintro g S2 ⟨v2, rfl, h20, h21, J2, U2⟩
    have hxy : tl (Str.ofString "xy") = [120, 121] := by rw [tl_ofString]; decide +kernel
    obtain ⟨cx, hcx, ecx⟩ := atI_tl (z := Str.ofString "xy") h20 (by rw [hxy]; simpa using h21)
    have hax : PyData.strOk (⟨#[cx]⟩ : Str) = true := okOf fun d hd => by
      rw [tl_one] at hd
      simp at hd
      subst hd
      rw [hxy] at hcx
      simp at hcx
      omega
    refine Ev.ixS (line_ok (by rw [len_tl, hxy]; simp)) ecx ?_
    generalize (⟨#[cx]⟩ : Str) = ax at hax ⊢
    repeat walk_at "ev"
    refine Ev.mono (take_n (n := 8) J2 (by decide)) ?_
    rintro g S3 ⟨v3, rfl, hv3, J3, U3⟩
    repeat walk_at "ev"
    refine Ev.mono (take_n (n := 15) J3 (by decide)) ?_
    rintro g S4 ⟨v4, rfl, hv4, J4, U4⟩
    repeat walk_at "ev"
    refine Fls.join (P := fun σ' S' => ∃ (size many : Nat), σ' = [some (.loc 0), some (.loc j), some (.str ax), some (.int size), some (.int many), none, none, none, none, none, none, none, none, none] ∧ 0 < size ∧ size ≤ 60 ∧ many ≤ 200 ∧ Jar S' j r) ?_ ?_
    · refine Fls.si ?_
      repeat walk_at "ev"
      refine Ev.mono (take_k J4 (by decide)) ?_
      rintro g S5 ⟨v5, rfl, _, _, J5, U5⟩
      repeat walk_at "ev"
      refine ⟨fun _ => ?_, fun _ => ?_⟩
      · repeat walk_at "ev"
        refine Ev.mono (take_n (n := 161) J5 (by decide)) ?_
        rintro g S6 ⟨v6, rfl, hv6, J6, U6⟩
        repeat walk_at "ev"
        exact ⟨60, 40 + v6, by simp, by omega, by omega, by omega, J6⟩
      · repeat walk_at "ev"
        exact ⟨1 + v3, v4, by simp, by omega, by omega, by omega, J5⟩
    rintro σ' S5 ⟨size, many, rfl, hs0, hs1, hmany, J5⟩
    repeat walk_at "ev"
    have U6 : Upto [] S5 (S5 ++ [C.lst []] ++ [C.lst []]) := (Upto.app _ _ _).trans (Upto.app _ _ _)
    have ht : (S5 ++ [C.lst []] ++ [C.lst []])[S5.length]? = some (.lst []) := by rw [List.getElem?_append_left (by simp)]; exact get_new _
    have hnm : (S5 ++ [C.lst []] ++ [C.lst []])[(S5 ++ [C.lst []]).length]? = some (.lst []) := get_new _
    have J6 := J5.upto U6 (by simp) (by simp)
    have hlen6 : (S5 ++ [C.lst []]).length = S5.length + 1 := by simp
    rw [hlen6] at hnm ⊢
    have hjl := J5.jlt
    have hrl := J5.rlt
    generalize S5 ++ [C.lst []] ++ [C.lst []] = S6 at ht hnm J6 ⊢
    refine Fls.seq (Fls.forR1 ?_)
    repeat walk_at "ev"
    refine ⟨by omega, ?_⟩
    refine Fls.mono (range_inv (Qr := fun _ _ => False) ((size : Int).toNat) (fun i σ S7 => ∃ (names sh : List Str) (x7 x8 : Option G), σ = [some (.loc 0), some (.loc j), some (.str ax), some (.int size), some (.int many), some (.loc S5.length), some (.loc (S5.length + 1)), x7, x8, none, none, none, none, none] ∧
        S7[S5.length]? = some (.lst (names.map G.str)) ∧ S7[S5.length + 1]? = some (.lst (sh.map G.str)) ∧ names.length = i ∧ sh.length = i ∧ sh.map base = names.map tl ∧ sh.Nodup ∧ (∀ s ∈ sh, PyData.strOk s = true ∧ s ≠ E0) ∧ Jar S7 j r)
      ⟨[], [], _, _, rfl, ht, hnm, rfl, rfl, rfl, List.nodup_nil, by simp, J6⟩ ?_) ?_
    · rintro i σ S7 hi ⟨names, sh, x7, x8, rfl, ht7, hn7, hli, hls, hbase, hnd, hall, J7⟩
      repeat walk_at "ev"
      refine Ev.mono (name_k J7 ht7 (by omega) (by omega) (by omega)) ?_
      rintro g S8 ⟨x, rfl, hx, hxn, J8, ht8, U8⟩
      have hn8 := U8.get (by simp; omega) hn7
      repeat walk_at "ev"
      refine Fls.join (P := fun σ' S' => ∃ s, σ' = [some (.loc 0), some (.loc j), some (.str ax), some (.int size), some (.int many), some (.loc S5.length), some (.loc (S5.length + 1)), some (.int i), some (.str s), none, none, none, none, none] ∧ base s = tl x ∧ PyData.strOk s = true ∧
        S'[S5.length]? = some (.lst ((names ++ [x]).map G.str)) ∧ S'[S5.length + 1]? = some (.lst (sh.map G.str)) ∧ Jar S' j r) ?_ ?_
      · refine Fls.si ?_
        repeat walk_at "ev"
        refine Ev.mono (take_k J8 (by decide)) ?_
        rintro g S9 ⟨v9, rfl, _, _, J9, U9⟩
        have ht9 := U9.get (by simp; omega) ht8
        have hn9 := U9.get (by simp; omega) hn8
        repeat walk_at "ev"
        refine ⟨fun _ => ?_, fun _ => ?_⟩
        · repeat walk_at "ev"
          have hxl := hx.len
          refine Ev.addS (line_ok (by rw [len_tl (Str.ofString "."), dot_tl]; simp; omega)) ?_
          repeat walk_at "ev"
          refine Ev.mono (take_n (n := 99) J9 (by decide)) ?_
          rintro g S10 ⟨v10, rfl, hv10, J10, U10⟩
          repeat walk_at "ev"
          rw [show (1 : Int) + (v10 : Int) = ((1 + v10 : Nat) : Int) by omega]
          refine Ev.strI (log_ok (by omega)) ?_
          refine Ev.addS (line_ok (by
            have := num_len (n := 1 + v10) (by omega)
            have e1 : (x ++ Str.ofString ".").length = x.length + 1 := by rw [len_tl, tl_append, dot_tl, List.length_append, ← len_tl]; rfl
            omega)) ?_
          repeat walk_at "ev"
          have hb := base_dot (y := Str.ofString (toString ((1 + v10 : Nat) : Int))) hx
          have ho : PyData.strOk (x ++ Str.ofString "." ++ Str.ofString (toString ((1 + v10 : Nat) : Int))) = true := okOf fun d hd => by
            rw [tl_append, tl_append, dot_tl] at hd
            rcases List.mem_append.mp hd with hd | hd
            · rcases List.mem_append.mp hd with hd | hd
              · exact name_tl hx d hd
              · simp at hd; omega
            · exact num_lt _ d hd
          have ht10 := U10.get (by simp; omega) ht9
          have hn10 := U10.get (by simp; omega) hn9
          first | exact ⟨_, rfl, hb, ho, ht10, hn10, J10⟩ | exact ⟨hb, ho, ht10, hn10, J10⟩
        · repeat walk_at "ev"
          first | exact ⟨_, rfl, base_name hx, hx.ok, ht9, hn9, J9⟩ | exact ⟨base_name hx, hx.ok, ht9, hn9, J9⟩
      rintro σ' S9 ⟨s, rfl, hbs, hso, ht9, hn9, J9⟩
      repeat walk_at "ev"
      refine Ev.app (n := 0) (gs := []) (y := .non) ?_
      repeat walk_at "ev"
      refine ⟨by rw [getL_lst hn9]; rfl, ?_⟩
      repeat walk_at "ev"
      refine ⟨_, hn9, by rw [List.length_map, sizeLine_eq]; omega, ?_⟩
      have Ut : Upto [S5.length + 1] S9 (List.set S9 (S5.length + 1) (C.lst (sh.map G.str ++ [.str s]))) := Upto.set (by simp) _
      refine ⟨names ++ [x], sh ++ [s], _, _, rfl, Ut.get (by simp) ht9, by rw [get_set hn9]; simp, by simp; omega, by simp; omega, by simp [hbase, hbs], ?_, ?_, J9.upto Ut (by simp; omega) (by simp; omega)⟩
      · rw [List.nodup_append]
        refine ⟨hnd, by simp, ?_⟩
        rintro a ha b hb rfl
        simp at hb
        subst hb
        have hm : base a ∈ sh.map base := List.mem_map_of_mem ha
        rw [hbase, hbs] at hm
        obtain ⟨y, hy, ey⟩ := List.mem_map.mp hm
        exact hxn ((tl_ext ey) ▸ hy)
      · intro n hn
        rcases List.mem_append.mp hn with hn | hn
        · exact hall n hn
        · simp at hn
          subst hn
          refine ⟨hso, ?_⟩
          rintro rfl
          unfold base at hbs
          rw [E0_tl] at hbs
          exact name_pos hx hbs.symm
    intro rr q
    cases rr with
    | nx σ S7 =>
      obtain ⟨names, sh, x7, x8, rfl, ht7, hn7, hli, hls, hbase, hnd, hall, J7⟩ := q
      have hl60 : sh.length ≤ 60 := by omega
      have hsize : size = sh.length := by omega
      subst hsize
      have hne : sh ≠ [] := List.length_pos_iff.mp hs0
      have hnL := getL_lst hn7
      repeat walk_at "ev"
      refine Ev.mono (cons_ok J7 hl60 hs0 hmany) ?_
      rintro g S8 ⟨cs, rfl, hin, hcl, J8, U8⟩
      have ho : E0 ∉ sh := fun hm => (hall E0 hm).2 rfl
      have X : Ctx sh (evL sh cs) := {
        ho := ho
        hN := fun c hc => by
          rcases List.mem_append.mp hc with hc | hc
          · obtain ⟨s, hs, rfl⟩ := List.mem_map.mp hc
            exact ⟨by simp [ownC, hs], by simp [ownC]⟩
          · exact ⟨(hin c hc).l, (hin c hc).e⟩
        own := fun s hs => List.mem_append_left _ (List.mem_map_of_mem hs)
        nd := hnd
        l1 := hl60
        l2 := by rw [evL_len]; omega }
      have hE0 : PyData.strOk E0 = true := by decide +kernel
      have hsN : ∀ s ∈ E0 :: sh, PyData.strOk s = true := fun s hs => by
        rcases List.mem_cons.mp hs with rfl | hs
        · exact hE0
        · exact (hall s hs).1
      have hs : ∀ d ∈ evL sh cs, OkC ax d := fun d hd => by
        refine ⟨hax, hsN _ (X.hN d hd).1, hsN _ (X.hN d hd).2, ?_⟩
        rcases List.mem_append.mp hd with hd | hd
        · obtain ⟨s, hs, rfl⟩ := List.mem_map.mp hd
          exact hE0
        · exact (hin d hd).id
      repeat walk_at "ev"
      refine Ev.mono (due_ok X (by omega)) ?_
      rintro g S9 ⟨hD, U9⟩
      refine Fls.mono (law_tail (J8.upto U9 (by simp) (by simp)) X (by omega) hs (fun s hs => (hall s hs).1) hne hD rfl) ?_
      intro rr q
      cases rr with
      | rt v S' => exact q
      | _ => exact q.elim
    | _ => exact q.elim
  obtain ⟨g, S', e, rfl⟩ := h
  exact ⟨S', e⟩
end K48
set_option Elab.async false
set_option linter.all false
set_option maxRecDepth 100000
set_option maxHeartbeats 4000000
namespace K48
open PySem L2 FL
theorem all_mk {l : PySem.W.OpenLaw} {w : World} {K : PySem.W.Frag} {h : Heap} {mg : Str → Option Value} {fa : Addr} (X : K.In h) (G : h.Ns mainGlobals mg) (hfa : mg "law" = some (.ref fa))
    {f0 : Addr} {od0 an0 : Option Addr} {sl0 : Array (Option Value)} {oc0 kV0 dc0 pm0 cd0 ct0 : Value}
    (a0 : PySem.W.nsIn K mainGlobals "own_constraints" = some (some (.ref f0))) (l0 : K.lookup f0 = some ⟨oc0, od0, .func (PySem.W.fnOf "own_constraints" "own_constraints" (defArgs (topS 2)) (defBody (topS 2)) (defScope (topS 2)) .none kV0 dc0 pm0 an0 cd0 ct0), sl0⟩) (c0 : PySem.W.codeIn K cd0 "own_constraints" = true) (k0 : PySem.W.keepIn K (.ref f0) = true)
    {f1 : Addr} {od1 an1 : Option Addr} {sl1 : Array (Option Value)} {oc1 kV1 dc1 pm1 cd1 ct1 : Value}
    (a1 : PySem.W.nsIn K mainGlobals "make_pass" = some (some (.ref f1))) (l1 : K.lookup f1 = some ⟨oc1, od1, .func (PySem.W.fnOf "make_pass" "make_pass" (defArgs (topS 4)) (defBody (topS 4)) (defScope (topS 4)) .none kV1 dc1 pm1 an1 cd1 ct1), sl1⟩) (c1 : PySem.W.codeIn K cd1 "make_pass" = true) (k1 : PySem.W.keepIn K (.ref f1) = true)
    {f2 : Addr} {od2 an2 : Option Addr} {sl2 : Array (Option Value)} {oc2 kV2 dc2 pm2 cd2 ct2 : Value}
    (a2 : PySem.W.nsIn K mainGlobals "chain_of" = some (some (.ref f2))) (l2 : K.lookup f2 = some ⟨oc2, od2, .func (PySem.W.fnOf "chain_of" "chain_of" (defArgs (topS 5)) (defBody (topS 5)) (defScope (topS 5)) .none kV2 dc2 pm2 an2 cd2 ct2), sl2⟩) (c2 : PySem.W.codeIn K cd2 "chain_of" = true) (k2 : PySem.W.keepIn K (.ref f2) = true)
    {f3 : Addr} {od3 an3 : Option Addr} {sl3 : Array (Option Value)} {oc3 kV3 dc3 pm3 cd3 ct3 : Value}
    (a3 : PySem.W.nsIn K mainGlobals "cycle_of" = some (some (.ref f3))) (l3 : K.lookup f3 = some ⟨oc3, od3, .func (PySem.W.fnOf "cycle_of" "cycle_of" (defArgs (topS 6)) (defBody (topS 6)) (defScope (topS 6)) .none kV3 dc3 pm3 an3 cd3 ct3), sl3⟩) (c3 : PySem.W.codeIn K cd3 "cycle_of" = true) (k3 : PySem.W.keepIn K (.ref f3) = true)
    {f4 : Addr} {od4 an4 : Option Addr} {sl4 : Array (Option Value)} {oc4 kV4 dc4 pm4 cd4 ct4 : Value}
    (a4 : PySem.W.nsIn K mainGlobals "is_whole" = some (some (.ref f4))) (l4 : K.lookup f4 = some ⟨oc4, od4, .func (PySem.W.fnOf "is_whole" "is_whole" (defArgs (topS 9)) (defBody (topS 9)) (defScope (topS 9)) .none kV4 dc4 pm4 an4 cd4 ct4), sl4⟩) (c4 : PySem.W.codeIn K cd4 "is_whole" = true) (k4 : PySem.W.keepIn K (.ref f4) = true)
    {f5 : Addr} {od5 an5 : Option Addr} {sl5 : Array (Option Value)} {oc5 kV5 dc5 pm5 cd5 ct5 : Value}
    (a5 : PySem.W.nsIn K mainGlobals "_law_jar" = some (some (.ref f5))) (l5 : K.lookup f5 = some ⟨oc5, od5, .func (PySem.W.fnOf "_law_jar" "_law_jar" (defArgs (topS 16)) (defBody (topS 16)) (defScope (topS 16)) .none kV5 dc5 pm5 an5 cd5 ct5), sl5⟩) (c5 : PySem.W.codeIn K cd5 "_law_jar" = true) (k5 : PySem.W.keepIn K (.ref f5) = true)
    {f6 : Addr} {od6 an6 : Option Addr} {sl6 : Array (Option Value)} {oc6 kV6 dc6 pm6 cd6 ct6 : Value}
    (a6 : PySem.W.nsIn K mainGlobals "_law_take" = some (some (.ref f6))) (l6 : K.lookup f6 = some ⟨oc6, od6, .func (PySem.W.fnOf "_law_take" "_law_take" (defArgs (topS 17)) (defBody (topS 17)) (defScope (topS 17)) .none kV6 dc6 pm6 an6 cd6 ct6), sl6⟩) (c6 : PySem.W.codeIn K cd6 "_law_take" = true) (k6 : PySem.W.keepIn K (.ref f6) = true)
    {f7 : Addr} {od7 an7 : Option Addr} {sl7 : Array (Option Value)} {oc7 kV7 dc7 pm7 cd7 ct7 : Value}
    (a7 : PySem.W.nsIn K mainGlobals "_law_every" = some (some (.ref f7))) (l7 : K.lookup f7 = some ⟨oc7, od7, .func (PySem.W.fnOf "_law_every" "_law_every" (defArgs (topS 21)) (defBody (topS 21)) (defScope (topS 21)) .none kV7 dc7 pm7 an7 cd7 ct7), sl7⟩) (c7 : PySem.W.codeIn K cd7 "_law_every" = true) (k7 : PySem.W.keepIn K (.ref f7) = true)
    {f8 : Addr} {od8 an8 : Option Addr} {sl8 : Array (Option Value)} {oc8 kV8 dc8 pm8 cd8 ct8 : Value}
    (a8 : PySem.W.nsIn K mainGlobals "_law_chain" = some (some (.ref f8))) (l8 : K.lookup f8 = some ⟨oc8, od8, .func (PySem.W.fnOf "_law_chain" "_law_chain" (defArgs (topS 22)) (defBody (topS 22)) (defScope (topS 22)) .none kV8 dc8 pm8 an8 cd8 ct8), sl8⟩) (c8 : PySem.W.codeIn K cd8 "_law_chain" = true) (k8 : PySem.W.keepIn K (.ref f8) = true)
    {f9 : Addr} {od9 an9 : Option Addr} {sl9 : Array (Option Value)} {oc9 kV9 dc9 pm9 cd9 ct9 : Value}
    (a9 : PySem.W.nsIn K mainGlobals "all_constraints" = some (some (.ref f9))) (l9 : K.lookup f9 = some ⟨oc9, od9, .func (PySem.W.fnOf "all_constraints" "all_constraints" (defArgs (topS 3)) (defBody (topS 3)) (defScope (topS 3)) .none kV9 dc9 pm9 an9 cd9 ct9), sl9⟩) (c9 : PySem.W.codeIn K cd9 "all_constraints" = true) (k9 : PySem.W.keepIn K (.ref f9) = true)
    {f10 : Addr} {od10 an10 : Option Addr} {sl10 : Array (Option Value)} {oc10 kV10 dc10 pm10 cd10 ct10 : Value}
    (a10 : PySem.W.nsIn K mainGlobals "is_among" = some (some (.ref f10))) (l10 : K.lookup f10 = some ⟨oc10, od10, .func (PySem.W.fnOf "is_among" "is_among" (defArgs (topS 10)) (defBody (topS 10)) (defScope (topS 10)) .none kV10 dc10 pm10 an10 cd10 ct10), sl10⟩) (c10 : PySem.W.codeIn K cd10 "is_among" = true) (k10 : PySem.W.keepIn K (.ref f10) = true)
    {f11 : Addr} {od11 an11 : Option Addr} {sl11 : Array (Option Value)} {oc11 kV11 dc11 pm11 cd11 ct11 : Value}
    (a11 : PySem.W.nsIn K mainGlobals "_law_name" = some (some (.ref f11))) (l11 : K.lookup f11 = some ⟨oc11, od11, .func (PySem.W.fnOf "_law_name" "_law_name" (defArgs (topS 18)) (defBody (topS 18)) (defScope (topS 18)) .none kV11 dc11 pm11 an11 cd11 ct11), sl11⟩) (c11 : PySem.W.codeIn K cd11 "_law_name" = true) (k11 : PySem.W.keepIn K (.ref f11) = true)
    {f12 : Addr} {od12 an12 : Option Addr} {sl12 : Array (Option Value)} {oc12 kV12 dc12 pm12 cd12 ct12 : Value}
    (a12 : PySem.W.nsIn K mainGlobals "_law_constraints" = some (some (.ref f12))) (l12 : K.lookup f12 = some ⟨oc12, od12, .func (PySem.W.fnOf "_law_constraints" "_law_constraints" (defArgs (topS 20)) (defBody (topS 20)) (defScope (topS 20)) .none kV12 dc12 pm12 an12 cd12 ct12), sl12⟩) (c12 : PySem.W.codeIn K cd12 "_law_constraints" = true) (k12 : PySem.W.keepIn K (.ref f12) = true)
    {f13 : Addr} {od13 an13 : Option Addr} {sl13 : Array (Option Value)} {oc13 kV13 dc13 pm13 cd13 ct13 : Value}
    (a13 : PySem.W.nsIn K mainGlobals "_law_due" = some (some (.ref f13))) (l13 : K.lookup f13 = some ⟨oc13, od13, .func (PySem.W.fnOf "_law_due" "_law_due" (defArgs (topS 23)) (defBody (topS 23)) (defScope (topS 23)) .none kV13 dc13 pm13 an13 cd13 ct13), sl13⟩) (c13 : PySem.W.codeIn K cd13 "_law_due" = true) (k13 : PySem.W.keepIn K (.ref f13) = true)
    {f14 : Addr} {od14 an14 : Option Addr} {sl14 : Array (Option Value)} {oc14 kV14 dc14 pm14 cd14 ct14 : Value}
    (a14 : PySem.W.nsIn K mainGlobals "_law_keeps" = some (some (.ref f14))) (l14 : K.lookup f14 = some ⟨oc14, od14, .func (PySem.W.fnOf "_law_keeps" "_law_keeps" (defArgs (topS 24)) (defBody (topS 24)) (defScope (topS 24)) .none kV14 dc14 pm14 an14 cd14 ct14), sl14⟩) (c14 : PySem.W.codeIn K cd14 "_law_keeps" = true) (k14 : PySem.W.keepIn K (.ref f14) = true)
    {f15 : Addr} {od15 an15 : Option Addr} {sl15 : Array (Option Value)} {oc15 kV15 dc15 pm15 cd15 ct15 : Value}
    (a15 : PySem.W.nsIn K mainGlobals "_law_walk" = some (some (.ref f15))) (l15 : K.lookup f15 = some ⟨oc15, od15, .func (PySem.W.fnOf "_law_walk" "_law_walk" (defArgs (topS 25)) (defBody (topS 25)) (defScope (topS 25)) .none kV15 dc15 pm15 an15 cd15 ct15), sl15⟩) (c15 : PySem.W.codeIn K cd15 "_law_walk" = true) (k15 : PySem.W.keepIn K (.ref f15) = true)
    {f16 : Addr} {od16 an16 : Option Addr} {sl16 : Array (Option Value)} {oc16 kV16 dc16 pm16 cd16 ct16 : Value}
    (a16 : PySem.W.nsIn K mainGlobals "_law_near" = some (some (.ref f16))) (l16 : K.lookup f16 = some ⟨oc16, od16, .func (PySem.W.fnOf "_law_near" "_law_near" (defArgs (topS 26)) (defBody (topS 26)) (defScope (topS 26)) .none kV16 dc16 pm16 an16 cd16 ct16), sl16⟩) (c16 : PySem.W.codeIn K cd16 "_law_near" = true) (k16 : PySem.W.keepIn K (.ref f16) = true)
    {f17 : Addr} {od17 an17 : Option Addr} {sl17 : Array (Option Value)} {oc17 kV17 dc17 pm17 cd17 ct17 : Value}
    (a17 : PySem.W.nsIn K mainGlobals "_law_wrong" = some (some (.ref f17))) (l17 : K.lookup f17 = some ⟨oc17, od17, .func (PySem.W.fnOf "_law_wrong" "_law_wrong" (defArgs (topS 27)) (defBody (topS 27)) (defScope (topS 27)) .none kV17 dc17 pm17 an17 cd17 ct17), sl17⟩) (c17 : PySem.W.codeIn K cd17 "_law_wrong" = true) (k17 : PySem.W.keepIn K (.ref f17) = true)
    {f18 : Addr} {od18 an18 : Option Addr} {sl18 : Array (Option Value)} {oc18 kV18 dc18 pm18 cd18 ct18 : Value}
    (a18 : PySem.W.nsIn K mainGlobals "place_axis" = some (some (.ref f18))) (l18 : K.lookup f18 = some ⟨oc18, od18, .func (PySem.W.fnOf "place_axis" "place_axis" (defArgs (topS 7)) (defBody (topS 7)) (defScope (topS 7)) .none kV18 dc18 pm18 an18 cd18 ct18), sl18⟩) (c18 : PySem.W.codeIn K cd18 "place_axis" = true) (k18 : PySem.W.keepIn K (.ref f18) = true)
    {f19 : Addr} {od19 an19 : Option Addr} {sl19 : Array (Option Value)} {oc19 kV19 dc19 pm19 cd19 ct19 : Value}
    (a19 : PySem.W.nsIn K mainGlobals "are_among" = some (some (.ref f19))) (l19 : K.lookup f19 = some ⟨oc19, od19, .func (PySem.W.fnOf "are_among" "are_among" (defArgs (topS 11)) (defBody (topS 11)) (defScope (topS 11)) .none kV19 dc19 pm19 an19 cd19 ct19), sl19⟩) (c19 : PySem.W.codeIn K cd19 "are_among" = true) (k19 : PySem.W.keepIn K (.ref f19) = true)
    {f20 : Addr} {od20 an20 : Option Addr} {sl20 : Array (Option Value)} {oc20 kV20 dc20 pm20 cd20 ct20 : Value}
    (a20 : PySem.W.nsIn K mainGlobals "is_places" = some (some (.ref f20))) (l20 : K.lookup f20 = some ⟨oc20, od20, .func (PySem.W.fnOf "is_places" "is_places" (defArgs (topS 12)) (defBody (topS 12)) (defScope (topS 12)) .none kV20 dc20 pm20 an20 cd20 ct20), sl20⟩) (c20 : PySem.W.codeIn K cd20 "is_places" = true) (k20 : PySem.W.keepIn K (.ref f20) = true)
    {f21 : Addr} {od21 an21 : Option Addr} {sl21 : Array (Option Value)} {oc21 kV21 dc21 pm21 cd21 ct21 : Value}
    (a21 : PySem.W.nsIn K mainGlobals "is_chain" = some (some (.ref f21))) (l21 : K.lookup f21 = some ⟨oc21, od21, .func (PySem.W.fnOf "is_chain" "is_chain" (defArgs (topS 13)) (defBody (topS 13)) (defScope (topS 13)) .none kV21 dc21 pm21 an21 cd21 ct21), sl21⟩) (c21 : PySem.W.codeIn K cd21 "is_chain" = true) (k21 : PySem.W.keepIn K (.ref f21) = true)
    {f22 : Addr} {od22 an22 : Option Addr} {sl22 : Array (Option Value)} {oc22 kV22 dc22 pm22 cd22 ct22 : Value}
    (a22 : PySem.W.nsIn K mainGlobals "is_cycle" = some (some (.ref f22))) (l22 : K.lookup f22 = some ⟨oc22, od22, .func (PySem.W.fnOf "is_cycle" "is_cycle" (defArgs (topS 14)) (defBody (topS 14)) (defScope (topS 14)) .none kV22 dc22 pm22 an22 cd22 ct22), sl22⟩) (c22 : PySem.W.codeIn K cd22 "is_cycle" = true) (k22 : PySem.W.keepIn K (.ref f22) = true)
    {f23 : Addr} {od23 an23 : Option Addr} {sl23 : Array (Option Value)} {oc23 kV23 dc23 pm23 cd23 ct23 : Value}
    (a23 : PySem.W.nsIn K mainGlobals "_law_same" = some (some (.ref f23))) (l23 : K.lookup f23 = some ⟨oc23, od23, .func (PySem.W.fnOf "_law_same" "_law_same" (defArgs (topS 19)) (defBody (topS 19)) (defScope (topS 19)) .none kV23 dc23 pm23 an23 cd23 ct23), sl23⟩) (c23 : PySem.W.codeIn K cd23 "_law_same" = true) (k23 : PySem.W.keepIn K (.ref f23) = true)
    {f24 : Addr} {od24 an24 : Option Addr} {sl24 : Array (Option Value)} {oc24 kV24 dc24 pm24 cd24 ct24 : Value}
    (a24 : PySem.W.nsIn K mainGlobals "_law_judges_chain" = some (some (.ref f24))) (l24 : K.lookup f24 = some ⟨oc24, od24, .func (PySem.W.fnOf "_law_judges_chain" "_law_judges_chain" (defArgs (topS 28)) (defBody (topS 28)) (defScope (topS 28)) .none kV24 dc24 pm24 an24 cd24 ct24), sl24⟩) (c24 : PySem.W.codeIn K cd24 "_law_judges_chain" = true) (k24 : PySem.W.keepIn K (.ref f24) = true)
    {f25 : Addr} {od25 an25 : Option Addr} {sl25 : Array (Option Value)} {oc25 kV25 dc25 pm25 cd25 ct25 : Value}
    (a25 : PySem.W.nsIn K mainGlobals "_law_judges_places" = some (some (.ref f25))) (l25 : K.lookup f25 = some ⟨oc25, od25, .func (PySem.W.fnOf "_law_judges_places" "_law_judges_places" (defArgs (topS 29)) (defBody (topS 29)) (defScope (topS 29)) .none kV25 dc25 pm25 an25 cd25 ct25), sl25⟩) (c25 : PySem.W.codeIn K cd25 "_law_judges_places" = true) (k25 : PySem.W.keepIn K (.ref f25) = true)
    {f26 : Addr} {od26 an26 : Option Addr} {sl26 : Array (Option Value)} {oc26 kV26 dc26 pm26 cd26 ct26 : Value}
    (a26 : PySem.W.nsIn K mainGlobals "_law_judges_cycle" = some (some (.ref f26))) (l26 : K.lookup f26 = some ⟨oc26, od26, .func (PySem.W.fnOf "_law_judges_cycle" "_law_judges_cycle" (defArgs (topS 30)) (defBody (topS 30)) (defScope (topS 30)) .none kV26 dc26 pm26 an26 cd26 ct26), sl26⟩) (c26 : PySem.W.codeIn K cd26 "_law_judges_cycle" = true) (k26 : PySem.W.keepIn K (.ref f26) = true)
    {f27 : Addr} {od27 an27 : Option Addr} {sl27 : Array (Option Value)} {oc27 kV27 dc27 pm27 cd27 ct27 : Value}
    (a27 : PySem.W.nsIn K mainGlobals "_law_judges_short" = some (some (.ref f27))) (l27 : K.lookup f27 = some ⟨oc27, od27, .func (PySem.W.fnOf "_law_judges_short" "_law_judges_short" (defArgs (topS 31)) (defBody (topS 31)) (defScope (topS 31)) .none kV27 dc27 pm27 an27 cd27 ct27), sl27⟩) (c27 : PySem.W.codeIn K cd27 "_law_judges_short" = true) (k27 : PySem.W.keepIn K (.ref f27) = true)
    {f28 : Addr} {od28 an28 : Option Addr} {sl28 : Array (Option Value)} {oc28 kV28 dc28 pm28 cd28 ct28 : Value}
    (a28 : PySem.W.nsIn K mainGlobals "law" = some (some (.ref f28))) (l28 : K.lookup f28 = some ⟨oc28, od28, .func (PySem.W.fnOf "law" "law" (defArgs (topS 32)) (defBody (topS 32)) (defScope (topS 32)) .none kV28 dc28 pm28 an28 cd28 ct28), sl28⟩) (c28 : PySem.W.codeIn K cd28 "law" = true) (k28 : PySem.W.keepIn K (.ref f28) = true)
    (z0 : PySem.W.nsIn K mainGlobals "abs" = some none)
    (z1 : PySem.W.nsIn K mainGlobals "bool" = some none)
    (z2 : PySem.W.nsIn K mainGlobals "int" = some none)
    (z3 : PySem.W.nsIn K mainGlobals "isinstance" = some none)
    (z4 : PySem.W.nsIn K mainGlobals "len" = some none)
    (z5 : PySem.W.nsIn K mainGlobals "list" = some none)
    (z6 : PySem.W.nsIn K mainGlobals "min" = some none)
    (z7 : PySem.W.nsIn K mainGlobals "range" = some none)
    (z8 : PySem.W.nsIn K mainGlobals "str" = some none)
    (z9 : PySem.W.nsIn K mainGlobals "tuple" = some none)
    {t0 : Tok} (y0 : PySem.W.nsIn K mainGlobals "ORIGIN" = some (some (.str "" t0)))
    : ∃ fd : FuncData, (∀ (s : Shared) (v : Value), BindsTo s fd ⟨[v], []⟩ [("script", v)]) ∧ ∀ base : Heap, K.In base → base.Ns mainGlobals mg → FnOk l.prog w K mg base CX0 14 fa fd ["script"] (spG K 1 d_law) := by
  have e := hfa.symm.trans (PySem.W.mg_of X G a28)
  cases e
  have F0 := fun_mk (st := topS 2) l0 c0 k0
  have F1 := fun_mk (st := topS 4) l1 c1 k1
  have F2 := fun_mk (st := topS 5) l2 c2 k2
  have F3 := fun_mk (st := topS 6) l3 c3 k3
  have F4 := fun_mk (st := topS 9) l4 c4 k4
  have F5 := fun_mk (st := topS 16) l5 c5 k5
  have F6 := fun_mk (st := topS 17) l6 c6 k6
  have F7 := fun_mk (st := topS 21) l7 c7 k7
  have F8 := fun_mk (st := topS 22) l8 c8 k8
  have F9 := fun_mk (st := topS 3) l9 c9 k9
  have F10 := fun_mk (st := topS 10) l10 c10 k10
  have F11 := fun_mk (st := topS 18) l11 c11 k11
  have F12 := fun_mk (st := topS 20) l12 c12 k12
  have F13 := fun_mk (st := topS 23) l13 c13 k13
  have F14 := fun_mk (st := topS 24) l14 c14 k14
  have F15 := fun_mk (st := topS 25) l15 c15 k15
  have F16 := fun_mk (st := topS 26) l16 c16 k16
  have F17 := fun_mk (st := topS 27) l17 c17 k17
  have F18 := fun_mk (st := topS 7) l18 c18 k18
  have F19 := fun_mk (st := topS 11) l19 c19 k19
  have F20 := fun_mk (st := topS 12) l20 c20 k20
  have F21 := fun_mk (st := topS 13) l21 c21 k21
  have F22 := fun_mk (st := topS 14) l22 c22 k22
  have F23 := fun_mk (st := topS 19) l23 c23 k23
  have F24 := fun_mk (st := topS 28) l24 c24 k24
  have F25 := fun_mk (st := topS 29) l25 c25 k25
  have F26 := fun_mk (st := topS 30) l26 c26 k26
  have F27 := fun_mk (st := topS 31) l27 c27 k27
  have F28 := fun_mk (st := topS 32) l28 c28 k28
  have B : Blt mg := ⟨PySem.W.mg_none_of X G z0, PySem.W.mg_none_of X G z1, PySem.W.mg_none_of X G z2, PySem.W.mg_none_of X G z3, PySem.W.mg_none_of X G z4, PySem.W.mg_none_of X G z5, PySem.W.mg_none_of X G z6, PySem.W.mg_none_of X G z7, PySem.W.mg_none_of X G z8, PySem.W.mg_none_of X G z9⟩
  have c_ORIGIN : GlobG mg "ORIGIN" (.str "") := ⟨.str "", _, PySem.W.mg_of X G y0, ⟨_, rfl⟩, .str _⟩
  refine ⟨PySem.W.fnOf "law" "law" (defArgs (topS 32)) (defBody (topS 32)) (defScope (topS 32)) .none kV28 dc28 pm28 an28 cd28 ct28, fun s v => .of_eq rfl, fun base _ _ => ?_⟩
  have D_own_constraints := ok_own_constraints (P := l.prog) (w := w) (base := base) c_ORIGIN B F0 (PySem.W.mg_of X G a0)
  have D_make_pass := ok_make_pass (P := l.prog) (w := w) (base := base) B F1 (PySem.W.mg_of X G a1)
  have D_chain_of := ok_chain_of (P := l.prog) (w := w) (base := base) c_ORIGIN B F2 (PySem.W.mg_of X G a2)
  have D_cycle_of := ok_cycle_of (P := l.prog) (w := w) (base := base) B F3 (PySem.W.mg_of X G a3)
  have D_is_whole := ok_is_whole (P := l.prog) (w := w) (base := base) B F4 (PySem.W.mg_of X G a4)
  have D__law_jar := ok__law_jar (P := l.prog) (w := w) (base := base) B F5 (PySem.W.mg_of X G a5)
  have D__law_take := ok__law_take (P := l.prog) (w := w) (base := base) B F6 (PySem.W.mg_of X G a6)
  have D__law_every := ok__law_every (P := l.prog) (w := w) (base := base) B F7 (PySem.W.mg_of X G a7)
  have D__law_chain := ok__law_chain (P := l.prog) (w := w) (base := base) B F8 (PySem.W.mg_of X G a8)
  have D_all_constraints := ok_all_constraints (P := l.prog) (w := w) (base := base) (D_own_constraints.mono (by decide)) B F9 (PySem.W.mg_of X G a9)
  have D_is_among := ok_is_among (P := l.prog) (w := w) (base := base) (D_is_whole.mono (by decide)) B F10 (PySem.W.mg_of X G a10)
  have D__law_name := ok__law_name (P := l.prog) (w := w) (base := base) (D__law_take.mono (by decide)) B F11 (PySem.W.mg_of X G a11)
  have D__law_constraints := ok__law_constraints (P := l.prog) (w := w) (base := base) (D__law_take.mono (by decide)) B F12 (PySem.W.mg_of X G a12)
  have D__law_due := ok__law_due (P := l.prog) (w := w) (base := base) (D__law_chain.mono (by decide)) (D__law_every.mono (by decide)) B F13 (PySem.W.mg_of X G a13)
  have D__law_keeps := ok__law_keeps (P := l.prog) (w := w) (base := base) (D__law_every.mono (by decide)) B F14 (PySem.W.mg_of X G a14)
  have D__law_walk := ok__law_walk (P := l.prog) (w := w) (base := base) (D__law_every.mono (by decide)) B F15 (PySem.W.mg_of X G a15)
  have D__law_near := ok__law_near (P := l.prog) (w := w) (base := base) (D__law_every.mono (by decide)) (D__law_take.mono (by decide)) B F16 (PySem.W.mg_of X G a16)
  have D__law_wrong := ok__law_wrong (P := l.prog) (w := w) (base := base) (D__law_take.mono (by decide)) B F17 (PySem.W.mg_of X G a17)
  have D_place_axis := ok_place_axis (P := l.prog) (w := w) (base := base) c_ORIGIN (D_all_constraints.mono (by decide)) (D_chain_of.mono (by decide)) (D_cycle_of.mono (by decide)) (D_make_pass.mono (by decide)) (D_own_constraints.mono (by decide)) B F18 (PySem.W.mg_of X G a18)
  have D_are_among := ok_are_among (P := l.prog) (w := w) (base := base) (D_is_among.mono (by decide)) B F19 (PySem.W.mg_of X G a19)
  have D_is_places := ok_is_places (P := l.prog) (w := w) (base := base) c_ORIGIN (D_all_constraints.mono (by decide)) (D_is_whole.mono (by decide)) B F20 (PySem.W.mg_of X G a20)
  have D_is_chain := ok_is_chain (P := l.prog) (w := w) (base := base) c_ORIGIN (D_all_constraints.mono (by decide)) (D_are_among.mono (by decide)) B F21 (PySem.W.mg_of X G a21)
  have D_is_cycle := ok_is_cycle (P := l.prog) (w := w) (base := base) (D_all_constraints.mono (by decide)) (D_are_among.mono (by decide)) B F22 (PySem.W.mg_of X G a22)
  have D__law_same := ok__law_same (P := l.prog) (w := w) (base := base) B F23 (PySem.W.mg_of X G a23) 12
  have D__law_judges_chain := ok__law_judges_chain (P := l.prog) (w := w) (base := base) (D__law_near.mono (by decide)) (D__law_same.mono (by decide)) (D__law_walk.mono (by decide)) (D__law_wrong.mono (by decide)) (D_is_chain.mono (by decide)) B F24 (PySem.W.mg_of X G a24)
  have D__law_judges_places := ok__law_judges_places (P := l.prog) (w := w) (base := base) (D__law_keeps.mono (by decide)) (D__law_same.mono (by decide)) (D__law_take.mono (by decide)) (D_is_places.mono (by decide)) B F25 (PySem.W.mg_of X G a25)
  have D__law_judges_cycle := ok__law_judges_cycle (P := l.prog) (w := w) (base := base) (D__law_near.mono (by decide)) (D__law_same.mono (by decide)) (D__law_walk.mono (by decide)) (D__law_wrong.mono (by decide)) (D_is_cycle.mono (by decide)) (D_is_places.mono (by decide)) B F26 (PySem.W.mg_of X G a26)
  have D__law_judges_short := ok__law_judges_short (P := l.prog) (w := w) (base := base) (D__law_every.mono (by decide)) (D__law_same.mono (by decide)) (D_is_cycle.mono (by decide)) B F27 (PySem.W.mg_of X G a27)
  exact ok_law (P := l.prog) (w := w) (base := base) (D__law_constraints.mono (by decide)) (D__law_due.mono (by decide)) (D__law_jar.mono (by decide)) (D__law_judges_chain.mono (by decide)) (D__law_judges_cycle.mono (by decide)) (D__law_judges_places.mono (by decide)) (D__law_judges_short.mono (by decide)) (D__law_name.mono (by decide)) (D__law_near.mono (by decide)) (D__law_same.mono (by decide)) (D__law_take.mono (by decide)) (D__law_walk.mono (by decide)) (D_is_cycle.mono (by decide)) (D_place_axis.mono (by decide)) B F28
end K48
open PySem PySem.W PyProof.Rows
set_option maxHeartbeats 0 in
theorem PySem.Challenge.cw_lectern_k48_places_exactly_holds : PySem.Challenge.rw_lectern_k48_places_exactly.Holds := by
  w_on; o_law; k_head; (case hw => w_witness2)
  k_fill
  refine L2.walk_of (l := PySem.Challenge.rw_lectern_k48_places_exactly) (n := 63) (k := 14) (x := "script") (CX := fun _ => L2.CX0) (sp := fun w => FL.spG _ 1 K48.d_law) rfl (by decide) rfl ⟨rfl, by decide, by decide⟩ (fun w h Y => PySem.W.kIn_of Y) ?F (fun _ _ a ns hl _ hS => FL.sp_end hS fun c hc => K48.law_true c ns hl hc) (fun _ _ _ _ _ h => h)
  case F =>
    intro w mg fa h KX G hmg
    refine' K48.all_mk KX G hmg ?a0 ?l0 ?c0 ?k0 ?a1 ?l1 ?c1 ?k1 ?a2 ?l2 ?c2 ?k2 ?a3 ?l3 ?c3 ?k3 ?a4 ?l4 ?c4 ?k4 ?a5 ?l5 ?c5 ?k5 ?a6 ?l6 ?c6 ?k6 ?a7 ?l7 ?c7 ?k7 ?a8 ?l8 ?c8 ?k8 ?a9 ?l9 ?c9 ?k9 ?a10 ?l10 ?c10 ?k10 ?a11 ?l11 ?c11 ?k11 ?a12 ?l12 ?c12 ?k12 ?a13 ?l13 ?c13 ?k13 ?a14 ?l14 ?c14 ?k14 ?a15 ?l15 ?c15 ?k15 ?a16 ?l16 ?c16 ?k16 ?a17 ?l17 ?c17 ?k17 ?a18 ?l18 ?c18 ?k18 ?a19 ?l19 ?c19 ?k19 ?a20 ?l20 ?c20 ?k20 ?a21 ?l21 ?c21 ?k21 ?a22 ?l22 ?c22 ?k22 ?a23 ?l23 ?c23 ?k23 ?a24 ?l24 ?c24 ?k24 ?a25 ?l25 ?c25 ?k25 ?a26 ?l26 ?c26 ?k26 ?a27 ?l27 ?c27 ?k27 ?a28 ?l28 ?c28 ?k28 ?z0 ?z1 ?z2 ?z3 ?z4 ?z5 ?z6 ?z7 ?z8 ?z9 ?y0
    (case a0 => k_is); (case l0 => k_is); (case c0 => k_is); (case k0 => k_is); (case a1 => k_is); (case l1 => k_is); (case c1 => k_is); (case k1 => k_is); (case a2 => k_is); (case l2 => k_is); (case c2 => k_is); (case k2 => k_is); (case a3 => k_is); (case l3 => k_is); (case c3 => k_is); (case k3 => k_is); (case a4 => k_is); (case l4 => k_is); (case c4 => k_is); (case k4 => k_is); (case a5 => k_is); (case l5 => k_is); (case c5 => k_is); (case k5 => k_is); (case a6 => k_is); (case l6 => k_is); (case c6 => k_is); (case k6 => k_is); (case a7 => k_is); (case l7 => k_is); (case c7 => k_is); (case k7 => k_is); (case a8 => k_is); (case l8 => k_is); (case c8 => k_is); (case k8 => k_is); (case a9 => k_is); (case l9 => k_is); (case c9 => k_is); (case k9 => k_is); (case a10 => k_is); (case l10 => k_is); (case c10 => k_is); (case k10 => k_is); (case a11 => k_is); (case l11 => k_is); (case c11 => k_is); (case k11 => k_is); (case a12 => k_is); (case l12 => k_is); (case c12 => k_is); (case k12 => k_is); (case a13 => k_is); (case l13 => k_is); (case c13 => k_is); (case k13 => k_is); (case a14 => k_is); (case l14 => k_is); (case c14 => k_is); (case k14 => k_is); (case a15 => k_is); (case l15 => k_is); (case c15 => k_is); (case k15 => k_is); (case a16 => k_is); (case l16 => k_is); (case c16 => k_is); (case k16 => k_is); (case a17 => k_is); (case l17 => k_is); (case c17 => k_is); (case k17 => k_is); (case a18 => k_is); (case l18 => k_is); (case c18 => k_is); (case k18 => k_is); (case a19 => k_is); (case l19 => k_is); (case c19 => k_is); (case k19 => k_is); (case a20 => k_is); (case l20 => k_is); (case c20 => k_is); (case k20 => k_is); (case a21 => k_is); (case l21 => k_is); (case c21 => k_is); (case k21 => k_is); (case a22 => k_is); (case l22 => k_is); (case c22 => k_is); (case k22 => k_is); (case a23 => k_is); (case l23 => k_is); (case c23 => k_is); (case k23 => k_is); (case a24 => k_is); (case l24 => k_is); (case c24 => k_is); (case k24 => k_is); (case a25 => k_is); (case l25 => k_is); (case c25 => k_is); (case k25 => k_is); (case a26 => k_is); (case l26 => k_is); (case c26 => k_is); (case k26 => k_is); (case a27 => k_is); (case l27 => k_is); (case c27 => k_is); (case k27 => k_is); (case a28 => k_is); (case l28 => k_is); (case c28 => k_is); (case k28 => k_is); (case z0 => k_is); (case z1 => k_is); (case z2 => k_is); (case z3 => k_is); (case z4 => k_is); (case z5 => k_is); (case z6 => k_is); (case z7 => k_is); (case z8 => k_is); (case z9 => k_is); (case y0 => k_is)
