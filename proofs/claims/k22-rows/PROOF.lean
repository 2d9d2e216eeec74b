import PyProof.Rows.All
import Wide.All
import OpenK.AllK
import Wide.FinOn
import HandS.ForMost
import HandS.TupAny
import HandS.TupMul
import HandS.Wide
import HandS.IsInst
import HandS.Deep
import HandS.More
import KE.KUnpackStar
import HandS.NoneIn
import HandS.HeadHook3
import HandS.EndTab
import HandS.Ends
import PySem.Challenge.RW_tiehours_k22_plans_compiled
set_option Elab.async false
set_option linter.all false
set_option maxRecDepth 100000
set_option maxHeartbeats 4000000
/-! S0: pure values, a pure store, results; worlds; how they lie in the abstract heap. -/
namespace SL
open PySem PySem.Spec PyProof.Rows L2

/-- a value: tuples, lists that never change (lst; fro: only read), objects of the store (ref) -/
inductive D where
  | non | bl (b : Bool) | int (i : Int) | str (x : Str) | tup (l : List D) | lst (l : List D) | fro (l : List D) | ref (n : Nat)
  deriving Inhabited
/-- an object that may change -/
inductive O where
  | dead | lst (l : List D) | dk (kvs : List (Key × D)) | dt (kvs : List (List Key × D)) | ins (c : Str) (fs : List (Str × D))
  deriving Inhabited
abbrev Store := List O
/-- what a computation comes to -/
inductive R (α : Type) where
  | ok (a : α) (S : Store) | exc (c : Str) (fs : List (Str × D)) (S : Store) | bad
abbrev M (α : Type) := Store → R α
def R.bind {α β : Type} (r : R α) (f : α → M β) : R β := match r with
  | .ok a S => f a S
  | .exc c fs S => .exc c fs S
  | .bad => .bad
def M.bind {α β : Type} (m : M α) (f : α → M β) : M β := fun S => (m S).bind f
def M.ret {α : Type} (a : α) : M α := fun S => .ok a S
def M.bad {α : Type} : M α := fun _ => .bad
instance : Monad M where
  pure := M.ret
  bind := M.bind
abbrev Env' := List (Option D)
abbrev ET := Env' → M D
inductive Fl where
  | nx (ρ : Env') | rt (d : D) | bk (ρ : Env') | ct (ρ : Env')
abbrev ST := Env' → M Fl

/-- a world: where the store's objects lie, what never changes, what is guarded -/
structure Wd where
  φ : Nat → Option Addr
  F : Hp
  G : Hp

section
variable (K : PySem.W.Frag)
mutual
def Rp (W : Wd) : D → V → Prop
  | .non, v => v = .non
  | .bl b, v => v = .bl b
  | .int i, v => v = .int i
  | .str x, v => v = .str x
  | .tup ds, v => ∃ a xs, v = .ref a ∧ W.F a = some (.tup xs) ∧ RpL W ds xs
  | .lst ds, v => ∃ a xs, v = .ref a ∧ W.F a = some (.lst xs) ∧ RpL W ds xs
  | .fro ds, v => ∃ a xs, v = .ref a ∧ SqL K W.F a xs ∧ RpL W ds xs
  | .ref n, v => ∃ a, v = .ref a ∧ W.φ n = some a
def RpL (W : Wd) : List D → List V → Prop
  | [], vs => vs = []
  | d :: ds, vs => ∃ x xs, vs = x :: xs ∧ Rp W d x ∧ RpL W ds xs
end
end

structure Ext (W W' : Wd) : Prop where
  F : ∀ a o, W.F a = some o → W'.F a = some o
  φ : ∀ n a, W.φ n = some a → W'.φ n = some a
theorem Ext.refl (W : Wd) : Ext W W := ⟨fun _ _ h => h, fun _ _ h => h⟩
theorem Ext.trans {W W1 W2 : Wd} (a : Ext W W1) (b : Ext W1 W2) : Ext W W2 := ⟨fun x o h => b.F x o (a.F x o h), fun n x h => b.φ n x (a.φ n x h)⟩
theorem Same.seqT {K : PySem.W.Frag} {H H' : Hp} {a : Addr} {xs : List V} (e : ∀ b o, H b = some o → H' b = some o) (h : SqT K H a xs) : SqT K H' a xs := by
  rcases h with (h | ⟨o, h⟩) | h
  · exact .inl (.inl (e _ _ h))
  · exact .inl (.inr ⟨o, e _ _ h⟩)
  · exact .inr h
theorem Same.seqL {K : PySem.W.Frag} {H H' : Hp} {a : Addr} {xs : List V} (e : ∀ b o, H b = some o → H' b = some o) (h : SqL K H a xs) : SqL K H' a xs := by
  rcases h with (h | ⟨o, h⟩) | h
  · exact .inl (.inl (e _ _ h))
  · exact .inl (.inr ⟨o, e _ _ h⟩)
  · exact .inr h
section
variable {K : PySem.W.Frag}
mutual
theorem Rp.mono {W W' : Wd} (x : Ext W W') : ∀ (d : D) (v : V), Rp K W d v → Rp K W' d v
  | .non, v, h => by simpa [Rp] using h
  | .bl b, v, h => by simpa [Rp] using h
  | .int i, v, h => by simpa [Rp] using h
  | .str i, v, h => by simpa [Rp] using h
  | .tup ds, v, h => by
    obtain ⟨a, xs, e, s, r⟩ := (show ∃ a xs, v = .ref a ∧ W.F a = some (.tup xs) ∧ RpL K W ds xs by simpa [Rp] using h)
    have : ∃ a xs, v = .ref a ∧ W'.F a = some (.tup xs) ∧ RpL K W' ds xs := ⟨a, xs, e, x.F _ _ s, RpL.mono x ds xs r⟩
    simpa [Rp] using this
  | .lst ds, v, h => by
    obtain ⟨a, xs, e, s, r⟩ := (show ∃ a xs, v = .ref a ∧ W.F a = some (.lst xs) ∧ RpL K W ds xs by simpa [Rp] using h)
    have : ∃ a xs, v = .ref a ∧ W'.F a = some (.lst xs) ∧ RpL K W' ds xs := ⟨a, xs, e, x.F _ _ s, RpL.mono x ds xs r⟩
    simpa [Rp] using this
  | .fro ds, v, h => by
    obtain ⟨a, xs, e, s, r⟩ := (show ∃ a xs, v = .ref a ∧ SqL K W.F a xs ∧ RpL K W ds xs by simpa [Rp] using h)
    have : ∃ a xs, v = .ref a ∧ SqL K W'.F a xs ∧ RpL K W' ds xs := ⟨a, xs, e, Same.seqL x.F s, RpL.mono x ds xs r⟩
    simpa [Rp] using this
  | .ref n, v, h => by
    obtain ⟨a, e, s⟩ := (show ∃ a, v = .ref a ∧ W.φ n = some a by simpa [Rp] using h)
    have : ∃ a, v = .ref a ∧ W'.φ n = some a := ⟨a, e, x.φ _ _ s⟩
    simpa [Rp] using this
theorem RpL.mono {W W' : Wd} (x : Ext W W') : ∀ (ds : List D) (vs : List V), RpL K W ds vs → RpL K W' ds vs
  | [], vs, h => by simpa [RpL] using h
  | d :: ds, vs, h => by
    obtain ⟨y, ys, e, s, r⟩ := (show ∃ x xs, vs = x :: xs ∧ Rp K W d x ∧ RpL K W ds xs by simpa [RpL] using h)
    have : ∃ x xs, vs = x :: xs ∧ Rp K W' d x ∧ RpL K W' ds xs := ⟨y, ys, e, Rp.mono x d y s, RpL.mono x ds ys r⟩
    simpa [RpL] using this
end
end
section
variable {K : PySem.W.Frag} {W W' : Wd}
theorem rp_non {v : V} : Rp K W .non v ↔ v = .non := by simp [Rp]
theorem rp_bl {b : Bool} {v : V} : Rp K W (.bl b) v ↔ v = .bl b := by simp [Rp]
theorem rp_int {b : Int} {v : V} : Rp K W (.int b) v ↔ v = .int b := by simp [Rp]
theorem rp_str {b : Str} {v : V} : Rp K W (.str b) v ↔ v = .str b := by simp [Rp]
theorem rp_tup {ds : List D} {v : V} : Rp K W (.tup ds) v ↔ ∃ a xs, v = .ref a ∧ W.F a = some (.tup xs) ∧ RpL K W ds xs := by simp [Rp]
theorem rp_lst {ds : List D} {v : V} : Rp K W (.lst ds) v ↔ ∃ a xs, v = .ref a ∧ W.F a = some (.lst xs) ∧ RpL K W ds xs := by simp [Rp]
theorem rp_fro {ds : List D} {v : V} : Rp K W (.fro ds) v ↔ ∃ a xs, v = .ref a ∧ SqL K W.F a xs ∧ RpL K W ds xs := by simp [Rp]
theorem rp_ref {n : Nat} {v : V} : Rp K W (.ref n) v ↔ ∃ a, v = .ref a ∧ W.φ n = some a := by simp [Rp]
theorem rpl_nil {vs : List V} : RpL K W [] vs ↔ vs = [] := by simp [RpL]
theorem rpl_cons {d : D} {ds : List D} {vs : List V} : RpL K W (d :: ds) vs ↔ ∃ x xs, vs = x :: xs ∧ Rp K W d x ∧ RpL K W ds xs := by simp [RpL]
theorem RpL.nil : RpL K W [] [] := by simp [RpL]
theorem RpL.cons {d : D} {ds : List D} {v : V} {vs : List V} (h : Rp K W d v) (t : RpL K W ds vs) : RpL K W (d :: ds) (v :: vs) := rpl_cons.mpr ⟨v, vs, rfl, h, t⟩
theorem RpL.uncons {d : D} {ds : List D} {v : V} {vs : List V} (h : RpL K W (d :: ds) (v :: vs)) : Rp K W d v ∧ RpL K W ds vs := by
  obtain ⟨x, xs, e, h1, h2⟩ := rpl_cons.mp h
  cases e
  exact ⟨h1, h2⟩
theorem RpL.length : ∀ {ds : List D} {vs : List V}, RpL K W ds vs → ds.length = vs.length
  | [], _, h => by rw [rpl_nil.mp h]; rfl
  | d :: ds, _, h => by
    obtain ⟨x, xs, rfl, _, t⟩ := rpl_cons.mp h
    simp [RpL.length t]
theorem RpL.get : ∀ {ds : List D} {vs : List V} {i : Nat} {d : D}, RpL K W ds vs → ds[i]? = some d → ∃ v, vs[i]? = some v ∧ Rp K W d v
  | [], _, _, _, _, e => by simp at e
  | d :: ds, _, 0, y, h, e => by
    obtain ⟨x, xs, rfl, h1, _⟩ := rpl_cons.mp h
    have e' : d = y := by simpa using e
    subst e'
    exact ⟨x, rfl, h1⟩
  | d :: ds, _, i + 1, y, h, e => by
    obtain ⟨x, xs, rfl, _, t⟩ := rpl_cons.mp h
    obtain ⟨v, h1, h2⟩ := RpL.get t (i := i) (by simpa using e)
    exact ⟨v, by simpa using h1, h2⟩
theorem RpL.append : ∀ {ds es : List D} {vs us : List V}, RpL K W ds vs → RpL K W es us → RpL K W (ds ++ es) (vs ++ us)
  | [], _, _, _, h, t => by rw [rpl_nil.mp h]; exact t
  | d :: ds, es, _, us, h, t => by
    obtain ⟨x, xs, rfl, h1, h2⟩ := rpl_cons.mp h
    exact .cons h1 (RpL.append h2 t)
theorem RpL.drop : ∀ {ds : List D} {vs : List V} (n : Nat), RpL K W ds vs → RpL K W (ds.drop n) (vs.drop n)
  | _, _, 0, h => by simpa using h
  | [], _, n + 1, h => by rw [rpl_nil.mp h]; simpa using RpL.nil
  | d :: ds, _, n + 1, h => by
    obtain ⟨x, xs, rfl, _, t⟩ := rpl_cons.mp h
    simpa using RpL.drop n t
theorem RpL.take : ∀ {ds : List D} {vs : List V} (n : Nat), RpL K W ds vs → RpL K W (ds.take n) (vs.take n)
  | _, _, 0, h => by simpa using RpL.nil
  | [], _, n + 1, h => by rw [rpl_nil.mp h]; simpa using RpL.nil
  | d :: ds, _, n + 1, h => by
    obtain ⟨x, xs, rfl, h1, t⟩ := rpl_cons.mp h
    simpa using RpL.cons h1 (RpL.take n t)
theorem RpL.set : ∀ {ds : List D} {vs : List V} (n : Nat) {d : D} {v : V}, RpL K W ds vs → Rp K W d v → RpL K W (ds.set n d) (vs.set n v)
  | [], _, n, _, _, h, _ => by rw [rpl_nil.mp h]; simpa using RpL.nil
  | d :: ds, _, 0, _, _, h, r => by
    obtain ⟨x, xs, rfl, _, t⟩ := rpl_cons.mp h
    simpa using RpL.cons r t
  | d :: ds, _, n + 1, _, _, h, r => by
    obtain ⟨x, xs, rfl, h1, t⟩ := rpl_cons.mp h
    simpa using RpL.cons h1 (RpL.set n t r)
theorem RpL.reverse : ∀ {ds : List D} {vs : List V}, RpL K W ds vs → RpL K W ds.reverse vs.reverse
  | [], _, h => by rw [rpl_nil.mp h]; exact .nil
  | d :: ds, _, h => by
    obtain ⟨x, xs, rfl, h1, t⟩ := rpl_cons.mp h
    rw [List.reverse_cons, List.reverse_cons]
    exact (RpL.reverse t).append (.cons h1 .nil)
theorem RpL.eraseIdx : ∀ {ds : List D} {vs : List V} (n : Nat), RpL K W ds vs → RpL K W (ds.eraseIdx n) (vs.eraseIdx n)
  | [], _, n, h => by rw [rpl_nil.mp h]; simpa using RpL.nil
  | d :: ds, _, 0, h => by
    obtain ⟨x, xs, rfl, h1, t⟩ := rpl_cons.mp h
    simpa using t
  | d :: ds, _, n + 1, h => by
    obtain ⟨x, xs, rfl, h1, t⟩ := rpl_cons.mp h
    simpa using RpL.cons h1 (RpL.eraseIdx n t)
/-- ints -/
theorem RpL.ints : ∀ {ns : List Int} {vs : List V}, RpL K W (ns.map D.int) vs → vs = ns.map V.int
  | [], _, h => by rw [rpl_nil.mp h]; rfl
  | n :: ns, _, h => by
    obtain ⟨x, xs, rfl, h1, t⟩ := rpl_cons.mp h
    rw [rp_int.mp h1, RpL.ints t]
    rfl
theorem RpL.of_ints : ∀ {ns : List Int}, RpL K W (ns.map D.int) (ns.map V.int)
  | [] => .nil
  | n :: ns => .cons (rp_int.mpr rfl) RpL.of_ints
theorem RpL.bls : ∀ {ns : List Bool} {vs : List V}, RpL K W (ns.map D.bl) vs → vs = ns.map V.bl
  | [], _, h => by rw [rpl_nil.mp h]; rfl
  | n :: ns, _, h => by
    obtain ⟨x, xs, rfl, h1, t⟩ := rpl_cons.mp h
    rw [rp_bl.mp h1, RpL.bls t]
    rfl
end

theorem pairedMap {α β γ δ : Type} {F : α → β → Prop} {G : γ → δ → Prop} {f : α → γ} {g : β → δ} : ∀ {l₁ : List α} {l₂ : List β}, Paired F l₁ l₂ → (∀ a b, F a b → G (f a) (g b)) → Paired G (l₁.map f) (l₂.map g)
  | _, _, .nil, _ => .nil
  | _, _, .cons r t, h => .cons (h _ _ r) (pairedMap t h)
/-! ### pairs -/
def RpK (K : PySem.W.Frag) (W : Wd) {κ : Type} (l : List (κ × D)) (m : List (κ × V)) : Prop := Paired (fun (p : κ × D) (q : κ × V) => p.1 = q.1 ∧ Rp K W p.2 q.2) l m
theorem RpK.mono {K : PySem.W.Frag} {W W' : Wd} (x : Ext W W') {κ : Type} {l : List (κ × D)} {m : List (κ × V)} (h : RpK K W l m) : RpK K W' l m :=
  L2.Paired.mapP h fun _ _ z => ⟨z.1, Rp.mono x _ _ z.2⟩

section
variable {K : PySem.W.Frag} {W : Wd} {κ : Type} [DecidableEq κ]
def valD (l : List (κ × D)) (k : κ) : Option D := (l.find? fun kv => decide (kv.1 = k)).map (·.2)
def putD (l : List (κ × D)) (k : κ) (d : D) : List (κ × D) := if (l.any fun kv => decide (kv.1 = k)) = true then l.map (fun kv => if kv.1 = k then (kv.1, d) else kv) else l ++ [(k, d)]
theorem RpK.length {l : List (κ × D)} {m : List (κ × V)} (h : RpK K W l m) : l.length = m.length := Paired.length h
theorem RpK.val {l : List (κ × D)} {m : List (κ × V)} (h : RpK K W l m) (k : κ) : (∀ d, valD l k = some d → ∃ v, valV m k = some v ∧ Rp K W d v) ∧ (valD l k = none → valV m k = none) := by
  unfold RpK at h
  induction h with
  | nil => exact ⟨fun d e => by simp [valD] at e, fun _ => rfl⟩
  | @cons p q ps qs r t ih =>
    obtain ⟨e1, e2⟩ := r
    by_cases hk : p.1 = k
    · have hq : q.1 = k := e1 ▸ hk
      refine ⟨fun d e => ?_, fun e => ?_⟩
      · simp [valD, List.find?_cons, hk] at e
        subst e
        exact ⟨q.2, by simp [valV, List.find?_cons, hq], e2⟩
      · simp [valD, List.find?_cons, hk] at e
    · have hq : ¬ q.1 = k := e1 ▸ hk
      have x1 : valD (p :: ps) k = valD ps k := by simp [valD, List.find?_cons, hk]
      have x2 : valV (q :: qs) k = valV qs k := by simp [valV, List.find?_cons, hq]
      rw [x1, x2]; exact ih
theorem RpK.any {l : List (κ × D)} {m : List (κ × V)} (h : RpK K W l m) (k : κ) : (l.any fun kv => decide (kv.1 = k)) = (m.any fun kv => decide (kv.1 = k)) := by
  unfold RpK at h
  induction h with
  | nil => rfl
  | @cons p q ps qs r t ih => rw [List.any_cons, List.any_cons, ih, r.1]
theorem RpK.app {l l' : List (κ × D)} {m m' : List (κ × V)} (h : RpK K W l m) (h' : RpK K W l' m') : RpK K W (l ++ l') (m ++ m') := by
  unfold RpK at h
  induction h with
  | nil => exact h'
  | @cons p q ps qs r t ih => exact .cons r ih
theorem RpK.put {l : List (κ × D)} {m : List (κ × V)} (h : RpK K W l m) (k : κ) {d : D} {v : V} (hd : Rp K W d v) : RpK K W (putD l k d) (putK m k v) := by
  unfold putD putK
  rw [h.any k]
  split
  · unfold RpK at h ⊢
    refine pairedMap h fun a b z => ?_
    obtain ⟨e1, e2⟩ := z
    by_cases hk : a.1 = k
    · rw [if_pos hk, if_pos (e1 ▸ hk)]; exact ⟨e1, hd⟩
    · rw [if_neg hk, if_neg (e1 ▸ hk)]; exact ⟨e1, e2⟩
  · exact h.app (.cons ⟨rfl, hd⟩ .nil)
end

/-! ### the store in the heap -/
inductive HoR (K : PySem.W.Frag) (mg : Str → Option Value) (W : Wd) : O → HO → Prop
  | lst {ds : List D} {xs : List V} (h : RpL K W ds xs) : HoR K mg W (.lst ds) (.lst xs)
  | dk {l : List (Key × D)} {m : List (Key × V)} (h : RpK K W l m) : HoR K mg W (.dk l) (.dK m)
  | dt {l : List (List Key × D)} {m : List (List Key × V)} (h : RpK K W l m) : HoR K mg W (.dt l) (.dT m)
  | ins {c : Str} {C dx : Addr} {fs : List (Str × D)} {gs : List (Str × V)} (h1 : mg c = some (.ref C)) (h2 : RpK K W fs gs) : HoR K mg W (.ins c fs) (.ins C dx gs)
theorem HoR.mono {K : PySem.W.Frag} {mg : Str → Option Value} {W W' : Wd} (x : Ext W W') {o : O} {h : HO} (r : HoR K mg W o h) : HoR K mg W' o h := by
  cases r with
  | lst h => exact .lst (RpL.mono x _ _ h)
  | dk h => exact .dk (RpK.mono x h)
  | dt h => exact .dt (RpK.mono x h)
  | ins h1 h2 => exact .ins h1 (RpK.mono x h2)
def liveO : O → Bool
  | .dead => false
  | .lst _ => true
  | .dk _ => true
  | .dt _ => true
  | .ins _ _ => true

structure Rel (K : PySem.W.Frag) (mg : Str → Option Value) (W : Wd) (S : Store) (H : Hp) : Prop where
  sub : ∀ a o, W.F a = some o → H a = some o
  grd : ∀ a o, W.G a = some o → H a = some o ∧ W.F a = none
  dom : ∀ n, S.length ≤ n → W.φ n = none
  obj : ∀ n o, S[n]? = some o → liveO o = true → ∃ a ho, W.φ n = some a ∧ W.F a = none ∧ W.G a = none ∧ H a = some ho ∧ HoR K mg W o ho
  inj : ∀ m n o u a, S[m]? = some o → liveO o = true → S[n]? = some u → liveO u = true → W.φ m = some a → W.φ n = some a → m = n

section
variable {K : PySem.W.Frag} {mg : Str → Option Value} {W W' : Wd} {S S' : Store} {H H' : Hp}
/-- a world with one thing more that never changes -/
def Wd.add (W : Wd) (p : Addr) (o : HO) : Wd := ⟨W.φ, upd W.F p o, W.G⟩
theorem Rel.fnone (r : Rel K mg W S H) {p : Addr} (hp : H p = none) : W.F p = none := by
  cases e : W.F p with
  | none => rfl
  | some o => rw [r.sub p o e] at hp; cases hp
theorem Rel.gnone (r : Rel K mg W S H) {p : Addr} (hp : H p = none) : W.G p = none := by
  cases e : W.G p with
  | none => rfl
  | some o => rw [(r.grd p o e).1] at hp; cases hp
theorem Wd.add_ext {p : Addr} {o : HO} (h : W.F p = none) : Ext W (W.add p o) :=
  ⟨fun a u e => by show upd W.F p o a = some u; rw [upd_ne (ne_of_none e h)]; exact e, fun _ _ e => e⟩
/-- nothing of ours lies at p -/
structure Fre (W : Wd) (S : Store) (p : Addr) : Prop where
  f : W.F p = none
  g : W.G p = none
  s : ∀ n o, S[n]? = some o → liveO o = true → W.φ n ≠ some p
theorem Rel.fre (r : Rel K mg W S H) {p : Addr} (hp : H p = none) : Fre W S p := ⟨r.fnone hp, r.gnone hp, fun n o e l z => by
  obtain ⟨a, ho, h1, _, _, h4, _⟩ := r.obj n o e l
  rw [z] at h1; cases h1
  rw [hp] at h4; cases h4⟩
theorem Rel.addF' (r : Rel K mg W S H) {p : Addr} {o : HO} (fp : Fre W S p) : Rel K mg (W.add p o) S (upd H p o) where
  sub := fun a u e => by
    by_cases h : a = p
    · subst h
      have e : upd W.F a o a = some u := e
      rw [upd_same] at e ⊢; exact e
    · have e : upd W.F p o a = some u := e
      rw [upd_ne h] at e
      rw [upd_ne h]; exact r.sub a u e
  grd := fun a u e => by
    have h : a ≠ p := ne_of_none e fp.g
    refine ⟨by rw [upd_ne h]; exact (r.grd a u e).1, ?_⟩
    show upd W.F p o a = none
    rw [upd_ne h]; exact (r.grd a u e).2
  dom := r.dom
  obj := fun n u e hl => by
    obtain ⟨a, ho, h1, h2, h3, h4, h5⟩ := r.obj n u e hl
    have h : a ≠ p := fun z => fp.s n u e hl (by rw [h1, z])
    exact ⟨a, ho, h1, (by show upd W.F p o a = none; rw [upd_ne h]; exact h2), h3, by rw [upd_ne h]; exact h4, h5.mono (Wd.add_ext fp.f)⟩
  inj := r.inj
theorem Rel.addF (r : Rel K mg W S H) {p : Addr} {o : HO} (hp : H p = none) : Rel K mg (W.add p o) S (upd H p o) := r.addF' (r.fre hp)

/-- a new object of the store -/
def Wd.new (W : Wd) (n : Nat) (p : Addr) : Wd := ⟨fun m => if m = n then some p else W.φ m, W.F, W.G⟩
theorem Wd.new_ext {n : Nat} {p : Addr} (h : W.φ n = none) : Ext W (W.new n p) :=
  ⟨fun _ _ e => e, fun m a e => by
    show (if m = n then some p else W.φ m) = some a
    rw [if_neg (fun z => by subst z; rw [h] at e; cases e)]; exact e⟩
theorem Rel.new' (r : Rel K mg W S H) {p : Addr} {o : O} {ho : HO} (fp : Fre W S p) (h : HoR K mg W o ho) : Rel K mg (W.new S.length p) (S ++ [o]) (upd H p ho) where
  sub := fun a u e => by rw [upd_ne (ne_of_none e fp.f)]; exact r.sub a u e
  grd := fun a u e => ⟨by rw [upd_ne (ne_of_none e fp.g)]; exact (r.grd a u e).1, (r.grd a u e).2⟩
  dom := fun n hn => by
    rw [List.length_append] at hn
    show (if n = S.length then some p else W.φ n) = none
    rw [if_neg (by simp at hn; omega)]
    exact r.dom n (by simp at hn; omega)
  obj := fun n u e hl => by
    by_cases hn : n = S.length
    · subst hn
      rw [List.getElem?_append_right (Nat.le_refl _)] at e
      have e' : o = u := by simpa using e
      subst e'
      exact ⟨p, ho, if_pos rfl, fp.f, fp.g, upd_same, h.mono (Wd.new_ext (r.dom _ (Nat.le_refl _)))⟩
    · have hlt : n < S.length := by
        have := (List.getElem?_eq_some_iff.mp e).1
        simp at this; omega
      rw [List.getElem?_append_left hlt] at e
      obtain ⟨a, hx, h1, h2, h3, h4, h5⟩ := r.obj n u e hl
      have hne : a ≠ p := fun z => fp.s n u e hl (by rw [h1, z])
      exact ⟨a, hx, (by show (if n = S.length then some p else W.φ n) = some a; rw [if_neg hn]; exact h1), h2, h3, by rw [upd_ne hne]; exact h4, h5.mono (Wd.new_ext (r.dom _ (Nat.le_refl _)))⟩
  inj := fun m n o1 u1 a e1 l1 e2 l2 p1 p2 => by
    have at_ : ∀ k (x : O), (S ++ [o])[k]? = some x → liveO x = true → (W.new S.length p).φ k = some a → (k = S.length ∧ a = p) ∨ (k < S.length ∧ S[k]? = some x ∧ W.φ k = some a ∧ a ≠ p) := fun k x e l q => by
      by_cases hk : k = S.length
      · left
        refine ⟨hk, ?_⟩
        have q : (if k = S.length then some p else W.φ k) = some a := q
        rw [if_pos hk] at q
        exact (Option.some.inj q).symm
      · right
        have hlt : k < S.length := by
          have := (List.getElem?_eq_some_iff.mp e).1
          simp at this; omega
        rw [List.getElem?_append_left hlt] at e
        have q : (if k = S.length then some p else W.φ k) = some a := q
        rw [if_neg hk] at q
        exact ⟨hlt, e, q, fun z => fp.s k x e l (by rw [q, z])⟩
    rcases at_ m o1 e1 l1 p1 with ⟨h1, h2⟩ | ⟨h1, h2, h3, h4⟩
    · rcases at_ n u1 e2 l2 p2 with ⟨h5, h6⟩ | ⟨h5, h6, h7, h8⟩
      · rw [h1, h5]
      · exact absurd h2 h8
    · rcases at_ n u1 e2 l2 p2 with ⟨h5, h6⟩ | ⟨h5, h6, h7, h8⟩
      · exact absurd h6 h4
      · exact r.inj m n o1 u1 a h2 l1 h6 l2 h3 h7
theorem Rel.new (r : Rel K mg W S H) {p : Addr} {o : O} {ho : HO} (hp : H p = none) (h : HoR K mg W o ho) : Rel K mg (W.new S.length p) (S ++ [o]) (upd H p ho) := r.new' (r.fre hp) h

/-- a thing that is guarded -/
def Wd.grd (W : Wd) (p : Addr) (o : HO) : Wd := ⟨W.φ, W.F, upd W.G p o⟩
def Wd.ofG (W : Wd) (G : Hp) : Wd := ⟨W.φ, W.F, G⟩
theorem Wd.grd_ext {p : Addr} {o : HO} : Ext W (W.grd p o) := ⟨fun _ _ e => e, fun _ _ e => e⟩
theorem Wd.grd_ext' {p : Addr} {o : HO} : Ext (W.grd p o) W := ⟨fun _ _ e => e, fun _ _ e => e⟩
theorem Wd.ofG_ext {G : Hp} : Ext W (W.ofG G) := ⟨fun _ _ e => e, fun _ _ e => e⟩
theorem Rel.guard (r : Rel K mg W S H) {p : Addr} {o : HO} (fp : Fre W S p) : Rel K mg (W.grd p o) S (upd H p o) where
  sub := fun a u e => by rw [upd_ne (ne_of_none e fp.f)]; exact r.sub a u e
  grd := fun a u e => by
    by_cases h : a = p
    · subst h
      have e : upd W.G a o a = some u := e
      rw [upd_same] at e ⊢; exact ⟨e, fp.f⟩
    · have e : upd W.G p o a = some u := e
      rw [upd_ne h] at e
      rw [upd_ne h]; exact r.grd a u e
  dom := r.dom
  obj := fun n u e hl => by
    obtain ⟨a, ho, h1, h2, h3, h4, h5⟩ := r.obj n u e hl
    have h : a ≠ p := fun z => fp.s n u e hl (by rw [h1, z])
    exact ⟨a, ho, h1, h2, (by show upd W.G p o a = none; rw [upd_ne h]; exact h3), by rw [upd_ne h]; exact h4, h5.mono Wd.grd_ext⟩
  inj := r.inj
/-- the guard is taken away -/
theorem Rel.unguard (r : Rel K mg W S H) {p : Addr} {o : HO} {G : Hp} (hG : W.G = upd G p o) (hp : G p = none) : Rel K mg (W.ofG G) S H ∧ Fre (W.ofG G) S p ∧ H p = some o := by
  have gp : W.G p = some o := by rw [hG, upd_same]
  refine ⟨⟨r.sub, fun a u e => ?_, r.dom, fun n u e hl => ?_, r.inj⟩, ⟨(r.grd p o gp).2, hp, fun n u e hl z => ?_⟩, (r.grd p o gp).1⟩
  · have e : G a = some u := e
    exact r.grd a u (by rw [hG, upd_ne (ne_of_none e hp)]; exact e)
  · obtain ⟨a, ho, h1, h2, h3, h4, h5⟩ := r.obj n u e hl
    refine ⟨a, ho, h1, h2, ?_, h4, h5.mono Wd.ofG_ext⟩
    have ne : a ≠ p := fun z => by rw [z, gp] at h3; cases h3
    show G a = none
    rw [hG, upd_ne ne] at h3; exact h3
  · obtain ⟨a, ho, h1, h2, h3, h4, h5⟩ := r.obj n u e hl
    have z : W.φ n = some p := z
    rw [h1] at z; cases z
    rw [gp] at h3; cases h3

/-- an object of the store is changed -/
theorem Rel.put (r : Rel K mg W S H) {n : Nat} {o u : O} {a : Addr} {ho : HO} (e : S[n]? = some o) (hl : liveO o = true) (ha : W.φ n = some a) (h : HoR K mg W u ho) : Rel K mg W (S.set n u) (upd H a ho) where
  sub := fun b x q => by
    obtain ⟨a', _, h1, h2, _⟩ := r.obj n o e hl
    rw [ha] at h1; cases h1
    rw [upd_ne (ne_of_none q h2)]; exact r.sub b x q
  grd := fun b x q => by
    obtain ⟨a', _, h1, _, h2, _⟩ := r.obj n o e hl
    rw [ha] at h1; cases h1
    exact ⟨by rw [upd_ne (ne_of_none q h2)]; exact (r.grd b x q).1, (r.grd b x q).2⟩
  dom := fun m hm => r.dom m (by simpa using hm)
  obj := fun m x q l => by
    obtain ⟨a', ho', h1, h2, h3, h4, h5⟩ := r.obj n o e hl
    rw [ha] at h1; cases h1
    by_cases hm : m = n
    · subst hm
      have hlt : m < S.length := (List.getElem?_eq_some_iff.mp e).1
      rw [List.getElem?_set_self hlt] at q
      cases q
      exact ⟨a, ho, ha, h2, h3, upd_same, h⟩
    · rw [List.getElem?_set_ne (Ne.symm hm)] at q
      obtain ⟨b, hb, k1, k2, k3, k4, k5⟩ := r.obj m x q l
      have hne : b ≠ a := fun z => hm (r.inj m n x o b q l e hl k1 (by rw [z]; exact ha))
      exact ⟨b, hb, k1, k2, k3, by rw [upd_ne hne]; exact k4, k5⟩
  inj := fun i j x y b q1 l1 q2 l2 p1 p2 => by
    have at_ : ∀ k (z : O), (S.set n u)[k]? = some z → liveO z = true → ∃ z', S[k]? = some z' ∧ liveO z' = true := fun k z q l => by
      by_cases hk : k = n
      · subst hk; exact ⟨o, e, hl⟩
      · rw [List.getElem?_set_ne (Ne.symm hk)] at q; exact ⟨z, q, l⟩
    obtain ⟨x', e1, k1⟩ := at_ i x q1 l1
    obtain ⟨y', e2, k2⟩ := at_ j y q2 l2
    exact r.inj i j x' y' b e1 k1 e2 k2 p1 p2
end
end SL
/-! S1: ends, judgements, names, constants, operators' frame, tests, displays, statements. -/
namespace SL
open PySem PySem.Spec PyProof.Rows L2

structure Stp (W W' : Wd) : Prop where
  ext : Ext W W'
  G : W'.G = W.G
theorem Stp.refl (W : Wd) : Stp W W := ⟨Ext.refl W, rfl⟩
theorem Stp.trans {W W1 W2 : Wd} (a : Stp W W1) (b : Stp W1 W2) : Stp W W2 := ⟨a.ext.trans b.ext, b.G.trans a.G⟩
theorem Stp.add {W : Wd} {p : Addr} {o : HO} (h : W.F p = none) : Stp W (W.add p o) := ⟨Wd.add_ext h, rfl⟩
theorem Stp.new {W : Wd} {n : Nat} {p : Addr} (h : W.φ n = none) : Stp W (W.new n p) := ⟨Wd.new_ext h, rfl⟩

section
variable (K : PySem.W.Frag) (mg : Str → Option Value) (E : XK)
def XR (W : Wd) (H : Hp) (fs : List (Str × D)) (da : Option Addr) : Prop := (fs = [] ∧ da = none) ∨ ∃ d gs, da = some d ∧ H d = some (.xd gs) ∧ RpK K W fs gs
def RPost {α : Type} (W : Wd) (r : R α) (Q : Wd → Hp → α → Store → Prop) : Prop := match r with
  | .ok a S' => ∀ W' H', Stp W W' → Rel K mg W' S' H' → Q W' H' a S'
  | .exc c fs S' => ∀ W' H' C da, Stp W W' → Rel K mg W' S' H' → mg c = some (.ref C) → XR K W' H' fs da → E (.ref C) da H'
  | .bad => False
structure RelE (W : Wd) (ρ : Env') (σ : L2.St) : Prop where
  len : ρ.length = σ.length
  at_ : ∀ (i : Nat) (d : D), ρ[i]? = some (some d) → ∃ v, σ[i]? = some (some v) ∧ Rp K W d v
def tE (m : ET) : TE := fun σ H Q => ∃ W ρ S, Rel K mg W S H ∧ RelE K W ρ σ ∧ RPost K mg E W (m ρ S) fun W' H' d _ => ∀ v, Rp K W' d v → Q v H'
def tT (m : Env' → M Bool) : TT := fun σ H Q => ∃ W ρ S, Rel K mg W S H ∧ RelE K W ρ σ ∧ RPost K mg E W (m ρ S) fun _ H' b _ => Q b H'
def tA (m : Env' → M (List D)) : TA := fun σ H Q => ∃ W ρ S, Rel K mg W S H ∧ RelE K W ρ σ ∧ RPost K mg E W (m ρ S) fun W' H' ds _ => ∀ vs, RpL K W' ds vs → Q vs H'
/-- values -/
def tO (m : M D) (W : Wd) (S : Store) (Q : VK) : Prop := RPost K mg E W (m S) fun W' H' d _ => ∀ v, Rp K W' d v → Q v H'
def rO2 (o : D → D → M D) : R2 := fun x y H Q => ∃ W S a b, Rel K mg W S H ∧ Rp K W a x ∧ Rp K W b y ∧ tO K mg E (o a b) W S Q
def rO1 (o : D → M D) : V → Hp → VK → Prop := fun x H Q => ∃ W S a, Rel K mg W S H ∧ Rp K W a x ∧ tO K mg E (o a) W S Q
def rOL (o : List D → M D) : List V → Hp → VK → Prop := fun xs H Q => ∃ W S ds, Rel K mg W S H ∧ RpL K W ds xs ∧ tO K mg E (o ds) W S Q
def FlPost (W : Wd) (r : R Fl) (Dn : Ends) : Prop := RPost K mg E W r fun W' H' f _ => match f with
  | .nx ρ => ∀ σ, RelE K W' ρ σ → Dn.nx σ H'
  | .rt d => ∀ v, Rp K W' d v → Dn.rt v H'
  | .bk ρ => ∀ σ, RelE K W' ρ σ → Dn.bk σ H'
  | .ct ρ => ∀ σ, RelE K W' ρ σ → Dn.ct σ H'
def tS (m : ST) : TS := fun Dn σ H => ∃ W ρ S, Rel K mg W S H ∧ RelE K W ρ σ ∧ FlPost K mg E W (m ρ S) Dn
end

abbrev PEI (X : Cx) (E : XK) (e : Expr) (m : ET) : Prop := PE X e (tE X.K X.mg E m)
abbrev PTI (X : Cx) (E : XK) (e : Expr) (m : Env' → M Bool) : Prop := PT X e (tT X.K X.mg E m)
abbrev PWI (X : Cx) (E : XK) (e : Expr) (m : Env' → M Bool) : Prop := PW X e (tT X.K X.mg E m)
abbrev PAI (X : Cx) (E : XK) (es : List Expr) (m : Env' → M (List D)) : Prop := PA X es (tA X.K X.mg E m)
abbrev PSI (X : Cx) (E : XK) (s : Stmt) (m : ST) : Prop := PS X s (tS X.K X.mg E m)
abbrev PSsI (X : Cx) (E : XK) (s : List Stmt) (m : ST) : Prop := PSs X s (tS X.K X.mg E m)

section
variable {X : Cx}
theorem PE.imp {e : Expr} {t t' : TE} (h : PE X e t) (i : ∀ σ H Q, t' σ H Q → t σ H Q) : PE X e t' := ⟨fun p s σ H Q I q => h.run p s σ H Q I (i σ H Q q)⟩
theorem PT.imp {e : Expr} {t t' : TT} (h : PT X e t) (i : ∀ σ H Q, t' σ H Q → t σ H Q) : PT X e t' := ⟨fun p s σ H Q I q => h.run p s σ H Q I (i σ H Q q)⟩
theorem PW.imp {e : Expr} {t t' : TT} (h : PW X e t) (i : ∀ σ H Q, t' σ H Q → t σ H Q) : PW X e t' := ⟨fun wh p s σ H Q I q => h.run wh p s σ H Q I (i σ H Q q)⟩
theorem PA.imp {e : List Expr} {t t' : TA} (h : PA X e t) (i : ∀ σ H Q, t' σ H Q → t σ H Q) : PA X e t' := ⟨fun pos p s σ H Q I q => h.run pos p s σ H Q I (i σ H Q q)⟩
theorem PS.imp {e : Stmt} {t t' : TS} (h : PS X e t) (i : ∀ Dn σ H, t' Dn σ H → t Dn σ H) : PS X e t' := ⟨fun p s σ H Dn I q => h.run p s σ H Dn I (i Dn σ H q)⟩
theorem PSs.imp {e : List Stmt} {t t' : TS} (h : PSs X e t) (i : ∀ Dn σ H, t' Dn σ H → t Dn σ H) : PSs X e t' := ⟨fun p s σ H Dn I q => h.run p s σ H Dn I (i Dn σ H q)⟩
theorem PE.or {e : Expr} {t t' : TE} (h : PE X e t) (h' : PE X e t') : PE X e (fun σ H Q => t σ H Q ∨ t' σ H Q) := ⟨fun p s σ H Q I q => q.elim (h.run p s σ H Q I) (h'.run p s σ H Q I)⟩
end

section
variable {K : PySem.W.Frag} {mg : Str → Option Value} {E : XK} {W W' : Wd} {S : Store} {H : Hp} {α β : Type}
theorem RPost.mono {r : R α} {Q Q' : Wd → Hp → α → Store → Prop} (h : RPost K mg E W r Q) (i : ∀ W' H' a S', Stp W W' → Rel K mg W' S' H' → Q W' H' a S' → Q' W' H' a S') : RPost K mg E W r Q' := by
  cases r with
  | ok a S' => exact fun W' H' x r => i W' H' a S' x r (h W' H' x r)
  | exc c fs S' => exact h
  | bad => exact h
theorem RPost.later {r : R α} {Q : Wd → Hp → α → Store → Prop} (h : RPost K mg E W r Q) (x : Stp W W') : RPost K mg E W' r Q := by
  cases r with
  | ok a S' => exact fun W2 H' y r => h W2 H' (x.trans y) r
  | exc c fs S' => exact fun W2 H' C da y r => h W2 H' C da (x.trans y) r
  | bad => exact h
theorem RPost.bind {r : R α} {f : α → M β} {Q : Wd → Hp → β → Store → Prop} (h : RPost K mg E W (r.bind f) Q) : RPost K mg E W r fun W' H' a S' => RPost K mg E W' (f a S') Q := by
  cases r with
  | ok a S' => exact fun W' H' x r => RPost.later (r := f a S') h x
  | exc c fs S' => exact h
  | bad => exact h
theorem RPost.here {a : α} {Q : Wd → Hp → α → Store → Prop} (h : RPost K mg E W (.ok a S) Q) (r : Rel K mg W S H) : Q W H a S := h W H (Stp.refl W) r
theorem RelE.mono {ρ : Env'} {σ : L2.St} (r : RelE K W ρ σ) (x : Ext W W') : RelE K W' ρ σ := ⟨r.len, fun i d e => let ⟨v, h1, h2⟩ := r.at_ i d e; ⟨v, h1, Rp.mono x _ _ h2⟩⟩
theorem RelE.set {ρ : Env'} {σ : L2.St} (r : RelE K W ρ σ) (i : Nat) {d : D} {v : V} (h : Rp K W d v) : RelE K W (ρ.set i (some d)) (σ.set i (some v)) := by
  refine ⟨by simp [r.len], fun j e he => ?_⟩
  by_cases hj : j = i
  · subst hj
    by_cases hl : j < ρ.length
    · rw [List.getElem?_set_self hl] at he
      cases he
      exact ⟨v, List.getElem?_set_self (by rw [← r.len]; exact hl), h⟩
    · have : (ρ.set j (some d))[j]? = none := List.getElem?_eq_none_iff.mpr (by simp; omega)
      rw [this] at he; cases he
  · rw [List.getElem?_set_ne (Ne.symm hj)] at he ⊢
    exact r.at_ j e he
theorem tO_bind {m : M α} {f : α → M D} {Q : VK} (h : tO K mg E (M.bind m f) W S Q) : RPost K mg E W (m S) fun W' _ a S' => tO K mg E (f a) W' S' Q := RPost.bind h
end

/-! ### names and constants -/
def eVar (i : Nat) : ET := fun ρ => match ρ[i]? with
  | some (some d) => M.ret d
  | _ => M.bad
def eC (d : D) : ET := fun _ => M.ret d
section
variable {X : Cx} {E : XK}
theorem pei_v (i : Nat) {x : Str} {pos : Pos} (h : PE X (.Name x pos) (tVar i)) : PEI X E (.Name x pos) (eVar i) := PE.imp h fun σ H Q ⟨W, ρ, S, r, re, q⟩ => by
  unfold eVar at q
  cases e : ρ[i]? with
  | none => rw [e] at q; exact q.elim
  | some o =>
    cases o with
    | none => rw [e] at q; exact q.elim
    | some d =>
      rw [e] at q
      obtain ⟨v, h1, h2⟩ := re.at_ i d e
      exact ⟨v, h1, RPost.here q r v h2⟩
theorem pei_c {e : Expr} {v : V} {d : D} (h : PE X e (tC v)) (hd : ∀ W, Rp X.K W d v) : PEI X E e (eC d) := PE.imp h fun σ H Q ⟨W, ρ, S, r, re, q⟩ => RPost.here (S := S) (a := d) q r v (hd W)
theorem pei_int {i j pos} : PEI X E (.Constant (.int i) j pos) (eC (.int i)) := pei_c pe_int fun _ => rp_int.mpr rfl
theorem pei_bl {i j pos} : PEI X E (.Constant (.bool i) j pos) (eC (.bl i)) := pei_c pe_bl fun _ => rp_bl.mpr rfl
theorem pei_non {j pos} : PEI X E (.Constant .none j pos) (eC .non) := pei_c pe_non fun _ => rp_non.mpr rfl
theorem pei_str {i j pos} : PEI X E (.Constant (.str i) j pos) (eC (.str i)) := pei_c pe_str fun _ => rp_str.mpr rfl
/-- the name that stands in the i-th slot -/
theorem iv (i : Nat) {x : Str} {pos : Pos} (hN : X.N[i]? = some x := by rfl) (hv : Vis X.env.scope x := by first | exact Or.inl rfl | exact Or.inr (Or.inl rfl) | exact Or.inr (Or.inr rfl)) (hd : (x == ("__debug__" : Str)) = false := by decide)
    (hcd : (x == ("__classdict__" : Str)) = false := by decide) : PEI X E (.Name x pos) (eVar i) := pei_v i (pe_var hN hv hd hcd)
end

/-! ### operators -/
def e2 (o : D → D → M D) (ma mb : ET) : ET := fun ρ => M.bind (ma ρ) fun x => M.bind (mb ρ) fun y => o x y
def e1 (o : D → M D) (ma : ET) : ET := fun ρ => M.bind (ma ρ) o
section
variable {K : PySem.W.Frag} {mg : Str → Option Value} {E : XK} {σ : L2.St} {H : Hp} {Q : VK}
theorem e2_read {o : D → D → M D} {ma mb : ET} (h : tE K mg E (e2 o ma mb) σ H Q) : tE K mg E ma σ H fun x H1 => tE K mg E mb σ H1 fun y H2 => rO2 K mg E o x y H2 Q := by
  obtain ⟨W, ρ, S, r, re, q⟩ := h
  refine ⟨W, ρ, S, r, re, RPost.mono (RPost.bind q) fun W1 H1 a S1 x1 r1 q1 v1 rv1 => ?_⟩
  refine ⟨W1, ρ, S1, r1, re.mono x1.ext, RPost.mono (RPost.bind q1) fun W2 H2 b S2 x2 r2 q2 v2 rv2 => ?_⟩
  exact ⟨W2, S2, a, b, r2, Rp.mono x2.ext _ _ rv1, rv2, q2⟩
theorem e1_read {o : D → M D} {ma : ET} (h : tE K mg E (e1 o ma) σ H Q) : tE K mg E ma σ H fun x H1 => rO1 K mg E o x H1 Q := by
  obtain ⟨W, ρ, S, r, re, q⟩ := h
  refine ⟨W, ρ, S, r, re, RPost.mono (RPost.bind q) fun W1 H1 a S1 x1 r1 q1 v1 rv1 => ?_⟩
  exact ⟨W1, S1, a, r1, rv1, q1⟩
end
section
variable {X : Cx} {E : XK} {a b c : Expr} {ma mb mc : ET} {pos : Pos}
abbrev O2 (X : Cx) (E : XK) (f : Value → Value → Sem Value) (o : D → D → M D) : Prop := OpR X f (rO2 X.K X.mg E o)
theorem pei_op {op : Operator} {o : D → D → M D} (ho : O2 X E (binaryOp op) o) (ha : PEI X E a ma) (hb : PEI X E b mb) : PEI X E (.BinOp a op b pos) (e2 o ma mb) :=
  PE.imp (pe_op ho ha hb) fun _ _ _ h => e2_read h
theorem pei_cmp {op : CmpOp} {o : D → D → M D} (ho : O2 X E (compareOp op) o) (ha : PEI X E a ma) (hb : PEI X E b mb) (hm : behindInMarks op b = false) : PEI X E (.Compare a [op] [b] pos) (e2 o ma mb) :=
  PE.imp (pe_cmpR ho ha hb hm) fun _ _ _ h => e2_read h
theorem pei_un {op : UnaryOp} {o : D → M D} (ho : UnR X (unaryOp op) (rO1 X.K X.mg E o)) (ha : PEI X E a ma) : PEI X E (.UnaryOp op a pos) (e1 o ma) :=
  PE.imp (pe_un ho ha) fun _ _ _ h => e1_read h
end

/-! ### tests -/
def boolD : D → M Bool
  | .bl b => M.ret b
  | _ => M.bad
def mB (m : ET) : Env' → M Bool := fun ρ => M.bind (m ρ) boolD
theorem boolD_read {K : PySem.W.Frag} {mg : Str → Option Value} {E : XK} {W : Wd} {S : Store} {H : Hp} {d : D} {v : V} {Q : Wd → Hp → Bool → Store → Prop} (r : Rel K mg W S H) (rv : Rp K W d v) (h : RPost K mg E W (boolD d S) Q) : ∃ k, v = .bl k ∧ Q W H k S := by
  cases d <;> first
    | exact h.elim
    | exact ⟨_, rp_bl.mp rv, RPost.here h r⟩
section
variable {X : Cx} {E : XK} {a b : Expr} {ma mb : ET} {pos : Pos}
theorem mB_read {K : PySem.W.Frag} {mg : Str → Option Value} {m : ET} {σ : L2.St} {H : Hp} {Q : Bool → Hp → Prop} (h : tT K mg E (mB m) σ H Q) : tE K mg E m σ H fun x H1 => ∃ k, x = .bl k ∧ Q k H1 := by
  obtain ⟨W, ρ, S, r, re, q⟩ := h
  exact ⟨W, ρ, S, r, re, RPost.mono (RPost.bind q) fun W1 H1 d S1 x1 r1 q1 v rv => boolD_read r1 rv q1⟩
/-- a comparison as a test -/
theorem pti_cmp {op : CmpOp} {o : D → D → M D} (ho : O2 X E (compareOp op) o) (ha : PEI X E a ma) (hb : PEI X E b mb) (hm : behindInMarks op b = false) : PTI X E (.Compare a [op] [b] pos) (mB (e2 o ma mb)) :=
  PT.imp (pt_cmpR ho ha hb hm) fun _ _ _ h => by
    obtain ⟨W, ρ, S, r, re, q⟩ := mB_read h
    exact e2_read ⟨W, ρ, S, r, re, q⟩
/-- a bool as a test -/
theorem pti_val {e : Expr} {m : ET} (h : PEI X E e m) (he : ∀ whole, isTrue e X.env whole = (do let v ← whole; standAt e.pos; holding [v] (truthy v)) := by intro _; rfl) : PTI X E e (mB m) :=
  PT.imp (pt_val h he) fun _ _ _ h => mB_read h
def tAndM (m n : Env' → M Bool) : Env' → M Bool := fun ρ => M.bind (m ρ) fun c => if c then n ρ else M.ret false
def tOrM (m n : Env' → M Bool) : Env' → M Bool := fun ρ => M.bind (m ρ) fun c => if c then M.ret true else n ρ
def tNotM (m : Env' → M Bool) : Env' → M Bool := fun ρ => M.bind (m ρ) fun c => M.ret (!c)
variable {rest : List Expr} {m n : Env' → M Bool}
theorem pwi_and1 (h : PTI X E a m) : PWI X E (.BoolOp .And [a] pos) m := pw_and1 h
theorem pwi_or1 (h : PTI X E a m) : PWI X E (.BoolOp .Or [a] pos) m := pw_or1 h
theorem pwi_and (h : PTI X E a m) (hb : PWI X E (.BoolOp .And (b :: rest) pos) n) : PWI X E (.BoolOp .And (a :: b :: rest) pos) (tAndM m n) :=
  PW.imp (pw_and h hb) fun σ H Q ⟨W, ρ, S, r, re, q⟩ => by
    refine ⟨W, ρ, S, r, re, RPost.mono (RPost.bind q) fun W1 H1 c S1 x1 r1 q1 => ?_⟩
    cases c with
    | true => exact ⟨W1, ρ, S1, r1, re.mono x1.ext, q1⟩
    | false => exact RPost.here (S := S1) (a := false) q1 r1
theorem pwi_or (h : PTI X E a m) (hb : PWI X E (.BoolOp .Or (b :: rest) pos) n) : PWI X E (.BoolOp .Or (a :: b :: rest) pos) (tOrM m n) :=
  PW.imp (pw_or h hb) fun σ H Q ⟨W, ρ, S, r, re, q⟩ => by
    refine ⟨W, ρ, S, r, re, RPost.mono (RPost.bind q) fun W1 H1 c S1 x1 r1 q1 => ?_⟩
    cases c with
    | false => exact ⟨W1, ρ, S1, r1, re.mono x1.ext, q1⟩
    | true => exact RPost.here (S := S1) (a := true) q1 r1
theorem pti_w (h : PWI X E a m) : PTI X E a m := h.pt
theorem pti_not (h : PTI X E a m) : PTI X E (.UnaryOp .Not a pos) (tNotM m) :=
  PT.imp (pt_not h) fun σ H Q ⟨W, ρ, S, r, re, q⟩ => ⟨W, ρ, S, r, re, RPost.mono (RPost.bind q) fun W1 H1 c S1 x1 r1 q1 => RPost.here (S := S1) (a := !c) q1 r1⟩
/-- a if t else b -/
def eIf (t : Env' → M Bool) (ma mb : ET) : ET := fun ρ => M.bind (t ρ) fun c => if c then ma ρ else mb ρ
theorem pei_ifExp {c : Expr} (hc : PTI X E c m) (ha : PEI X E a ma) (hb : PEI X E b mb) : PEI X E (.IfExp c a b pos) (eIf m ma mb) :=
  PE.imp (pe_ifExp hc ha hb) fun σ H Q ⟨W, ρ, S, r, re, q⟩ => ⟨W, ρ, S, r, re, RPost.mono (RPost.bind q) fun W1 H1 c S1 x1 r1 q1 => by
    cases c with
    | true => exact ⟨W1, ρ, S1, r1, re.mono x1.ext, q1⟩
    | false => exact ⟨W1, ρ, S1, r1, re.mono x1.ext, q1⟩⟩
/-- and, or, not as values: bools -/
def eAnd (ma mb : ET) : ET := fun ρ => M.bind (ma ρ) fun x => M.bind (boolD x) fun c => if c then mb ρ else M.ret (.bl false)
def eOr (ma mb : ET) : ET := fun ρ => M.bind (ma ρ) fun x => M.bind (boolD x) fun c => if c then M.ret (.bl true) else mb ρ
def eNot (ma : ET) : ET := fun ρ => M.bind (ma ρ) fun x => M.bind (boolD x) fun c => M.ret (.bl (!c))
theorem pei_one {op} (h : PEI X E a ma) : PEI X E (.BoolOp op [a] pos) ma := pe_one h
theorem pei_and (ha : PEI X E a ma) (hb : PEI X E (.BoolOp .And (b :: rest) pos) mb) : PEI X E (.BoolOp .And (a :: b :: rest) pos) (eAnd ma mb) :=
  PE.imp (pe_and ha hb) fun σ H Q ⟨W, ρ, S, r, re, q⟩ => ⟨W, ρ, S, r, re, RPost.mono (RPost.bind q) fun W1 H1 d S1 x1 r1 q1 v rv => by
    obtain ⟨k, e, q2⟩ := boolD_read r1 rv (RPost.bind q1)
    refine ⟨k, e, ?_⟩
    cases k with
    | true => exact ⟨W1, ρ, S1, r1, re.mono x1.ext, q2⟩
    | false => exact RPost.here (S := S1) (a := D.bl false) q2 r1 _ (rp_bl.mpr rfl)⟩
theorem pei_or (ha : PEI X E a ma) (hb : PEI X E (.BoolOp .Or (b :: rest) pos) mb) : PEI X E (.BoolOp .Or (a :: b :: rest) pos) (eOr ma mb) :=
  PE.imp (pe_or ha hb) fun σ H Q ⟨W, ρ, S, r, re, q⟩ => ⟨W, ρ, S, r, re, RPost.mono (RPost.bind q) fun W1 H1 d S1 x1 r1 q1 v rv => by
    obtain ⟨k, e, q2⟩ := boolD_read r1 rv (RPost.bind q1)
    refine ⟨k, e, ?_⟩
    cases k with
    | false => exact ⟨W1, ρ, S1, r1, re.mono x1.ext, q2⟩
    | true => exact RPost.here (S := S1) (a := D.bl true) q2 r1 _ (rp_bl.mpr rfl)⟩
theorem pei_not (ha : PEI X E a ma) : PEI X E (.UnaryOp .Not a pos) (eNot ma) :=
  PE.imp (pe_not ha) fun σ H Q ⟨W, ρ, S, r, re, q⟩ => ⟨W, ρ, S, r, re, RPost.mono (RPost.bind q) fun W1 H1 d S1 x1 r1 q1 v rv => by
    obtain ⟨k, e, q2⟩ := boolD_read r1 rv (RPost.bind q1)
    exact ⟨k, e, RPost.here (S := S1) (a := D.bl (!k)) q2 r1 _ (rp_bl.mpr rfl)⟩⟩
end

/-! ### argument lists, displays -/
def aNil : Env' → M (List D) := fun _ => M.ret []
def aCons (me : ET) (mr : Env' → M (List D)) : Env' → M (List D) := fun ρ => M.bind (me ρ) fun d => M.bind (mr ρ) fun ds => M.ret (d :: ds)
section
variable {X : Cx} {E : XK} {e : Expr} {es : List Expr} {me : ET} {mr : Env' → M (List D)} {pos : Pos}
theorem pai_nil : PAI X E [] aNil := PA.imp pa_nil fun σ H Q ⟨W, ρ, S, r, re, q⟩ => RPost.here (S := S) (a := []) q r [] .nil
theorem pai_cons (ha : PEI X E e me) (hr : PAI X E es mr) (hs : starEach (e :: es) X.env = (false, eval e X.env) :: starEach es X.env := by rfl) : PAI X E (e :: es) (aCons me mr) :=
  PA.imp (pa_cons ha hr hs) fun σ H Q ⟨W, ρ, S, r, re, q⟩ => ⟨W, ρ, S, r, re, RPost.mono (RPost.bind q) fun W1 H1 d S1 x1 r1 q1 v rv =>
    ⟨W1, ρ, S1, r1, re.mono x1.ext, RPost.mono (RPost.bind q1) fun W2 H2 ds S2 x2 r2 q2 vs rvs => RPost.here (S := S2) (a := d :: ds) q2 r2 _ (.cons (Rp.mono x2.ext _ _ rv) rvs)⟩⟩
/-- the ends of new things -/
theorem end_tup {K : PySem.W.Frag} {mg : Str → Option Value} {W : Wd} {S : Store} {H : Hp} {ds : List D} {vs : List V} {Q : Wd → Hp → D → Store → Prop} (h : RPost K mg E W (.ok (.tup ds) S) Q) (r : Rel K mg W S H) (rv : RpL K W ds vs) {p : Addr} (hp : H p = none) :
    ∃ W', Stp W W' ∧ Rel K mg W' S (upd H p (.tup vs)) ∧ Rp K W' (.tup ds) (.ref p) ∧ Q W' (upd H p (.tup vs)) (.tup ds) S := by
  have x : Stp W (W.add p (.tup vs)) := Stp.add (r.fnone hp)
  have r' := r.addF (o := .tup vs) hp
  refine ⟨_, x, r', rp_tup.mpr ⟨p, vs, rfl, upd_same, RpL.mono x.ext _ _ rv⟩, h _ _ x r'⟩
theorem end_lst {K : PySem.W.Frag} {mg : Str → Option Value} {W : Wd} {S : Store} {H : Hp} {ds : List D} {vs : List V} {Q : Wd → Hp → D → Store → Prop} (h : RPost K mg E W (.ok (.lst ds) S) Q) (r : Rel K mg W S H) (rv : RpL K W ds vs) {p : Addr} (hp : H p = none) :
    ∃ W', Stp W W' ∧ Rel K mg W' S (upd H p (.lst vs)) ∧ Rp K W' (.lst ds) (.ref p) ∧ Q W' (upd H p (.lst vs)) (.lst ds) S := by
  have x : Stp W (W.add p (.lst vs)) := Stp.add (r.fnone hp)
  have r' := r.addF (o := .lst vs) hp
  refine ⟨_, x, r', rp_lst.mpr ⟨p, vs, rfl, upd_same, RpL.mono x.ext _ _ rv⟩, h _ _ x r'⟩
theorem end_new {K : PySem.W.Frag} {mg : Str → Option Value} {W : Wd} {S : Store} {H : Hp} {o : O} {ho : HO} {Q : Wd → Hp → D → Store → Prop} (h : RPost K mg E W (.ok (.ref S.length) (S ++ [o])) Q) (r : Rel K mg W S H) (rv : HoR K mg W o ho) {p : Addr} (hp : H p = none) :
    ∃ W', Stp W W' ∧ Rel K mg W' (S ++ [o]) (upd H p ho) ∧ Rp K W' (.ref S.length) (.ref p) ∧ Q W' (upd H p ho) (.ref S.length) (S ++ [o]) := by
  have x : Stp W (W.new S.length p) := Stp.new (r.dom _ (Nat.le_refl _))
  have r' := r.new (ho := ho) hp rv
  exact ⟨_, x, r', rp_ref.mpr ⟨p, rfl, if_pos rfl⟩, h _ _ x r'⟩
def tupM (ds : List D) : M D := fun S => if ds.length ≤ sizeLine then .ok (.tup ds) S else .bad
def lstM (ds : List D) : M D := fun S => if ds.length ≤ sizeLine then .ok (.lst ds) S else .bad
def newL (ds : List D) : M D := fun S => if ds.length ≤ sizeLine then .ok (.ref S.length) (S ++ [.lst ds]) else .bad
def eTup (m : Env' → M (List D)) : ET := fun ρ => M.bind (m ρ) tupM
def eLst (m : Env' → M (List D)) : ET := fun ρ => M.bind (m ρ) lstM
def eNewL (m : Env' → M (List D)) : ET := fun ρ => M.bind (m ρ) newL
theorem pei_tup {x1} (h : PAI X E es mr) : PEI X E (.Tuple es x1 pos) (eTup mr) := PE.imp (pe_tup h) fun σ H Q ⟨W, ρ, S, r, re, q⟩ =>
  ⟨W, ρ, S, r, re, RPost.mono (RPost.bind q) fun W1 H1 ds S1 x1 r1 q1 vs rvs => by
    unfold tupM at q1
    split at q1
    · rename_i hz
      refine ⟨by rw [← rvs.length]; exact hz, fun p hp => ?_⟩
      obtain ⟨W', _, _, rp, q⟩ := end_tup q1 r1 rvs hp
      exact q _ rp
    · exact q1.elim⟩
theorem pei_lst (h : PAI X E es mr) : PEI X E (.List es pos) (eLst mr) := PE.imp (pe_lst h) fun σ H Q ⟨W, ρ, S, r, re, q⟩ =>
  ⟨W, ρ, S, r, re, RPost.mono (RPost.bind q) fun W1 H1 ds S1 x1 r1 q1 vs rvs => by
    unfold lstM at q1
    split at q1
    · rename_i hz
      refine ⟨by rw [← rvs.length]; exact hz, fun p hp => ?_⟩
      obtain ⟨W', _, _, rp, q⟩ := end_lst q1 r1 rvs hp
      exact q _ rp
    · exact q1.elim⟩
theorem pei_newL (h : PAI X E es mr) : PEI X E (.List es pos) (eNewL mr) := PE.imp (pe_lst h) fun σ H Q ⟨W, ρ, S, r, re, q⟩ =>
  ⟨W, ρ, S, r, re, RPost.mono (RPost.bind q) fun W1 H1 ds S1 x1 r1 q1 vs rvs => by
    unfold newL at q1
    split at q1
    · rename_i hz
      refine ⟨by rw [← rvs.length]; exact hz, fun p hp => ?_⟩
      obtain ⟨W', _, _, rp, q⟩ := end_new q1 r1 (.lst rvs) hp
      exact q _ rp
    · exact q1.elim⟩
end

/-! ### statements -/
def sNext : ST := fun ρ => M.ret (.nx ρ)
def sSeq (m n : ST) : ST := fun ρ => M.bind (m ρ) fun f => match f with
  | .nx ρ' => n ρ'
  | f => M.ret f
def sBreak : ST := fun ρ => M.ret (.bk ρ)
def sCont : ST := fun ρ => M.ret (.ct ρ)
def sDrop (m : ET) : ST := fun ρ => M.bind (m ρ) fun _ => M.ret (.nx ρ)
def sRet (m : ET) : ST := fun ρ => M.bind (m ρ) fun d => M.ret (.rt d)
def sIf (c : Env' → M Bool) (m n : ST) : ST := fun ρ => M.bind (c ρ) fun b => if b then m ρ else n ρ
def sSet (i : Nat) (m : ET) : ST := fun ρ => M.bind (m ρ) fun d => M.ret (.nx (ρ.set i (some d)))
def sBad : ST := fun _ => M.bad
section
variable {X : Cx} {E : XK} {st : Stmt} {rest : List Stmt} {m n : ST} {e : Expr} {me : ET} {pos : Pos}
theorem fl_nx {K : PySem.W.Frag} {mg : Str → Option Value} {W : Wd} {S : Store} {H : Hp} {ρ : Env'} {σ : L2.St} {Dn : Ends} (h : FlPost K mg E W (.ok (.nx ρ) S) Dn) (r : Rel K mg W S H) (re : RelE K W ρ σ) : Dn.nx σ H := h W H (Stp.refl W) r σ re
theorem pssi_nil : PSsI X E [] sNext := PSs.imp pss_nil fun Dn σ H ⟨W, ρ, S, r, re, q⟩ => fl_nx (S := S) q r re
theorem psi_pass : PSI X E (.Pass pos) sNext := PS.imp ps_pass fun Dn σ H ⟨W, ρ, S, r, re, q⟩ => fl_nx (S := S) q r re
theorem psi_break : PSI X E (.Break pos) sBreak := PS.imp ps_break fun Dn σ H ⟨W, ρ, S, r, re, q⟩ => RPost.here (S := S) (a := Fl.bk ρ) q r σ re
theorem psi_cont : PSI X E (.Continue pos) sCont := PS.imp ps_continue fun Dn σ H ⟨W, ρ, S, r, re, q⟩ => RPost.here (S := S) (a := Fl.ct ρ) q r σ re
theorem psi_doc {x j pos pos'} : PSI X E (.Expr (.Constant (.str x) j pos) pos') sNext := PS.imp ps_doc fun Dn σ H ⟨W, ρ, S, r, re, q⟩ => fl_nx (S := S) q r re
theorem sSeq_read {K : PySem.W.Frag} {mg : Str → Option Value} {Dn : Ends} {σ : L2.St} {H : Hp} (h : tS K mg E (sSeq m n) Dn σ H) : tS K mg E m { Dn with nx := tS K mg E n Dn } σ H := by
  obtain ⟨W, ρ, S, r, re, q⟩ := h
  refine ⟨W, ρ, S, r, re, RPost.mono (RPost.bind q) fun W1 H1 f S1 x1 r1 q1 => ?_⟩
  cases f with
  | nx ρ' => exact fun σ' re' => ⟨W1, ρ', S1, r1, re', q1⟩
  | rt d => exact RPost.here (S := S1) (a := Fl.rt d) q1 r1
  | bk ρ' => exact RPost.here (S := S1) (a := Fl.bk ρ') q1 r1
  | ct ρ' => exact RPost.here (S := S1) (a := Fl.ct ρ') q1 r1
theorem pssi_cons (h1 : PSI X E st m) (h2 : PSsI X E rest n) : PSsI X E (st :: rest) (sSeq m n) := PSs.imp (pss_cons h1 h2) fun _ _ _ h => sSeq_read h
theorem pssi_one (h1 : PSI X E st m) : PSsI X E [st] m := pss_one h1
theorem psi_expr (he : PEI X E e me) (hs : swapsWith e none pos.line X.env = pure false := by rfl) : PSI X E (.Expr e pos) (sDrop me) := PS.imp (ps_expr he hs) fun Dn σ H ⟨W, ρ, S, r, re, q⟩ =>
  ⟨W, ρ, S, r, re, RPost.mono (RPost.bind q) fun W1 H1 d S1 x1 r1 q1 v rv => fl_nx (S := S1) q1 r1 (re.mono x1.ext)⟩
theorem psi_ret (he : PEI X E e me) : PSI X E (.Return (some e) pos) (sRet me) := PS.imp (ps_ret he) fun Dn σ H ⟨W, ρ, S, r, re, q⟩ =>
  ⟨W, ρ, S, r, re, RPost.mono (RPost.bind q) fun W1 H1 d S1 x1 r1 q1 v rv => RPost.here (S := S1) (a := Fl.rt d) q1 r1 v rv⟩
theorem psi_retN : PSI X E (.Return none pos) (sRet (eC .non)) := PS.imp ps_retN fun Dn σ H ⟨W, ρ, S, r, re, q⟩ => RPost.here (S := S) (a := Fl.rt .non) q r _ (rp_non.mpr rfl)
theorem psi_if {c : Expr} {a b : List Stmt} {t : Env' → M Bool} (hc : PTI X E c t) (ha : PSsI X E a m) (hb : PSsI X E b n) : PSI X E (.If c a b pos) (sIf t m n) := PS.imp (ps_if hc ha hb) fun Dn σ H ⟨W, ρ, S, r, re, q⟩ =>
  ⟨W, ρ, S, r, re, RPost.mono (RPost.bind q) fun W1 H1 b S1 x1 r1 q1 => by
    cases b with
    | true => exact ⟨W1, ρ, S1, r1, re.mono x1.ext, q1⟩
    | false => exact ⟨W1, ρ, S1, r1, re.mono x1.ext, q1⟩⟩
theorem psi_bad : PSI X E st sBad := PS.imp ps_never fun Dn σ H ⟨W, ρ, S, r, re, q⟩ => q
theorem pssi_bad {sts : List Stmt} : PSsI X E sts sBad := PSs.imp pss_never fun Dn σ H ⟨W, ρ, S, r, re, q⟩ => q
theorem pei_bad {me : Expr} (h : PE X me (fun _ _ _ => False)) : PEI X E me (fun _ => M.bad) := PE.imp h fun σ H Q ⟨W, ρ, S, r, re, q⟩ => q
theorem gset_read {K : PySem.W.Frag} {mg : Str → Option Value} {i : Nat} {Dn : Ends} {σ : L2.St} {H : Hp} (h : tS K mg E (sSet i me) Dn σ H) : tE K mg E me σ H fun x H1 => gName i x σ H1 Dn.nx := by
  obtain ⟨W, ρ, S, r, re, q⟩ := h
  exact ⟨W, ρ, S, r, re, RPost.mono (RPost.bind q) fun W1 H1 d S1 x1 r1 q1 v rv => fl_nx (S := S1) q1 r1 ((re.mono x1.ext).set i rv)⟩
theorem psi_set {i : Nat} {x : Str} {pos' : Pos} (hN : X.N.Nodup) (hi : X.N[i]? = some x) (hx : Loc X.env.scope x) (he : PEI X E e me) (hs : swapsWith e (some (.Name x pos')) pos.line X.env = pure false := by rfl)
    (hf : X.fn x = true ∨ X.env.scope.names.lookup x = some .local := by first | exact .inl rfl | exact .inr rfl | assumption) : PSI X E (.Assign [.Name x pos'] e pos) (sSet i me) :=
  PS.imp (ps_set hN hi hx he hs hf) fun _ _ _ h => gset_read h
end

/-! ### while -/
def whileN (c : Env' → M Bool) (b : ST) : Nat → ST
  | 0 => fun _ => M.bad
  | n + 1 => fun ρ => M.bind (c ρ) fun k => if k then M.bind (b ρ) (fun f => match f with
      | .nx ρ' => whileN c b n ρ'
      | .ct ρ' => whileN c b n ρ'
      | .bk ρ' => M.ret (.nx ρ')
      | .rt d => M.ret (.rt d)) else M.ret (.nx ρ)
section
variable {X : Cx} {E : XK} {c : Expr} {body : List Stmt} {t : Env' → M Bool} {m : ST} {pos : Pos}
theorem psi_while (fuel : Nat) (hp : PassesOwn (model X.prog X.w) X.A X.env X.xe) (hc : PTI X E c t) (hb : PSsI X E body m) : PSI X E (.While c body [] pos) (whileN t m fuel) :=
  PS.imp (ps_while hp hc hb) fun Dn σ H h => by
    refine ⟨fun k σ H => tS X.K X.mg E (whileN t m k) Dn σ H, ⟨fuel, h⟩, fun k σ1 H1 h1 => ?_⟩
    obtain ⟨W, ρ, S, r, re, q⟩ := h1
    cases k with
    | zero => exact q.elim
    | succ k =>
      refine ⟨W, ρ, S, r, re, RPost.mono (RPost.bind q) fun W1 H1 b S1 x1 r1 q1 => ?_⟩
      cases b with
      | false => exact fl_nx (S := S1) q1 r1 (re.mono x1.ext)
      | true =>
        rw [if_pos rfl]
        refine ⟨fun σ' H' => tS X.K X.mg E (whileN t m k) Dn σ' H', fun σ' H' h' => ⟨k, Nat.lt_succ_self _, h'⟩, W1, ρ, S1, r1, re.mono x1.ext, RPost.mono (RPost.bind q1) fun W2 H2 f S2 x2 r2 q2 => ?_⟩
        cases f with
        | nx ρ' => exact fun σ' re' => ⟨W2, ρ', S2, r2, re', q2⟩
        | ct ρ' => exact fun σ' re' => ⟨W2, ρ', S2, r2, re', q2⟩
        | rt d => exact RPost.here (S := S2) (a := Fl.rt d) q2 r2
        | bk ρ' => exact RPost.here (S := S2) (a := Fl.nx ρ') q2 r2
end
end SL
/-! S2: operators on values, subscripts, slices, built-ins, methods. -/
namespace SL
open PySem PySem.Spec PyProof.Rows L2

/-! ### sequences -/
def asL (S : Store) : D → Option (List D)
  | .lst l => some l
  | .ref n => match S[n]? with
    | some (.lst l) => some l
    | _ => none
  | _ => none
/-- any list that may be read -/
def asR (S : Store) : D → Option (List D)
  | .fro l => some l
  | d => asL S d
def asQ (S : Store) : D → Option (List D)
  | .tup l => some l
  | d => asR S d
section
variable {K : PySem.W.Frag} {mg : Str → Option Value} {W : Wd} {S : Store} {H : Hp} {v : V}
theorem ref_at (r : Rel K mg W S H) {n : Nat} {o : O} (rv : Rp K W (.ref n) v) (e : S[n]? = some o) (hl : liveO o = true) : ∃ a ho, v = .ref a ∧ W.φ n = some a ∧ H a = some ho ∧ HoR K mg W o ho := by
  obtain ⟨a, e1, e2⟩ := rp_ref.mp rv
  obtain ⟨b, ho, h1, h2, h3, h4, h5⟩ := r.obj n o e hl
  rw [e2] at h1; cases h1
  exact ⟨a, ho, e1, e2, h4, h5⟩
theorem asL_at (r : Rel K mg W S H) : ∀ {d : D} {l : List D}, Rp K W d v → asL S d = some l → ∃ a xs, v = .ref a ∧ H a = some (.lst xs) ∧ RpL K W l xs
  | .lst l, l', rv, e => by
    have e' : l = l' := Option.some.inj e
    subst e'
    obtain ⟨a, xs, h1, h2, h3⟩ := rp_lst.mp rv
    exact ⟨a, xs, h1, r.sub _ _ h2, h3⟩
  | .ref n, l', rv, e => by
    cases q : S[n]? with
    | none => simp only [asL, q] at e; cases e
    | some o =>
      simp only [asL, q] at e
      cases o with
      | lst l =>
        have e' : l = l' := Option.some.inj e
        subst e'
        obtain ⟨a, ho, h1, h2, h3, h4⟩ := ref_at r rv q rfl
        cases h4 with
        | lst h4 => exact ⟨a, _, h1, h3, h4⟩
      | _ => cases e
  | .non, _, _, e | .bl _, _, _, e | .int _, _, _, e | .str _, _, _, e | .tup _, _, _, e | .fro _, _, _, e => by cases e
theorem asR_at (r : Rel K mg W S H) {d : D} {l : List D} (rv : Rp K W d v) (e : asR S d = some l) : ∃ a xs, v = .ref a ∧ SqL K H a xs ∧ RpL K W l xs := by
  cases d with
  | fro l' =>
    have e' : l' = l := Option.some.inj e
    subst e'
    obtain ⟨a, xs, h1, h2, h3⟩ := rp_fro.mp rv
    exact ⟨a, xs, h1, Same.seqL r.sub h2, h3⟩
  | _ =>
    obtain ⟨a, xs, h1, h2, h3⟩ := asL_at r rv e
    exact ⟨a, xs, h1, .inl (.inl h2), h3⟩
theorem asQ_at (r : Rel K mg W S H) {d : D} {l : List D} (rv : Rp K W d v) (e : asQ S d = some l) : ∃ a xs, v = .ref a ∧ (SqL K H a xs ∨ SqT K H a xs) ∧ RpL K W l xs := by
  cases d with
  | tup l' =>
    have e' : l' = l := Option.some.inj e
    subst e'
    obtain ⟨a, xs, h1, h2, h3⟩ := rp_tup.mp rv
    exact ⟨a, xs, h1, .inr (.inl (.inl (r.sub _ _ h2))), h3⟩
  | _ =>
    obtain ⟨a, xs, h1, h2, h3⟩ := asR_at r rv e
    exact ⟨a, xs, h1, .inl h2, h3⟩
end

/-! ### the ends, by values -/
section
variable {K : PySem.W.Frag} {mg : Str → Option Value} {E : XK} {W : Wd} {S : Store} {H : Hp} {Q : VK}
theorem tO.val {d : D} {v : V} {o : M D} (h : tO K mg E o W S Q) (e : o S = .ok d S) (r : Rel K mg W S H) (rv : Rp K W d v) : Q v H := by
  unfold tO at h
  rw [e] at h
  exact RPost.here h r v rv
theorem tO.tup {ds : List D} {vs : List V} {o : M D} (h : tO K mg E o W S Q) (e : o S = .ok (.tup ds) S) (r : Rel K mg W S H) (rv : RpL K W ds vs) {p : Addr} (hp : H p = none) : Q (.ref p) (upd H p (.tup vs)) := by
  unfold tO at h
  rw [e] at h
  obtain ⟨W', _, _, rp, q⟩ := end_tup h r rv hp
  exact q _ rp
theorem tO.lst {ds : List D} {vs : List V} {o : M D} (h : tO K mg E o W S Q) (e : o S = .ok (.lst ds) S) (r : Rel K mg W S H) (rv : RpL K W ds vs) {p : Addr} (hp : H p = none) : Q (.ref p) (upd H p (.lst vs)) := by
  unfold tO at h
  rw [e] at h
  obtain ⟨W', _, _, rp, q⟩ := end_lst h r rv hp
  exact q _ rp
theorem tO.new {u : O} {ho : HO} {o : M D} (h : tO K mg E o W S Q) (e : o S = .ok (.ref S.length) (S ++ [u])) (r : Rel K mg W S H) (rv : HoR K mg W u ho) {p : Addr} (hp : H p = none) : Q (.ref p) (upd H p ho) := by
  unfold tO at h
  rw [e] at h
  obtain ⟨W', _, _, rp, q⟩ := end_new h r rv hp
  exact q _ rp
/-- an object of the store has been changed -/
theorem tO.put {d : D} {v : V} {u u' : O} {ho : HO} {n : Nat} {a : Addr} {o : M D} (h : tO K mg E o W S Q) (e : o S = .ok d (S.set n u')) (r : Rel K mg W S H) (he : S[n]? = some u) (hl : liveO u = true) (ha : W.φ n = some a)
    (hr : HoR K mg W u' ho) (rv : Rp K W d v) : Q v (upd H a ho) := by
  unfold tO at h
  rw [e] at h
  exact h W _ (Stp.refl W) (r.put he hl ha hr) v rv
theorem tO.no {o : M D} (h : tO K mg E o W S Q) (e : o S = .bad) : False := by
  unfold tO at h
  rw [e] at h
  exact h
end

/-! ### arithmetic -/
def addM (a b : D) : M D := fun S => match a, b with
  | .int i, .int j => .ok (.int (i + j)) S
  | .tup x, .tup y => if x.length + y.length ≤ sizeLine then .ok (.tup (x ++ y)) S else .bad
  | a, b => match asL S a, asL S b with
    | some x, some y => if x.length + y.length ≤ sizeLine then .ok (.lst (x ++ y)) S else .bad
    | _, _ => .bad
def subM (a b : D) : M D := fun S => match a, b with
  | .int i, .int j => .ok (.int (i - j)) S
  | _, _ => .bad
/-- the factors' sizes together below a million bits -/
def mulOk (i j : Int) : Bool := decide (i.natAbs.log2 + j.natAbs.log2 < 1000000)
def mulM (a b : D) : M D := fun S => match a, b with
  | .int i, .int j => if mulOk i j then .ok (.int (i * j)) S else .bad
  | _, _ => .bad
/-- a list times a number -/
def repL (a b : D) : M D := fun S => match asL S a, b with
  | some x, .int k => if -(2 ^ 63) ≤ k ∧ k < 2 ^ 63 ∧ x.length * k.toNat ≤ sizeLine then .ok (.lst (List.replicate k.toNat x).flatten) S else .bad
  | _, _ => .bad
def divOk (j : Int) : Bool := decide (0 < j ∧ j.natAbs.log2 < 9000)
def divM (a b : D) : M D := fun S => match a, b with
  | .int i, .int j => if divOk j then .ok (.int (i / j)) S else .bad
  | _, _ => .bad
def modM (a b : D) : M D := fun S => match a, b with
  | .int i, .int j => if decide (0 < j) then .ok (.int (i % j)) S else .bad
  | _, _ => .bad
def powM (a b : D) : M D := fun S => match a, b with
  | .int i, .int j => if decide (0 ≤ j ∧ j ≤ 1000 ∧ i.natAbs < 2 ^ 64) then .ok (.int (i ^ j.toNat)) S else .bad
  | _, _ => .bad
section
variable {X : Cx} {E : XK}
theorem o_add_cases (a b : D) (S : Store) : (∃ i j, a = .int i ∧ b = .int j) ∨ (∃ x y, a = .tup x ∧ b = .tup y) ∨ (addM a b S = match asL S a, asL S b with
    | some x, some y => if x.length + y.length ≤ sizeLine then .ok (.lst (x ++ y)) S else .bad
    | _, _ => .bad) := by
  cases a <;> cases b <;> first
    | exact .inl ⟨_, _, rfl, rfl⟩
    | exact .inr (.inl ⟨_, _, rfl, rfl⟩)
    | exact .inr (.inr rfl)
theorem o_add : O2 X E (binaryOp .Add) addM := by
  intro pins s σ H x y v u Q I rx ry ⟨W, S, a, b, r, ra, rb, q⟩
  rcases o_add_cases a b S with ⟨i, j, rfl, rfl⟩ | ⟨l, m, rfl, rfl⟩ | ea
  · exact op_add pins s σ H x y v u Q I rx ry ⟨i, j, rp_int.mp ra, rp_int.mp rb, q.val rfl r (rp_int.mpr rfl)⟩
  · obtain ⟨a, xs, e1, h1, l1⟩ := rp_tup.mp ra
    obtain ⟨b, ys, e2, h2, l2⟩ := rp_tup.mp rb
    by_cases hz : l.length + m.length ≤ sizeLine
    · have e : addM (.tup l) (.tup m) S = .ok (.tup (l ++ m)) S := if_pos hz
      refine op_catA pins s σ H x y v u Q I rx ry ⟨a, b, xs, ys, e1, e2, SqT.of (r.sub _ _ h1), SqT.of (r.sub _ _ h2), by rw [← l1.length, ← l2.length]; exact hz, fun hx => ?_, fun _ hy => ?_, fun _ _ p hp => ?_⟩
      · subst hx
        have : l = [] := by cases l with
          | nil => rfl
          | cons d ds => exact absurd l1.length (by simp)
        subst this
        rw [← e2]; exact q.val e r (by simpa using rb)
      · subst hy
        have : m = [] := by cases m with
          | nil => rfl
          | cons d ds => exact absurd l2.length (by simp)
        subst this
        rw [← e1]; exact q.val e r (by simpa using ra)
      · exact q.tup e r (l1.append l2) hp
    · exact (q.no (if_neg hz)).elim
  · cases e1 : asL S a with
    | none => rw [e1] at ea; exact (q.no ea).elim
    | some l =>
      cases e2 : asL S b with
      | none => rw [e1, e2] at ea; exact (q.no ea).elim
      | some m =>
        rw [e1, e2] at ea
        obtain ⟨a', xs, h1, h2, h3⟩ := asL_at r ra e1
        obtain ⟨b', ys, k1, k2, k3⟩ := asL_at r rb e2
        by_cases hz : l.length + m.length ≤ sizeLine
        · have ea : addM a b S = .ok (.lst (l ++ m)) S := ea.trans (if_pos hz)
          exact op_cat pins s σ H x y v u Q I rx ry ⟨a', b', xs, ys, h1, k1, h2, k2, by rw [← h3.length, ← k3.length]; exact hz, fun p hp => q.lst ea r (h3.append k3) hp⟩
        · exact (q.no (ea.trans (if_neg hz))).elim
theorem o_repL : O2 X E (binaryOp .Mult) repL := by
  intro pins s σ H x y v u Q I rx ry ⟨W, S, a, b, r, ra, rb, q⟩
  cases e1 : asL S a with
  | none => exact (q.no (by unfold repL; rw [e1])).elim
  | some l =>
    cases b with
    | int k =>
      obtain ⟨a', xs, h1, h2, h3⟩ := asL_at r ra e1
      by_cases hz : -(2 ^ 63) ≤ k ∧ k < 2 ^ 63 ∧ l.length * k.toNat ≤ sizeLine
      · have ea : repL a (.int k) S = .ok (.lst (List.replicate k.toNat l).flatten) S := by unfold repL; rw [e1]; exact if_pos hz
        refine op_rep pins s σ H x y v u Q I rx ry ⟨a', k, xs, h1, rp_int.mp rb, h2, hz.1, hz.2.1, by rw [← h3.length]; exact hz.2.2, fun p hp => q.lst ea r ?_ hp⟩
        generalize k.toNat = n
        induction n with
        | zero => exact .nil
        | succ n ih => rw [List.replicate_succ, List.replicate_succ, List.flatten_cons, List.flatten_cons]; exact h3.append ih
      · exact (q.no (by unfold repL; rw [e1]; exact if_neg hz)).elim
    | _ => exact (q.no (by unfold repL; rw [e1])).elim
/-- ints -/
theorem o_ii {f : Value → Value → Sem Value} {o : D → D → M D} {C : Int → Int → Prop} {g : Int → Int → V} (h : OpR X f (rI C g)) (ho : ∀ a b S, (∃ i j d, a = .int i ∧ b = .int j ∧ C i j ∧ o a b S = .ok d S ∧ ∀ W, Rp X.K W d (g i j)) ∨ o a b S = .bad) : O2 X E f o := by
  intro pins s σ H x y v u Q I rx ry ⟨W, S, a, b, r, ra, rb, q⟩
  rcases ho a b S with ⟨i, j, d, rfl, rfl, hc, e, hd⟩ | e
  · exact h pins s σ H x y v u Q I rx ry ⟨i, j, rp_int.mp ra, rp_int.mp rb, hc, q.val e r (hd W)⟩
  · exact (q.no e).elim
theorem o_ii0 {f : Value → Value → Sem Value} {o : D → D → M D} {g : Int → Int → V} (h : OpR X f (rI0 g)) (ho : ∀ a b S, (∃ i j d, a = .int i ∧ b = .int j ∧ o a b S = .ok d S ∧ ∀ W, Rp X.K W d (g i j)) ∨ o a b S = .bad) : O2 X E f o := by
  intro pins s σ H x y v u Q I rx ry ⟨W, S, a, b, r, ra, rb, q⟩
  rcases ho a b S with ⟨i, j, d, rfl, rfl, e, hd⟩ | e
  · exact h pins s σ H x y v u Q I rx ry ⟨i, j, rp_int.mp ra, rp_int.mp rb, q.val e r (hd W)⟩
  · exact (q.no e).elim
theorem o_sub : O2 X E (binaryOp .Sub) subM := o_ii0 op_sub fun a b S => by
  cases a <;> cases b <;> first
    | exact .inl ⟨_, _, _, rfl, rfl, rfl, fun W => rp_int.mpr rfl⟩
    | exact .inr rfl
theorem o_mul : O2 X E (binaryOp .Mult) mulM := o_ii op_mulW fun a b S => by
  cases a <;> cases b <;> first
    | exact .inr rfl
    | skip
  rename_i i j
  by_cases h : mulOk i j = true
  · exact .inl ⟨i, j, _, rfl, rfl, of_decide_eq_true (p := i.natAbs.log2 + j.natAbs.log2 < 1000000) h, if_pos h, fun W => rp_int.mpr rfl⟩
  · exact .inr (if_neg h)
theorem o_div : O2 X E (binaryOp .FloorDiv) divM := o_ii op_fdivW fun a b S => by
  cases a <;> cases b <;> first
    | exact .inr rfl
    | skip
  rename_i i j
  by_cases h : divOk j = true
  · exact .inl ⟨i, j, _, rfl, rfl, of_decide_eq_true (p := 0 < j ∧ j.natAbs.log2 < 9000) h, if_pos h, fun W => rp_int.mpr rfl⟩
  · exact .inr (if_neg h)
theorem o_mod : O2 X E (binaryOp .Mod) modM := o_ii op_mod fun a b S => by
  cases a <;> cases b <;> first
    | exact .inr rfl
    | skip
  rename_i i j
  by_cases h : decide (0 < j) = true
  · exact .inl ⟨_, _, _, rfl, rfl, of_decide_eq_true h, if_pos h, fun W => rp_int.mpr rfl⟩
  · exact .inr (if_neg h)
theorem o_pow : O2 X E (binaryOp .Pow) powM := o_ii op_pow fun a b S => by
  cases a <;> cases b <;> first
    | exact .inr rfl
    | skip
  rename_i i j
  by_cases h : decide (0 ≤ j ∧ j ≤ 1000 ∧ i.natAbs < 2 ^ 64) = true
  · have h' := of_decide_eq_true h
    exact .inl ⟨_, _, _, rfl, rfl, ⟨h'.1, by have := h'.2.1; omega, h'.2.2⟩, if_pos h, fun W => rp_int.mpr rfl⟩
  · exact .inr (if_neg h)
def negM (a : D) : M D := fun S => match a with
  | .int i => .ok (.int (-i)) S
  | _ => .bad
theorem o_neg : UnR X (unaryOp .USub) (rO1 X.K X.mg E negM) := by
  intro pins s σ H x v Q I rx ⟨W, S, a, r, ra, q⟩
  cases a with
  | int i => exact un_neg pins s σ H x v Q I rx ⟨i, rp_int.mp ra, q.val rfl r (rp_int.mpr rfl)⟩
  | _ => exact (q.no rfl).elim
end

/-! ### comparisons -/
def cmpM (p : Int → Int → Bool) (a b : D) : M D := fun S => match a, b with
  | .int i, .int j => .ok (.bl (p i j)) S
  | _, _ => .bad
section
variable {X : Cx} {E : XK}
theorem o_cmp {f : Value → Value → Sem Value} {p : Int → Int → Bool} (h : OpR X f (rI0 fun i j => .bl (p i j))) : O2 X E f (cmpM p) := o_ii0 h fun a b S => by
  cases a <;> cases b <;> first
    | exact .inl ⟨_, _, _, rfl, rfl, rfl, fun W => rp_bl.mpr rfl⟩
    | exact .inr rfl
theorem o_lt : O2 X E (compareOp .Lt) (cmpM fun i j => decide (i < j)) := o_cmp op_lt
theorem o_le : O2 X E (compareOp .LtE) (cmpM fun i j => decide (i ≤ j)) := o_cmp op_le
theorem o_gt : O2 X E (compareOp .Gt) (cmpM fun i j => decide (j < i)) := o_cmp op_gt
theorem o_ge : O2 X E (compareOp .GtE) (cmpM fun i j => decide (j ≤ i)) := o_cmp op_ge
/-- is None -/
def isNonD : D → Bool
  | .non => true
  | .bl _ => false
  | .int _ => false
  | .str _ => false
  | .tup _ => false
  | .lst _ => false
  | .fro _ => false
  | .ref _ => false
def isN (a b : D) : M D := fun S => match b with
  | .non => .ok (.bl (isNonD a)) S
  | _ => .bad
def isNotN (a b : D) : M D := fun S => match b with
  | .non => .ok (.bl (!isNonD a)) S
  | _ => .bad
theorem rp_isnon {K : PySem.W.Frag} {W : Wd} {a : D} {v : V} (h : Rp K W a v) : decide (v = .non) = isNonD a := by
  cases a with
  | non => cases rp_non.mp h; rfl
  | bl b => cases rp_bl.mp h; rfl
  | int b => cases rp_int.mp h; rfl
  | str b => cases rp_str.mp h; rfl
  | tup l => obtain ⟨a, xs, rfl, _⟩ := rp_tup.mp h; rfl
  | lst l => obtain ⟨a, xs, rfl, _⟩ := rp_lst.mp h; rfl
  | fro l => obtain ⟨a, xs, rfl, _⟩ := rp_fro.mp h; rfl
  | ref n => obtain ⟨a, rfl, _⟩ := rp_ref.mp h; rfl
theorem o_isN : O2 X E (compareOp .Is) isN := by
  intro pins s σ H x y v u Q I rx ry ⟨W, S, a, b, r, ra, rb, q⟩
  cases b with
  | non => exact op_isN pins s σ H x y v u Q I rx ry ⟨rp_non.mp rb, q.val rfl r (rp_bl.mpr (by rw [rp_isnon ra]))⟩
  | _ => exact (q.no rfl).elim
theorem o_isNotN : O2 X E (compareOp .IsNot) isNotN := by
  intro pins s σ H x y v u Q I rx ry ⟨W, S, a, b, r, ra, rb, q⟩
  cases b with
  | non => exact op_notN pins s σ H x y v u Q I rx ry ⟨rp_non.mp rb, q.val rfl r (rp_bl.mpr (by rw [rp_isnon ra]))⟩
  | _ => exact (q.no rfl).elim
end

/-! ### data -/
mutual
def dpy : D → Option PyData
  | .non => some .none
  | .bl b => some (.bool b)
  | .int i => some (.int i)
  | .str x => some (.str x)
  | .tup l => (dpyL l).map .tuple
  | .lst l => (dpyL l).map .list
  | .fro l => (dpyL l).map .list
  | .ref _ => none
def dpyL : List D → Option (List PyData)
  | [] => some []
  | d :: ds => match dpy d, dpyL ds with
    | some x, some xs => some (x :: xs)
    | _, _ => none
end
/-- a list of the store as it stands -/
def rs (S : Store) : D → D
  | .ref n => match S[n]? with
    | some (.lst l) => .fro l
    | _ => .ref n
  | d => d
section
variable {K : PySem.W.Frag} {mg : Str → Option Value} {W : Wd} {S : Store} {H : Hp}
mutual
theorem dp_of (r : Rel K mg W S H) : ∀ (d : D) (p : PyData) (v : V), dpy d = some p → Rp K W d v → Dp K H v p
  | .non, p, v, e, h => by
    have e' : PyData.none = p := by simpa [dpy] using e
    subst e'; rw [rp_non.mp h]; exact .non
  | .bl b, p, v, e, h => by
    have e' : PyData.bool b = p := by simpa [dpy] using e
    subst e'; rw [rp_bl.mp h]; exact .bl b
  | .int b, p, v, e, h => by
    have e' : PyData.int b = p := by simpa [dpy] using e
    subst e'; rw [rp_int.mp h]; exact .int b
  | .str b, p, v, e, h => by
    have e' : PyData.str b = p := by simpa [dpy] using e
    subst e'; rw [rp_str.mp h]; exact .str b
  | .tup l, p, v, e, h => by
    obtain ⟨ps, e1, e2⟩ := Option.map_eq_some_iff.mp (show (dpyL l).map PyData.tuple = some p by simpa [dpy] using e)
    subst e2
    obtain ⟨a, xs, rfl, h1, h2⟩ := rp_tup.mp h
    exact .tup (SqT.of (r.sub _ _ h1)) (dp_ofL r l ps xs e1 h2)
  | .lst l, p, v, e, h => by
    obtain ⟨ps, e1, e2⟩ := Option.map_eq_some_iff.mp (show (dpyL l).map PyData.list = some p by simpa [dpy] using e)
    subst e2
    obtain ⟨a, xs, rfl, h1, h2⟩ := rp_lst.mp h
    exact .lst (.inl (.inl (r.sub _ _ h1))) (dp_ofL r l ps xs e1 h2)
  | .fro l, p, v, e, h => by
    obtain ⟨ps, e1, e2⟩ := Option.map_eq_some_iff.mp (show (dpyL l).map PyData.list = some p by simpa [dpy] using e)
    subst e2
    obtain ⟨a, xs, rfl, h1, h2⟩ := rp_fro.mp h
    exact .lst (Same.seqL r.sub h1) (dp_ofL r l ps xs e1 h2)
  | .ref n, p, v, e, h => by simp [dpy] at e
theorem dp_ofL (r : Rel K mg W S H) : ∀ (ds : List D) (ps : List PyData) (vs : List V), dpyL ds = some ps → RpL K W ds vs → DpAll K H vs ps
  | [], ps, vs, e, h => by
    have e' : [] = ps := by simpa [dpyL] using e
    subst e'; rw [rpl_nil.mp h]; exact .nil
  | d :: ds, ps, vs, e, h => by
    obtain ⟨x, xs, rfl, h1, h2⟩ := rpl_cons.mp h
    unfold dpyL at e
    cases e1 : dpy d with
    | none => rw [e1] at e; cases e
    | some p =>
      cases e2 : dpyL ds with
      | none => rw [e1, e2] at e; cases e
      | some qs =>
        rw [e1, e2] at e
        have e' : p :: qs = ps := Option.some.inj e
        subst e'
        exact .cons (dp_of r d p x e1 h1) (dp_ofL r ds qs xs e2 h2)
end
theorem dp_rs (r : Rel K mg W S H) {d : D} {p : PyData} {v : V} (e : dpy (rs S d) = some p) (h : Rp K W d v) : Dp K H v p := by
  cases d with
  | ref n =>
    unfold rs at e
    cases q : S[n]? with
    | none => simp only [q] at e; simp [dpy] at e
    | some o =>
      cases o with
      | lst l =>
        simp only [q] at e
        obtain ⟨ps, e1, e2⟩ := Option.map_eq_some_iff.mp (show (dpyL l).map PyData.list = some p by simpa [dpy] using e)
        subst e2
        obtain ⟨a, ho, rfl, h2, h3, h4⟩ := ref_at r h q rfl
        cases h4 with
        | lst h4 => exact .lst (.inl (.inl h3)) (dp_ofL r l ps _ e1 h4)
      | _ => simp only [q] at e; simp [dpy] at e
  | _ => exact dp_of r _ p v e h
end
def eqD (S : Store) (a b : D) : Option Bool := match dpy (rs S a), dpy (rs S b) with
  | some p, some q => if (SeqAt.shaped p && SeqAt.shaped q) = true then some (PyData.eqv p q) else none
  | _, _ => none
def eqM (a b : D) : M D := fun S => match eqD S a b with
  | some k => .ok (.bl k) S
  | none => .bad
def neM (a b : D) : M D := fun S => match eqD S a b with
  | some k => .ok (.bl (!k)) S
  | none => .bad
/-- x in a list -/
def anyD (S : Store) (x : D) (l : D) : Option Bool := match dpy (rs S x), dpy (rs S l) with
  | some p, some (.list ps) => if (SeqAt.shaped p && SeqAt.shaped (.list ps)) = true then some (ps.any fun z => PyData.eqv z p) else none
  | _, _ => none
def inL (x l : D) : M D := fun S => match anyD S x l with
  | some k => .ok (.bl k) S
  | none => .bad
def notInL (x l : D) : M D := fun S => match anyD S x l with
  | some k => .ok (.bl (!k)) S
  | none => .bad
section
variable {X : Cx} {E : XK}
theorem eqD_at {S : Store} {a b : D} {k : Bool} (e : eqD S a b = some k) : ∃ p q, dpy (rs S a) = some p ∧ dpy (rs S b) = some q ∧ SeqAt.shaped p = true ∧ SeqAt.shaped q = true ∧ k = PyData.eqv p q := by
  unfold eqD at e
  cases e1 : dpy (rs S a) with
  | none => simp only [e1] at e; cases e
  | some p =>
    cases e2 : dpy (rs S b) with
    | none => simp only [e1, e2] at e; cases e
    | some q =>
      simp only [e1, e2] at e
      split at e
      · rename_i h
        rw [Bool.and_eq_true] at h
        exact ⟨p, q, rfl, rfl, h.1, h.2, (Option.some.inj e).symm⟩
      · cases e
theorem o_eq (hu : X.A.units + 64 < cLine) : O2 X E (compareOp .Eq) eqM := by
  intro pins s σ H x y v u Q I rx ry ⟨W, S, a, b, r, ra, rb, q⟩
  cases e : eqD S a b with
  | none => exact (q.no (by unfold eqM; rw [e])).elim
  | some k =>
    obtain ⟨p, p', e1, e2, s1, s2, rfl⟩ := eqD_at e
    exact op_eqD hu pins s σ H x y v u Q I rx ry ⟨p, p', dp_rs r e1 ra, dp_rs r e2 rb, s1, s2, q.val (by unfold eqM; rw [e]) r (rp_bl.mpr rfl)⟩
theorem o_ne (hu : X.A.units + 64 < cLine) : O2 X E (compareOp .NotEq) neM := by
  intro pins s σ H x y v u Q I rx ry ⟨W, S, a, b, r, ra, rb, q⟩
  cases e : eqD S a b with
  | none => exact (q.no (by unfold neM; rw [e])).elim
  | some k =>
    obtain ⟨p, p', e1, e2, s1, s2, rfl⟩ := eqD_at e
    exact op_neD hu pins s σ H x y v u Q I rx ry ⟨p, p', dp_rs r e1 ra, dp_rs r e2 rb, s1, s2, q.val (by unfold neM; rw [e]) r (rp_bl.mpr rfl)⟩
theorem anyD_at {S : Store} {a b : D} {k : Bool} (e : anyD S a b = some k) : ∃ p ps, dpy (rs S a) = some p ∧ dpy (rs S b) = some (.list ps) ∧ SeqAt.shaped p = true ∧ SeqAt.shaped (.list ps) = true ∧ k = ps.any fun z => PyData.eqv z p := by
  unfold anyD at e
  cases e1 : dpy (rs S a) with
  | none => simp only [e1] at e; cases e
  | some p =>
    cases e2 : dpy (rs S b) with
    | none => simp only [e1, e2] at e; cases e
    | some q =>
      cases q with
      | list ps =>
        simp only [e1, e2] at e
        split at e
        · rename_i h
          rw [Bool.and_eq_true] at h
          exact ⟨p, ps, rfl, rfl, h.1, h.2, (Option.some.inj e).symm⟩
        · cases e
      | _ => simp only [e1, e2] at e; cases e
theorem o_inL (hu : X.A.units + 65 < cLine) : O2 X E (compareOp .In) inL := by
  intro pins s σ H x y v u Q I rx ry ⟨W, S, a, b, r, ra, rb, q⟩
  cases e : anyD S a b with
  | none => exact (q.no (by unfold inL; rw [e])).elim
  | some k =>
    obtain ⟨p, p', e1, e2, s1, s2, rfl⟩ := anyD_at e
    exact op_inD hu pins s σ H x y v u Q I rx ry ⟨p, p', dp_rs r e1 ra, dp_rs r e2 rb, s1, s2, q.val (by unfold inL; rw [e]) r (rp_bl.mpr rfl)⟩
theorem o_notInL (hu : X.A.units + 65 < cLine) : O2 X E (compareOp .NotIn) notInL := by
  intro pins s σ H x y v u Q I rx ry ⟨W, S, a, b, r, ra, rb, q⟩
  cases e : anyD S a b with
  | none => exact (q.no (by unfold notInL; rw [e])).elim
  | some k =>
    obtain ⟨p, p', e1, e2, s1, s2, rfl⟩ := anyD_at e
    exact op_notInD hu pins s σ H x y v u Q I rx ry ⟨p, p', dp_rs r e1 ra, dp_rs r e2 rb, s1, s2, q.val (by unfold notInL; rw [e]) r (rp_bl.mpr rfl)⟩
end
end SL
/-! S3: subscripts, slices, built-ins, methods, dicts. -/
namespace SL
open PySem PySem.Spec PyProof.Rows L2

section
variable {K : PySem.W.Frag} {mg : Str → Option Value} {W : Wd} {S : Store} {H : Hp} {v : V}
theorem RpL.atI {ds : List D} {vs : List V} {i : Int} {d : D} (h : RpL K W ds vs) (e : atI ds i = some d) : ∃ v, atI vs i = some v ∧ Rp K W d v := by
  unfold L2.atI at e ⊢
  rw [← h.length]
  obtain ⟨j, h1, h2⟩ := Option.bind_eq_some_iff.mp e
  obtain ⟨v, h3, h4⟩ := h.get h2
  exact ⟨v, by rw [h1]; exact h3, h4⟩
end
def ixM (a b : D) : M D := fun S => match asQ S a, b with
  | some l, .int i => match atI l i with
    | some d => .ok d S
    | none => .bad
  | _, _ => .bad
section
variable {X : Cx} {E : XK}
theorem ix_S : IxR X (rO2 X.K X.mg E ixM) := by
  intro value slice pins s σ H x y v u Q I rx ry ⟨W, S, a, b, r, ra, rb, q⟩ hs
  cases e1 : asQ S a with
  | none => exact (q.no (by unfold ixM; rw [e1])).elim
  | some l =>
    cases b with
    | int i =>
      cases e2 : atI l i with
      | none => exact (q.no (by unfold ixM; rw [e1]; simp only [e2])).elim
      | some d =>
        have e : ixM a (.int i) S = .ok d S := by unfold ixM; rw [e1]; simp only [e2]
        obtain ⟨p, xs, h1, h2, h3⟩ := asQ_at r ra e1
        obtain ⟨w, k1, k2⟩ := h3.atI e2
        rcases h2 with h2 | h2
        · exact ix_list value slice pins s σ H x y v u Q I rx ry ⟨p, xs, i, w, h1, rp_int.mp rb, h2, k1, q.val e r k2⟩ hs
        · exact ix_tup value slice pins s σ H x y v u Q I rx ry ⟨p, xs, i, w, h1, rp_int.mp rb, h2, k1, q.val e r k2⟩ hs
    | _ => exact (q.no (by unfold ixM; rw [e1])).elim
variable {a b : Expr} {ma mb : ET} {pos p2 : Pos}
theorem pei_ix (ha : PEI X E a ma) (hb : PEI X E b mb) (hs : PlainIx b) : PEI X E (.Subscript a b pos) (e2 ixM ma mb) := PE.imp (pe_ix ix_S ha hb hs) fun _ _ _ h => e2_read h
end

/-! ### slices -/
def cutD (xs : List D) (lo hi : Option Int) : List D := (xs.drop (HT.sIx xs.length 0 lo)).take (HT.sIx xs.length xs.length hi - HT.sIx xs.length 0 lo)
theorem RpL.cut {K : PySem.W.Frag} {W : Wd} {ds : List D} {vs : List V} (h : RpL K W ds vs) (lo hi : Option Int) : RpL K W (cutD ds lo hi) (cutV vs lo hi) := by
  unfold cutD cutV
  rw [h.length]
  exact (h.drop _).take _
def slM (lo hi : Option Int) (a : D) : M D := fun S => match a with
  | .tup l => .ok (.tup (cutD l lo hi)) S
  | a => match asR S a with
    | some l => .ok (.lst (cutD l lo hi)) S
    | none => .bad
def rSl (K : PySem.W.Frag) (mg : Str → Option Value) (E : XK) : V → Option Int → Option Int → Hp → VK → Prop := fun x lo hi H Q => ∃ W S a, Rel K mg W S H ∧ Rp K W a x ∧ tO K mg E (slM lo hi a) W S Q
theorem slM_cases (lo hi : Option Int) (a : D) (S : Store) : (∃ l, a = .tup l) ∨ slM lo hi a S = match asR S a with
    | some l => .ok (.lst (cutD l lo hi)) S
    | none => .bad := by
  cases a <;> first
    | exact .inl ⟨_, rfl⟩
    | exact .inr rfl
theorem sIx_whole {n : Nat} {lo hi : Option Int} (h : HT.sIx n 0 lo = 0 ∧ HT.sIx n n hi = n) (xs : List D) (hl : xs.length = n) : cutD xs lo hi = xs := by
  unfold cutD
  rw [hl, h.1, h.2]
  simp [← hl]
section
variable {X : Cx} {E : XK}
theorem sl_S : SlR X (rSl X.K X.mg E) := by
  intro pins s σ H x v vl vu lo hi sl Q I rx hs pl pu ⟨W, S, a, r, ra, q⟩
  rcases slM_cases lo hi a S with ⟨l, rfl⟩ | e
  · obtain ⟨p, xs, h1, h2, h3⟩ := rp_tup.mp ra
    have e : slM lo hi (.tup l) S = .ok (.tup (cutD l lo hi)) S := rfl
    refine sl_tupA pins s σ H x v vl vu lo hi sl Q I rx hs pl pu ⟨p, xs, h1, SqT.of (r.sub _ _ h2), fun hw => ?_, fun _ p hp => q.tup e r (h3.cut lo hi) hp⟩
    have ew := sIx_whole hw l h3.length
    rw [ew] at e
    rw [← h1]
    exact q.val e r ra
  · cases e1 : asR S a with
    | none => rw [e1] at e; exact (q.no e).elim
    | some l =>
      rw [e1] at e
      obtain ⟨p, xs, h1, h2, h3⟩ := asR_at r ra e1
      exact sl_list pins s σ H x v vl vu lo hi sl Q I rx hs pl pu ⟨p, xs, h1, h2, fun p hp => q.lst e r (h3.cut lo hi) hp⟩
def tOI (K : PySem.W.Frag) (mg : Str → Option Value) (E : XK) (m : Env' → M (Option Int)) : TO := fun σ H Q => ∃ W ρ S, Rel K mg W S H ∧ RelE K W ρ σ ∧ RPost K mg E W (m ρ S) fun _ H' o _ => Q o H'
abbrev POI (X : Cx) (E : XK) (e : Option Expr) (m : Env' → M (Option Int)) : Prop := PO X e (tOI X.K X.mg E m)
def oNone : Env' → M (Option Int) := fun _ => M.ret none
def intD : D → M Int
  | .int i => M.ret i
  | _ => M.bad
def oSome (m : ET) : Env' → M (Option Int) := fun ρ => M.bind (m ρ) fun d => M.bind (intD d) fun i => M.ret (some i)
theorem intD_read {K : PySem.W.Frag} {mg : Str → Option Value} {W : Wd} {S : Store} {H : Hp} {d : D} {v : V} {Q : Wd → Hp → Int → Store → Prop} (r : Rel K mg W S H) (rv : Rp K W d v) (h : RPost K mg E W (intD d S) Q) : ∃ k, v = .int k ∧ Q W H k S := by
  cases d <;> first
    | exact h.elim
    | exact ⟨_, rp_int.mp rv, RPost.here h r⟩
theorem PO.imp {e : Option Expr} {t t' : TO} (h : PO X e t) (i : ∀ σ H Q, t' σ H Q → t σ H Q) : PO X e t' := ⟨fun p s σ H Q I q => h.run p s σ H Q I (i σ H Q q)⟩
theorem poi_none : POI X E none oNone := PO.imp po_none fun σ H Q ⟨W, ρ, S, r, re, q⟩ => RPost.here (S := S) (a := (none : Option Int)) q r
theorem poi_some {e : Expr} {m : ET} (h : PEI X E e m) : POI X E (some e) (oSome m) := PO.imp (po_some h) fun σ H Q ⟨W, ρ, S, r, re, q⟩ =>
  ⟨W, ρ, S, r, re, RPost.mono (RPost.bind q) fun W1 H1 d S1 x1 r1 q1 v rv => by
    obtain ⟨k, e, q2⟩ := intD_read r1 rv (RPost.bind q1)
    exact ⟨k, e, RPost.here (S := S1) (a := some k) q2 r1⟩⟩
variable {a : Expr} {ma : ET} {pos p2 : Pos} {lo hi : Option Expr} {ml mh : Env' → M (Option Int)}
def eSl (ma : ET) (ml mh : Env' → M (Option Int)) : ET := fun ρ => M.bind (ma ρ) fun x => M.bind (ml ρ) fun l => M.bind (mh ρ) fun u => slM l u x
theorem pei_slice (ha : PEI X E a ma) (hl : POI X E lo ml) (hu : POI X E hi mh) : PEI X E (.Subscript a (.Slice lo hi none p2) pos) (eSl ma ml mh) := PE.imp (pe_slice sl_S ha hl hu) fun σ H Q ⟨W, ρ, S, r, re, q⟩ =>
  ⟨W, ρ, S, r, re, RPost.mono (RPost.bind q) fun W1 H1 x S1 x1 r1 q1 v rv => ⟨W1, ρ, S1, r1, re.mono x1.ext, RPost.mono (RPost.bind q1) fun W2 H2 l S2 x2 r2 q2 =>
    ⟨W2, ρ, S2, r2, (re.mono x1.ext).mono x2.ext, RPost.mono (RPost.bind q2) fun W3 H3 u S3 x3 r3 q3 => ⟨W3, S3, x, r3, Rp.mono (x2.trans x3).ext _ _ rv, q3⟩⟩⟩⟩
end

/-! ### built-ins -/
def eB (o : List D → M D) (m : Env' → M (List D)) : ET := fun ρ => M.bind (m ρ) o
section
variable {X : Cx} {E : XK} {e : Expr} {es : List Expr} {m : Env' → M (List D)} {x : Str} {id : String} {p pos : Pos} {o : List D → M D}
theorem eB_read {K : PySem.W.Frag} {mg : Str → Option Value} {σ : L2.St} {H : Hp} {Q : VK} (h : tE K mg E (eB o m) σ H Q) : tA K mg E m σ H fun xs H1 => rOL K mg E o xs H1 Q := by
  obtain ⟨W, ρ, S, r, re, q⟩ := h
  exact ⟨W, ρ, S, r, re, RPost.mono (RPost.bind q) fun W1 H1 ds S1 x1 r1 q1 vs rv => ⟨W1, S1, ds, r1, rv, q1⟩⟩
def one (o : D → M D) : List D → M D := fun ds => match ds with
  | [d] => o d
  | _ => M.bad
def two (o : D → D → M D) : List D → M D := fun ds => match ds with
  | [d, e] => o d e
  | _ => M.bad
theorem rOL1 {K : PySem.W.Frag} {mg : Str → Option Value} {xs : List V} {H : Hp} {Q : VK} {o : D → M D} (h : rOL K mg E (one o) xs H Q) : ∃ x W S d, xs = [x] ∧ Rel K mg W S H ∧ Rp K W d x ∧ tO K mg E (o d) W S Q := by
  obtain ⟨W, S, ds, r, rd, q⟩ := h
  match ds with
  | [] => exact (q.no rfl).elim
  | d :: e :: l => exact (q.no rfl).elim
  | [d] =>
    obtain ⟨x, ys, rfl, h1, h2⟩ := rpl_cons.mp rd
    cases rpl_nil.mp h2
    exact ⟨x, W, S, d, rfl, r, h1, q⟩
theorem rOL2 {K : PySem.W.Frag} {mg : Str → Option Value} {xs : List V} {H : Hp} {Q : VK} {o : D → D → M D} (h : rOL K mg E (two o) xs H Q) : ∃ x y W S d e, xs = [x, y] ∧ Rel K mg W S H ∧ Rp K W d x ∧ Rp K W e y ∧ tO K mg E (o d e) W S Q := by
  obtain ⟨W, S, ds, r, rd, q⟩ := h
  match ds with
  | [] => exact (q.no rfl).elim
  | [d] => exact (q.no rfl).elim
  | d :: e :: f :: l => exact (q.no rfl).elim
  | [d, e] =>
    obtain ⟨x, ys, rfl, h1, h2⟩ := rpl_cons.mp rd
    obtain ⟨y, zs, rfl, h3, h4⟩ := rpl_cons.mp h2
    cases rpl_nil.mp h4
    exact ⟨x, y, W, S, d, e, rfl, r, h1, h3, q⟩
def lenM (d : D) : M D := fun S => match asQ S d with
  | some l => .ok (.int l.length) S
  | none => .bad
theorem c_len : CallR X (.builtin "len") (rOL X.K X.mg E (one lenM)) := by
  intro pins s σ H xs us Q I rv h
  obtain ⟨x, W, S, d, rfl, r, h1, q⟩ := rOL1 h
  cases e : asQ S d with
  | none => exact (q.no (by unfold lenM; rw [e])).elim
  | some l =>
    obtain ⟨p, xs, h3, h4, h5⟩ := asQ_at r h1 e
    subst h3
    exact call_len_seq pins s σ H _ us Q I rv ⟨p, xs, rfl, h4, q.val (d := .int l.length) (by unfold lenM; rw [e]) r (rp_int.mpr (by rw [h5.length]))⟩
/-- list(x): a new list -/
def listM (d : D) : M D := fun S => match asQ S d with
  | some l => .ok (.lst l) S
  | none => .bad
def listNewM (d : D) : M D := fun S => match asQ S d with
  | some l => .ok (.ref S.length) (S ++ [.lst l])
  | none => .bad
theorem c_list : CallR X (.type "list") (rOL X.K X.mg E (one listM)) := by
  intro pins s σ H xs us Q I rv h
  obtain ⟨x, W, S, d, rfl, r, h1, q⟩ := rOL1 h
  cases e : asQ S d with
  | none => exact (q.no (by unfold listM; rw [e])).elim
  | some l =>
    obtain ⟨p, xs, h3, h4, h5⟩ := asQ_at r h1 e
    subst h3
    exact call_list_of pins s σ H _ us Q I rv ⟨p, xs, rfl, h4, fun l' hl => q.lst (ds := l) (by unfold listM; rw [e]) r h5 hl⟩
theorem c_listNew : CallR X (.type "list") (rOL X.K X.mg E (one listNewM)) := by
  intro pins s σ H xs us Q I rv h
  obtain ⟨x, W, S, d, rfl, r, h1, q⟩ := rOL1 h
  cases e : asQ S d with
  | none => exact (q.no (by unfold listNewM; rw [e])).elim
  | some l =>
    obtain ⟨p, xs, h3, h4, h5⟩ := asQ_at r h1 e
    subst h3
    exact call_list_of pins s σ H _ us Q I rv ⟨p, xs, rfl, h4, fun l' hl => q.new (by unfold listNewM; rw [e]) r (.lst h5) hl⟩
/-- tuple(x) -/
def tupleM (d : D) : M D := fun S => match d with
  | .tup l => .ok (.tup l) S
  | d => match asR S d with
    | some l => .ok (.tup l) S
    | none => .bad
theorem tupleM_cases (d : D) (S : Store) : (∃ l, d = .tup l) ∨ tupleM d S = match asR S d with
    | some l => .ok (.tup l) S
    | none => .bad := by
  cases d <;> first
    | exact .inl ⟨_, rfl⟩
    | exact .inr rfl
theorem c_tuple : CallR X (.type "tuple") (rOL X.K X.mg E (one tupleM)) := by
  intro pins s σ H xs us Q I rv h
  obtain ⟨x, W, S, d, rfl, r, h1, q⟩ := rOL1 h
  rcases tupleM_cases d S with ⟨l, rfl⟩ | e
  · obtain ⟨p, xs, h3, h4, h5⟩ := rp_tup.mp h1
    subst h3
    exact call_tuple_of pins s σ H _ us Q I rv ⟨p, xs, rfl, .inr ⟨SqT.of (r.sub _ _ h4), q.val (d := .tup l) rfl r h1⟩⟩
  · cases e1 : asR S d with
    | none => rw [e1] at e; exact (q.no e).elim
    | some l =>
      rw [e1] at e
      obtain ⟨p, xs, h3, h4, h5⟩ := asR_at r h1 e1
      subst h3
      exact call_tuple_of pins s σ H _ us Q I rv ⟨p, xs, rfl, .inl ⟨h4, fun p' hp => q.tup (ds := l) e r h5 hp⟩⟩
/-- lists of ints -/
def intsL : List D → Option (List Int)
  | [] => some []
  | .int i :: ds => (intsL ds).map (i :: ·)
  | _ :: _ => none
theorem intsL_of : ∀ {ds : List D} {ns : List Int}, intsL ds = some ns → ds = ns.map D.int
  | [], ns, e => by
    have e' : [] = ns := Option.some.inj e
    subst e'; rfl
  | d :: ds, ns, e => by
    cases d with
    | int i =>
      obtain ⟨ms, e1, e2⟩ := Option.map_eq_some_iff.mp (show (intsL ds).map (i :: ·) = some ns from e)
      subst e2
      rw [intsL_of e1]; rfl
    | _ => cases e
def blsL : List D → Option (List Bool)
  | [] => some []
  | .bl i :: ds => (blsL ds).map (i :: ·)
  | _ :: _ => none
theorem blsL_of : ∀ {ds : List D} {ns : List Bool}, blsL ds = some ns → ds = ns.map D.bl
  | [], ns, e => by
    have e' : [] = ns := Option.some.inj e
    subst e'; rfl
  | d :: ds, ns, e => by
    cases d with
    | bl i =>
      obtain ⟨ms, e1, e2⟩ := Option.map_eq_some_iff.mp (show (blsL ds).map (i :: ·) = some ns from e)
      subst e2
      rw [blsL_of e1]; rfl
    | _ => cases e
def sumM (d : D) : M D := fun S => match (asR S d).bind intsL with
  | some ns => .ok (.int ns.sum) S
  | none => .bad
def allM (d : D) : M D := fun S => match (asR S d).bind blsL with
  | some bs => .ok (.bl (bs.all _root_.id)) S
  | none => .bad
def anyM (d : D) : M D := fun S => match (asR S d).bind blsL with
  | some bs => .ok (.bl (bs.any _root_.id)) S
  | none => .bad
theorem ints_at {K : PySem.W.Frag} {mg : Str → Option Value} {W : Wd} {S : Store} {H : Hp} {d : D} {x : V} {ns : List Int} (r : Rel K mg W S H) (h : Rp K W d x) (e : (asR S d).bind intsL = some ns) : ∃ a, x = .ref a ∧ SqL K H a (ns.map V.int) := by
  obtain ⟨l, e1, e2⟩ := Option.bind_eq_some_iff.mp e
  obtain ⟨p, xs, h3, h4, h5⟩ := asR_at r h e1
  rw [intsL_of e2] at h5
  rw [h5.ints] at h4
  exact ⟨p, h3, h4⟩
theorem bls_at {K : PySem.W.Frag} {mg : Str → Option Value} {W : Wd} {S : Store} {H : Hp} {d : D} {x : V} {ns : List Bool} (r : Rel K mg W S H) (h : Rp K W d x) (e : (asR S d).bind blsL = some ns) : ∃ a, x = .ref a ∧ SqL K H a (ns.map V.bl) := by
  obtain ⟨l, e1, e2⟩ := Option.bind_eq_some_iff.mp e
  obtain ⟨p, xs, h3, h4, h5⟩ := asR_at r h e1
  rw [blsL_of e2] at h5
  rw [h5.bls] at h4
  exact ⟨p, h3, h4⟩
theorem c_sum (hc : X.calm = true) : CallR X (.builtin "sum") (rOL X.K X.mg E (one sumM)) := by
  intro pins s σ H xs us Q I rv h
  obtain ⟨x, W, S, d, rfl, r, h1, q⟩ := rOL1 h
  cases e : (asR S d).bind intsL with
  | none => exact (q.no (by unfold sumM; rw [e])).elim
  | some ns =>
    obtain ⟨a, rfl, h2⟩ := ints_at r h1 e
    exact cr_sum hc pins s σ H _ us Q I rv ⟨a, ns, rfl, h2, q.val (d := .int ns.sum) (by unfold sumM; rw [e]) r (rp_int.mpr rfl)⟩
theorem c_all (hc : X.calm = true) : CallR X (.builtin "all") (rOL X.K X.mg E (one allM)) := by
  intro pins s σ H xs us Q I rv h
  obtain ⟨x, W, S, d, rfl, r, h1, q⟩ := rOL1 h
  cases e : (asR S d).bind blsL with
  | none => exact (q.no (by unfold allM; rw [e])).elim
  | some ns =>
    obtain ⟨a, rfl, h2⟩ := bls_at r h1 e
    exact cr_all hc pins s σ H _ us Q I rv ⟨a, ns, rfl, h2, q.val (d := .bl (ns.all _root_.id)) (by unfold allM; rw [e]) r (rp_bl.mpr rfl)⟩
theorem c_any (hc : X.calm = true) : CallR X (.builtin "any") (rOL X.K X.mg E (one anyM)) := by
  intro pins s σ H xs us Q I rv h
  obtain ⟨x, W, S, d, rfl, r, h1, q⟩ := rOL1 h
  cases e : (asR S d).bind blsL with
  | none => exact (q.no (by unfold anyM; rw [e])).elim
  | some ns =>
    obtain ⟨a, rfl, h2⟩ := bls_at r h1 e
    exact cr_any hc pins s σ H _ us Q I rv ⟨a, ns, rfl, h2, q.val (d := .bl (ns.any _root_.id)) (by unfold anyM; rw [e]) r (rp_bl.mpr rfl)⟩
theorem pei_callB (hc : CallR X (.builtin id) (rOL X.K X.mg E o)) (hg : Gl X x) (hm : X.mg x = none) (hv : bootBuiltins x = some (.builtin id)) (ha : PAI X E (e :: es) m) (hn : x ≠ "__name__" := by decide) (hdb : (x == ("__debug__" : Str)) = false := by decide)
    (he : starEach (e :: es) X.env = (false, eval e X.env) :: starEach es X.env := by rfl) (hpl : (backTo pos (starEach es X.env)).any (·.1) = false := by rfl) : PEI X E (.Call (.Name x p) (e :: es) [] pos) (eB o m) :=
  PE.imp (pe_callB hc hg hm hv ha hn hdb he hpl) fun _ _ _ h => eB_read h
theorem pei_callTy {T : String} (hc : CallR X (.type T) (rOL X.K X.mg E o)) (hg : Gl X x) (hm : X.mg x = none) (hv : bootBuiltins x = some (.type T)) (ha : PAI X E (e :: es) m) (hn : x ≠ "__name__" := by decide) (hdb : (x == ("__debug__" : Str)) = false := by decide)
    (he : starEach (e :: es) X.env = (false, eval e X.env) :: starEach es X.env := by rfl) (hpl : (backTo pos (starEach es X.env)).any (·.1) = false := by rfl) : PEI X E (.Call (.Name x p) (e :: es) [] pos) (eB o m) :=
  PE.imp (pe_callTy hc hg hm hv ha hn hdb he hpl) fun _ _ _ h => eB_read h
end

/-! ### isinstance -/
def tyD (S : Store) : D → String
  | .non => "NoneType"
  | .bl _ => "bool"
  | .int _ => "int"
  | .str _ => "str"
  | .tup _ => "tuple"
  | .lst _ => "list"
  | .fro _ => "list"
  | .ref n => match S[n]? with
    | some (.lst _) => "list"
    | some (.dk _) => "dict"
    | some (.dt _) => "dict"
    | _ => "?"
def isiB (t T : String) : Bool := decide (t = T) || (decide (t = "bool") && decide (T = "int"))
def isiM (T : String) (d : D) : M D := fun S => if tyD S d = "?" then .bad else .ok (.bl (isiB (tyD S d) T)) S
theorem tyX_of {K : PySem.W.Frag} {mg : Str → Option Value} {W : Wd} {S : Store} {H : Hp} {d : D} {x : V} (r : Rel K mg W S H) (h : Rp K W d x) (hq : tyD S d ≠ "?") : TyX K H x (.type (tyD S d)) := by
  cases d with
  | non => cases rp_non.mp h; exact .base .non
  | bl b => cases rp_bl.mp h; exact .base (.bl b)
  | int b => cases rp_int.mp h; exact .base (.int b)
  | str b => cases rp_str.mp h; exact .base (.str b)
  | tup l => obtain ⟨a, xs, rfl, h1, _⟩ := rp_tup.mp h; exact .base (.tup (r.sub _ _ h1))
  | lst l => obtain ⟨a, xs, rfl, h1, _⟩ := rp_lst.mp h; exact .base (.lst (r.sub _ _ h1))
  | fro l =>
    obtain ⟨a, xs, rfl, h1, _⟩ := rp_fro.mp h
    rcases h1 with (h1 | ⟨o, h1⟩) | ⟨o, its, n, h1, h2, _⟩
    · exact .base (.lst (r.sub _ _ h1))
    · exact .base (.frz (r.sub _ _ h1))
    · exact .kList h1 h2
  | ref n =>
    cases e : S[n]? with
    | none => exact absurd (by simp only [tyD, e]) hq
    | some o =>
      cases o with
      | lst l =>
        obtain ⟨a, ho, rfl, _, h3, h4⟩ := ref_at r h e rfl
        cases h4
        simp only [tyD, e]
        exact .base (.lst h3)
      | dk l =>
        obtain ⟨a, ho, rfl, _, h3, h4⟩ := ref_at r h e rfl
        cases h4
        simp only [tyD, e]
        exact .base (.dK h3)
      | dt l =>
        obtain ⟨a, ho, rfl, _, h3, h4⟩ := ref_at r h e rfl
        cases h4
        simp only [tyD, e]
        exact .base (.dT h3)
      | _ => exact absurd (by simp only [tyD, e]) hq
theorem tyD_mem (S : Store) (d : D) : tyD S d ∈ ["NoneType", "bool", "int", "str", "tuple", "list", "dict", "?"] := by
  cases d with
  | ref n =>
    cases e : S[n]? with
    | none => simp [tyD, e]
    | some o => cases o <;> simp [tyD, e]
  | _ => simp [tyD]
/-- what a class is told of the types -/
def IsiOk (T : String) : Prop := ∀ t ∈ ["NoneType", "bool", "int", "str", "tuple", "list", "dict"], kitB t T = some (isiB t T)
theorem isiOk_int : IsiOk "int" := by
  intro t h
  simp only [List.mem_cons, List.not_mem_nil, or_false] at h
  rcases h with rfl | rfl | rfl | rfl | rfl | rfl | rfl <;> decide +kernel
theorem isiOk_bool : IsiOk "bool" := by
  intro t h
  simp only [List.mem_cons, List.not_mem_nil, or_false] at h
  rcases h with rfl | rfl | rfl | rfl | rfl | rfl | rfl <;> decide +kernel
theorem isiOk_str : IsiOk "str" := by
  intro t h
  simp only [List.mem_cons, List.not_mem_nil, or_false] at h
  rcases h with rfl | rfl | rfl | rfl | rfl | rfl | rfl <;> decide +kernel
theorem isiOk_tuple : IsiOk "tuple" := by
  intro t h
  simp only [List.mem_cons, List.not_mem_nil, or_false] at h
  rcases h with rfl | rfl | rfl | rfl | rfl | rfl | rfl <;> decide +kernel
theorem isiOk_list : IsiOk "list" := by
  intro t h
  simp only [List.mem_cons, List.not_mem_nil, or_false] at h
  rcases h with rfl | rfl | rfl | rfl | rfl | rfl | rfl <;> decide +kernel
section
variable {X : Cx} {E : XK} {e : Expr} {me : ET} {p p2 pos : Pos}
theorem pei_isi {T : String} {tx : Str} (ok : IsiOk T) (hg : Gl X "isinstance") (hm : X.mg "isinstance" = none) (hb : bootBuiltins "isinstance" = some (.builtin "isinstance")) (hT : PE X (.Name tx p2) (tC (.ty T))) (he : PEI X E e me)
    (h1 : starEach [e, .Name tx p2] X.env = (false, eval e X.env) :: starEach [.Name tx p2] X.env := by rfl) (h2 : starEach [.Name tx p2] X.env = (false, eval (.Name tx p2) X.env) :: starEach [] X.env := by rfl) (hpl : (backTo pos (starEach [.Name tx p2] X.env)).any (·.1) = false := by rfl) :
    PEI X E (.Call (.Name "isinstance" p) [e, .Name tx p2] [] pos) (e1 (isiM T) me) := by
  refine PE.imp (pe_callB call_isi hg hm hb (pa_cons he (pa_cons hT pa_nil h2) h1) (by decide) (by decide) h1 hpl) fun σ H Q h => ?_
  obtain ⟨W, ρ, S, r, re, q⟩ := h
  refine ⟨W, ρ, S, r, re, RPost.mono (RPost.bind q) fun W1 H1 d S1 x1 r1 q1 v rv => ?_⟩
  show rIsi X.K [v, .ty T] H1 Q
  by_cases hq : tyD S1 d = "?"
  · exact (tO.no (o := isiM T d) q1 (if_pos hq)).elim
  · have hm := tyD_mem S1 d
    have hk : kitB (tyD S1 d) T = some (isiB (tyD S1 d) T) := ok _ (by
      simp only [List.mem_cons, List.not_mem_nil, or_false] at hm ⊢
      rcases hm with h | h | h | h | h | h | h | h
      all_goals first
        | exact absurd h hq
        | simp [h])
    exact ⟨v, .ty T, .type (tyD S1 d), .type T, isiB (tyD S1 d) T, rfl, .ty T, tyX_of r1 rv hq, kit_ty hk, tO.val (o := isiM T d) q1 (if_neg hq) r1 (rp_bl.mpr rfl)⟩
end
end SL
/-! S4: targets, what is walked, for, list comprehensions. -/
namespace SL
open PySem PySem.Spec PyProof.Rows L2
open Classical in
/-! ### targets -/
theorem wipe_set {i : Nat} {o : Option V} {σ : L2.St} : ∀ {ws : List Nat}, i ∈ ws → wipe (σ.set i o) ws = wipe σ ws
  | [], h => by cases h
  | w :: ws, h => by
    show (wipe (σ.set i o) ws).set w none = (wipe σ ws).set w none
    by_cases hw : i ∈ ws
    · rw [wipe_set hw]
    · have e : i = w := by
        rcases List.mem_cons.mp h with e | e
        · exact e
        · exact absurd e hw
      subst e
      have : ∀ (us : List Nat), i ∉ us → wipe (σ.set i o) us = (wipe σ us).set i o := by
        intro us
        induction us with
        | nil => intro _; rfl
        | cons u us ih =>
          intro hn
          have h1 : i ≠ u := fun z => hn (by simp [z])
          have h2 : i ∉ us := fun z => hn (by simp [z])
          show (wipe (σ.set i o) us).set u none = ((wipe σ us).set u none).set i o
          rw [ih h2, List.set_comm _ _ h1]
      rw [this ws hw, List.set_set]
def wipeE (ρ : Env') : List Nat → Env'
  | [] => ρ
  | v :: vs => (wipeE ρ vs).set v none
theorem RelE.wipe {K : PySem.W.Frag} {W : Wd} {ρ : Env'} {σ : L2.St} (h : RelE K W ρ σ) : ∀ vs : List Nat, RelE K W (wipeE ρ vs) (wipe σ vs)
  | [] => h
  | v :: vs => by
    have ih := RelE.wipe h vs
    refine ⟨by simp [wipeE, L2.wipe, ih.len], fun i d e => ?_⟩
    have e : ((wipeE ρ vs).set v none)[i]? = some (some d) := e
    show ∃ x, ((L2.wipe σ vs).set v none)[i]? = some (some x) ∧ _
    by_cases hi : i = v
    · subst hi
      by_cases hl : i < (wipeE ρ vs).length
      · rw [List.getElem?_set_self hl] at e; cases e
      · rw [List.getElem?_eq_none_iff.mpr (by simp; omega)] at e; cases e
    · rw [List.getElem?_set_ne (Ne.symm hi)] at e ⊢
      exact ih.at_ i d e

abbrev GM := D → Env' → M Env'
abbrev GsM := List D → Env' → M Env'
section
variable (K : PySem.W.Frag) (mg : Str → Option Value) (E : XK)
def tG (vs : List Nat) (g : GM) : TG := fun v σ H Q => ∃ W ρ S d, Rel K mg W S H ∧ RelE K W ρ σ ∧ Rp K W d v ∧ RPost K mg E W (g d ρ S) fun W' H' ρ' _ => ∀ σ', RelE K W' ρ' σ' → (∀ ws, (∀ i ∈ vs, i ∈ ws) → wipe σ' ws = wipe σ ws) → Q σ' H'
def tGs (vs : List Nat) (g : GsM) : TGs := fun xs σ H Q => ∃ W ρ S ds, Rel K mg W S H ∧ RelE K W ρ σ ∧ RpL K W ds xs ∧ RPost K mg E W (g ds ρ S) fun W' H' ρ' _ => ∀ σ', RelE K W' ρ' σ' → (∀ ws, (∀ i ∈ vs, i ∈ ws) → wipe σ' ws = wipe σ ws) → Q σ' H'
end
abbrev PGI (X : Cx) (E : XK) (t : Expr) (vs : List Nat) (g : GM) : Prop := PG X t (tG X.K X.mg E vs g)
abbrev PGsI (X : Cx) (E : XK) (ts : List Expr) (vs : List Nat) (g : GsM) : Prop := PGs X ts (tGs X.K X.mg E vs g)
def gNm (i : Nat) : GM := fun d ρ => M.ret (ρ.set i (some d))
def gNilM : GsM := fun ds ρ => match ds with
  | [] => M.ret ρ
  | _ => M.bad
def gConsM (g : GM) (gs : GsM) : GsM := fun ds ρ => match ds with
  | d :: r => M.bind (g d ρ) fun ρ' => gs r ρ'
  | [] => M.bad
section
variable {X : Cx} {E : XK} {e : Expr} {es : List Expr} {pos : Pos} {vs ws : List Nat} {g : GM} {gs : GsM}
theorem PG.imp {t t' : TG} (h : PG X e t) (i : ∀ v σ H Q, t' v σ H Q → t v σ H Q) : PG X e t' := ⟨fun p s σ H v u Q I r q => h.run p s σ H v u Q I r (i v σ H Q q)⟩
theorem PG.or {t t' : TG} (h : PG X e t) (h' : PG X e t') : PG X e (fun v σ H Q => t v σ H Q ∨ t' v σ H Q) := ⟨fun p s σ H v u Q I r q => q.elim (h.run p s σ H v u Q I r) (h'.run p s σ H v u Q I r)⟩
theorem PGs.imp {t t' : TGs} (h : PGs X es t) (i : ∀ v σ H Q, t' v σ H Q → t v σ H Q) : PGs X es t' := ⟨fun p s σ H v u Q I r q => h.run p s σ H v u Q I r (i v σ H Q q)⟩
theorem pgi_name {i : Nat} {x : Str} (hN : X.N.Nodup) (hi : X.N[i]? = some x) (hx : Loc X.env.scope x) (hf : X.fn x = true ∨ X.env.scope.names.lookup x = some .local := by first | exact .inl rfl | exact .inr rfl | assumption) : PGI X E (.Name x pos) [i] (gNm i) :=
  PG.imp (pg_name hN hi hx hf) fun v σ H Q ⟨W, ρ, S, d, r, re, rv, q⟩ => RPost.here (S := S) (a := ρ.set i (some d)) q r _ (re.set i rv) fun ws hw => wipe_set (hw i (by simp))
theorem pgsi_nil : PGsI X E [] [] gNilM := PGs.imp pgs_nil fun xs σ H Q ⟨W, ρ, S, ds, r, re, rv, q⟩ => by
  cases ds with
  | nil => exact ⟨rpl_nil.mp rv, RPost.here (S := S) (a := ρ) q r _ re fun _ _ => rfl⟩
  | cons d ds => exact q.elim
theorem pgsi_cons (h1 : PGI X E e vs g) (h2 : PGsI X E es ws gs) (hs : (assignEach (e :: es) X.env).map (·.2) = assign e X.env :: (assignEach es X.env).map (·.2) := by rfl) : PGsI X E (e :: es) (vs ++ ws) (gConsM g gs) :=
  PGs.imp (pgs_cons h1 h2 hs) fun xs σ H Q ⟨W, ρ, S, ds, r, re, rv, q⟩ => by
    cases ds with
    | nil => exact q.elim
    | cons d ds =>
      obtain ⟨x, ys, rfl, h3, h4⟩ := rpl_cons.mp rv
      refine ⟨x, ys, rfl, W, ρ, S, d, r, re, h3, RPost.mono (RPost.bind (f := fun ρ' => gs ds ρ') q) fun W1 H1 ρ1 S1 x1 r1 q1 σ1 re1 w1 => ?_⟩
      refine ⟨W1, ρ1, S1, ds, r1, re1, RpL.mono x1.ext _ _ h4, RPost.mono q1 fun W2 H2 ρ2 S2 x2 r2 q2 σ2 re2 w2 => q2 σ2 re2 fun us hu => ?_⟩
      rw [w2 us fun i hi => hu i (List.mem_append_right _ hi), w1 us fun i hi => hu i (List.mem_append_left _ hi)]
/-- (a, b, ..) = a tuple -/
def gTupM (n : Nat) (gs : GsM) : GM := fun d ρ => match d with
  | .tup l => if l.length = n then gs l ρ else M.bad
  | _ => M.bad
theorem pgi_tup {k : Nat} {n : Nat} (hc : X.calm = true) (h : PGsI X E es vs gs) (hn : (assignEach es X.env).length = n := by rfl) (hst : (assignEach es X.env).findIdx? (·.1) = none := by rfl) : PGI X E (.Tuple es k pos) vs (gTupM n gs) :=
  PG.imp (pg_tup hc h hn hst) fun v σ H Q ⟨W, ρ, S, d, r, re, rv, q⟩ => by
    cases d with
    | tup l =>
      obtain ⟨a, xs, h1, h2, h3⟩ := rp_tup.mp rv
      by_cases hl : l.length = n
      · have e : gTupM n gs (.tup l) ρ = gs l ρ := if_pos hl
        rw [e] at q
        exact ⟨a, xs, h1, SqT.of (r.sub _ _ h2), by rw [← h3.length]; exact hl, W, ρ, S, l, r, re, h3, q⟩
      · have e : gTupM n gs (.tup l) ρ = M.bad := if_neg hl
        rw [e] at q
        exact q.elim
    | _ => exact q.elim
end

/-! ### what is walked -/
def ItOk (K : PySem.W.Frag) (mg : Str → Option Value) (W0 : Wd) (J : It) (ds : List D) (wt : Store → Prop) : Prop :=
  ∀ W S H (i : Nat), Ext W0 W → Rel K mg W S H → wt S → (ds.length ≤ i → J.stop i H) ∧ ∀ d, ds[i]? = some d → J.go i H ∧ ∀ x H', J.yld i H x H' → ∃ W', Stp W W' ∧ Rel K mg W' S H' ∧ Rp K W' d x
abbrev Src := List D × (Store → Prop)
def tI (K : PySem.W.Frag) (mg : Str → Option Value) (E : XK) (src : Env' → M Src) : TI := fun σ H R => ∃ W ρ S, Rel K mg W S H ∧ RelE K W ρ σ ∧ RPost K mg E W (src ρ S) fun W' H' p S' =>
  p.2 S' → p.1.length ≤ sizeLine → ∀ J, ItOk K mg W' J p.1 p.2 → R J H'
abbrev PII (X : Cx) (E : XK) (tg iter : Expr) (src : Env' → M Src) : Prop := PI X tg iter (tI X.K X.mg E src)
/-- a list or a tuple -/
def seqM (d : D) : M Src := fun S => match d with
  | .ref n => match S[n]? with
    | some (.lst l) => .ok (l, fun S' => S'[n]? = some (.lst l)) S
    | _ => .bad
  | d => match asQ S d with
    | some l => .ok (l, fun _ => True) S
    | none => .bad
theorem seqM_at {K : PySem.W.Frag} {mg : Str → Option Value} {E : XK} {W : Wd} {S : Store} {H : Hp} {d : D} {v : V} {Q : Wd → Hp → Src → Store → Prop} (r : Rel K mg W S H) (rv : Rp K W d v) (h : RPost K mg E W (seqM d S) Q) :
    ∃ l wt, Q W H (l, wt) S ∧ wt S ∧ ∃ a, v = .ref a ∧ (∃ xs, (SqL K H a xs ∨ SqT K H a xs) ∧ RpL K W l xs) ∧
      ((∀ W' S' H', Ext W W' → Rel K mg W' S' H' → wt S' → ∃ xs, SqL K H' a xs ∧ RpL K W' l xs) ∨ (∀ W' S' H', Ext W W' → Rel K mg W' S' H' → wt S' → ∃ xs, SqT K H' a xs ∧ RpL K W' l xs)) := by
  have base : ∀ {d : D}, (∀ n, d ≠ .ref n) → Rp K W d v → seqM d S = (match asQ S d with
      | some l => .ok (l, fun _ => True) S
      | none => .bad) → RPost K mg E W (seqM d S) Q → ∃ l wt, Q W H (l, wt) S ∧ wt S ∧ ∃ a, v = .ref a ∧ (∃ xs, (SqL K H a xs ∨ SqT K H a xs) ∧ RpL K W l xs) ∧
      ((∀ W' S' H', Ext W W' → Rel K mg W' S' H' → wt S' → ∃ xs, SqL K H' a xs ∧ RpL K W' l xs) ∨ (∀ W' S' H', Ext W W' → Rel K mg W' S' H' → wt S' → ∃ xs, SqT K H' a xs ∧ RpL K W' l xs)) := by
    intro d hn rv e h
    rw [e] at h
    cases e1 : asQ S d with
    | none => rw [e1] at h; exact h.elim
    | some l =>
      rw [e1] at h
      refine ⟨l, _, RPost.here h r, trivial, ?_⟩
      cases d with
      | tup m =>
        cases (show some m = some l from e1)
        obtain ⟨a, xs, h1, h2, h3⟩ := rp_tup.mp rv
        exact ⟨a, h1, ⟨xs, .inr (SqT.of (r.sub _ _ h2)), h3⟩, .inr fun W' S' H' x r' _ => ⟨xs, SqT.of (r'.sub _ _ (x.F _ _ h2)), RpL.mono x _ _ h3⟩⟩
      | lst m =>
        cases (show some m = some l from e1)
        obtain ⟨a, xs, h1, h2, h3⟩ := rp_lst.mp rv
        exact ⟨a, h1, ⟨xs, .inl (SqL.of (r.sub _ _ h2)), h3⟩, .inl fun W' S' H' x r' _ => ⟨xs, SqL.of (r'.sub _ _ (x.F _ _ h2)), RpL.mono x _ _ h3⟩⟩
      | fro m =>
        cases (show some m = some l from e1)
        obtain ⟨a, xs, h1, h2, h3⟩ := rp_fro.mp rv
        exact ⟨a, h1, ⟨xs, .inl (Same.seqL r.sub h2), h3⟩, .inl fun W' S' H' x r' _ => ⟨xs, Same.seqL r'.sub (Same.seqL x.F h2), RpL.mono x _ _ h3⟩⟩
      | ref n => exact absurd rfl (hn n)
      | _ => cases e1
  cases d with
  | ref n =>
    cases e : S[n]? with
    | none => simp only [seqM, e] at h; exact h.elim
    | some o =>
      cases o with
      | lst l =>
        simp only [seqM, e] at h
        obtain ⟨a, ho, h1, h2, h3, h4⟩ := ref_at r rv e rfl
        cases h4 with
        | lst h4 =>
          refine ⟨l, _, RPost.here h r, e, a, h1, ⟨_, .inl (SqL.of h3), h4⟩, .inl fun W' S' H' x r' w => ?_⟩
          obtain ⟨a', ho', k1, _, _, k4, k5⟩ := r'.obj n _ w rfl
          rw [x.φ _ _ h2] at k1
          cases k1
          cases k5 with
          | lst k5 => exact ⟨_, SqL.of k4, k5⟩
      | _ => simp only [seqM, e] at h; exact h.elim
  | _ => exact base (by intro n z; cases z) rv rfl h
section
variable {X : Cx} {E : XK} {tg e : Expr} {m : ET}
def srcSeq (m : ET) : Env' → M Src := fun ρ => M.bind (m ρ) seqM
theorem itl_ok {K : PySem.W.Frag} {mg : Str → Option Value} {W : Wd} {a : Addr} {l : List D} {wt : Store → Prop} (h : ∀ W' S' H', Ext W W' → Rel K mg W' S' H' → wt S' → ∃ xs, SqL K H' a xs ∧ RpL K W' l xs)
    (inj : ∀ W' S' H' xs ys, Rel K mg W' S' H' → SqL K H' a xs → SqL K H' a ys → xs = ys) : ItOk K mg W (Itl K a) l wt := by
  intro W' S' H' i x r w
  obtain ⟨xs, h1, h2⟩ := h W' S' H' x r w
  refine ⟨fun hi => ⟨xs, h1, by rw [← h2.length]; exact hi⟩, fun d hd => ?_⟩
  obtain ⟨v, k1, k2⟩ := h2.get hd
  refine ⟨⟨xs, v, h1, k1⟩, fun y H2 ⟨e1, e2⟩ => ?_⟩
  subst e1
  have e3 := e2 xs h1
  rw [k1] at e3
  cases e3
  exact ⟨W', Stp.refl _, r, k2⟩
theorem pii_seq (h : PEI X E e m) : PII X E tg e (srcSeq m) := by
  refine ⟨fun pins s σ H R I ⟨W, ρ, S, r, re, q⟩ => ?_⟩
  refine thn (h.run pins s σ H (fun v H1 => ∃ W1 S1 d, Rel X.K X.mg W1 S1 H1 ∧ Rp X.K W1 d v ∧ RPost X.K X.mg E W1 (seqM d S1) fun W' H' p S' => p.2 S' → p.1.length ≤ sizeLine → ∀ J, ItOk X.K X.mg W' J p.1 p.2 → R J H') I
    ⟨W, ρ, S, r, re, RPost.mono (RPost.bind q) fun W1 H1 d S1 x1 r1 q1 v rv => ⟨W1, S1, d, r1, rv, q1⟩⟩) fun v s1 ⟨x, H1, I1, rx, W1, S1, d, r1, rv, q1⟩ => ?_
  obtain ⟨l, wt, q2, w, a, rfl, ⟨xs, hs, hl⟩, k⟩ := seqM_at r1 rv q1
  cases rx
  have fre : ∀ b ∈ [s1.heap.objs.size], FpOk X pins H1 b := fun b hb => by
    have e : b = s1.heap.objs.size := by simpa using hb
    subst e
    exact I1.fpOk (Nat.le_refl _) (I1.hok.fresh (Nat.le_refl _))
  rcases k with k | k
  · obtain ⟨ys, hq, hy⟩ := k W1 S1 H1 (Ext.refl _) r1 w
    obtain ⟨its, rvs, p, hz⟩ := I1.list hq
    refine wpAny_pyIter_list p.isList ⟨s1.heap.objs.size, [s1.heap.objs.size], _, Itl X.K a, H1, rfl, I1.kept (t' := s1.toks) fun b o e => Heap.get?_push_of_some _ e, turn_list a _, ⟨_, Heap.get?_push_size _ rfl, rfl, rfl⟩, fre, ?_⟩
    refine q2 w (by rw [hy.length]; exact hz) _ ?_
    -- what is read at a is one
    intro W' S' H' i x r w'
    obtain ⟨zs, h1, h2⟩ := k W' S' H' x r w'
    refine ⟨fun hi => ⟨zs, h1, by rw [← h2.length]; exact hi⟩, fun d hd => ?_⟩
    obtain ⟨v, k1, k2⟩ := h2.get hd
    refine ⟨⟨zs, v, h1, k1⟩, fun y H2 ⟨e1, e2⟩ => ?_⟩
    subst e1
    have e3 := e2 zs h1
    rw [k1] at e3
    cases e3
    exact ⟨W', Stp.refl _, r, k2⟩
  · obtain ⟨ys, hq, hy⟩ := k W1 S1 H1 (Ext.refl _) r1 w
    obtain ⟨its, rvs, p, hz⟩ := I1.tuple hq
    refine wpAny_pyIter_tuple (show s1.heap.IsTuple a its.toArray from p) ⟨s1.heap.objs.size, [s1.heap.objs.size], _, Itt X.K a, H1, rfl, I1.kept (t' := s1.toks) fun b o e => Heap.get?_push_of_some _ e, turn_tuple a _, ⟨_, Heap.get?_push_size _ rfl, rfl, rfl⟩, fre, ?_⟩
    refine q2 w (by rw [hy.length]; exact hz) _ ?_
    intro W' S' H' i x r w'
    obtain ⟨zs, h1, h2⟩ := k W' S' H' x r w'
    refine ⟨fun hi => ⟨zs, h1, by rw [← h2.length]; exact hi⟩, fun d hd => ?_⟩
    obtain ⟨v, k1, k2⟩ := h2.get hd
    refine ⟨⟨zs, v, h1, k1⟩, fun y H2 ⟨e1, e2⟩ => ?_⟩
    subst e1
    have e3 := e2 zs h1
    rw [k1] at e3
    cases e3
    exact ⟨W', Stp.refl _, r, k2⟩
/-- range(n) -/
def rngM (lo hi : Int) : M Src := fun S => if -(2 ^ 62) ≤ lo ∧ lo < 2 ^ 62 ∧ -(2 ^ 62) ≤ hi ∧ hi < 2 ^ 62 ∧ (hi - lo).toNat ≤ sizeLine then .ok ((List.range (hi - lo).toNat).map fun i : Nat => D.int (lo + (i : Int)), fun _ => True) S else .bad
def rng1 (ds : List D) : M Src := match ds with
  | [.int n] => rngM 0 n
  | _ => M.bad
def srcRng (m : Env' → M (List D)) : Env' → M Src := fun ρ => M.bind (m ρ) rng1
theorem itr_ok {K : PySem.W.Frag} {mg : Str → Option Value} {W : Wd} {lo : Int} {n : Nat} : ItOk K mg W (Itr lo n) ((List.range n).map fun i : Nat => D.int (lo + (i : Int))) (fun _ => True) := by
  intro W' S' H' i x r w
  refine ⟨fun hi => (show n ≤ i by simpa using hi), fun d hd => ?_⟩
  rw [List.getElem?_map] at hd
  obtain ⟨j, h1, h2⟩ := Option.map_eq_some_iff.mp hd
  obtain ⟨hl, e⟩ := List.getElem?_eq_some_iff.mp h1
  simp at hl e
  subst e
  subst h2
  exact ⟨hl, fun y H2 ⟨e1, e2⟩ => by subst e1; exact ⟨W', Stp.refl _, r, rp_int.mpr e2⟩⟩
theorem rng1_at {K : PySem.W.Frag} {mg : Str → Option Value} {W : Wd} {S : Store} {H : Hp} {ds : List D} {vs : List V} {Q : Wd → Hp → Src → Store → Prop} (r : Rel K mg W S H) (rv : RpL K W ds vs) (h : RPost K mg E W (rng1 ds S) Q) :
    ∃ n, vs = [.int n] ∧ -(2 ^ 62) ≤ n ∧ n < 2 ^ 62 ∧ n.toNat ≤ sizeLine ∧ Q W H ((List.range n.toNat).map fun i : Nat => D.int (0 + (i : Int)), fun _ => True) S := by
  match ds with
  | [.int n] =>
    obtain ⟨x, ys, rfl, h1, h2⟩ := rpl_cons.mp rv
    cases rpl_nil.mp h2
    rw [rp_int.mp h1]
    have h : RPost K mg E W (rngM 0 n S) Q := h
    unfold rngM at h
    split at h
    · rename_i hc
      rw [Int.sub_zero] at hc h
      exact ⟨n, rfl, hc.2.2.1, hc.2.2.2.1, hc.2.2.2.2, RPost.here h r⟩
    · exact h.elim
  | [] => exact h.elim
  | .non :: [] | .bl _ :: [] | .str _ :: [] | .tup _ :: [] | .lst _ :: [] | .fro _ :: [] | .ref _ :: [] => exact h.elim
  | d :: e :: l => cases d <;> exact h.elim
theorem pii_range {a : Expr} {ma : Env' → M (List D)} {p pos : Pos} (hg : Gl X "range") (hm : X.mg "range" = none) (ha : PAI X E [a] ma) (hs : starEach [a] X.env = [(false, eval a X.env)] := by rfl) : PII X E tg (.Call (.Name "range" p) [a] [] pos) (srcRng ma) := by
  refine ⟨fun pins s σ H R I ⟨W, ρ, S, r, re, q⟩ => ?_⟩
  refine (pi_range1 hg hm ha hs).run pins s σ H R I ?_
  refine ⟨W, ρ, S, r, re, RPost.mono (RPost.bind q) fun W1 H1 ds S1 x1 r1 q1 vs rv => ?_⟩
  obtain ⟨n, rfl, h1, h2, h3, q2⟩ := rng1_at r1 rv q1
  exact ⟨n, rfl, h1, h2, q2 trivial (by simpa using h3) _ itr_ok⟩
end

/-! ### for -/
open Classical in
noncomputable def forL (g : GM) (b : ST) (wt : Store → Prop) : List D → ST
  | [] => fun ρ S => if wt S then .ok (.nx ρ) S else .bad
  | d :: ds => fun ρ S => if wt S then M.bind (g d ρ) (fun ρ1 => M.bind (b ρ1) fun f => match f with
    | .nx ρ2 => forL g b wt ds ρ2
    | .ct ρ2 => forL g b wt ds ρ2
    | .bk ρ2 => M.ret (.nx ρ2)
    | .rt d => M.ret (.rt d)) S else .bad
noncomputable def sFor (src : Env' → M Src) (g : GM) (b : ST) : ST := fun ρ => M.bind (src ρ) fun p => forL g b p.2 p.1 ρ
section
variable {X : Cx} {E : XK} {tg iter : Expr} {body : List Stmt} {src : Env' → M Src} {g : GM} {b : ST} {vs : List Nat} {pos : Pos}
theorem psi_for (hp : PassesOwn (model X.prog X.w) X.A X.env X.xe) (hc : X.calm = true) (hi : PII X E tg iter src) (hg : PGI X E tg vs g) (hb : PSsI X E body b) (hs : ∀ x, foldedSetIterable iter X.env x = pure x := by intro _; rfl) :
    PSI X E (.For tg iter body [] pos) (sFor src g b) := PS.imp (ps_for hp hc hi hg hb hs) fun Dn σ H ⟨W, ρ, S, r, re, q⟩ => by
  refine ⟨W, ρ, S, r, re, RPost.mono (RPost.bind q) fun W1 H1 p S1 x1 r1 q1 w hz J ok => ?_⟩
  obtain ⟨ds, wt⟩ := p
  refine ⟨fun i m σ H => m = ds.length - i ∧ i ≤ ds.length ∧ ∃ W ρ S, Ext W1 W ∧ Rel X.K X.mg W S H ∧ RelE X.K W ρ σ ∧ FlPost X.K X.mg E W (forL g b wt (ds.drop i) ρ S) Dn, ⟨_, rfl, Nat.zero_le _, W1, ρ, S1, Ext.refl _, r1, re.mono x1.ext, q1⟩, ?_⟩
  rintro i m σ H ⟨rfl, hi, W, ρ, S, x, r, re, q⟩
  by_cases hlt : i < ds.length
  · rw [List.drop_eq_getElem_cons hlt] at q
    unfold forL at q
    by_cases hw : wt S
    · rw [if_pos hw] at q
      obtain ⟨h1, h2⟩ := (ok W S H i x r hw).2 ds[i] (List.getElem?_eq_getElem hlt)
      refine .inr ⟨h1, fun σ' H' => ∃ W ρ S, Ext W1 W ∧ Rel X.K X.mg W S H' ∧ RelE X.K W ρ σ' ∧ FlPost X.K X.mg E W (forL g b wt (ds.drop (i + 1)) ρ S) Dn, fun σ' H' h' => ⟨ds.length - (i + 1), by omega, rfl, hlt, h'⟩, fun y H' hy => ?_⟩
      obtain ⟨W2, x2, r2, rv2⟩ := h2 y H' hy
      refine ⟨W2, ρ, S, _, r2, re.mono x2.ext, rv2, RPost.mono (RPost.bind (RPost.later q x2)) fun W3 H3 ρ3 S3 x3 r3 q3 σ3 re3 _ => ?_⟩
      refine ⟨W3, ρ3, S3, r3, re3, RPost.mono (RPost.bind q3) fun W4 H4 f S4 x4 r4 q4 => ?_⟩
      have xx : Ext W1 W4 := x.trans (x2.trans (x3.trans x4)).ext
      cases f with
      | nx ρ4 => exact fun σ4 re4 => ⟨W4, ρ4, S4, xx, r4, re4, q4⟩
      | ct ρ4 => exact fun σ4 re4 => ⟨W4, ρ4, S4, xx, r4, re4, q4⟩
      | rt d => exact RPost.here (S := S4) (a := Fl.rt d) q4 r4
      | bk ρ4 => exact RPost.here (S := S4) (a := Fl.nx ρ4) q4 r4
    · rw [if_neg hw] at q; exact q.elim
  · have e : ds.drop i = [] := List.drop_eq_nil_iff.mpr (by omega)
    rw [e] at q
    unfold forL at q
    by_cases hw : wt S
    · rw [if_pos hw] at q
      exact .inl ⟨(ok W S H i x r hw).1 (Nat.le_of_not_lt hlt), fl_nx q r re⟩
    · rw [if_neg hw] at q; exact q.elim
end

/-! ### comprehensions -/
def noexR {α : Type} : R α → R α
  | .ok a S => .ok a S
  | .exc _ _ _ => .bad
  | .bad => .bad
open Classical in
noncomputable def lcL (g : GM) (t : Env' → M Bool) (e : ET) (wt : Store → Prop) (ρ : Env') : List D → M (List D)
  | [] => fun S => if wt S then .ok [] S else .bad
  | d :: ds => fun S => if wt S then M.bind (g d ρ) (fun ρ1 => M.bind (t ρ1) fun b => if b then M.bind (e ρ1) (fun y => M.bind (lcL g t e wt ρ ds) fun ys => M.ret (y :: ys)) else lcL g t e wt ρ ds) S else .bad
noncomputable def eLc (src : Env' → M Src) (g : GM) (t : Env' → M Bool) (e : ET) (vs : List Nat) : ET := fun ρ => M.bind (src ρ) fun p => M.bind (fun S => noexR (lcL g t e p.2 (wipeE ρ vs) p.1 S)) fun ds => M.ret (.lst ds)
def tYesM : Env' → M Bool := fun _ => M.ret true
theorem upd_id {H : Hp} {a : Addr} {o : HO} (h : H a = some o) : upd H a o = H := by
  funext b
  unfold upd
  split
  · rename_i e; rw [e, h]
  · rfl
open Classical in
theorem lcL_read {K : PySem.W.Frag} {mg : Str → Option Value} {E E' : XK} {g : GM} {t : Env' → M Bool} {e : ET} {vs : List Nat} {W1 : Wd} {S1 : Store} {H1 : Hp} {ρ : Env'} {σ : L2.St} {ds : List D} {wt : Store → Prop} {J : It} {Q : VK} (r1 : Rel K mg W1 S1 H1) (re : RelE K W1 ρ σ) (hz : ds.length ≤ sizeLine) (ok : ItOk K mg W1 J ds wt)
    (q : RPost K mg E W1 (M.bind (fun S => noexR (lcL g t e wt (wipeE ρ vs) ds S)) (fun ds => M.ret (.lst ds)) S1) fun W' H' d _ => ∀ v, Rp K W' d v → Q v H') :
    ∀ Da, H1 Da = none → ∃ W : Nat → Nat → Hp → Prop, (∃ m, W 0 m (upd H1 Da (.lst []))) ∧ ∀ i m H, W i m H →
      (J.stop i H ∧ Q (.ref Da) H) ∨ (J.go i H ∧ ∃ Nx : Hp → Prop, (∀ H', Nx H' → ∃ m', m' < m ∧ W (i + 1) m' H') ∧ ∀ x H', J.yld i H x H' → tG K mg E' vs g x (wipe σ vs) H' fun σ2 H2 => wipe σ2 vs = wipe σ vs ∧ tT K mg E' t σ2 H2 fun b H3 =>
        if b = true then tE K mg E' e σ2 H3 fun y H4 => ∃ acc, H4 Da = some (.lst acc) ∧ acc.length < sizeLine ∧ Nx (upd H4 Da (.lst (acc ++ [y]))) else Nx H3) := by
  intro Da hDa
  -- the invariant
  let Inv' : Nat → Hp → Prop := fun i H => ∃ W S acc accV, Ext W1 W ∧ W.G = upd W1.G Da (.lst accV) ∧ Rel K mg W S H ∧ RpL K W acc accV ∧ acc.length ≤ i ∧
    lcL g t e wt (wipeE ρ vs) ds S1 = (lcL g t e wt (wipeE ρ vs) (ds.drop i) S).bind fun rest => M.ret (acc ++ rest)
  have nb : ∀ {α : Type} {i : Nat} {S : Store} {acc : List D} {m : M α} {f : α → M (List D)}, lcL g t e wt (wipeE ρ vs) ds S1 = (M.bind m f S) → (∃ a S', m S = .ok a S' ∧ lcL g t e wt (wipeE ρ vs) ds S1 = f a S') := by
    intro α i S acc m f he
    cases hm : m S with
    | ok a S' =>
      refine ⟨a, S', rfl, ?_⟩
      rw [he]; show R.bind (m S) f = _; rw [hm]; rfl
    | exc c fs S' =>
      have : lcL g t e wt (wipeE ρ vs) ds S1 = .exc c fs S' := by rw [he]; show R.bind (m S) f = _; rw [hm]; rfl
      have q : RPost K mg E W1 ((noexR (lcL g t e wt (wipeE ρ vs) ds S1)).bind fun ds => M.ret (D.lst ds)) _ := q
      rw [this] at q; exact q.elim
    | bad =>
      have : lcL g t e wt (wipeE ρ vs) ds S1 = .bad := by rw [he]; show R.bind (m S) f = _; rw [hm]; rfl
      have q : RPost K mg E W1 ((noexR (lcL g t e wt (wipeE ρ vs) ds S1)).bind fun ds => M.ret (D.lst ds)) _ := q
      rw [this] at q; exact q.elim
  have nb0 : lcL g t e wt (wipeE ρ vs) ds S1 ≠ .bad := fun this => by
    have q : RPost K mg E W1 ((noexR (lcL g t e wt (wipeE ρ vs) ds S1)).bind fun ds => M.ret (D.lst ds)) _ := q
    rw [this] at q; exact q.elim
  refine ⟨fun i m H => m = ds.length - i ∧ i ≤ ds.length ∧ Inv' i H, ⟨_, rfl, Nat.zero_le _, W1.grd Da (.lst []), S1, [], [], Wd.grd_ext, rfl, r1.guard (r1.fre hDa), .nil, Nat.le_refl _, ?_⟩, ?_⟩
  · rw [List.drop_zero]
    cases lcL g t e wt (wipeE ρ vs) ds S1 <;> rfl
  rintro i m H ⟨rfl, hi, W, S, acc, accV, x, hG, r, hacc, hla, heq⟩
  have gone : W1.G Da = none := r1.gnone hDa
  by_cases hlt : i < ds.length
  · rw [List.drop_eq_getElem_cons hlt] at heq
    by_cases hw : wt S
    · obtain ⟨h1, h2⟩ := (ok W S H i x r hw).2 ds[i] (List.getElem?_eq_getElem hlt)
      refine .inr ⟨h1, Inv' (i + 1), fun H' h' => ⟨ds.length - (i + 1), by omega, rfl, hlt, h'⟩, fun y H' hy => ?_⟩
      obtain ⟨W2, x2, r2, rv2⟩ := h2 y H' hy
      -- the turn
      have heq' : lcL g t e wt (wipeE ρ vs) ds S1 = M.bind (M.bind (g ds[i] (wipeE ρ vs)) (fun ρ1 => M.bind (t ρ1) fun b => if b then M.bind (e ρ1) (fun y => M.bind (lcL g t e wt (wipeE ρ vs) (ds.drop (i + 1))) fun ys => M.ret (y :: ys)) else lcL g t e wt (wipeE ρ vs) (ds.drop (i + 1)))) (fun rest => M.ret (acc ++ rest)) S := by
        rw [heq]
        show R.bind (lcL g t e wt (wipeE ρ vs) (ds[i] :: ds.drop (i + 1)) S) _ = R.bind _ _
        congr 1
        show (if wt S then _ else _) = _
        rw [if_pos hw]
      have assoc : ∀ {α β γ : Type} (m : M α) (f : α → M β) (h : β → M γ) (S : Store), M.bind (M.bind m f) h S = M.bind m (fun a => M.bind (f a) h) S := by
        intro α β γ m f h S
        show R.bind (R.bind (m S) f) h = R.bind (m S) _
        cases m S <;> rfl
      rw [assoc] at heq'
      obtain ⟨ρ3, S3, e3, heq3⟩ := nb (i := i) (acc := acc) heq'
      refine ⟨W2, wipeE ρ vs, S, ds[i], r2, ((re.mono x).wipe vs).mono x2.ext, rv2, ?_⟩
      rw [e3]
      intro W3 H3 x3 r3 σ3 re3 hw3
      refine ⟨?_, ?_⟩
      · rw [hw3 vs fun _ z => z]
        have : ∀ (us : List Nat), (∀ u ∈ us, u ∈ vs) → wipe (wipe σ vs) us = wipe σ vs := by
          intro us
          induction us with
          | nil => intro _; rfl
          | cons u us ih =>
            intro hu
            show (wipe (wipe σ vs) us).set u none = _
            rw [ih fun z hz => hu z (List.mem_cons_of_mem _ hz)]
            have hm : u ∈ vs := hu u (by simp)
            apply List.ext_getElem?
            intro k
            by_cases hk : k = u
            · subst hk
              by_cases hl : k < (wipe σ vs).length
              · rw [List.getElem?_set_self hl]
                have : ∀ (ws : List Nat), k ∈ ws → k < (wipe σ ws).length → (wipe σ ws)[k]? = some none := by
                  intro ws
                  induction ws with
                  | nil => intro h _; cases h
                  | cons v' ws ih2 =>
                    intro hk2 hl2
                    show ((wipe σ ws).set v' none)[k]? = _
                    by_cases hv : k = v'
                    · subst hv; rw [List.getElem?_set_self (by rw [wipe_length] at hl2 ⊢; exact hl2)]
                    · rw [List.getElem?_set_ne (Ne.symm hv)]
                      exact ih2 (by rcases List.mem_cons.mp hk2 with z | z; exact absurd z hv; exact z) (by rw [wipe_length] at hl2 ⊢; exact hl2)
                rw [this vs hm hl]
              · rw [List.getElem?_eq_none_iff.mpr (by simp; omega), List.getElem?_eq_none_iff.mpr (by omega)]
            · rw [List.getElem?_set_ne (Ne.symm hk)]
        exact this vs fun _ z => z
      rw [assoc] at heq3
      obtain ⟨b4, S4, e4, heq4⟩ := nb (i := i) (acc := acc) heq3
      refine ⟨W3, ρ3, S3, r3, re3, ?_⟩
      rw [e4]
      intro W4 H4 x4 r4
      have x14 : Ext W1 W4 := x.trans (x2.trans (x3.trans x4)).ext
      have g4 : W4.G = upd W1.G Da (.lst accV) := by rw [x4.G, x3.G, x2.G, hG]
      cases b4 with
      | false =>
        show Inv' (i + 1) H4
        rw [if_neg Bool.false_ne_true] at heq4
        exact ⟨W4, S4, acc, accV, x14, g4, r4, RpL.mono (x2.trans (x3.trans x4)).ext _ _ hacc, by omega, heq4⟩
      | true =>
        show tE K mg E' e σ3 H4 fun y H4 => ∃ acc, H4 Da = some (.lst acc) ∧ acc.length < sizeLine ∧ Inv' (i + 1) (upd H4 Da (.lst (acc ++ [y])))
        rw [if_pos rfl] at heq4
        rw [assoc] at heq4
        obtain ⟨y5, S5, e5, heq5⟩ := nb (i := i) (acc := acc) heq4
        refine ⟨W4, ρ3, S4, r4, re3.mono x4.ext, ?_⟩
        rw [e5]
        intro W5 H5 x5 r5 v5 rv5
        have g5 : W5.G = upd W1.G Da (.lst accV) := by rw [x5.G, g4]
        have hacc5 : RpL K W5 acc accV := RpL.mono (x2.trans (x3.trans (x4.trans x5))).ext _ _ hacc
        have at5 : H5 Da = some (.lst accV) := (r5.grd Da _ (by rw [g5, upd_same])).1
        refine ⟨accV, at5, by rw [← hacc.length]; omega, ?_⟩
        obtain ⟨ru, fu, _⟩ := r5.unguard g5 gone
        have rg := ru.guard (o := .lst (accV ++ [v5])) fu
        refine ⟨(W5.ofG W1.G).grd Da (.lst (accV ++ [v5])), S5, acc ++ [y5], accV ++ [v5], (x14.trans x5.ext).trans (Ext.trans Wd.ofG_ext Wd.grd_ext), rfl, rg, ?_, by simp; omega, ?_⟩
        · exact RpL.mono (Ext.trans Wd.ofG_ext Wd.grd_ext) _ _ (hacc5.append (.cons rv5 .nil))
        · rw [heq5]
          show R.bind (R.bind (lcL g t e wt (wipeE ρ vs) (ds.drop (i + 1)) S5) _) _ = R.bind _ _
          cases lcL g t e wt (wipeE ρ vs) (ds.drop (i + 1)) S5 with
          | ok a S' => simp [R.bind, M.ret]
          | exc c fs S' => rfl
          | bad => rfl
    · exfalso
      refine nb0 ?_
      rw [heq]
      show R.bind (if wt S then _ else _) _ = _
      rw [if_neg hw]; rfl
  · have en : ds.drop i = [] := List.drop_eq_nil_iff.mpr (by omega)
    rw [en] at heq
    by_cases hw : wt S
    · refine .inl ⟨(ok W S H i x r hw).1 (Nat.le_of_not_lt hlt), ?_⟩
      have hfin : lcL g t e wt (wipeE ρ vs) ds S1 = .ok acc S := by
        rw [heq]
        show R.bind (if wt S then _ else _) _ = _
        rw [if_pos hw]
        simp [R.bind, M.ret]
      have q : RPost K mg E W1 ((noexR (lcL g t e wt (wipeE ρ vs) ds S1)).bind fun ds => M.ret (D.lst ds)) _ := q
      rw [hfin] at q
      obtain ⟨ru, fu, hD⟩ := r.unguard hG gone
      have rf := ru.addF' (o := .lst accV) fu
      rw [upd_id hD] at rf
      have xf : Stp W1 ((W.ofG W1.G).add Da (.lst accV)) := ⟨x.trans (Ext.trans Wd.ofG_ext (Wd.add_ext fu.f)), rfl⟩
      exact q _ H xf rf (.ref Da) (rp_lst.mpr ⟨Da, accV, rfl, upd_same, RpL.mono (Ext.trans Wd.ofG_ext (Wd.add_ext fu.f)) _ _ hacc⟩)
    · exfalso
      refine nb0 ?_
      rw [heq]
      show R.bind (if wt S then _ else _) _ = _
      rw [if_neg hw]; rfl
section
variable {X : Cx} {E E' : XK} {tg iter elt : Expr} {ifs : List Expr} {src : Env' → M Src} {g : GM} {t : Env' → M Bool} {e : ET} {vs : List Nat} {pos : Pos} {scope : Scope} {own : List (Str × Nat)}
abbrev PTsI (X : Cx) (E : XK) (ifs : List Expr) (m : Env' → M Bool) : Prop := PTs X ifs (tT X.K X.mg E m)
theorem ptsi_nil : PTsI X E [] tYesM := ⟨fun p s σ H Q I ⟨W, ρ, S, r, re, q⟩ => pts_nil.run p s σ H Q I (RPost.here (S := S) (a := true) q r)⟩
theorem ptsi_one {c : Expr} {m : Env' → M Bool} (h : PTI X E c m) : PTsI X E [c] m := pts_one h
theorem tlc_read {K : PySem.W.Frag} {mg : Str → Option Value} {σ : L2.St} {H : Hp} {Q : VK} (h : tE K mg E (eLc src g t e vs) σ H Q) : tLc (tI K mg E src) (tG K mg E' vs g) (tT K mg E' t) (tE K mg E' e) vs σ H Q := by
  obtain ⟨W, ρ, S, r, re, q⟩ := h
  refine ⟨W, ρ, S, r, re, RPost.mono (RPost.bind q) fun W1 H1 p S1 x1 r1 q1 w hz J ok => ?_⟩
  exact lcL_read r1 (re.mono x1.ext) hz ok q1
theorem pei_lc (hc : X.calm = true) (hN : X.N.Nodup) (hi : PII X E tg iter src) (ok : BlkOk X.N X.env.scope scope own)
    (hg : ∀ (s : Shared) (H : Hp) (C : Addr) (cl : List (Str × Addr)) (fp : List Addr), PGI (X.blk s H scope (compEnvC scope cl C X.env) fp) E' tg (own.map (·.2)) g)
    (ht : ∀ (s : Shared) (H : Hp) (C : Addr) (cl : List (Str × Addr)) (fp : List Addr), PTsI (X.blk s H scope (compEnvC scope cl C X.env) fp) E' ifs t)
    (he : ∀ (s : Shared) (H : Hp) (C : Addr) (cl : List (Str × Addr)) (fp : List Addr), PEI (X.blk s H scope (compEnvC scope cl C X.env) fp) E' elt e)
    (hs : ∀ x, foldedSetIterable iter X.env x = pure x := by intro _; rfl) : PEI X E (.ListComp elt [⟨tg, iter, ifs, 0⟩] scope pos) (eLc src g t e (own.map (·.2))) :=
  PE.imp (pe_lc hc hN hi ok hg ht he hs) fun _ _ _ h => tlc_read h
theorem psi_setLc {i : Nat} {y : Str} {py spos : Pos} (hc : X.calm = true) (hN : X.N.Nodup) (hy : X.N[i]? = some y) (hyl : X.env.scope.names.lookup y = some .local)
    (hsw : swapsWith (.ListComp elt [⟨tg, iter, ifs, 0⟩] scope pos) (some (.Name y py)) spos.line X.env = pure true) (hi : PII X E tg iter src) (ok : BlkOk X.N X.env.scope scope own)
    (hg : ∀ (s : Shared) (H : Hp) (C : Addr) (cl : List (Str × Addr)) (fp : List Addr), PGI (X.blk s H scope (compEnvC scope cl C X.env) fp) E' tg (own.map (·.2)) g)
    (ht : ∀ (s : Shared) (H : Hp) (C : Addr) (cl : List (Str × Addr)) (fp : List Addr), PTsI (X.blk s H scope (compEnvC scope cl C X.env) fp) E' ifs t)
    (he : ∀ (s : Shared) (H : Hp) (C : Addr) (cl : List (Str × Addr)) (fp : List Addr), PEI (X.blk s H scope (compEnvC scope cl C X.env) fp) E' elt e)
    (hs : ∀ x, foldedSetIterable iter X.env x = pure x := by intro _; rfl) : PSI X E (.Assign [.Name y py] (.ListComp elt [⟨tg, iter, ifs, 0⟩] scope pos) spos) (sSet i (eLc src g t e (own.map (·.2)))) :=
  PS.imp (ps_setLc hc hN hy hyl hsw hi ok hg ht he hs) fun Dn σ H h => tlc_read (gset_read h)
end
end SL
/-! S5: defs, calls, methods of lists, dicts, op=. -/
namespace SL
open PySem PySem.Spec PyProof.Rows L2

/-! ### references below a bound -/
mutual
def D.rlt (n : Nat) : D → Bool
  | .non => true
  | .bl _ => true
  | .int _ => true
  | .str _ => true
  | .tup l => rltL n l
  | .lst l => rltL n l
  | .fro l => rltL n l
  | .ref m => decide (m < n)
def rltL (n : Nat) : List D → Bool
  | [] => true
  | d :: ds => D.rlt n d && rltL n ds
end
def rltK (n : Nat) {κ : Type} (l : List (κ × D)) : Bool := l.all fun p => D.rlt n p.2
def O.rlt (n : Nat) : O → Bool
  | .dead => true
  | .lst l => rltL n l
  | .dk l => rltK n l
  | .dt l => rltK n l
  | .ins _ l => rltK n l
section
variable {K : PySem.W.Frag} {mg : Str → Option Value} {W W' : Wd} {n : Nat}
mutual
theorem rlt_of (h : ∀ m, n ≤ m → W.φ m = none) : ∀ (d : D) (v : V), Rp K W d v → D.rlt n d = true
  | .non, _, _ => by simp [D.rlt]
  | .bl _, _, _ => by simp [D.rlt]
  | .int _, _, _ => by simp [D.rlt]
  | .str _, _, _ => by simp [D.rlt]
  | .tup l, v, r => by
    obtain ⟨a, xs, _, _, t⟩ := rp_tup.mp r
    simpa [D.rlt] using rlt_ofL h l xs t
  | .lst l, v, r => by
    obtain ⟨a, xs, _, _, t⟩ := rp_lst.mp r
    simpa [D.rlt] using rlt_ofL h l xs t
  | .fro l, v, r => by
    obtain ⟨a, xs, _, _, t⟩ := rp_fro.mp r
    simpa [D.rlt] using rlt_ofL h l xs t
  | .ref m, v, r => by
    obtain ⟨a, _, e⟩ := rp_ref.mp r
    have : m < n := by
      rcases Nat.lt_or_ge m n with z | z
      · exact z
      · rw [h m z] at e; cases e
    simpa [D.rlt] using this
theorem rlt_ofL (h : ∀ m, n ≤ m → W.φ m = none) : ∀ (ds : List D) (vs : List V), RpL K W ds vs → rltL n ds = true
  | [], _, _ => by simp [rltL]
  | d :: ds, vs, r => by
    obtain ⟨x, xs, rfl, h1, h2⟩ := rpl_cons.mp r
    simp [rltL, rlt_of h d x h1, rlt_ofL h ds xs h2]
end
theorem rltK_of (h : ∀ m, n ≤ m → W.φ m = none) {κ : Type} {l : List (κ × D)} {m : List (κ × V)} (r : RpK K W l m) : rltK n l = true := by
  unfold RpK at r
  unfold rltK
  induction r with
  | nil => rfl
  | @cons p q ps qs z t ih => rw [List.all_cons, rlt_of h _ _ z.2, ih]; rfl
theorem rltO_of (h : ∀ m, n ≤ m → W.φ m = none) {o : O} {ho : HO} (r : HoR K mg W o ho) : O.rlt n o = true := by
  cases r with
  | lst h1 => exact rlt_ofL h _ _ h1
  | dk h1 => exact rltK_of h h1
  | dt h1 => exact rltK_of h h1
  | ins _ h1 => exact rltK_of h h1
mutual
theorem rp_cut (hF : ∀ a o, W.F a = some o → W'.F a = some o) (h : ∀ m a, m < n → W.φ m = some a → W'.φ m = some a) : ∀ (d : D) (v : V), Rp K W d v → D.rlt n d = true → Rp K W' d v
  | .non, v, r, _ => rp_non.mpr (rp_non.mp r)
  | .bl _, v, r, _ => rp_bl.mpr (rp_bl.mp r)
  | .int _, v, r, _ => rp_int.mpr (rp_int.mp r)
  | .str _, v, r, _ => rp_str.mpr (rp_str.mp r)
  | .tup l, v, r, e => by
    obtain ⟨a, xs, h1, h2, t⟩ := rp_tup.mp r
    exact rp_tup.mpr ⟨a, xs, h1, hF _ _ h2, rp_cutL hF h l xs t (by simpa [D.rlt] using e)⟩
  | .lst l, v, r, e => by
    obtain ⟨a, xs, h1, h2, t⟩ := rp_lst.mp r
    exact rp_lst.mpr ⟨a, xs, h1, hF _ _ h2, rp_cutL hF h l xs t (by simpa [D.rlt] using e)⟩
  | .fro l, v, r, e => by
    obtain ⟨a, xs, h1, h2, t⟩ := rp_fro.mp r
    exact rp_fro.mpr ⟨a, xs, h1, Same.seqL hF h2, rp_cutL hF h l xs t (by simpa [D.rlt] using e)⟩
  | .ref m, v, r, e => by
    obtain ⟨a, h1, h2⟩ := rp_ref.mp r
    exact rp_ref.mpr ⟨a, h1, h m a (by simpa [D.rlt] using e) h2⟩
theorem rp_cutL (hF : ∀ a o, W.F a = some o → W'.F a = some o) (h : ∀ m a, m < n → W.φ m = some a → W'.φ m = some a) : ∀ (ds : List D) (vs : List V), RpL K W ds vs → rltL n ds = true → RpL K W' ds vs
  | [], vs, r, _ => rpl_nil.mpr (rpl_nil.mp r)
  | d :: ds, vs, r, e => by
    obtain ⟨x, xs, rfl, h1, h2⟩ := rpl_cons.mp r
    have e' : D.rlt n d = true ∧ rltL n ds = true := by simpa [rltL] using e
    exact .cons (rp_cut hF h d x h1 e'.1) (rp_cutL hF h ds xs h2 e'.2)
end
theorem rpK_cut (hF : ∀ a o, W.F a = some o → W'.F a = some o) (h : ∀ m a, m < n → W.φ m = some a → W'.φ m = some a) {κ : Type} {l : List (κ × D)} {m : List (κ × V)} (r : RpK K W l m) (e : rltK n l = true) : RpK K W' l m := by
  unfold RpK at r ⊢
  unfold rltK at e
  induction r with
  | nil => exact .nil
  | @cons p q ps qs z t ih =>
    rw [List.all_cons, Bool.and_eq_true] at e
    exact .cons ⟨z.1, rp_cut hF h _ _ z.2 e.1⟩ (ih e.2)
theorem hoR_cut (hF : ∀ a o, W.F a = some o → W'.F a = some o) (h : ∀ m a, m < n → W.φ m = some a → W'.φ m = some a) {o : O} {ho : HO} (r : HoR K mg W o ho) (e : O.rlt n o = true) : HoR K mg W' o ho := by
  cases r with
  | lst h1 => exact .lst (rp_cutL hF h _ _ h1 e)
  | dk h1 => exact .dk (rpK_cut hF h h1 e)
  | dt h1 => exact .dt (rpK_cut hF h h1 e)
  | ins h0 h1 => exact .ins h0 (rpK_cut hF h h1 e)
end

/-! ### a def's end -/
def retR : R Fl → R D
  | .ok (.rt d) S => .ok d S
  | .ok (.nx _) S => .ok .non S
  | .ok _ _ => .bad
  | .exc c fs S => .exc c fs S
  | .bad => .bad
/-- a new list that is handed back is a list that never changes -/
def frz (n : Nat) (d : D) (S : Store) : D × Store := match d with
  | .ref m => if n ≤ m then match S[m]? with
      | some (.lst l) => (.lst l, S.set m .dead)
      | _ => (.ref m, S)
    else (.ref m, S)
  | d => (d, S)
/-- what the def has made besides is forgotten -/
def CutOk (n : Nat) (S S' : Store) (d : D) : Prop := n = S.length ∧ n ≤ S'.length ∧ D.rlt n d = true ∧ ∀ m, m < n → S'[m]? = S[m]? ∨ ∃ o, S'[m]? = some o ∧ O.rlt n o = true
open Classical in
noncomputable def cutR (S : Store) : R D → R D
  | .ok d S' => if CutOk S.length S (frz S.length d S').2 (frz S.length d S').1 then .ok (frz S.length d S').1 ((frz S.length d S').2.take S.length) else .bad
  | .exc c fs S' => .exc c fs S'
  | .bad => .bad
def inEnv (N : Nat) (ds : List D) : Env' := ds.map some ++ List.replicate (N - ds.length) none
/-- a def that keeps what it makes; one that doesn't -/
def fnP (N : Nat) (m : ST) : List D → M D := fun ds S => noexR (retR (m (inEnv N ds) S))
noncomputable def fnT (N : Nat) (m : ST) : List D → M D := fun ds S => cutR S (noexR (retR (m (inEnv N ds) S)))
section
variable {K : PySem.W.Frag} {mg : Str → Option Value} {E : XK} {W : Wd} {S : Store}
theorem frz_ok {W' : Wd} {S' : Store} {H' : Hp} {d : D} {v : V} (st : Stp W W') (r : Rel K mg W' S' H') (rv : Rp K W' d v) (dom : ∀ m, S.length ≤ m → W.φ m = none) :
    ∃ W1, Stp W W1 ∧ Rel K mg W1 (frz S.length d S').2 H' ∧ Rp K W1 (frz S.length d S').1 v ∧ (∀ m a, W'.φ m = some a → W1.φ m = some a) := by
  have same : ∃ W1, Stp W W1 ∧ Rel K mg W1 S' H' ∧ Rp K W1 d v ∧ (∀ m a, W'.φ m = some a → W1.φ m = some a) := ⟨W', st, r, rv, fun _ _ h => h⟩
  cases d with
  | ref m =>
    by_cases hn : S.length ≤ m
    · cases e : S'[m]? with
      | none =>
        have : frz S.length (.ref m) S' = (.ref m, S') := by simp only [frz, if_pos hn, e]
        rw [this]; exact same
      | some o =>
        cases o with
        | lst l =>
          have : frz S.length (.ref m) S' = (.lst l, S'.set m .dead) := by simp only [frz, if_pos hn, e]
          rw [this]
          obtain ⟨a, ho, h1, h2, h3, h4⟩ := ref_at r rv e rfl
          obtain ⟨a', ho', k1, k2, k3, k4, k5⟩ := r.obj m _ e rfl
          rw [h2] at k1; cases k1
          cases h4 with
          | @lst _ xs h4 =>
            have ef : Ext W' (W'.add a (.lst xs)) := Wd.add_ext k2
            have hlt : m < S'.length := (List.getElem?_eq_some_iff.mp e).1
            -- the object at m is no one's any more
            have rd : Rel K mg W' (S'.set m .dead) H' := by
              refine ⟨r.sub, r.grd, fun j hj => r.dom j (by simpa using hj), fun j u hu hl => ?_, fun i j x y b q1 l1 q2 l2 p1 p2 => ?_⟩
              · by_cases hj : j = m
                · subst hj; rw [List.getElem?_set_self hlt] at hu; cases hu; cases hl
                · rw [List.getElem?_set_ne (Ne.symm hj)] at hu; exact r.obj j u hu hl
              · have hi : i ≠ m := fun z => by subst z; rw [List.getElem?_set_self hlt] at q1; cases q1; cases l1
                have hj : j ≠ m := fun z => by subst z; rw [List.getElem?_set_self hlt] at q2; cases q2; cases l2
                rw [List.getElem?_set_ne (Ne.symm hi)] at q1
                rw [List.getElem?_set_ne (Ne.symm hj)] at q2
                exact r.inj i j x y b q1 l1 q2 l2 p1 p2
            have fa : Fre W' (S'.set m .dead) a := ⟨k2, k3, fun j u hu hl z => by
              have hj : j ≠ m := fun z => by subst z; rw [List.getElem?_set_self hlt] at hu; cases hu; cases hl
              rw [List.getElem?_set_ne (Ne.symm hj)] at hu
              exact hj (r.inj j m u _ a hu hl e rfl z h2)⟩
            have rf := rd.addF' (o := .lst xs) fa
            rw [upd_id h3] at rf
            exact ⟨_, st.trans (Stp.add k2), rf, rp_lst.mpr ⟨a, xs, h1, upd_same, RpL.mono ef _ _ h4⟩, fun _ _ h => h⟩
        | _ =>
          have : frz S.length (.ref m) S' = (.ref m, S') := by simp only [frz, if_pos hn, e]
          rw [this]; exact same
    · have : frz S.length (.ref m) S' = (.ref m, S') := by simp only [frz, if_neg hn]
      rw [this]; exact same
  | _ => exact same
theorem cut_ok {H H' : Hp} {W1 : Wd} {S1 : Store} {d : D} {v : V} (r0 : Rel K mg W S H) (st : Stp W W1) (r : Rel K mg W1 S1 H') (rv : Rp K W1 d v) (c : CutOk S.length S S1 d) :
    ∃ W2, Stp W W2 ∧ Rel K mg W2 (S1.take S.length) H' ∧ Rp K W2 d v := by
  obtain ⟨_, c1, c2, c3⟩ := c
  let W2 : Wd := ⟨fun m => if m < S.length then W1.φ m else none, W1.F, W1.G⟩
  have hF : ∀ a o, W1.F a = some o → W2.F a = some o := fun _ _ h => h
  have hφ : ∀ m a, m < S.length → W1.φ m = some a → W2.φ m = some a := fun m a hm h => by
    show (if m < S.length then W1.φ m else none) = some a
    rw [if_pos hm]; exact h
  have low : ∀ m a, W2.φ m = some a → m < S.length ∧ W1.φ m = some a := fun m a h => by
    have h : (if m < S.length then W1.φ m else none) = some a := h
    by_cases hm : m < S.length
    · rw [if_pos hm] at h; exact ⟨hm, h⟩
    · rw [if_neg hm] at h; cases h
  have at_ : ∀ m o, (S1.take S.length)[m]? = some o → m < S.length ∧ S1[m]? = some o := fun m o e => by
    have hm : m < S.length := by
      have := (List.getElem?_eq_some_iff.mp e).1
      rw [List.length_take] at this; omega
    rw [List.getElem?_take_of_lt hm] at e
    exact ⟨hm, e⟩
  refine ⟨W2, ⟨⟨st.ext.F, fun m a h => ?_⟩, st.G⟩, ⟨r.sub, r.grd, fun m hm => ?_, fun m o e hl => ?_, fun i j x y a q1 l1 q2 l2 p1 p2 => ?_⟩, rp_cut hF hφ d v rv c2⟩
  · have hm : m < S.length := by
      rcases Nat.lt_or_ge m S.length with z | z
      · exact z
      · rw [r0.dom m z] at h; cases h
    exact hφ m a hm (st.ext.φ m a h)
  · rw [List.length_take] at hm
    show (if m < S.length then W1.φ m else none) = none
    rw [if_neg (by omega)]
  · obtain ⟨hm, e1⟩ := at_ m o e
    obtain ⟨a, ho, h1, h2, h3, h4, h5⟩ := r.obj m o e1 hl
    refine ⟨a, ho, hφ m a hm h1, h2, h3, h4, hoR_cut hF hφ h5 ?_⟩
    rcases c3 m hm with z | ⟨o', z1, z2⟩
    · rw [e1] at z
      obtain ⟨a', ho', _, _, _, _, k5⟩ := r0.obj m o z.symm hl
      exact rltO_of r0.dom k5
    · rw [e1] at z1; cases z1; exact z2
  · exact r.inj i j x y a (at_ i x q1).2 l1 (at_ j y q2).2 l2 (low i a p1).2 (low j a p2).2
end

/-! ### defs -/
def spS (K : PySem.W.Frag) (mg : Str → Option Value) (n : Nat) (f : List D → M D) : Sp := fun vs H Q E => ∃ W S ds, Rel K mg W S H ∧ RpL K W ds vs ∧ ds.length = n ∧ tO K mg E (f ds) W S Q
section
variable {P : Program} {w : World} {K : PySem.W.Frag} {mg : Str → Option Value} {base : Heap}
theorem relE_in {W : Wd} {ds : List D} {vs : List V} {N : List Str} (h : RpL K W ds vs) : RelE K W (inEnv N.length ds) (L2.start N vs) := by
  unfold inEnv L2.start
  have hl := h.length
  refine ⟨by simp [hl], fun i d e => ?_⟩
  by_cases hi : i < ds.length
  · rw [List.getElem?_append_left (by simpa using hi), List.getElem?_map] at e
    obtain ⟨d', e1, e2⟩ := Option.map_eq_some_iff.mp e
    cases e2
    obtain ⟨v, h1, h2⟩ := h.get e1
    refine ⟨v, ?_, h2⟩
    rw [List.getElem?_append_left (by simpa [← hl] using hi), List.getElem?_map, h1]
    rfl
  · rw [List.getElem?_append_right (by simpa using hi), List.getElem?_replicate] at e
    split at e <;> cases e
theorem fnP_ok {x qual : Str} {st : Stmt} {f : Addr} {fd : FuncData} {N ps : List Str} {k : Nat} {m : ST} (F : Fun K x qual st f fd) (sc : FnScope N ps (defScope st))
    (hb : ∀ (cdv : Value) (A : Around) (outer : List Env) (s : Shared) (H : Hp) (E : XK), Room k (A.deeper (envOfC qual (defScope st) s.heap.objs.size f cdv)) →
      PSsI (cxOf CX0 P w K mg base N qual (defScope st) f cdv A outer s H E).nox E0 (defBody st) m) : FnOk P w K mg base CX0 (k + 1) f fd ps (spS K mg ps.length (fnP N.length m)) := by
  refine F.ok sc (fun vs H Q E ⟨W, S, ds, r, rd, hl, q⟩ => by rw [← rd.length]; exact hl) fun cdv A outer s H vs Q E hr ⟨W, S, ds, r, rd, hl, q⟩ => ?_
  refine ⟨_, hb cdv A outer s H E hr, W, inEnv N.length ds, S, r, relE_in rd, ?_⟩
  have q : RPost K mg E W (noexR (retR (m (inEnv N.length ds) S))) fun W' H' d _ => ∀ v, Rp K W' d v → Q v H' := q
  show RPost K mg E0 W (m (inEnv N.length ds) S) _
  cases e : m (inEnv N.length ds) S with
  | bad => rw [e] at q; exact q
  | exc c fs S' => rw [e] at q; exact q.elim
  | ok fl S' =>
    rw [e] at q
    cases fl with
    | rt d => exact q
    | nx ρ => exact fun W' H' x r' σ _ => q W' H' x r' _ (rp_non.mpr rfl)
    | bk ρ => exact q.elim
    | ct ρ => exact q.elim
theorem fnT_ok {x qual : Str} {st : Stmt} {f : Addr} {fd : FuncData} {N ps : List Str} {k : Nat} {m : ST} (F : Fun K x qual st f fd) (sc : FnScope N ps (defScope st))
    (hb : ∀ (cdv : Value) (A : Around) (outer : List Env) (s : Shared) (H : Hp) (E : XK), Room k (A.deeper (envOfC qual (defScope st) s.heap.objs.size f cdv)) →
      PSsI (cxOf CX0 P w K mg base N qual (defScope st) f cdv A outer s H E).nox E0 (defBody st) m) : FnOk P w K mg base CX0 (k + 1) f fd ps (spS K mg ps.length (fnT N.length m)) := by
  refine F.ok sc (fun vs H Q E ⟨W, S, ds, r, rd, hl, q⟩ => by rw [← rd.length]; exact hl) fun cdv A outer s H vs Q E hr ⟨W, S, ds, r, rd, hl, q⟩ => ?_
  refine ⟨_, hb cdv A outer s H E hr, W, inEnv N.length ds, S, r, relE_in rd, ?_⟩
  have q : RPost K mg E W (cutR S (noexR (retR (m (inEnv N.length ds) S)))) fun W' H' d _ => ∀ v, Rp K W' d v → Q v H' := q
  show RPost K mg E0 W (m (inEnv N.length ds) S) _
  have fin : ∀ {d : D} {S' : Store}, RPost K mg E W (cutR S (.ok d S')) (fun W' H' d _ => ∀ v, Rp K W' d v → Q v H') → ∀ W' H', Stp W W' → Rel K mg W' S' H' → ∀ v, Rp K W' d v → Q v H' := by
    intro d S' q W' H' x r' v rv
    by_cases hc : CutOk S.length S (frz S.length d S').2 (frz S.length d S').1
    · have e : cutR S (.ok d S') = .ok (frz S.length d S').1 ((frz S.length d S').2.take S.length) := if_pos hc
      rw [e] at q
      obtain ⟨W1, x1, r1, rv1, _⟩ := frz_ok (S := S) x r' rv r.dom
      obtain ⟨W2, x2, r2, rv2⟩ := cut_ok r x1 r1 rv1 hc
      exact q W2 H' x2 r2 v rv2
    · have e : cutR S (.ok d S') = .bad := if_neg hc
      rw [e] at q
      exact q.elim
  cases e : m (inEnv N.length ds) S with
  | bad => rw [e] at q; exact q
  | exc c fs S' => rw [e] at q; exact q.elim
  | ok fl S' =>
    rw [e] at q
    cases fl with
    | rt d => exact fun W' H' x r' v rv => fin q W' H' x r' v rv
    | nx ρ => exact fun W' H' x r' σ _ => fin q W' H' x r' _ (rp_non.mpr rfl)
    | bk ρ => exact q.elim
    | ct ρ => exact q.elim
end
def eCall (n : Nat) (f : List D → M D) (m : Env' → M (List D)) : ET := fun ρ => M.bind (m ρ) fun ds => if ds.length = n then f ds else M.bad
section
variable {X : Cx} {E : XK} {CX : CXT} {k : Nat} {f : Addr} {fd : FuncData} {ps : List Str} {x : Str} {p pos : Pos} {e : Expr} {es : List Expr} {m : Env' → M (List D)} {sem : List D → M D}
theorem pei_call {n : Nat} (F : FnOk X.prog X.w X.K X.mg X.base CX k f fd ps (spS X.K X.mg n sem)) (hr : Room k X.A) (hg : Gl X x) (hm : X.mg x = some (.ref f)) (hk : PySem.W.keepIn X.K (.ref f) = true) (hb : Binds X.K fd ps []) (hx : Passes CX X E)
    (ha : PAI X E (e :: es) m) (hdb : (x == ("__debug__" : Str)) = false := by decide) (he : starEach (e :: es) X.env = (false, eval e X.env) :: starEach es X.env := by rfl) (hpl : (backTo pos (starEach es X.env)).any (·.1) = false := by rfl) :
    PEI X E (.Call (.Name x p) (e :: es) [] pos) (eCall n sem m) :=
  PE.imp (pe_call F hr hg hm hk hb .nil hx ha hdb he hpl) fun σ H Q ⟨W, ρ, S, r, re, q⟩ => ⟨W, ρ, S, r, re, RPost.mono (RPost.bind q) fun W1 H1 ds S1 x1 r1 q1 vs rv => by
    by_cases hl : ds.length = n
    · rw [if_pos hl] at q1
      rw [List.append_nil]
      exact ⟨W1, S1, ds, r1, rv, hl, q1⟩
    · rw [if_neg hl] at q1; exact q1.elim⟩
end

/-! ### methods of lists -/
def eMeth (T : String) (o : D → List D → M D) (me : ET) (ma : Env' → M (List D)) : ET := fun ρ => M.bind (me ρ) fun d => fun S => if tyD S d = T then M.bind (ma ρ) (fun ds => o d ds) S else .bad
def rMO (K : PySem.W.Frag) (mg : Str → Option Value) (E : XK) (o : D → List D → M D) : V → List V → Hp → VK → Prop := fun x xs H Q => ∃ W S d ds, Rel K mg W S H ∧ Rp K W d x ∧ RpL K W ds xs ∧ tO K mg E (o d ds) W S Q
theorem tyV_list {K : PySem.W.Frag} {mg : Str → Option Value} {W : Wd} {S : Store} {H : Hp} {d : D} {v : V} (r : Rel K mg W S H) (rv : Rp K W d v) (h : tyD S d = "list") : tyV K "list" v H := by
  have e : ∃ l, asR S d = some l := by
    cases d with
    | lst l => exact ⟨l, rfl⟩
    | fro l => exact ⟨l, rfl⟩
    | ref n =>
      cases e : S[n]? with
      | none => simp [tyD, e] at h
      | some o => cases o with
        | lst l => exact ⟨l, by simp [asR, asL, e]⟩
        | _ => simp [tyD, e] at h
    | _ => simp [tyD] at h
  obtain ⟨l, e⟩ := e
  obtain ⟨a, xs, rfl, h1, _⟩ := asR_at r rv e
  exact .inl ⟨rfl, xs, h1⟩
section
variable {X : Cx} {E : XK} {o e : Expr} {es : List Expr} {me : ET} {ma : Env' → M (List D)} {name : Str} {apos cpos : Pos} {id : String} {sem : D → List D → M D}
theorem pei_lm (slot : Slot "list" name id) (hty : typeOf (.builtin id) = pure (.type "method_descriptor")) (hm : MtR X id (rMO X.K X.mg E sem)) (ho : PEI X E o me) (ha : PAI X E (e :: es) ma)
    (hbase : attributeBase o name X.env (eval o X.env) = eval o X.env := by rfl)
    (hfew : ((backTo cpos (starEach (e :: es) X.env)).all (fun x => !x.1) && (backToKw cpos (keywordEach [] X.env)).all (fun x => x.1.isSome)
      && decide ((e :: es).length + ([] : List Keyword).length + (if ([] : List Keyword).isEmpty then 0 else 1) < 30)) = true := by rfl)
    (hline : (apos.endLine == cpos.line) = true := by rfl) (hs : starEach (e :: es) X.env = (false, eval e X.env) :: starEach es X.env := by rfl) (hplain : (backTo cpos (starEach es X.env)).any (·.1) = false := by rfl) :
    PEI X E (.Call (.Attribute o name apos) (e :: es) [] cpos) (eMeth "list" sem me ma) :=
  PE.imp (pe_bm PySem.F.plainAttrs_list slot hty hm ho ha hbase hfew hline hs hplain) fun σ H Q ⟨W, ρ, S, r, re, q⟩ => ⟨W, ρ, S, r, re, RPost.mono (RPost.bind q) fun W1 H1 d S1 x1 r1 q1 v rv => by
    by_cases ht : tyD S1 d = "list"
    · rw [if_pos ht] at q1
      refine ⟨tyV_list r1 rv ht, W1, ρ, S1, r1, re.mono x1.ext, RPost.mono (RPost.bind (f := fun ds => sem d ds) q1) fun W2 H2 ds S2 x2 r2 q2 vs rvs => ?_⟩
      exact ⟨W2, S2, d, ds, r2, Rp.mono x2.ext _ _ rv, rvs, q2⟩
    · rw [if_neg ht] at q1; exact q1.elim⟩
theorem pei_lm0 (slot : Slot "list" name id) (hty : typeOf (.builtin id) = pure (.type "method_descriptor")) (hm : MtR X id (rMO X.K X.mg E sem)) (ho : PEI X E o me)
    (hbase : attributeBase o name X.env (eval o X.env) = eval o X.env := by rfl) (hline : (apos.endLine == cpos.line) = true := by rfl) : PEI X E (.Call (.Attribute o name apos) [] [] cpos) (eMeth "list" sem me aNil) :=
  PE.imp (pe_bm0 PySem.F.plainAttrs_list slot hty hm ho hbase hline) fun σ H Q ⟨W, ρ, S, r, re, q⟩ => ⟨W, ρ, S, r, re, RPost.mono (RPost.bind q) fun W1 H1 d S1 x1 r1 q1 v rv => by
    by_cases ht : tyD S1 d = "list"
    · rw [if_pos ht] at q1
      exact ⟨tyV_list r1 rv ht, W1, S1, d, [], r1, rv, .nil, q1⟩
    · rw [if_neg ht] at q1; exact q1.elim⟩
/-- a list of the store -/
def atL (S : Store) : D → Option (Nat × List D)
  | .ref n => match S[n]? with
    | some (.lst l) => some (n, l)
    | _ => none
  | _ => none
theorem atL_of {S : Store} {d : D} {n : Nat} {l : List D} (h : atL S d = some (n, l)) : d = .ref n ∧ S[n]? = some (.lst l) := by
  cases d with
  | ref m =>
    cases e : S[m]? with
    | none => simp [atL, e] at h
    | some o => cases o with
      | lst l' => simp [atL, e] at h; obtain ⟨rfl, rfl⟩ := h; exact ⟨rfl, e⟩
      | _ => simp [atL, e] at h
  | _ => simp [atL] at h
def oneA (o : D → D → M D) : D → List D → M D := fun d ds => match ds with
  | [e] => o d e
  | _ => M.bad
def twoA (o : D → D → D → M D) : D → List D → M D := fun d ds => match ds with
  | [e, f] => o d e f
  | _ => M.bad
def zeroA (o : D → M D) : D → List D → M D := fun d ds => match ds with
  | [] => o d
  | _ => M.bad
theorem rMO1 {K : PySem.W.Frag} {mg : Str → Option Value} {x : V} {xs : List V} {H : Hp} {Q : VK} {o : D → D → M D} (h : rMO K mg E (oneA o) x xs H Q) : ∃ y W S d e, xs = [y] ∧ Rel K mg W S H ∧ Rp K W d x ∧ Rp K W e y ∧ tO K mg E (o d e) W S Q := by
  obtain ⟨W, S, d, ds, r, rx, rd, q⟩ := h
  match ds with
  | [] => exact (q.no rfl).elim
  | e :: f :: l => exact (q.no rfl).elim
  | [e] =>
    obtain ⟨y, ys, rfl, h1, h2⟩ := rpl_cons.mp rd
    cases rpl_nil.mp h2
    exact ⟨y, W, S, d, e, rfl, r, rx, h1, q⟩
theorem rMO0 {K : PySem.W.Frag} {mg : Str → Option Value} {x : V} {xs : List V} {H : Hp} {Q : VK} {o : D → M D} (h : rMO K mg E (zeroA o) x xs H Q) : ∃ W S d, xs = [] ∧ Rel K mg W S H ∧ Rp K W d x ∧ tO K mg E (o d) W S Q := by
  obtain ⟨W, S, d, ds, r, rx, rd, q⟩ := h
  match ds with
  | e :: l => exact (q.no rfl).elim
  | [] => exact ⟨W, S, d, rpl_nil.mp rd, r, rx, q⟩
theorem rMO2 {K : PySem.W.Frag} {mg : Str → Option Value} {x : V} {xs : List V} {H : Hp} {Q : VK} {o : D → D → D → M D} (h : rMO K mg E (twoA o) x xs H Q) : ∃ y z W S d e f, xs = [y, z] ∧ Rel K mg W S H ∧ Rp K W d x ∧ Rp K W e y ∧ Rp K W f z ∧ tO K mg E (o d e f) W S Q := by
  obtain ⟨W, S, d, ds, r, rx, rd, q⟩ := h
  match ds with
  | [] => exact (q.no rfl).elim
  | [e] => exact (q.no rfl).elim
  | e :: f :: g :: l => exact (q.no rfl).elim
  | [e, f] =>
    obtain ⟨y, ys, rfl, h1, h2⟩ := rpl_cons.mp rd
    obtain ⟨z, zs, rfl, h3, h4⟩ := rpl_cons.mp h2
    cases rpl_nil.mp h4
    exact ⟨y, z, W, S, d, e, f, rfl, r, rx, h1, h3, q⟩
def appM (d y : D) : M D := fun S => match atL S d with
  | some (n, l) => if l.length < sizeLine then .ok .non (S.set n (.lst (l ++ [y]))) else .bad
  | none => .bad
theorem m_append : MtR X "list.append" (rMO X.K X.mg E (oneA appM)) := by
  intro pins s σ H x xs v us Q I rx rxs h
  obtain ⟨y, W, S, d, e, rfl, r, rd, ry, q⟩ := rMO1 h
  cases he : atL S d with
  | none => exact (q.no (by unfold appM; rw [he])).elim
  | some p =>
    obtain ⟨n, l⟩ := p
    obtain ⟨rfl, es⟩ := atL_of he
    obtain ⟨a, ho, rfl, h2, h3, h4⟩ := ref_at r rd es rfl
    cases h4 with
    | @lst _ ys h4 =>
      by_cases hz : l.length < sizeLine
      · exact mt_append pins s σ H _ _ v us Q I rx rxs ⟨a, ys, y, rfl, rfl, h3, by rw [← h4.length]; exact hz, q.put (d := .non) (by unfold appM; rw [he]; exact if_pos hz) r es rfl h2 (.lst (h4.append (.cons ry .nil))) (rp_non.mpr rfl)⟩
      · exact (q.no (by unfold appM; rw [he]; exact if_neg hz)).elim
/-- pop() and pop(i) -/
def popM (d : D) : M D := fun S => match atL S d with
  | some (n, l) => match l[l.length - 1]? with
    | some y => .ok y (S.set n (.lst l.dropLast))
    | none => .bad
  | none => .bad
theorem RpL.dropLast {K : PySem.W.Frag} {W : Wd} {ds : List D} {vs : List V} (h : RpL K W ds vs) : RpL K W ds.dropLast vs.dropLast := by
  rw [List.dropLast_eq_take, List.dropLast_eq_take, h.length]
  exact h.take _
theorem m_pop : MtR X "list.pop" (rMO X.K X.mg E (zeroA popM)) := by
  intro pins s σ H x xs v us Q I rx rxs h
  obtain ⟨W, S, d, rfl, r, rd, q⟩ := rMO0 h
  cases he : atL S d with
  | none => exact (q.no (by unfold popM; rw [he])).elim
  | some p =>
    obtain ⟨n, l⟩ := p
    obtain ⟨rfl, es⟩ := atL_of he
    obtain ⟨a, ho, rfl, h2, h3, h4⟩ := ref_at r rd es rfl
    cases h4 with
    | @lst _ ys h4 =>
      cases hl : l[l.length - 1]? with
      | none => exact (q.no (by unfold popM; rw [he]; simp only [hl])).elim
      | some y =>
        obtain ⟨z, k1, k2⟩ := h4.get hl
        exact mt_pop pins s σ H _ _ v us Q I rx rxs ⟨a, ys, z, rfl, rfl, h3, by rw [← h4.length]; exact k1, q.put (d := y) (by unfold popM; rw [he]; simp only [hl]) r es rfl h2 (.lst h4.dropLast) k2⟩
def popAtM (d i : D) : M D := fun S => match atL S d, i with
  | some (n, l), .int i => match ixN l.length i with
    | some k => match l[k]? with
      | some y => if l.length < 2 ^ 62 then .ok y (S.set n (.lst (l.eraseIdx k))) else .bad
      | none => .bad
    | none => .bad
  | _, _ => .bad
theorem m_popAt : MtR X "list.pop" (rMO X.K X.mg E (oneA popAtM)) := by
  intro pins s σ H x xs v us Q I rx rxs h
  obtain ⟨y, W, S, d, e, rfl, r, rd, ry, q⟩ := rMO1 h
  cases he : atL S d with
  | none => exact (q.no (by unfold popAtM; rw [he])).elim
  | some p =>
    obtain ⟨n, l⟩ := p
    cases e with
    | int i =>
      obtain ⟨rfl, es⟩ := atL_of he
      obtain ⟨a, ho, rfl, h2, h3, h4⟩ := ref_at r rd es rfl
      cases h4 with
      | @lst _ ys h4 =>
        cases hk : ixN l.length i with
        | none => exact (q.no (by unfold popAtM; rw [he]; simp only [hk])).elim
        | some k =>
          cases hl : l[k]? with
          | none => exact (q.no (by unfold popAtM; rw [he]; simp only [hk, hl])).elim
          | some y' =>
            by_cases hz : l.length < 2 ^ 62
            · obtain ⟨z, k1, k2⟩ := h4.get hl
              obtain ⟨s1, s2, s3, s4⟩ := ixN_seq hk
              rw [h4.length] at s1
              exact mt_popAt pins s σ H _ _ v us Q I rx rxs ⟨a, ys, i, k, z, rfl, by rw [rp_int.mp ry], h3, by omega, by omega, s1, k1, q.put (d := y') (by unfold popAtM; rw [he]; simp only [hk, hl]; exact if_pos hz) r es rfl h2 (.lst (h4.eraseIdx k)) k2⟩
            · exact (q.no (by unfold popAtM; rw [he]; simp only [hk, hl]; exact if_neg hz)).elim
    | _ => exact (q.no (by unfold popAtM; rw [he])).elim
end

/-! ### op= at a name -/
def sAug (i : Nat) (o : D → D → M D) (m : ET) : ST := fun ρ => match ρ[i]? with
  | some (some x) => M.bind (m ρ) fun y => M.bind (o x y) fun z => M.ret (.nx (ρ.set i (some z)))
  | _ => M.bad
section
variable {X : Cx} {E : XK} {e : Expr} {me : ET} {pos pos' : Pos} {o : D → D → M D}
def addI (a b : D) : M D := fun S => match a, b with
  | .int i, .int j => .ok (.int (i + j)) S
  | _, _ => .bad
theorem p_addI : PIp X .Add (rO2 X.K X.mg E addI) := by
  intro pins s σ H x y v u Q I rx ry ⟨W, S, a, b, r, ra, rb, q⟩
  cases a with
  | int i =>
    cases b with
    | int j => exact ip_add pins s σ H x y v u Q I rx ry ⟨i, j, rp_int.mp ra, rp_int.mp rb, q.val rfl r (rp_int.mpr rfl)⟩
    | _ => exact (q.no rfl).elim
  | _ => exact (q.no rfl).elim
theorem p_subI : PIp X .Sub (rO2 X.K X.mg E subM) := by
  intro pins s σ H x y v u Q I rx ry ⟨W, S, a, b, r, ra, rb, q⟩
  cases a with
  | int i =>
    cases b with
    | int j => exact ip_sub pins s σ H x y v u Q I rx ry ⟨i, j, rp_int.mp ra, rp_int.mp rb, q.val rfl r (rp_int.mpr rfl)⟩
    | _ => exact (q.no rfl).elim
  | _ => exact (q.no rfl).elim
theorem psi_aug {i : Nat} {x : Str} {op : Operator} (hN : X.N.Nodup) (hi : X.N[i]? = some x) (hx : Loc X.env.scope x) (he : PEI X E e me) (ho : PIp X op (rO2 X.K X.mg E o))
    (hf : X.fn x = true ∨ X.env.scope.names.lookup x = some .local := by first | exact .inl rfl | exact .inr rfl | assumption) : PSI X E (.AugAssign (.Name x pos') op e pos) (sAug i o me) :=
  PS.imp (ps_aug hN hi hx he ho hf) fun Dn σ H ⟨W, ρ, S, r, re, q⟩ => by
    unfold sAug at q
    cases e1 : ρ[i]? with
    | none => rw [e1] at q; exact q.elim
    | some od =>
      cases od with
      | none => rw [e1] at q; exact q.elim
      | some d =>
        rw [e1] at q
        obtain ⟨v, h1, h2⟩ := re.at_ i d e1
        have q : RPost X.K X.mg E W ((me ρ S).bind fun y => M.bind (o d y) fun z => M.ret (Fl.nx (ρ.set i (some z)))) _ := q
        refine ⟨v, h1, W, ρ, S, r, re, RPost.mono (RPost.bind q) fun W1 H1 y S1 x1 r1 q1 u ru => ?_⟩
        refine ⟨W1, S1, d, y, r1, Rp.mono x1.ext _ _ h2, ru, RPost.mono (RPost.bind (r := o d y S1) (f := fun z => M.ret (Fl.nx (ρ.set i (some z)))) q1) fun W2 H2 z S2 x2 r2 q2 w rw' => ?_⟩
        exact fl_nx (S := S2) q2 r2 ((re.mono (x1.trans x2).ext).set i rw')
end
end SL
/-! S6: targets with a star, targets of lists, dicts. -/
namespace SL
open PySem PySem.Spec PyProof.Rows L2

/-! ### targets with a star -/
section
variable {prog : Program} {w : World} {A : Around} {E : Value → Shared → Prop} {s : Shared}
theorem star_tail {I l : Addr} {items : Array Value} {n i : Nat} {T : String} {St : Nat → Heap → Prop} {Q : List Value → Shared → Prop} {h₁ : Heap} (hT : T = "str_ascii_iterator" ∨ T = "str_iterator" ∨ T = "list_iterator" ∨ T = "tuple_iterator")
    (Wk : Walks prog w A.in1 I [I, l] [I] items.size (fun i v => items[i]? = some v) St) (hTy : ∀ i (u : Shared), St i u.heap → u.TypeIs (.ref I) T) (st : St i h₁) (hI : I < h₁.objs.size) (hl : l < h₁.objs.size) (hi : i < n) (hn : n ≤ items.size + 1) (hz : items.size ≤ sizeLine)
    (h : ∀ (h' : Heap) (tk : Nat), (∀ b o, b ≠ I → h₁.get? b = some o → h'.get? b = some o) → Q (items.toList.take i ++ [.ref h'.objs.size] ++ (items.toList.drop i).drop (items.size + 1 - n)) { s with heap := h'.push { cls := .type "list", data := .seq ((items.toList.drop i).take (items.size + 1 - n)).toArray }, toks := tk }) :
    wpAny (model prog w) A (do
      let rest ← holding (items.toList.take i) (collect (.ref I))
      let after := n - 1 - i
      if rest.length < after then
        rule "unpack.star.too-few"
        raiseError "ValueError" s!"not enough values to unpack (expected at least {n - 1}, got {i + rest.length})"
      let mid := rest.length - after
      return items.toList.take i ++ [← newList (rest.take mid)] ++ rest.drop mid) Q E { s with heap := h₁ } := by
  have hlen : (items.toList.drop i).length = items.size - i := by rw [List.length_drop, Array.length_toList]
  have hm : (items.toList.drop i).length - (n - 1 - i) = items.size + 1 - n := by rw [hlen]; omega
  refine wpAny_bind (wpAny_holding (PySem.W.kun_collect (s := { s with heap := h₁ }) hT Wk hTy (k := i) (by omega) st hI hl (fun h₂ tk hk => ?_) hz))
  have no : ¬ (items.toList.drop i).length < n - 1 - i := by rw [hlen]; omega
  show wpAny _ _ (if (items.toList.drop i).length < n - 1 - i then _ else _) _ _ _
  rw [if_neg no]
  show wpAny _ _ (newList ((items.toList.drop i).take ((items.toList.drop i).length - (n - 1 - i))) >>= fun d => pure (items.toList.take i ++ [d] ++ (items.toList.drop i).drop ((items.toList.drop i).length - (n - 1 - i)))) _ _ _
  rw [hm]
  exact wpAny_bind (wpAny_newObj_type (wpAny_pure (h h₂ tk hk)) (by show ((items.toList.drop i).take (items.size + 1 - n)).length ≤ sizeLine; rw [List.length_take, hlen]; omega))
theorem star_tup {l : Addr} {items : Array Value} {n i : Nat} {Q : List Value → Shared → Prop} (hl : IsTup s.heap l items) (hh : A.handled = none) (hi : i < n) (hn : n ≤ items.size + 1) (hz : items.size ≤ sizeLine)
    (h : ∀ (h' : Heap) (tk : Nat), (∀ b o, s.heap.get? b = some o → h'.get? b = some o) → Q (items.toList.take i ++ [.ref h'.objs.size] ++ (items.toList.drop i).drop (items.size + 1 - n)) { s with heap := h'.push { cls := .type "list", data := .seq ((items.toList.drop i).take (items.size + 1 - n)).toArray }, toks := tk }) :
    wpAny (model prog w) A (unpackItems (.ref l) n (some i)) Q E s := by
  have hne : l ≠ s.heap.objs.size := by obtain ⟨o, ho, _⟩ := hl; exact Nat.ne_of_lt (Heap.lt_size ho)
  unfold unpackItems notIterableAtAll
  refine wpAny_bind (wpAny_bind (wpAny_specialOf hl.typeIs slot_tuple_iter.lookup (wpAny_pure ?_)))
  simp only [Bool.false_eq_true, if_false]
  refine wpAny_bind (wpAny_holding (iter_tuple hl ?_))
  refine wpAny_bind (wpAny_holding (draw_tuple hne i 0 _ _ ⟨_, Heap.get?_push_size _ rfl, rfl, rfl⟩ (hl.push _) (by omega) fun h₁ it₁ sb => ?_))
  have hl₁ : IsTup h₁ l items := (hl.push _).extBut sb.extBut hne
  rw [Nat.zero_add] at it₁
  obtain ⟨oi, hoi, _⟩ := id it₁
  obtain ⟨ol, hol, _⟩ := id hl₁
  rw [List.drop_zero]
  have hf : (items.toList.take i).length = i := by rw [List.length_take, Array.length_toList]; omega
  rw [if_neg (by rw [hf]; omega)]
  have old : ∀ b o, s.heap.get? b = some o → b ≠ s.heap.objs.size ∧ h₁.get? b = some o := fun b o e => ⟨Nat.ne_of_lt (Heap.lt_size e), sb.extBut b o (Nat.ne_of_lt (Heap.lt_size e)) (Heap.get?_push_of_some _ e)⟩
  refine star_tail (.inr (.inr (.inr rfl))) (Walks.tuple (A := A.in1) hh s.heap.objs.size l hne items) (fun j u st => st.1.typeIs) ⟨it₁, hl₁⟩ (Heap.lt_size hoi) (Heap.lt_size hol) hi hn hz fun h' tk k => ?_
  exact h h' tk fun b o e => k b o (old b o e).1 (old b o e).2
theorem star_lst {l : Addr} {items : Array Value} {n i : Nat} {Q : List Value → Shared → Prop} (hl : s.heap.IsList l items) (hh : A.handled = none) (hi : i < n) (hn : n ≤ items.size + 1) (hz : items.size ≤ sizeLine)
    (h : ∀ (h' : Heap) (tk : Nat), (∀ b o, s.heap.get? b = some o → h'.get? b = some o) → Q (items.toList.take i ++ [.ref h'.objs.size] ++ (items.toList.drop i).drop (items.size + 1 - n)) { s with heap := h'.push { cls := .type "list", data := .seq ((items.toList.drop i).take (items.size + 1 - n)).toArray }, toks := tk }) :
    wpAny (model prog w) A (unpackItems (.ref l) n (some i)) Q E s := by
  have hne : l ≠ s.heap.objs.size := by obtain ⟨o, ho, _⟩ := hl; exact Nat.ne_of_lt (Heap.lt_size ho)
  unfold unpackItems notIterableAtAll
  refine wpAny_bind (wpAny_bind (wpAny_specialOf hl.typeIs slot_list_iter.lookup (wpAny_pure ?_)))
  simp only [Bool.false_eq_true, if_false]
  refine wpAny_bind (wpAny_holding (wpAny_pyIter_list hl ?_))
  refine wpAny_bind (wpAny_holding (PySem.W.kun_draw hne i 0 _ _ ⟨_, Heap.get?_push_size _ rfl, rfl, rfl⟩ (hl.push _) (by omega) fun h₁ it₁ sb => ?_))
  have hl₁ : h₁.IsList l items := (hl.push _).extBut sb.extBut hne
  rw [Nat.zero_add] at it₁
  obtain ⟨oi, hoi, _⟩ := id it₁
  obtain ⟨ol, hol, _⟩ := id hl₁
  rw [List.drop_zero]
  have hf : (items.toList.take i).length = i := by rw [List.length_take, Array.length_toList]; omega
  rw [if_neg (by rw [hf]; omega)]
  have old : ∀ b o, s.heap.get? b = some o → b ≠ s.heap.objs.size ∧ h₁.get? b = some o := fun b o e => ⟨Nat.ne_of_lt (Heap.lt_size e), sb.extBut b o (Nat.ne_of_lt (Heap.lt_size e)) (Heap.get?_push_of_some _ e)⟩
  refine star_tail (.inr (.inr (.inl rfl))) (Walks.list (A := A.in1) hh s.heap.objs.size l hne items) (fun j u st => st.1.typeIs) ⟨it₁, hl₁⟩ (Heap.lt_size hoi) (Heap.lt_size hol) hi hn hz fun h' tk k => ?_
  exact h h' tk fun b o e => k b o (old b o e).1 (old b o e).2
end
/-- first ones, a list of the middle, the last ones -/
def starD {α : Type} (f : List α → α) (n i : Nat) (l : List α) : List α := l.take i ++ [f ((l.drop i).take (l.length + 1 - n))] ++ (l.drop i).drop (l.length + 1 - n)
def gStarM (n i : Nat) (gs : GsM) : GM := fun d ρ S => match asQ S d with
  | some l => if n ≤ l.length + 1 then gs (starD .lst n i l) ρ S else .bad
  | none => .bad
theorem pgs_star {X : Cx} {e : Expr} {es : List Expr} {p : Pos} {t : TG} {u : TGs} (h1 : PG X e t) (h2 : PGs X es u) (hs : (assignEach (.Starred e p :: es) X.env).map (·.2) = assign e X.env :: (assignEach es X.env).map (·.2) := by rfl) : PGs X (.Starred e p :: es) (gCons t u) := by
  refine ⟨fun pins s σ H vs us Q I r ⟨v, vr, e1, h⟩ => ?_⟩
  subst e1
  cases r with
  | cons r rr =>
    rw [hs]
    exact assignInOrder_cons (thn (h1.run pins s σ H _ _ _ I r h) fun _ s1 ⟨σ1, H1, I1, q1⟩ => h2.run pins s1 σ1 H1 _ _ Q I1 rr q1)
section
variable {X : Cx} {E : XK} {e : Expr} {es : List Expr} {pos p : Pos} {vs ws : List Nat} {g : GM} {gs : GsM}
theorem gcons_read {K : PySem.W.Frag} {mg : Str → Option Value} {xs : List V} {σ : L2.St} {H : Hp} {Q : L2.St → Hp → Prop} (h : tGs K mg E (vs ++ ws) (gConsM g gs) xs σ H Q) : gCons (tG K mg E vs g) (tGs K mg E ws gs) xs σ H Q := by
  obtain ⟨W, ρ, S, ds, r, re, rv, q⟩ := h
  cases ds with
  | nil => exact q.elim
  | cons d ds =>
    obtain ⟨x, ys, rfl, h3, h4⟩ := rpl_cons.mp rv
    refine ⟨x, ys, rfl, W, ρ, S, d, r, re, h3, RPost.mono (RPost.bind (f := fun ρ' => gs ds ρ') q) fun W1 H1 ρ1 S1 x1 r1 q1 σ1 re1 w1 => ?_⟩
    refine ⟨W1, ρ1, S1, ds, r1, re1, RpL.mono x1.ext _ _ h4, RPost.mono q1 fun W2 H2 ρ2 S2 x2 r2 q2 σ2 re2 w2 => q2 σ2 re2 fun us hu => ?_⟩
    rw [w2 us fun i hi => hu i (List.mem_append_right _ hi), w1 us fun i hi => hu i (List.mem_append_left _ hi)]
theorem pgsi_star (h1 : PGI X E e vs g) (h2 : PGsI X E es ws gs) (hs : (assignEach (.Starred e p :: es) X.env).map (·.2) = assign e X.env :: (assignEach es X.env).map (·.2) := by rfl) : PGsI X E (.Starred e p :: es) (vs ++ ws) (gConsM g gs) :=
  PGs.imp (pgs_star h1 h2 hs) fun _ _ _ _ h => gcons_read h
theorem RpL.star {K : PySem.W.Frag} {W : Wd} {ds : List D} {xs : List V} (h : RpL K W ds xs) (n i : Nat) {p : Addr} (hp : W.F p = some (.lst ((xs.drop i).take (xs.length + 1 - n)))) :
    RpL K W (starD .lst n i ds) (starD (fun _ => V.ref p) n i xs) := by
  unfold starD
  rw [h.length]
  exact ((h.take i).append (.cons (rp_lst.mpr ⟨p, _, rfl, hp, (h.drop i).take _⟩) .nil)).append ((h.drop i).drop _)
theorem vals_star {xs : List V} {us : List Value} (h : Vals xs us) (n i : Nat) (p : Addr) : Vals (starD (fun _ => V.ref p) n i xs) (us.take i ++ [.ref p] ++ (us.drop i).drop (us.length + 1 - n)) := by
  unfold starD
  rw [h.length]
  exact ((h.take i).append (.cons (show L2.RelV (V.ref p) (Value.ref p) from rfl) .nil)).append ((h.drop i).drop _)
theorem pgi_star {k n i : Nat} (hc : X.calm = true) (h : PGsI X E es vs gs) (hn : (assignEach es X.env).length = n := by rfl) (hst : (assignEach es X.env).findIdx? (·.1) = some i := by rfl) (hi : i < n := by decide) : PGI X E (.Tuple es k pos) vs (gStarM n i gs) := by
  refine ⟨fun pins s σ H v u Q I rv ⟨W, ρ, S, d, r, re, rd, q⟩ => ?_⟩
  rw [PyProof.Rows.assign_Tuple]
  refine wpAny_bind (wpAny_standAt ?_)
  unfold unpack
  rw [hn, hst]
  unfold gStarM at q
  cases e : asQ S d with
  | none => rw [e] at q; exact q.elim
  | some l =>
    rw [e] at q
    by_cases hl : n ≤ l.length + 1
    · have q : RPost X.K X.mg E W (if n ≤ l.length + 1 then gs (starD .lst n i l) ρ S else .bad) _ := q
      rw [if_pos hl] at q
      obtain ⟨a, xs, rfl, hx, hy⟩ := asQ_at r rd e
      cases rv
      -- the common end
      have fin : ∀ (its : List Value), Vals xs its → xs.length ≤ sizeLine → ∀ (h' : Heap) (tk : Nat), (∀ b o, s.heap.get? b = some o → h'.get? b = some o) →
          wpAny (model X.prog X.w) X.A (assignInOrder ((assignEach es X.env).map (·.2)) (its.toArray.toList.take i ++ [.ref h'.objs.size] ++ (its.toArray.toList.drop i).drop (its.toArray.size + 1 - n))) (fun _ s' => ∃ σ' H', L2.Inv X pins σ' H' s' ∧ Q σ' H') X.xe
            { s with heap := h'.push { cls := .type "list", data := .seq ((its.toArray.toList.drop i).take (its.toArray.size + 1 - n)).toArray }, toks := tk } := by
        intro its rvs hz h' tk hk
        have hlen := rvs.length
        have I1 : L2.Inv X pins σ H { s with heap := h', toks := tk } := I.kept hk
        have hp : H h'.objs.size = none := I1.hok.fresh (Nat.le_refl _)
        have I2 := I1.lnew (t' := tk) (its := (its.drop i).take (xs.length + 1 - n)) ((rvs.drop i).take (xs.length + 1 - n)) (by rw [List.length_take, List.length_drop]; omega)
        rw [hlen] at I2
        have x1 : Stp W (W.add h'.objs.size (.lst ((xs.drop i).take (xs.length + 1 - n)))) := Stp.add (r.fnone hp)
        rw [← hlen] at I2
        have rf := r.addF (o := .lst ((xs.drop i).take (xs.length + 1 - n))) hp
        have vs' := vals_star rvs n i h'.objs.size
        simp only [List.size_toArray, ← hlen]
        rw [← hlen] at vs'
        exact h.run pins _ σ _ _ _ Q I2 vs' ⟨_, ρ, S, _, rf, re.mono x1.ext, RpL.star (RpL.mono x1.ext _ _ hy) n i upd_same, RPost.later q x1⟩
      rcases hx with hx | hx
      · obtain ⟨its, rvs, pl, hz⟩ := I.list hx
        have hlen := rvs.length
        have h3 := hy.length
        exact wpAny_bind (wpAny_holding (star_lst pl.isList (I.ok.hd hc) hi (by rw [List.size_toArray]; omega) (by rw [List.size_toArray]; omega) fun h' tk hk => fin its rvs hz h' tk hk))
      · obtain ⟨its, rvs, pl, hz⟩ := I.tuple hx
        have hlen := rvs.length
        have h3 := hy.length
        exact wpAny_bind (wpAny_holding (star_tup pl (I.ok.hd hc) hi (by rw [List.size_toArray]; omega) (by rw [List.size_toArray]; omega) fun h' tk hk => fin its rvs hz h' tk hk))
    · have q : RPost X.K X.mg E W (if n ≤ l.length + 1 then gs (starD .lst n i l) ρ S else .bad) _ := q
      rw [if_neg hl] at q
      exact q.elim
/-- a, b = a tuple or a list -/
def gSeqM (n : Nat) (gs : GsM) : GM := fun d ρ S => match asQ S d with
  | some l => if l.length = n then gs l ρ S else .bad
  | none => .bad
theorem pgi_seq {k n : Nat} (hc : X.calm = true) (h : PGsI X E es vs gs) (hn : (assignEach es X.env).length = n := by rfl) (hst : (assignEach es X.env).findIdx? (·.1) = none := by rfl) : PGI X E (.Tuple es k pos) vs (gSeqM n gs) :=
  PG.imp (PG.or (pg_tup hc h hn hst) (pg_unl hc h hn hst)) fun v σ H Q ⟨W, ρ, S, d, r, re, rv, q⟩ => by
    unfold gSeqM at q
    cases e : asQ S d with
    | none => rw [e] at q; exact q.elim
    | some l =>
      rw [e] at q
      have q : RPost X.K X.mg E W (if l.length = n then gs l ρ S else .bad) _ := q
      by_cases hl : l.length = n
      · rw [if_pos hl] at q
        obtain ⟨a, xs, rfl, hx, hy⟩ := asQ_at r rv e
        rcases hx with hx | hx
        · exact .inr ⟨a, xs, rfl, hx, by rw [← hy.length]; exact hl, W, ρ, S, l, r, re, hy, q⟩
        · exact .inl ⟨a, xs, rfl, hx, by rw [← hy.length]; exact hl, W, ρ, S, l, r, re, hy, q⟩
      · rw [if_neg hl] at q; exact q.elim
/-- target = value -/
def sAsg (m : ET) (g : GM) : ST := fun ρ => M.bind (m ρ) fun d => M.bind (g d ρ) fun ρ' => M.ret (.nx ρ')
theorem psi_asg {tg e : Expr} {m : ET} (he : PEI X E e m) (hg : PGI X E tg vs g) (hs : swapsWithSole [tg] e pos.line X.env = pure false := by rfl) (hw : swappedStores [tg] e X.env = pure none := by rfl)
    (h1 : (assignEach [tg] X.env).map (·.2) = [assign tg X.env] := by rfl) : PSI X E (.Assign [tg] e pos) (sAsg m g) := PS.imp (ps_asg he hg hs hw h1) fun Dn σ H ⟨W, ρ, S, r, re, q⟩ =>
  ⟨W, ρ, S, r, re, RPost.mono (RPost.bind q) fun W1 H1 d S1 x1 r1 q1 v rv => ⟨W1, ρ, S1, d, r1, re.mono x1.ext, rv, RPost.mono (RPost.bind (r := g d ρ S1) (f := fun ρ' => M.ret (Fl.nx ρ')) q1) fun W2 H2 ρ2 S2 x2 r2 q2 σ2 re2 _ => fl_nx (S := S2) q2 r2 re2⟩⟩
end
end SL
/-! S7: in, dicts. -/
namespace SL
open PySem PySem.Spec PyProof.Rows L2

/-! ### in, of flat things -/
def vF : D → V
  | .non => .non
  | .bl b => .bl b
  | .int i => .int i
  | .str x => .str x
  | _ => .non
def flD : D → Bool
  | .non => true
  | .bl _ => true
  | .int _ => true
  | .str _ => true
  | _ => false
def eqF (a b : D) : Bool := eqV (vF a) (vF b)
theorem rp_flat {K : PySem.W.Frag} {W : Wd} {d : D} {v : V} (h : Rp K W d v) (f : flD d = true) : v = vF d ∧ flatV v = true := by
  cases d with
  | non => exact ⟨rp_non.mp h, by rw [rp_non.mp h]; rfl⟩
  | bl b => exact ⟨rp_bl.mp h, by rw [rp_bl.mp h]; rfl⟩
  | int b => exact ⟨rp_int.mp h, by rw [rp_int.mp h]; rfl⟩
  | str b => exact ⟨rp_str.mp h, by rw [rp_str.mp h]; rfl⟩
  | _ => cases f
theorem rpl_flat {K : PySem.W.Frag} {W : Wd} : ∀ {ds : List D} {vs : List V}, RpL K W ds vs → ds.all flD = true → vs = ds.map vF ∧ vs.all flatV = true
  | [], _, h, _ => by cases rpl_nil.mp h; exact ⟨rfl, rfl⟩
  | d :: ds, _, h, f => by
    obtain ⟨x, xs, rfl, h1, h2⟩ := rpl_cons.mp h
    rw [List.all_cons, Bool.and_eq_true] at f
    obtain ⟨e1, e2⟩ := rp_flat h1 f.1
    obtain ⟨e3, e4⟩ := rpl_flat h2 f.2
    refine ⟨by rw [List.map_cons, ← e1, ← e3], by rw [List.all_cons, e2, e4]; rfl⟩
def anyF (S : Store) (x l : D) : Option Bool := match asQ S l with
  | some ds => if (flD x && ds.all flD) = true then some (ds.any fun y => eqF y x) else none
  | none => none
def inF (x l : D) : M D := fun S => match anyF S x l with
  | some k => .ok (.bl k) S
  | none => .bad
def notInF (x l : D) : M D := fun S => match anyF S x l with
  | some k => .ok (.bl (!k)) S
  | none => .bad
section
variable {X : Cx} {E : XK}
theorem anyF_at {K : PySem.W.Frag} {mg : Str → Option Value} {W : Wd} {S : Store} {H : Hp} {x l : D} {u v : V} {k : Bool} (r : Rel K mg W S H) (rx : Rp K W x u) (rl : Rp K W l v) (h : anyF S x l = some k) :
    ∃ p xs, v = .ref p ∧ (SqL K H p xs ∨ SqT K H p xs) ∧ flatV u = true ∧ xs.all flatV = true ∧ inV u xs = k := by
  unfold anyF at h
  cases e : asQ S l with
  | none => rw [e] at h; cases h
  | some ds =>
    rw [e] at h
    have h : (if (flD x && ds.all flD) = true then some (ds.any fun y => eqF y x) else none) = some k := h
    split at h
    · rename_i hf
      rw [Bool.and_eq_true] at hf
      obtain ⟨p, xs, h1, h2, h3⟩ := asQ_at r rl e
      obtain ⟨e1, e2⟩ := rp_flat rx hf.1
      obtain ⟨e3, e4⟩ := rpl_flat h3 hf.2
      refine ⟨p, xs, h1, h2, e2, e4, ?_⟩
      rw [← Option.some.inj h, e3, e1]
      unfold inV
      rw [List.any_map]
      rfl
    · cases h
theorem o_inF : O2 X E (compareOp .In) inF := by
  intro pins s σ H x y v u Q I rx ry ⟨W, S, a, b, r, ra, rb, q⟩
  cases e : anyF S a b with
  | none => exact (q.no (by unfold inF; rw [e])).elim
  | some k =>
    obtain ⟨p, xs, rfl, h1, h2, h3, h4⟩ := anyF_at r ra rb e
    exact op_in_seq pins s σ H x _ v u Q I rx ry ⟨p, xs, rfl, h1, h2, h3, q.val (d := .bl k) (by unfold inF; rw [e]) r (rp_bl.mpr (by rw [← h4]; rfl))⟩
theorem o_notInF : O2 X E (compareOp .NotIn) notInF := by
  intro pins s σ H x y v u Q I rx ry ⟨W, S, a, b, r, ra, rb, q⟩
  cases e : anyF S a b with
  | none => exact (q.no (by unfold notInF; rw [e])).elim
  | some k =>
    obtain ⟨p, xs, rfl, h1, h2, h3, h4⟩ := anyF_at r ra rb e
    exact op_notIn_seq pins s σ H x _ v u Q I rx ry ⟨p, xs, rfl, h1, h2, h3, q.val (d := .bl (!k)) (by unfold notInF; rw [e]) r (rp_bl.mpr (by rw [← h4]; rfl))⟩
end

/-! ### a dict of the module with text keys -/
/-- at the name stands a written dict with these keys -/
structure KdOk (K : PySem.W.Frag) (w : World) (d : Addr) (ks : List Str) : Prop where
  kd : ∃ es n, KDict K w d es n
  at_ : ∀ z : Str, ∃ r, PySem.W.nsIn K d z = some r ∧ r.isSome = ks.contains z
def inK (ks : List Str) (x : D) : M D := fun S => match x with
  | .str z => .ok (.bl (ks.contains z)) S
  | _ => .bad
section
variable {X : Cx} {E : XK} {e : Expr} {m : ET} {x : Str} {p pos : Pos} {d : Addr} {ks : List Str}
theorem o_inK (kd : KdOk X.K X.w d ks) : OpR X (compareOp .In) (fun x y H Q => y = .ref d ∧ rO1 X.K X.mg E (inK ks) x H Q) := by
  intro pins s σ H x y v u Q I rx ry ⟨ey, W, S, a, r, ra, q⟩
  cases a with
  | str z =>
    obtain ⟨es, n, k⟩ := kd.kd
    obtain ⟨o, h1, h2⟩ := kd.at_ z
    exact op_in_kd k pins s σ H x y v u Q I rx ry ⟨z, o, rp_str.mp ra, ey, h1, q.val (d := .bl (ks.contains z)) rfl r (rp_bl.mpr (by rw [h2]))⟩
  | _ => exact (q.no rfl).elim
theorem inK_read {K : PySem.W.Frag} {mg : Str → Option Value} {σ : L2.St} {H : Hp} {Q : VK} (h : tE K mg E (e1 (inK ks) m) σ H Q) : tOp (fun x y H Q => y = .ref d ∧ rO1 K mg E (inK ks) x H Q) (tE K mg E m) (tC (.ref d)) σ H Q := by
  obtain ⟨W, ρ, S, r, re, q⟩ := h
  exact ⟨W, ρ, S, r, re, RPost.mono (RPost.bind q) fun W1 H1 a S1 x1 r1 q1 v rv => ⟨rfl, W1, S1, a, r1, rv, q1⟩⟩
theorem pei_inK (kd : KdOk X.K X.w d ks) (he : PEI X E e m) (hx : PE X (.Name x p) (tC (.ref d))) (hm : behindInMarks .In (.Name x p) = false := by rfl) : PEI X E (.Compare e [.In] [.Name x p] pos) (e1 (inK ks) m) :=
  PE.imp (pe_cmpR (o_inK kd) he hx hm) fun _ _ _ h => inK_read h
theorem pti_inK (kd : KdOk X.K X.w d ks) (he : PEI X E e m) (hx : PE X (.Name x p) (tC (.ref d))) (hm : behindInMarks .In (.Name x p) = false := by rfl) : PTI X E (.Compare e [.In] [.Name x p] pos) (mB (e1 (inK ks) m)) :=
  PT.imp (pt_cmpR (o_inK kd) he hx hm) fun _ _ _ h => by
    obtain ⟨W, ρ, S, r, re, q⟩ := mB_read h
    exact inK_read ⟨W, ρ, S, r, re, q⟩
end

/-! ### dicts -/
def keyD : D → Option Key
  | .int i => some (.inl i)
  | .str x => some (.inr x)
  | _ => none
def keysD : List D → Option (List Key)
  | [] => some []
  | d :: ds => match keyD d, keysD ds with
    | some k, some ks => some (k :: ks)
    | _, _ => none
def keyT : D → Option (List Key)
  | .tup l => keysD l
  | _ => none
section
variable {K : PySem.W.Frag} {mg : Str → Option Value} {W : Wd} {S : Store} {H : Hp}
theorem keyD_at {d : D} {k : Key} {v : V} (e : keyD d = some k) (h : Rp K W d v) : v = kV k := by
  cases d with
  | int i => cases (show some (Sum.inl i : Key) = some k from e); exact rp_int.mp h
  | str i => cases (show some (Sum.inr i : Key) = some k from e); exact rp_str.mp h
  | _ => cases e
theorem keysD_at : ∀ {ds : List D} {ks : List Key} {vs : List V}, keysD ds = some ks → RpL K W ds vs → vs = ks.map kV
  | [], ks, _, e, h => by
    cases (show some ([] : List Key) = some ks from e)
    exact rpl_nil.mp h
  | d :: ds, ks, _, e, h => by
    obtain ⟨x, xs, rfl, h1, h2⟩ := rpl_cons.mp h
    unfold keysD at e
    cases e1 : keyD d with
    | none => rw [e1] at e; cases e
    | some k =>
      cases e2 : keysD ds with
      | none => rw [e1, e2] at e; cases e
      | some ms =>
        rw [e1, e2] at e
        cases (show some (k :: ms) = some ks from e)
        rw [keyD_at e1 h1, keysD_at e2 h2]
        rfl
theorem keyT_at (r : Rel K mg W S H) {d : D} {ks : List Key} {v : V} (e : keyT d = some ks) (h : Rp K W d v) : ∃ b, v = .ref b ∧ H b = some (.tup (ks.map kV)) := by
  cases d with
  | tup l =>
    obtain ⟨a, xs, h1, h2, h3⟩ := rp_tup.mp h
    rw [keysD_at (show keysD l = some ks from e) h3] at h2
    exact ⟨a, h1, r.sub _ _ h2⟩
  | _ => cases e
end
/-- what stands at a key: outer none: no dict, or no key that it may have -/
def lookD (S : Store) (d k : D) : Option (Option D) := match d with
  | .ref n => match S[n]? with
    | some (.dk l) => (keyD k).map fun x => valD l x
    | some (.dt l) => (keyT k).map fun x => valD l x
    | _ => none
  | _ => none
theorem look_at {K : PySem.W.Frag} {mg : Str → Option Value} {W : Wd} {S : Store} {H : Hp} (r : Rel K mg W S H) {d k : D} {v u : V} {o : Option D} (rd : Rp K W d v) (rk : Rp K W k u) (h : lookD S d k = some o) :
    ∃ a z, v = .ref a ∧ DGet H a u z ∧ (∀ y, o = some y → ∃ w, z = some w ∧ Rp K W y w) ∧ (o = none → z = none) := by
  cases d with
  | ref n =>
    cases e : S[n]? with
    | none => simp [lookD, e] at h
    | some ob =>
      cases ob with
      | dk l =>
        simp only [lookD, e] at h
        obtain ⟨x, e1, e2⟩ := Option.map_eq_some_iff.mp h
        obtain ⟨a, ho, rfl, h2, h3, h4⟩ := ref_at r rd e rfl
        cases h4 with
        | @dk _ m h4 =>
          obtain ⟨v1, v2⟩ := h4.val x
          refine ⟨a, valV m x, rfl, ?_, fun y ey => v1 y (e2.trans ey), fun ey => v2 (e2.trans ey)⟩
          rw [keyD_at e1 rk]
          exact DGet.k h3
      | dt l =>
        simp only [lookD, e] at h
        obtain ⟨x, e1, e2⟩ := Option.map_eq_some_iff.mp h
        obtain ⟨a, ho, rfl, h2, h3, h4⟩ := ref_at r rd e rfl
        cases h4 with
        | @dt _ m h4 =>
          obtain ⟨v1, v2⟩ := h4.val x
          obtain ⟨b, rfl, hb⟩ := keyT_at r e1 rk
          exact ⟨a, valV m x, rfl, DGet.t h3 hb, fun y ey => v1 y (e2.trans ey), fun ey => v2 (e2.trans ey)⟩
      | _ => simp [lookD, e] at h
  | _ => simp [lookD] at h
def dixM (a b : D) : M D := fun S => match lookD S a b with
  | some (some d) => .ok d S
  | _ => .bad
def inD (x d : D) : M D := fun S => match lookD S d x with
  | some o => .ok (.bl o.isSome) S
  | none => .bad
def notInD (x d : D) : M D := fun S => match lookD S d x with
  | some o => .ok (.bl (!o.isSome)) S
  | none => .bad
def isDct (S : Store) : D → Bool
  | .ref n => match S[n]? with
    | some (.dk _) => true
    | some (.dt _) => true
    | _ => false
  | _ => false
theorem isDct_at {K : PySem.W.Frag} {mg : Str → Option Value} {W : Wd} {S : Store} {H : Hp} (r : Rel K mg W S H) {d : D} {v : V} (rd : Rp K W d v) (h : isDct S d = true) : ∃ a, v = .ref a ∧ IsD H a := by
  cases d with
  | ref n =>
    cases e : S[n]? with
    | none => simp [isDct, e] at h
    | some ob =>
      cases ob with
      | dk l =>
        obtain ⟨a, ho, rfl, h2, h3, h4⟩ := ref_at r rd e rfl
        cases h4 with
        | dk h4 => exact ⟨a, rfl, .inl ⟨_, .inl h3⟩⟩
      | dt l =>
        obtain ⟨a, ho, rfl, h2, h3, h4⟩ := ref_at r rd e rfl
        cases h4 with
        | dt h4 => exact ⟨a, rfl, .inr ⟨_, .inl h3⟩⟩
      | _ => simp [isDct, e] at h
  | _ => simp [isDct] at h
/-- d.get(k, x) -/
def getM (d k x : D) : M D := fun S => match lookD S d k with
  | some o => .ok (o.getD x) S
  | none => .bad
def eGet (md mk mx : ET) : ET := fun ρ => M.bind (md ρ) fun d => fun S => if isDct S d = true then M.bind (mk ρ) (fun k => M.bind (mx ρ) fun x => getM d k x) S else .bad
/-- d[k] = v -/
def putM (d k v : D) : M Unit := fun S => match d with
  | .ref n => match S[n]? with
    | some (.dk l) => match keyD k with
      | some x => if l.length < sizeLine then .ok () (S.set n (.dk (putD l x v))) else .bad
      | none => .bad
    | some (.dt l) => match keyT k with
      | some x => if l.length < sizeLine then .ok () (S.set n (.dt (putD l x v))) else .bad
      | none => .bad
    | _ => .bad
  | _ => .bad
def sDPut (md mk mv : ET) : ST := fun ρ => M.bind (mv ρ) fun v => M.bind (md ρ) fun d => M.bind (mk ρ) fun k => M.bind (putM d k v) fun _ => M.ret (.nx ρ)
section
variable {X : Cx} {E : XK} {o i f value : Expr} {md mk mx mv : ET} {pos pos' apos cpos : Pos}
theorem pei_dix (hu : X.A.units + 1 < cLine) (ho : PEI X E o md) (hi : PEI X E i mk) (hs : NoSl i) : PEI X E (.Subscript o i pos) (e2 dixM md mk) := PE.imp (pe_dget hu ho hi hs) fun σ H Q ⟨W, ρ, S, r, re, q⟩ =>
  ⟨W, ρ, S, r, re, RPost.mono (RPost.bind q) fun W1 H1 d S1 x1 r1 q1 v rv => ⟨W1, ρ, S1, r1, re.mono x1.ext, RPost.mono (RPost.bind q1) fun W2 H2 k S2 x2 r2 q2 u ru => by
    cases e : lookD S2 d k with
    | none => exact (tO.no (o := dixM d k) q2 (by unfold dixM; rw [e])).elim
    | some od =>
      cases od with
      | none => exact (tO.no (o := dixM d k) q2 (by unfold dixM; rw [e])).elim
      | some y =>
        obtain ⟨a, z, h1, h2, h3, _⟩ := look_at r2 (Rp.mono x2.ext _ _ rv) ru e
        obtain ⟨w, h4, h5⟩ := h3 y rfl
        subst h4
        exact ⟨a, w, h1, h2, tO.val (o := dixM d k) q2 (by unfold dixM; rw [e]) r2 h5⟩⟩⟩
theorem pei_dget2 (hu : X.A.units + 1 < cLine) (ho : PEI X E o md) (hi : PEI X E i mk) (hf : PEI X E f mx) (m : M2 X o "get" apos i f cpos) : PEI X E (.Call (.Attribute o "get" apos) [i, f] [] cpos) (eGet md mk mx) :=
  PE.imp (pe_dget2 hu ho hi hf m) fun σ H Q ⟨W, ρ, S, r, re, q⟩ =>
  ⟨W, ρ, S, r, re, RPost.mono (RPost.bind q) fun W1 H1 d S1 x1 r1 q1 v rv => by
    by_cases hd : isDct S1 d = true
    · rw [if_pos hd] at q1
      obtain ⟨a, rfl, hD⟩ := isDct_at r1 rv hd
      refine ⟨a, rfl, hD, W1, ρ, S1, r1, re.mono x1.ext, RPost.mono (RPost.bind (f := fun k => M.bind (mx ρ) fun x => getM d k x) q1) fun W2 H2 k S2 x2 r2 q2 u ru => ?_⟩
      refine ⟨W2, ρ, S2, r2, (re.mono x1.ext).mono x2.ext, RPost.mono (RPost.bind (f := fun x => getM d k x) q2) fun W3 H3 x S3 x3 r3 q3 z rz => ?_⟩
      cases e : lookD S3 d k with
      | none => exact (tO.no (o := getM d k x) q3 (by unfold getM; rw [e])).elim
      | some od =>
        obtain ⟨a', z', h1, h2, h3, h4⟩ := look_at r3 (Rp.mono (x2.trans x3).ext _ _ rv) (Rp.mono x3.ext _ _ ru) e
        cases h1
        refine ⟨z', h2, tO.val (o := getM d k x) q3 (by unfold getM; rw [e]) r3 ?_⟩
        cases od with
        | none => rw [h4 rfl]; exact rz
        | some y =>
          obtain ⟨w, e5, h5⟩ := h3 y rfl
          rw [e5]; exact h5
    · rw [if_neg hd] at q1; exact q1.elim⟩
theorem din_read {K : PySem.W.Frag} {mg : Str → Option Value} {σ : L2.St} {H : Hp} {Q : VK} (h : tE K mg E (e2 inD mk md) σ H Q) : tDIn (tE K mg E mk) (tE K mg E md) σ H Q := by
  obtain ⟨W, ρ, S, r, re, q⟩ := h
  refine ⟨W, ρ, S, r, re, RPost.mono (RPost.bind q) fun W1 H1 k S1 x1 r1 q1 u ru => ⟨W1, ρ, S1, r1, re.mono x1.ext, RPost.mono (RPost.bind q1) fun W2 H2 d S2 x2 r2 q2 v rv => ?_⟩⟩
  cases e : lookD S2 d k with
  | none => exact (tO.no (o := inD k d) q2 (by unfold inD; rw [e])).elim
  | some od =>
    obtain ⟨a, z, h1, h2, h3, h4⟩ := look_at r2 rv (Rp.mono x2.ext _ _ ru) e
    refine ⟨a, z, h1, h2, tO.val (o := inD k d) q2 (by unfold inD; rw [e]) r2 (rp_bl.mpr ?_)⟩
    cases od with
    | none => rw [h4 rfl]; rfl
    | some y =>
      obtain ⟨w, e5, h5⟩ := h3 y rfl
      rw [e5]; rfl
theorem dnotin_read {K : PySem.W.Frag} {mg : Str → Option Value} {σ : L2.St} {H : Hp} {Q : VK} (h : tE K mg E (e2 notInD mk md) σ H Q) : tDNotIn (tE K mg E mk) (tE K mg E md) σ H Q := by
  obtain ⟨W, ρ, S, r, re, q⟩ := h
  refine ⟨W, ρ, S, r, re, RPost.mono (RPost.bind q) fun W1 H1 k S1 x1 r1 q1 u ru => ⟨W1, ρ, S1, r1, re.mono x1.ext, RPost.mono (RPost.bind q1) fun W2 H2 d S2 x2 r2 q2 v rv => ?_⟩⟩
  cases e : lookD S2 d k with
  | none => exact (tO.no (o := notInD k d) q2 (by unfold notInD; rw [e])).elim
  | some od =>
    obtain ⟨a, z, h1, h2, h3, h4⟩ := look_at r2 rv (Rp.mono x2.ext _ _ ru) e
    refine ⟨a, z, h1, h2, tO.val (o := notInD k d) q2 (by unfold notInD; rw [e]) r2 (rp_bl.mpr ?_)⟩
    cases od with
    | none => rw [h4 rfl]; rfl
    | some y =>
      obtain ⟨w, e5, h5⟩ := h3 y rfl
      rw [e5]; rfl
theorem pei_din (hu : X.A.units + 1 < cLine) (hi : PEI X E i mk) (ho : PEI X E o md) (h1 : behindInMarks .In o = false := by rfl) : PEI X E (.Compare i [.In] [o] pos) (e2 inD mk md) := PE.imp (pe_cmp (pc_din hu hi ho) h1) fun _ _ _ h => din_read h
theorem pei_dnotin (hu : X.A.units + 1 < cLine) (hi : PEI X E i mk) (ho : PEI X E o md) (h1 : behindInMarks .NotIn o = false := by rfl) : PEI X E (.Compare i [.NotIn] [o] pos) (e2 notInD mk md) := PE.imp (pe_cmp (pc_dnotin hu hi ho) h1) fun _ _ _ h => dnotin_read h
theorem pti_din (hu : X.A.units + 1 < cLine) (hi : PEI X E i mk) (ho : PEI X E o md) (h1 : behindInMarks .In o = false := by rfl) : PTI X E (.Compare i [.In] [o] pos) (mB (e2 inD mk md)) := PT.imp (pt_cmp (pc_din hu hi ho) h1) fun _ _ _ h => by
  obtain ⟨W, ρ, S, r, re, q⟩ := mB_read h
  exact din_read ⟨W, ρ, S, r, re, q⟩
theorem pti_dnotin (hu : X.A.units + 1 < cLine) (hi : PEI X E i mk) (ho : PEI X E o md) (h1 : behindInMarks .NotIn o = false := by rfl) : PTI X E (.Compare i [.NotIn] [o] pos) (mB (e2 notInD mk md)) := PT.imp (pt_cmp (pc_dnotin hu hi ho) h1) fun _ _ _ h => by
  obtain ⟨W, ρ, S, r, re, q⟩ := mB_read h
  exact dnotin_read ⟨W, ρ, S, r, re, q⟩
theorem put_read {K : PySem.W.Frag} {mg : Str → Option Value} {W : Wd} {S : Store} {H : Hp} {d k y : D} {v u z : V} {Q : Wd → Hp → Unit → Store → Prop} (r : Rel K mg W S H) (rd : Rp K W d v) (rk : Rp K W k u) (ry : Rp K W y z) (q : RPost K mg E W (putM d k y S) Q) :
    ∃ a H', v = .ref a ∧ DPut H a u z H' ∧ ∃ S', Rel K mg W S' H' ∧ Q W H' () S' := by
  cases d with
  | ref n =>
    cases e : S[n]? with
    | none => simp only [putM, e] at q; exact q.elim
    | some ob =>
      cases ob with
      | dk l =>
        simp only [putM, e] at q
        cases e1 : keyD k with
        | none => simp only [e1] at q; exact q.elim
        | some x =>
          simp only [e1] at q
          by_cases hz : l.length < sizeLine
          · rw [if_pos hz] at q
            obtain ⟨a, ho, rfl, h2, h3, h4⟩ := ref_at r rd e rfl
            cases h4 with
            | @dk _ m h4 =>
              have r' := r.put e rfl h2 (.dk (h4.put x ry))
              rw [keyD_at e1 rk]
              exact ⟨a, _, rfl, DPut.k h3 (by rw [← h4.length]; exact hz), _, r', q W _ (Stp.refl _) r'⟩
          · rw [if_neg hz] at q; exact q.elim
      | dt l =>
        simp only [putM, e] at q
        cases e1 : keyT k with
        | none => simp only [e1] at q; exact q.elim
        | some x =>
          simp only [e1] at q
          by_cases hz : l.length < sizeLine
          · rw [if_pos hz] at q
            obtain ⟨a, ho, rfl, h2, h3, h4⟩ := ref_at r rd e rfl
            cases h4 with
            | @dt _ m h4 =>
              have r' := r.put e rfl h2 (.dt (h4.put x ry))
              obtain ⟨b, rfl, hb⟩ := keyT_at r e1 rk
              exact ⟨a, _, rfl, DPut.t h3 hb (by rw [← h4.length]; exact hz), _, r', q W _ (Stp.refl _) r'⟩
          · rw [if_neg hz] at q; exact q.elim
      | _ => simp only [putM, e] at q; exact q.elim
  | _ => exact q.elim
theorem psi_dput (hu : X.A.units + 1 < cLine) (ho : PEI X E o md) (hi : PEI X E i mk) (hv : PEI X E value mv) (hs : swapsWith value (some (.Subscript o i pos')) pos.line X.env = pure false := by rfl) : PSI X E (.Assign [.Subscript o i pos'] value pos) (sDPut md mk mv) :=
  PS.imp (ps_dput hu ho hi hv hs) fun Dn σ H ⟨W, ρ, S, r, re, q⟩ =>
  ⟨W, ρ, S, r, re, RPost.mono (RPost.bind q) fun W1 H1 y S1 x1 r1 q1 z rz => ⟨W1, ρ, S1, r1, re.mono x1.ext, RPost.mono (RPost.bind q1) fun W2 H2 d S2 x2 r2 q2 v rv =>
    ⟨W2, ρ, S2, r2, (re.mono x1.ext).mono x2.ext, RPost.mono (RPost.bind q2) fun W3 H3 k S3 x3 r3 q3 u ru => by
      obtain ⟨a, H', h1, h2, S', r', q4⟩ := put_read (E := E) r3 (Rp.mono x3.ext _ _ rv) ru (Rp.mono (x2.trans x3).ext _ _ rz) (RPost.bind (r := putM d k y S3) (f := fun _ => M.ret (Fl.nx ρ)) q3)
      exact ⟨a, H', h1, h2, fl_nx (S := S') q4 r' (((re.mono x1.ext).mono x2.ext).mono x3.ext)⟩⟩⟩⟩
end

/-! ### a dict display -/
def mPairs : List (ET × ET) → Env' → M (List (D × D))
  | [], _ => M.ret []
  | (a, b) :: r, ρ => M.bind (a ρ) fun x => M.bind (b ρ) fun y => M.bind (mPairs r ρ) fun ps => M.ret ((x, y) :: ps)
def keyPs : List (D × D) → Option (List (Key × D))
  | [] => some []
  | (k, d) :: r => match keyD k, keyPs r with
    | some x, some ps => some ((x, d) :: ps)
    | _, _ => none
def mergeD (l m : List (Key × D)) : List (Key × D) := m.foldl (fun acc kv => putD acc kv.1 kv.2) l
def dispM (ps : List (D × D)) : M D := fun S => match keyPs ps with
  | some kvs => if kvs.length ≤ 15 then .ok (.ref S.length) (S ++ [.dk (mergeD [] kvs)]) else .bad
  | none => .bad
def eDisp (l : List (ET × ET)) : ET := fun ρ => M.bind (mPairs l ρ) dispM
def trsOf (K : PySem.W.Frag) (mg : Str → Option Value) (E : XK) (l : List (ET × ET)) : List (TE × TE) := l.map fun p => (tE K mg E p.1, tE K mg E p.2)
section
variable {K : PySem.W.Frag} {mg : Str → Option Value} {E : XK}
def RpP (K : PySem.W.Frag) (W : Wd) (l : List (D × D)) (m : List (V × V)) : Prop := Paired (fun (p : D × D) (q : V × V) => Rp K W p.1 q.1 ∧ Rp K W p.2 q.2) l m
theorem pairs_read : ∀ (l : List (ET × ET)) {W : Wd} {ρ : Env'} {S : Store} {H : Hp} {σ : L2.St} {Q : List (V × V) → Hp → Prop}, Rel K mg W S H → RelE K W ρ σ → (RPost K mg E W (mPairs l ρ S) fun W' H' ps _ => ∀ qs, RpP K W' ps qs → Q qs H') → tPairs (trsOf K mg E l) σ H Q
  | [], W, ρ, S, H, σ, Q, r, re, q => RPost.here (S := S) (a := ([] : List (D × D))) q r [] .nil
  | (a, b) :: l, W, ρ, S, H, σ, Q, r, re, q => by
    refine ⟨W, ρ, S, r, re, RPost.mono (RPost.bind q) fun W1 H1 x S1 x1 r1 q1 v rv => ?_⟩
    refine ⟨W1, ρ, S1, r1, re.mono x1.ext, RPost.mono (RPost.bind q1) fun W2 H2 y S2 x2 r2 q2 u ru => ?_⟩
    refine pairs_read l r2 ((re.mono x1.ext).mono x2.ext) (RPost.mono (RPost.bind q2) fun W3 H3 ps S3 x3 r3 q3 qs hq => ?_)
    exact RPost.here (S := S3) (a := (x, y) :: ps) q3 r3 _ (.cons ⟨Rp.mono (x2.trans x3).ext _ _ rv, Rp.mono x3.ext _ _ ru⟩ hq)
theorem keyPs_at {W : Wd} : ∀ {ps : List (D × D)} {kvs : List (Key × D)} {qs : List (V × V)}, keyPs ps = some kvs → RpP K W ps qs → ∃ m : List (Key × V), qs = m.map (fun kv => (kV kv.1, kv.2)) ∧ RpK K W kvs m
  | [], kvs, qs, e, h => by
    cases (show some ([] : List (Key × D)) = some kvs from e)
    cases h
    exact ⟨[], rfl, .nil⟩
  | (k, d) :: ps, kvs, qs, e, h => by
    cases h with
    | @cons _ q _ qs h t =>
      unfold keyPs at e
      cases e1 : keyD k with
      | none => rw [e1] at e; cases e
      | some x =>
        cases e2 : keyPs ps with
        | none => rw [e1, e2] at e; cases e
        | some ms =>
          rw [e1, e2] at e
          cases (show some ((x, d) :: ms) = some kvs from e)
          obtain ⟨m, h1, h2⟩ := keyPs_at e2 t
          obtain ⟨q1, q2⟩ := q
          obtain ⟨h3, h4⟩ := h
          have h3 : q1 = kV x := keyD_at e1 h3
          refine ⟨(x, q2) :: m, by rw [List.map_cons, h1, h3], .cons ⟨rfl, h4⟩ h2⟩
theorem RpK.merge {W : Wd} : ∀ {kvs : List (Key × D)} {m : List (Key × V)} {l : List (Key × D)} {n : List (Key × V)}, RpK K W kvs m → RpK K W l n → RpK K W (mergeD l kvs) (mergeK n m) := by
  intro kvs m l n h
  unfold RpK at h
  induction h generalizing l n with
  | nil => intro q; exact q
  | @cons p q ps qs r t ih =>
    intro q0
    have := q0.put p.1 r.2
    rw [r.1] at this
    refine ih ?_
    show RpK K W (putD l p.1 p.2) (putK n q.1 q.2)
    rw [r.1]
    exact this
end
section
variable {X : Cx} {E : XK} {pos : Pos} {keys : List (Option Expr)} {values : List Expr} {l : List (ET × ET)}
abbrev PPI (X : Cx) (E : XK) (pos : Pos) (keys : List (Option Expr)) (values : List Expr) (l : List (ET × ET)) : Prop := PPs X pos keys values (trsOf X.K X.mg E l)
theorem ppi_nil : PPI X E pos [] [] [] := pps_nil
theorem ppi_cons {k v : Expr} {mk mv : ET} (hk : PEI X E k mk) (hv : PEI X E v mv) (hr : PPI X E pos keys values l) : PPI X E pos (some k :: keys) (v :: values) ((mk, mv) :: l) := pps_cons hk hv hr
theorem pei_disp (h : PPI X E pos keys values l) (hall : keys.all (·.isSome) = true) (hl : keys.length = values.length) (h0 : keys ≠ []) (h15 : keys.length ≤ 15) : PEI X E (.Dict keys values pos) (eDisp l) :=
  PE.imp (pe_disp h hall hl h0 h15) fun σ H Q ⟨W, ρ, S, r, re, q⟩ p hp => by
    have gone : W.G p = none := r.gnone hp
    have rg := r.guard (o := .dK []) (r.fre hp)
    -- the pairs are made beside the new dict
    refine pairs_read l rg (re.mono Wd.grd_ext) ?_
    have q := RPost.bind (r := mPairs l ρ S) (f := dispM) q
    cases e : mPairs l ρ S with
    | bad => rw [e] at q; exact q
    | exc c fs S' =>
      rw [e] at q
      intro W' H' C da x rr hm hx
      obtain ⟨ru, fu, _⟩ := rr.unguard x.G gone
      refine q (W'.ofG W.G) H' C da ⟨(Ext.trans Wd.grd_ext x.ext).trans Wd.ofG_ext, rfl⟩ ru hm ?_
      rcases hx with hx | ⟨d, gs, h1, h2, h3⟩
      · exact .inl hx
      · exact .inr ⟨d, gs, h1, h2, h3.mono Wd.ofG_ext⟩
    | ok ps S' =>
      rw [e] at q
      intro W' H' x rr qs hq
      obtain ⟨ru, fu, hD⟩ := rr.unguard x.G gone
      have xw : Stp W (W'.ofG W.G) := ⟨(Ext.trans Wd.grd_ext x.ext).trans Wd.ofG_ext, rfl⟩
      have q1 : RPost X.K X.mg E (W'.ofG W.G) (dispM ps S') _ := q (W'.ofG W.G) H' xw ru
      unfold dispM at q1
      cases e2 : keyPs ps with
      | none => rw [e2] at q1; exact q1.elim
      | some kvs =>
        rw [e2] at q1
        by_cases hz : kvs.length ≤ 15
        · have q1 : RPost X.K X.mg E (W'.ofG W.G) (if kvs.length ≤ 15 then R.ok (D.ref S'.length) (S' ++ [O.dk (mergeD [] kvs)]) else R.bad) _ := q1
          rw [if_pos hz] at q1
          obtain ⟨m, h1, h2⟩ := keyPs_at e2 hq
          refine ⟨hD, m, h1, by rw [← h2.length]; exact hz, ?_⟩
          have hm : RpK X.K (W'.ofG W.G) (mergeD [] kvs) (mergeK [] m) := (h2.mono Wd.ofG_ext).merge .nil
          have rn := ru.new' (o := .dk (mergeD [] kvs)) fu (.dk hm)
          exact q1 _ _ (Stp.new (ru.dom _ (Nat.le_refl _))) rn _ (rp_ref.mpr ⟨p, rfl, if_pos rfl⟩)
        · have q1 : RPost X.K X.mg E (W'.ofG W.G) (if kvs.length ≤ 15 then R.ok (D.ref S'.length) (S' ++ [O.dk (mergeD [] kvs)]) else R.bad) _ := q1
          rw [if_neg hz] at q1; exact q1.elim
end
end SL
/-! S8: stores into lists, new lists by +, rooms, chains, a def that is never called. -/
namespace SL
open PySem PySem.Spec PyProof.Rows L2

/-- list + list, a list of the store -/
def addN (a b : D) : M D := fun S => match asL S a, asL S b with
  | some x, some y => if x.length + y.length ≤ sizeLine then .ok (.ref S.length) (S ++ [.lst (x ++ y)]) else .bad
  | _, _ => .bad
section
variable {X : Cx} {E : XK}
theorem o_addN : O2 X E (binaryOp .Add) addN := by
  intro pins s σ H x y v u Q I rx ry ⟨W, S, a, b, r, ra, rb, q⟩
  cases e1 : asL S a with
  | none => exact (q.no (by unfold addN; rw [e1])).elim
  | some l =>
    cases e2 : asL S b with
    | none => exact (q.no (by unfold addN; rw [e1, e2])).elim
    | some m =>
      obtain ⟨a', xs, h1, h2, h3⟩ := asL_at r ra e1
      obtain ⟨b', ys, k1, k2, k3⟩ := asL_at r rb e2
      by_cases hz : l.length + m.length ≤ sizeLine
      · have ea : addN a b S = .ok (.ref S.length) (S ++ [.lst (l ++ m)]) := by unfold addN; rw [e1, e2]; exact if_pos hz
        exact op_cat pins s σ H x y v u Q I rx ry ⟨a', b', xs, ys, h1, k1, h2, k2, by rw [← h3.length, ← k3.length]; exact hz, fun p hp => q.new ea r (.lst (h3.append k3)) hp⟩
      · exact (q.no (by unfold addN; rw [e1, e2]; exact if_neg hz)).elim
end
/-- d[i] = v of a list -/
def setM (d i v : D) : M Unit := fun S => match atL S d, i with
  | some (n, l), .int i => match ixN l.length i with
    | some k => .ok () (S.set n (.lst (l.set k v)))
    | none => .bad
  | _, _ => .bad
def gSubM (md mi : ET) : GM := fun v ρ => M.bind (md ρ) fun d => M.bind (mi ρ) fun i => M.bind (setM d i v) fun _ => M.ret ρ
section
variable {X : Cx} {E : XK} {o i : Expr} {md mi : ET} {pos : Pos}
theorem pgi_sub (ho : PEI X E o md) (hi : PEI X E i mi)
    (ha : ∀ v, assign (.Subscript o i pos) X.env v = (do
      let ov ← holding [v] (eval o X.env)
      let iv ← holding [v, ov] (eval i X.env)
      standAt pos
      holding [v, ov, iv] (setItem ov iv v)
      release [v, ov, iv] []) := by intro _; rfl) : PGI X E (.Subscript o i pos) [] (gSubM md mi) :=
  PG.imp (pg_sub ho hi set_list ha) fun v σ H Q ⟨W, ρ, S, d, r, re, rv, q⟩ =>
  ⟨W, ρ, S, r, re, RPost.mono (RPost.bind q) fun W1 H1 a S1 x1 r1 q1 u ru => ⟨W1, ρ, S1, r1, re.mono x1.ext, RPost.mono (RPost.bind q1) fun W2 H2 b S2 x2 r2 q2 w rw' => by
    have q2 := RPost.bind (r := setM a b d S2) (f := fun _ => M.ret ρ) q2
    have ra := Rp.mono x2.ext _ _ ru
    have rd := Rp.mono (x1.trans x2).ext _ _ rv
    cases e : atL S2 a with
    | none => simp only [setM, e] at q2; exact q2.elim
    | some p =>
      obtain ⟨n, l⟩ := p
      obtain ⟨rfl, es⟩ := atL_of e
      cases b with
      | int k =>
        simp only [setM, e] at q2
        cases hk : ixN l.length k with
        | none => simp only [hk] at q2; exact q2.elim
        | some j =>
          simp only [hk] at q2
          obtain ⟨c, ho, rfl, h2, h3, h4⟩ := ref_at r2 ra es rfl
          cases h4 with
          | @lst _ ys h4 =>
            have r' := r2.put (u := .lst (l.set j d)) es rfl h2 (.lst (h4.set j rd))
            refine ⟨c, ys, k, j, rfl, rp_int.mp rw', h3, by rw [← h4.length]; exact hk, ?_⟩
            exact RPost.here (S := S2.set n (.lst (l.set j d))) (a := ρ) (q2 W2 _ (Stp.refl _) r') r' σ ((re.mono x1.ext).mono x2.ext) fun _ _ => rfl
      | _ => simp only [setM, e] at q2; exact q2.elim⟩⟩
end
theorem hr65 {A : Around} {k : Nat} (hr : Room k A) : A.units + 65 < cLine := by
  have := hr.un; omega
/-- a def that is never come to -/
theorem fn_bad {P : Program} {w : World} {K : PySem.W.Frag} {mg : Str → Option Value} {base : Heap} {CX : CXT} {k : Nat} {f : Addr} {fd : FuncData} {ps : List Str} : FnOk P w K mg base CX k f fd ps (spS K mg ps.length fun _ => M.bad) :=
  ⟨fun vs H Q E ⟨W, S, ds, r, rd, hl, q⟩ => by rw [← rd.length]; exact hl, fun A outer s H args us vs Q E _ _ _ _ ⟨W, S, ds, r, rd, hl, q⟩ => q.elim⟩
/-- a < b < c -/
def eChain (o o' : D → D → M D) (ma mb mc : ET) : ET := fun ρ => M.bind (ma ρ) fun x => M.bind (mb ρ) fun y => M.bind (o x y) fun z => M.bind (boolD z) fun k => if k then M.bind (mc ρ) fun u => o' y u else M.ret (.bl false)
section
variable {X : Cx} {E : XK} {a b c : Expr} {ma mb mc : ET} {pos : Pos} {op op' : CmpOp} {o o' : D → D → M D}
theorem chain_read {K : PySem.W.Frag} {mg : Str → Option Value} {σ : L2.St} {H : Hp} {Q : VK} (h : tE K mg E (eChain o o' ma mb mc) σ H Q) : tChain (rO2 K mg E o) (rO2 K mg E o') (tE K mg E ma) (tE K mg E mb) (tE K mg E mc) σ H Q := by
  obtain ⟨W, ρ, S, r, re, q⟩ := h
  refine ⟨W, ρ, S, r, re, RPost.mono (RPost.bind q) fun W1 H1 x S1 x1 r1 q1 v rv => ⟨W1, ρ, S1, r1, re.mono x1.ext, RPost.mono (RPost.bind q1) fun W2 H2 y S2 x2 r2 q2 u ru => ?_⟩⟩
  refine ⟨W2, S2, x, y, r2, Rp.mono x2.ext _ _ rv, ru, RPost.mono (RPost.bind q2) fun W3 H3 z S3 x3 r3 q3 z' rz => ?_⟩
  obtain ⟨k, e, q4⟩ := boolD_read r3 rz (RPost.bind q3)
  refine ⟨k, e, ?_⟩
  cases k with
  | true => exact ⟨W3, ρ, S3, r3, ((re.mono x1.ext).mono x2.ext).mono x3.ext, RPost.mono (RPost.bind q4) fun W4 H4 w S4 x4 r4 q5 w' rw' => ⟨W4, S4, y, w, r4, Rp.mono (x3.trans x4).ext _ _ ru, rw', q5⟩⟩
  | false => exact RPost.here (S := S3) (a := D.bl false) q4 r3 _ (rp_bl.mpr rfl)
theorem pei_chain (h1 : O2 X E (compareOp op) o) (h2 : O2 X E (compareOp op') o') (ha : PEI X E a ma) (hb : PEI X E b mb) (hc : PEI X E c mc) (hm : lastMarks [op, op'] [b, c] = false := by with_unfolding_all rfl) :
    PEI X E (.Compare a [op, op'] [b, c] pos) (eChain o o' ma mb mc) := PE.imp (pe_chain h1 h2 ha hb hc hm) fun _ _ _ h => chain_read h
theorem pti_chain (h1 : O2 X E (compareOp op) o) (h2 : O2 X E (compareOp op') o') (ha : PEI X E a ma) (hb : PEI X E b mb) (hc : PEI X E c mc) (hm : lastMarks [op, op'] [b, c] = false := by with_unfolding_all rfl) :
    PTI X E (.Compare a [op, op'] [b, c] pos) (mB (eChain o o' ma mb mc)) := PT.imp (pt_chain h1 h2 ha hb hc hm) fun _ _ _ h => by
  obtain ⟨W, ρ, S, r, re, q⟩ := mB_read h
  exact chain_read ⟨W, ρ, S, r, re, q⟩
end
end SL
/-! S9: int and bool of a number or a flag. -/
namespace SL
open PySem PySem.Spec PyProof.Rows L2
section
variable {X : Cx} {E : XK}
def intM (d : D) : M D := fun S => match d with
  | .int i => .ok (.int i) S
  | .bl k => .ok (.int (if k then 1 else 0)) S
  | _ => .bad
theorem c_int : CallR X (.type "int") (rOL X.K X.mg E (one intM)) := by
  intro pins s σ H xs us Q I rv h
  obtain ⟨x, W, S, d, rfl, r, h1, q⟩ := rOL1 h
  cases d with
  | int i =>
    have e := rp_int.mp h1
    subst e
    exact call_int1 pins s σ H _ us Q I rv (.inl ⟨i, rfl, q.val (d := .int i) rfl r (rp_int.mpr rfl)⟩)
  | bl k =>
    have e := rp_bl.mp h1
    subst e
    exact call_int1 pins s σ H _ us Q I rv (.inr ⟨k, rfl, q.val (d := .int (if k then 1 else 0)) rfl r (rp_int.mpr rfl)⟩)
  | _ => exact (q.no rfl).elim
def boolM (d : D) : M D := fun S => match d with
  | .int i => .ok (.bl (i != 0)) S
  | .bl k => .ok (.bl k) S
  | _ => .bad
theorem c_bool : CallR X (.type "bool") (rOL X.K X.mg E (one boolM)) := by
  intro pins s σ H xs us Q I rv h
  obtain ⟨x, W, S, d, rfl, r, h1, q⟩ := rOL1 h
  cases d with
  | int i =>
    have e := rp_int.mp h1
    subst e
    exact call_bool1 pins s σ H _ us Q I rv (.inl ⟨i, rfl, q.val (d := .bl (i != 0)) rfl r (rp_bl.mpr rfl)⟩)
  | bl k =>
    have e := rp_bl.mp h1
    subst e
    exact call_bool1 pins s σ H _ us Q I rv (.inr ⟨k, rfl, q.val (d := .bl k) rfl r (rp_bl.mpr rfl)⟩)
  | _ => exact (q.no rfl).elim
end
end SL
namespace Cm
open PySem PySem.Spec PyProof.Rows L2 SL
noncomputable def b__law_cell : ST :=
  (sSeq (sIf (mB (e2 (cmpM fun i j => decide (i < j)) (eVar 1) (eB (one lenM) (aCons (eVar 0) aNil))))
  (sRet (e2 ixM (eVar 0) (eVar 1)))
  sNext)
  (sSeq (sIf (mB (e2 eqM (eB (one lenM) (aCons (eVar 0) aNil)) (eC (.int 0))))
  (sRet (e2 addM (e2 mulM (eC (.int 7919)) (eVar 1)) (eC (.int 101))))
  sNext)
  (sRet (e2 addM (e2 modM (e2 ixM (eVar 0) (e2 modM (eVar 1) (eB (one lenM) (aCons (eVar 0) aNil)))) (eC (.int 1000003))) (e2 mulM (eC (.int 7919)) (eVar 1))))))
noncomputable def m__law_cell : List D → M D := fnT 2 b__law_cell
noncomputable def b__law_draws : ST :=
  (sSeq (sSet 4 (eTup (aCons (eC (.int 2147483647)) (aCons (eC (.int 2147483629)) (aCons (eC (.int 2147483587)) (aCons (eC (.int 2147483579)) (aCons (eC (.int 2147483563)) (aCons (eC (.int 2147483549)) (aCons (eC (.int 2147483543)) (aCons (eC (.int 2147483497)) aNil))))))))))
  (sSeq (sSet 5 (eCall 2 m__law_cell (aCons (eVar 0) (aCons (eVar 1) aNil))))
  (sSeq (sSet 6 (eC (.int 0)))
  (sSeq (sIf (mB (e2 (cmpM fun i j => decide (j ≤ i)) (eVar 5) (e2 powM (eC (.int 10)) (eC (.int 18)))))
  (sSet 6 (eVar 5))
  sNext)
  (sSeq (sSet 7 (eNewL aNil))
  (sSeq (sFor (srcRng (aCons (eVar 2) aNil)) (gNm 8)
  (sSeq (sSet 9 (e2 mulM (e2 modM (eVar 5) (e2 ixM (eVar 4) (e2 modM (eVar 8) (eC (.int 8))))) (e2 addM (eC (.int 48271)) (e2 mulM (e2 mulM (eC (.int 2)) (eVar 8)) (eVar 8)))))
  (sSeq (sSet 9 (e2 addM (e2 addM (eVar 9) (e2 mulM (e2 mulM (eC (.int 7919)) (e2 addM (eVar 8) (eC (.int 1)))) (e2 addM (eVar 8) (eC (.int 1))))) (e2 mulM (eC (.int 104729)) (eVar 1))))
  (sSeq (sSet 9 (e2 modM (eVar 9) (e2 ixM (eVar 4) (e2 modM (e2 addM (e2 mulM (eC (.int 3)) (eVar 8)) (eVar 1)) (eC (.int 8))))))
  (sSeq (sSet 9 (e2 modM (e2 mulM (e2 mulM (eVar 9) (eVar 9)) (eVar 9)) (e2 ixM (eVar 4) (e2 modM (e2 addM (eVar 8) (eC (.int 5))) (eC (.int 8))))))
  (sSeq (sIf (mB (e2 (cmpM fun i j => decide (j < i)) (eVar 6) (eC (.int 0))))
  (sSet 9 (eVar 6))
  sNext)
  (sSeq (sDrop (eMeth "list" (oneA appM) (eVar 7) (aCons (e2 modM (eVar 9) (eVar 3)) aNil)))
  (sSet 6 (e2 divM (eVar 6) (eVar 3))))))))))
  (sRet (eVar 7))))))))
noncomputable def m__law_draws : List D → M D := fnT 10 b__law_draws
noncomputable def b__law_tape : ST :=
  (sSeq (sSet 3 (eLst aNil))
  (sSeq (sFor (srcRng (aCons (eVar 2) aNil)) (gNm 4)
  (sSet 3 (e2 addM (eVar 3) (eCall 4 m__law_draws (aCons (eVar 0) (aCons (e2 addM (eVar 1) (eVar 4)) (aCons (eC (.int 60)) (aCons (eC (.int 27720)) aNil))))))))
  (sRet (eNewL (aCons (eVar 3) (aCons (eC (.int 0)) aNil))))))
noncomputable def m__law_tape : List D → M D := fnP 5 b__law_tape
noncomputable def b__law_take : ST :=
  (sSeq (sSet 2 (e2 modM (e2 ixM (e2 ixM (eVar 0) (eC (.int 0))) (e2 modM (e2 ixM (eVar 0) (eC (.int 1))) (eB (one lenM) (aCons (e2 ixM (eVar 0) (eC (.int 0))) aNil)))) (eVar 1)))
  (sSeq (sAsg (e2 addM (e2 ixM (eVar 0) (eC (.int 1))) (eC (.int 1))) (gSubM (eVar 0) (eC (.int 1))))
  (sRet (eVar 2))))
noncomputable def m__law_take : List D → M D := fnT 3 b__law_take
noncomputable def b__law_plain : ST :=
  (sSeq (sAsg (eVar 1) (gSeqM 4 (gConsM (gNm 2) (gConsM (gNm 3) (gConsM (gNm 4) (gConsM (gNm 5) gNilM))))))
  (sSeq (sSet 6 (eLst (aCons (eC (.str "hold")) (aCons (eC (.str "take")) (aCons (eC (.str "give")) (aCons (eC (.str "put")) (aCons (eC (.str "get")) (aCons (eC (.str "wait")) (aCons (eC (.str "ring")) (aCons (eC (.str "note")) (aCons (eC (.str "tell")) (aCons (eC (.str "start")) (aCons (eC (.str "stop")) (aCons (eC (.str "free")) (aCons (eC (.str "cut")) aNil)))))))))))))))
  (sSeq (sSet 6 (e2 ixM (e2 addM (eVar 6) (eLst (aCons (eC (.str "hold")) (aCons (eC (.str "take")) (aCons (eC (.str "give")) (aCons (eC (.str "note")) (aCons (eC (.str "hold")) aNil))))))) (eCall 2 m__law_take (aCons (eVar 0) (aCons (eC (.int 18)) aNil)))))
  (sSeq (sSet 7 (eDisp [((eC (.str "take")), (eVar 2)), ((eC (.str "give")), (eVar 2)), ((eC (.str "put")), (eVar 3)), ((eC (.str "get")), (eVar 3)), ((eC (.str "wait")), (eVar 4)), ((eC (.str "ring")), (eVar 4)), ((eC (.str "start")), (eVar 5))]))
  (sSeq (sSet 8 (eGet (eVar 7) (eVar 6) (eC (.int 6))))
  (sSeq (sIf (tOrM (mB (e2 eqM (eVar 8) (eC (.int 0)))) (tAndM (mB (e2 eqM (eVar 6) (eC (.str "start")))) (mB (e2 (cmpM fun i j => decide (j < i)) (eCall 2 m__law_take (aCons (eVar 0) (aCons (eC (.int 3)) aNil))) (eC (.int 0))))))
  (sSeq (sSet 6 (eC (.str "note")))
  (sSet 8 (eC (.int 6))))
  sNext)
  (sSeq (sSet 9 (eCall 2 m__law_take (aCons (eVar 0) (aCons (eVar 8) aNil))))
  (sSeq (sIf (mB (e2 eqM (eVar 6) (eC (.str "hold"))))
  (sRet (eTup (aCons (eVar 6) (aCons (e2 ixM (eLst (aCons (eVar 9) (aCons (eC (.int 1)) (aCons (eC (.int 0)) (aCons (eC (.int 2)) (aCons (eC (.int 1000)) (aCons (e2 mulM (eC (.int 10)) (eVar 9)) aNil))))))) (eCall 2 m__law_take (aCons (eVar 0) (aCons (eC (.int 6)) aNil)))) aNil))))
  sNext)
  (sSeq (sIf (mB (e2 eqM (eVar 6) (eC (.str "note"))))
  (sRet (eTup (aCons (eVar 6) (aCons (e2 ixM (eLst (aCons (eVar 9) (aCons (eC (.int 99)) (aCons (eC (.int 7)) aNil)))) (eCall 2 m__law_take (aCons (eVar 0) (aCons (eC (.int 3)) aNil)))) aNil))))
  sNext)
  (sSeq (sIf (mB (e2 eqM (eVar 6) (eC (.str "put"))))
  (sRet (eTup (aCons (eVar 6) (aCons (eVar 9) (aCons (e2 ixM (eLst (aCons (eC (.int 0)) (aCons (eC (.int 1)) (aCons (eC (.int 2)) (aCons (eC (.int 99)) aNil))))) (eCall 2 m__law_take (aCons (eVar 0) (aCons (eC (.int 4)) aNil)))) aNil)))))
  sNext)
  (sSeq (sIf (mB (e2 eqM (eVar 6) (eC (.str "start"))))
  (sRet (eTup (aCons (eVar 6) (aCons (eVar 9) (aCons (eCall 2 m__law_take (aCons (eVar 0) (aCons (eC (.int 4)) aNil))) aNil)))))
  sNext)
  (sSeq (sIf (mB (e2 inF (eVar 6) (eTup (aCons (eC (.str "stop")) (aCons (eC (.str "free")) (aCons (eC (.str "cut")) aNil))))))
  (sRet (eTup (aCons (eVar 6) (aCons (e2 ixM (eLst (aCons (eVar 9) (aCons (eVar 9) (aCons (eC (.int 11)) aNil)))) (eCall 2 m__law_take (aCons (eVar 0) (aCons (eC (.int 3)) aNil)))) aNil))))
  sNext)
  (sRet (eIf (mB (e2 eqM (eVar 6) (eC (.str "tell")))) (eTup (aCons (eVar 6) aNil)) (eTup (aCons (eVar 6) (aCons (eVar 9) aNil)))))))))))))))))
noncomputable def m__law_plain : List D → M D := fnT 10 b__law_plain
noncomputable def b__law_steps (rec : List D → M D) : ST :=
  (sSeq (sSet 4 (eNewL aNil))
  (sSeq (sFor (srcRng (aCons (eCall 2 m__law_take (aCons (eVar 0) (aCons (e2 addM (eVar 3) (eC (.int 1))) aNil))) aNil)) (gNm 5)
  (sSeq (sSet 6 (eCall 2 m__law_take (aCons (eVar 0) (aCons (eC (.int 9)) aNil))))
  (sIf (tAndM (mB (e2 (cmpM fun i j => decide (i < j)) (eVar 2) (eC (.int 4)))) (mB (e2 (cmpM fun i j => decide (i < j)) (eVar 6) (eC (.int 3)))))
  (sSeq (sSet 7 (eCall 4 rec (aCons (eVar 0) (aCons (eVar 1) (aCons (e2 addM (eVar 2) (eC (.int 1))) (aCons (eC (.int 3)) aNil))))))
  (sIf (mB (e2 eqM (eVar 6) (eC (.int 0))))
  (sDrop (eMeth "list" (oneA appM) (eVar 4) (aCons (eTup (aCons (eC (.str "loop")) (aCons (eCall 2 m__law_take (aCons (eVar 0) (aCons (eC (.int 4)) aNil))) (aCons (eVar 7) aNil)))) aNil)))
  (sSeq (sSet 8 (eCall 4 rec (aCons (eVar 0) (aCons (eVar 1) (aCons (e2 addM (eVar 2) (eC (.int 1))) (aCons (eC (.int 2)) aNil))))))
  (sDrop (eMeth "list" (oneA appM) (eVar 4) (aCons (eTup (aCons (e2 ixM (eLst (aCons (eC (.str "guard")) (aCons (eC (.str "case")) aNil))) (e2 subM (eVar 6) (eC (.int 1)))) (aCons (eVar 7) (aCons (eVar 8) aNil)))) aNil))))))
  (sIf (tAndM (mB (e2 eqM (eVar 6) (eC (.int 8)))) (mB (e2 (cmpM fun i j => decide (j < i)) (e2 ixM (eVar 1) (eC (.int 0))) (eC (.int 0)))))
  (sSeq (sSet 9 (eCall 2 m__law_take (aCons (eVar 0) (aCons (e2 ixM (eVar 1) (eC (.int 0))) aNil))))
  (sSet 4 (e2 addN (eVar 4) (eLst (aCons (eTup (aCons (eC (.str "take")) (aCons (eVar 9) aNil))) (aCons (eTup (aCons (eC (.str "hold")) (aCons (eCall 2 m__law_take (aCons (eVar 0) (aCons (eC (.int 4)) aNil))) aNil))) (aCons (eTup (aCons (eC (.str "give")) (aCons (eVar 9) aNil))) aNil)))))))
  (sDrop (eMeth "list" (oneA appM) (eVar 4) (aCons (eCall 2 m__law_plain (aCons (eVar 0) (aCons (eVar 1) aNil))) aNil)))))))
  (sRet (eB (one tupleM) (aCons (eVar 4) aNil)))))
noncomputable def m__law_steps : Nat → List D → M D
  | 0 => fun _ => M.bad
  | k + 1 => fnT 10 (b__law_steps (m__law_steps k))
noncomputable def b__law_weight (rec : List D → M D) : ST :=
  (sSeq (sSet 1 (eC (.int 0)))
  (sSeq (sFor (srcSeq (eVar 0)) (gNm 2)
  (sSeq (sSet 1 (e2 addM (eVar 1) (eC (.int 1))))
  (sSeq (sIf (mB (e2 eqM (e2 ixM (eVar 2) (eC (.int 0))) (eC (.str "loop"))))
  (sSet 1 (e2 addM (eVar 1) (e2 mulM (e2 ixM (eVar 2) (eC (.int 1))) (eCall 1 rec (aCons (e2 ixM (eVar 2) (eC (.int 2))) aNil)))))
  sNext)
  (sIf (mB (e2 inF (e2 ixM (eVar 2) (eC (.int 0))) (eTup (aCons (eC (.str "guard")) (aCons (eC (.str "case")) aNil)))))
  (sSet 1 (e2 addM (e2 addM (eVar 1) (eCall 1 rec (aCons (e2 ixM (eVar 2) (eC (.int 1))) aNil))) (eCall 1 rec (aCons (e2 ixM (eVar 2) (eC (.int 2))) aNil))))
  sNext))))
  (sRet (eVar 1))))
noncomputable def m__law_weight : Nat → List D → M D
  | 0 => fun _ => M.bad
  | k + 1 => fnT 3 (b__law_weight (m__law_weight k))
noncomputable def b__law_plan : ST :=
  (sSeq (sSet 3 (eCall 4 (m__law_steps 7) (aCons (eVar 0) (aCons (eVar 1) (aCons (eC (.int 1)) (aCons (eVar 2) aNil))))))
  (sSeq (whileN (mB (e2 (cmpM fun i j => decide (j < i)) (eCall 1 (m__law_weight 7) (aCons (eVar 3) aNil)) (eC (.int 60)))) (sSet 3 (eSl (eVar 3) oNone (oSome (e1 negM (eC (.int 1)))))) 100000)
  (sRet (eVar 3))))
noncomputable def m__law_plan : List D → M D := fnT 4 b__law_plan
noncomputable def b__law_scene : ST :=
  (sSeq (sSet 4 (eCall 3 m__law_tape (aCons (eVar 0) (aCons (eVar 1) (aCons (eC (.int 4)) aNil)))))
  (sSeq (sSet 5 (eB (one tupleM) (aCons (eLc (srcRng (aCons (eCall 2 m__law_take (aCons (eVar 4) (aCons (eC (.int 4)) aNil))) aNil)) (gNm 12) tYesM (e2 addM (eC (.int 1)) (eCall 2 m__law_take (aCons (eVar 4) (aCons (e2 ixM (eLst (aCons (eC (.int 4)) (aCons (eC (.int 1)) (aCons (eC (.int 2)) aNil)))) (eCall 2 m__law_take (aCons (eVar 4) (aCons (eC (.int 3)) aNil)))) aNil)))) [12]) aNil)))
  (sSeq (sSet 6 (eB (one tupleM) (aCons (eLc (srcRng (aCons (eCall 2 m__law_take (aCons (eVar 4) (aCons (eC (.int 3)) aNil))) aNil)) (gNm 12) tYesM (e2 addM (eC (.int 1)) (eCall 2 m__law_take (aCons (eVar 4) (aCons (e2 ixM (eLst (aCons (eC (.int 4)) (aCons (eC (.int 1)) (aCons (eC (.int 2)) aNil)))) (eCall 2 m__law_take (aCons (eVar 4) (aCons (eC (.int 3)) aNil)))) aNil)))) [12]) aNil)))
  (sSeq (sSet 7 (eCall 2 m__law_take (aCons (eVar 4) (aCons (eC (.int 3)) aNil))))
  (sSeq (sSet 8 (e2 addM (eC (.int 1)) (eCall 2 m__law_take (aCons (eVar 4) (aCons (eC (.int 4)) aNil)))))
  (sSeq (sSet 9 (eTup (aCons (eB (one lenM) (aCons (eVar 5) aNil)) (aCons (eB (one lenM) (aCons (eVar 6) aNil)) (aCons (eVar 7) (aCons (eVar 8) aNil))))))
  (sSeq (sSet 10 (eB (one tupleM) (aCons (eLc (srcRng (aCons (eVar 8) aNil)) (gNm 12) tYesM (eCall 3 m__law_plan (aCons (eVar 4) (aCons (eVar 9) (aCons (eVar 2) aNil)))) [12]) aNil)))
  (sSeq (sSet 11 (eNewL aNil))
  (sSeq (sFor (srcRng (aCons (e2 addM (eC (.int 1)) (eCall 2 m__law_take (aCons (eVar 4) (aCons (eVar 3) aNil)))) aNil)) (gNm 12)
  (sSeq (sSet 13 (e2 ixM (eLst (aCons (eC (.int 0)) (aCons (eC (.int 0)) (aCons (eCall 2 m__law_take (aCons (eVar 4) (aCons (eC (.int 4)) aNil))) (aCons (eCall 2 m__law_take (aCons (eVar 4) (aCons (eC (.int 1001)) aNil))) aNil))))) (eCall 2 m__law_take (aCons (eVar 4) (aCons (eC (.int 4)) aNil)))))
  (sDrop (eMeth "list" (oneA appM) (eVar 11) (aCons (eTup (aCons (eVar 13) (aCons (e2 ixM (eLst (aCons (eC (.int 0)) (aCons (eCall 2 m__law_take (aCons (eVar 4) (aCons (eC (.int 4)) aNil))) (aCons (eCall 2 m__law_take (aCons (eVar 4) (aCons (eC (.int 2)) aNil))) aNil)))) (eCall 2 m__law_take (aCons (eVar 4) (aCons (eC (.int 3)) aNil)))) (aCons (eCall 2 m__law_take (aCons (eVar 4) (aCons (eVar 8) aNil))) aNil)))) aNil)))))
  (sRet (eTup (aCons (eVar 5) (aCons (eVar 6) (aCons (eVar 7) (aCons (eVar 10) (aCons (eB (one tupleM) (aCons (eVar 11) aNil)) aNil))))))))))))))))
noncomputable def m__law_scene : List D → M D := fnT 14 b__law_scene
end Cm
/-! P0: what a computation comes to, by what is wanted of it. -/
namespace SL
open PySem PySem.Spec PyProof.Rows L2

/-- it comes to an end of which Q holds -/
def Got {α : Type} (r : R α) (Q : α → Store → Prop) : Prop := ∃ a S, r = .ok a S ∧ Q a S
section
variable {α β : Type} {S S' : Store} {ρ : Env'}
theorem got_ok {a : α} {Q : α → Store → Prop} : Got (.ok a S) Q ↔ Q a S := ⟨fun ⟨_, _, e, q⟩ => by cases e; exact q, fun q => ⟨a, S, rfl, q⟩⟩
theorem got_bind {m : M α} {f : α → M β} {Q : β → Store → Prop} : Got (M.bind m f S) Q ↔ Got (m S) fun a S' => Got (f a S') Q := by
  unfold Got M.bind
  constructor
  · rintro ⟨b, S', e, q⟩
    cases h : m S with
    | ok a S1 => rw [h] at e; exact ⟨a, S1, rfl, b, S', e, q⟩
    | exc c fs S1 => rw [h] at e; cases e
    | bad => rw [h] at e; cases e
  · rintro ⟨a, S1, e, b, S', e', q⟩
    exact ⟨b, S', by rw [e]; exact e', q⟩
theorem got_ret {a : α} {Q : α → Store → Prop} : Got (M.ret a S) Q ↔ Q a S := got_ok
theorem got_bad {Q : α → Store → Prop} : Got (.bad : R α) Q ↔ False := ⟨fun ⟨_, _, e, _⟩ => (by cases e), fun h => h.elim⟩
theorem got_mbad {Q : α → Store → Prop} : Got ((M.bad : M α) S) Q ↔ False := got_bad
theorem Got.mono {r : R α} {Q Q' : α → Store → Prop} (h : Got r Q) (i : ∀ a S, Q a S → Q' a S) : Got r Q' := let ⟨a, S, e, q⟩ := h; ⟨a, S, e, i a S q⟩
theorem Got.of_eq {r : R α} {a : α} {Q : α → Store → Prop} (e : r = .ok a S) (q : Q a S) : Got r Q := ⟨a, S, e, q⟩
theorem got_eq {r : R α} {a : α} {S : Store} (h : Got r fun b S' => b = a ∧ S' = S) : r = .ok a S := by
  obtain ⟨b, S', e, rfl, rfl⟩ := h
  exact e
theorem got_ite {c : Prop} [Decidable c] {x y : R α} {Q : α → Store → Prop} : Got (if c then x else y) Q ↔ if c then Got x Q else Got y Q := by
  split <;> exact Iff.rfl
theorem got_iteM {c : Prop} [Decidable c] {x y : M α} {Q : α → Store → Prop} : Got ((if c then x else y) S) Q ↔ if c then Got (x S) Q else Got (y S) Q := by
  split <;> exact Iff.rfl
/-! ### loops -/
def FlQ (I : Env' → Store → Prop) (Q : Fl → Store → Prop) : Fl → Store → Prop
  | .nx ρ, S => I ρ S
  | .ct ρ, S => I ρ S
  | .bk ρ, S => Q (.nx ρ) S
  | .rt d, S => Q (.rt d) S
theorem got_for {g : GM} {b : ST} {wt : Store → Prop} {Q : Fl → Store → Prop} : ∀ (ds : List D) (I : Nat → Env' → Store → Prop) {ρ : Env'} {S : Store}, I 0 ρ S → (∀ i ρ S, I i ρ S → wt S) →
    (∀ i d ρ S, ds[i]? = some d → I i ρ S → Got (g d ρ S) fun ρ1 S1 => Got (b ρ1 S1) (FlQ (I (i + 1)) Q)) → (∀ ρ S, I ds.length ρ S → Q (.nx ρ) S) → Got (forL g b wt ds ρ S) Q
  | [], I, ρ, S, h0, hw, _, hd => by
    unfold forL
    rw [if_pos (hw _ _ _ h0)]
    exact got_ok.mpr (hd ρ S h0)
  | d :: ds, I, ρ, S, h0, hw, hs, hd => by
    unfold forL
    rw [if_pos (hw _ _ _ h0)]
    rw [got_bind]
    refine (hs 0 d ρ S rfl h0).mono fun ρ1 S1 h1 => ?_
    rw [got_bind]
    refine h1.mono fun f S2 h2 => ?_
    have rest : ∀ {ρ S}, I 1 ρ S → Got (forL g b wt ds ρ S) Q := fun h => got_for ds (fun i => I (i + 1)) h (fun i => hw (i + 1)) (fun i d ρ S e hi => hs (i + 1) d ρ S (by simpa using e) hi) (fun ρ S h => hd ρ S h)
    cases f with
    | nx ρ2 => exact rest h2
    | ct ρ2 => exact rest h2
    | bk ρ2 => exact got_ok.mpr h2
    | rt d => exact got_ok.mpr h2
theorem got_lc {g : GM} {t : Env' → M Bool} {e : ET} {wt : Store → Prop} {ρ : Env'} : ∀ (ds : List D) (I : Nat → List D → Store → Prop) {S : Store} {Q : List D → Store → Prop} {acc : List D}, I 0 acc S → (∀ i ys S, I i ys S → wt S) →
    (∀ i d ys S, ds[i]? = some d → I i ys S → Got (g d ρ S) fun ρ1 S1 => Got (t ρ1 S1) fun c S2 => if c = true then Got (e ρ1 S2) fun y S3 => I (i + 1) (ys ++ [y]) S3 else I (i + 1) ys S2) →
    (∀ ys S, I ds.length (acc ++ ys) S → Q ys S) → Got (lcL g t e wt ρ ds S) Q
  | [], I, S, Q, acc, h0, hw, _, hd => by
    unfold lcL
    rw [if_pos (hw _ _ _ h0)]
    exact got_ok.mpr (hd [] S (by simpa using h0))
  | d :: ds, I, S, Q, acc, h0, hw, hs, hd => by
    unfold lcL
    rw [if_pos (hw _ _ _ h0), got_bind]
    refine (hs 0 d acc S rfl h0).mono fun ρ1 S1 h1 => ?_
    rw [got_bind]
    refine h1.mono fun c S2 h2 => ?_
    cases c with
    | false =>
      exact got_lc ds (fun i => I (i + 1)) h2 (fun i => hw (i + 1)) (fun i d ys S e hi => hs (i + 1) d ys S (by simpa using e) hi) hd
    | true =>
      have h2 : Got (e ρ1 S2) fun y S3 => I 1 (acc ++ [y]) S3 := h2
      show Got (M.bind (e ρ1) (fun y => M.bind (lcL g t e wt ρ ds) fun ys => M.ret (y :: ys)) S2) Q
      rw [got_bind]
      refine h2.mono fun y S3 h3 => ?_
      rw [got_bind]
      refine got_lc ds (fun i => I (i + 1)) h3 (fun i => hw (i + 1)) (fun i d ys S e hi => hs (i + 1) d ys S (by simpa using e) hi) fun ys S4 h4 => ?_
      exact got_ok.mpr (hd (y :: ys) S4 (by simpa using h4))
theorem got_while {c : Env' → M Bool} {b : ST} {Q : Fl → Store → Prop} (I : Env' → Store → Prop) (μ : Env' → Store → Nat)
    (hs : ∀ ρ S, I ρ S → Got (c ρ S) fun k S1 => if k = true then Got (b ρ S1) (FlQ (fun ρ' S' => I ρ' S' ∧ μ ρ' S' < μ ρ S) Q) else Q (.nx ρ) S1) : ∀ (n : Nat) {ρ : Env'} {S : Store}, I ρ S → μ ρ S < n → Got (whileN c b n ρ S) Q
  | 0, ρ, S, _, h => absurd h (Nat.not_lt_zero _)
  | n + 1, ρ, S, hI, h => by
    unfold whileN
    rw [got_bind]
    refine (hs ρ S hI).mono fun k S1 h1 => ?_
    cases k with
    | false => exact got_ok.mpr h1
    | true =>
      have h1 : Got (b ρ S1) (FlQ (fun ρ' S' => I ρ' S' ∧ μ ρ' S' < μ ρ S) Q) := h1
      show Got (M.bind (b ρ) _ S1) Q
      rw [got_bind]
      refine h1.mono fun f S2 h2 => ?_
      cases f with
      | nx ρ2 => exact got_while I μ hs n h2.1 (by have := h2.2; omega)
      | ct ρ2 => exact got_while I μ hs n h2.1 (by have := h2.2; omega)
      | bk ρ2 => exact got_ok.mpr h2
      | rt d => exact got_ok.mpr h2
/-! ### defs -/
def RetT (S : Store) (Q : D → Store → Prop) (d : D) (S' : Store) : Prop := CutOk S.length S (frz S.length d S').2 (frz S.length d S').1 ∧ Q (frz S.length d S').1 ((frz S.length d S').2.take S.length)
def FnQ (Q : D → Store → Prop) : Fl → Store → Prop
  | .rt d, S => Q d S
  | .nx _, S => Q .non S
  | _, _ => False
theorem got_fnP {N : Nat} {m : ST} {ds : List D} {Q : D → Store → Prop} (h : Got (m (inEnv N ds) S) (FnQ Q)) : Got (fnP N m ds S) Q := by
  obtain ⟨f, S', e, q⟩ := h
  unfold fnP
  rw [e]
  cases f with
  | rt d => exact got_ok.mpr q
  | nx ρ => exact got_ok.mpr q
  | bk ρ => exact q.elim
  | ct ρ => exact q.elim
theorem got_fnT {N : Nat} {m : ST} {ds : List D} {Q : D → Store → Prop} (h : Got (m (inEnv N ds) S) (FnQ (RetT S Q))) : Got (fnT N m ds S) Q := by
  obtain ⟨f, S', e, q⟩ := h
  unfold fnT
  rw [e]
  have fin : ∀ {d : D}, RetT S Q d S' → Got (cutR S (.ok d S')) Q := fun {d} q => by
    have e : cutR S (.ok d S') = .ok (frz S.length d S').1 ((frz S.length d S').2.take S.length) := if_pos q.1
    rw [e]
    exact got_ok.mpr q.2
  cases f with
  | rt d => exact fin q
  | nx ρ => exact fin q
  | bk ρ => exact q.elim
  | ct ρ => exact q.elim
/-- what is as it was, or has no younger references -/
def Keep (S S1 : Store) : Prop := S1.length = S.length ∧ ∀ m, m < S.length → S1[m]? = S[m]? ∨ ∃ o, S1[m]? = some o ∧ O.rlt S.length o = true
theorem Keep.refl : Keep S S := ⟨rfl, fun _ _ => .inl rfl⟩
theorem Keep.set {n : Nat} {o : O} (h : O.rlt S.length o = true) : Keep S (S.set n o) := ⟨by simp, fun m hm => by
  by_cases e : m = n
  · subst e; exact .inr ⟨o, by rw [List.getElem?_set_self hm], h⟩
  · exact .inl (List.getElem?_set_ne (Ne.symm e))⟩
theorem retT_val {Q : D → Store → Prop} {d : D} {S1 J : Store} (k : Keep S S1) (hd : ∀ n, d ≠ .ref n) (hr : D.rlt S.length d = true) (q : Q d S1) : RetT S Q d (S1 ++ J) := by
  have e : frz S.length d (S1 ++ J) = (d, S1 ++ J) := by
    cases d <;> first | rfl | exact absurd rfl (hd _)
  unfold RetT
  rw [e]
  refine ⟨⟨rfl, by simp [k.1], hr, fun m hm => ?_⟩, ?_⟩
  · rw [List.getElem?_append_left (by rw [k.1]; exact hm)]
    exact k.2 m hm
  · show Q d ((S1 ++ J).take S.length)
    rw [← k.1, List.take_left]
    exact q
theorem retT_val0 {Q : D → Store → Prop} {d : D} {S1 : Store} (k : Keep S S1) (hd : ∀ n, d ≠ .ref n) (hr : D.rlt S.length d = true) (q : Q d S1) : RetT S Q d S1 := by
  have := retT_val (J := []) k hd hr q
  rwa [List.append_nil] at this
theorem retT_lst {Q : D → Store → Prop} {m : Nat} {l : List D} {S1 J : Store} (k : Keep S S1) (hm : S.length ≤ m) (hl : (S1 ++ J)[m]? = some (.lst l)) (hr : rltL S.length l = true) (q : Q (.lst l) S1) : RetT S Q (.ref m) (S1 ++ J) := by
  have e : frz S.length (.ref m) (S1 ++ J) = (.lst l, (S1 ++ J).set m .dead) := by
    simp only [frz, if_pos hm, hl]
  have e2 : ((S1 ++ J).set m .dead).take S.length = S1 := by
    rw [List.take_set_of_le hm, ← k.1, List.take_left]
  unfold RetT
  rw [e]
  refine ⟨⟨rfl, by simp [k.1], by simpa [D.rlt] using hr, fun i hi => ?_⟩, ?_⟩
  · show ((S1 ++ J).set m .dead)[i]? = S[i]? ∨ _
    rw [List.getElem?_set_ne (by omega), List.getElem?_append_left (by rw [k.1]; exact hi)]
    exact k.2 i hi
  · show Q (.lst l) (((S1 ++ J).set m .dead).take S.length)
    rw [e2]; exact q
end
/-! ### references -/
theorem rltL_ints {n : Nat} : ∀ {xs : List Int}, rltL n (xs.map D.int) = true
  | [] => rfl
  | x :: xs => by
    show (D.rlt n (.int x) && rltL n (xs.map D.int)) = true
    rw [rltL_ints]; rfl
theorem rltL_app {n : Nat} : ∀ {a b : List D}, rltL n (a ++ b) = (rltL n a && rltL n b)
  | [], b => by simp [rltL]
  | x :: a, b => by
    show (D.rlt n x && rltL n (a ++ b)) = ((D.rlt n x && rltL n a) && rltL n b)
    rw [rltL_app, Bool.and_assoc]
end SL
/-! P0b: what is wanted of each operation. -/
namespace SL
open PySem PySem.Spec PyProof.Rows L2
section
variable {S : Store} {Q : D → Store → Prop} {a b c : D} {i j : Int}
theorem got_some {α β : Type} {o : Option α} {f : α → R β} {Q : β → Store → Prop} : Got (match o with | some x => f x | none => .bad) Q ↔ ∃ x, o = some x ∧ Got (f x) Q := by
  cases o with
  | none => exact ⟨fun h => (got_bad.mp h).elim, fun ⟨x, e, _⟩ => by cases e⟩
  | some y => exact ⟨fun h => ⟨y, rfl, h⟩, fun ⟨x, e, h⟩ => by cases e; exact h⟩
theorem got_if {α : Type} {c : Prop} [Decidable c] {x : R α} {Q : α → Store → Prop} : Got (if c then x else .bad) Q ↔ c ∧ Got x Q := by
  split
  · rename_i h; exact ⟨fun q => ⟨h, q⟩, fun q => q.2⟩
  · rename_i h; exact ⟨fun q => (got_bad.mp q).elim, fun q => absurd q.1 h⟩
theorem g_add : Got (addM (.int i) (.int j) S) Q ↔ Q (.int (i + j)) S := got_ok
theorem g_addT {x y : List D} : Got (addM (.tup x) (.tup y) S) Q ↔ x.length + y.length ≤ sizeLine ∧ Q (.tup (x ++ y)) S := by
  show Got (if _ then _ else _) Q ↔ _
  rw [got_if, got_ok]
theorem addM_lists (h : ∀ i, a ≠ .int i) (h' : ∀ l, a ≠ .tup l) : addM a b S = match asL S a, asL S b with
    | some x, some y => if x.length + y.length ≤ sizeLine then .ok (.lst (x ++ y)) S else .bad
    | _, _ => .bad := by
  cases a <;> first
    | exact absurd rfl (h _)
    | exact absurd rfl (h' _)
    | rfl
theorem g_addL {x : List D} : Got (addM (.lst x) b S) Q ↔ ∃ y, asL S b = some y ∧ x.length + y.length ≤ sizeLine ∧ Q (.lst (x ++ y)) S := by
  rw [addM_lists (by intro i z; cases z) (by intro l z; cases z), show asL S (.lst x) = some x from rfl]
  cases asL S b with
  | none => simp [got_bad]
  | some m => simp [got_if, got_ok]
theorem g_addR {n : Nat} : Got (addM (.ref n) b S) Q ↔ ∃ x y, asL S (.ref n) = some x ∧ asL S b = some y ∧ x.length + y.length ≤ sizeLine ∧ Q (.lst (x ++ y)) S := by
  rw [addM_lists (by intro i z; cases z) (by intro l z; cases z)]
  cases asL S (.ref n) with
  | none => simp [got_bad]
  | some l => cases asL S b with
    | none => simp [got_bad]
    | some m => simp [got_if, got_ok]
theorem g_addN : Got (addN a b S) Q ↔ ∃ x y, asL S a = some x ∧ asL S b = some y ∧ x.length + y.length ≤ sizeLine ∧ Q (.ref S.length) (S ++ [.lst (x ++ y)]) := by
  unfold addN
  cases asL S a with
  | none => simp [got_bad]
  | some l => cases asL S b with
    | none => simp [got_bad]
    | some m => simp [got_if, got_ok]
theorem g_sub : Got (subM (.int i) (.int j) S) Q ↔ Q (.int (i - j)) S := got_ok
theorem g_mul : Got (mulM (.int i) (.int j) S) Q ↔ mulOk i j = true ∧ Q (.int (i * j)) S := by
  show Got (if _ then _ else _) Q ↔ _
  rw [got_if, got_ok]
theorem g_div : Got (divM (.int i) (.int j) S) Q ↔ divOk j = true ∧ Q (.int (i / j)) S := by
  show Got (if _ then _ else _) Q ↔ _
  rw [got_if, got_ok]
theorem g_mod : Got (modM (.int i) (.int j) S) Q ↔ 0 < j ∧ Q (.int (i % j)) S := by
  show Got (if _ then _ else _) Q ↔ _
  rw [got_if, got_ok, decide_eq_true_iff]
theorem g_pow : Got (powM (.int i) (.int j) S) Q ↔ (0 ≤ j ∧ j ≤ 1000 ∧ i.natAbs < 2 ^ 64) ∧ Q (.int (i ^ j.toNat)) S := by
  show Got (if _ then _ else _) Q ↔ _
  rw [got_if, got_ok, decide_eq_true_iff]
theorem g_neg : Got (negM (.int i) S) Q ↔ Q (.int (-i)) S := got_ok
theorem g_cmp {p : Int → Int → Bool} : Got (cmpM p (.int i) (.int j) S) Q ↔ Q (.bl (p i j)) S := got_ok
theorem g_isN : Got (isN a .non S) Q ↔ Q (.bl (isNonD a)) S := got_ok
theorem g_isNotN : Got (isNotN a .non S) Q ↔ Q (.bl (!isNonD a)) S := got_ok
theorem g_bool {k : Bool} {Q : Bool → Store → Prop} : Got (boolD (.bl k) S) Q ↔ Q k S := got_ok
theorem g_int {Q : Int → Store → Prop} : Got (intD (.int i) S) Q ↔ Q i S := got_ok
theorem g_eq : Got (eqM a b S) Q ↔ ∃ k, eqD S a b = some k ∧ Q (.bl k) S := by
  unfold eqM
  cases eqD S a b <;> simp [got_ok, got_bad]
theorem g_ne : Got (neM a b S) Q ↔ ∃ k, eqD S a b = some k ∧ Q (.bl (!k)) S := by
  unfold neM
  cases eqD S a b <;> simp [got_ok, got_bad]
theorem g_inL : Got (inL a b S) Q ↔ ∃ k, anyD S a b = some k ∧ Q (.bl k) S := by
  unfold inL
  cases anyD S a b <;> simp [got_ok, got_bad]
theorem g_notInL : Got (notInL a b S) Q ↔ ∃ k, anyD S a b = some k ∧ Q (.bl (!k)) S := by
  unfold notInL
  cases anyD S a b <;> simp [got_ok, got_bad]
theorem g_inF : Got (inF a b S) Q ↔ ∃ k, anyF S a b = some k ∧ Q (.bl k) S := by
  unfold inF
  cases anyF S a b <;> simp [got_ok, got_bad]
theorem g_notInF : Got (notInF a b S) Q ↔ ∃ k, anyF S a b = some k ∧ Q (.bl (!k)) S := by
  unfold notInF
  cases anyF S a b <;> simp [got_ok, got_bad]
theorem g_inK {ks : List Str} {z : Str} : Got (inK ks (.str z) S) Q ↔ Q (.bl (ks.contains z)) S := got_ok
theorem g_tup {l : List D} : Got (tupM l S) Q ↔ l.length ≤ sizeLine ∧ Q (.tup l) S := by
  unfold tupM; rw [got_if, got_ok]
theorem g_lst {l : List D} : Got (lstM l S) Q ↔ l.length ≤ sizeLine ∧ Q (.lst l) S := by
  unfold lstM; rw [got_if, got_ok]
theorem g_newL {l : List D} : Got (newL l S) Q ↔ l.length ≤ sizeLine ∧ Q (.ref S.length) (S ++ [.lst l]) := by
  unfold newL; rw [got_if, got_ok]
theorem g_ix : Got (ixM a (.int i) S) Q ↔ ∃ l, asQ S a = some l ∧ ∃ d, atI l i = some d ∧ Q d S := by
  unfold ixM
  cases asQ S a with
  | none => exact ⟨fun h => (got_bad.mp h).elim, fun ⟨x, e, _⟩ => by cases e⟩
  | some l =>
    cases h : atI l i <;> simp [h, got_ok, got_bad]
theorem g_slT {lo hi : Option Int} {l : List D} : Got (slM lo hi (.tup l) S) Q ↔ Q (.tup (cutD l lo hi)) S := got_ok
theorem g_slL {lo hi : Option Int} {l : List D} : Got (slM lo hi (.lst l) S) Q ↔ Q (.lst (cutD l lo hi)) S := got_ok
theorem g_len : Got (lenM a S) Q ↔ ∃ l, asQ S a = some l ∧ Q (.int l.length) S := by
  unfold lenM
  cases asQ S a <;> simp [got_ok, got_bad]
theorem g_list : Got (listM a S) Q ↔ ∃ l, asQ S a = some l ∧ Q (.lst l) S := by
  unfold listM
  cases asQ S a <;> simp [got_ok, got_bad]
theorem g_listNew : Got (listNewM a S) Q ↔ ∃ l, asQ S a = some l ∧ Q (.ref S.length) (S ++ [.lst l]) := by
  unfold listNewM
  cases asQ S a <;> simp [got_ok, got_bad]
theorem g_tuple : Got (tupleM a S) Q ↔ ∃ l, asQ S a = some l ∧ Q (.tup l) S := by
  rcases tupleM_cases a S with ⟨l, rfl⟩ | e
  · show Got (.ok (.tup l) S) Q ↔ _
    rw [got_ok]
    exact ⟨fun h => ⟨l, rfl, h⟩, fun ⟨_, e, h⟩ => by cases e; exact h⟩
  · cases a with
    | tup l => exact ⟨fun h => ⟨l, rfl, got_ok.mp h⟩, fun ⟨_, e, h⟩ => by cases e; exact got_ok.mpr h⟩
    | lst l => rw [e]; simp [asQ, asR, asL, got_ok]
    | fro l => rw [e]; simp [asQ, asR, asL, got_ok]
    | ref n =>
      rw [e]
      rw [show asQ S (.ref n) = asR S (.ref n) from rfl]
      cases asR S (.ref n) <;> simp [got_ok, got_bad]
    | non => rw [e]; simp [asQ, asR, asL, got_bad]
    | bl _ => rw [e]; simp [asQ, asR, asL, got_bad]
    | int _ => rw [e]; simp [asQ, asR, asL, got_bad]
    | str _ => rw [e]; simp [asQ, asR, asL, got_bad]
theorem g_sum : Got (sumM a S) Q ↔ ∃ ns, (asR S a).bind intsL = some ns ∧ Q (.int ns.sum) S := by
  unfold sumM
  cases (asR S a).bind intsL <;> simp [got_ok, got_bad]
theorem g_all : Got (allM a S) Q ↔ ∃ bs, (asR S a).bind blsL = some bs ∧ Q (.bl (bs.all id)) S := by
  unfold allM
  cases (asR S a).bind blsL <;> simp [got_ok, got_bad]
theorem g_any : Got (anyM a S) Q ↔ ∃ bs, (asR S a).bind blsL = some bs ∧ Q (.bl (bs.any id)) S := by
  unfold anyM
  cases (asR S a).bind blsL <;> simp [got_ok, got_bad]
theorem g_isi {T : String} : Got (isiM T a S) Q ↔ tyD S a ≠ "?" ∧ Q (.bl (isiB (tyD S a) T)) S := by
  unfold isiM
  split
  · rename_i h; exact ⟨fun q => (got_bad.mp q).elim, fun q => absurd h q.1⟩
  · rename_i h; rw [got_ok]; exact ⟨fun q => ⟨h, q⟩, fun q => q.2⟩
theorem g_meth {T : String} {o : D → List D → M D} {me : ET} {ma : Env' → M (List D)} {ρ : Env'} : Got (eMeth T o me ma ρ S) Q ↔ Got (me ρ S) fun d S1 => tyD S1 d = T ∧ Got (ma ρ S1) fun ds S2 => Got (o d ds S2) Q := by
  unfold eMeth
  rw [got_bind]
  constructor <;> refine fun h => h.mono fun d S1 h1 => ?_
  · rw [got_if, got_bind] at h1; exact h1
  · rw [got_if, got_bind]; exact h1
theorem g_app {n : Nat} {l : List D} (h : S[n]? = some (.lst l)) : Got (appM (.ref n) b S) Q ↔ l.length < sizeLine ∧ Q .non (S.set n (.lst (l ++ [b]))) := by
  have e : atL S (.ref n) = some (n, l) := by simp only [atL, h]
  unfold appM
  rw [e]
  show Got (if _ then _ else _) Q ↔ _
  rw [got_if, got_ok]
theorem g_set {n : Nat} {l : List D} {Q : Unit → Store → Prop} (h : S[n]? = some (.lst l)) : Got (setM (.ref n) (.int i) c S) Q ↔ ∃ k, ixN l.length i = some k ∧ Q () (S.set n (.lst (l.set k c))) := by
  have e : atL S (.ref n) = some (n, l) := by simp only [atL, h]
  unfold setM
  rw [e]
  cases h : ixN l.length i <;> simp [h, got_ok, got_bad]
theorem g_seq {Q : Src → Store → Prop} (h : ∀ n, a ≠ .ref n) : Got (seqM a S) Q ↔ ∃ l, asQ S a = some l ∧ Q (l, fun _ => True) S := by
  cases a with
  | ref n => exact absurd rfl (h n)
  | tup l => simp [seqM, asQ, asR, asL, got_ok]
  | lst l => simp [seqM, asQ, asR, asL, got_ok]
  | fro l => simp [seqM, asQ, asR, asL, got_ok]
  | non => simp [seqM, asQ, asR, asL, got_bad]
  | bl _ => simp [seqM, asQ, asR, asL, got_bad]
  | int _ => simp [seqM, asQ, asR, asL, got_bad]
  | str _ => simp [seqM, asQ, asR, asL, got_bad]
theorem g_seqR {n : Nat} {l : List D} {Q : Src → Store → Prop} (h : S[n]? = some (.lst l)) : Got (seqM (.ref n) S) Q ↔ Q (l, fun S' => S'[n]? = some (.lst l)) S := by
  simp only [seqM, h]
  exact got_ok
theorem g_rng {Q : Src → Store → Prop} : Got (rng1 [.int i] S) Q ↔ (-(2 ^ 62) ≤ i ∧ i < 2 ^ 62 ∧ i.toNat ≤ sizeLine) ∧ Q ((List.range i.toNat).map fun j : Nat => D.int (j : Int), fun _ => True) S := by
  show Got (rngM 0 i S) Q ↔ _
  unfold rngM
  rw [got_if, got_ok]
  simp only [Int.sub_zero, Int.zero_add]
  refine ⟨fun h => ⟨⟨h.1.2.2.1, h.1.2.2.2.1, h.1.2.2.2.2⟩, h.2⟩, fun h => ⟨⟨by omega, by omega, h.1.1, h.1.2.1, h.1.2.2⟩, h.2⟩⟩
theorem g_dix {k : D} : Got (dixM a k S) Q ↔ ∃ d, lookD S a k = some (some d) ∧ Q d S := by
  unfold dixM
  cases lookD S a k with
  | none => exact ⟨fun h => (got_bad.mp h).elim, fun ⟨x, e, _⟩ => by cases e⟩
  | some o => cases o with
    | none => exact ⟨fun h => (got_bad.mp h).elim, fun ⟨x, e, _⟩ => by cases e⟩
    | some d => exact ⟨fun h => ⟨d, rfl, got_ok.mp h⟩, fun ⟨_, e, h⟩ => by cases e; exact got_ok.mpr h⟩
theorem g_get {k x : D} : Got (getM a k x S) Q ↔ ∃ o, lookD S a k = some o ∧ Q (o.getD x) S := by
  unfold getM
  cases lookD S a k <;> simp [got_ok, got_bad]
theorem g_eget {md mk mx : ET} {ρ : Env'} : Got (eGet md mk mx ρ S) Q ↔ Got (md ρ S) fun d S1 => isDct S1 d = true ∧ Got (mk ρ S1) fun k S2 => Got (mx ρ S2) fun x S3 => Got (getM d k x S3) Q := by
  unfold eGet
  rw [got_bind]
  constructor <;> refine fun h => h.mono fun d S1 h1 => ?_
  · rw [got_if, got_bind] at h1
    refine ⟨h1.1, h1.2.mono fun k S2 h2 => ?_⟩
    rw [got_bind] at h2; exact h2
  · rw [got_if, got_bind]
    refine ⟨h1.1, h1.2.mono fun k S2 h2 => ?_⟩
    rw [got_bind]; exact h2
theorem g_disp {ps : List (D × D)} : Got (dispM ps S) Q ↔ ∃ kvs, keyPs ps = some kvs ∧ kvs.length ≤ 15 ∧ Q (.ref S.length) (S ++ [.dk (mergeD [] kvs)]) := by
  unfold dispM
  cases keyPs ps <;> simp [got_ok, got_bad, got_if]
theorem g_call {n : Nat} {f : List D → M D} {m : Env' → M (List D)} {ρ : Env'} : Got (eCall n f m ρ S) Q ↔ Got (m ρ S) fun ds S1 => ds.length = n ∧ Got (f ds S1) Q := by
  unfold eCall
  rw [got_bind]
  constructor <;> refine fun h => h.mono fun ds S1 h1 => ?_
  · rw [got_iteM] at h1
    split at h1
    · rename_i h2; exact ⟨h2, h1⟩
    · exact (got_mbad.mp h1).elim
  · rw [got_iteM, if_pos h1.1]; exact h1.2
theorem got_noex {α : Type} {r : R α} {Q : α → Store → Prop} : Got (noexR r) Q ↔ Got r Q := by
  cases r with
  | ok a S => exact Iff.rfl
  | exc c fs S => exact ⟨fun h => (got_bad.mp h).elim, fun ⟨_, _, e, _⟩ => by cases e⟩
  | bad => exact Iff.rfl
end
section
variable {S : Store} {x y z u v : D} {l : List D} {n : Nat}
theorem asQ_tup : asQ S (.tup l) = some l := rfl
theorem asQ_lst : asQ S (.lst l) = some l := rfl
theorem asQ_fro : asQ S (.fro l) = some l := rfl
theorem asL_lst : asL S (.lst l) = some l := rfl
theorem asR_lst : asR S (.lst l) = some l := rfl
theorem asQ_ref (h : S[n]? = some (.lst l)) : asQ S (.ref n) = some l := by show asL S (.ref n) = _; simp only [asL, h]
theorem asL_ref (h : S[n]? = some (.lst l)) : asL S (.ref n) = some l := by simp only [asL, h]
theorem at0 : atI (x :: l) 0 = some x := by simp [L2.atI, L2.ixN]
theorem at1 : atI (x :: y :: l) 1 = some y := by
  have : (1 : Int) < (x :: y :: l).length := by simp only [List.length_cons]; omega
  simp only [L2.atI, L2.ixN, if_pos (show (0 : Int) ≤ 1 by omega), if_pos this]; rfl
theorem at2 : atI (x :: y :: z :: l) 2 = some z := by
  have : (2 : Int) < (x :: y :: z :: l).length := by simp only [List.length_cons]; omega
  simp only [L2.atI, L2.ixN, if_pos (show (0 : Int) ≤ 2 by omega), if_pos this]; rfl
theorem at3 : atI (x :: y :: z :: u :: l) 3 = some u := by
  have : (3 : Int) < (x :: y :: z :: u :: l).length := by simp only [List.length_cons]; omega
  simp only [L2.atI, L2.ixN, if_pos (show (0 : Int) ≤ 3 by omega), if_pos this]; rfl
theorem at4 : atI (x :: y :: z :: u :: v :: l) 4 = some v := by
  have : (4 : Int) < (x :: y :: z :: u :: v :: l).length := by simp only [List.length_cons]; omega
  simp only [L2.atI, L2.ixN, if_pos (show (0 : Int) ≤ 4 by omega), if_pos this]; rfl
theorem eqD_ii {i j : Int} : eqD S (.int i) (.int j) = some (i == j) := by
  have h : ∀ i : Int, SeqAt.shaped (.int i) = true := fun i => by simp [SeqAt.shaped, PyData.canLay0, PyData.depth]
  simp [eqD, rs, dpy, h, PyData.eqv]
theorem eqD_ss {i j : Str} (h : SeqAt.shaped (.str i) = true) (h' : SeqAt.shaped (.str j) = true) : eqD S (.str i) (.str j) = some (i == j) := by
  simp [eqD, rs, dpy, h, h', PyData.eqv]
end
end SL
/-! P0c: words. -/
namespace SL
open PySem PySem.Spec PyProof.Rows L2
theorem ofStr_eq {s s' : String} : (Str.ofString s = Str.ofString s') ↔ s = s' := by
  refine ⟨fun h => ?_, fun h => by rw [h]⟩
  rw [Str.ofString_eq_toList, Str.ofString_eq_toList] at h
  have h : s.toList.map Char.toNat = s'.toList.map Char.toNat := by simpa using h
  have hi : Function.Injective Char.toNat := fun a b e => Char.ext (UInt32.toNat_inj.mp e)
  have := (List.map_inj_right (fun x y e => hi e)).mp h
  rw [← String.ofList_toList (s := s), this, String.ofList_toList]
theorem shaped_str {s : String} : SeqAt.shaped (.str (Str.ofString s)) = true := by
  simp only [SeqAt.shaped, PyData.canLay0, PyData.strOk, PyData.depth, Str.ofString_eq_toList]
  simp
  intro c _
  have := c.valid
  rcases this with h | ⟨_, h⟩
  · show c.val.toNat < _
    have : c.val.toNat < 55296 := h
    omega
  · exact h
theorem beq_str {s s' : String} : (Str.ofString s == Str.ofString s') = (s == s') := by
  rw [Bool.eq_iff_iff]; simp [ofStr_eq]
theorem eqD_str {S : Store} {s s' : String} : eqD S (.str (Str.ofString s)) (.str (Str.ofString s')) = some (s == s') := by
  rw [eqD_ss shaped_str shaped_str, beq_str]
theorem eqF_str {s s' : String} : eqF (.str (Str.ofString s)) (.str (Str.ofString s')) = (s == s') := beq_str
example {S : Store} : eqD S (.str (Str.ofString "hold")) (.str (Str.ofString "take")) = some false := by
  simp [eqD_str]
example {S : Store} : anyF S (.str (Str.ofString "hold")) (.tup [.str (Str.ofString "take")]) = some false := by
  simp [anyF, eqF_str, asQ_tup, flD]
end SL
/-! P1: the law's draws. -/
namespace Cm
open PySem PySem.Spec PyProof.Rows L2 SL

def tape (xs : List Int) (p : Int) : O := .lst [.lst (xs.map D.int), .int p]
theorem atI_int {xs : List Int} {i : Int} (h0 : 0 ≤ i) (h1 : i < xs.length) : ∃ x, x ∈ xs ∧ atI (xs.map D.int) i = some (.int x) := by
  have hl : i.toNat < xs.length := by omega
  refine ⟨xs[i.toNat], List.getElem_mem hl, ?_⟩
  unfold L2.atI L2.ixN
  rw [if_pos h0, if_pos (by simpa using h1)]
  show (xs.map D.int)[i.toNat]? = _
  rw [List.getElem?_map, List.getElem?_eq_getElem hl]
  rfl
theorem take_spec {S : Store} {t : Nat} {xs : List Int} {p many : Int} {Q : D → Store → Prop} (hS : S[t]? = some (tape xs p)) (hx : xs ≠ []) (hm : 0 < many)
    (q : ∀ r : Int, 0 ≤ r → r < many → Q (.int r) (S.set t (tape xs (p + 1)))) : Got (m__law_take [.ref t, .int many] S) Q := by
  have ht : t < S.length := (List.getElem?_eq_some_iff.mp hS).1
  have hl : (0 : Int) < xs.length := by
    cases xs with
    | nil => exact absurd rfl hx
    | cons x xs => simp
  obtain ⟨x, hx1, hx2⟩ := atI_int (xs := xs) (i := p % xs.length) (Int.emod_nonneg _ (by omega)) (Int.emod_lt_of_pos _ hl)
  have hr0 := Int.emod_nonneg x (show many ≠ 0 by omega)
  have hr1 := Int.emod_lt_of_pos x hm
  unfold m__law_take
  apply got_fnT
  simp [b__law_take, inEnv, sSeq, sSet, e2, e1, eB, eVar, eC, aCons, aNil, sAsg, gSubM, sRet, got_bind, got_ret, one]
  simp [g_ix, g_mod, g_len, asQ_ref hS, tape, at0, at1, asQ_lst, g_add, hl, hx2, hm, g_set hS, FnQ]
  refine ⟨by omega, 1, by rfl, ?_⟩
  refine retT_val0 (Keep.set ?_) (by intro n; simp) rfl (q _ hr0 hr1)
  simp [O.rlt, rltL, D.rlt, rltL_ints]
theorem mulOk_of {i j : Int} (h : i.natAbs < 10 ^ 60) (h' : j.natAbs < 10 ^ 60) : mulOk i j = true := by
  have l : ∀ n : Nat, n < 10 ^ 60 → n.log2 < 250 := fun n hn => by
    by_cases h0 : n = 0
    · subst h0; decide
    · exact (Nat.log2_lt h0).mpr (Nat.lt_of_lt_of_le hn (by decide))
  unfold SL.mulOk
  have := l _ h
  have := l _ h'
  exact decide_eq_true (by omega)
theorem divOk_of {j : Int} (h : 0 < j) (h' : j < 10 ^ 60) : divOk j = true := by
  have l : ∀ n : Nat, n < 10 ^ 60 → n.log2 < 250 := fun n hn => by
    by_cases h0 : n = 0
    · subst h0; decide
    · exact (Nat.log2_lt h0).mpr (Nat.lt_of_lt_of_le hn (by decide))
  have := l j.natAbs (by omega)
  unfold SL.divOk
  exact decide_eq_true ⟨h, by omega⟩
theorem cell_spec {S : Store} {zs : List Int} {k : Nat} {Q : D → Store → Prop} (hk : k < 1000) (q : ∀ c, Q (.int c) S) : Got (m__law_cell [.fro (zs.map D.int), .int k] S) Q := by
  unfold m__law_cell
  apply got_fnT
  have e : ∀ c : Int, RetT S Q (.int c) S := fun c => retT_val0 Keep.refl (by intro n; simp) rfl (q c)
  have mo : mulOk 7919 k = true := mulOk_of (by omega) (by omega)
  by_cases h1 : k < zs.length
  · obtain ⟨x, -, hx⟩ := atI_int (xs := zs) (i := k) (by omega) (by omega)
    simp [b__law_cell, inEnv, sSeq, sSet, e2, e1, eB, eVar, eC, aCons, aNil, sAsg, gSubM, sRet, sDrop, sIf, mB, sNext, sFor, gNm, srcSeq, srcRng, eMeth, oneA, one, eTup, eLst, eNewL, eIf, tOrM, tAndM, tYesM, got_bind, got_ret, got_iteM, got_ite, got_bad, got_mbad, got_ok, FnQ, g_add, g_sub, g_mul, g_div, g_mod, g_pow, g_neg, g_cmp, g_isN, g_isNotN, g_bool, g_int, g_eq, g_ne, g_inL, g_inF, g_tup, g_lst, g_newL, g_ix, g_slT, g_slL, g_len, g_list, g_listNew, g_tuple, g_addT, g_addL, g_addR, g_addN, g_call, g_rng, asQ_tup, asQ_lst, asQ_fro, asL_lst, asR_lst, at0, at1, at2, at3, at4, eqD_ii, h1, hx, e]
  · by_cases h2 : zs = []
    · subst h2
      simp [b__law_cell, inEnv, sSeq, sSet, e2, e1, eB, eVar, eC, aCons, aNil, sAsg, gSubM, sRet, sDrop, sIf, mB, sNext, sFor, gNm, srcSeq, srcRng, eMeth, oneA, one, eTup, eLst, eNewL, eIf, tOrM, tAndM, tYesM, got_bind, got_ret, got_iteM, got_ite, got_bad, got_mbad, got_ok, FnQ, g_add, g_sub, g_mul, g_div, g_mod, g_pow, g_neg, g_cmp, g_isN, g_isNotN, g_bool, g_int, g_eq, g_ne, g_inL, g_inF, g_tup, g_lst, g_newL, g_ix, g_slT, g_slL, g_len, g_list, g_listNew, g_tuple, g_addT, g_addL, g_addR, g_addN, g_call, g_rng, asQ_tup, asQ_lst, asQ_fro, asL_lst, asR_lst, at0, at1, at2, at3, at4, eqD_ii, e, mo]
      intro h3; omega
    · have hl : (0 : Int) < zs.length := by
        cases zs with
        | nil => exact absurd rfl h2
        | cons z zs => simp
      have hl' : 0 < zs.length := by omega
      obtain ⟨x, -, hx⟩ := atI_int (xs := zs) (i := (k : Int) % zs.length) (Int.emod_nonneg _ (by omega)) (Int.emod_lt_of_pos _ hl)
      simp [b__law_cell, inEnv, sSeq, sSet, e2, e1, eB, eVar, eC, aCons, aNil, sAsg, gSubM, sRet, sDrop, sIf, mB, sNext, sFor, gNm, srcSeq, srcRng, eMeth, oneA, one, eTup, eLst, eNewL, eIf, tOrM, tAndM, tYesM, got_bind, got_ret, got_iteM, got_ite, got_bad, got_mbad, got_ok, FnQ, g_add, g_sub, g_mul, g_div, g_mod, g_pow, g_neg, g_cmp, g_isN, g_isNotN, g_bool, g_int, g_eq, g_ne, g_inL, g_inF, g_tup, g_lst, g_newL, g_ix, g_slT, g_slL, g_len, g_list, g_listNew, g_tuple, g_addT, g_addL, g_addR, g_addN, g_call, g_rng, asQ_tup, asQ_lst, asQ_fro, asL_lst, asR_lst, at0, at1, at2, at3, at4, eqD_ii, h1, h2, hl', hx, e, mo]
theorem prime_at {i : Int} (h : 0 ≤ i) (h' : i < 8) : ∃ p : Int, atI [D.int 2147483647, D.int 2147483629, D.int 2147483587, D.int 2147483579, D.int 2147483563, D.int 2147483549, D.int 2147483543, D.int 2147483497] i = some (.int p) ∧ 0 < p ∧ p < 2147483648 := by
  obtain ⟨x, hx, e⟩ := atI_int (xs := [2147483647, 2147483629, 2147483587, 2147483579, 2147483563, 2147483549, 2147483543, 2147483497]) h (by simpa using h')
  refine ⟨x, e, ?_⟩
  simp at hx
  omega
theorem tyD_ref {S : Store} {n : Nat} {l : List D} (h : S[n]? = some (.lst l)) : tyD S (.ref n) = "list" := by
  simp only [tyD, h]
theorem last_get {S : Store} {o : O} : (S ++ [o])[S.length]? = some o := by simp
theorem last_set {S : Store} {o o' : O} : (S ++ [o]).set S.length o' = S ++ [o'] := by
  rw [List.set_append_right _ _ (Nat.le_refl _)]; simp
theorem mulOk_sq {a b c : Int} (ha : 0 ≤ a) (hb : 0 ≤ b) (ha' : a < 10 ^ 20) (hb' : b < 10 ^ 20) : 0 ≤ a * b ∧ a * b < 10 ^ 40 := by
  refine ⟨Int.mul_nonneg ha hb, ?_⟩
  have : a * b ≤ 10 ^ 20 * b := Int.mul_le_mul_of_nonneg_right (by omega) hb
  omega
theorem draws_spec {S : Store} {zs : List Int} {k many : Nat} {base : Int} {Q : D → Store → Prop} (hk : k < 1000) (hm : many ≤ 60) (hb : 0 < base) (hb' : base < 10 ^ 60) (q : ∀ row : List Int, row.length = many → (∀ r ∈ row, 0 ≤ r ∧ r < base) → Q (.lst (row.map D.int)) S) :
    Got (m__law_draws [.fro (zs.map D.int), .int k, .int many, .int base] S) Q := by
  unfold m__law_draws
  apply got_fnT
  simp [b__law_draws, inEnv, sSeq, sSet, e2, e1, eB, eVar, eC, aCons, aNil, sAsg, gSubM, sRet, sDrop, sIf, mB, sNext, sFor, gNm, srcSeq, srcRng, eMeth, oneA, one, eTup, eLst, eNewL, eIf, tOrM, tAndM, tYesM, got_bind, got_ret, got_iteM, got_ite, got_bad, got_mbad, got_ok, FnQ, g_add, g_sub, g_mul, g_div, g_mod, g_pow, g_neg, g_cmp, g_isN, g_isNotN, g_bool, g_int, g_eq, g_ne, g_inL, g_inF, g_tup, g_lst, g_newL, g_ix, g_slT, g_slL, g_len, g_list, g_listNew, g_tuple, g_addT, g_addL, g_addR, g_addN, g_call, g_rng, asQ_tup, asQ_lst, asQ_fro, asL_lst, asR_lst, at0, at1, at2, at3, at4, eqD_ii, sizeLine]
  refine cell_spec hk fun c => ?_
  simp [g_cmp, g_bool]
  have hk' : mulOk 104729 k = true := mulOk_of (by omega) (by omega)
  have hd := divOk_of hb hb'
  split <;>
  · refine ⟨by omega, got_for _ (fun i ρ S' => i ≤ many ∧ ∃ (row : List Int) (rest : Int) (x8 x9 : Option D), row.length = i ∧ (∀ r ∈ row, 0 ≤ r ∧ r < base) ∧ S' = S ++ [.lst (row.map D.int)] ∧
      ρ = [some (D.fro (List.map D.int zs)), some (D.int ↑k), some (D.int ↑many), some (D.int base), some (D.tup [D.int 2147483647, D.int 2147483629, D.int 2147483587, D.int 2147483579, D.int 2147483563, D.int 2147483549, D.int 2147483543, D.int 2147483497]), some (D.int c), some (D.int rest), some (D.ref S.length), x8, x9]) ⟨by omega, [], _, _, _, rfl, by simp, rfl, rfl⟩ (fun _ _ _ _ => trivial) ?_ ?_⟩
    · rintro i d ρ S1 hd1 ⟨hi, row, rest, x8, x9, hr, hr', rfl, rfl⟩
      have hi' : i < many := by
        have := (List.getElem?_eq_some_iff.mp hd1).1
        simpa using this
      rw [List.getElem?_map, List.getElem?_range hi'] at hd1
      cases hd1
      obtain ⟨p1, e1', p1a, p1b⟩ := prime_at (i := (i : Int) % 8) (by omega) (by omega)
      obtain ⟨p2, e2', p2a, p2b⟩ := prime_at (i := (3 * (i : Int) + k) % 8) (by omega) (by omega)
      obtain ⟨p3, e3', p3a, p3b⟩ := prime_at (i := ((i : Int) + 5) % 8) (by omega) (by omega)
      simp [inEnv, sSeq, sSet, e2, e1, eB, eVar, eC, aCons, aNil, sAsg, gSubM, sRet, sDrop, sIf, mB, sNext, sFor, gNm, srcSeq, srcRng, eMeth, oneA, one, eTup, eLst, eNewL, eIf, tOrM, tAndM, tYesM, got_bind, got_ret, got_iteM, got_ite, got_bad, got_mbad, got_ok, FnQ, g_add, g_sub, g_mul, g_div, g_mod, g_pow, g_neg, g_cmp, g_isN, g_isNotN, g_bool, g_int, g_eq, g_ne, g_inL, g_inF, g_tup, g_lst, g_newL, g_ix, g_slT, g_slL, g_len, g_list, g_listNew, g_tuple, g_addT, g_addL, g_addR, g_addN, g_call, g_rng, asQ_tup, asQ_lst, asQ_fro, asL_lst, asR_lst, at0, at1, at2, at3, at4, eqD_ii, hk', hd, p1a, p2a, p3a, e1', e2', e3', hb]
      have hi60 : i < 60 := by omega
      have hq : ∀ j : Nat, j < 60 → (0 ≤ 2 * (j : Int) * j ∧ 2 * (j : Int) * j ≤ 7200) := by decide
      have hq' := hq i hi60
      generalize hm2 : (c % p1 * (48271 + 2 * ↑i * ↑i) + 7919 * (↑i + 1) * (↑i + 1) + 104729 * ↑k) % p2 = m2
      have hm2a : 0 ≤ m2 := by rw [← hm2]; exact Int.emod_nonneg _ (by omega)
      have hm2b : m2 < p2 := by rw [← hm2]; exact Int.emod_lt_of_pos _ p2a
      have hmm := mulOk_sq (c := 0) hm2a hm2a (by omega) (by omega)
      have hca := Int.emod_nonneg c (show p1 ≠ 0 by omega)
      have hcb := Int.emod_lt_of_pos c p1a
      have hl := last_get (S := S) (o := .lst (row.map D.int))
      refine ⟨mulOk_of (by omega) (by omega), mulOk_of (by omega) (by omega), mulOk_of (by omega) (by omega), mulOk_of (by omega) (by omega), mulOk_of (by omega) (by omega), mulOk_of (by omega) (by omega), mulOk_of (by omega) (by omega), mulOk_of (by omega) (by omega), ?_⟩
      split <;>
      · refine ⟨tyD_ref hl, ?_⟩
        rw [g_app hl, last_set]
        refine ⟨by simp [hr, sizeLine]; omega, by omega, row ++ [_], by simp [hr], ?_, by simp; rfl, _, _, _, rfl⟩
        intro r hr2
        rcases List.mem_append.mp hr2 with h | h
        · exact hr' r h
        · rw [List.mem_singleton.mp h]
          exact ⟨Int.emod_nonneg _ (by omega), Int.emod_lt_of_pos _ hb⟩
    · rintro ρ S1 ⟨hi, row, rest, x8, x9, hr, hr', rfl, rfl⟩
      simp [inEnv, sSeq, sSet, e2, e1, eB, eVar, eC, aCons, aNil, sAsg, gSubM, sRet, sDrop, sIf, mB, sNext, sFor, gNm, srcSeq, srcRng, eMeth, oneA, one, eTup, eLst, eNewL, eIf, tOrM, tAndM, tYesM, got_bind, got_ret, got_iteM, got_ite, got_bad, got_mbad, got_ok, FnQ, g_add, g_sub, g_mul, g_div, g_mod, g_pow, g_neg, g_cmp, g_isN, g_isNotN, g_bool, g_int, g_eq, g_ne, g_inL, g_inF, g_tup, g_lst, g_newL, g_ix, g_slT, g_slL, g_len, g_list, g_listNew, g_tuple, g_addT, g_addL, g_addR, g_addN, g_call, g_rng, asQ_tup, asQ_lst, asQ_fro, asL_lst, asR_lst, at0, at1, at2, at3, at4, eqD_ii]
      exact retT_lst Keep.refl (Nat.le_refl _) last_get rltL_ints (q row (by simpa using hr) hr')
end Cm
/-! P2: the law's tape and the steps drawn from it. -/
namespace Cm
open PySem PySem.Spec PyProof.Rows L2 SL

theorem draws_spec' {S : Store} {zs : List Int} {k many base : Int} {Q : D → Store → Prop} (hk0 : 0 ≤ k) (hk : k < 1000) (hm0 : 0 ≤ many) (hm : many ≤ 60) (hb : 0 < base) (hb' : base < 10 ^ 60)
    (q : ∀ row : List Int, (row.length : Int) = many → (∀ r ∈ row, 0 ≤ r ∧ r < base) → Q (.lst (row.map D.int)) S) : Got (m__law_draws [.fro (zs.map D.int), .int k, .int many, .int base] S) Q := by
  obtain ⟨k, rfl⟩ := Int.eq_ofNat_of_zero_le hk0
  obtain ⟨many, rfl⟩ := Int.eq_ofNat_of_zero_le hm0
  exact draws_spec (by omega) (by omega) hb hb' fun row h => q row (by rw [h])
theorem tape_spec {S : Store} {zs : List Int} {at' many : Nat} {Q : D → Store → Prop} (h1 : at' + many < 1000) (h0 : 0 < many)
    (q : ∀ xs : List Int, xs ≠ [] → (∀ x ∈ xs, 0 ≤ x ∧ x < 27720) → Q (.ref S.length) (S ++ [tape xs 0])) : Got (m__law_tape [.fro (zs.map D.int), .int at', .int many] S) Q := by
  unfold m__law_tape
  apply got_fnP
  simp [b__law_tape, inEnv, sSeq, sSet, e2, e1, eB, eVar, eC, aCons, aNil, sAsg, gSubM, sRet, sDrop, sIf, mB, sNext, sFor, gNm, srcSeq, srcRng, eMeth, oneA, one, eTup, eLst, eNewL, eIf, tOrM, tAndM, tYesM, got_bind, got_ret, got_iteM, got_ite, got_bad, got_mbad, got_ok, FnQ, g_add, g_sub, g_mul, g_div, g_mod, g_pow, g_neg, g_cmp, g_isN, g_isNotN, g_bool, g_int, g_eq, g_ne, g_inL, g_inF, g_tup, g_lst, g_newL, g_ix, g_slT, g_slL, g_len, g_list, g_listNew, g_tuple, g_addT, g_addL, g_addR, g_addN, g_call, g_rng, asQ_tup, asQ_lst, asQ_fro, asL_lst, asR_lst, at0, at1, at2, at3, at4, eqD_ii, sizeLine]
  refine ⟨by omega, got_for _ (fun i ρ S' => i ≤ many ∧ S' = S ∧ ∃ (xs : List Int) (x4 : Option D), xs.length = 60 * i ∧ (∀ r ∈ xs, 0 ≤ r ∧ r < 27720) ∧
      ρ = [some (D.fro (List.map D.int zs)), some (D.int ↑at'), some (D.int ↑many), some (.lst (xs.map D.int)), x4]) ⟨by omega, rfl, [], _, rfl, by simp, rfl⟩ (fun _ _ _ _ => trivial) ?_ ?_⟩
  · rintro i d ρ S1 hd1 ⟨hi, rfl, xs, x4, hr, hr', rfl⟩
    have hi' : i < many := by
      have := (List.getElem?_eq_some_iff.mp hd1).1
      simpa using this
    rw [List.getElem?_map, List.getElem?_range hi'] at hd1
    cases hd1
    simp [inEnv, sSeq, sSet, e2, e1, eB, eVar, eC, aCons, aNil, sAsg, gSubM, sRet, sDrop, sIf, mB, sNext, sFor, gNm, srcSeq, srcRng, eMeth, oneA, one, eTup, eLst, eNewL, eIf, tOrM, tAndM, tYesM, got_bind, got_ret, got_iteM, got_ite, got_bad, got_mbad, got_ok, FnQ, g_add, g_sub, g_mul, g_div, g_mod, g_pow, g_neg, g_cmp, g_isN, g_isNotN, g_bool, g_int, g_eq, g_ne, g_inL, g_inF, g_tup, g_lst, g_newL, g_ix, g_slT, g_slL, g_len, g_list, g_listNew, g_tuple, g_addT, g_addL, g_addR, g_addN, g_call, g_rng, asQ_tup, asQ_lst, asQ_fro, asL_lst, asR_lst, at0, at1, at2, at3, at4, eqD_ii]
    refine draws_spec' (by omega) (by omega) (by omega) (by omega) (by omega) (by omega) fun row hl hb => ?_
    refine ⟨_, rfl, by simp [sizeLine]; omega, by omega, rfl, xs ++ row, by simp [hr, hl]; omega, ?_, _, by simp; rfl⟩
    intro r hr2
    rcases List.mem_append.mp hr2 with h | h
    · exact hr' r h
    · exact hb r h
  · rintro ρ S1 ⟨hi, rfl, xs, x4, hr, hr', rfl⟩
    simp at hr
    simp [inEnv, sSeq, sSet, e2, e1, eB, eVar, eC, aCons, aNil, sAsg, gSubM, sRet, sDrop, sIf, mB, sNext, sFor, gNm, srcSeq, srcRng, eMeth, oneA, one, eTup, eLst, eNewL, eIf, tOrM, tAndM, tYesM, got_bind, got_ret, got_iteM, got_ite, got_bad, got_mbad, got_ok, FnQ, g_add, g_sub, g_mul, g_div, g_mod, g_pow, g_neg, g_cmp, g_isN, g_isNotN, g_bool, g_int, g_eq, g_ne, g_inL, g_inF, g_tup, g_lst, g_newL, g_ix, g_slT, g_slL, g_len, g_list, g_listNew, g_tuple, g_addT, g_addL, g_addR, g_addN, g_call, g_rng, asQ_tup, asQ_lst, asQ_fro, asL_lst, asR_lst, at0, at1, at2, at3, at4, eqD_ii, sizeLine]
    exact q xs (by intro e; subst e; simp at hr; omega) hr'
/-! the tape, taken from -/
def Tp (xs : List Int) (t : Nat) (S : Store) : Prop := xs ≠ [] ∧ ∃ p, S[t]? = some (tape xs p)
def Same (t : Nat) (S S' : Store) : Prop := S'.length = S.length ∧ ∀ m, m ≠ t → S'[m]? = S[m]?
def Gr (t : Nat) (S S' : Store) : Prop := S.length ≤ S'.length ∧ ∀ m, m < S.length → m ≠ t → S'[m]? = S[m]?
section
variable {t : Nat} {S S' S'' : Store} {xs : List Int}
theorem Same.refl : Same t S S := ⟨rfl, fun _ _ => rfl⟩
theorem Same.trans (h : Same t S S') (h' : Same t S' S'') : Same t S S'' := ⟨h'.1.trans h.1, fun m hm => (h'.2 m hm).trans (h.2 m hm)⟩
theorem Same.gr (h : Same t S S') : Gr t S S' := ⟨by rw [h.1]; exact Nat.le_refl _, fun m _ hm => h.2 m hm⟩
theorem Gr.refl : Gr t S S := ⟨Nat.le_refl _, fun _ _ _ => rfl⟩
theorem Gr.trans (h : Gr t S S') (h' : Gr t S' S'') : Gr t S S'' := ⟨Nat.le_trans h.1 h'.1, fun m hm hn => (h'.2 m (Nat.lt_of_lt_of_le hm h.1) hn).trans (h.2 m hm hn)⟩
theorem Gr.app {J : Store} : Gr t S (S ++ J) := ⟨by simp, fun m hm _ => List.getElem?_append_left hm⟩
theorem Gr.set {n : Nat} {o : O} (h : S.length ≤ n) (g : Gr t S S') : Gr t S (S'.set n o) := ⟨by simp [g.1], fun m hm hn => by rw [List.getElem?_set_ne (by omega)]; exact g.2 m hm hn⟩
theorem Tp.app {J : Store} (h : Tp xs t S) : Tp xs t (S ++ J) := by
  obtain ⟨h0, p, h⟩ := h
  exact ⟨h0, p, by rw [List.getElem?_append_left (List.getElem?_eq_some_iff.mp h).1]; exact h⟩
theorem Tp.set {n : Nat} {o : O} (h : Tp xs t S) (hn : n ≠ t) : Tp xs t (S.set n o) := by
  obtain ⟨h0, p, h⟩ := h
  exact ⟨h0, p, by rw [List.getElem?_set_ne hn]; exact h⟩
theorem Tp.lt (h : Tp xs t S) : t < S.length := by
  obtain ⟨h0, p, h⟩ := h
  exact (List.getElem?_eq_some_iff.mp h).1
theorem take_spec' {many : Int} {Q : D → Store → Prop} (hT : Tp xs t S) (hm : 0 < many) (q : ∀ r S', 0 ≤ r → r < many → Tp xs t S' → Same t S S' → Q (.int r) S') : Got (m__law_take [.ref t, .int many] S) Q := by
  have ht := hT.lt
  obtain ⟨h0, p, h⟩ := hT
  refine take_spec h h0 hm fun r h1 h2 => q r _ h1 h2 ⟨h0, p + 1, by rw [List.getElem?_set_self ht]⟩ ⟨by simp, fun m hm => ?_⟩
  rw [List.getElem?_set_ne (Ne.symm hm)]
theorem retG {Q : D → Store → Prop} {d : D} (hT : Tp xs t S') (g : Gr t S S') (ht : t < S.length) (hd : ∀ n, d ≠ .ref n) (hr : D.rlt S.length d = true) (q : ∀ S2, Tp xs t S2 → Same t S S2 → Q d S2) : RetT S Q d S' := by
  obtain ⟨h0, p, h⟩ := hT
  have e : S' = S'.take S.length ++ S'.drop S.length := (List.take_append_drop _ _).symm
  rw [e]
  have hl : (S'.take S.length).length = S.length := by simp [g.1]
  have hg : ∀ m, m < S.length → (S'.take S.length)[m]? = S'[m]? := fun m hm => by rw [List.getElem?_take, if_pos hm]
  refine retT_val ⟨hl, fun m hm => ?_⟩ hd hr (q _ ⟨h0, p, by rw [hg _ ht]; exact h⟩ ⟨hl, fun m hm => ?_⟩)
  · rw [hg m hm]
    by_cases e : m = t
    · subst e
      refine .inr ⟨_, h, ?_⟩
      simp [tape, O.rlt, rltL, D.rlt, rltL_ints]
    · exact .inl (g.2 m hm e)
  · by_cases e : m < S.length
    · rw [hg m e]; exact g.2 m e hm
    · rw [List.getElem?_eq_none (by omega), List.getElem?_eq_none (by omega)]
end
end Cm
/-! P3: steps. -/
namespace Cm
open PySem PySem.Spec PyProof.Rows L2 SL
theorem atI_mem {l : List D} {i : Int} (h0 : 0 ≤ i) (h1 : i < l.length) : ∃ x, x ∈ l ∧ atI l i = some x := by
  have hl : i.toNat < l.length := by omega
  refine ⟨l[i.toNat], List.getElem_mem hl, ?_⟩
  unfold L2.atI L2.ixN
  rw [if_pos h0, if_pos (by simpa using h1)]
  exact List.getElem?_eq_getElem hl
def Pl (a b c e : Nat) (w : String) (ns : List Int) : Prop :=
  (w = "hold" ∧ ∃ n, ns = [n] ∧ 0 ≤ n ∧ n ≤ 1000) ∨ (w = "take" ∧ ∃ i, ns = [i] ∧ 0 ≤ i ∧ i < a) ∨ (w = "give" ∧ ∃ i, ns = [i] ∧ 0 ≤ i ∧ i < a) ∨
  (w = "put" ∧ ∃ i n, ns = [i, n] ∧ 0 ≤ i ∧ i < b ∧ 0 ≤ n ∧ n ≤ 99) ∨ (w = "get" ∧ ∃ i, ns = [i] ∧ 0 ≤ i ∧ i < b) ∨ (w = "wait" ∧ ∃ i, ns = [i] ∧ 0 ≤ i ∧ i < c) ∨ (w = "ring" ∧ ∃ i, ns = [i] ∧ 0 ≤ i ∧ i < c) ∨
  (w = "note" ∧ ∃ n, ns = [n] ∧ 0 ≤ n ∧ n ≤ 99) ∨ (w = "tell" ∧ ns = []) ∨ (w = "start" ∧ ∃ i r, ns = [i, r] ∧ 0 ≤ i ∧ i < e ∧ 0 ≤ r ∧ r < 4) ∨
  (w = "stop" ∧ ∃ i, ns = [i] ∧ 0 ≤ i ∧ i ≤ 11) ∨ (w = "free" ∧ ∃ i, ns = [i] ∧ 0 ≤ i ∧ i ≤ 11) ∨ (w = "cut" ∧ ∃ i, ns = [i] ∧ 0 ≤ i ∧ i ≤ 11)
theorem plain_spec {S : Store} {t : Nat} {xs : List Int} {a b c e : Nat} {Q : D → Store → Prop} (hT : Tp xs t S) (q : ∀ w ns S', Pl a b c e w ns → Tp xs t S' → Same t S S' → Q (.tup (.str (Str.ofString w) :: ns.map D.int)) S') :
    Got (m__law_plain [.ref t, .tup [.int a, .int b, .int c, .int e]] S) Q := by
  have ht := hT.lt
  unfold m__law_plain
  apply got_fnT
  have fin : ∀ {S' : Store} (w : String) (ns : List Int), Pl a b c e w ns → Tp xs t S' → Gr t S S' → RetT S Q (.tup (.str (Str.ofString w) :: ns.map D.int)) S' := fun w ns hp hT' g => by
    refine retG hT' g ht (by intro n; simp) ?_ fun S2 h1 h2 => q w ns S2 hp h1 h2
    show (true && rltL S.length (ns.map D.int)) = true
    rw [rltL_ints]; rfl
  have tk : ∀ {S0 : Store} {many : Int} {Q' : D → Store → Prop}, Tp xs t S0 → Gr t S S0 → 0 < many → (∀ r S', 0 ≤ r → r < many → Tp xs t S' → Gr t S S' → Q' (.int r) S') → Got (m__law_take [.ref t, .int many] S0) Q' :=
    fun h g hm q' => take_spec' h hm fun r S' a1 a2 a3 a4 => q' r S' a1 a2 a3 (g.trans a4.gr)
  have noteK : ∀ {S0 : Store} {n : Int}, Tp xs t S0 → Gr t S S0 → 0 ≤ n → n ≤ 99 → Got (m__law_take [.ref t, .int 3] S0) fun a1 S' => Got (ixM (.lst [.int n, .int 99, .int 7]) a1 S') fun a S' => RetT S Q (.tup [.str (Str.ofString "note"), a]) S' :=
    fun {S0 n} h g h0 h1 => tk h g (by omega) fun r S' r0 r1 hT' hg' => by
      obtain ⟨x, hx, e⟩ := atI_int (xs := [n, 99, 7]) r0 (by simpa using r1)
      refine g_ix.mpr ⟨_, rfl, _, e, fin "note" [x] ?_ hT' hg'⟩
      simp at hx
      simp [Pl]
      omega
  have note6 : ∀ {S0 : Store}, Tp xs t S0 → Gr t S S0 → Got (m__law_take [.ref t, .int 6] S0) fun a S' => Got (m__law_take [.ref t, .int 3] S') fun a1 S' => Got (ixM (.lst [a, .int 99, .int 7]) a1 S') fun a S' => RetT S Q (.tup [.str (Str.ofString "note"), a]) S' :=
    fun h g => tk h g (by omega) fun r S' r0 r1 hT' hg' => noteK hT' hg' r0 (by omega)
  have elev : ∀ {S0 : Store} {n : Int} (w : String), (∀ i : Int, 0 ≤ i → i ≤ 11 → Pl a b c e w [i]) → Tp xs t S0 → Gr t S S0 → 0 ≤ n → n < 6 → Got (m__law_take [.ref t, .int 3] S0) fun a1 S' => Got (ixM (.lst [.int n, .int n, .int 11]) a1 S') fun a S' => RetT S Q (.tup [.str (Str.ofString w), a]) S' :=
    fun {S0 n} w hw h g h0 h1 => tk h g (by omega) fun r S' r0 r1 hT' hg' => by
      obtain ⟨x, hx, e⟩ := atI_int (xs := [n, n, 11]) r0 (by simpa using r1)
      refine g_ix.mpr ⟨_, rfl, _, e, fin w [x] (hw x ?_ ?_) hT' hg'⟩
      all_goals simp at hx; omega
  unfold b__law_plain
  simp only [sSeq, got_bind]
  simp [inEnv, sSeq, sSet, e2, e1, eB, eVar, eC, aCons, aNil, sAsg, gSubM, sRet, sDrop, sIf, mB, sNext, sFor, gNm, srcSeq, srcRng, eMeth, oneA, one, eTup, eLst, eNewL, eIf, tOrM, tAndM, tYesM, got_bind, got_ret, got_iteM, got_ite, got_bad, got_mbad, got_ok, FnQ, g_add, g_sub, g_mul, g_div, g_mod, g_pow, g_neg, g_cmp, g_isN, g_isNotN, g_bool, g_int, g_eq, g_ne, g_inL, g_inF, g_tup, g_lst, g_newL, g_ix, g_slT, g_slL, g_len, g_list, g_listNew, g_tuple, g_addT, g_addL, g_addR, g_addN, g_call, g_rng, asQ_tup, asQ_lst, asQ_fro, asL_lst, asR_lst, at0, at1, at2, at3, at4, eqD_ii, gSeqM, gConsM, gNilM, sizeLine]
  refine take_spec' hT (by omega) fun r S1 h0 h1 hT1 hs1 => ?_
  obtain ⟨w, hw, ew⟩ := atI_mem (l := [D.str (Str.ofString "hold"), D.str (Str.ofString "take"), D.str (Str.ofString "give"),
            D.str (Str.ofString "put"), D.str (Str.ofString "get"), D.str (Str.ofString "wait"),
            D.str (Str.ofString "ring"), D.str (Str.ofString "note"), D.str (Str.ofString "tell"),
            D.str (Str.ofString "start"), D.str (Str.ofString "stop"), D.str (Str.ofString "free"),
            D.str (Str.ofString "cut"), D.str (Str.ofString "hold"), D.str (Str.ofString "take"),
            D.str (Str.ofString "give"), D.str (Str.ofString "note"), D.str (Str.ofString "hold")]) h0 (by simpa using h1)
  simp only [g_ix, asQ_lst, Option.some.injEq, exists_eq_left', ew]
  simp at hw
  have hw : w = D.str (Str.ofString "hold") ∨ w = D.str (Str.ofString "take") ∨ w = D.str (Str.ofString "give") ∨ w = D.str (Str.ofString "put") ∨ w = D.str (Str.ofString "get") ∨ w = D.str (Str.ofString "wait") ∨ w = D.str (Str.ofString "ring") ∨ w = D.str (Str.ofString "note") ∨ w = D.str (Str.ofString "tell") ∨ w = D.str (Str.ofString "start") ∨ w = D.str (Str.ofString "stop") ∨ w = D.str (Str.ofString "free") ∨ w = D.str (Str.ofString "cut") := by
    rcases hw with h | h | h | h | h | h | h | h | h | h | h | h | h | h | h | h | h | h
    · exact .inl h
    · exact .inr (.inl h)
    · exact .inr (.inr (.inl h))
    · exact .inr (.inr (.inr (.inl h)))
    · exact .inr (.inr (.inr (.inr (.inl h))))
    · exact .inr (.inr (.inr (.inr (.inr (.inl h)))))
    · exact .inr (.inr (.inr (.inr (.inr (.inr (.inl h))))))
    · exact .inr (.inr (.inr (.inr (.inr (.inr (.inr (.inl h)))))))
    · exact .inr (.inr (.inr (.inr (.inr (.inr (.inr (.inr (.inl h))))))))
    · exact .inr (.inr (.inr (.inr (.inr (.inr (.inr (.inr (.inr (.inl h)))))))))
    · exact .inr (.inr (.inr (.inr (.inr (.inr (.inr (.inr (.inr (.inr (.inl h))))))))))
    · exact .inr (.inr (.inr (.inr (.inr (.inr (.inr (.inr (.inr (.inr (.inr (.inl h)))))))))))
    · exact .inr (.inr (.inr (.inr (.inr (.inr (.inr (.inr (.inr (.inr (.inr (.inr (h))))))))))))
    · exact .inl h
    · exact .inr (.inl h)
    · exact .inr (.inr (.inl h))
    · exact .inr (.inr (.inr (.inr (.inr (.inr (.inr (.inl h)))))))
    · exact .inl h
  have hT2 : ∀ {o : O}, Tp xs t (S1 ++ [o]) := fun {o} => hT1.app
  have hg2 : ∀ {o : O}, Gr t S (S1 ++ [o]) := fun {o} => hs1.gr.trans Gr.app
  rcases hw with hw | hw | hw | hw | hw | hw | hw | hw | hw | hw | hw | hw | hw
  · clear h0 h1
    subst hw
    simp [eDisp, mPairs, inEnv, sSeq, sSet, e2, e1, eB, eVar, eC, aCons, aNil, sAsg, gSubM, sRet, sDrop, sIf, mB, sNext, sFor, gNm, srcSeq, srcRng, eMeth, oneA, one, eTup, eLst, eNewL, eIf, tOrM, tAndM, tYesM, got_bind, got_ret, got_iteM, got_ite, got_bad, got_mbad, got_ok, FnQ, g_add, g_sub, g_mul, g_div, g_mod, g_pow, g_neg, g_cmp, g_isN, g_isNotN, g_bool, g_int, g_eq, g_ne, g_inL, g_inF, g_tup, g_lst, g_newL, g_ix, g_slT, g_slL, g_len, g_list, g_listNew, g_tuple, g_addT, g_addL, g_addR, g_addN, g_call, g_rng, asQ_tup, asQ_lst, asQ_fro, asL_lst, asR_lst, at0, at1, at2, at3, at4, eqD_ii, eqD_str, g_disp, keyPs, keyD, mergeD, putD, eGet, lookD, isDct, getM, valD, beq_str, ofStr_eq, anyF, eqF_str, flD]
    refine tk hT2 hg2 (by omega) fun n S2 n0 n1 hT3 hg3 => ?_
    rw [g_mul]
    refine ⟨mulOk_of (by omega) (by omega), tk hT3 hg3 (by omega) fun r S' r0 r1 hT' hg' => ?_⟩
    obtain ⟨x, hx, e⟩ := atI_int (xs := [n, 1, 0, 2, 1000, 10 * n]) r0 (by simpa using r1)
    refine g_ix.mpr ⟨_, rfl, _, e, fin "hold" [x] ?_ hT' hg'⟩
    simp at hx
    simp [Pl]
    omega
  · clear h0 h1
    subst hw
    simp [eDisp, mPairs, inEnv, sSeq, sSet, e2, e1, eB, eVar, eC, aCons, aNil, sAsg, gSubM, sRet, sDrop, sIf, mB, sNext, sFor, gNm, srcSeq, srcRng, eMeth, oneA, one, eTup, eLst, eNewL, eIf, tOrM, tAndM, tYesM, got_bind, got_ret, got_iteM, got_ite, got_bad, got_mbad, got_ok, FnQ, g_add, g_sub, g_mul, g_div, g_mod, g_pow, g_neg, g_cmp, g_isN, g_isNotN, g_bool, g_int, g_eq, g_ne, g_inL, g_inF, g_tup, g_lst, g_newL, g_ix, g_slT, g_slL, g_len, g_list, g_listNew, g_tuple, g_addT, g_addL, g_addR, g_addN, g_call, g_rng, asQ_tup, asQ_lst, asQ_fro, asL_lst, asR_lst, at0, at1, at2, at3, at4, eqD_ii, eqD_str, g_disp, keyPs, keyD, mergeD, putD, eGet, lookD, isDct, getM, valD, beq_str, ofStr_eq, anyF, eqF_str, flD]
    by_cases h : a = 0
    · exact .inr ⟨h, note6 hT2 hg2⟩
    · exact .inl ⟨h, tk hT2 hg2 (by omega) fun r S' h0 h1 hT' hg' => fin "take" [r] (by simp [Pl]; omega) hT' hg'⟩
  · clear h0 h1
    subst hw
    simp [eDisp, mPairs, inEnv, sSeq, sSet, e2, e1, eB, eVar, eC, aCons, aNil, sAsg, gSubM, sRet, sDrop, sIf, mB, sNext, sFor, gNm, srcSeq, srcRng, eMeth, oneA, one, eTup, eLst, eNewL, eIf, tOrM, tAndM, tYesM, got_bind, got_ret, got_iteM, got_ite, got_bad, got_mbad, got_ok, FnQ, g_add, g_sub, g_mul, g_div, g_mod, g_pow, g_neg, g_cmp, g_isN, g_isNotN, g_bool, g_int, g_eq, g_ne, g_inL, g_inF, g_tup, g_lst, g_newL, g_ix, g_slT, g_slL, g_len, g_list, g_listNew, g_tuple, g_addT, g_addL, g_addR, g_addN, g_call, g_rng, asQ_tup, asQ_lst, asQ_fro, asL_lst, asR_lst, at0, at1, at2, at3, at4, eqD_ii, eqD_str, g_disp, keyPs, keyD, mergeD, putD, eGet, lookD, isDct, getM, valD, beq_str, ofStr_eq, anyF, eqF_str, flD]
    by_cases h : a = 0
    · exact .inr ⟨h, note6 hT2 hg2⟩
    · exact .inl ⟨h, tk hT2 hg2 (by omega) fun r S' h0 h1 hT' hg' => fin "give" [r] (by simp [Pl]; omega) hT' hg'⟩
  · clear h0 h1
    subst hw
    simp [eDisp, mPairs, inEnv, sSeq, sSet, e2, e1, eB, eVar, eC, aCons, aNil, sAsg, gSubM, sRet, sDrop, sIf, mB, sNext, sFor, gNm, srcSeq, srcRng, eMeth, oneA, one, eTup, eLst, eNewL, eIf, tOrM, tAndM, tYesM, got_bind, got_ret, got_iteM, got_ite, got_bad, got_mbad, got_ok, FnQ, g_add, g_sub, g_mul, g_div, g_mod, g_pow, g_neg, g_cmp, g_isN, g_isNotN, g_bool, g_int, g_eq, g_ne, g_inL, g_inF, g_tup, g_lst, g_newL, g_ix, g_slT, g_slL, g_len, g_list, g_listNew, g_tuple, g_addT, g_addL, g_addR, g_addN, g_call, g_rng, asQ_tup, asQ_lst, asQ_fro, asL_lst, asR_lst, at0, at1, at2, at3, at4, eqD_ii, eqD_str, g_disp, keyPs, keyD, mergeD, putD, eGet, lookD, isDct, getM, valD, beq_str, ofStr_eq, anyF, eqF_str, flD]
    by_cases h : b = 0
    · exact .inr ⟨h, note6 hT2 hg2⟩
    · refine .inl ⟨h, tk hT2 hg2 (by omega) fun i S2 i0 i1 hT3 hg3 => tk hT3 hg3 (by omega) fun r S' r0 r1 hT' hg' => ?_⟩
      obtain ⟨x, hx, e⟩ := atI_int (xs := [0, 1, 2, 99]) r0 (by simpa using r1)
      refine g_ix.mpr ⟨_, rfl, _, e, fin "put" [i, x] (.inr (.inr (.inr (.inl ⟨rfl, i, x, rfl, i0, i1, ?_, ?_⟩)))) hT' hg'⟩
      all_goals simp at hx; omega
  · clear h0 h1
    subst hw
    simp [eDisp, mPairs, inEnv, sSeq, sSet, e2, e1, eB, eVar, eC, aCons, aNil, sAsg, gSubM, sRet, sDrop, sIf, mB, sNext, sFor, gNm, srcSeq, srcRng, eMeth, oneA, one, eTup, eLst, eNewL, eIf, tOrM, tAndM, tYesM, got_bind, got_ret, got_iteM, got_ite, got_bad, got_mbad, got_ok, FnQ, g_add, g_sub, g_mul, g_div, g_mod, g_pow, g_neg, g_cmp, g_isN, g_isNotN, g_bool, g_int, g_eq, g_ne, g_inL, g_inF, g_tup, g_lst, g_newL, g_ix, g_slT, g_slL, g_len, g_list, g_listNew, g_tuple, g_addT, g_addL, g_addR, g_addN, g_call, g_rng, asQ_tup, asQ_lst, asQ_fro, asL_lst, asR_lst, at0, at1, at2, at3, at4, eqD_ii, eqD_str, g_disp, keyPs, keyD, mergeD, putD, eGet, lookD, isDct, getM, valD, beq_str, ofStr_eq, anyF, eqF_str, flD]
    by_cases h : b = 0
    · exact .inr ⟨h, note6 hT2 hg2⟩
    · exact .inl ⟨h, tk hT2 hg2 (by omega) fun r S' h0 h1 hT' hg' => fin "get" [r] (by simp [Pl]; omega) hT' hg'⟩
  · clear h0 h1
    subst hw
    simp [eDisp, mPairs, inEnv, sSeq, sSet, e2, e1, eB, eVar, eC, aCons, aNil, sAsg, gSubM, sRet, sDrop, sIf, mB, sNext, sFor, gNm, srcSeq, srcRng, eMeth, oneA, one, eTup, eLst, eNewL, eIf, tOrM, tAndM, tYesM, got_bind, got_ret, got_iteM, got_ite, got_bad, got_mbad, got_ok, FnQ, g_add, g_sub, g_mul, g_div, g_mod, g_pow, g_neg, g_cmp, g_isN, g_isNotN, g_bool, g_int, g_eq, g_ne, g_inL, g_inF, g_tup, g_lst, g_newL, g_ix, g_slT, g_slL, g_len, g_list, g_listNew, g_tuple, g_addT, g_addL, g_addR, g_addN, g_call, g_rng, asQ_tup, asQ_lst, asQ_fro, asL_lst, asR_lst, at0, at1, at2, at3, at4, eqD_ii, eqD_str, g_disp, keyPs, keyD, mergeD, putD, eGet, lookD, isDct, getM, valD, beq_str, ofStr_eq, anyF, eqF_str, flD]
    by_cases h : c = 0
    · exact .inr ⟨h, note6 hT2 hg2⟩
    · exact .inl ⟨h, tk hT2 hg2 (by omega) fun r S' h0 h1 hT' hg' => fin "wait" [r] (by simp [Pl]; omega) hT' hg'⟩
  · clear h0 h1
    subst hw
    simp [eDisp, mPairs, inEnv, sSeq, sSet, e2, e1, eB, eVar, eC, aCons, aNil, sAsg, gSubM, sRet, sDrop, sIf, mB, sNext, sFor, gNm, srcSeq, srcRng, eMeth, oneA, one, eTup, eLst, eNewL, eIf, tOrM, tAndM, tYesM, got_bind, got_ret, got_iteM, got_ite, got_bad, got_mbad, got_ok, FnQ, g_add, g_sub, g_mul, g_div, g_mod, g_pow, g_neg, g_cmp, g_isN, g_isNotN, g_bool, g_int, g_eq, g_ne, g_inL, g_inF, g_tup, g_lst, g_newL, g_ix, g_slT, g_slL, g_len, g_list, g_listNew, g_tuple, g_addT, g_addL, g_addR, g_addN, g_call, g_rng, asQ_tup, asQ_lst, asQ_fro, asL_lst, asR_lst, at0, at1, at2, at3, at4, eqD_ii, eqD_str, g_disp, keyPs, keyD, mergeD, putD, eGet, lookD, isDct, getM, valD, beq_str, ofStr_eq, anyF, eqF_str, flD]
    by_cases h : c = 0
    · exact .inr ⟨h, note6 hT2 hg2⟩
    · exact .inl ⟨h, tk hT2 hg2 (by omega) fun r S' h0 h1 hT' hg' => fin "ring" [r] (by simp [Pl]; omega) hT' hg'⟩
  · clear h0 h1
    subst hw
    simp [eDisp, mPairs, inEnv, sSeq, sSet, e2, e1, eB, eVar, eC, aCons, aNil, sAsg, gSubM, sRet, sDrop, sIf, mB, sNext, sFor, gNm, srcSeq, srcRng, eMeth, oneA, one, eTup, eLst, eNewL, eIf, tOrM, tAndM, tYesM, got_bind, got_ret, got_iteM, got_ite, got_bad, got_mbad, got_ok, FnQ, g_add, g_sub, g_mul, g_div, g_mod, g_pow, g_neg, g_cmp, g_isN, g_isNotN, g_bool, g_int, g_eq, g_ne, g_inL, g_inF, g_tup, g_lst, g_newL, g_ix, g_slT, g_slL, g_len, g_list, g_listNew, g_tuple, g_addT, g_addL, g_addR, g_addN, g_call, g_rng, asQ_tup, asQ_lst, asQ_fro, asL_lst, asR_lst, at0, at1, at2, at3, at4, eqD_ii, eqD_str, g_disp, keyPs, keyD, mergeD, putD, eGet, lookD, isDct, getM, valD, beq_str, ofStr_eq, anyF, eqF_str, flD]
    exact note6 hT2 hg2
  · clear h0 h1
    subst hw
    simp [eDisp, mPairs, inEnv, sSeq, sSet, e2, e1, eB, eVar, eC, aCons, aNil, sAsg, gSubM, sRet, sDrop, sIf, mB, sNext, sFor, gNm, srcSeq, srcRng, eMeth, oneA, one, eTup, eLst, eNewL, eIf, tOrM, tAndM, tYesM, got_bind, got_ret, got_iteM, got_ite, got_bad, got_mbad, got_ok, FnQ, g_add, g_sub, g_mul, g_div, g_mod, g_pow, g_neg, g_cmp, g_isN, g_isNotN, g_bool, g_int, g_eq, g_ne, g_inL, g_inF, g_tup, g_lst, g_newL, g_ix, g_slT, g_slL, g_len, g_list, g_listNew, g_tuple, g_addT, g_addL, g_addR, g_addN, g_call, g_rng, asQ_tup, asQ_lst, asQ_fro, asL_lst, asR_lst, at0, at1, at2, at3, at4, eqD_ii, eqD_str, g_disp, keyPs, keyD, mergeD, putD, eGet, lookD, isDct, getM, valD, beq_str, ofStr_eq, anyF, eqF_str, flD]
    exact tk hT2 hg2 (by omega) fun i S2 i0 i1 hT3 hg3 => fin "tell" [] (by simp [Pl]) hT3 hg3
  · clear h0 h1
    subst hw
    simp [eDisp, mPairs, inEnv, sSeq, sSet, e2, e1, eB, eVar, eC, aCons, aNil, sAsg, gSubM, sRet, sDrop, sIf, mB, sNext, sFor, gNm, srcSeq, srcRng, eMeth, oneA, one, eTup, eLst, eNewL, eIf, tOrM, tAndM, tYesM, got_bind, got_ret, got_iteM, got_ite, got_bad, got_mbad, got_ok, FnQ, g_add, g_sub, g_mul, g_div, g_mod, g_pow, g_neg, g_cmp, g_isN, g_isNotN, g_bool, g_int, g_eq, g_ne, g_inL, g_inF, g_tup, g_lst, g_newL, g_ix, g_slT, g_slL, g_len, g_list, g_listNew, g_tuple, g_addT, g_addL, g_addR, g_addN, g_call, g_rng, asQ_tup, asQ_lst, asQ_fro, asL_lst, asR_lst, at0, at1, at2, at3, at4, eqD_ii, eqD_str, g_disp, keyPs, keyD, mergeD, putD, eGet, lookD, isDct, getM, valD, beq_str, ofStr_eq, anyF, eqF_str, flD]
    by_cases h : e = 0
    · exact .inr ⟨h, note6 hT2 hg2⟩
    · refine .inl ⟨h, tk hT2 hg2 (by omega) fun i S2 i0 i1 hT3 hg3 => ?_⟩
      rw [g_cmp, g_bool]
      split
      · exact note6 hT3 hg3
      · refine tk hT3 hg3 (by omega) fun n S3 n0 n1 hT4 hg4 => tk hT4 hg4 (by omega) fun r S' r0 r1 hT' hg' => fin "start" [n, r] ?_ hT' hg'
        exact .inr (.inr (.inr (.inr (.inr (.inr (.inr (.inr (.inr (.inl ⟨rfl, n, r, rfl, n0, n1, r0, r1⟩)))))))))
  · clear h0 h1
    subst hw
    simp [eDisp, mPairs, inEnv, sSeq, sSet, e2, e1, eB, eVar, eC, aCons, aNil, sAsg, gSubM, sRet, sDrop, sIf, mB, sNext, sFor, gNm, srcSeq, srcRng, eMeth, oneA, one, eTup, eLst, eNewL, eIf, tOrM, tAndM, tYesM, got_bind, got_ret, got_iteM, got_ite, got_bad, got_mbad, got_ok, FnQ, g_add, g_sub, g_mul, g_div, g_mod, g_pow, g_neg, g_cmp, g_isN, g_isNotN, g_bool, g_int, g_eq, g_ne, g_inL, g_inF, g_tup, g_lst, g_newL, g_ix, g_slT, g_slL, g_len, g_list, g_listNew, g_tuple, g_addT, g_addL, g_addR, g_addN, g_call, g_rng, asQ_tup, asQ_lst, asQ_fro, asL_lst, asR_lst, at0, at1, at2, at3, at4, eqD_ii, eqD_str, g_disp, keyPs, keyD, mergeD, putD, eGet, lookD, isDct, getM, valD, beq_str, ofStr_eq, anyF, eqF_str, flD]
    exact tk hT2 hg2 (by omega) fun i S2 i0 i1 hT3 hg3 => elev "stop" (by intro i; simp [Pl]; omega) hT3 hg3 i0 i1
  · clear h0 h1
    subst hw
    simp [eDisp, mPairs, inEnv, sSeq, sSet, e2, e1, eB, eVar, eC, aCons, aNil, sAsg, gSubM, sRet, sDrop, sIf, mB, sNext, sFor, gNm, srcSeq, srcRng, eMeth, oneA, one, eTup, eLst, eNewL, eIf, tOrM, tAndM, tYesM, got_bind, got_ret, got_iteM, got_ite, got_bad, got_mbad, got_ok, FnQ, g_add, g_sub, g_mul, g_div, g_mod, g_pow, g_neg, g_cmp, g_isN, g_isNotN, g_bool, g_int, g_eq, g_ne, g_inL, g_inF, g_tup, g_lst, g_newL, g_ix, g_slT, g_slL, g_len, g_list, g_listNew, g_tuple, g_addT, g_addL, g_addR, g_addN, g_call, g_rng, asQ_tup, asQ_lst, asQ_fro, asL_lst, asR_lst, at0, at1, at2, at3, at4, eqD_ii, eqD_str, g_disp, keyPs, keyD, mergeD, putD, eGet, lookD, isDct, getM, valD, beq_str, ofStr_eq, anyF, eqF_str, flD]
    exact tk hT2 hg2 (by omega) fun i S2 i0 i1 hT3 hg3 => elev "free" (by intro i; simp [Pl]; omega) hT3 hg3 i0 i1
  · clear h0 h1
    subst hw
    simp [eDisp, mPairs, inEnv, sSeq, sSet, e2, e1, eB, eVar, eC, aCons, aNil, sAsg, gSubM, sRet, sDrop, sIf, mB, sNext, sFor, gNm, srcSeq, srcRng, eMeth, oneA, one, eTup, eLst, eNewL, eIf, tOrM, tAndM, tYesM, got_bind, got_ret, got_iteM, got_ite, got_bad, got_mbad, got_ok, FnQ, g_add, g_sub, g_mul, g_div, g_mod, g_pow, g_neg, g_cmp, g_isN, g_isNotN, g_bool, g_int, g_eq, g_ne, g_inL, g_inF, g_tup, g_lst, g_newL, g_ix, g_slT, g_slL, g_len, g_list, g_listNew, g_tuple, g_addT, g_addL, g_addR, g_addN, g_call, g_rng, asQ_tup, asQ_lst, asQ_fro, asL_lst, asR_lst, at0, at1, at2, at3, at4, eqD_ii, eqD_str, g_disp, keyPs, keyD, mergeD, putD, eGet, lookD, isDct, getM, valD, beq_str, ofStr_eq, anyF, eqF_str, flD]
    exact tk hT2 hg2 (by omega) fun i S2 i0 i1 hT3 hg3 => elev "cut" (by intro i; simp [Pl]; omega) hT3 hg3 i0 i1
end Cm
/-! P4: plans. -/
namespace Cm
open PySem PySem.Spec PyProof.Rows L2 SL
inductive Tr where
  | plain (w : String) (ns : List Int)
  | loop (n : Int) (ss : List Tr)
  | guard (ss os : List Tr)
  | case (ss os : List Tr)
abbrev W (s : String) : D := .str (Str.ofString s)
mutual
def enc : Tr → D
  | .plain w ns => .tup (W w :: ns.map D.int)
  | .loop n ss => .tup [W "loop", .int n, .tup (encL ss)]
  | .guard ss os => .tup [W "guard", .tup (encL ss), .tup (encL os)]
  | .case ss os => .tup [W "case", .tup (encL ss), .tup (encL os)]
def encL : List Tr → List D
  | [] => []
  | s :: ss => enc s :: encL ss
end
mutual
def wt : Tr → Int
  | .plain _ _ => 1
  | .loop n ss => 1 + n * wtL ss
  | .guard ss os => 1 + wtL ss + wtL os
  | .case ss os => 1 + wtL ss + wtL os
def wtL : List Tr → Int
  | [] => 0
  | s :: ss => wt s + wtL ss
end
def OkL (a b c e : Nat) : Nat → List Tr → Prop
  | 0, ss => ss = []
  | k + 1, ss => ss.length ≤ 24 ∧ ∀ s ∈ ss, match s with
    | .plain w ns => Pl a b c e w ns
    | .loop n is => 0 ≤ n ∧ n < 4 ∧ OkL a b c e k is
    | .guard is os => OkL a b c e k is ∧ OkL a b c e k os
    | .case is os => OkL a b c e k is ∧ OkL a b c e k os
def Ok1 (a b c e k : Nat) (s : Tr) : Prop := match s with
    | .plain w ns => Pl a b c e w ns
    | .loop n is => 0 ≤ n ∧ n < 4 ∧ OkL a b c e k is
    | .guard is os => OkL a b c e k is ∧ OkL a b c e k os
    | .case is os => OkL a b c e k is ∧ OkL a b c e k os
theorem encL_eq : ∀ ss : List Tr, encL ss = ss.map enc
  | [] => rfl
  | s :: ss => by rw [encL, encL_eq ss]; rfl
theorem OkL.mk {a b c e k : Nat} {ss : List Tr} (h : ss.length ≤ 24) (h' : ∀ s ∈ ss, Ok1 a b c e k s) : OkL a b c e (k + 1) ss := ⟨h, h'⟩
mutual
theorem enc_rlt {n : Nat} : ∀ s : Tr, D.rlt n (enc s) = true
  | .plain w ns => by
    show (true && rltL n (ns.map D.int)) = true
    rw [rltL_ints]; rfl
  | .loop m ss => by simp [enc, D.rlt, rltL, encL_rlt ss]
  | .guard ss os => by simp [enc, D.rlt, rltL, encL_rlt ss, encL_rlt os]
  | .case ss os => by simp [enc, D.rlt, rltL, encL_rlt ss, encL_rlt os]
theorem encL_rlt {n : Nat} : ∀ ss : List Tr, rltL n (encL ss) = true
  | [] => rfl
  | s :: ss => by simp [encL, rltL, enc_rlt s, encL_rlt ss]
end
def StI (t : Nat) (xs : List Int) (a b c e j : Nat) (deep most : Int) (many : Nat) (S : Store) (i : Nat) (ρ : Env') (S' : Store) : Prop :=
  i ≤ many ∧ Tp xs t S' ∧ Gr t S S' ∧ ∃ (f : Nat) (ss : List Tr) (x5 x6 x7 x8 x9 : Option D), S.length ≤ f ∧ S'[f]? = some (.lst (encL ss)) ∧ ss.length ≤ 3 * i ∧ (∀ s ∈ ss, Ok1 a b c e j s) ∧
      ρ = [some (.ref t), some (.tup [.int a, .int b, .int c, .int e]), some (.int deep), some (.int most), some (.ref f), x5, x6, x7, x8, x9]
theorem encL_app : ∀ {ss ts : List Tr}, encL (ss ++ ts) = encL ss ++ encL ts := by
  intro ss ts
  simp [encL_eq]
theorem steps_spec {t : Nat} {xs : List Int} {a b c e : Nat} : ∀ (j : Nat) {S : Store} {Q : D → Store → Prop} {deep most : Int}, 1 ≤ j → deep = 5 - j → 0 ≤ most → most ≤ 8 → Tp xs t S →
    (∀ ss S', OkL a b c e j ss → Tp xs t S' → Same t S S' → Q (.tup (encL ss)) S') →
    Got (m__law_steps (j + 3) [.ref t, .tup [.int a, .int b, .int c, .int e], .int deep, .int most] S) Q
  | 0, _, _, _, _, hj, _, _, _, _, _ => absurd hj (by omega)
  | j + 1, S, Q, deep, most, hj, hd, hm0, hm, hT, q => by
    have ht := hT.lt
    show Got (fnT 10 (b__law_steps (m__law_steps (j + 3))) _ S) Q
    apply got_fnT
    have tk : ∀ {S0 : Store} {many : Int} {Q' : D → Store → Prop}, Tp xs t S0 → Gr t S S0 → 0 < many → (∀ r S', 0 ≤ r → r < many → Tp xs t S' → Same t S0 S' → Gr t S S' → Q' (.int r) S') → Got (m__law_take [.ref t, .int many] S0) Q' :=
      fun h g hm q' => take_spec' h hm fun r S' a1 a2 a3 a4 => q' r S' a1 a2 a3 a4 (g.trans a4.gr)
    unfold b__law_steps
    simp [inEnv, sSeq, sSet, e2, e1, eB, eVar, eC, aCons, aNil, sAsg, gSubM, sRet, sDrop, sIf, mB, sNext, sFor, gNm, srcSeq, srcRng, eMeth, oneA, one, eTup, eLst, eNewL, eIf, tOrM, tAndM, tYesM, got_bind, got_ret, got_iteM, got_ite, got_bad, got_mbad, got_ok, FnQ, g_add, g_sub, g_mul, g_div, g_mod, g_pow, g_neg, g_cmp, g_isN, g_isNotN, g_bool, g_int, g_eq, g_ne, g_inL, g_inF, g_tup, g_lst, g_newL, g_ix, g_slT, g_slL, g_len, g_list, g_listNew, g_tuple, g_addT, g_addL, g_addR, g_addN, g_call, g_rng, asQ_tup, asQ_lst, asQ_fro, asL_lst, asR_lst, at0, at1, at2, at3, at4, eqD_ii, sizeLine]
    refine tk hT.app Gr.app (by omega) fun many S1 m0 m1 hT1 hs1 hg1 => ?_
    obtain ⟨many, rfl⟩ := Int.eq_ofNat_of_zero_le m0
    simp only [g_rng]
    refine ⟨⟨by omega, by omega, by simp [sizeLine]; omega⟩, got_for _ (StI t xs a b c e j deep most many S)
      ⟨by omega, hT1, hg1, S.length, [], _, _, _, _, _, Nat.le_refl _, by rw [hs1.2 _ (by omega)]; simp [encL], by simp, by simp, rfl⟩ (fun _ _ _ _ => trivial) ?_ ?_⟩
    · rintro i d ρ S2 hd1 ⟨hi, hT2, hg2, f, ss, x5, x6, x7, x8, x9, hf, hS2, hl, hok, rfl⟩
      have hi' : i < many := by
        have := (List.getElem?_eq_some_iff.mp hd1).1
        simpa using this
      rw [List.getElem?_map, List.getElem?_range (by simpa using hi')] at hd1
      cases hd1
      simp [inEnv, sSeq, sSet, e2, e1, eB, eVar, eC, aCons, aNil, sAsg, gSubM, sRet, sDrop, sIf, mB, sNext, sFor, gNm, srcSeq, srcRng, eMeth, oneA, one, eTup, eLst, eNewL, eIf, tOrM, tAndM, tYesM, got_bind, got_ret, got_iteM, got_ite, got_bad, got_mbad, got_ok, FnQ, g_add, g_sub, g_mul, g_div, g_mod, g_pow, g_neg, g_cmp, g_isN, g_isNotN, g_bool, g_int, g_eq, g_ne, g_inL, g_inF, g_tup, g_lst, g_newL, g_ix, g_slT, g_slL, g_len, g_list, g_listNew, g_tuple, g_addT, g_addL, g_addR, g_addN, g_call, g_rng, asQ_tup, asQ_lst, asQ_fro, asL_lst, asR_lst, at0, at1, at2, at3, at4, eqD_ii]
      refine tk hT2 hg2 (by omega) fun way S3 w0 w1 hT3 hs3 hg3 => ?_
      have hft : f ≠ t := by omega
      have ap : ∀ {S' : Store} (s : Tr) {y5 y6 y7 y8 y9 : Option D}, S'[f]? = some (.lst (encL ss)) → Tp xs t S' → Gr t S S' → Ok1 a b c e j s →
          Got (appM (.ref f) (enc s) S') fun _ S'' => StI t xs a b c e j deep most many S (i + 1) [some (.ref t), some (.tup [.int a, .int b, .int c, .int e]), some (.int deep), some (.int most), some (.ref f), y5, y6, y7, y8, y9] S'' := by
        intro S' s y5 y6 y7 y8 y9 h1 h2 h3 h4
        rw [g_app h1]
        refine ⟨by simp [encL_eq, sizeLine]; omega, by omega, h2.set hft, h3.set hf, f, ss ++ [s], _, _, _, _, _, hf, ?_, by simp; omega, ?_, rfl⟩
        · rw [List.getElem?_set_self (List.getElem?_eq_some_iff.mp h1).1, encL_app]; rfl
        · intro s' hs'
          rcases List.mem_append.mp hs' with h | h
          · exact hok _ h
          · rw [List.mem_singleton.mp h]; exact h4
      have hS3 : S3[f]? = some (.lst (encL ss)) := by rw [hs3.2 _ hft]; exact hS2
      have pl : ∀ {y5 y6 y7 y8 y9 : Option D}, Got (m__law_plain [.ref t, .tup [.int a, .int b, .int c, .int e]] S3) fun d S' => Got (appM (.ref f) d S') fun _ S'' => StI t xs a b c e j deep most many S (i + 1) [some (.ref t), some (.tup [.int a, .int b, .int c, .int e]), some (.int deep), some (.int most), some (.ref f), y5, y6, y7, y8, y9] S'' :=
        plain_spec hT3 fun w ns S4 hp hT4 hs4 => ap (.plain w ns) (by rw [hs4.2 _ hft]; exact hS3) hT4 (hg3.trans hs4.gr) hp
      simp [inEnv, sSeq, sSet, e2, e1, eB, eVar, eC, aCons, aNil, sAsg, gSubM, sRet, sDrop, sIf, mB, sNext, sFor, gNm, srcSeq, srcRng, eMeth, oneA, one, eTup, eLst, eNewL, eIf, tOrM, tAndM, tYesM, got_bind, got_ret, got_iteM, got_ite, got_bad, got_mbad, got_ok, FnQ, g_add, g_sub, g_mul, g_div, g_mod, g_pow, g_neg, g_cmp, g_isN, g_isNotN, g_bool, g_int, g_eq, g_ne, g_inL, g_inF, g_tup, g_lst, g_newL, g_ix, g_slT, g_slL, g_len, g_list, g_listNew, g_tuple, g_addT, g_addL, g_addR, g_addN, g_call, g_rng, asQ_tup, asQ_lst, asQ_fro, asL_lst, asR_lst, at0, at1, at2, at3, at4, eqD_ii, FlQ, show (2 : Nat) ≤ sizeLine by decide, show (3 : Nat) ≤ sizeLine by decide, tyD_ref hS3]
      have two : ∀ {d n : Int} {Q' : D → Store → Prop} {S' : Store}, d = deep + 1 → deep < 4 → 0 ≤ n → n ≤ 3 → Tp xs t S' → Gr t S S' → S'[f]? = some (.lst (encL ss)) → (∀ is S', OkL a b c e j is → Tp xs t S' → Gr t S S' → S'[f]? = some (.lst (encL ss)) → Q' (.tup (encL is)) S') → Got (m__law_steps (j + 3) [.ref t, .tup [.int a, .int b, .int c, .int e], .int d, .int n] S') Q' :=
        fun hd' hd4 h0 h3 hT' hg' hf' k => steps_spec j (by omega) (by omega) h0 (by omega) hT' fun is S'' o1 o2 o3 => k is S'' o1 o2 (hg'.trans o3.gr) (by rw [o3.2 _ hft]; exact hf')
      split
      · rename_i hd4
        split
        · refine two rfl hd4 (by omega) (by omega) hT3 hg3 hS3 fun is S4 ho hT4 hg4 hf4 => ?_
          by_cases hw : way = 0
          · refine .inr ⟨hw, tyD_ref hf4, take_spec' hT4 (by omega) fun n S5 n0 n1 hT5 hs5 => ap (.loop n is) (by rw [hs5.2 _ hft]; exact hf4) hT5 (hg4.trans hs5.gr) ⟨n0, n1, ho⟩⟩
          · refine .inl ⟨hw, two rfl hd4 (by omega) (by omega) hT4 hg4 hf4 fun os S5 ho' hT5 hg5 hf5 => ⟨tyD_ref hf5, ?_⟩⟩
            have hw' : way = 1 ∨ way = 2 := by omega
            rcases hw' with rfl | rfl
            · exact ⟨_, at0, ap (.guard is os) hf5 hT5 hg5 ⟨ho, ho'⟩⟩
            · exact ⟨_, at1, ap (.case is os) hf5 hT5 hg5 ⟨ho, ho'⟩⟩
        · by_cases h8 : way = 8
          · refine .inr ⟨h8, ?_⟩
            split
            · refine take_spec' hT3 (by omega) fun st S4 s0 s1 hT4 hs4 => take_spec' hT4 (by omega) fun n S5 n0 n1 hT5 hs5 => ?_
              have hf5 : S5[f]? = some (.lst (encL ss)) := by rw [hs5.2 _ hft, hs4.2 _ hft]; exact hS3
              refine ⟨_, asL_ref hf5, by simp [encL_eq, sizeLine]; omega, ?_⟩
              refine ⟨by omega, hT5.app, ((hg3.trans hs4.gr).trans hs5.gr).trans Gr.app, S5.length, ss ++ [.plain "take" [st], .plain "hold" [n], .plain "give" [st]], _, _, _, _, _, ((hg3.trans hs4.gr).trans hs5.gr).1, ?_, by simp; omega, ?_, rfl⟩
              · rw [last_get, encL_app]; rfl
              · intro s' hs'
                rcases List.mem_append.mp hs' with h | h
                · exact hok _ h
                · simp at h
                  rcases h with rfl | rfl | rfl
                  · exact .inr (.inl ⟨rfl, st, rfl, s0, s1⟩)
                  · exact .inl ⟨rfl, n, rfl, n0, by omega⟩
                  · exact .inr (.inr (.inl ⟨rfl, st, rfl, s0, s1⟩))
            · exact pl
          · exact .inl ⟨h8, pl⟩
      · by_cases h8 : way = 8
        · refine .inr ⟨h8, ?_⟩
          split
          · refine take_spec' hT3 (by omega) fun st S4 s0 s1 hT4 hs4 => take_spec' hT4 (by omega) fun n S5 n0 n1 hT5 hs5 => ?_
            have hf5 : S5[f]? = some (.lst (encL ss)) := by rw [hs5.2 _ hft, hs4.2 _ hft]; exact hS3
            refine ⟨_, asL_ref hf5, by simp [encL_eq, sizeLine]; omega, ?_⟩
            refine ⟨by omega, hT5.app, ((hg3.trans hs4.gr).trans hs5.gr).trans Gr.app, S5.length, ss ++ [.plain "take" [st], .plain "hold" [n], .plain "give" [st]], _, _, _, _, _, ((hg3.trans hs4.gr).trans hs5.gr).1, ?_, by simp; omega, ?_, rfl⟩
            · rw [last_get, encL_app]; rfl
            · intro s' hs'
              rcases List.mem_append.mp hs' with h | h
              · exact hok _ h
              · simp at h
                rcases h with rfl | rfl | rfl
                · exact .inr (.inl ⟨rfl, st, rfl, s0, s1⟩)
                · exact .inl ⟨rfl, n, rfl, n0, by omega⟩
                · exact .inr (.inr (.inl ⟨rfl, st, rfl, s0, s1⟩))
          · exact pl
        · exact .inl ⟨h8, pl⟩
    · rintro ρ S2 ⟨hi, hT2, hg2, f, ss, x5, x6, x7, x8, x9, hf, hS2, hl, hok, rfl⟩
      simp [inEnv, sSeq, sSet, e2, e1, eB, eVar, eC, aCons, aNil, sAsg, gSubM, sRet, sDrop, sIf, mB, sNext, sFor, gNm, srcSeq, srcRng, eMeth, oneA, one, eTup, eLst, eNewL, eIf, tOrM, tAndM, tYesM, got_bind, got_ret, got_iteM, got_ite, got_bad, got_mbad, got_ok, FnQ, g_add, g_sub, g_mul, g_div, g_mod, g_pow, g_neg, g_cmp, g_isN, g_isNotN, g_bool, g_int, g_eq, g_ne, g_inL, g_inF, g_tup, g_lst, g_newL, g_ix, g_slT, g_slL, g_len, g_list, g_listNew, g_tuple, g_addT, g_addL, g_addR, g_addN, g_call, g_rng, asQ_tup, asQ_lst, asQ_fro, asL_lst, asR_lst, at0, at1, at2, at3, at4, eqD_ii, asQ_ref hS2]
      refine retG hT2 hg2 ht (by intro n; simp) ?_ fun S3 h1 h2 => q ss S3 (OkL.mk (by simp at hl; omega) hok) h1 h2
      exact encL_rlt ss
end Cm
/-! P5: weights, plans, scenes. -/
namespace Cm
open PySem PySem.Spec PyProof.Rows L2 SL
theorem wtL_le {a b c e : Nat} : ∀ (j : Nat) {ss : List Tr}, OkL a b c e j ss → 0 ≤ wtL ss ∧ wtL ss ≤ 100 ^ j
  | 0, ss, h => by
    have h : ss = [] := h
    subst h
    simp [wtL]
  | j + 1, ss, ⟨hl, h⟩ => by
    have one : ∀ s : Tr, Ok1 a b c e j s → 0 ≤ wt s ∧ wt s ≤ 4 * 100 ^ j := by
      intro s hs
      have p : (1 : Int) ≤ 100 ^ j := by
        have : (0 : Int) < 100 ^ j := Int.pow_pos (by omega)
        omega
      cases s with
      | plain w ns => simp only [wt]; omega
      | loop n is =>
        have ⟨n0, n1, hi⟩ := hs
        have ⟨w0, w1⟩ := wtL_le j hi
        simp only [wt]
        have h1 : 0 ≤ n * wtL is := Int.mul_nonneg n0 w0
        have h2 : n * wtL is ≤ 3 * wtL is := Int.mul_le_mul_of_nonneg_right (by omega) w0
        omega
      | guard is os =>
        have ⟨w0, w1⟩ := wtL_le j hs.1
        have ⟨u0, u1⟩ := wtL_le j hs.2
        simp only [wt]; omega
      | case is os =>
        have ⟨w0, w1⟩ := wtL_le j hs.1
        have ⟨u0, u1⟩ := wtL_le j hs.2
        simp only [wt]; omega
    have all : ∀ ts : List Tr, (∀ s ∈ ts, Ok1 a b c e j s) → 0 ≤ wtL ts ∧ wtL ts ≤ ts.length * (4 * 100 ^ j) := by
      intro ts
      induction ts with
      | nil => intro _; simp [wtL]
      | cons s ts ih =>
        intro h
        have := one s (h s (by simp))
        have := ih fun s hs => h s (by simp [hs])
        simp only [wtL, List.length_cons, Int.natCast_add, Int.add_mul]
        omega
    have := all ss h
    have p : (0 : Int) < 100 ^ j := Int.pow_pos (by omega)
    have q : (ss.length : Int) * (4 * 100 ^ j) ≤ 24 * (4 * 100 ^ j) := Int.mul_le_mul_of_nonneg_right (by omega) (by omega)
    rw [Int.pow_succ]
    omega
theorem wtL_app : ∀ {ss ts : List Tr}, wtL (ss ++ ts) = wtL ss + wtL ts
  | [], ts => by simp [wtL]
  | s :: ss, ts => by
    show wt s + wtL (ss ++ ts) = wt s + wtL ss + wtL ts
    rw [wtL_app]; omega
theorem OkL.sub {a b c e j : Nat} {ss ts : List Tr} (h : OkL a b c e j ss) (hl : ts.length ≤ ss.length) (hs : ∀ s ∈ ts, s ∈ ss) : OkL a b c e j ts := by
  cases j with
  | zero =>
    have h : ss = [] := h
    subst h
    exact List.length_eq_zero_iff.mp (by simpa using hl)
  | succ j => exact ⟨by have := h.1; omega, fun s m => h.2 s (hs s m)⟩
theorem getE {ts : List Tr} {i : Nat} {d : D} (h : (encL ts)[i]? = some d) : ∃ s, ts[i]? = some s ∧ d = enc s := by
  rw [encL_eq, List.getElem?_map] at h
  cases hs : ts[i]? with
  | none => rw [hs] at h; cases h
  | some s => rw [hs] at h; cases h; exact ⟨s, rfl, rfl⟩
theorem take_next {ts : List Tr} {i : Nat} {s : Tr} (h : ts[i]? = some s) : wtL (ts.take (i + 1)) = wtL (ts.take i) + wt s := by
  rw [List.take_add_one, h, wtL_app]
  simp [wtL]
theorem pl_word {a b c e : Nat} {w : String} {ns : List Int} (h : Pl a b c e w ns) : w ≠ "loop" ∧ w ≠ "guard" ∧ w ≠ "case" := by
  rcases h with ⟨rfl, _⟩ | ⟨rfl, _⟩ | ⟨rfl, _⟩ | ⟨rfl, _⟩ | ⟨rfl, _⟩ | ⟨rfl, _⟩ | ⟨rfl, _⟩ | ⟨rfl, _⟩ | ⟨rfl, _⟩ | ⟨rfl, _⟩ | ⟨rfl, _⟩ | ⟨rfl, _⟩ | ⟨rfl, _⟩ <;> decide
theorem lweight_spec {a b c e : Nat} : ∀ (k j : Nat) {S : Store} {Q : D → Store → Prop} {ss : List Tr}, OkL a b c e j ss → j < k → k ≤ 20 → Q (.int (wtL ss)) S → Got (m__law_weight k [.tup (encL ss)] S) Q
  | 0, _, _, _, _, _, h, _, _ => absurd h (by omega)
  | k + 1, j, S, Q, ss, ho, hj, hk, q => by
    show Got (fnT 3 (b__law_weight (m__law_weight k)) _ S) Q
    apply got_fnT
    unfold b__law_weight
    simp [inEnv, sSeq, sSet, e2, e1, eB, eVar, eC, aCons, aNil, sAsg, gSubM, sRet, sDrop, sIf, mB, sNext, sFor, gNm, srcSeq, srcRng, eMeth, oneA, one, eTup, eLst, eNewL, eIf, tOrM, tAndM, tYesM, got_bind, got_ret, got_iteM, got_ite, got_bad, got_mbad, got_ok, FnQ, g_add, g_sub, g_mul, g_div, g_mod, g_pow, g_neg, g_cmp, g_isN, g_isNotN, g_bool, g_int, g_eq, g_ne, g_inL, g_inF, g_tup, g_lst, g_newL, g_ix, g_slT, g_slL, g_len, g_list, g_listNew, g_tuple, g_addT, g_addL, g_addR, g_addN, g_call, g_rng, asQ_tup, asQ_lst, asQ_fro, asL_lst, asR_lst, at0, at1, at2, at3, at4, eqD_ii, sizeLine]
    rw [g_seq (by intro n; simp)]
    refine ⟨_, rfl, got_for _ (fun i ρ S' => S' = S ∧ ∃ x2 : Option D, ρ = [some (.tup (encL ss)), some (.int (wtL (ss.take i))), x2]) ⟨rfl, _, rfl⟩ (fun _ _ _ _ => trivial) ?_ ?_⟩
    · rintro i d ρ S1 hd ⟨rfl, x2, rfl⟩
      obtain ⟨s, hs, rfl⟩ := getE hd
      have hm : s ∈ ss := List.mem_of_getElem? hs
      cases j with
      | zero =>
        have h : ss = [] := ho
        subst h
        cases hm
      | succ j =>
        have h1 := ho.2 s hm
        have fin : ∀ {v : Int} {x2 : Option D}, v = wtL (ss.take i) + wt s → (S1 = S1 ∧ ∃ y2 : Option D, [some (.tup (encL ss)), some (.int v), x2] = [some (.tup (encL ss)), some (.int (wtL (ss.take (i + 1)))), y2]) := by
          intro v x2 h
          refine ⟨rfl, x2, ?_⟩
          rw [take_next hs, h]
        cases s with
        | plain w ns =>
          have ⟨n1, n2, n3⟩ := pl_word h1
          simp [enc, W, inEnv, sSeq, sSet, e2, e1, eB, eVar, eC, aCons, aNil, sAsg, gSubM, sRet, sDrop, sIf, mB, sNext, sFor, gNm, srcSeq, srcRng, eMeth, oneA, one, eTup, eLst, eNewL, eIf, tOrM, tAndM, tYesM, got_bind, got_ret, got_iteM, got_ite, got_bad, got_mbad, got_ok, FnQ, g_add, g_sub, g_mul, g_div, g_mod, g_pow, g_neg, g_cmp, g_isN, g_isNotN, g_bool, g_int, g_eq, g_ne, g_inL, g_inF, g_tup, g_lst, g_newL, g_ix, g_slT, g_slL, g_len, g_list, g_listNew, g_tuple, g_addT, g_addL, g_addR, g_addN, g_call, g_rng, asQ_tup, asQ_lst, asQ_fro, asL_lst, asR_lst, at0, at1, at2, at3, at4, eqD_ii, eqD_str, n1, n2, n3, anyF, eqF_str, flD]
          exact ⟨by decide, .inl ⟨⟨n2.symm, n3.symm⟩, fin rfl⟩⟩
        | loop n is =>
          have ⟨n0, n1, hi⟩ := h1
          have ⟨w0, w1⟩ := wtL_le j hi
          have w2 : (100 : Int) ^ j ≤ 100 ^ 20 := by exact_mod_cast Nat.pow_le_pow_right (n := 100) (by omega) (show j ≤ 20 by omega)
          simp [enc, W, inEnv, sSeq, sSet, e2, e1, eB, eVar, eC, aCons, aNil, sAsg, gSubM, sRet, sDrop, sIf, mB, sNext, sFor, gNm, srcSeq, srcRng, eMeth, oneA, one, eTup, eLst, eNewL, eIf, tOrM, tAndM, tYesM, got_bind, got_ret, got_iteM, got_ite, got_bad, got_mbad, got_ok, FnQ, g_add, g_sub, g_mul, g_div, g_mod, g_pow, g_neg, g_cmp, g_isN, g_isNotN, g_bool, g_int, g_eq, g_ne, g_inL, g_inF, g_tup, g_lst, g_newL, g_ix, g_slT, g_slL, g_len, g_list, g_listNew, g_tuple, g_addT, g_addL, g_addR, g_addN, g_call, g_rng, asQ_tup, asQ_lst, asQ_fro, asL_lst, asR_lst, at0, at1, at2, at3, at4, eqD_ii, eqD_str, anyF, eqF_str, flD]
          refine lweight_spec k j hi (by omega) (by omega) ?_
          simp only [g_mul, g_add]
          exact ⟨mulOk_of (by omega) (by omega), by decide, fin (by simp only [wt]; omega)⟩
        | guard is os =>
          simp [enc, W, inEnv, sSeq, sSet, e2, e1, eB, eVar, eC, aCons, aNil, sAsg, gSubM, sRet, sDrop, sIf, mB, sNext, sFor, gNm, srcSeq, srcRng, eMeth, oneA, one, eTup, eLst, eNewL, eIf, tOrM, tAndM, tYesM, got_bind, got_ret, got_iteM, got_ite, got_bad, got_mbad, got_ok, FnQ, g_add, g_sub, g_mul, g_div, g_mod, g_pow, g_neg, g_cmp, g_isN, g_isNotN, g_bool, g_int, g_eq, g_ne, g_inL, g_inF, g_tup, g_lst, g_newL, g_ix, g_slT, g_slL, g_len, g_list, g_listNew, g_tuple, g_addT, g_addL, g_addR, g_addN, g_call, g_rng, asQ_tup, asQ_lst, asQ_fro, asL_lst, asR_lst, at0, at1, at2, at3, at4, eqD_ii, eqD_str, anyF, eqF_str, flD]
          refine ⟨by decide, lweight_spec k j h1.1 (by omega) (by omega) ?_⟩
          simp only [g_add]
          refine lweight_spec k j h1.2 (by omega) (by omega) ?_
          simp only [g_add]
          exact fin (by simp only [wt]; omega)
        | case is os =>
          simp [enc, W, inEnv, sSeq, sSet, e2, e1, eB, eVar, eC, aCons, aNil, sAsg, gSubM, sRet, sDrop, sIf, mB, sNext, sFor, gNm, srcSeq, srcRng, eMeth, oneA, one, eTup, eLst, eNewL, eIf, tOrM, tAndM, tYesM, got_bind, got_ret, got_iteM, got_ite, got_bad, got_mbad, got_ok, FnQ, g_add, g_sub, g_mul, g_div, g_mod, g_pow, g_neg, g_cmp, g_isN, g_isNotN, g_bool, g_int, g_eq, g_ne, g_inL, g_inF, g_tup, g_lst, g_newL, g_ix, g_slT, g_slL, g_len, g_list, g_listNew, g_tuple, g_addT, g_addL, g_addR, g_addN, g_call, g_rng, asQ_tup, asQ_lst, asQ_fro, asL_lst, asR_lst, at0, at1, at2, at3, at4, eqD_ii, eqD_str, anyF, eqF_str, flD]
          refine ⟨by decide, lweight_spec k j h1.1 (by omega) (by omega) ?_⟩
          simp only [g_add]
          refine lweight_spec k j h1.2 (by omega) (by omega) ?_
          simp only [g_add]
          exact fin (by simp only [wt]; omega)
    · rintro ρ S1 ⟨rfl, x2, rfl⟩
      simp [inEnv, sSeq, sSet, e2, e1, eB, eVar, eC, aCons, aNil, sAsg, gSubM, sRet, sDrop, sIf, mB, sNext, sFor, gNm, srcSeq, srcRng, eMeth, oneA, one, eTup, eLst, eNewL, eIf, tOrM, tAndM, tYesM, got_bind, got_ret, got_iteM, got_ite, got_bad, got_mbad, got_ok, FnQ, g_add, g_sub, g_mul, g_div, g_mod, g_pow, g_neg, g_cmp, g_isN, g_isNotN, g_bool, g_int, g_eq, g_ne, g_inL, g_inF, g_tup, g_lst, g_newL, g_ix, g_slT, g_slL, g_len, g_list, g_listNew, g_tuple, g_addT, g_addL, g_addR, g_addN, g_call, g_rng, asQ_tup, asQ_lst, asQ_fro, asL_lst, asR_lst, at0, at1, at2, at3, at4, eqD_ii]
      refine retT_val0 Keep.refl (by intro n; simp) rfl ?_
      rw [show (encL ss).length = ss.length by simp [encL_eq], List.take_length]
      exact q
theorem cutD_last {l : List D} (h : l ≠ []) : cutD l none (some (-1)) = l.dropLast := by
  have hl : 0 < l.length := List.length_pos_iff.mpr h
  unfold SL.cutD
  simp [HT.sIx, List.dropLast_eq_take]
  omega
theorem plan_spec {t : Nat} {xs : List Int} {a b c e : Nat} {S : Store} {Q : D → Store → Prop} {most : Int} (hT : Tp xs t S) (h0 : 0 ≤ most) (h6 : most ≤ 8)
    (q : ∀ ss S', OkL a b c e 4 ss → wtL ss ≤ 60 → Tp xs t S' → Same t S S' → Q (.tup (encL ss)) S') : Got (m__law_plan [.ref t, .tup [.int a, .int b, .int c, .int e], .int most] S) Q := by
  have ht := hT.lt
  unfold m__law_plan
  apply got_fnT
  unfold b__law_plan
  simp [inEnv, sSeq, sSet, e2, e1, eB, eVar, eC, aCons, aNil, sAsg, gSubM, sRet, sDrop, sIf, mB, sNext, sFor, gNm, srcSeq, srcRng, eMeth, oneA, one, eTup, eLst, eNewL, eIf, tOrM, tAndM, tYesM, got_bind, got_ret, got_iteM, got_ite, got_bad, got_mbad, got_ok, FnQ, g_add, g_sub, g_mul, g_div, g_mod, g_pow, g_neg, g_cmp, g_isN, g_isNotN, g_bool, g_int, g_eq, g_ne, g_inL, g_inF, g_tup, g_lst, g_newL, g_ix, g_slT, g_slL, g_len, g_list, g_listNew, g_tuple, g_addT, g_addL, g_addR, g_addN, g_call, g_rng, asQ_tup, asQ_lst, asQ_fro, asL_lst, asR_lst, at0, at1, at2, at3, at4, eqD_ii, sizeLine]
  refine steps_spec 4 (by omega) (by omega) h0 h6 hT fun ss S1 ho hT1 hs1 => ?_
  refine got_while (fun ρ S' => S' = S1 ∧ ∃ ts : List Tr, OkL a b c e 4 ts ∧ ρ = [some (.ref t), some (.tup [.int a, .int b, .int c, .int e]), some (.int most), some (.tup (encL ts))])
    (fun ρ _ => match ρ with | [_, _, _, some (.tup l)] => l.length | _ => 0) ?_ _ ⟨rfl, ss, ho, rfl⟩ (by simp [encL_eq]; have := ho.1; omega)
  rintro ρ S2 ⟨rfl, ts, ho, rfl⟩
  simp [inEnv, sSeq, sSet, e2, e1, eB, eVar, eC, aCons, aNil, sAsg, gSubM, sRet, sDrop, sIf, mB, sNext, sFor, gNm, srcSeq, srcRng, eMeth, oneA, one, eTup, eLst, eNewL, eIf, tOrM, tAndM, tYesM, got_bind, got_ret, got_iteM, got_ite, got_bad, got_mbad, got_ok, FnQ, g_add, g_sub, g_mul, g_div, g_mod, g_pow, g_neg, g_cmp, g_isN, g_isNotN, g_bool, g_int, g_eq, g_ne, g_inL, g_inF, g_tup, g_lst, g_newL, g_ix, g_slT, g_slL, g_len, g_list, g_listNew, g_tuple, g_addT, g_addL, g_addR, g_addN, g_call, g_rng, asQ_tup, asQ_lst, asQ_fro, asL_lst, asR_lst, at0, at1, at2, at3, at4, eqD_ii]
  refine lweight_spec 7 4 ho (by omega) (by omega) ?_
  simp [inEnv, sSeq, sSet, e2, e1, eB, eVar, eC, aCons, aNil, sAsg, gSubM, sRet, sDrop, sIf, mB, sNext, sFor, gNm, srcSeq, srcRng, eMeth, oneA, one, eTup, eLst, eNewL, eIf, tOrM, tAndM, tYesM, got_bind, got_ret, got_iteM, got_ite, got_bad, got_mbad, got_ok, FnQ, g_add, g_sub, g_mul, g_div, g_mod, g_pow, g_neg, g_cmp, g_isN, g_isNotN, g_bool, g_int, g_eq, g_ne, g_inL, g_inF, g_tup, g_lst, g_newL, g_ix, g_slT, g_slL, g_len, g_list, g_listNew, g_tuple, g_addT, g_addL, g_addR, g_addN, g_call, g_rng, asQ_tup, asQ_lst, asQ_fro, asL_lst, asR_lst, at0, at1, at2, at3, at4, eqD_ii, eSl, oNone, oSome]
  split
  · rename_i h60
    have hne : encL ts ≠ [] := by
      intro e0
      have : ts = [] := by simpa [encL_eq] using e0
      subst this
      simp [wtL] at h60
    rw [cutD_last hne]
    refine ⟨⟨rfl, ts.dropLast, OkL.sub ho (by simp) fun s hs => List.dropLast_subset _ hs, ?_⟩, ?_⟩
    · rw [encL_eq, encL_eq, List.map_dropLast]
    · simp [encL_eq]
      have := List.length_pos_iff.mpr hne
      simp [encL_eq] at this
      omega
  · exact retG hT1 hs1.gr ht (by intro n; simp) (encL_rlt ts) fun S3 a1 a2 => q ts S3 ho (by omega) a1 a2
end Cm
/-! P6: scenes. -/
namespace Cm
open PySem PySem.Spec PyProof.Rows L2 SL
structure Sc where
  stalls : List Int
  belts : List Int
  bells : Nat
  plans : List (List Tr)
  starts : List (Int × Int × Int)
def encP (ps : List (List Tr)) : List D := ps.map fun p => .tup (encL p)
def encS (l : List (Int × Int × Int)) : List D := l.map fun s => .tup [.int s.1, .int s.2.1, .int s.2.2]
def Sc.enc (s : Sc) : D := .tup [.tup (s.stalls.map D.int), .tup (s.belts.map D.int), .int s.bells, .tup (encP s.plans), .tup (encS s.starts)]
structure Sc.Ok (hands : Int) (s : Sc) : Prop where
  stalls : s.stalls.length ≤ 3 ∧ ∀ n ∈ s.stalls, 1 ≤ n ∧ n ≤ 4
  belts : s.belts.length ≤ 2 ∧ ∀ n ∈ s.belts, 1 ≤ n ∧ n ≤ 4
  bells : s.bells ≤ 2
  plans : 1 ≤ s.plans.length ∧ s.plans.length ≤ 4 ∧ ∀ p ∈ s.plans, OkL s.stalls.length s.belts.length s.bells s.plans.length 4 p ∧ wtL p ≤ 60
  starts : 1 ≤ s.starts.length ∧ (s.starts.length : Int) ≤ hands ∧ ∀ x ∈ s.starts, 0 ≤ x.1 ∧ x.1 ≤ 1000 ∧ 0 ≤ x.2.1 ∧ x.2.1 ≤ 3 ∧ 0 ≤ x.2.2 ∧ x.2.2 < s.plans.length
theorem encP_rlt {n : Nat} : ∀ {ps : List (List Tr)}, rltL n (encP ps) = true
  | [] => rfl
  | p :: ps => by
    show (rltL n (encL p) && rltL n (encP ps)) = true
    rw [encL_rlt, encP_rlt]; rfl
theorem encS_rlt {n : Nat} : ∀ {l : List (Int × Int × Int)}, rltL n (encS l) = true
  | [] => rfl
  | p :: l => by
    show (rltL n [.int _, .int _, .int _] && rltL n (encS l)) = true
    rw [encS_rlt]; rfl
theorem retG0 {t : Nat} {S S' : Store} {Q : D → Store → Prop} {d : D} (g : Gr t S S') (ht : S.length ≤ t) (hd : ∀ n, d ≠ .ref n) (hr : D.rlt S.length d = true) (q : Q d S) : RetT S Q d S' := by
  have e : S'.take S.length = S := by
    apply List.ext_getElem?
    intro m
    by_cases h : m < S.length
    · rw [List.getElem?_take, if_pos h]; exact g.2 m h (by omega)
    · have := g.1
      rw [List.getElem?_eq_none (by simp; omega), List.getElem?_eq_none (by omega)]
  rw [← List.take_append_drop S.length S', e]
  exact retT_val Keep.refl hd hr q
theorem places_spec {t : Nat} {xs : List Int} {S : Store} {N : Int} {Q : D → Store → Prop} {a0 a1 a2 a3 a5 a6 a7 a8 a9 a10 a11 a12 a13 : Option D} (hT : Tp xs t S) (hN : 0 < N) (hN' : N < 1000)
    (q : ∀ (ns : List Int) S', (ns.length : Int) < N → (∀ n ∈ ns, 1 ≤ n ∧ n ≤ 4) → Tp xs t S' → Same t S S' → Q (.lst (ns.map D.int)) S') :
    Got (eLc (srcRng (aCons (eCall 2 m__law_take (aCons (eVar 4) (aCons (eC (D.int N)) aNil))) aNil)) (gNm 12) tYesM
      (e2 addM (eC (D.int 1)) (eCall 2 m__law_take (aCons (eVar 4) (aCons (e2 ixM (eLst (aCons (eC (D.int 4)) (aCons (eC (D.int 1)) (aCons (eC (D.int 2)) aNil)))) (eCall 2 m__law_take (aCons (eVar 4) (aCons (eC (D.int 3)) aNil)))) aNil))))
      [12] [a0, a1, a2, a3, some (D.ref t), a5, a6, a7, a8, a9, a10, a11, a12, a13] S) Q := by
  unfold eLc
  simp [inEnv, sSeq, sSet, e2, e1, eB, eVar, eC, aCons, aNil, sAsg, gSubM, sRet, sDrop, sIf, mB, sNext, sFor, gNm, srcSeq, srcRng, eMeth, oneA, one, eTup, eLst, eNewL, eIf, tOrM, tAndM, tYesM, got_bind, got_ret, got_iteM, got_ite, got_bad, got_mbad, got_ok, FnQ, g_add, g_sub, g_mul, g_div, g_mod, g_pow, g_neg, g_cmp, g_isN, g_isNotN, g_bool, g_int, g_eq, g_ne, g_inL, g_inF, g_tup, g_lst, g_newL, g_ix, g_slT, g_slL, g_len, g_list, g_listNew, g_tuple, g_addT, g_addL, g_addR, g_addN, g_call, g_rng, asQ_tup, asQ_lst, asQ_fro, asL_lst, asR_lst, at0, at1, at2, at3, at4, eqD_ii, sizeLine]
  refine take_spec' hT hN fun n S1 n0 n1 hT1 hs1 => ?_
  obtain ⟨n, rfl⟩ := Int.eq_ofNat_of_zero_le n0
  simp only [g_rng]
  refine ⟨⟨by omega, by omega, by simp [sizeLine]; omega⟩, got_noex.mpr (got_lc (acc := []) _ (fun i ys S' => Tp xs t S' ∧ Same t S S' ∧ ∃ ns : List Int, ys = ns.map D.int ∧ ns.length = i ∧ ∀ n ∈ ns, 1 ≤ n ∧ n ≤ 4) ⟨hT1, hs1, [], rfl, rfl, by simp⟩ (fun _ _ _ _ => trivial) ?_ ?_)⟩
  · rintro i d ys S2 hd ⟨hT2, hs2, ns, rfl, hl, hb⟩
    simp [wipeE, inEnv, sSeq, sSet, e2, e1, eB, eVar, eC, aCons, aNil, sAsg, gSubM, sRet, sDrop, sIf, mB, sNext, sFor, gNm, srcSeq, srcRng, eMeth, oneA, one, eTup, eLst, eNewL, eIf, tOrM, tAndM, tYesM, got_bind, got_ret, got_iteM, got_ite, got_bad, got_mbad, got_ok, FnQ, g_add, g_sub, g_mul, g_div, g_mod, g_pow, g_neg, g_cmp, g_isN, g_isNotN, g_bool, g_int, g_eq, g_ne, g_inL, g_inF, g_tup, g_lst, g_newL, g_ix, g_slT, g_slL, g_len, g_list, g_listNew, g_tuple, g_addT, g_addL, g_addR, g_addN, g_call, g_rng, asQ_tup, asQ_lst, asQ_fro, asL_lst, asR_lst, at0, at1, at2, at3, at4, eqD_ii, sizeLine]
    refine take_spec' hT2 (by omega) fun w S3 w0 w1 hT3 hs3 => ?_
    obtain ⟨x, hx, e⟩ := atI_int (xs := [4, 1, 2]) w0 (by simpa using w1)
    simp at hx
    refine g_ix.mpr ⟨_, rfl, _, e, ?_⟩
    refine take_spec' hT3 (by omega) fun v S4 v0 v1 hT4 hs4 => ?_
    rw [g_add]
    refine ⟨hT4, (hs2.trans hs3).trans hs4, ns ++ [1 + v], by simp, by simp [hl], ?_⟩
    intro m hm
    rcases List.mem_append.mp hm with h | h
    · exact hb m h
    · rw [List.mem_singleton.mp h]; omega
  · rintro ys S2 ⟨hT2, hs2, ns, e, hl, hb⟩
    have e : ys = ns.map D.int := by simpa using e
    subst e
    exact q ns S2 (by simp at hl; omega) hb hT2 hs2
theorem plans_spec {t : Nat} {xs : List Int} {a b c e : Nat} {S : Store} {N most : Int} {Q : D → Store → Prop} {a0 a1 a3 a5 a6 a7 a10 a11 a12 a13 : Option D} (hT : Tp xs t S) (h0 : 0 ≤ most) (h6 : most ≤ 8) (hN : 0 ≤ N) (hN' : N < 1000)
    (q : ∀ (ps : List (List Tr)) S', (ps.length : Int) = N → (∀ p ∈ ps, OkL a b c e 4 p ∧ wtL p ≤ 60) → Tp xs t S' → Same t S S' → Q (.lst (encP ps)) S') :
    Got (eLc (srcRng (aCons (eVar 8) aNil)) (gNm 12) tYesM (eCall 3 m__law_plan (aCons (eVar 4) (aCons (eVar 9) (aCons (eVar 2) aNil))))
      [12] [a0, a1, some (.int most), a3, some (D.ref t), a5, a6, a7, some (.int N), some (.tup [.int a, .int b, .int c, .int e]), a10, a11, a12, a13] S) Q := by
  unfold eLc
  obtain ⟨n, rfl⟩ := Int.eq_ofNat_of_zero_le hN
  simp [inEnv, sSeq, sSet, e2, e1, eB, eVar, eC, aCons, aNil, sAsg, gSubM, sRet, sDrop, sIf, mB, sNext, sFor, gNm, srcSeq, srcRng, eMeth, oneA, one, eTup, eLst, eNewL, eIf, tOrM, tAndM, tYesM, got_bind, got_ret, got_iteM, got_ite, got_bad, got_mbad, got_ok, FnQ, g_add, g_sub, g_mul, g_div, g_mod, g_pow, g_neg, g_cmp, g_isN, g_isNotN, g_bool, g_int, g_eq, g_ne, g_inL, g_inF, g_tup, g_lst, g_newL, g_ix, g_slT, g_slL, g_len, g_list, g_listNew, g_tuple, g_addT, g_addL, g_addR, g_addN, g_call, g_rng, asQ_tup, asQ_lst, asQ_fro, asL_lst, asR_lst, at0, at1, at2, at3, at4, eqD_ii]
  refine ⟨⟨by omega, by simp [sizeLine]; omega⟩, got_noex.mpr (got_lc (acc := []) _ (fun i ys S' => Tp xs t S' ∧ Same t S S' ∧ ∃ ps : List (List Tr), ys = encP ps ∧ ps.length = i ∧ ∀ p ∈ ps, OkL a b c e 4 p ∧ wtL p ≤ 60) ⟨hT, Same.refl, [], rfl, rfl, by simp⟩ (fun _ _ _ _ => trivial) ?_ ?_)⟩
  · rintro i d ys S2 hd ⟨hT2, hs2, ps, rfl, hl, hb⟩
    simp [wipeE, inEnv, sSeq, sSet, e2, e1, eB, eVar, eC, aCons, aNil, sAsg, gSubM, sRet, sDrop, sIf, mB, sNext, sFor, gNm, srcSeq, srcRng, eMeth, oneA, one, eTup, eLst, eNewL, eIf, tOrM, tAndM, tYesM, got_bind, got_ret, got_iteM, got_ite, got_bad, got_mbad, got_ok, FnQ, g_add, g_sub, g_mul, g_div, g_mod, g_pow, g_neg, g_cmp, g_isN, g_isNotN, g_bool, g_int, g_eq, g_ne, g_inL, g_inF, g_tup, g_lst, g_newL, g_ix, g_slT, g_slL, g_len, g_list, g_listNew, g_tuple, g_addT, g_addL, g_addR, g_addN, g_call, g_rng, asQ_tup, asQ_lst, asQ_fro, asL_lst, asR_lst, at0, at1, at2, at3, at4, eqD_ii, sizeLine]
    refine plan_spec hT2 h0 h6 fun ss S3 ho hw hT3 hs3 => ?_
    refine ⟨hT3, hs2.trans hs3, ps ++ [ss], by simp [encP], by simp [hl], ?_⟩
    intro m hm
    rcases List.mem_append.mp hm with h | h
    · exact hb m h
    · rw [List.mem_singleton.mp h]; exact ⟨ho, hw⟩
  · rintro ys S2 ⟨hT2, hs2, ps, e, hl, hb⟩
    have e : ys = encP ps := by simpa using e
    subst e
    exact q ps S2 (by simp at hl; omega) hb hT2 hs2
theorem scene_spec {S : Store} {zs : List Int} {at' : Nat} {most hands : Int} {Q : D → Store → Prop} (ha : at' < 900) (h0 : 0 ≤ most) (h6 : most ≤ 8) (hh : 0 < hands) (hh' : hands < 100)
    (q : ∀ s : Sc, s.Ok hands → Q s.enc S) : Got (m__law_scene [.fro (zs.map D.int), .int at', .int most, .int hands] S) Q := by
  unfold m__law_scene
  apply got_fnT
  unfold b__law_scene
  simp [inEnv, sSeq, sSet, e2, e1, eB, eVar, eC, aCons, aNil, sAsg, gSubM, sRet, sDrop, sIf, mB, sNext, sFor, gNm, srcSeq, srcRng, eMeth, oneA, one, eTup, eLst, eNewL, eIf, tOrM, tAndM, tYesM, got_bind, got_ret, got_iteM, got_ite, got_bad, got_mbad, got_ok, FnQ, g_add, g_sub, g_mul, g_div, g_mod, g_pow, g_neg, g_cmp, g_isN, g_isNotN, g_bool, g_int, g_eq, g_ne, g_inL, g_inF, g_tup, g_lst, g_newL, g_ix, g_slT, g_slL, g_len, g_list, g_listNew, g_tuple, g_addT, g_addL, g_addR, g_addN, g_call, g_rng, asQ_tup, asQ_lst, asQ_fro, asL_lst, asR_lst, at0, at1, at2, at3, at4, eqD_ii, sizeLine]
  refine tape_spec (at' := at') (many := 4) (by omega) (by omega) fun xs hx hxs => ?_
  have hT : Tp xs S.length (S ++ [tape xs 0]) := ⟨hx, 0, by simp⟩
  have hg : Gr S.length S (S ++ [tape xs 0]) := Gr.app
  refine places_spec hT (by omega) (by omega) fun stalls S1 hl1 hb1 hT1 hs1 => ⟨_, rfl, ?_⟩
  refine places_spec hT1 (by omega) (by omega) fun belts S2 hl2 hb2 hT2 hs2 => ⟨_, rfl, ?_⟩
  refine take_spec' hT2 (by omega) fun bells S3 c0 c1 hT3 hs3 => ?_
  refine take_spec' hT3 (by omega) fun many S4 m0 m1 hT4 hs4 => ?_
  obtain ⟨bells, rfl⟩ := Int.eq_ofNat_of_zero_le c0
  obtain ⟨many, rfl⟩ := Int.eq_ofNat_of_zero_le m0
  rw [g_add, show (1 : Int) + many = ((1 + many : Nat) : Int) by omega]
  simp only [List.length_map]
  refine plans_spec hT4 h0 h6 (by omega) (by omega) fun ps S5 hl5 hb5 hT5 hs5 => ⟨_, rfl, ?_⟩
  refine take_spec' hT5.app hh fun k S6 k0 k1 hT6 hs6 => ?_
  obtain ⟨k, rfl⟩ := Int.eq_ofNat_of_zero_le k0
  rw [g_add, show (1 : Int) + k = ((1 + k : Nat) : Int) by omega, g_rng]
  have hF : S5.length ≠ S.length := by
    have := hT5.lt
    omega
  have hgr5 : Gr S.length S S5 := hg.trans ((((hs1.trans hs2).trans hs3).trans hs4).trans hs5).gr
  refine ⟨⟨by omega, by omega, by simp [sizeLine]; omega⟩, got_for _ (fun i ρ S' => i ≤ 1 + k ∧ Tp xs S.length S' ∧ Gr S.length S S' ∧ ∃ (l : List (Int × Int × Int)) (x12 x13 : Option D), S'[S5.length]? = some (.lst (encS l)) ∧ l.length = i ∧ (∀ x ∈ l, 0 ≤ x.1 ∧ x.1 ≤ 1000 ∧ 0 ≤ x.2.1 ∧ x.2.1 ≤ 3 ∧ 0 ≤ x.2.2 ∧ x.2.2 < ((1 + many : Nat) : Int)) ∧
      ρ = [some (D.fro (List.map D.int zs)), some (D.int ↑at'), some (D.int most), some (D.int hands), some (D.ref (List.length S)), some (D.tup (stalls.map D.int)), some (D.tup (belts.map D.int)), some (.int bells), some (.int ((1 + many : Nat) : Int)),
        some (D.tup [D.int stalls.length, D.int belts.length, .int bells, .int ((1 + many : Nat) : Int)]), some (D.tup (encP ps)), some (D.ref (List.length S5)), x12, x13])
    ⟨by omega, hT6, hgr5.trans (Gr.app.trans hs6.gr), [], _, _, by rw [hs6.2 _ hF, last_get]; rfl, rfl, by simp, rfl⟩ (fun _ _ _ _ => trivial) ?_ ?_⟩
  · rintro i d ρ S7 hd1 ⟨hi, hT7, hg7, l, x12, x13, hl, hli, hok, rfl⟩
    have hi' : i < 1 + k := by
      have := (List.getElem?_eq_some_iff.mp hd1).1
      rw [List.length_map, List.length_range] at this
      omega
    simp [inEnv, sSeq, sSet, e2, e1, eB, eVar, eC, aCons, aNil, sAsg, gSubM, sRet, sDrop, sIf, mB, sNext, sFor, gNm, srcSeq, srcRng, eMeth, oneA, one, eTup, eLst, eNewL, eIf, tOrM, tAndM, tYesM, got_bind, got_ret, got_iteM, got_ite, got_bad, got_mbad, got_ok, FnQ, g_add, g_sub, g_mul, g_div, g_mod, g_pow, g_neg, g_cmp, g_isN, g_isNotN, g_bool, g_int, g_eq, g_ne, g_inL, g_inF, g_tup, g_lst, g_newL, g_ix, g_slT, g_slL, g_len, g_list, g_listNew, g_tuple, g_addT, g_addL, g_addR, g_addN, g_call, g_rng, asQ_tup, asQ_lst, asQ_fro, asL_lst, asR_lst, at0, at1, at2, at3, at4, eqD_ii, sizeLine]
    refine take_spec' hT7 (by omega) fun u1 S8 u1a u1b hT8 hs8 => ?_
    refine take_spec' hT8 (by omega) fun u2 S9 u2a u2b hT9 hs9 => ?_
    refine take_spec' hT9 (by omega) fun u3 S10 u3a u3b hT10 hs10 => ?_
    obtain ⟨time, ht1, e1⟩ := atI_int (xs := [0, 0, u1, u2]) u3a (by simpa using u3b)
    refine g_ix.mpr ⟨_, rfl, _, e1, ?_⟩
    have hs10' := (hs8.trans hs9).trans hs10
    have hl10 : S10[S5.length]? = some (.lst (encS l)) := by rw [hs10'.2 _ hF]; exact hl
    refine ⟨tyD_ref hl10, ?_⟩
    refine take_spec' hT10 (by omega) fun v1 S11 v1a v1b hT11 hs11 => ?_
    refine take_spec' hT11 (by omega) fun v2 S12 v2a v2b hT12 hs12 => ?_
    refine take_spec' hT12 (by omega) fun v3 S13 v3a v3b hT13 hs13 => ?_
    obtain ⟨rk, hr1, e2⟩ := atI_int (xs := [0, v1, v2]) v3a (by simpa using v3b)
    refine g_ix.mpr ⟨_, rfl, _, e2, ?_⟩
    refine take_spec' hT13 (by omega) fun pn S14 p1 p2 hT14 hs14 => ?_
    have hs14' := (((hs10'.trans hs11).trans hs12).trans hs13).trans hs14
    have hl14 : S14[S5.length]? = some (.lst (encS l)) := by rw [hs14'.2 _ hF]; exact hl
    rw [g_app hl14]
    refine ⟨by simp [encS, sizeLine]; omega, by omega, hT14.set hF, (hg7.trans hs14'.gr).set (by have := hgr5.1; omega), l ++ [(time, rk, pn)], ?_, by simp [hli], ?_, _, _, rfl⟩
    · rw [List.getElem?_set_self (List.getElem?_eq_some_iff.mp hl14).1, encS, encS, List.map_append]; rfl
    · intro x1 x2 x3 hx
      rcases List.mem_append.mp hx with h | h
      · exact hok _ h
      · cases List.mem_singleton.mp h
        simp at ht1 hr1
        exact ⟨by omega, by omega, by omega, by omega, p1, p2⟩
  · rintro ρ S7 ⟨hi, hT7, hg7, l, x12, x13, hl, hli, hok, rfl⟩
    simp [inEnv, sSeq, sSet, e2, e1, eB, eVar, eC, aCons, aNil, sAsg, gSubM, sRet, sDrop, sIf, mB, sNext, sFor, gNm, srcSeq, srcRng, eMeth, oneA, one, eTup, eLst, eNewL, eIf, tOrM, tAndM, tYesM, got_bind, got_ret, got_iteM, got_ite, got_bad, got_mbad, got_ok, FnQ, g_add, g_sub, g_mul, g_div, g_mod, g_pow, g_neg, g_cmp, g_isN, g_isNotN, g_bool, g_int, g_eq, g_ne, g_inL, g_inF, g_tup, g_lst, g_newL, g_ix, g_slT, g_slL, g_len, g_list, g_listNew, g_tuple, g_addT, g_addL, g_addR, g_addN, g_call, g_rng, asQ_tup, asQ_lst, asQ_fro, asL_lst, asR_lst, at0, at1, at2, at3, at4, eqD_ii, sizeLine]
    simp at hli
    simp at hl5
    refine ⟨_, asQ_ref hl, ?_⟩
    have hli' : l.length = 1 + k := by omega
    have hmany : 1 + many = ps.length := by omega
    rw [hmany] at hb5 hok
    refine retG0 hg7 (Nat.le_refl _) (by intro n; simp) ?_ (q (Sc.mk stalls belts bells ps l) ⟨⟨by show stalls.length ≤ 3; omega, hb1⟩, ⟨by show belts.length ≤ 2; omega, hb2⟩, by show bells ≤ 2; omega, ⟨by show 1 ≤ ps.length; omega, by show ps.length ≤ 4; omega, hb5⟩, ⟨by show 1 ≤ l.length; omega, by show (l.length : Int) ≤ hands; omega, hok⟩⟩)
    simp [D.rlt, rltL, rltL_ints, encP_rlt, encS_rlt]
end Cm
/-! P7: rows, as plain data. -/
namespace Cm
open PySem PySem.Spec PyProof.Rows L2 SL
abbrev Row := String × List Int
def encR (r : Row) : D := .tup (W r.1 :: r.2.map D.int)
mutual
def rw1 : Tr → Int → List Row
  | .plain w ns, _ => [(w, ns)]
  | .loop k is, n => ("loop", [k, n + (rwL is (n + 1)).length + 2]) :: (rwL is (n + 1) ++ [("next", [n + 1])])
  | .guard is os, n => ("guard", [n + ((rwL is (n + 1)).length + 1 : Nat) + 2]) :: (rwL is (n + 1) ++ [("open", [])] ++ [("jump", [n + ((rwL is (n + 1)).length + 1 : Nat) + 2 + (rwL os (n + ((rwL is (n + 1)).length + 1 : Nat) + 2)).length])] ++ rwL os (n + ((rwL is (n + 1)).length + 1 : Nat) + 2))
  | .case is os, n => ("case", [n + (rwL is (n + 1)).length + 2]) :: (rwL is (n + 1) ++ [("jump", [n + (rwL is (n + 1)).length + 2 + (rwL os (n + (rwL is (n + 1)).length + 2)).length])] ++ rwL os (n + (rwL is (n + 1)).length + 2))
def rwL : List Tr → Int → List Row
  | [], _ => []
  | s :: ss, n => rw1 s n ++ rwL ss (n + (rw1 s n).length)
end
theorem rwL_app : ∀ {ss ts : List Tr} {n : Int}, rwL (ss ++ ts) n = rwL ss n ++ rwL ts (n + (rwL ss n).length)
  | [], ts, n => by simp [rwL]
  | s :: ss, ts, n => by
    show rw1 s n ++ rwL (ss ++ ts) _ = (rw1 s n ++ rwL ss _) ++ rwL ts (n + (rw1 s n ++ rwL ss _).length)
    rw [rwL_app, List.append_assoc, List.length_append]
    congr 2
    rw [show n + (((rw1 s n).length + (rwL ss (n + (rw1 s n).length)).length : Nat) : Int) = n + (rw1 s n).length + (rwL ss (n + (rw1 s n).length)).length by omega]
theorem rw_next {ts : List Tr} {i : Nat} {s : Tr} {n : Int} (h : ts[i]? = some s) : rwL (ts.take (i + 1)) n = rwL (ts.take i) n ++ rw1 s (n + (rwL (ts.take i) n).length) := by
  rw [List.take_add_one, h, rwL_app]
  simp [rwL]
def Bd : Nat → Nat
  | 0 => 0
  | j + 1 => 24 * (2 * Bd j + 3)
theorem rwL_le {a b c e : Nat} : ∀ (j : Nat) {ss : List Tr} {n : Int}, OkL a b c e j ss → (rwL ss n).length ≤ Bd j
  | 0, ss, n, h => by
    have h : ss = [] := h
    subst h
    simp [rwL]
  | j + 1, ss, n, ⟨hl, h⟩ => by
    have one : ∀ (s : Tr) (n : Int), Ok1 a b c e j s → (rw1 s n).length ≤ 2 * Bd j + 3 := by
      intro s n hs
      cases s with
      | plain w ns => simp [rw1]
      | loop k is =>
        have := rwL_le j (n := n + 1) hs.2.2
        simp [rw1]; omega
      | guard is os =>
        have := rwL_le j (n := n + 1) hs.1
        have := rwL_le j (n := n + ((rwL is (n + 1)).length + 1 : Nat) + 2) hs.2
        simp only [rw1, List.length_cons, List.length_append, List.length_nil]; omega
      | case is os =>
        have := rwL_le j (n := n + 1) hs.1
        have := rwL_le j (n := n + (rwL is (n + 1)).length + 2) hs.2
        simp only [rw1, List.length_cons, List.length_append, List.length_nil]; omega
    have all : ∀ (ts : List Tr) (n : Int), (∀ s ∈ ts, Ok1 a b c e j s) → (rwL ts n).length ≤ ts.length * (2 * Bd j + 3) := by
      intro ts
      induction ts with
      | nil => intro _ _; simp [rwL]
      | cons s ts ih =>
        intro n h
        have := one s n (h s (by simp))
        have := ih (n + (rw1 s n).length) fun s hs => h s (by simp [hs])
        simp only [rwL, List.length_append, List.length_cons, Nat.add_mul]
        omega
    have h1 := all ss n h
    have h2 : ss.length * (2 * Bd j + 3) ≤ 24 * (2 * Bd j + 3) := Nat.mul_le_mul_right _ hl
    show _ ≤ 24 * (2 * Bd j + 3)
    omega
theorem Bd_le {j : Nat} (h : j ≤ 4) : Bd j ≤ 8200000 := by
  have : j = 0 ∨ j = 1 ∨ j = 2 ∨ j = 3 ∨ j = 4 := by omega
  rcases this with rfl | rfl | rfl | rfl | rfl <;> simp [Bd]
/-! equal data -/
def pyR (r : Row) : PyData := .tuple (.str (Str.ofString r.1) :: r.2.map PyData.int)
theorem dpyL_ints : ∀ {l : List Int}, dpyL (l.map D.int) = some (l.map PyData.int)
  | [] => rfl
  | x :: l => by
    show (match dpy (.int x), dpyL (l.map D.int) with
      | some x, some xs => some (x :: xs)
      | _, _ => none) = _
    rw [dpyL_ints]; rfl
theorem dpy_row {r : Row} : dpy (encR r) = some (pyR r) := by
  show (dpyL (W r.1 :: r.2.map D.int)).map PyData.tuple = _
  show (match dpy (W r.1), dpyL (r.2.map D.int) with
      | some x, some xs => some (x :: xs)
      | _, _ => none).map PyData.tuple = _
  rw [dpyL_ints]; rfl
theorem dpyL_rows : ∀ {l : List Row}, dpyL (l.map encR) = some (l.map pyR)
  | [] => rfl
  | x :: l => by
    show (match dpy (encR x), dpyL (l.map encR) with
      | some x, some xs => some (x :: xs)
      | _, _ => none) = _
    rw [dpyL_rows, dpy_row]; rfl
theorem lay_ints : ∀ {l : List Int}, PyData.canLayAll0 (l.map PyData.int) = true ∧ PyData.depthAll (l.map PyData.int) = 0
  | [] => ⟨rfl, rfl⟩
  | x :: l => by
    have := @lay_ints l
    simp [PyData.canLayAll0, PyData.canLay0, PyData.depthAll, PyData.depth, this.1, this.2]
theorem lay_rows : ∀ {l : List Row}, PyData.canLayAll0 (l.map pyR) = true ∧ PyData.depthAll (l.map pyR) ≤ 1
  | [] => ⟨rfl, by simp [PyData.depthAll]⟩
  | x :: l => by
    have h := @lay_rows l
    have hs := PySem.SeqAt.canLay_of_shaped (shaped_str (s := x.1))
    have hi := @lay_ints x.2
    simp [PyData.canLayAll0, PyData.canLay0, PyData.depthAll, PyData.depth, h.1, pyR, hi.1, hi.2] at hs ⊢
    exact ⟨hs, by have := h.2; omega⟩
theorem shaped_rows {l : List Row} : SeqAt.shaped (.list (l.map pyR)) = true := by
  have h := @lay_rows l
  simp [SeqAt.shaped, PyData.canLay0, PyData.depth, h.1]
  omega
theorem eqD_same {S : Store} {a b : D} {p : PyData} (ha : dpy (rs S a) = some p) (hb : dpy (rs S b) = some p) (hp : SeqAt.shaped p = true) : eqD S a b = some true := by
  unfold eqD
  rw [ha, hb]
  simp only [hp, Bool.and_self, if_true]
  rw [PySem.SeqAt.eqv_refl p (PySem.SeqAt.canLay_of_shaped hp)]
theorem dpy_rows_lst {S : Store} {l : List Row} : dpy (rs S (.lst (l.map encR))) = some (.list (l.map pyR)) := by
  show (dpyL (l.map encR)).map PyData.list = _
  rw [dpyL_rows]; rfl
theorem dpy_rows_ref {S : Store} {m : Nat} {l : List Row} (h : S[m]? = some (.lst (l.map encR))) : dpy (rs S (.ref m)) = some (.list (l.map pyR)) := by
  have e : rs S (.ref m) = .fro (l.map encR) := by simp only [rs, h]
  rw [e]
  show (dpyL (l.map encR)).map PyData.list = _
  rw [dpyL_rows]; rfl
/-! a store that only grows -/
def Pre (S S' : Store) : Prop := S.length ≤ S'.length ∧ ∀ m, m < S.length → S'[m]? = S[m]?
section
variable {S S' S'' : Store}
theorem Pre.refl : Pre S S := ⟨Nat.le_refl _, fun _ _ => rfl⟩
theorem Pre.trans (h : Pre S S') (h' : Pre S' S'') : Pre S S'' := ⟨Nat.le_trans h.1 h'.1, fun m hm => (h'.2 m (Nat.lt_of_lt_of_le hm h.1)).trans (h.2 m hm)⟩
theorem Pre.app {J : Store} : Pre S (S ++ J) := ⟨by simp, fun m hm => List.getElem?_append_left hm⟩
theorem Pre.set {n : Nat} {o : O} (h : S.length ≤ n) (g : Pre S S') : Pre S (S'.set n o) := ⟨by simp [g.1], fun m hm => by rw [List.getElem?_set_ne (by omega)]; exact g.2 m hm⟩
theorem Pre.get {m : Nat} {o : O} (g : Pre S S') (h : S[m]? = some o) : S'[m]? = some o := by
  rw [g.2 m (List.getElem?_eq_some_iff.mp h).1]; exact h
theorem Pre.split (g : Pre S S') : ∃ J, S' = S ++ J := by
  refine ⟨S'.drop S.length, ?_⟩
  have e : S'.take S.length = S := by
    apply List.ext_getElem?
    intro m
    by_cases h : m < S.length
    · rw [List.getElem?_take, if_pos h]; exact g.2 m h
    · have := g.1
      rw [List.getElem?_eq_none (by simp; omega), List.getElem?_eq_none (by omega)]
  conv => lhs; rw [← List.take_append_drop S.length S', e]
theorem retP_val {Q : D → Store → Prop} {d : D} (g : Pre S S') (hd : ∀ n, d ≠ .ref n) (hr : D.rlt S.length d = true) (q : Q d S) : RetT S Q d S' := by
  obtain ⟨J, rfl⟩ := g.split
  exact retT_val Keep.refl hd hr q
theorem retP_lst {Q : D → Store → Prop} {m : Nat} {l : List D} (g : Pre S S') (hm : S.length ≤ m) (hl : S'[m]? = some (.lst l)) (hr : rltL S.length l = true) (q : Q (.lst l) S) : RetT S Q (.ref m) S' := by
  obtain ⟨J, rfl⟩ := g.split
  exact retT_lst Keep.refl hm hl hr q
end
theorem encR_rlt {n : Nat} : ∀ {l : List Row}, rltL n (l.map encR) = true
  | [] => rfl
  | p :: l => by
    show ((true && rltL n (p.2.map D.int)) && rltL n (l.map encR)) = true
    rw [rltL_ints, encR_rlt]; rfl
theorem g_addLL {S : Store} {a b : D} {x y : List D} {Q : D → Store → Prop} (ha : asL S a = some x) (hb : asL S b = some y) (hs : x.length + y.length ≤ sizeLine) : Got (addM a b S) Q ↔ Q (.lst (x ++ y)) S := by
  cases a with
  | lst l =>
    rw [g_addL]
    cases ha
    exact ⟨fun ⟨z, e, _, q⟩ => by rw [hb] at e; cases e; exact q, fun q => ⟨y, hb, hs, q⟩⟩
  | ref n =>
    rw [g_addR]
    exact ⟨fun ⟨u, z, e, e', _, q⟩ => by rw [ha] at e; rw [hb] at e'; cases e; cases e'; exact q, fun q => ⟨x, y, ha, hb, hs, q⟩⟩
  | _ => cases ha
theorem g_addNN {S : Store} {a b : D} {x y : List D} {Q : D → Store → Prop} (ha : asL S a = some x) (hb : asL S b = some y) (hs : x.length + y.length ≤ sizeLine) : Got (addN a b S) Q ↔ Q (.ref S.length) (S ++ [.lst (x ++ y)]) := by
  rw [g_addN]
  exact ⟨fun ⟨u, z, e, e', _, q⟩ => by rw [ha] at e; rw [hb] at e'; cases e; cases e'; exact q, fun q => ⟨x, y, ha, hb, hs, q⟩⟩
end Cm
/-! SE: what the end of a law needs. -/
namespace SL
open PySem PySem.Spec PyProof.Rows L2
theorem rpL_ints {K : PySem.W.Frag} {W : Wd} : ∀ {ns : List Int}, RpL K W (ns.map D.int) (ns.map V.int)
  | [] => rfl
  | n :: ns => ⟨.int n, ns.map V.int, rfl, rp_int.mpr rfl, rpL_ints⟩
theorem rel_start {K : PySem.W.Frag} {mg : Str → Option Value} {H : Hp} : Rel K mg ⟨fun _ => none, H, fun _ => none⟩ [] H where
  sub _ _ e := e
  grd _ _ e := by cases e
  dom _ _ := rfl
  obj _ _ e := by simp at e
  inj _ _ _ _ _ e := by simp at e
theorem fin_spS {K : PySem.W.Frag} {mg : Str → Option Value} {f : List D → M D} {H : Hp} {a : Addr} {ns : List Int} (hS : SqL K H a (ns.map V.int)) (hf : ∃ S', f [.fro (ns.map D.int)] [] = .ok (.bl true) S') :
    spS K mg 1 f [.ref a] H (fun v _ => v = .bl true) fun _ _ _ => False := by
  obtain ⟨S', e⟩ := hf
  refine ⟨⟨fun _ => none, H, fun _ => none⟩, [], [.fro (ns.map D.int)], rel_start, ⟨_, _, rfl, rp_fro.mpr ⟨a, _, rfl, hS, rpL_ints⟩, rfl⟩, rfl, ?_⟩
  show RPost _ _ _ _ (f [.fro (ns.map D.int)] []) _
  rw [e]
  exact fun W' H' _ _ v h => rp_bl.mp h
theorem kd_mk {K : PySem.W.Frag} {w : World} {d : Addr} {es : Array DictEntry} {n : Nat} {ks : List Str} (h : K.lookup d = some ⟨.type "dict", none, .dict es n, #[]⟩) (hd : (d == sysModules) = false) (hk : es.toList.map He.keyOf = He.keysIn w.params ks) : KdOk K w d ks where
  kd := ⟨es, n, h, He.keysLit_of hk, hd⟩
  at_ z := by
    have noref : ∀ (l : List DictEntry) (ks : List Str), l.map He.keyOf = He.keysIn w.params ks → l.any (·.refKey) = false := by
      intro l
      induction l with
      | nil => intros; rfl
      | cons e l ih =>
        intro ks h
        cases ks with
        | nil => cases h
        | cons k ks =>
          have h : He.keyOf e :: l.map He.keyOf = some (k, PyData.keyHash w.params k) :: He.keysIn w.params ks := h
          injection h with h1 h2
          rw [List.any_cons, ih ks h2]
          unfold He.keyOf at h1
          split at h1
          · rename_i x t q
            simp [DictEntry.refKey, q]
          · cases h1
    have key : ∀ (l : List DictEntry) (ks : List Str), l.map He.keyOf = He.keysIn w.params ks → (l.find? (·.key.isStr z)).isSome = ks.contains z := by
      intro l
      induction l with
      | nil =>
        intro ks h
        cases ks with
        | nil => rfl
        | cons k ks => cases h
      | cons e l ih =>
        intro ks h
        cases ks with
        | nil => cases h
        | cons k ks =>
          have h : He.keyOf e :: l.map He.keyOf = some (k, PyData.keyHash w.params k) :: He.keysIn w.params ks := h
          injection h with h1 h2
          unfold He.keyOf at h1
          split at h1
          · rename_i x t q
            have h1 := (Prod.mk.inj (Option.some.inj h1)).1
            subst h1
            rw [List.find?_cons, q, List.contains_cons, ← ih ks h2]
            by_cases hz : x = z
            · subst hz; simp [Value.isStr]
            · have e1 : (x == z) = false := by simpa using hz
              have e2 : (z == x) = false := by simpa using Ne.symm hz
              simp [Value.isStr, e1, e2]
          · cases h1
    have key2 := key es.toList ks hk
    have nr := noref es.toList ks hk
    show ∃ r, PySem.W.nsIn K d z = some r ∧ _
    unfold PySem.W.nsIn
    rw [h]
    show ∃ r, (match es.toList.find? (·.key.isStr z) with
      | some e => some (some e.val)
      | none => if es.toList.any (·.refKey) then none else some none) = some r ∧ _
    rw [nr]
    cases hf : es.toList.find? (·.key.isStr z) with
    | some e => exact ⟨_, rfl, by rw [← key2, hf]; rfl⟩
    | none => exact ⟨none, rfl, by rw [← key2, hf]; rfl⟩
end SL
namespace K22
open PySem PySem.Spec PyProof.Rows L2 SL Cm
def topS (i : Nat) : Stmt := PySem.Challenge.pw_tiehours_k22_plans_compiled.main.body.getD i (.Pass ⟨0, 0, 0, 0⟩)
abbrev s_rows_of : Stmt := topS 1
abbrev n_rows_of : List Str := ["steps", "start", "found", "step", "word", "rest", "at", "inner", "otherwise", "others"]
theorem sc_rows_of : FnScope n_rows_of ["steps", "start"] (defScope s_rows_of) := ⟨rfl, rfl, rfl, by decide +kernel, rfl, by decide +kernel, by decide +kernel⟩
noncomputable def b_rows_of (rec : List D → M D) : ST :=
  (sSeq (sSet 2 (eNewL aNil))
  (sSeq (sFor (srcSeq (eVar 0)) (gNm 3)
  (sSeq (sAsg (eVar 3) (gStarM 2 1 (gConsM (gNm 4) (gConsM (gNm 5) gNilM))))
  (sSeq (sSet 6 (e2 addM (eVar 1) (eB (one lenM) (aCons (eVar 2) aNil))))
  (sIf (mB (e2 eqM (eVar 4) (eC (.str "loop"))))
  (sSeq (sSet 7 (eCall 2 rec (aCons (e2 ixM (eVar 5) (eC (.int 1))) (aCons (e2 addM (eVar 6) (eC (.int 1))) aNil))))
  (sSet 2 (e2 addN (e2 addM (e2 addM (eVar 2) (eLst (aCons (eTup (aCons (eVar 4) (aCons (e2 ixM (eVar 5) (eC (.int 0))) (aCons (e2 addM (e2 addM (eVar 6) (eB (one lenM) (aCons (eVar 7) aNil))) (eC (.int 2))) aNil)))) aNil))) (eVar 7)) (eLst (aCons (eTup (aCons (eC (.str "next")) (aCons (e2 addM (eVar 6) (eC (.int 1))) aNil))) aNil)))))
  (sIf (tOrM (mB (e2 eqM (eVar 4) (eC (.str "guard")))) (mB (e2 eqM (eVar 4) (eC (.str "case")))))
  (sSeq (sSet 7 (eCall 2 rec (aCons (e2 ixM (eVar 5) (eC (.int 0))) (aCons (e2 addM (eVar 6) (eC (.int 1))) aNil))))
  (sSeq (sSet 7 (eIf (mB (e2 eqM (eVar 4) (eC (.str "guard")))) (e2 addM (eVar 7) (eLst (aCons (eTup (aCons (eC (.str "open")) aNil)) aNil))) (eVar 7)))
  (sSeq (sSet 8 (e2 addM (e2 addM (eVar 6) (eB (one lenM) (aCons (eVar 7) aNil))) (eC (.int 2))))
  (sSeq (sSet 9 (eCall 2 rec (aCons (e2 ixM (eVar 5) (eC (.int 1))) (aCons (eVar 8) aNil))))
  (sSet 2 (e2 addN (e2 addM (e2 addM (e2 addM (eVar 2) (eLst (aCons (eTup (aCons (eVar 4) (aCons (eVar 8) aNil))) aNil))) (eVar 7)) (eLst (aCons (eTup (aCons (eC (.str "jump")) (aCons (e2 addM (eVar 8) (eB (one lenM) (aCons (eVar 9) aNil))) aNil))) aNil))) (eVar 9)))))))
  (sDrop (eMeth "list" (oneA appM) (eVar 2) (aCons (eVar 3) aNil))))))))
  (sRet (eVar 2))))
noncomputable def m_rows_of : Nat → List D → M D
  | 0 => fun _ => M.bad
  | k + 1 => fnP 10 (b_rows_of (m_rows_of k))
abbrev s_compiled : Stmt := topS 2
abbrev n_compiled : List Str := ["plan"]
theorem sc_compiled : FnScope n_compiled ["plan"] (defScope s_compiled) := ⟨rfl, rfl, rfl, by decide +kernel, rfl, by decide +kernel, by decide +kernel⟩
noncomputable def b_compiled : ST :=
  (sRet (eCall 2 (m_rows_of 7) (aCons (eVar 0) (aCons (eC (.int 0)) aNil))))
noncomputable def m_compiled : List D → M D := fnP 1 b_compiled
abbrev s__law_cell : Stmt := topS 4
abbrev n__law_cell : List Str := ["script", "k"]
theorem sc__law_cell : FnScope n__law_cell ["script", "k"] (defScope s__law_cell) := ⟨rfl, rfl, rfl, by decide +kernel, rfl, by decide +kernel, by decide +kernel⟩
abbrev s__law_draws : Stmt := topS 5
abbrev n__law_draws : List Str := ["script", "k", "many", "base", "primes", "cell", "rest", "row", "j", "mash"]
theorem sc__law_draws : FnScope n__law_draws ["script", "k", "many", "base"] (defScope s__law_draws) := ⟨rfl, rfl, rfl, by decide +kernel, rfl, by decide +kernel, by decide +kernel⟩
abbrev s__law_tape : Stmt := topS 6
abbrev n__law_tape : List Str := ["script", "at", "many", "found", "k"]
theorem sc__law_tape : FnScope n__law_tape ["script", "at", "many"] (defScope s__law_tape) := ⟨rfl, rfl, rfl, by decide +kernel, rfl, by decide +kernel, by decide +kernel⟩
abbrev s__law_take : Stmt := topS 7
abbrev n__law_take : List Str := ["tape", "many", "found"]
theorem sc__law_take : FnScope n__law_take ["tape", "many"] (defScope s__law_take) := ⟨rfl, rfl, rfl, by decide +kernel, rfl, by decide +kernel, by decide +kernel⟩
abbrev s__law_plain : Stmt := topS 8
abbrev n__law_plain : List Str := ["tape", "places", "stalls", "belts", "bells", "plans", "word", "first", "many", "number"]
theorem sc__law_plain : FnScope n__law_plain ["tape", "places"] (defScope s__law_plain) := ⟨rfl, rfl, rfl, by decide +kernel, rfl, by decide +kernel, by decide +kernel⟩
abbrev s__law_steps : Stmt := topS 9
abbrev n__law_steps : List Str := ["tape", "places", "deep", "most", "found", "k", "way", "inner", "others", "stall"]
theorem sc__law_steps : FnScope n__law_steps ["tape", "places", "deep", "most"] (defScope s__law_steps) := ⟨rfl, rfl, rfl, by decide +kernel, rfl, by decide +kernel, by decide +kernel⟩
abbrev s__law_weight : Stmt := topS 10
abbrev n__law_weight : List Str := ["steps", "total", "step"]
theorem sc__law_weight : FnScope n__law_weight ["steps"] (defScope s__law_weight) := ⟨rfl, rfl, rfl, by decide +kernel, rfl, by decide +kernel, by decide +kernel⟩
abbrev s__law_plan : Stmt := topS 11
abbrev n__law_plan : List Str := ["tape", "places", "most", "plan"]
theorem sc__law_plan : FnScope n__law_plan ["tape", "places", "most"] (defScope s__law_plan) := ⟨rfl, rfl, rfl, by decide +kernel, rfl, by decide +kernel, by decide +kernel⟩
abbrev s__law_scene : Stmt := topS 12
abbrev n__law_scene : List Str := ["script", "at", "most", "hands", "tape", "stalls", "belts", "bells", "many", "places", "plans", "starts", "k", "time"]
theorem sc__law_scene : FnScope n__law_scene ["script", "at", "most", "hands"] (defScope s__law_scene) := ⟨rfl, rfl, rfl, by decide +kernel, rfl, by decide +kernel, by decide +kernel⟩
abbrev s__law_rows : Stmt := topS 13
abbrev n__law_rows : List Str := ["steps", "start", "found", "step", "at", "inner", "others"]
theorem sc__law_rows : FnScope n__law_rows ["steps", "start"] (defScope s__law_rows) := ⟨rfl, rfl, rfl, by decide +kernel, rfl, by decide +kernel, by decide +kernel⟩
noncomputable def b__law_rows (rec : List D → M D) : ST :=
  (sSeq (sSet 2 (eNewL aNil))
  (sSeq (sFor (srcSeq (eVar 0)) (gNm 3)
  (sSeq (sSet 4 (e2 addM (eVar 1) (eB (one lenM) (aCons (eVar 2) aNil))))
  (sIf (mB (e2 eqM (e2 ixM (eVar 3) (eC (.int 0))) (eC (.str "loop"))))
  (sSeq (sSet 5 (eCall 2 rec (aCons (e2 ixM (eVar 3) (eC (.int 2))) (aCons (e2 addM (eVar 4) (eC (.int 1))) aNil))))
  (sSet 2 (e2 addN (e2 addM (e2 addM (eVar 2) (eLst (aCons (eTup (aCons (eC (.str "loop")) (aCons (e2 ixM (eVar 3) (eC (.int 1))) (aCons (e2 addM (e2 addM (eVar 4) (eC (.int 2))) (eB (one lenM) (aCons (eVar 5) aNil))) aNil)))) aNil))) (eVar 5)) (eLst (aCons (eTup (aCons (eC (.str "next")) (aCons (e2 addM (eVar 4) (eC (.int 1))) aNil))) aNil)))))
  (sIf (mB (e2 inF (e2 ixM (eVar 3) (eC (.int 0))) (eTup (aCons (eC (.str "guard")) (aCons (eC (.str "case")) aNil)))))
  (sSeq (sSet 5 (e2 addM (eCall 2 rec (aCons (e2 ixM (eVar 3) (eC (.int 1))) (aCons (e2 addM (eVar 4) (eC (.int 1))) aNil))) (e2 repL (eLst (aCons (eTup (aCons (eC (.str "open")) aNil)) aNil)) (eB (one intM) (aCons (e2 eqM (e2 ixM (eVar 3) (eC (.int 0))) (eC (.str "guard"))) aNil)))))
  (sSeq (sSet 6 (eCall 2 rec (aCons (e2 ixM (eVar 3) (eC (.int 2))) (aCons (e2 addM (e2 addM (eVar 4) (eC (.int 2))) (eB (one lenM) (aCons (eVar 5) aNil))) aNil))))
  (sSeq (sSet 2 (e2 addN (e2 addM (eVar 2) (eLst (aCons (eTup (aCons (e2 ixM (eVar 3) (eC (.int 0))) (aCons (e2 addM (e2 addM (eVar 4) (eC (.int 2))) (eB (one lenM) (aCons (eVar 5) aNil))) aNil))) aNil))) (eVar 5)))
  (sSet 2 (e2 addN (e2 addM (eVar 2) (eLst (aCons (eTup (aCons (eC (.str "jump")) (aCons (e2 addM (e2 addM (e2 addM (eVar 4) (eC (.int 2))) (eB (one lenM) (aCons (eVar 5) aNil))) (eB (one lenM) (aCons (eVar 6) aNil))) aNil))) aNil))) (eVar 6))))))
  (sDrop (eMeth "list" (oneA appM) (eVar 2) (aCons (eVar 3) aNil)))))))
  (sRet (eVar 2))))
noncomputable def m__law_rows : Nat → List D → M D
  | 0 => fun _ => M.bad
  | k + 1 => fnT 7 (b__law_rows (m__law_rows k))
abbrev s_law : Stmt := topS 14
abbrev n_law : List Str := ["script", "at", "plan", "found"]
theorem sc_law : FnScope n_law ["script"] (defScope s_law) := ⟨rfl, rfl, rfl, by decide +kernel, rfl, by decide +kernel, by decide +kernel⟩
noncomputable def b_law : ST :=
  (sSeq (sFor (srcSeq (eTup (aCons (eC (.int 0)) (aCons (eC (.int 8)) (aCons (eC (.int 16)) aNil))))) (gNm 1)
  (sFor (srcSeq (e2 ixM (eCall 4 m__law_scene (aCons (eVar 0) (aCons (eVar 1) (aCons (eC (.int 6)) (aCons (eC (.int 2)) aNil))))) (eC (.int 3)))) (gNm 2)
  (sSeq (sSet 3 (eCall 1 m_compiled (aCons (eVar 2) aNil)))
  (sSeq (sIf (tOrM (mB (e2 neM (eVar 3) (eCall 2 (m__law_rows 7) (aCons (eVar 2) (aCons (eC (.int 0)) aNil))))) (tNotM (mB (e1 (isiM "list") (eVar 3)))))
  (sRet (eC (.bl false)))
  sNext)
  (sSeq (sDrop (eMeth "list" (oneA appM) (eVar 3) (aCons (eC (.int 0)) aNil)))
  (sIf (mB (e2 neM (eCall 1 m_compiled (aCons (eVar 2) aNil)) (eSl (eVar 3) oNone (oSome (e1 negM (eC (.int 1)))))))
  (sRet (eC (.bl false)))
  sNext))))))
  (sRet (eC (.bl true))))
noncomputable def m_law : List D → M D := fnT 4 b_law
structure Txt (w : World) (K : PySem.W.Frag) (mg : Str → Option Value) where
  a_rows_of : Addr
  fd_rows_of : FuncData
  F_rows_of : Fun K "rows_of" "rows_of" s_rows_of a_rows_of fd_rows_of
  g_rows_of : mg "rows_of" = some (.ref a_rows_of)
  B_rows_of : Binds K fd_rows_of ["steps", "start"] []
  a_compiled : Addr
  fd_compiled : FuncData
  F_compiled : Fun K "compiled" "compiled" s_compiled a_compiled fd_compiled
  g_compiled : mg "compiled" = some (.ref a_compiled)
  B_compiled : Binds K fd_compiled ["plan"] []
  a__law_cell : Addr
  fd__law_cell : FuncData
  F__law_cell : Fun K "_law_cell" "_law_cell" s__law_cell a__law_cell fd__law_cell
  g__law_cell : mg "_law_cell" = some (.ref a__law_cell)
  B__law_cell : Binds K fd__law_cell ["script", "k"] []
  a__law_draws : Addr
  fd__law_draws : FuncData
  F__law_draws : Fun K "_law_draws" "_law_draws" s__law_draws a__law_draws fd__law_draws
  g__law_draws : mg "_law_draws" = some (.ref a__law_draws)
  B__law_draws : Binds K fd__law_draws ["script", "k", "many", "base"] []
  a__law_tape : Addr
  fd__law_tape : FuncData
  F__law_tape : Fun K "_law_tape" "_law_tape" s__law_tape a__law_tape fd__law_tape
  g__law_tape : mg "_law_tape" = some (.ref a__law_tape)
  B__law_tape : Binds K fd__law_tape ["script", "at", "many"] []
  a__law_take : Addr
  fd__law_take : FuncData
  F__law_take : Fun K "_law_take" "_law_take" s__law_take a__law_take fd__law_take
  g__law_take : mg "_law_take" = some (.ref a__law_take)
  B__law_take : Binds K fd__law_take ["tape", "many"] []
  a__law_plain : Addr
  fd__law_plain : FuncData
  F__law_plain : Fun K "_law_plain" "_law_plain" s__law_plain a__law_plain fd__law_plain
  g__law_plain : mg "_law_plain" = some (.ref a__law_plain)
  B__law_plain : Binds K fd__law_plain ["tape", "places"] []
  a__law_steps : Addr
  fd__law_steps : FuncData
  F__law_steps : Fun K "_law_steps" "_law_steps" s__law_steps a__law_steps fd__law_steps
  g__law_steps : mg "_law_steps" = some (.ref a__law_steps)
  B__law_steps : Binds K fd__law_steps ["tape", "places", "deep", "most"] []
  a__law_weight : Addr
  fd__law_weight : FuncData
  F__law_weight : Fun K "_law_weight" "_law_weight" s__law_weight a__law_weight fd__law_weight
  g__law_weight : mg "_law_weight" = some (.ref a__law_weight)
  B__law_weight : Binds K fd__law_weight ["steps"] []
  a__law_plan : Addr
  fd__law_plan : FuncData
  F__law_plan : Fun K "_law_plan" "_law_plan" s__law_plan a__law_plan fd__law_plan
  g__law_plan : mg "_law_plan" = some (.ref a__law_plan)
  B__law_plan : Binds K fd__law_plan ["tape", "places", "most"] []
  a__law_scene : Addr
  fd__law_scene : FuncData
  F__law_scene : Fun K "_law_scene" "_law_scene" s__law_scene a__law_scene fd__law_scene
  g__law_scene : mg "_law_scene" = some (.ref a__law_scene)
  B__law_scene : Binds K fd__law_scene ["script", "at", "most", "hands"] []
  a__law_rows : Addr
  fd__law_rows : FuncData
  F__law_rows : Fun K "_law_rows" "_law_rows" s__law_rows a__law_rows fd__law_rows
  g__law_rows : mg "_law_rows" = some (.ref a__law_rows)
  B__law_rows : Binds K fd__law_rows ["steps", "start"] []
  a_law : Addr
  fd_law : FuncData
  F_law : Fun K "law" "law" s_law a_law fd_law
  g_law : mg "law" = some (.ref a_law)
  B_law : Binds K fd_law ["script"] []
  n_int : mg "int" = none
  n_isinstance : mg "isinstance" = none
  n_len : mg "len" = none
  n_list : mg "list" = none
  n_range : mg "range" = none
  n_tuple : mg "tuple" = none
end K22
namespace K22
open PySem PySem.Spec PyProof.Rows L2 SL Cm
variable {P : Program} {w : World} {K : PySem.W.Frag} {mg : Str → Option Value} {base : Heap}
theorem ok_rows_of (T : Txt w K mg) : ∀ k, FnOk P w K mg base CX0 (0 + k) T.a_rows_of T.fd_rows_of ["steps", "start"] (spS K mg 2 (m_rows_of k))
  | 0 => fn_bad
  | k + 1 => fnP_ok (N := n_rows_of) (ps := ["steps", "start"]) (k := 0 + k) (m := b_rows_of (m_rows_of k)) T.F_rows_of sc_rows_of fun cdv A outer s H E hr => by
    have rec_ok := ok_rows_of T k
    unfold b_rows_of
    exact (pssi_cons (psi_set (i := 2) sc_rows_of.nd rfl (by first | exact Or.inl rfl | exact Or.inr rfl) (pei_newL pai_nil))
    (pssi_cons (psi_for PassesOwn.never rfl (pii_seq (iv 0)) (pgi_name (i := 3) sc_rows_of.nd rfl (by first | exact Or.inl rfl | exact Or.inr rfl))
    (pssi_cons (psi_asg (iv 3) (pgi_star rfl (pgsi_cons (pgi_name (i := 4) sc_rows_of.nd rfl (by first | exact Or.inl rfl | exact Or.inr rfl)) (pgsi_star (pgi_name (i := 5) sc_rows_of.nd rfl (by first | exact Or.inl rfl | exact Or.inr rfl)) pgsi_nil))))
    (pssi_cons (psi_set (i := 6) sc_rows_of.nd rfl (by first | exact Or.inl rfl | exact Or.inr rfl) (pei_op o_add (iv 1) (pei_callB c_len (by rfl) T.n_len (by decide +kernel) (pai_cons (iv 2) pai_nil))))
    (pssi_one (psi_if (pti_cmp (o_eq hr.units) (iv 4) pei_str (nomark _))
    (pssi_cons (psi_set (i := 7) sc_rows_of.nd rfl (by first | exact Or.inl rfl | exact Or.inr rfl) (pei_call rec_ok hr (by rfl) T.g_rows_of T.F_rows_of.kp T.B_rows_of pass0 (pai_cons (pei_ix (iv 5) pei_int (fun _ _ => rfl)) (pai_cons (pei_op o_add (iv 6) pei_int) pai_nil))))
    (pssi_one (psi_set (i := 2) sc_rows_of.nd rfl (by first | exact Or.inl rfl | exact Or.inr rfl) (pei_op o_addN (pei_op o_add (pei_op o_add (iv 2) (pei_lst (pai_cons (pei_tup (pai_cons (iv 4) (pai_cons (pei_ix (iv 5) pei_int (fun _ _ => rfl)) (pai_cons (pei_op o_add (pei_op o_add (iv 6) (pei_callB c_len (by rfl) T.n_len (by decide +kernel) (pai_cons (iv 7) pai_nil))) pei_int) pai_nil)))) pai_nil))) (iv 7)) (pei_lst (pai_cons (pei_tup (pai_cons pei_str (pai_cons (pei_op o_add (iv 6) pei_int) pai_nil))) pai_nil))))))
    (pssi_one (psi_if (pti_w (pwi_or (pti_cmp (o_eq hr.units) (iv 4) pei_str (nomark _)) (pwi_or1 (pti_cmp (o_eq hr.units) (iv 4) pei_str (nomark _)))))
    (pssi_cons (psi_set (i := 7) sc_rows_of.nd rfl (by first | exact Or.inl rfl | exact Or.inr rfl) (pei_call rec_ok hr (by rfl) T.g_rows_of T.F_rows_of.kp T.B_rows_of pass0 (pai_cons (pei_ix (iv 5) pei_int (fun _ _ => rfl)) (pai_cons (pei_op o_add (iv 6) pei_int) pai_nil))))
    (pssi_cons (psi_set (i := 7) sc_rows_of.nd rfl (by first | exact Or.inl rfl | exact Or.inr rfl) (pei_ifExp (pti_cmp (o_eq hr.units) (iv 4) pei_str (nomark _)) (pei_op o_add (iv 7) (pei_lst (pai_cons (pei_tup (pai_cons pei_str pai_nil)) pai_nil))) (iv 7)))
    (pssi_cons (psi_set (i := 8) sc_rows_of.nd rfl (by first | exact Or.inl rfl | exact Or.inr rfl) (pei_op o_add (pei_op o_add (iv 6) (pei_callB c_len (by rfl) T.n_len (by decide +kernel) (pai_cons (iv 7) pai_nil))) pei_int))
    (pssi_cons (psi_set (i := 9) sc_rows_of.nd rfl (by first | exact Or.inl rfl | exact Or.inr rfl) (pei_call rec_ok hr (by rfl) T.g_rows_of T.F_rows_of.kp T.B_rows_of pass0 (pai_cons (pei_ix (iv 5) pei_int (fun _ _ => rfl)) (pai_cons (iv 8) pai_nil))))
    (pssi_one (psi_set (i := 2) sc_rows_of.nd rfl (by first | exact Or.inl rfl | exact Or.inr rfl) (pei_op o_addN (pei_op o_add (pei_op o_add (pei_op o_add (iv 2) (pei_lst (pai_cons (pei_tup (pai_cons (iv 4) (pai_cons (iv 8) pai_nil))) pai_nil))) (iv 7)) (pei_lst (pai_cons (pei_tup (pai_cons pei_str (pai_cons (pei_op o_add (iv 8) (pei_callB c_len (by rfl) T.n_len (by decide +kernel) (pai_cons (iv 9) pai_nil))) pai_nil))) pai_nil))) (iv 9))))))))
    (pssi_one (psi_expr (pei_lm PySem.F.slot_list_append PySem.F.type_list_append m_append (iv 2) (pai_cons (iv 3) pai_nil)))))))))))
    (pssi_one (psi_ret (iv 2)))))
end K22
namespace K22
open PySem PySem.Spec PyProof.Rows L2 SL Cm
variable {P : Program} {w : World} {K : PySem.W.Frag} {mg : Str → Option Value} {base : Heap}
theorem ok_compiled (T : Txt w K mg) : FnOk P w K mg base CX0 8 T.a_compiled T.fd_compiled ["plan"] (spS K mg 1 m_compiled) :=
  fnP_ok (N := n_compiled) (ps := ["plan"]) (k := 7) (m := b_compiled) T.F_compiled sc_compiled fun cdv A outer s H E hr => by
    unfold b_compiled
    exact (pssi_one (psi_ret (pei_call (ok_rows_of T 7) (hr.mono (by omega)) (by rfl) T.g_rows_of T.F_rows_of.kp T.B_rows_of pass0 (pai_cons (iv 0) (pai_cons pei_int pai_nil)))))
end K22
namespace K22
open PySem PySem.Spec PyProof.Rows L2 SL Cm
variable {P : Program} {w : World} {K : PySem.W.Frag} {mg : Str → Option Value} {base : Heap}
theorem ok__law_cell (T : Txt w K mg) : FnOk P w K mg base CX0 1 T.a__law_cell T.fd__law_cell ["script", "k"] (spS K mg 2 m__law_cell) :=
  fnT_ok (N := n__law_cell) (ps := ["script", "k"]) (k := 0) (m := b__law_cell) T.F__law_cell sc__law_cell fun cdv A outer s H E hr => by
    unfold b__law_cell
    exact (pssi_cons (psi_if (pti_cmp o_lt (iv 1) (pei_callB c_len (by rfl) T.n_len (by decide +kernel) (pai_cons (iv 0) pai_nil)) (nomark _))
    (pssi_one (psi_ret (pei_ix (iv 0) (iv 1) (fun _ _ => rfl))))
    pssi_nil)
    (pssi_cons (psi_if (pti_cmp (o_eq hr.units) (pei_callB c_len (by rfl) T.n_len (by decide +kernel) (pai_cons (iv 0) pai_nil)) pei_int (nomark _))
    (pssi_one (psi_ret (pei_op o_add (pei_op o_mul pei_int (iv 1)) pei_int)))
    pssi_nil)
    (pssi_one (psi_ret (pei_op o_add (pei_op o_mod (pei_ix (iv 0) (pei_op o_mod (iv 1) (pei_callB c_len (by rfl) T.n_len (by decide +kernel) (pai_cons (iv 0) pai_nil))) (fun _ _ => rfl)) pei_int) (pei_op o_mul pei_int (iv 1)))))))
end K22
namespace K22
open PySem PySem.Spec PyProof.Rows L2 SL Cm
variable {P : Program} {w : World} {K : PySem.W.Frag} {mg : Str → Option Value} {base : Heap}
theorem ok__law_draws (T : Txt w K mg) : FnOk P w K mg base CX0 2 T.a__law_draws T.fd__law_draws ["script", "k", "many", "base"] (spS K mg 4 m__law_draws) :=
  fnT_ok (N := n__law_draws) (ps := ["script", "k", "many", "base"]) (k := 1) (m := b__law_draws) T.F__law_draws sc__law_draws fun cdv A outer s H E hr => by
    unfold b__law_draws
    exact (pssi_cons (psi_set (i := 4) sc__law_draws.nd rfl (by first | exact Or.inl rfl | exact Or.inr rfl) (pei_tup (pai_cons pei_int (pai_cons pei_int (pai_cons pei_int (pai_cons pei_int (pai_cons pei_int (pai_cons pei_int (pai_cons pei_int (pai_cons pei_int pai_nil))))))))))
    (pssi_cons (psi_set (i := 5) sc__law_draws.nd rfl (by first | exact Or.inl rfl | exact Or.inr rfl) (pei_call (ok__law_cell T) (hr.mono (by omega)) (by rfl) T.g__law_cell T.F__law_cell.kp T.B__law_cell pass0 (pai_cons (iv 0) (pai_cons (iv 1) pai_nil))))
    (pssi_cons (psi_set (i := 6) sc__law_draws.nd rfl (by first | exact Or.inl rfl | exact Or.inr rfl) pei_int)
    (pssi_cons (psi_if (pti_cmp o_ge (iv 5) (pei_op o_pow pei_int pei_int) (nomark _))
    (pssi_one (psi_set (i := 6) sc__law_draws.nd rfl (by first | exact Or.inl rfl | exact Or.inr rfl) (iv 5)))
    pssi_nil)
    (pssi_cons (psi_set (i := 7) sc__law_draws.nd rfl (by first | exact Or.inl rfl | exact Or.inr rfl) (pei_newL pai_nil))
    (pssi_cons (psi_for PassesOwn.never rfl (pii_range (by rfl) T.n_range (pai_cons (iv 2) pai_nil)) (pgi_name (i := 8) sc__law_draws.nd rfl (by first | exact Or.inl rfl | exact Or.inr rfl))
    (pssi_cons (psi_set (i := 9) sc__law_draws.nd rfl (by first | exact Or.inl rfl | exact Or.inr rfl) (pei_op o_mul (pei_op o_mod (iv 5) (pei_ix (iv 4) (pei_op o_mod (iv 8) pei_int) (fun _ _ => rfl))) (pei_op o_add pei_int (pei_op o_mul (pei_op o_mul pei_int (iv 8)) (iv 8)))))
    (pssi_cons (psi_set (i := 9) sc__law_draws.nd rfl (by first | exact Or.inl rfl | exact Or.inr rfl) (pei_op o_add (pei_op o_add (iv 9) (pei_op o_mul (pei_op o_mul pei_int (pei_op o_add (iv 8) pei_int)) (pei_op o_add (iv 8) pei_int))) (pei_op o_mul pei_int (iv 1))))
    (pssi_cons (psi_set (i := 9) sc__law_draws.nd rfl (by first | exact Or.inl rfl | exact Or.inr rfl) (pei_op o_mod (iv 9) (pei_ix (iv 4) (pei_op o_mod (pei_op o_add (pei_op o_mul pei_int (iv 8)) (iv 1)) pei_int) (fun _ _ => rfl))))
    (pssi_cons (psi_set (i := 9) sc__law_draws.nd rfl (by first | exact Or.inl rfl | exact Or.inr rfl) (pei_op o_mod (pei_op o_mul (pei_op o_mul (iv 9) (iv 9)) (iv 9)) (pei_ix (iv 4) (pei_op o_mod (pei_op o_add (iv 8) pei_int) pei_int) (fun _ _ => rfl))))
    (pssi_cons (psi_if (pti_cmp o_gt (iv 6) pei_int (nomark _))
    (pssi_one (psi_set (i := 9) sc__law_draws.nd rfl (by first | exact Or.inl rfl | exact Or.inr rfl) (iv 6)))
    pssi_nil)
    (pssi_cons (psi_expr (pei_lm PySem.F.slot_list_append PySem.F.type_list_append m_append (iv 7) (pai_cons (pei_op o_mod (iv 9) (iv 3)) pai_nil)))
    (pssi_one (psi_set (i := 6) sc__law_draws.nd rfl (by first | exact Or.inl rfl | exact Or.inr rfl) (pei_op o_div (iv 6) (iv 3)))))))))))
    (pssi_one (psi_ret (iv 7)))))))))
end K22
namespace K22
open PySem PySem.Spec PyProof.Rows L2 SL Cm
variable {P : Program} {w : World} {K : PySem.W.Frag} {mg : Str → Option Value} {base : Heap}
theorem ok__law_tape (T : Txt w K mg) : FnOk P w K mg base CX0 3 T.a__law_tape T.fd__law_tape ["script", "at", "many"] (spS K mg 3 m__law_tape) :=
  fnP_ok (N := n__law_tape) (ps := ["script", "at", "many"]) (k := 2) (m := b__law_tape) T.F__law_tape sc__law_tape fun cdv A outer s H E hr => by
    unfold b__law_tape
    exact (pssi_cons (psi_set (i := 3) sc__law_tape.nd rfl (by first | exact Or.inl rfl | exact Or.inr rfl) (pei_lst pai_nil))
    (pssi_cons (psi_for PassesOwn.never rfl (pii_range (by rfl) T.n_range (pai_cons (iv 2) pai_nil)) (pgi_name (i := 4) sc__law_tape.nd rfl (by first | exact Or.inl rfl | exact Or.inr rfl))
    (pssi_one (psi_set (i := 3) sc__law_tape.nd rfl (by first | exact Or.inl rfl | exact Or.inr rfl) (pei_op o_add (iv 3) (pei_call (ok__law_draws T) (hr.mono (by omega)) (by rfl) T.g__law_draws T.F__law_draws.kp T.B__law_draws pass0 (pai_cons (iv 0) (pai_cons (pei_op o_add (iv 1) (iv 4)) (pai_cons pei_int (pai_cons pei_int pai_nil)))))))))
    (pssi_one (psi_ret (pei_newL (pai_cons (iv 3) (pai_cons pei_int pai_nil)))))))
end K22
namespace K22
open PySem PySem.Spec PyProof.Rows L2 SL Cm
variable {P : Program} {w : World} {K : PySem.W.Frag} {mg : Str → Option Value} {base : Heap}
theorem ok__law_take (T : Txt w K mg) : FnOk P w K mg base CX0 1 T.a__law_take T.fd__law_take ["tape", "many"] (spS K mg 2 m__law_take) :=
  fnT_ok (N := n__law_take) (ps := ["tape", "many"]) (k := 0) (m := b__law_take) T.F__law_take sc__law_take fun cdv A outer s H E hr => by
    unfold b__law_take
    exact (pssi_cons (psi_set (i := 2) sc__law_take.nd rfl (by first | exact Or.inl rfl | exact Or.inr rfl) (pei_op o_mod (pei_ix (pei_ix (iv 0) pei_int (fun _ _ => rfl)) (pei_op o_mod (pei_ix (iv 0) pei_int (fun _ _ => rfl)) (pei_callB c_len (by rfl) T.n_len (by decide +kernel) (pai_cons (pei_ix (iv 0) pei_int (fun _ _ => rfl)) pai_nil))) (fun _ _ => rfl)) (iv 1)))
    (pssi_cons (psi_asg (pei_op o_add (pei_ix (iv 0) pei_int (fun _ _ => rfl)) pei_int) (pgi_sub (iv 0) pei_int))
    (pssi_one (psi_ret (iv 2)))))
end K22
namespace K22
open PySem PySem.Spec PyProof.Rows L2 SL Cm
variable {P : Program} {w : World} {K : PySem.W.Frag} {mg : Str → Option Value} {base : Heap}
theorem ok__law_plain (T : Txt w K mg) : FnOk P w K mg base CX0 2 T.a__law_plain T.fd__law_plain ["tape", "places"] (spS K mg 2 m__law_plain) :=
  fnT_ok (N := n__law_plain) (ps := ["tape", "places"]) (k := 1) (m := b__law_plain) T.F__law_plain sc__law_plain fun cdv A outer s H E hr => by
    unfold b__law_plain
    exact (pssi_cons (psi_asg (iv 1) (pgi_seq rfl (pgsi_cons (pgi_name (i := 2) sc__law_plain.nd rfl (by first | exact Or.inl rfl | exact Or.inr rfl)) (pgsi_cons (pgi_name (i := 3) sc__law_plain.nd rfl (by first | exact Or.inl rfl | exact Or.inr rfl)) (pgsi_cons (pgi_name (i := 4) sc__law_plain.nd rfl (by first | exact Or.inl rfl | exact Or.inr rfl)) (pgsi_cons (pgi_name (i := 5) sc__law_plain.nd rfl (by first | exact Or.inl rfl | exact Or.inr rfl)) pgsi_nil))))))
    (pssi_cons (psi_set (i := 6) sc__law_plain.nd rfl (by first | exact Or.inl rfl | exact Or.inr rfl) (pei_lst (pai_cons pei_str (pai_cons pei_str (pai_cons pei_str (pai_cons pei_str (pai_cons pei_str (pai_cons pei_str (pai_cons pei_str (pai_cons pei_str (pai_cons pei_str (pai_cons pei_str (pai_cons pei_str (pai_cons pei_str (pai_cons pei_str pai_nil)))))))))))))))
    (pssi_cons (psi_set (i := 6) sc__law_plain.nd rfl (by first | exact Or.inl rfl | exact Or.inr rfl) (pei_ix (pei_op o_add (iv 6) (pei_lst (pai_cons pei_str (pai_cons pei_str (pai_cons pei_str (pai_cons pei_str (pai_cons pei_str pai_nil))))))) (pei_call (ok__law_take T) (hr.mono (by omega)) (by rfl) T.g__law_take T.F__law_take.kp T.B__law_take pass0 (pai_cons (iv 0) (pai_cons pei_int pai_nil))) (fun _ _ => rfl)))
    (pssi_cons (psi_set (i := 7) sc__law_plain.nd rfl (by first | exact Or.inl rfl | exact Or.inr rfl) (pei_disp (ppi_cons pei_str (iv 2) (ppi_cons pei_str (iv 2) (ppi_cons pei_str (iv 3) (ppi_cons pei_str (iv 3) (ppi_cons pei_str (iv 4) (ppi_cons pei_str (iv 4) (ppi_cons pei_str (iv 5) ppi_nil))))))) (by rfl) (by rfl) (fun z => by cases z) (by decide)))
    (pssi_cons (psi_set (i := 8) sc__law_plain.nd rfl (by first | exact Or.inl rfl | exact Or.inr rfl) (pei_dget2 (hu_of hr) (iv 7) (iv 6) pei_int ⟨rfl, rfl, rfl, rfl⟩))
    (pssi_cons (psi_if (pti_w (pwi_or (pti_cmp (o_eq hr.units) (iv 8) pei_int (nomark _)) (pwi_or1 (pti_w (pwi_and (pti_cmp (o_eq hr.units) (iv 6) pei_str (nomark _)) (pwi_and1 (pti_cmp o_gt (pei_call (ok__law_take T) (hr.mono (by omega)) (by rfl) T.g__law_take T.F__law_take.kp T.B__law_take pass0 (pai_cons (iv 0) (pai_cons pei_int pai_nil))) pei_int (nomark _))))))))
    (pssi_cons (psi_set (i := 6) sc__law_plain.nd rfl (by first | exact Or.inl rfl | exact Or.inr rfl) pei_str)
    (pssi_one (psi_set (i := 8) sc__law_plain.nd rfl (by first | exact Or.inl rfl | exact Or.inr rfl) pei_int)))
    pssi_nil)
    (pssi_cons (psi_set (i := 9) sc__law_plain.nd rfl (by first | exact Or.inl rfl | exact Or.inr rfl) (pei_call (ok__law_take T) (hr.mono (by omega)) (by rfl) T.g__law_take T.F__law_take.kp T.B__law_take pass0 (pai_cons (iv 0) (pai_cons (iv 8) pai_nil))))
    (pssi_cons (psi_if (pti_cmp (o_eq hr.units) (iv 6) pei_str (nomark _))
    (pssi_one (psi_ret (pei_tup (pai_cons (iv 6) (pai_cons (pei_ix (pei_lst (pai_cons (iv 9) (pai_cons pei_int (pai_cons pei_int (pai_cons pei_int (pai_cons pei_int (pai_cons (pei_op o_mul pei_int (iv 9)) pai_nil))))))) (pei_call (ok__law_take T) (hr.mono (by omega)) (by rfl) T.g__law_take T.F__law_take.kp T.B__law_take pass0 (pai_cons (iv 0) (pai_cons pei_int pai_nil))) (fun _ _ => rfl)) pai_nil)))))
    pssi_nil)
    (pssi_cons (psi_if (pti_cmp (o_eq hr.units) (iv 6) pei_str (nomark _))
    (pssi_one (psi_ret (pei_tup (pai_cons (iv 6) (pai_cons (pei_ix (pei_lst (pai_cons (iv 9) (pai_cons pei_int (pai_cons pei_int pai_nil)))) (pei_call (ok__law_take T) (hr.mono (by omega)) (by rfl) T.g__law_take T.F__law_take.kp T.B__law_take pass0 (pai_cons (iv 0) (pai_cons pei_int pai_nil))) (fun _ _ => rfl)) pai_nil)))))
    pssi_nil)
    (pssi_cons (psi_if (pti_cmp (o_eq hr.units) (iv 6) pei_str (nomark _))
    (pssi_one (psi_ret (pei_tup (pai_cons (iv 6) (pai_cons (iv 9) (pai_cons (pei_ix (pei_lst (pai_cons pei_int (pai_cons pei_int (pai_cons pei_int (pai_cons pei_int pai_nil))))) (pei_call (ok__law_take T) (hr.mono (by omega)) (by rfl) T.g__law_take T.F__law_take.kp T.B__law_take pass0 (pai_cons (iv 0) (pai_cons pei_int pai_nil))) (fun _ _ => rfl)) pai_nil))))))
    pssi_nil)
    (pssi_cons (psi_if (pti_cmp (o_eq hr.units) (iv 6) pei_str (nomark _))
    (pssi_one (psi_ret (pei_tup (pai_cons (iv 6) (pai_cons (iv 9) (pai_cons (pei_call (ok__law_take T) (hr.mono (by omega)) (by rfl) T.g__law_take T.F__law_take.kp T.B__law_take pass0 (pai_cons (iv 0) (pai_cons pei_int pai_nil))) pai_nil))))))
    pssi_nil)
    (pssi_cons (psi_if (pti_cmp o_inF (iv 6) (pei_tup (pai_cons pei_str (pai_cons pei_str (pai_cons pei_str pai_nil)))) (by rfl))
    (pssi_one (psi_ret (pei_tup (pai_cons (iv 6) (pai_cons (pei_ix (pei_lst (pai_cons (iv 9) (pai_cons (iv 9) (pai_cons pei_int pai_nil)))) (pei_call (ok__law_take T) (hr.mono (by omega)) (by rfl) T.g__law_take T.F__law_take.kp T.B__law_take pass0 (pai_cons (iv 0) (pai_cons pei_int pai_nil))) (fun _ _ => rfl)) pai_nil)))))
    pssi_nil)
    (pssi_one (psi_ret (pei_ifExp (pti_cmp (o_eq hr.units) (iv 6) pei_str (nomark _)) (pei_tup (pai_cons (iv 6) pai_nil)) (pei_tup (pai_cons (iv 6) (pai_cons (iv 9) pai_nil))))))))))))))))))
end K22
namespace K22
open PySem PySem.Spec PyProof.Rows L2 SL Cm
variable {P : Program} {w : World} {K : PySem.W.Frag} {mg : Str → Option Value} {base : Heap}
theorem ok__law_steps (T : Txt w K mg) : ∀ k, FnOk P w K mg base CX0 (2 + k) T.a__law_steps T.fd__law_steps ["tape", "places", "deep", "most"] (spS K mg 4 (m__law_steps k))
  | 0 => fn_bad
  | k + 1 => fnT_ok (N := n__law_steps) (ps := ["tape", "places", "deep", "most"]) (k := 2 + k) (m := b__law_steps (m__law_steps k)) T.F__law_steps sc__law_steps fun cdv A outer s H E hr => by
    have rec_ok := ok__law_steps T k
    unfold b__law_steps
    exact (pssi_cons (psi_set (i := 4) sc__law_steps.nd rfl (by first | exact Or.inl rfl | exact Or.inr rfl) (pei_newL pai_nil))
    (pssi_cons (psi_for PassesOwn.never rfl (pii_range (by rfl) T.n_range (pai_cons (pei_call (ok__law_take T) (hr.mono (by omega)) (by rfl) T.g__law_take T.F__law_take.kp T.B__law_take pass0 (pai_cons (iv 0) (pai_cons (pei_op o_add (iv 3) pei_int) pai_nil))) pai_nil)) (pgi_name (i := 5) sc__law_steps.nd rfl (by first | exact Or.inl rfl | exact Or.inr rfl))
    (pssi_cons (psi_set (i := 6) sc__law_steps.nd rfl (by first | exact Or.inl rfl | exact Or.inr rfl) (pei_call (ok__law_take T) (hr.mono (by omega)) (by rfl) T.g__law_take T.F__law_take.kp T.B__law_take pass0 (pai_cons (iv 0) (pai_cons pei_int pai_nil))))
    (pssi_one (psi_if (pti_w (pwi_and (pti_cmp o_lt (iv 2) pei_int (nomark _)) (pwi_and1 (pti_cmp o_lt (iv 6) pei_int (nomark _)))))
    (pssi_cons (psi_set (i := 7) sc__law_steps.nd rfl (by first | exact Or.inl rfl | exact Or.inr rfl) (pei_call rec_ok hr (by rfl) T.g__law_steps T.F__law_steps.kp T.B__law_steps pass0 (pai_cons (iv 0) (pai_cons (iv 1) (pai_cons (pei_op o_add (iv 2) pei_int) (pai_cons pei_int pai_nil))))))
    (pssi_one (psi_if (pti_cmp (o_eq hr.units) (iv 6) pei_int (nomark _))
    (pssi_one (psi_expr (pei_lm PySem.F.slot_list_append PySem.F.type_list_append m_append (iv 4) (pai_cons (pei_tup (pai_cons pei_str (pai_cons (pei_call (ok__law_take T) (hr.mono (by omega)) (by rfl) T.g__law_take T.F__law_take.kp T.B__law_take pass0 (pai_cons (iv 0) (pai_cons pei_int pai_nil))) (pai_cons (iv 7) pai_nil)))) pai_nil))))
    (pssi_cons (psi_set (i := 8) sc__law_steps.nd rfl (by first | exact Or.inl rfl | exact Or.inr rfl) (pei_call rec_ok hr (by rfl) T.g__law_steps T.F__law_steps.kp T.B__law_steps pass0 (pai_cons (iv 0) (pai_cons (iv 1) (pai_cons (pei_op o_add (iv 2) pei_int) (pai_cons pei_int pai_nil))))))
    (pssi_one (psi_expr (pei_lm PySem.F.slot_list_append PySem.F.type_list_append m_append (iv 4) (pai_cons (pei_tup (pai_cons (pei_ix (pei_lst (pai_cons pei_str (pai_cons pei_str pai_nil))) (pei_op o_sub (iv 6) pei_int) (fun _ _ => rfl)) (pai_cons (iv 7) (pai_cons (iv 8) pai_nil)))) pai_nil))))))))
    (pssi_one (psi_if (pti_w (pwi_and (pti_cmp (o_eq hr.units) (iv 6) pei_int (nomark _)) (pwi_and1 (pti_cmp o_gt (pei_ix (iv 1) pei_int (fun _ _ => rfl)) pei_int (nomark _)))))
    (pssi_cons (psi_set (i := 9) sc__law_steps.nd rfl (by first | exact Or.inl rfl | exact Or.inr rfl) (pei_call (ok__law_take T) (hr.mono (by omega)) (by rfl) T.g__law_take T.F__law_take.kp T.B__law_take pass0 (pai_cons (iv 0) (pai_cons (pei_ix (iv 1) pei_int (fun _ _ => rfl)) pai_nil))))
    (pssi_one (psi_set (i := 4) sc__law_steps.nd rfl (by first | exact Or.inl rfl | exact Or.inr rfl) (pei_op o_addN (iv 4) (pei_lst (pai_cons (pei_tup (pai_cons pei_str (pai_cons (iv 9) pai_nil))) (pai_cons (pei_tup (pai_cons pei_str (pai_cons (pei_call (ok__law_take T) (hr.mono (by omega)) (by rfl) T.g__law_take T.F__law_take.kp T.B__law_take pass0 (pai_cons (iv 0) (pai_cons pei_int pai_nil))) pai_nil))) (pai_cons (pei_tup (pai_cons pei_str (pai_cons (iv 9) pai_nil))) pai_nil))))))))
    (pssi_one (psi_expr (pei_lm PySem.F.slot_list_append PySem.F.type_list_append m_append (iv 4) (pai_cons (pei_call (ok__law_plain T) (hr.mono (by omega)) (by rfl) T.g__law_plain T.F__law_plain.kp T.B__law_plain pass0 (pai_cons (iv 0) (pai_cons (iv 1) pai_nil))) pai_nil))))))))))
    (pssi_one (psi_ret (pei_callTy c_tuple (by rfl) T.n_tuple (by decide +kernel) (pai_cons (iv 4) pai_nil))))))
end K22
namespace K22
open PySem PySem.Spec PyProof.Rows L2 SL Cm
variable {P : Program} {w : World} {K : PySem.W.Frag} {mg : Str → Option Value} {base : Heap}
theorem ok__law_weight (T : Txt w K mg) : ∀ k, FnOk P w K mg base CX0 (0 + k) T.a__law_weight T.fd__law_weight ["steps"] (spS K mg 1 (m__law_weight k))
  | 0 => fn_bad
  | k + 1 => fnT_ok (N := n__law_weight) (ps := ["steps"]) (k := 0 + k) (m := b__law_weight (m__law_weight k)) T.F__law_weight sc__law_weight fun cdv A outer s H E hr => by
    have rec_ok := ok__law_weight T k
    unfold b__law_weight
    exact (pssi_cons (psi_set (i := 1) sc__law_weight.nd rfl (by first | exact Or.inl rfl | exact Or.inr rfl) pei_int)
    (pssi_cons (psi_for PassesOwn.never rfl (pii_seq (iv 0)) (pgi_name (i := 2) sc__law_weight.nd rfl (by first | exact Or.inl rfl | exact Or.inr rfl))
    (pssi_cons (psi_set (i := 1) sc__law_weight.nd rfl (by first | exact Or.inl rfl | exact Or.inr rfl) (pei_op o_add (iv 1) pei_int))
    (pssi_cons (psi_if (pti_cmp (o_eq hr.units) (pei_ix (iv 2) pei_int (fun _ _ => rfl)) pei_str (nomark _))
    (pssi_one (psi_set (i := 1) sc__law_weight.nd rfl (by first | exact Or.inl rfl | exact Or.inr rfl) (pei_op o_add (iv 1) (pei_op o_mul (pei_ix (iv 2) pei_int (fun _ _ => rfl)) (pei_call rec_ok hr (by rfl) T.g__law_weight T.F__law_weight.kp T.B__law_weight pass0 (pai_cons (pei_ix (iv 2) pei_int (fun _ _ => rfl)) pai_nil))))))
    pssi_nil)
    (pssi_one (psi_if (pti_cmp o_inF (pei_ix (iv 2) pei_int (fun _ _ => rfl)) (pei_tup (pai_cons pei_str (pai_cons pei_str pai_nil))) (by rfl))
    (pssi_one (psi_set (i := 1) sc__law_weight.nd rfl (by first | exact Or.inl rfl | exact Or.inr rfl) (pei_op o_add (pei_op o_add (iv 1) (pei_call rec_ok hr (by rfl) T.g__law_weight T.F__law_weight.kp T.B__law_weight pass0 (pai_cons (pei_ix (iv 2) pei_int (fun _ _ => rfl)) pai_nil))) (pei_call rec_ok hr (by rfl) T.g__law_weight T.F__law_weight.kp T.B__law_weight pass0 (pai_cons (pei_ix (iv 2) pei_int (fun _ _ => rfl)) pai_nil)))))
    pssi_nil)))))
    (pssi_one (psi_ret (iv 1)))))
end K22
namespace K22
open PySem PySem.Spec PyProof.Rows L2 SL Cm
variable {P : Program} {w : World} {K : PySem.W.Frag} {mg : Str → Option Value} {base : Heap}
theorem ok__law_plan (T : Txt w K mg) : FnOk P w K mg base CX0 10 T.a__law_plan T.fd__law_plan ["tape", "places", "most"] (spS K mg 3 m__law_plan) :=
  fnT_ok (N := n__law_plan) (ps := ["tape", "places", "most"]) (k := 9) (m := b__law_plan) T.F__law_plan sc__law_plan fun cdv A outer s H E hr => by
    unfold b__law_plan
    exact (pssi_cons (psi_set (i := 3) sc__law_plan.nd rfl (by first | exact Or.inl rfl | exact Or.inr rfl) (pei_call (ok__law_steps T 7) (hr.mono (by omega)) (by rfl) T.g__law_steps T.F__law_steps.kp T.B__law_steps pass0 (pai_cons (iv 0) (pai_cons (iv 1) (pai_cons pei_int (pai_cons (iv 2) pai_nil))))))
    (pssi_cons (psi_while 100000 PassesOwn.never (pti_cmp o_gt (pei_call (ok__law_weight T 7) (hr.mono (by omega)) (by rfl) T.g__law_weight T.F__law_weight.kp T.B__law_weight pass0 (pai_cons (iv 3) pai_nil)) pei_int (nomark _)) (pssi_one (psi_set (i := 3) sc__law_plan.nd rfl (by first | exact Or.inl rfl | exact Or.inr rfl) (pei_slice (iv 3) poi_none (poi_some (pei_un o_neg pei_int))))))
    (pssi_one (psi_ret (iv 3)))))
end K22
namespace K22
open PySem PySem.Spec PyProof.Rows L2 SL Cm
variable {P : Program} {w : World} {K : PySem.W.Frag} {mg : Str → Option Value} {base : Heap}
theorem ok__law_scene (T : Txt w K mg) : FnOk P w K mg base CX0 11 T.a__law_scene T.fd__law_scene ["script", "at", "most", "hands"] (spS K mg 4 m__law_scene) :=
  fnT_ok (N := n__law_scene) (ps := ["script", "at", "most", "hands"]) (k := 10) (m := b__law_scene) T.F__law_scene sc__law_scene fun cdv A outer s H E hr => by
    unfold b__law_scene
    exact (pssi_cons (psi_set (i := 4) sc__law_scene.nd rfl (by first | exact Or.inl rfl | exact Or.inr rfl) (pei_call (ok__law_tape T) (hr.mono (by omega)) (by rfl) T.g__law_tape T.F__law_tape.kp T.B__law_tape pass0 (pai_cons (iv 0) (pai_cons (iv 1) (pai_cons pei_int pai_nil)))))
    (pssi_cons (psi_set (i := 5) sc__law_scene.nd rfl (by first | exact Or.inl rfl | exact Or.inr rfl) (pei_callTy c_tuple (by rfl) T.n_tuple (by decide +kernel) (pai_cons (pei_lc (E' := E0) (own := [("k", 12)]) rfl sc__law_scene.nd (pii_range (by rfl) T.n_range (pai_cons (pei_call (ok__law_take T) (hr.mono (by omega)) (by rfl) T.g__law_take T.F__law_take.kp T.B__law_take pass0 (pai_cons (iv 4) (pai_cons pei_int pai_nil))) pai_nil)) (blkOk_by (own := [("k", 12)]) (N := n__law_scene) (sc := defScope s__law_scene) (by decide +kernel)) (fun _ _ _ _ _ => (pgi_name (i := 12) sc__law_scene.nd rfl (by first | exact Or.inl rfl | exact Or.inr rfl))) (fun _ _ _ _ _ => ptsi_nil) (fun _ _ _ _ _ => (pei_op o_add pei_int (pei_call (ok__law_take T) (hr.mono (by omega)) (by rfl) T.g__law_take T.F__law_take.kp T.B__law_take pass0 (pai_cons (iv 4) (pai_cons (pei_ix (pei_lst (pai_cons pei_int (pai_cons pei_int (pai_cons pei_int pai_nil)))) (pei_call (ok__law_take T) (hr.mono (by omega)) (by rfl) T.g__law_take T.F__law_take.kp T.B__law_take pass0 (pai_cons (iv 4) (pai_cons pei_int pai_nil))) (fun _ _ => rfl)) pai_nil)))))) pai_nil)))
    (pssi_cons (psi_set (i := 6) sc__law_scene.nd rfl (by first | exact Or.inl rfl | exact Or.inr rfl) (pei_callTy c_tuple (by rfl) T.n_tuple (by decide +kernel) (pai_cons (pei_lc (E' := E0) (own := [("k", 12)]) rfl sc__law_scene.nd (pii_range (by rfl) T.n_range (pai_cons (pei_call (ok__law_take T) (hr.mono (by omega)) (by rfl) T.g__law_take T.F__law_take.kp T.B__law_take pass0 (pai_cons (iv 4) (pai_cons pei_int pai_nil))) pai_nil)) (blkOk_by (own := [("k", 12)]) (N := n__law_scene) (sc := defScope s__law_scene) (by decide +kernel)) (fun _ _ _ _ _ => (pgi_name (i := 12) sc__law_scene.nd rfl (by first | exact Or.inl rfl | exact Or.inr rfl))) (fun _ _ _ _ _ => ptsi_nil) (fun _ _ _ _ _ => (pei_op o_add pei_int (pei_call (ok__law_take T) (hr.mono (by omega)) (by rfl) T.g__law_take T.F__law_take.kp T.B__law_take pass0 (pai_cons (iv 4) (pai_cons (pei_ix (pei_lst (pai_cons pei_int (pai_cons pei_int (pai_cons pei_int pai_nil)))) (pei_call (ok__law_take T) (hr.mono (by omega)) (by rfl) T.g__law_take T.F__law_take.kp T.B__law_take pass0 (pai_cons (iv 4) (pai_cons pei_int pai_nil))) (fun _ _ => rfl)) pai_nil)))))) pai_nil)))
    (pssi_cons (psi_set (i := 7) sc__law_scene.nd rfl (by first | exact Or.inl rfl | exact Or.inr rfl) (pei_call (ok__law_take T) (hr.mono (by omega)) (by rfl) T.g__law_take T.F__law_take.kp T.B__law_take pass0 (pai_cons (iv 4) (pai_cons pei_int pai_nil))))
    (pssi_cons (psi_set (i := 8) sc__law_scene.nd rfl (by first | exact Or.inl rfl | exact Or.inr rfl) (pei_op o_add pei_int (pei_call (ok__law_take T) (hr.mono (by omega)) (by rfl) T.g__law_take T.F__law_take.kp T.B__law_take pass0 (pai_cons (iv 4) (pai_cons pei_int pai_nil)))))
    (pssi_cons (psi_set (i := 9) sc__law_scene.nd rfl (by first | exact Or.inl rfl | exact Or.inr rfl) (pei_tup (pai_cons (pei_callB c_len (by rfl) T.n_len (by decide +kernel) (pai_cons (iv 5) pai_nil)) (pai_cons (pei_callB c_len (by rfl) T.n_len (by decide +kernel) (pai_cons (iv 6) pai_nil)) (pai_cons (iv 7) (pai_cons (iv 8) pai_nil))))))
    (pssi_cons (psi_set (i := 10) sc__law_scene.nd rfl (by first | exact Or.inl rfl | exact Or.inr rfl) (pei_callTy c_tuple (by rfl) T.n_tuple (by decide +kernel) (pai_cons (pei_lc (E' := E0) (own := [("k", 12)]) rfl sc__law_scene.nd (pii_range (by rfl) T.n_range (pai_cons (iv 8) pai_nil)) (blkOk_by (own := [("k", 12)]) (N := n__law_scene) (sc := defScope s__law_scene) (by decide +kernel)) (fun _ _ _ _ _ => (pgi_name (i := 12) sc__law_scene.nd rfl (by first | exact Or.inl rfl | exact Or.inr rfl))) (fun _ _ _ _ _ => ptsi_nil) (fun _ _ _ _ _ => (pei_call (ok__law_plan T) (hr.mono (by omega)) (by rfl) T.g__law_plan T.F__law_plan.kp T.B__law_plan pass0 (pai_cons (iv 4) (pai_cons (iv 9) (pai_cons (iv 2) pai_nil)))))) pai_nil)))
    (pssi_cons (psi_set (i := 11) sc__law_scene.nd rfl (by first | exact Or.inl rfl | exact Or.inr rfl) (pei_newL pai_nil))
    (pssi_cons (psi_for PassesOwn.never rfl (pii_range (by rfl) T.n_range (pai_cons (pei_op o_add pei_int (pei_call (ok__law_take T) (hr.mono (by omega)) (by rfl) T.g__law_take T.F__law_take.kp T.B__law_take pass0 (pai_cons (iv 4) (pai_cons (iv 3) pai_nil)))) pai_nil)) (pgi_name (i := 12) sc__law_scene.nd rfl (by first | exact Or.inl rfl | exact Or.inr rfl))
    (pssi_cons (psi_set (i := 13) sc__law_scene.nd rfl (by first | exact Or.inl rfl | exact Or.inr rfl) (pei_ix (pei_lst (pai_cons pei_int (pai_cons pei_int (pai_cons (pei_call (ok__law_take T) (hr.mono (by omega)) (by rfl) T.g__law_take T.F__law_take.kp T.B__law_take pass0 (pai_cons (iv 4) (pai_cons pei_int pai_nil))) (pai_cons (pei_call (ok__law_take T) (hr.mono (by omega)) (by rfl) T.g__law_take T.F__law_take.kp T.B__law_take pass0 (pai_cons (iv 4) (pai_cons pei_int pai_nil))) pai_nil))))) (pei_call (ok__law_take T) (hr.mono (by omega)) (by rfl) T.g__law_take T.F__law_take.kp T.B__law_take pass0 (pai_cons (iv 4) (pai_cons pei_int pai_nil))) (fun _ _ => rfl)))
    (pssi_one (psi_expr (pei_lm PySem.F.slot_list_append PySem.F.type_list_append m_append (iv 11) (pai_cons (pei_tup (pai_cons (iv 13) (pai_cons (pei_ix (pei_lst (pai_cons pei_int (pai_cons (pei_call (ok__law_take T) (hr.mono (by omega)) (by rfl) T.g__law_take T.F__law_take.kp T.B__law_take pass0 (pai_cons (iv 4) (pai_cons pei_int pai_nil))) (pai_cons (pei_call (ok__law_take T) (hr.mono (by omega)) (by rfl) T.g__law_take T.F__law_take.kp T.B__law_take pass0 (pai_cons (iv 4) (pai_cons pei_int pai_nil))) pai_nil)))) (pei_call (ok__law_take T) (hr.mono (by omega)) (by rfl) T.g__law_take T.F__law_take.kp T.B__law_take pass0 (pai_cons (iv 4) (pai_cons pei_int pai_nil))) (fun _ _ => rfl)) (pai_cons (pei_call (ok__law_take T) (hr.mono (by omega)) (by rfl) T.g__law_take T.F__law_take.kp T.B__law_take pass0 (pai_cons (iv 4) (pai_cons (iv 8) pai_nil))) pai_nil)))) pai_nil))))))
    (pssi_one (psi_ret (pei_tup (pai_cons (iv 5) (pai_cons (iv 6) (pai_cons (iv 7) (pai_cons (iv 10) (pai_cons (pei_callTy c_tuple (by rfl) T.n_tuple (by decide +kernel) (pai_cons (iv 11) pai_nil)) pai_nil)))))))))))))))))
end K22
namespace K22
open PySem PySem.Spec PyProof.Rows L2 SL Cm
variable {P : Program} {w : World} {K : PySem.W.Frag} {mg : Str → Option Value} {base : Heap}
theorem ok__law_rows (T : Txt w K mg) : ∀ k, FnOk P w K mg base CX0 (0 + k) T.a__law_rows T.fd__law_rows ["steps", "start"] (spS K mg 2 (m__law_rows k))
  | 0 => fn_bad
  | k + 1 => fnT_ok (N := n__law_rows) (ps := ["steps", "start"]) (k := 0 + k) (m := b__law_rows (m__law_rows k)) T.F__law_rows sc__law_rows fun cdv A outer s H E hr => by
    have rec_ok := ok__law_rows T k
    unfold b__law_rows
    exact (pssi_cons (psi_set (i := 2) sc__law_rows.nd rfl (by first | exact Or.inl rfl | exact Or.inr rfl) (pei_newL pai_nil))
    (pssi_cons (psi_for PassesOwn.never rfl (pii_seq (iv 0)) (pgi_name (i := 3) sc__law_rows.nd rfl (by first | exact Or.inl rfl | exact Or.inr rfl))
    (pssi_cons (psi_set (i := 4) sc__law_rows.nd rfl (by first | exact Or.inl rfl | exact Or.inr rfl) (pei_op o_add (iv 1) (pei_callB c_len (by rfl) T.n_len (by decide +kernel) (pai_cons (iv 2) pai_nil))))
    (pssi_one (psi_if (pti_cmp (o_eq hr.units) (pei_ix (iv 3) pei_int (fun _ _ => rfl)) pei_str (nomark _))
    (pssi_cons (psi_set (i := 5) sc__law_rows.nd rfl (by first | exact Or.inl rfl | exact Or.inr rfl) (pei_call rec_ok hr (by rfl) T.g__law_rows T.F__law_rows.kp T.B__law_rows pass0 (pai_cons (pei_ix (iv 3) pei_int (fun _ _ => rfl)) (pai_cons (pei_op o_add (iv 4) pei_int) pai_nil))))
    (pssi_one (psi_set (i := 2) sc__law_rows.nd rfl (by first | exact Or.inl rfl | exact Or.inr rfl) (pei_op o_addN (pei_op o_add (pei_op o_add (iv 2) (pei_lst (pai_cons (pei_tup (pai_cons pei_str (pai_cons (pei_ix (iv 3) pei_int (fun _ _ => rfl)) (pai_cons (pei_op o_add (pei_op o_add (iv 4) pei_int) (pei_callB c_len (by rfl) T.n_len (by decide +kernel) (pai_cons (iv 5) pai_nil))) pai_nil)))) pai_nil))) (iv 5)) (pei_lst (pai_cons (pei_tup (pai_cons pei_str (pai_cons (pei_op o_add (iv 4) pei_int) pai_nil))) pai_nil))))))
    (pssi_one (psi_if (pti_cmp o_inF (pei_ix (iv 3) pei_int (fun _ _ => rfl)) (pei_tup (pai_cons pei_str (pai_cons pei_str pai_nil))) (by rfl))
    (pssi_cons (psi_set (i := 5) sc__law_rows.nd rfl (by first | exact Or.inl rfl | exact Or.inr rfl) (pei_op o_add (pei_call rec_ok hr (by rfl) T.g__law_rows T.F__law_rows.kp T.B__law_rows pass0 (pai_cons (pei_ix (iv 3) pei_int (fun _ _ => rfl)) (pai_cons (pei_op o_add (iv 4) pei_int) pai_nil))) (pei_op o_repL (pei_lst (pai_cons (pei_tup (pai_cons pei_str pai_nil)) pai_nil)) (pei_callTy c_int (by rfl) T.n_int (by decide +kernel) (pai_cons (pei_cmp (o_eq hr.units) (pei_ix (iv 3) pei_int (fun _ _ => rfl)) pei_str (nomark _)) pai_nil)))))
    (pssi_cons (psi_set (i := 6) sc__law_rows.nd rfl (by first | exact Or.inl rfl | exact Or.inr rfl) (pei_call rec_ok hr (by rfl) T.g__law_rows T.F__law_rows.kp T.B__law_rows pass0 (pai_cons (pei_ix (iv 3) pei_int (fun _ _ => rfl)) (pai_cons (pei_op o_add (pei_op o_add (iv 4) pei_int) (pei_callB c_len (by rfl) T.n_len (by decide +kernel) (pai_cons (iv 5) pai_nil))) pai_nil))))
    (pssi_cons (psi_set (i := 2) sc__law_rows.nd rfl (by first | exact Or.inl rfl | exact Or.inr rfl) (pei_op o_addN (pei_op o_add (iv 2) (pei_lst (pai_cons (pei_tup (pai_cons (pei_ix (iv 3) pei_int (fun _ _ => rfl)) (pai_cons (pei_op o_add (pei_op o_add (iv 4) pei_int) (pei_callB c_len (by rfl) T.n_len (by decide +kernel) (pai_cons (iv 5) pai_nil))) pai_nil))) pai_nil))) (iv 5)))
    (pssi_one (psi_set (i := 2) sc__law_rows.nd rfl (by first | exact Or.inl rfl | exact Or.inr rfl) (pei_op o_addN (pei_op o_add (iv 2) (pei_lst (pai_cons (pei_tup (pai_cons pei_str (pai_cons (pei_op o_add (pei_op o_add (pei_op o_add (iv 4) pei_int) (pei_callB c_len (by rfl) T.n_len (by decide +kernel) (pai_cons (iv 5) pai_nil))) (pei_callB c_len (by rfl) T.n_len (by decide +kernel) (pai_cons (iv 6) pai_nil))) pai_nil))) pai_nil))) (iv 6)))))))
    (pssi_one (psi_expr (pei_lm PySem.F.slot_list_append PySem.F.type_list_append m_append (iv 2) (pai_cons (iv 3) pai_nil))))))))))
    (pssi_one (psi_ret (iv 2)))))
end K22
namespace K22
open PySem PySem.Spec PyProof.Rows L2 SL Cm
variable {P : Program} {w : World} {K : PySem.W.Frag} {mg : Str → Option Value} {base : Heap}
theorem ok_law (T : Txt w K mg) : FnOk P w K mg base CX0 12 T.a_law T.fd_law ["script"] (spS K mg 1 m_law) :=
  fnT_ok (N := n_law) (ps := ["script"]) (k := 11) (m := b_law) T.F_law sc_law fun cdv A outer s H E hr => by
    unfold b_law
    exact (pssi_cons (psi_for PassesOwn.never rfl (pii_seq (pei_tup (pai_cons pei_int (pai_cons pei_int (pai_cons pei_int pai_nil))))) (pgi_name (i := 1) sc_law.nd rfl (by first | exact Or.inl rfl | exact Or.inr rfl))
    (pssi_one (psi_for PassesOwn.never rfl (pii_seq (pei_ix (pei_call (ok__law_scene T) (hr.mono (by omega)) (by rfl) T.g__law_scene T.F__law_scene.kp T.B__law_scene pass0 (pai_cons (iv 0) (pai_cons (iv 1) (pai_cons pei_int (pai_cons pei_int pai_nil))))) pei_int (fun _ _ => rfl))) (pgi_name (i := 2) sc_law.nd rfl (by first | exact Or.inl rfl | exact Or.inr rfl))
    (pssi_cons (psi_set (i := 3) sc_law.nd rfl (by first | exact Or.inl rfl | exact Or.inr rfl) (pei_call (ok_compiled T) (hr.mono (by omega)) (by rfl) T.g_compiled T.F_compiled.kp T.B_compiled pass0 (pai_cons (iv 2) pai_nil)))
    (pssi_cons (psi_if (pti_w (pwi_or (pti_cmp (o_ne hr.units) (iv 3) (pei_call (ok__law_rows T 7) (hr.mono (by omega)) (by rfl) T.g__law_rows T.F__law_rows.kp T.B__law_rows pass0 (pai_cons (iv 2) (pai_cons pei_int pai_nil))) (nomark _)) (pwi_or1 (pti_not (pti_val (pei_isi isiOk_list (by rfl) T.n_isinstance (by decide +kernel) (pe_bltn (by rfl) T.n_list (by decide +kernel) rfl) (iv 3)))))))
    (pssi_one (psi_ret pei_bl))
    pssi_nil)
    (pssi_cons (psi_expr (pei_lm PySem.F.slot_list_append PySem.F.type_list_append m_append (iv 3) (pai_cons pei_int pai_nil)))
    (pssi_one (psi_if (pti_cmp (o_ne hr.units) (pei_call (ok_compiled T) (hr.mono (by omega)) (by rfl) T.g_compiled T.F_compiled.kp T.B_compiled pass0 (pai_cons (iv 2) pai_nil)) (pei_slice (iv 3) poi_none (poi_some (pei_un o_neg pei_int))) (nomark _))
    (pssi_one (psi_ret pei_bl))
    pssi_nil))))))))
    (pssi_one (psi_ret pei_bl)))
end K22
/-! Q22: the plain law of k22. -/
namespace K22
open PySem PySem.Spec PyProof.Rows L2 SL Cm
def RwI (ss : List Tr) (n : Int) (S : Store) (many : Nat) (i : Nat) (ρ : Env') (S' : Store) : Prop :=
  Pre S S' ∧ ∃ (f : Nat) (xs : List (Option D)), xs.length = many ∧ S.length ≤ f ∧ S'[f]? = some (.lst ((rwL (ss.take i) n).map encR)) ∧ ρ = some (.tup (encL ss)) :: some (.int n) :: some (.ref f) :: xs
theorem rows_spec {a b c e : Nat} : ∀ (k j : Nat) {S : Store} {Q : D → Store → Prop} {ss : List Tr} {n : Int}, OkL a b c e j ss → j < k → j ≤ 4 →
    (∀ m S', Pre S S' → S.length ≤ m → S'[m]? = some (.lst ((rwL ss n).map encR)) → Q (.ref m) S') → Got (m_rows_of k [.tup (encL ss), .int n] S) Q
  | 0, _, _, _, _, _, _, h, _, _ => absurd h (by omega)
  | k + 1, j, S, Q, ss, n, ho, hj, hj4, q => by
    show Got (fnP 10 (b_rows_of (m_rows_of k)) _ S) Q
    apply got_fnP
    unfold b_rows_of
    simp [inEnv, sSeq, sSet, e2, e1, eB, eVar, eC, aCons, aNil, sAsg, gSubM, sRet, sDrop, sIf, mB, sNext, sFor, gNm, srcSeq, srcRng, eMeth, oneA, one, eTup, eLst, eNewL, eIf, tOrM, tAndM, tYesM, got_bind, got_ret, got_iteM, got_ite, got_bad, got_mbad, got_ok, FnQ, g_add, g_sub, g_mul, g_div, g_mod, g_pow, g_neg, g_cmp, g_isN, g_isNotN, g_bool, g_int, g_eq, g_ne, g_inL, g_inF, g_tup, g_lst, g_newL, g_ix, g_slT, g_slL, g_len, g_list, g_listNew, g_tuple, g_addT, g_addL, g_addR, g_addN, g_call, g_rng, asQ_tup, asQ_lst, asQ_fro, asL_lst, asR_lst, at0, at1, at2, at3, at4, eqD_ii, sizeLine]
    rw [g_seq (by intro n; simp)]
    refine ⟨_, rfl, got_for _ (RwI ss n S 7) ⟨Pre.app, S.length, _, rfl, Nat.le_refl _, by rw [last_get]; rfl, rfl⟩ (fun _ _ _ _ => trivial) ?_ ?_⟩
    · rintro i d ρ S1 hd ⟨hp, f, xs, hxl, hf, hS, rfl⟩
      obtain ⟨s, hs, rfl⟩ := getE hd
      have hm : s ∈ ss := List.mem_of_getElem? hs
      match xs, hxl with
      | [x3, x4, x5, x6, x7, x8, x9], _ =>
      cases j with
      | zero =>
        have h : ss = [] := ho
        subst h
        cases hm
      | succ j =>
        have h1 := ho.2 s hm
        have hB : Bd j ≤ 340000 := by
          have : j = 0 ∨ j = 1 ∨ j = 2 ∨ j = 3 := by omega
          rcases this with rfl | rfl | rfl | rfl <;> simp [Bd]
        have hlen : (rwL (ss.take i) n).length ≤ 8200000 := by
          have := rwL_le (j + 1) (ss := ss.take i) (n := n) (OkL.sub ho (by simp [List.length_take]; omega) fun s hs => List.mem_of_mem_take hs)
          have := Bd_le hj4
          omega
        have hl := asL_ref hS
        cases s with
        | plain w ns =>
          have ⟨n1, n2, n3⟩ := pl_word h1
          have hd2 : List.drop ns.length (ns.map D.int) = [] := List.drop_eq_nil_of_le (by simp)
          simp [enc, Cm.W, inEnv, sSeq, sSet, e2, e1, eB, eVar, eC, aCons, aNil, sAsg, gSubM, sRet, sDrop, sIf, mB, sNext, sFor, gNm, srcSeq, srcRng, eMeth, oneA, one, eTup, eLst, eNewL, eIf, tOrM, tAndM, tYesM, got_bind, got_ret, got_iteM, got_ite, got_bad, got_mbad, got_ok, FnQ, g_add, g_sub, g_mul, g_div, g_mod, g_pow, g_neg, g_cmp, g_isN, g_isNotN, g_bool, g_int, g_eq, g_ne, g_inL, g_inF, g_tup, g_lst, g_newL, g_ix, g_slT, g_slL, g_len, g_list, g_listNew, g_tuple, g_addT, g_addL, g_addR, g_addN, g_call, g_rng, asQ_tup, asQ_lst, asQ_fro, asL_lst, asR_lst, at0, at1, at2, at3, at4, eqD_ii, eqD_str, gStarM, gConsM, gNilM, starD, beq_str, ofStr_eq, n1, n2, n3, hd2, asQ_ref hS, tyD_ref hS, g_app hS, FlQ]
          refine ⟨by simp only [sizeLine]; omega, hp.set hf, f, [_, _, _, _, _, _, _], rfl, hf, ?_, rfl⟩
          rw [List.getElem?_set_self (List.getElem?_eq_some_iff.mp hS).1, rw_next hs]
          simp [rw1, encR]
        | loop k' is =>
          have hy := rwL_le j (n := n + (rwL (ss.take i) n).length + 1) h1.2.2
          simp [enc, Cm.W, inEnv, sSeq, sSet, e2, e1, eB, eVar, eC, aCons, aNil, sAsg, gSubM, sRet, sDrop, sIf, mB, sNext, sFor, gNm, srcSeq, srcRng, eMeth, oneA, one, eTup, eLst, eNewL, eIf, tOrM, tAndM, tYesM, got_bind, got_ret, got_iteM, got_ite, got_bad, got_mbad, got_ok, FnQ, g_add, g_sub, g_mul, g_div, g_mod, g_pow, g_neg, g_cmp, g_isN, g_isNotN, g_bool, g_int, g_eq, g_ne, g_inL, g_inF, g_tup, g_lst, g_newL, g_ix, g_slT, g_slL, g_len, g_list, g_listNew, g_tuple, g_addT, g_addL, g_addR, g_addN, g_call, g_rng, asQ_tup, asQ_lst, asQ_fro, asL_lst, asR_lst, at0, at1, at2, at3, at4, eqD_ii, eqD_str, gStarM, gConsM, gNilM, starD, beq_str, ofStr_eq, asQ_ref hS, FlQ]
          refine rows_spec k j h1.2.2 (by omega) (by omega) fun m S2 hp2 hm2 hS2 => ⟨_, asQ_ref hS2, by decide, by decide, _, asL_ref (hp2.get hS), by simp only [List.length_map, List.length_append, List.length_cons, List.length_nil, sizeLine]; omega, _, asL_ref hS2, by simp only [List.length_map, List.length_append, List.length_cons, List.length_nil, sizeLine]; omega, by decide, by decide, by simp only [List.length_map, List.length_append, List.length_cons, List.length_nil, sizeLine]; omega, ?_⟩
          refine ⟨(hp.trans hp2).trans Pre.app, S2.length, [_, _, _, _, _, _, _], rfl, (hp.trans hp2).1, ?_, rfl⟩
          rw [last_get, rw_next hs]
          simp [rw1, encR, Cm.W]
        | guard is os =>
          have hy := rwL_le j (n := n + (rwL (ss.take i) n).length + 1) h1.1
          simp [enc, Cm.W, inEnv, sSeq, sSet, e2, e1, eB, eVar, eC, aCons, aNil, sAsg, gSubM, sRet, sDrop, sIf, mB, sNext, sFor, gNm, srcSeq, srcRng, eMeth, oneA, one, eTup, eLst, eNewL, eIf, tOrM, tAndM, tYesM, got_bind, got_ret, got_iteM, got_ite, got_bad, got_mbad, got_ok, FnQ, g_add, g_sub, g_mul, g_div, g_mod, g_pow, g_neg, g_cmp, g_isN, g_isNotN, g_bool, g_int, g_eq, g_ne, g_inL, g_inF, g_tup, g_lst, g_newL, g_ix, g_slT, g_slL, g_len, g_list, g_listNew, g_tuple, g_addT, g_addL, g_addR, g_addN, g_call, g_rng, asQ_tup, asQ_lst, asQ_fro, asL_lst, asR_lst, at0, at1, at2, at3, at4, eqD_ii, eqD_str, gStarM, gConsM, gNilM, starD, beq_str, ofStr_eq, asQ_ref hS, FlQ]
          refine rows_spec k j h1.1 (by omega) (by omega) fun m S2 hp2 hm2 hS2 => ?_
          have hy2 := rwL_le j (n := n + (rwL (ss.take i) n).length + ((rwL is (n + (rwL (ss.take i) n).length + 1)).length + 1 : Nat) + 2) h1.2
          refine ⟨by decide, (g_addLL (asL_ref hS2) rfl (by simp only [List.length_map, List.length_append, List.length_cons, List.length_nil, sizeLine]; omega)).mpr ⟨_, rfl, ?_⟩⟩
          rw [show (List.map encR (rwL is (n + (rwL (ss.take i) n).length + 1)) ++ [D.tup [D.str (Str.ofString "open")]]).length = (rwL is (n + (rwL (ss.take i) n).length + 1)).length + 1 by simp]
          refine rows_spec k j h1.2 (by omega) (by omega) fun m3 S3 hp3 hm3 hS3 => ?_
          refine ⟨by decide, by decide, _, asL_ref (hp3.get (hp2.get hS)), by simp only [List.length_map, List.length_append, List.length_cons, List.length_nil, sizeLine]; omega, _, rfl, by simp only [List.length_map, List.length_append, List.length_cons, List.length_nil, sizeLine]; omega, _, asQ_ref hS3, by decide, by decide, by simp only [List.length_map, List.length_append, List.length_cons, List.length_nil, sizeLine]; omega, _, asL_ref hS3, by simp only [List.length_map, List.length_append, List.length_cons, List.length_nil, sizeLine]; omega, ?_⟩
          refine ⟨((hp.trans hp2).trans hp3).trans Pre.app, S3.length, [_, _, _, _, _, _, _], rfl, ((hp.trans hp2).trans hp3).1, ?_, rfl⟩
          rw [last_get, rw_next hs]
          simp [rw1, encR, Cm.W]
        | case is os =>
          have hy := rwL_le j (n := n + (rwL (ss.take i) n).length + 1) h1.1
          simp [enc, Cm.W, inEnv, sSeq, sSet, e2, e1, eB, eVar, eC, aCons, aNil, sAsg, gSubM, sRet, sDrop, sIf, mB, sNext, sFor, gNm, srcSeq, srcRng, eMeth, oneA, one, eTup, eLst, eNewL, eIf, tOrM, tAndM, tYesM, got_bind, got_ret, got_iteM, got_ite, got_bad, got_mbad, got_ok, FnQ, g_add, g_sub, g_mul, g_div, g_mod, g_pow, g_neg, g_cmp, g_isN, g_isNotN, g_bool, g_int, g_eq, g_ne, g_inL, g_inF, g_tup, g_lst, g_newL, g_ix, g_slT, g_slL, g_len, g_list, g_listNew, g_tuple, g_addT, g_addL, g_addR, g_addN, g_call, g_rng, asQ_tup, asQ_lst, asQ_fro, asL_lst, asR_lst, at0, at1, at2, at3, at4, eqD_ii, eqD_str, gStarM, gConsM, gNilM, starD, beq_str, ofStr_eq, asQ_ref hS, FlQ]
          refine rows_spec k j h1.1 (by omega) (by omega) fun m S2 hp2 hm2 hS2 => ?_
          have hy2 := rwL_le j (n := n + (rwL (ss.take i) n).length + (rwL is (n + (rwL (ss.take i) n).length + 1)).length + 2) h1.2
          refine ⟨_, asQ_ref hS2, ?_⟩
          rw [List.length_map]
          refine rows_spec k j h1.2 (by omega) (by omega) fun m3 S3 hp3 hm3 hS3 => ?_
          refine ⟨by decide, by decide, _, asL_ref (hp3.get (hp2.get hS)), by simp only [List.length_map, List.length_append, List.length_cons, List.length_nil, sizeLine]; omega, _, asL_ref (hp3.get hS2), by simp only [List.length_map, List.length_append, List.length_cons, List.length_nil, sizeLine]; omega, _, asQ_ref hS3, by decide, by decide, by simp only [List.length_map, List.length_append, List.length_cons, List.length_nil, sizeLine]; omega, _, asL_ref hS3, by simp only [List.length_map, List.length_append, List.length_cons, List.length_nil, sizeLine]; omega, ?_⟩
          refine ⟨((hp.trans hp2).trans hp3).trans Pre.app, S3.length, [_, _, _, _, _, _, _], rfl, ((hp.trans hp2).trans hp3).1, ?_, rfl⟩
          rw [last_get, rw_next hs]
          simp [rw1, encR, Cm.W]
    · rintro ρ S1 ⟨hp, f, xs, hxl, hf, hS, rfl⟩
      simp [inEnv, sSeq, sSet, e2, e1, eB, eVar, eC, aCons, aNil, sAsg, gSubM, sRet, sDrop, sIf, mB, sNext, sFor, gNm, srcSeq, srcRng, eMeth, oneA, one, eTup, eLst, eNewL, eIf, tOrM, tAndM, tYesM, got_bind, got_ret, got_iteM, got_ite, got_bad, got_mbad, got_ok, FnQ, g_add, g_sub, g_mul, g_div, g_mod, g_pow, g_neg, g_cmp, g_isN, g_isNotN, g_bool, g_int, g_eq, g_ne, g_inL, g_inF, g_tup, g_lst, g_newL, g_ix, g_slT, g_slL, g_len, g_list, g_listNew, g_tuple, g_addT, g_addL, g_addR, g_addN, g_call, g_rng, asQ_tup, asQ_lst, asQ_fro, asL_lst, asR_lst, at0, at1, at2, at3, at4, eqD_ii]
      rw [show (encL ss).length = ss.length by simp [encL_eq], List.take_length] at hS
      exact q f S1 hp hf hS
theorem compiled_spec {a b c e j : Nat} {S : Store} {Q : D → Store → Prop} {ss : List Tr} (ho : OkL a b c e j ss) (hj : j ≤ 4)
    (q : ∀ m S', Pre S S' → S.length ≤ m → S'[m]? = some (.lst ((rwL ss 0).map encR)) → Q (.ref m) S') : Got (m_compiled [.tup (encL ss)] S) Q := by
  unfold m_compiled
  apply got_fnP
  unfold b_compiled
  simp [inEnv, sSeq, sSet, e2, e1, eB, eVar, eC, aCons, aNil, sAsg, gSubM, sRet, sDrop, sIf, mB, sNext, sFor, gNm, srcSeq, srcRng, eMeth, oneA, one, eTup, eLst, eNewL, eIf, tOrM, tAndM, tYesM, got_bind, got_ret, got_iteM, got_ite, got_bad, got_mbad, got_ok, FnQ, g_add, g_sub, g_mul, g_div, g_mod, g_pow, g_neg, g_cmp, g_isN, g_isNotN, g_bool, g_int, g_eq, g_ne, g_inL, g_inF, g_tup, g_lst, g_newL, g_ix, g_slT, g_slL, g_len, g_list, g_listNew, g_tuple, g_addT, g_addL, g_addR, g_addN, g_call, g_rng, asQ_tup, asQ_lst, asQ_fro, asL_lst, asR_lst, at0, at1, at2, at3, at4, eqD_ii, sizeLine]
  exact rows_spec 7 j ho (by omega) hj q
end K22
/-! Q22b: the plain law of k22. -/
namespace K22
open PySem PySem.Spec PyProof.Rows L2 SL Cm
theorem get2 {S : Store} {o u : O} : (S ++ [o, u])[S.length + 1]? = some u := by simp
theorem lrows_spec {a b c e : Nat} : ∀ (k j : Nat) {S : Store} {Q : D → Store → Prop} {ss : List Tr} {n : Int}, OkL a b c e j ss → j < k → j ≤ 4 →
    Q (.lst ((rwL ss n).map encR)) S → Got (m__law_rows k [.tup (encL ss), .int n] S) Q
  | 0, _, _, _, _, _, _, h, _, _ => absurd h (by omega)
  | k + 1, j, S, Q, ss, n, ho, hj, hj4, q => by
    show Got (fnT 7 (b__law_rows (m__law_rows k)) _ S) Q
    apply got_fnT
    unfold b__law_rows
    simp [inEnv, sSeq, sSet, e2, e1, eB, eVar, eC, aCons, aNil, sAsg, gSubM, sRet, sDrop, sIf, mB, sNext, sFor, gNm, srcSeq, srcRng, eMeth, oneA, one, eTup, eLst, eNewL, eIf, tOrM, tAndM, tYesM, got_bind, got_ret, got_iteM, got_ite, got_bad, got_mbad, got_ok, FnQ, g_add, g_sub, g_mul, g_div, g_mod, g_pow, g_neg, g_cmp, g_isN, g_isNotN, g_bool, g_int, g_eq, g_ne, g_inL, g_inF, g_tup, g_lst, g_newL, g_ix, g_slT, g_slL, g_len, g_list, g_listNew, g_tuple, g_addT, g_addL, g_addR, g_addN, g_call, g_rng, asQ_tup, asQ_lst, asQ_fro, asL_lst, asR_lst, at0, at1, at2, at3, at4, eqD_ii, sizeLine]
    rw [g_seq (by intro n; simp)]
    refine ⟨_, rfl, got_for _ (RwI ss n S 4) ⟨Pre.app, S.length, _, rfl, Nat.le_refl _, by rw [last_get]; rfl, rfl⟩ (fun _ _ _ _ => trivial) ?_ ?_⟩
    · rintro i d ρ S1 hd ⟨hp, f, xs, hxl, hf, hS, rfl⟩
      obtain ⟨s, hs, rfl⟩ := getE hd
      have hm : s ∈ ss := List.mem_of_getElem? hs
      match xs, hxl with
      | [x3, x4, x5, x6], _ =>
      cases j with
      | zero =>
        have h : ss = [] := ho
        subst h
        cases hm
      | succ j =>
        have h1 := ho.2 s hm
        have hB : Bd j ≤ 340000 := by
          have : j = 0 ∨ j = 1 ∨ j = 2 ∨ j = 3 := by omega
          rcases this with rfl | rfl | rfl | rfl <;> simp [Bd]
        have hlen : (rwL (ss.take i) n).length ≤ 8200000 := by
          have := rwL_le (j + 1) (ss := ss.take i) (n := n) (OkL.sub ho (by simp [List.length_take]; omega) fun s hs => List.mem_of_mem_take hs)
          have := Bd_le hj4
          omega
        have hl := asL_ref hS
        cases s with
        | plain w ns =>
          have ⟨n1, n2, n3⟩ := pl_word h1
          simp [enc, Cm.W, inEnv, sSeq, sSet, e2, e1, eB, eVar, eC, aCons, aNil, sAsg, gSubM, sRet, sDrop, sIf, mB, sNext, sFor, gNm, srcSeq, srcRng, eMeth, oneA, one, eTup, eLst, eNewL, eIf, tOrM, tAndM, tYesM, got_bind, got_ret, got_iteM, got_ite, got_bad, got_mbad, got_ok, FnQ, g_add, g_sub, g_mul, g_div, g_mod, g_pow, g_neg, g_cmp, g_isN, g_isNotN, g_bool, g_int, g_eq, g_ne, g_inL, g_inF, g_tup, g_lst, g_newL, g_ix, g_slT, g_slL, g_len, g_list, g_listNew, g_tuple, g_addT, g_addL, g_addR, g_addN, g_call, g_rng, asQ_tup, asQ_lst, asQ_fro, asL_lst, asR_lst, at0, at1, at2, at3, at4, eqD_ii, eqD_str, beq_str, ofStr_eq, n1, n2, n3, Ne.symm n2, Ne.symm n3, asQ_ref hS, tyD_ref hS, g_app hS, FlQ, anyF, eqF_str, flD]
          refine ⟨by decide, by simp only [sizeLine]; omega, hp.set hf, f, [_, _, _, _], rfl, hf, ?_, rfl⟩
          rw [List.getElem?_set_self (List.getElem?_eq_some_iff.mp hS).1, rw_next hs]
          simp [rw1, encR]
        | loop k' is =>
          simp [enc, Cm.W, inEnv, sSeq, sSet, e2, e1, eB, eVar, eC, aCons, aNil, sAsg, gSubM, sRet, sDrop, sIf, mB, sNext, sFor, gNm, srcSeq, srcRng, eMeth, oneA, one, eTup, eLst, eNewL, eIf, tOrM, tAndM, tYesM, got_bind, got_ret, got_iteM, got_ite, got_bad, got_mbad, got_ok, FnQ, g_add, g_sub, g_mul, g_div, g_mod, g_pow, g_neg, g_cmp, g_isN, g_isNotN, g_bool, g_int, g_eq, g_ne, g_inL, g_inF, g_tup, g_lst, g_newL, g_ix, g_slT, g_slL, g_len, g_list, g_listNew, g_tuple, g_addT, g_addL, g_addR, g_addN, g_call, g_rng, asQ_tup, asQ_lst, asQ_fro, asL_lst, asR_lst, at0, at1, at2, at3, at4, eqD_ii, eqD_str, beq_str, ofStr_eq, asQ_ref hS, FlQ, anyF, eqF_str, flD]
          have hy := rwL_le j (n := n + (rwL (ss.take i) n).length + 1) h1.2.2
          refine lrows_spec k j h1.2.2 (by omega) (by omega) ⟨_, rfl, by decide, by decide, _, hl, by simp only [List.length_map, List.length_append, List.length_cons, List.length_nil, sizeLine]; omega, _, rfl, by simp only [List.length_map, List.length_append, List.length_cons, List.length_nil, sizeLine]; omega, by decide, by decide, by simp only [List.length_map, List.length_append, List.length_cons, List.length_nil, sizeLine]; omega, ?_⟩
          refine ⟨hp.trans Pre.app, S1.length, [_, _, _, _], rfl, hp.1, ?_, rfl⟩
          rw [last_get, rw_next hs, List.length_map, show ∀ x y : Int, x + 2 + y = x + y + 2 by intros; omega]
          simp [rw1, encR, Cm.W]
        | guard is os =>
          simp [enc, Cm.W, inEnv, sSeq, sSet, e2, e1, eB, eVar, eC, aCons, aNil, sAsg, gSubM, sRet, sDrop, sIf, mB, sNext, sFor, gNm, srcSeq, srcRng, eMeth, oneA, one, eTup, eLst, eNewL, eIf, tOrM, tAndM, tYesM, got_bind, got_ret, got_iteM, got_ite, got_bad, got_mbad, got_ok, FnQ, g_add, g_sub, g_mul, g_div, g_mod, g_pow, g_neg, g_cmp, g_isN, g_isNotN, g_bool, g_int, g_eq, g_ne, g_inL, g_inF, g_tup, g_lst, g_newL, g_ix, g_slT, g_slL, g_len, g_list, g_listNew, g_tuple, g_addT, g_addL, g_addR, g_addN, g_call, g_rng, asQ_tup, asQ_lst, asQ_fro, asL_lst, asR_lst, at0, at1, at2, at3, at4, eqD_ii, eqD_str, beq_str, ofStr_eq, asQ_ref hS, FlQ, anyF, eqF_str, flD, repL, intM]
          have hy := rwL_le j (n := n + (rwL (ss.take i) n).length + 1) h1.1
          have hy2 := rwL_le j (n := n + (rwL (ss.take i) n).length + ((rwL is (n + (rwL (ss.take i) n).length + 1)).length + 1 : Nat) + 2) h1.2
          refine ⟨by decide, lrows_spec k j h1.1 (by omega) (by omega) ⟨by decide, (g_addLL rfl rfl (by simp only [List.length_map, List.length_append, List.length_cons, List.length_nil, sizeLine]; omega)).mpr ⟨_, rfl, ?_⟩⟩⟩
          rw [show (List.map encR (rwL is (n + (rwL (ss.take i) n).length + 1)) ++ [D.tup [D.str (Str.ofString "open")]]).length = (rwL is (n + (rwL (ss.take i) n).length + 1)).length + 1 by simp]
          rw [show n + ((rwL (ss.take i) n).length : Int) + 2 + (((rwL is (n + (rwL (ss.take i) n).length + 1)).length + 1 : Nat) : Int) = n + (rwL (ss.take i) n).length + ((rwL is (n + (rwL (ss.take i) n).length + 1)).length + 1 : Nat) + 2 by omega]
          refine lrows_spec k j h1.2 (by omega) (by omega) ?_
          refine ⟨_, rfl, by decide, by decide, _, hl, by simp only [List.length_map, List.length_append, List.length_cons, List.length_nil, sizeLine]; omega, _, rfl, by simp only [List.length_map, List.length_append, List.length_cons, List.length_nil, sizeLine]; omega, _, rfl, _, rfl, by decide, by decide, _, asL_ref last_get, by simp only [List.length_map, List.length_append, List.length_cons, List.length_nil, sizeLine]; omega, ?_⟩
          refine ⟨_, rfl, by simp only [List.length_map, List.length_append, List.length_cons, List.length_nil, sizeLine]; omega, ?_⟩
          refine ⟨hp.trans Pre.app, S1.length + 1, [_, _, _, _], rfl, by have := hp.1; omega, ?_, rfl⟩
          rw [get2, rw_next hs]
          simp [rw1, encR, Cm.W]
          omega
        | case is os =>
          simp [enc, Cm.W, inEnv, sSeq, sSet, e2, e1, eB, eVar, eC, aCons, aNil, sAsg, gSubM, sRet, sDrop, sIf, mB, sNext, sFor, gNm, srcSeq, srcRng, eMeth, oneA, one, eTup, eLst, eNewL, eIf, tOrM, tAndM, tYesM, got_bind, got_ret, got_iteM, got_ite, got_bad, got_mbad, got_ok, FnQ, g_add, g_sub, g_mul, g_div, g_mod, g_pow, g_neg, g_cmp, g_isN, g_isNotN, g_bool, g_int, g_eq, g_ne, g_inL, g_inF, g_tup, g_lst, g_newL, g_ix, g_slT, g_slL, g_len, g_list, g_listNew, g_tuple, g_addT, g_addL, g_addR, g_addN, g_call, g_rng, asQ_tup, asQ_lst, asQ_fro, asL_lst, asR_lst, at0, at1, at2, at3, at4, eqD_ii, eqD_str, beq_str, ofStr_eq, asQ_ref hS, FlQ, anyF, eqF_str, flD, repL, intM]
          have hy := rwL_le j (n := n + (rwL (ss.take i) n).length + 1) h1.1
          have hy2 := rwL_le j (n := n + (rwL (ss.take i) n).length + (rwL is (n + (rwL (ss.take i) n).length + 1)).length + 2) h1.2
          refine ⟨by decide, lrows_spec k j h1.1 (by omega) (by omega) ⟨by decide, (g_addLL rfl rfl (by simp only [List.length_map, List.length_append, List.length_cons, List.length_nil, sizeLine]; omega)).mpr ⟨_, rfl, ?_⟩⟩⟩
          rw [List.append_nil, List.length_map]
          rw [show n + ((rwL (ss.take i) n).length : Int) + 2 + (rwL is (n + (rwL (ss.take i) n).length + 1)).length = n + (rwL (ss.take i) n).length + (rwL is (n + (rwL (ss.take i) n).length + 1)).length + 2 by omega]
          refine lrows_spec k j h1.2 (by omega) (by omega) ?_
          refine ⟨_, rfl, by decide, by decide, _, hl, by simp only [List.length_map, List.length_append, List.length_cons, List.length_nil, sizeLine]; omega, _, rfl, by simp only [List.length_map, List.length_append, List.length_cons, List.length_nil, sizeLine]; omega, _, rfl, _, rfl, by decide, by decide, _, asL_ref last_get, by simp only [List.length_map, List.length_append, List.length_cons, List.length_nil, sizeLine]; omega, ?_⟩
          refine ⟨_, rfl, by simp only [List.length_map, List.length_append, List.length_cons, List.length_nil, sizeLine]; omega, ?_⟩
          refine ⟨hp.trans Pre.app, S1.length + 1, [_, _, _, _], rfl, by have := hp.1; omega, ?_, rfl⟩
          rw [get2, rw_next hs]
          simp [rw1, encR, Cm.W]
          omega
    · rintro ρ S1 ⟨hp, f, xs, hxl, hf, hS, rfl⟩
      simp [inEnv, sSeq, sSet, e2, e1, eB, eVar, eC, aCons, aNil, sAsg, gSubM, sRet, sDrop, sIf, mB, sNext, sFor, gNm, srcSeq, srcRng, eMeth, oneA, one, eTup, eLst, eNewL, eIf, tOrM, tAndM, tYesM, got_bind, got_ret, got_iteM, got_ite, got_bad, got_mbad, got_ok, FnQ, g_add, g_sub, g_mul, g_div, g_mod, g_pow, g_neg, g_cmp, g_isN, g_isNotN, g_bool, g_int, g_eq, g_ne, g_inL, g_inF, g_tup, g_lst, g_newL, g_ix, g_slT, g_slL, g_len, g_list, g_listNew, g_tuple, g_addT, g_addL, g_addR, g_addN, g_call, g_rng, asQ_tup, asQ_lst, asQ_fro, asL_lst, asR_lst, at0, at1, at2, at3, at4, eqD_ii]
      rw [show (encL ss).length = ss.length by simp [encL_eq], List.take_length] at hS
      exact retP_lst hp hf hS encR_rlt q
end K22
/-! Q22c: the plain law of k22. -/
namespace K22
open PySem PySem.Spec PyProof.Rows L2 SL Cm
theorem g_slR {S : Store} {lo hi : Option Int} {n : Nat} {l : List D} {Q : D → Store → Prop} (h : S[n]? = some (.lst l)) : Got (slM lo hi (.ref n) S) Q ↔ Q (.lst (cutD l lo hi)) S := by
  have e : slM lo hi (.ref n) S = .ok (.lst (cutD l lo hi)) S := by simp only [slM, asR, asL, h]
  rw [e, got_ok]
theorem law_spec {zs : List Int} : ∃ S', m_law [.fro (zs.map D.int)] [] = .ok (.bl true) S' := by
  suffices h : Got (m_law [.fro (zs.map D.int)] []) fun d _ => d = .bl true by
    obtain ⟨d, S', e, rfl⟩ := h
    exact ⟨S', e⟩
  unfold m_law
  apply got_fnT
  unfold b_law
  simp [inEnv, sSeq, sSet, e2, e1, eB, eVar, eC, aCons, aNil, sAsg, gSubM, sRet, sDrop, sIf, mB, sNext, sFor, gNm, srcSeq, srcRng, eMeth, oneA, one, eTup, eLst, eNewL, eIf, tOrM, tAndM, tYesM, got_bind, got_ret, got_iteM, got_ite, got_bad, got_mbad, got_ok, FnQ, g_add, g_sub, g_mul, g_div, g_mod, g_pow, g_neg, g_cmp, g_isN, g_isNotN, g_bool, g_int, g_eq, g_ne, g_inL, g_inF, g_tup, g_lst, g_newL, g_ix, g_slT, g_slL, g_len, g_list, g_listNew, g_tuple, g_addT, g_addL, g_addR, g_addN, g_call, g_rng, asQ_tup, asQ_lst, asQ_fro, asL_lst, asR_lst, at0, at1, at2, at3, at4, eqD_ii, sizeLine]
  rw [g_seq (by intro n; simp)]
  refine ⟨_, rfl, got_for _ (fun i ρ S' => ∃ x1 x2 x3 : Option D, ρ = [some (.fro (zs.map D.int)), x1, x2, x3]) ⟨_, _, _, rfl⟩ (fun _ _ _ _ => trivial) ?_ ?_⟩
  · rintro i d ρ S1 hd ⟨x1, x2, x3, rfl⟩
    have hd : ∃ n : Nat, d = .int n ∧ n < 900 := by
      have := List.mem_of_getElem? hd
      simp at this
      rcases this with rfl | rfl | rfl
      · exact ⟨0, rfl, by omega⟩
      · exact ⟨8, rfl, by omega⟩
      · exact ⟨16, rfl, by omega⟩
    obtain ⟨n, rfl, hn⟩ := hd
    simp [inEnv, sSeq, sSet, e2, e1, eB, eVar, eC, aCons, aNil, sAsg, gSubM, sRet, sDrop, sIf, mB, sNext, sFor, gNm, srcSeq, srcRng, eMeth, oneA, one, eTup, eLst, eNewL, eIf, tOrM, tAndM, tYesM, got_bind, got_ret, got_iteM, got_ite, got_bad, got_mbad, got_ok, FnQ, g_add, g_sub, g_mul, g_div, g_mod, g_pow, g_neg, g_cmp, g_isN, g_isNotN, g_bool, g_int, g_eq, g_ne, g_inL, g_inF, g_tup, g_lst, g_newL, g_ix, g_slT, g_slL, g_len, g_list, g_listNew, g_tuple, g_addT, g_addL, g_addR, g_addN, g_call, g_rng, asQ_tup, asQ_lst, asQ_fro, asL_lst, asR_lst, at0, at1, at2, at3, at4, eqD_ii, sizeLine]
    refine scene_spec hn (by omega) (by omega) (by omega) (by omega) fun s ho => ?_
    simp [Sc.enc, inEnv, sSeq, sSet, e2, e1, eB, eVar, eC, aCons, aNil, sAsg, gSubM, sRet, sDrop, sIf, mB, sNext, sFor, gNm, srcSeq, srcRng, eMeth, oneA, one, eTup, eLst, eNewL, eIf, tOrM, tAndM, tYesM, got_bind, got_ret, got_iteM, got_ite, got_bad, got_mbad, got_ok, FnQ, g_add, g_sub, g_mul, g_div, g_mod, g_pow, g_neg, g_cmp, g_isN, g_isNotN, g_bool, g_int, g_eq, g_ne, g_inL, g_inF, g_tup, g_lst, g_newL, g_ix, g_slT, g_slL, g_len, g_list, g_listNew, g_tuple, g_addT, g_addL, g_addR, g_addN, g_call, g_rng, asQ_tup, asQ_lst, asQ_fro, asL_lst, asR_lst, at0, at1, at2, at3, at4, eqD_ii, sizeLine]
    rw [g_seq (by intro n; simp)]
    refine ⟨_, rfl, got_for _ (fun i ρ S' => ∃ x2 x3 : Option D, ρ = [some (.fro (zs.map D.int)), some (.int n), x2, x3]) ⟨_, _, rfl⟩ (fun _ _ _ _ => trivial) ?_ ?_⟩
    · rintro i d ρ S2 hd ⟨x2, x3, rfl⟩
      have hd : ∃ p, p ∈ s.plans ∧ d = .tup (encL p) := by
        have := List.mem_of_getElem? hd
        simp only [encP, List.mem_map] at this
        obtain ⟨p, h, e⟩ := this
        exact ⟨p, h, e.symm⟩
      obtain ⟨p, hp, rfl⟩ := hd
      have ⟨hok, hw⟩ := ho.plans.2.2 p hp
      have hlen : (rwL p 0).length ≤ 8200000 := by
        have := rwL_le 4 (n := 0) hok
        have := Bd_le (show 4 ≤ 4 by omega)
        omega
      simp [inEnv, sSeq, sSet, e2, e1, eB, eVar, eC, aCons, aNil, sAsg, gSubM, sRet, sDrop, sIf, mB, sNext, sFor, gNm, srcSeq, srcRng, eMeth, oneA, one, eTup, eLst, eNewL, eIf, tOrM, tAndM, tYesM, got_bind, got_ret, got_iteM, got_ite, got_bad, got_mbad, got_ok, FnQ, g_add, g_sub, g_mul, g_div, g_mod, g_pow, g_neg, g_cmp, g_isN, g_isNotN, g_bool, g_int, g_eq, g_ne, g_inL, g_inF, g_tup, g_lst, g_newL, g_ix, g_slT, g_slL, g_len, g_list, g_listNew, g_tuple, g_addT, g_addL, g_addR, g_addN, g_call, g_rng, asQ_tup, asQ_lst, asQ_fro, asL_lst, asR_lst, at0, at1, at2, at3, at4, eqD_ii]
      refine compiled_spec hok (by omega) fun m S3 hp3 hm3 hS3 => ?_
      refine lrows_spec 7 4 hok (by omega) (by omega) ?_
      have hm3 := (List.getElem?_eq_some_iff.mp hS3).1
      refine .inr ⟨eqD_same (dpy_rows_ref hS3) dpy_rows_lst shaped_rows, ?_⟩
      have ht := tyD_ref hS3
      simp [tNotM, inEnv, sSeq, sSet, e2, e1, eB, eVar, eC, aCons, aNil, sAsg, gSubM, sRet, sDrop, sIf, mB, sNext, sFor, gNm, srcSeq, srcRng, eMeth, oneA, one, eTup, eLst, eNewL, eIf, tOrM, tAndM, tYesM, got_bind, got_ret, got_iteM, got_ite, got_bad, got_mbad, got_ok, FnQ, g_add, g_sub, g_mul, g_div, g_mod, g_pow, g_neg, g_cmp, g_isN, g_isNotN, g_bool, g_int, g_eq, g_ne, g_inL, g_inF, g_tup, g_lst, g_newL, g_ix, g_slT, g_slL, g_len, g_list, g_listNew, g_tuple, g_addT, g_addL, g_addR, g_addN, g_call, g_rng, asQ_tup, asQ_lst, asQ_fro, asL_lst, asR_lst, at0, at1, at2, at3, at4, eqD_ii, g_isi, ht, show isiB "list" "list" = true by rfl]
      rw [g_app hS3]
      refine ⟨by simp only [List.length_map, sizeLine]; omega, compiled_spec hok (by omega) fun m4 S4 hp4 hm4 hS4 => ?_⟩
      have hS5 : S4[m]? = some (.lst ((rwL p 0).map encR ++ [.int 0])) := hp4.get (by rw [List.getElem?_set_self hm3])
      simp [eSl, oNone, oSome, inEnv, sSeq, sSet, e2, e1, eB, eVar, eC, aCons, aNil, sAsg, gSubM, sRet, sDrop, sIf, mB, sNext, sFor, gNm, srcSeq, srcRng, eMeth, oneA, one, eTup, eLst, eNewL, eIf, tOrM, tAndM, tYesM, got_bind, got_ret, got_iteM, got_ite, got_bad, got_mbad, got_ok, FnQ, g_add, g_sub, g_mul, g_div, g_mod, g_pow, g_neg, g_cmp, g_isN, g_isNotN, g_bool, g_int, g_eq, g_ne, g_inL, g_inF, g_tup, g_lst, g_newL, g_ix, g_slT, g_slL, g_len, g_list, g_listNew, g_tuple, g_addT, g_addL, g_addR, g_addN, g_call, g_rng, asQ_tup, asQ_lst, asQ_fro, asL_lst, asR_lst, at0, at1, at2, at3, at4, eqD_ii]
      rw [g_slR hS5, cutD_last (by simp), List.dropLast_concat]
      exact .inr ⟨eqD_same (dpy_rows_ref hS4) dpy_rows_lst shaped_rows, _, _, rfl⟩
    · rintro ρ S1 ⟨x2, x3, rfl⟩
      exact ⟨_, _, _, rfl⟩
  · rintro ρ S1 ⟨x1, x2, x3, rfl⟩
    simp [inEnv, sSeq, sSet, e2, e1, eB, eVar, eC, aCons, aNil, sAsg, gSubM, sRet, sDrop, sIf, mB, sNext, sFor, gNm, srcSeq, srcRng, eMeth, oneA, one, eTup, eLst, eNewL, eIf, tOrM, tAndM, tYesM, got_bind, got_ret, got_iteM, got_ite, got_bad, got_mbad, got_ok, FnQ, g_add, g_sub, g_mul, g_div, g_mod, g_pow, g_neg, g_cmp, g_isN, g_isNotN, g_bool, g_int, g_eq, g_ne, g_inL, g_inF, g_tup, g_lst, g_newL, g_ix, g_slT, g_slL, g_len, g_list, g_listNew, g_tuple, g_addT, g_addL, g_addR, g_addN, g_call, g_rng, asQ_tup, asQ_lst, asQ_fro, asL_lst, asR_lst, at0, at1, at2, at3, at4, eqD_ii, sizeLine]
    exact retP_val ⟨by simp, fun m h => by simp at h⟩ (by intro n; simp) rfl rfl
end K22
namespace K22
open PySem PySem.Spec PyProof.Rows L2 SL
theorem txt_mk {w : World} {K : PySem.W.Frag} {h : Heap} {mg : Str → Option Value} (X : K.In h) (G : h.Ns mainGlobals mg)
    {f0 : Addr} {od0 an0 : Option Addr} {sl0 : Array (Option Value)} {oc0 kV0 dc0 pm0 cd0 ct0 : Value}
    (a0 : PySem.W.nsIn K mainGlobals "rows_of" = some (some (.ref f0))) (l0 : K.lookup f0 = some ⟨oc0, od0, .func (PySem.W.fnOf "rows_of" "rows_of" (defArgs s_rows_of) (defBody s_rows_of) (defScope s_rows_of) .none kV0 dc0 pm0 an0 cd0 ct0), sl0⟩) (c0 : PySem.W.codeIn K cd0 "rows_of" = true) (k0 : PySem.W.keepIn K (.ref f0) = true)
    {f1 : Addr} {od1 an1 : Option Addr} {sl1 : Array (Option Value)} {oc1 kV1 dc1 pm1 cd1 ct1 : Value}
    (a1 : PySem.W.nsIn K mainGlobals "compiled" = some (some (.ref f1))) (l1 : K.lookup f1 = some ⟨oc1, od1, .func (PySem.W.fnOf "compiled" "compiled" (defArgs s_compiled) (defBody s_compiled) (defScope s_compiled) .none kV1 dc1 pm1 an1 cd1 ct1), sl1⟩) (c1 : PySem.W.codeIn K cd1 "compiled" = true) (k1 : PySem.W.keepIn K (.ref f1) = true)
    {f2 : Addr} {od2 an2 : Option Addr} {sl2 : Array (Option Value)} {oc2 kV2 dc2 pm2 cd2 ct2 : Value}
    (a2 : PySem.W.nsIn K mainGlobals "_law_cell" = some (some (.ref f2))) (l2 : K.lookup f2 = some ⟨oc2, od2, .func (PySem.W.fnOf "_law_cell" "_law_cell" (defArgs s__law_cell) (defBody s__law_cell) (defScope s__law_cell) .none kV2 dc2 pm2 an2 cd2 ct2), sl2⟩) (c2 : PySem.W.codeIn K cd2 "_law_cell" = true) (k2 : PySem.W.keepIn K (.ref f2) = true)
    {f3 : Addr} {od3 an3 : Option Addr} {sl3 : Array (Option Value)} {oc3 kV3 dc3 pm3 cd3 ct3 : Value}
    (a3 : PySem.W.nsIn K mainGlobals "_law_draws" = some (some (.ref f3))) (l3 : K.lookup f3 = some ⟨oc3, od3, .func (PySem.W.fnOf "_law_draws" "_law_draws" (defArgs s__law_draws) (defBody s__law_draws) (defScope s__law_draws) .none kV3 dc3 pm3 an3 cd3 ct3), sl3⟩) (c3 : PySem.W.codeIn K cd3 "_law_draws" = true) (k3 : PySem.W.keepIn K (.ref f3) = true)
    {f4 : Addr} {od4 an4 : Option Addr} {sl4 : Array (Option Value)} {oc4 kV4 dc4 pm4 cd4 ct4 : Value}
    (a4 : PySem.W.nsIn K mainGlobals "_law_tape" = some (some (.ref f4))) (l4 : K.lookup f4 = some ⟨oc4, od4, .func (PySem.W.fnOf "_law_tape" "_law_tape" (defArgs s__law_tape) (defBody s__law_tape) (defScope s__law_tape) .none kV4 dc4 pm4 an4 cd4 ct4), sl4⟩) (c4 : PySem.W.codeIn K cd4 "_law_tape" = true) (k4 : PySem.W.keepIn K (.ref f4) = true)
    {f5 : Addr} {od5 an5 : Option Addr} {sl5 : Array (Option Value)} {oc5 kV5 dc5 pm5 cd5 ct5 : Value}
    (a5 : PySem.W.nsIn K mainGlobals "_law_take" = some (some (.ref f5))) (l5 : K.lookup f5 = some ⟨oc5, od5, .func (PySem.W.fnOf "_law_take" "_law_take" (defArgs s__law_take) (defBody s__law_take) (defScope s__law_take) .none kV5 dc5 pm5 an5 cd5 ct5), sl5⟩) (c5 : PySem.W.codeIn K cd5 "_law_take" = true) (k5 : PySem.W.keepIn K (.ref f5) = true)
    {f6 : Addr} {od6 an6 : Option Addr} {sl6 : Array (Option Value)} {oc6 kV6 dc6 pm6 cd6 ct6 : Value}
    (a6 : PySem.W.nsIn K mainGlobals "_law_plain" = some (some (.ref f6))) (l6 : K.lookup f6 = some ⟨oc6, od6, .func (PySem.W.fnOf "_law_plain" "_law_plain" (defArgs s__law_plain) (defBody s__law_plain) (defScope s__law_plain) .none kV6 dc6 pm6 an6 cd6 ct6), sl6⟩) (c6 : PySem.W.codeIn K cd6 "_law_plain" = true) (k6 : PySem.W.keepIn K (.ref f6) = true)
    {f7 : Addr} {od7 an7 : Option Addr} {sl7 : Array (Option Value)} {oc7 kV7 dc7 pm7 cd7 ct7 : Value}
    (a7 : PySem.W.nsIn K mainGlobals "_law_steps" = some (some (.ref f7))) (l7 : K.lookup f7 = some ⟨oc7, od7, .func (PySem.W.fnOf "_law_steps" "_law_steps" (defArgs s__law_steps) (defBody s__law_steps) (defScope s__law_steps) .none kV7 dc7 pm7 an7 cd7 ct7), sl7⟩) (c7 : PySem.W.codeIn K cd7 "_law_steps" = true) (k7 : PySem.W.keepIn K (.ref f7) = true)
    {f8 : Addr} {od8 an8 : Option Addr} {sl8 : Array (Option Value)} {oc8 kV8 dc8 pm8 cd8 ct8 : Value}
    (a8 : PySem.W.nsIn K mainGlobals "_law_weight" = some (some (.ref f8))) (l8 : K.lookup f8 = some ⟨oc8, od8, .func (PySem.W.fnOf "_law_weight" "_law_weight" (defArgs s__law_weight) (defBody s__law_weight) (defScope s__law_weight) .none kV8 dc8 pm8 an8 cd8 ct8), sl8⟩) (c8 : PySem.W.codeIn K cd8 "_law_weight" = true) (k8 : PySem.W.keepIn K (.ref f8) = true)
    {f9 : Addr} {od9 an9 : Option Addr} {sl9 : Array (Option Value)} {oc9 kV9 dc9 pm9 cd9 ct9 : Value}
    (a9 : PySem.W.nsIn K mainGlobals "_law_plan" = some (some (.ref f9))) (l9 : K.lookup f9 = some ⟨oc9, od9, .func (PySem.W.fnOf "_law_plan" "_law_plan" (defArgs s__law_plan) (defBody s__law_plan) (defScope s__law_plan) .none kV9 dc9 pm9 an9 cd9 ct9), sl9⟩) (c9 : PySem.W.codeIn K cd9 "_law_plan" = true) (k9 : PySem.W.keepIn K (.ref f9) = true)
    {f10 : Addr} {od10 an10 : Option Addr} {sl10 : Array (Option Value)} {oc10 kV10 dc10 pm10 cd10 ct10 : Value}
    (a10 : PySem.W.nsIn K mainGlobals "_law_scene" = some (some (.ref f10))) (l10 : K.lookup f10 = some ⟨oc10, od10, .func (PySem.W.fnOf "_law_scene" "_law_scene" (defArgs s__law_scene) (defBody s__law_scene) (defScope s__law_scene) .none kV10 dc10 pm10 an10 cd10 ct10), sl10⟩) (c10 : PySem.W.codeIn K cd10 "_law_scene" = true) (k10 : PySem.W.keepIn K (.ref f10) = true)
    {f11 : Addr} {od11 an11 : Option Addr} {sl11 : Array (Option Value)} {oc11 kV11 dc11 pm11 cd11 ct11 : Value}
    (a11 : PySem.W.nsIn K mainGlobals "_law_rows" = some (some (.ref f11))) (l11 : K.lookup f11 = some ⟨oc11, od11, .func (PySem.W.fnOf "_law_rows" "_law_rows" (defArgs s__law_rows) (defBody s__law_rows) (defScope s__law_rows) .none kV11 dc11 pm11 an11 cd11 ct11), sl11⟩) (c11 : PySem.W.codeIn K cd11 "_law_rows" = true) (k11 : PySem.W.keepIn K (.ref f11) = true)
    {f12 : Addr} {od12 an12 : Option Addr} {sl12 : Array (Option Value)} {oc12 kV12 dc12 pm12 cd12 ct12 : Value}
    (a12 : PySem.W.nsIn K mainGlobals "law" = some (some (.ref f12))) (l12 : K.lookup f12 = some ⟨oc12, od12, .func (PySem.W.fnOf "law" "law" (defArgs s_law) (defBody s_law) (defScope s_law) .none kV12 dc12 pm12 an12 cd12 ct12), sl12⟩) (c12 : PySem.W.codeIn K cd12 "law" = true) (k12 : PySem.W.keepIn K (.ref f12) = true)
    (z0 : PySem.W.nsIn K mainGlobals "int" = some none)
    (z1 : PySem.W.nsIn K mainGlobals "isinstance" = some none)
    (z2 : PySem.W.nsIn K mainGlobals "len" = some none)
    (z3 : PySem.W.nsIn K mainGlobals "list" = some none)
    (z4 : PySem.W.nsIn K mainGlobals "range" = some none)
    (z5 : PySem.W.nsIn K mainGlobals "tuple" = some none) :
    ∃ T : Txt w K mg, T.a_law = f12 ∧ ∀ (s : Shared) (u : Value), BindsTo s T.fd_law ⟨[u], []⟩ [("script", u)] :=
  ⟨{ a_rows_of := f0,
      fd_rows_of := _,
      F_rows_of := fun_mk (st := s_rows_of) l0 c0 k0,
      g_rows_of := PySem.W.mg_of X G a0,
      B_rows_of := (fun_mk (st := s_rows_of) l0 c0 k0).binds (ps := ["steps", "start"]) fun _ _ _ _ _ _ us hl => match us, hl with | [_, _], _ => rfl,
      a_compiled := f1,
      fd_compiled := _,
      F_compiled := fun_mk (st := s_compiled) l1 c1 k1,
      g_compiled := PySem.W.mg_of X G a1,
      B_compiled := (fun_mk (st := s_compiled) l1 c1 k1).binds (ps := ["plan"]) fun _ _ _ _ _ _ us hl => match us, hl with | [_], _ => rfl,
      a__law_cell := f2,
      fd__law_cell := _,
      F__law_cell := fun_mk (st := s__law_cell) l2 c2 k2,
      g__law_cell := PySem.W.mg_of X G a2,
      B__law_cell := (fun_mk (st := s__law_cell) l2 c2 k2).binds (ps := ["script", "k"]) fun _ _ _ _ _ _ us hl => match us, hl with | [_, _], _ => rfl,
      a__law_draws := f3,
      fd__law_draws := _,
      F__law_draws := fun_mk (st := s__law_draws) l3 c3 k3,
      g__law_draws := PySem.W.mg_of X G a3,
      B__law_draws := (fun_mk (st := s__law_draws) l3 c3 k3).binds (ps := ["script", "k", "many", "base"]) fun _ _ _ _ _ _ us hl => match us, hl with | [_, _, _, _], _ => rfl,
      a__law_tape := f4,
      fd__law_tape := _,
      F__law_tape := fun_mk (st := s__law_tape) l4 c4 k4,
      g__law_tape := PySem.W.mg_of X G a4,
      B__law_tape := (fun_mk (st := s__law_tape) l4 c4 k4).binds (ps := ["script", "at", "many"]) fun _ _ _ _ _ _ us hl => match us, hl with | [_, _, _], _ => rfl,
      a__law_take := f5,
      fd__law_take := _,
      F__law_take := fun_mk (st := s__law_take) l5 c5 k5,
      g__law_take := PySem.W.mg_of X G a5,
      B__law_take := (fun_mk (st := s__law_take) l5 c5 k5).binds (ps := ["tape", "many"]) fun _ _ _ _ _ _ us hl => match us, hl with | [_, _], _ => rfl,
      a__law_plain := f6,
      fd__law_plain := _,
      F__law_plain := fun_mk (st := s__law_plain) l6 c6 k6,
      g__law_plain := PySem.W.mg_of X G a6,
      B__law_plain := (fun_mk (st := s__law_plain) l6 c6 k6).binds (ps := ["tape", "places"]) fun _ _ _ _ _ _ us hl => match us, hl with | [_, _], _ => rfl,
      a__law_steps := f7,
      fd__law_steps := _,
      F__law_steps := fun_mk (st := s__law_steps) l7 c7 k7,
      g__law_steps := PySem.W.mg_of X G a7,
      B__law_steps := (fun_mk (st := s__law_steps) l7 c7 k7).binds (ps := ["tape", "places", "deep", "most"]) fun _ _ _ _ _ _ us hl => match us, hl with | [_, _, _, _], _ => rfl,
      a__law_weight := f8,
      fd__law_weight := _,
      F__law_weight := fun_mk (st := s__law_weight) l8 c8 k8,
      g__law_weight := PySem.W.mg_of X G a8,
      B__law_weight := (fun_mk (st := s__law_weight) l8 c8 k8).binds (ps := ["steps"]) fun _ _ _ _ _ _ us hl => match us, hl with | [_], _ => rfl,
      a__law_plan := f9,
      fd__law_plan := _,
      F__law_plan := fun_mk (st := s__law_plan) l9 c9 k9,
      g__law_plan := PySem.W.mg_of X G a9,
      B__law_plan := (fun_mk (st := s__law_plan) l9 c9 k9).binds (ps := ["tape", "places", "most"]) fun _ _ _ _ _ _ us hl => match us, hl with | [_, _, _], _ => rfl,
      a__law_scene := f10,
      fd__law_scene := _,
      F__law_scene := fun_mk (st := s__law_scene) l10 c10 k10,
      g__law_scene := PySem.W.mg_of X G a10,
      B__law_scene := (fun_mk (st := s__law_scene) l10 c10 k10).binds (ps := ["script", "at", "most", "hands"]) fun _ _ _ _ _ _ us hl => match us, hl with | [_, _, _, _], _ => rfl,
      a__law_rows := f11,
      fd__law_rows := _,
      F__law_rows := fun_mk (st := s__law_rows) l11 c11 k11,
      g__law_rows := PySem.W.mg_of X G a11,
      B__law_rows := (fun_mk (st := s__law_rows) l11 c11 k11).binds (ps := ["steps", "start"]) fun _ _ _ _ _ _ us hl => match us, hl with | [_, _], _ => rfl,
      a_law := f12,
      fd_law := _,
      F_law := fun_mk (st := s_law) l12 c12 k12,
      g_law := PySem.W.mg_of X G a12,
      B_law := (fun_mk (st := s_law) l12 c12 k12).binds (ps := ["script"]) fun _ _ _ _ _ _ us hl => match us, hl with | [_], _ => rfl,
      n_int := PySem.W.mg_none_of X G z0,
      n_isinstance := PySem.W.mg_none_of X G z1,
      n_len := PySem.W.mg_none_of X G z2,
      n_list := PySem.W.mg_none_of X G z3,
      n_range := PySem.W.mg_none_of X G z4,
      n_tuple := PySem.W.mg_none_of X G z5 }, rfl, fun s u => .of_eq rfl⟩
theorem txt_end {w : World} {K : PySem.W.Frag} {h : Heap} {mg : Str → Option Value} {fa : Addr} (hmg : mg "law" = some (.ref fa)) (X : K.In h) (G : h.Ns mainGlobals mg)
    {f0 : Addr} {od0 an0 : Option Addr} {sl0 : Array (Option Value)} {oc0 kV0 dc0 pm0 cd0 ct0 : Value}
    (a0 : PySem.W.nsIn K mainGlobals "rows_of" = some (some (.ref f0))) (l0 : K.lookup f0 = some ⟨oc0, od0, .func (PySem.W.fnOf "rows_of" "rows_of" (defArgs s_rows_of) (defBody s_rows_of) (defScope s_rows_of) .none kV0 dc0 pm0 an0 cd0 ct0), sl0⟩) (c0 : PySem.W.codeIn K cd0 "rows_of" = true) (k0 : PySem.W.keepIn K (.ref f0) = true)
    {f1 : Addr} {od1 an1 : Option Addr} {sl1 : Array (Option Value)} {oc1 kV1 dc1 pm1 cd1 ct1 : Value}
    (a1 : PySem.W.nsIn K mainGlobals "compiled" = some (some (.ref f1))) (l1 : K.lookup f1 = some ⟨oc1, od1, .func (PySem.W.fnOf "compiled" "compiled" (defArgs s_compiled) (defBody s_compiled) (defScope s_compiled) .none kV1 dc1 pm1 an1 cd1 ct1), sl1⟩) (c1 : PySem.W.codeIn K cd1 "compiled" = true) (k1 : PySem.W.keepIn K (.ref f1) = true)
    {f2 : Addr} {od2 an2 : Option Addr} {sl2 : Array (Option Value)} {oc2 kV2 dc2 pm2 cd2 ct2 : Value}
    (a2 : PySem.W.nsIn K mainGlobals "_law_cell" = some (some (.ref f2))) (l2 : K.lookup f2 = some ⟨oc2, od2, .func (PySem.W.fnOf "_law_cell" "_law_cell" (defArgs s__law_cell) (defBody s__law_cell) (defScope s__law_cell) .none kV2 dc2 pm2 an2 cd2 ct2), sl2⟩) (c2 : PySem.W.codeIn K cd2 "_law_cell" = true) (k2 : PySem.W.keepIn K (.ref f2) = true)
    {f3 : Addr} {od3 an3 : Option Addr} {sl3 : Array (Option Value)} {oc3 kV3 dc3 pm3 cd3 ct3 : Value}
    (a3 : PySem.W.nsIn K mainGlobals "_law_draws" = some (some (.ref f3))) (l3 : K.lookup f3 = some ⟨oc3, od3, .func (PySem.W.fnOf "_law_draws" "_law_draws" (defArgs s__law_draws) (defBody s__law_draws) (defScope s__law_draws) .none kV3 dc3 pm3 an3 cd3 ct3), sl3⟩) (c3 : PySem.W.codeIn K cd3 "_law_draws" = true) (k3 : PySem.W.keepIn K (.ref f3) = true)
    {f4 : Addr} {od4 an4 : Option Addr} {sl4 : Array (Option Value)} {oc4 kV4 dc4 pm4 cd4 ct4 : Value}
    (a4 : PySem.W.nsIn K mainGlobals "_law_tape" = some (some (.ref f4))) (l4 : K.lookup f4 = some ⟨oc4, od4, .func (PySem.W.fnOf "_law_tape" "_law_tape" (defArgs s__law_tape) (defBody s__law_tape) (defScope s__law_tape) .none kV4 dc4 pm4 an4 cd4 ct4), sl4⟩) (c4 : PySem.W.codeIn K cd4 "_law_tape" = true) (k4 : PySem.W.keepIn K (.ref f4) = true)
    {f5 : Addr} {od5 an5 : Option Addr} {sl5 : Array (Option Value)} {oc5 kV5 dc5 pm5 cd5 ct5 : Value}
    (a5 : PySem.W.nsIn K mainGlobals "_law_take" = some (some (.ref f5))) (l5 : K.lookup f5 = some ⟨oc5, od5, .func (PySem.W.fnOf "_law_take" "_law_take" (defArgs s__law_take) (defBody s__law_take) (defScope s__law_take) .none kV5 dc5 pm5 an5 cd5 ct5), sl5⟩) (c5 : PySem.W.codeIn K cd5 "_law_take" = true) (k5 : PySem.W.keepIn K (.ref f5) = true)
    {f6 : Addr} {od6 an6 : Option Addr} {sl6 : Array (Option Value)} {oc6 kV6 dc6 pm6 cd6 ct6 : Value}
    (a6 : PySem.W.nsIn K mainGlobals "_law_plain" = some (some (.ref f6))) (l6 : K.lookup f6 = some ⟨oc6, od6, .func (PySem.W.fnOf "_law_plain" "_law_plain" (defArgs s__law_plain) (defBody s__law_plain) (defScope s__law_plain) .none kV6 dc6 pm6 an6 cd6 ct6), sl6⟩) (c6 : PySem.W.codeIn K cd6 "_law_plain" = true) (k6 : PySem.W.keepIn K (.ref f6) = true)
    {f7 : Addr} {od7 an7 : Option Addr} {sl7 : Array (Option Value)} {oc7 kV7 dc7 pm7 cd7 ct7 : Value}
    (a7 : PySem.W.nsIn K mainGlobals "_law_steps" = some (some (.ref f7))) (l7 : K.lookup f7 = some ⟨oc7, od7, .func (PySem.W.fnOf "_law_steps" "_law_steps" (defArgs s__law_steps) (defBody s__law_steps) (defScope s__law_steps) .none kV7 dc7 pm7 an7 cd7 ct7), sl7⟩) (c7 : PySem.W.codeIn K cd7 "_law_steps" = true) (k7 : PySem.W.keepIn K (.ref f7) = true)
    {f8 : Addr} {od8 an8 : Option Addr} {sl8 : Array (Option Value)} {oc8 kV8 dc8 pm8 cd8 ct8 : Value}
    (a8 : PySem.W.nsIn K mainGlobals "_law_weight" = some (some (.ref f8))) (l8 : K.lookup f8 = some ⟨oc8, od8, .func (PySem.W.fnOf "_law_weight" "_law_weight" (defArgs s__law_weight) (defBody s__law_weight) (defScope s__law_weight) .none kV8 dc8 pm8 an8 cd8 ct8), sl8⟩) (c8 : PySem.W.codeIn K cd8 "_law_weight" = true) (k8 : PySem.W.keepIn K (.ref f8) = true)
    {f9 : Addr} {od9 an9 : Option Addr} {sl9 : Array (Option Value)} {oc9 kV9 dc9 pm9 cd9 ct9 : Value}
    (a9 : PySem.W.nsIn K mainGlobals "_law_plan" = some (some (.ref f9))) (l9 : K.lookup f9 = some ⟨oc9, od9, .func (PySem.W.fnOf "_law_plan" "_law_plan" (defArgs s__law_plan) (defBody s__law_plan) (defScope s__law_plan) .none kV9 dc9 pm9 an9 cd9 ct9), sl9⟩) (c9 : PySem.W.codeIn K cd9 "_law_plan" = true) (k9 : PySem.W.keepIn K (.ref f9) = true)
    {f10 : Addr} {od10 an10 : Option Addr} {sl10 : Array (Option Value)} {oc10 kV10 dc10 pm10 cd10 ct10 : Value}
    (a10 : PySem.W.nsIn K mainGlobals "_law_scene" = some (some (.ref f10))) (l10 : K.lookup f10 = some ⟨oc10, od10, .func (PySem.W.fnOf "_law_scene" "_law_scene" (defArgs s__law_scene) (defBody s__law_scene) (defScope s__law_scene) .none kV10 dc10 pm10 an10 cd10 ct10), sl10⟩) (c10 : PySem.W.codeIn K cd10 "_law_scene" = true) (k10 : PySem.W.keepIn K (.ref f10) = true)
    {f11 : Addr} {od11 an11 : Option Addr} {sl11 : Array (Option Value)} {oc11 kV11 dc11 pm11 cd11 ct11 : Value}
    (a11 : PySem.W.nsIn K mainGlobals "_law_rows" = some (some (.ref f11))) (l11 : K.lookup f11 = some ⟨oc11, od11, .func (PySem.W.fnOf "_law_rows" "_law_rows" (defArgs s__law_rows) (defBody s__law_rows) (defScope s__law_rows) .none kV11 dc11 pm11 an11 cd11 ct11), sl11⟩) (c11 : PySem.W.codeIn K cd11 "_law_rows" = true) (k11 : PySem.W.keepIn K (.ref f11) = true)
    {f12 : Addr} {od12 an12 : Option Addr} {sl12 : Array (Option Value)} {oc12 kV12 dc12 pm12 cd12 ct12 : Value}
    (a12 : PySem.W.nsIn K mainGlobals "law" = some (some (.ref f12))) (l12 : K.lookup f12 = some ⟨oc12, od12, .func (PySem.W.fnOf "law" "law" (defArgs s_law) (defBody s_law) (defScope s_law) .none kV12 dc12 pm12 an12 cd12 ct12), sl12⟩) (c12 : PySem.W.codeIn K cd12 "law" = true) (k12 : PySem.W.keepIn K (.ref f12) = true)
    (z0 : PySem.W.nsIn K mainGlobals "int" = some none)
    (z1 : PySem.W.nsIn K mainGlobals "isinstance" = some none)
    (z2 : PySem.W.nsIn K mainGlobals "len" = some none)
    (z3 : PySem.W.nsIn K mainGlobals "list" = some none)
    (z4 : PySem.W.nsIn K mainGlobals "range" = some none)
    (z5 : PySem.W.nsIn K mainGlobals "tuple" = some none) :
    ∃ T : Txt w K mg, T.a_law = fa ∧ ∀ (s : Shared) (u : Value), BindsTo s T.fd_law ⟨[u], []⟩ [("script", u)] := by
  have e := hmg.symm.trans (PySem.W.mg_of X G a12)
  cases e
  exact txt_mk X G a0 l0 c0 k0 a1 l1 c1 k1 a2 l2 c2 k2 a3 l3 c3 k3 a4 l4 c4 k4 a5 l5 c5 k5 a6 l6 c6 k6 a7 l7 c7 k7 a8 l8 c8 k8 a9 l9 c9 k9 a10 l10 c10 k10 a11 l11 c11 k11 a12 l12 c12 k12 z0 z1 z2 z3 z4 z5
theorem law_at {l : PySem.W.OpenLaw} {w : World} {K : PySem.W.Frag} {h : Heap} {mg : Str → Option Value} {fa : Addr} (hfa : mg "law" = some (.ref fa))
    (T : ∃ T : Txt w K mg, T.a_law = fa ∧ ∀ (s : Shared) (u : Value), BindsTo s T.fd_law ⟨[u], []⟩ [("script", u)]) : LamX.LawAtS l w K CX0 12 63 "script" mg fa h := by
  obtain ⟨T, rfl, hb⟩ := T
  exact ⟨T.fd_law, [], spS K mg 1 m_law, fun _ h => (by cases h), fun _ h => (by cases h), fun _ h => (by cases h), hb, fun H a ns _ _ _ hS => fin_spS hS law_spec, fun base _ _ _ => ok_law T⟩
end K22
open PySem PySem.W PyProof.Rows
set_option maxHeartbeats 0 in
theorem PySem.Challenge.cw_tiehours_k22_plans_compiled_holds : PySem.Challenge.rw_tiehours_k22_plans_compiled.Holds := by
  w_on; o_law; k_head; (case hw => w_witness2)
  k_fill
  refine LamX.walk_ofTs (l := PySem.Challenge.rw_tiehours_k22_plans_compiled) (n := 63) (k := 12) (x := "script") (CX := fun _ => L2.CX0) rfl (by decide) rfl ⟨rfl, by decide, by decide⟩ (fun w h Y => PySem.W.kIn_of Y) ?F (fun _ _ _ _ _ h => h)
  case F =>
    intro w mg fa h Y KX G hmg
    refine K22.law_at hmg ?_
    refine' K22.txt_end hmg KX G ?a0 ?l0 ?c0 ?k0 ?a1 ?l1 ?c1 ?k1 ?a2 ?l2 ?c2 ?k2 ?a3 ?l3 ?c3 ?k3 ?a4 ?l4 ?c4 ?k4 ?a5 ?l5 ?c5 ?k5 ?a6 ?l6 ?c6 ?k6 ?a7 ?l7 ?c7 ?k7 ?a8 ?l8 ?c8 ?k8 ?a9 ?l9 ?c9 ?k9 ?a10 ?l10 ?c10 ?k10 ?a11 ?l11 ?c11 ?k11 ?a12 ?l12 ?c12 ?k12 ?z0 ?z1 ?z2 ?z3 ?z4 ?z5
    (case a0 => k_is); (case l0 => k_is); (case c0 => k_is); (case k0 => k_is); (case a1 => k_is); (case l1 => k_is); (case c1 => k_is); (case k1 => k_is); (case a2 => k_is); (case l2 => k_is); (case c2 => k_is); (case k2 => k_is); (case a3 => k_is); (case l3 => k_is); (case c3 => k_is); (case k3 => k_is); (case a4 => k_is); (case l4 => k_is); (case c4 => k_is); (case k4 => k_is); (case a5 => k_is); (case l5 => k_is); (case c5 => k_is); (case k5 => k_is); (case a6 => k_is); (case l6 => k_is); (case c6 => k_is); (case k6 => k_is); (case a7 => k_is); (case l7 => k_is); (case c7 => k_is); (case k7 => k_is); (case a8 => k_is); (case l8 => k_is); (case c8 => k_is); (case k8 => k_is); (case a9 => k_is); (case l9 => k_is); (case c9 => k_is); (case k9 => k_is); (case a10 => k_is); (case l10 => k_is); (case c10 => k_is); (case k10 => k_is); (case a11 => k_is); (case l11 => k_is); (case c11 => k_is); (case k11 => k_is); (case a12 => k_is); (case l12 => k_is); (case c12 => k_is); (case k12 => k_is); (case z0 => k_is); (case z1 => k_is); (case z2 => k_is); (case z3 => k_is); (case z4 => k_is); (case z5 => k_is)
    skip
#print axioms PySem.Challenge.cw_tiehours_k22_plans_compiled_holds
