import PyProof.Rows.All
import Wide.All
import OpenK.AllK
import Wide.FinOn
import HandS.ForMost
import HandS.Style
import HandS.Wide
import HandS.IsInst
import HandS.RaiseMore
import HandS.Property
import HandS.SlotsOwn
import HandS.More
import KE.KOpsOwn
import PyProof.InstNe
import HandS.Defaults
import PySem.Challenge.RW_matrixforms_k03_ratio_operators
set_option Elab.async false
set_option linter.all false
set_option maxRecDepth 100000
set_option autoImplicit false
set_option maxHeartbeats 4000000
/-! TL1: trees of data over the hand layer. D: immutable data; S: what a slot holds (data, or a list of its own that may change).
    Rep: a value stands for a tree in a heap. M: the addresses that may change (no tree goes through them), W: those that this code may change. -/
namespace TL
open PySem L2

inductive D where
  | non | bl (b : Bool) | int (i : Int) | str (x : Str) | lst (xs : List D) | scr (K : PySem.W.Frag) (a : Addr) (ns : List Int) | tup (xs : List D)
  | ins (C : Addr) (ns : List Str) (ds : List D) | vl (x : V)

/-- what may change: a list, an instance that is being made -/
inductive OC where
  | lst (xs : List D) | ins (C : Addr) (ns : List Str) (ds : List D)
inductive S where
  | im (d : D) | own (o : OC)

/-- a list of ints that stands in the written part -/
def KL (K : PySem.W.Frag) (a : Addr) (ns : List Int) : Prop := ∃ (o : Obj) (its : Array Value) (n : Nat), K.lookup a = some o ∧ o.cls = .type "list" ∧ o.dict = none ∧ o.data = .seq its n ∧ its.size ≤ sizeLine ∧ Vals (ns.map V.int) its.toList
mutual
def Rep (M : Addr → Prop) (H : Hp) : D → V → Prop
  | .non, v => v = .non
  | .bl b, v => v = .bl b
  | .int i, v => v = .int i
  | .str x, v => v = .str x
  | .lst xs, v => ∃ p vs, v = .ref p ∧ ¬ M p ∧ H p = some (.lst vs) ∧ Reps M H xs vs
  | .scr K a ns, v => v = .ref a ∧ ((¬ M a ∧ Rd H a (.lst (ns.map V.int))) ∨ KL K a ns)
  | .tup xs, v => ∃ p vs, v = .ref p ∧ ¬ M p ∧ Rd H p (.tup vs) ∧ Reps M H xs vs
  | .ins C ns ds, v => ∃ p dx vs, v = .ref p ∧ ¬ M p ∧ H p = some (.ins C dx (ns.zip vs)) ∧ Reps M H ds vs
  | .vl x, v => v = x
def Reps (M : Addr → Prop) (H : Hp) : List D → List V → Prop
  | [], vs => vs = []
  | d :: ds, vs => ∃ v r, vs = v :: r ∧ Rep M H d v ∧ Reps M H ds r
end

/-- what W does not hold stays -/
def Xt (W : Addr → Prop) (H H' : Hp) : Prop := ∀ a o, ¬ W a → H a = some o → H' a = some o
theorem Xt.refl {W : Addr → Prop} (H : Hp) : Xt W H H := fun _ _ _ h => h
theorem Xt.trans {W : Addr → Prop} {H H1 H2 : Hp} (a : Xt W H H1) (b : Xt W H1 H2) : Xt W H H2 := fun x o w h => b x o w (a x o w h)
theorem Xt.mono {W W' : Addr → Prop} {H H1 : Hp} (h : ∀ a, W a → W' a) (a : Xt W H H1) : Xt W' H H1 := fun x o w e => a x o (fun q => w (h x q)) e
theorem Xt.of {W : Addr → Prop} {H H' : Hp} (h : ∀ a o, H a = some o → H' a = some o) : Xt W H H' := fun a o _ e => h a o e
theorem ext_new {H : Hp} {p : Addr} {o : HO} (h : H p = none) : ∀ a u, H a = some u → upd H p o a = some u := fun a u e => by
  rw [upd_ne (ne_of_none e h)]; exact e

section
variable {M M' W W' : Addr → Prop} {H H' : Hp}
theorem rd_ex {a : Addr} {u : HO} (w : ∀ o, H a = some o → H' a = some o) (h : Rd H a u) : Rd H' a u := by
  rcases h with h | ⟨o, h⟩
  · exact .inl (w _ h)
  · exact .inr ⟨o, w _ h⟩
mutual
theorem Rep.ex (x : Xt M H H') : ∀ (d : D) {v : V}, Rep M H d v → Rep M H' d v
  | .non, _, h => h
  | .bl _, _, h => h
  | .int _, _, h => h
  | .str _, _, h => h
  | .vl _, _, h => h
  | .lst xs, _, ⟨p, vs, e, m, s, r⟩ => ⟨p, vs, e, m, x p _ m s, Reps.ex x xs r⟩
  | .scr K a ns, _, ⟨e, r⟩ => ⟨e, r.elim (fun z => .inl ⟨z.1, rd_ex (fun o q => x a o z.1 q) z.2⟩) .inr⟩
  | .tup xs, _, ⟨p, vs, e, m, s, r⟩ => ⟨p, vs, e, m, rd_ex (fun o q => x p o m q) s, Reps.ex x xs r⟩
  | .ins C ns ds, _, ⟨p, dx, vs, e, m, s, r⟩ => ⟨p, dx, vs, e, m, x p _ m s, Reps.ex x ds r⟩
theorem Reps.ex (x : Xt M H H') : ∀ (ds : List D) {vs : List V}, Reps M H ds vs → Reps M H' ds vs
  | [], _, h => h
  | d :: ds, _, ⟨v, r, e, a, b⟩ => ⟨v, r, e, Rep.ex x d a, Reps.ex x ds b⟩
end
mutual
theorem Rep.anti (x : ∀ a, M a → M' a) : ∀ (d : D) {v : V}, Rep M' H d v → Rep M H d v
  | .non, _, h => h
  | .bl _, _, h => h
  | .int _, _, h => h
  | .str _, _, h => h
  | .vl _, _, h => h
  | .lst xs, _, ⟨p, vs, e, m, s, r⟩ => ⟨p, vs, e, fun q => m (x p q), s, Reps.anti x xs r⟩
  | .scr K a ns, _, ⟨e, r⟩ => ⟨e, r.elim (fun z => .inl ⟨fun q => z.1 (x a q), z.2⟩) .inr⟩
  | .tup xs, _, ⟨p, vs, e, m, s, r⟩ => ⟨p, vs, e, fun q => m (x p q), s, Reps.anti x xs r⟩
  | .ins C ns ds, _, ⟨p, dx, vs, e, m, s, r⟩ => ⟨p, dx, vs, e, fun q => m (x p q), s, Reps.anti x ds r⟩
theorem Reps.anti (x : ∀ a, M a → M' a) : ∀ (ds : List D) {vs : List V}, Reps M' H ds vs → Reps M H ds vs
  | [], _, h => h
  | d :: ds, _, ⟨v, r, e, a, b⟩ => ⟨v, r, e, Rep.anti x d a, Reps.anti x ds b⟩
end
theorem rd_kn {a : Addr} {u : HO} (h : Rd H a u) : H a ≠ none := by
  rcases h with h | ⟨o, h⟩
  · rw [h]; exact fun z => nomatch z
  · rw [h]; exact fun z => nomatch z
/-! a value that stood for a tree stands for it when an address that the heap does not know becomes one that may change -/
mutual
theorem Rep.gr (x : ∀ a, M' a → M a ∨ H a = none) : ∀ (d : D) {v : V}, Rep M H d v → Rep M' H d v
  | .non, _, h => h
  | .bl _, _, h => h
  | .int _, _, h => h
  | .str _, _, h => h
  | .vl _, _, h => h
  | .lst xs, _, ⟨p, vs, e, m, s, r⟩ => ⟨p, vs, e, fun q => (x p q).elim m (fun z => nomatch s.symm.trans z), s, Reps.gr x xs r⟩
  | .scr K a ns, _, ⟨e, r⟩ => ⟨e, r.elim (fun z => .inl ⟨fun q => (x a q).elim z.1 (fun y => rd_kn z.2 y), z.2⟩) .inr⟩
  | .tup xs, _, ⟨p, vs, e, m, s, r⟩ => ⟨p, vs, e, fun q => (x p q).elim m (fun z => rd_kn s z), s, Reps.gr x xs r⟩
  | .ins C ns ds, _, ⟨p, dx, vs, e, m, s, r⟩ => ⟨p, dx, vs, e, fun q => (x p q).elim m (fun z => nomatch s.symm.trans z), s, Reps.gr x ds r⟩
theorem Reps.gr (x : ∀ a, M' a → M a ∨ H a = none) : ∀ (ds : List D) {vs : List V}, Reps M H ds vs → Reps M' H ds vs
  | [], _, h => h
  | d :: ds, _, ⟨v, r, e, a, b⟩ => ⟨v, r, e, Rep.gr x d a, Reps.gr x ds b⟩
end
theorem Reps.len : ∀ {ds : List D} {vs : List V}, Reps M H ds vs → vs.length = ds.length
  | [], _, h => by rw [show _ = [] from h]; rfl
  | d :: ds, _, ⟨v, r, e, _, b⟩ => by rw [e, List.length_cons, List.length_cons, Reps.len b]
theorem Reps.get : ∀ {ds : List D} {vs : List V} {i : Nat} {d : D}, Reps M H ds vs → ds[i]? = some d → ∃ v, vs[i]? = some v ∧ Rep M H d v
  | [], _, _, _, _, e => by simp at e
  | d :: ds, _, 0, d', ⟨v, r, e, a, b⟩, q => by
    subst e
    have : d = d' := by simpa using q
    subst this
    exact ⟨v, rfl, a⟩
  | d :: ds, _, i + 1, d', ⟨v, r, e, a, b⟩, q => by
    subst e
    obtain ⟨u, h1, h2⟩ := Reps.get (i := i) b (by simpa using q)
    exact ⟨u, by simpa using h1, h2⟩
theorem Reps.get' : ∀ {ds : List D} {vs : List V} {i : Nat} {v : V}, Reps M H ds vs → vs[i]? = some v → ∃ d, ds[i]? = some d ∧ Rep M H d v
  | [], _, _, _, h, e => by rw [show _ = [] from h] at e; simp at e
  | d :: ds, _, 0, v', ⟨v, r, e, a, b⟩, q => by
    subst e
    have : v = v' := by simpa using q
    subst this
    exact ⟨d, rfl, a⟩
  | d :: ds, _, i + 1, v', ⟨v, r, e, a, b⟩, q => by
    subst e
    obtain ⟨u, h1, h2⟩ := Reps.get' (i := i) b (by simpa using q)
    exact ⟨u, by simpa using h1, h2⟩
theorem Reps.set : ∀ {ds : List D} {vs : List V} {i : Nat} {d : D} {v : V}, Reps M H ds vs → Rep M H d v → Reps M H (ds.set i d) (vs.set i v)
  | [], _, _, _, _, h, _ => by rw [show _ = [] from h]; exact rfl
  | d :: ds, _, 0, d', v', ⟨v, r, e, a, b⟩, q => by subst e; exact ⟨v', r, rfl, q, b⟩
  | d :: ds, _, i + 1, d', v', ⟨v, r, e, a, b⟩, q => by subst e; exact ⟨v, _, rfl, a, Reps.set b q⟩
theorem Reps.app : ∀ {ds es : List D} {vs ws : List V}, Reps M H ds vs → Reps M H es ws → Reps M H (ds ++ es) (vs ++ ws)
  | [], _, _, _, h, g => by rw [show _ = [] from h]; exact g
  | d :: ds, _, _, _, ⟨v, r, e, a, b⟩, g => by subst e; exact ⟨v, _, rfl, a, Reps.app b g⟩
theorem Reps.take : ∀ {ds : List D} {vs : List V} (n : Nat), Reps M H ds vs → Reps M H (ds.take n) (vs.take n)
  | [], _, n, h => by rw [show _ = [] from h]; simp [Reps]
  | d :: ds, _, 0, _ => rfl
  | d :: ds, _, n + 1, ⟨v, r, e, a, b⟩ => by subst e; exact ⟨v, _, rfl, a, Reps.take n b⟩
theorem Reps.drop : ∀ {ds : List D} {vs : List V} (n : Nat), Reps M H ds vs → Reps M H (ds.drop n) (vs.drop n)
  | [], _, n, h => by rw [show _ = [] from h]; simp [Reps]
  | d :: ds, _, 0, h => h
  | d :: ds, _, n + 1, ⟨v, r, e, a, b⟩ => by subst e; exact Reps.drop n b
theorem Reps.ints : ∀ {ns : List Int} {vs : List V}, Reps M H (ns.map D.int) vs → vs = ns.map V.int
  | [], _, h => h
  | n :: ns, _, ⟨v, r, e, a, b⟩ => by
    have q : v = V.int n := a
    subst e; rw [q, Reps.ints b]; rfl
theorem Reps.ofInts : ∀ (ns : List Int), Reps M H (ns.map D.int) (ns.map V.int)
  | [] => rfl
  | n :: ns => ⟨V.int n, _, rfl, rfl, Reps.ofInts ns⟩
theorem Reps.strs : ∀ {ns : List Str} {vs : List V}, Reps M H (ns.map D.str) vs → vs = ns.map V.str
  | [], _, h => h
  | n :: ns, _, ⟨v, r, e, a, b⟩ => by
    have q : v = V.str n := a
    subst e; rw [q, Reps.strs b]; rfl
end

def RepO (M : Addr → Prop) (H : Hp) : OC → HO → Prop
  | .lst xs, h => ∃ vs, h = .lst vs ∧ Reps M H xs vs
  | .ins C ns ds, h => ∃ dx vs, h = .ins C dx (ns.zip vs) ∧ ns.length = ds.length ∧ Reps M H ds vs
section
variable {M M' : Addr → Prop} {H H' : Hp}
theorem RepO.ex (x : Xt M H H') (o : OC) {h : HO} (r : RepO M H o h) : RepO M H' o h := by
  cases o with
  | lst xs => obtain ⟨vs, e, r⟩ := r; exact ⟨vs, e, Reps.ex x xs r⟩
  | ins C ns ds => obtain ⟨dx, vs, e, l, r⟩ := r; exact ⟨dx, vs, e, l, Reps.ex x ds r⟩
theorem RepO.anti (x : ∀ a, M a → M' a) (o : OC) {h : HO} (r : RepO M' H o h) : RepO M H o h := by
  cases o with
  | lst xs => obtain ⟨vs, e, r⟩ := r; exact ⟨vs, e, Reps.anti x xs r⟩
  | ins C ns ds => obtain ⟨dx, vs, e, l, r⟩ := r; exact ⟨dx, vs, e, l, Reps.anti x ds r⟩
theorem RepO.gr (x : ∀ a, M' a → M a ∨ H a = none) (o : OC) {h : HO} (r : RepO M H o h) : RepO M' H o h := by
  cases o with
  | lst xs => obtain ⟨vs, e, r⟩ := r; exact ⟨vs, e, Reps.gr x xs r⟩
  | ins C ns ds => obtain ⟨dx, vs, e, l, r⟩ := r; exact ⟨dx, vs, e, l, Reps.gr x ds r⟩
end
/-- slots -/
abbrev Env := List (Option S)
def RepS (M W : Addr → Prop) (H : Hp) : S → V → Prop
  | .im d, v => Rep M H d v
  | .own o, v => ∃ p h, v = .ref p ∧ W p ∧ H p = some h ∧ RepO M H o h
structure Good (M W : Addr → Prop) (H : Hp) : Prop where
  wm : ∀ a, W a → M a
  mt : ∀ a, M a → H a ≠ none
structure EnvR (M W : Addr → Prop) (H : Hp) (σ : L2.St) (δ : TL.Env) : Prop where
  len : σ.length = δ.length
  at_ : ∀ (i : Nat) (s : S), δ[i]? = some (some s) → ∃ v, σ[i]? = some (some v) ∧ RepS M W H s v
  ap : ∀ (i j : Nat) (p : Addr) (xs ys : OC), δ[i]? = some (some (.own xs)) → δ[j]? = some (some (.own ys)) → σ[i]? = some (some (.ref p)) → σ[j]? = some (some (.ref p)) → i = j

section
variable {M M' W W' : Addr → Prop} {H H' : Hp} {σ : L2.St} {δ : TL.Env}
theorem Good.ext (g : Good M W H) (h : ∀ a o, H a = some o → H' a = some o) : Good M W H' := ⟨g.wm, fun a m z => by
  cases q : H a with
  | none => exact g.mt a m q
  | some o => rw [h a o q] at z; cases z⟩
theorem Good.new (g : Good M W H) {p : Addr} {o : HO} (h : H p = none) : Good M W (upd H p o) := g.ext (ext_new h)
theorem Good.notM (g : Good M W H) {p : Addr} (h : H p = none) : ¬ M p := fun m => g.mt p m h
theorem RepS.ext (h : ∀ a o, H a = some o → H' a = some o) {s : S} {v : V} (r : RepS M W H s v) : RepS M W H' s v := by
  cases s with
  | im d => exact Rep.ex (Xt.of h) d r
  | own xs =>
    obtain ⟨p, vs, e, w, hp, r⟩ := r
    exact ⟨p, vs, e, w, h p _ hp, RepO.ex (Xt.of h) xs r⟩
theorem EnvR.ext (h : ∀ a o, H a = some o → H' a = some o) (e : EnvR M W H σ δ) : EnvR M W H' σ δ :=
  ⟨e.len, fun i s q => let ⟨v, a, b⟩ := e.at_ i s q; ⟨v, a, RepS.ext h b⟩, e.ap⟩
/-- slot i gets data -/
theorem EnvR.set (e : EnvR M W H σ δ) {i : Nat} {d : D} {v : V} (r : Rep M H d v) : EnvR M W H (σ.set i (some v)) (δ.set i (some (.im d))) := by
  refine ⟨by rw [List.length_set, List.length_set, e.len], fun j s q => ?_, fun j k p xs ys h1 h2 h3 h4 => ?_⟩
  · by_cases hj : i = j
    · subst hj
      by_cases hl : i < δ.length
      · rw [List.getElem?_set_self hl] at q
        cases q
        exact ⟨v, by rw [List.getElem?_set_self (by rw [e.len]; exact hl)], r⟩
      · rw [List.getElem?_eq_none (by rw [List.length_set]; omega)] at q; cases q
    · rw [List.getElem?_set_ne hj] at q
      obtain ⟨u, a, b⟩ := e.at_ j s q
      exact ⟨u, by rw [List.getElem?_set_ne hj]; exact a, b⟩
  · have key : ∀ (j : Nat) (zs : OC), (δ.set i (some (.im d)))[j]? = some (some (.own zs)) → i ≠ j ∧ δ[j]? = some (some (.own zs)) := fun j zs q => by
      by_cases hj : i = j
      · subst hj
        by_cases hl : i < δ.length
        · rw [List.getElem?_set_self hl] at q; cases q
        · rw [List.getElem?_eq_none (by rw [List.length_set]; omega)] at q; cases q
      · exact ⟨hj, by rw [List.getElem?_set_ne hj] at q; exact q⟩
    obtain ⟨n1, a1⟩ := key j xs h1
    obtain ⟨n2, a2⟩ := key k ys h2
    rw [List.getElem?_set_ne n1] at h3
    rw [List.getElem?_set_ne n2] at h4
    exact e.ap j k p xs ys a1 a2 h3 h4
theorem EnvR.get (e : EnvR M W H σ δ) {i : Nat} {d : D} (h : δ[i]? = some (some (.im d))) : ∃ v, σ[i]? = some (some v) ∧ Rep M H d v := e.at_ i _ h
theorem EnvR.getO (e : EnvR M W H σ δ) {i : Nat} {xs : OC} (h : δ[i]? = some (some (.own xs))) : ∃ p vs, σ[i]? = some (some (.ref p)) ∧ W p ∧ H p = some vs ∧ RepO M H xs vs := by
  obtain ⟨v, a, p, vs, rfl, w, hp, r⟩ := e.at_ i _ h
  exact ⟨p, vs, a, w, hp, r⟩
/-- the list of its own in slot i becomes another -/
theorem EnvR.put (e : EnvR M W H σ δ) (wm : ∀ a, W a → M a) {i : Nat} {xs ys : OC} {p : Addr} {us : HO} (h : δ[i]? = some (some (.own xs))) (hp : σ[i]? = some (some (.ref p))) (hW : W p) (r : RepO M H ys us) :
    EnvR M W (upd H p us) σ (δ.set i (some (.own ys))) := by
  have X : Xt M H (upd H p us) := fun a o m q => by rw [upd_ne (fun z => m (by rw [z]; exact wm p hW))]; exact q
  have il : i < δ.length := (List.getElem?_eq_some_iff.mp h).1
  refine ⟨by rw [List.length_set, e.len], fun j s q => ?_, fun j k a zs ws h1 h2 h3 h4 => ?_⟩
  · by_cases hj : i = j
    · subst hj
      rw [List.getElem?_set_self il] at q
      cases q
      exact ⟨_, hp, p, us, rfl, hW, upd_same, RepO.ex X ys r⟩
    · rw [List.getElem?_set_ne hj] at q
      obtain ⟨u, a, b⟩ := e.at_ j s q
      refine ⟨u, a, ?_⟩
      cases s with
      | im d => exact Rep.ex X d b
      | own zs =>
        obtain ⟨p', vs, rfl, w, hp', r'⟩ := b
        refine ⟨p', vs, rfl, w, ?_, RepO.ex X zs r'⟩
        rw [upd_ne]
        · exact hp'
        · rintro rfl
          exact hj (e.ap i j p' xs zs h q hp a)
  · have key : ∀ (j : Nat) (zs : OC), (δ.set i (some (.own ys)))[j]? = some (some (.own zs)) → ∃ zs', δ[j]? = some (some (.own zs')) := fun j zs q => by
      by_cases hj : i = j
      · subst hj; exact ⟨xs, h⟩
      · rw [List.getElem?_set_ne hj] at q; exact ⟨zs, q⟩
    obtain ⟨z1, a1⟩ := key j zs h1
    obtain ⟨z2, a2⟩ := key k ws h2
    exact e.ap j k a z1 z2 a1 a2 h3 h4
/-- an address more that may change -/
def Mp (M : Addr → Prop) (p : Addr) : Addr → Prop := fun a => M a ∨ a = p
theorem RepS.gr (x : ∀ a, M' a → M a ∨ H a = none) {s : S} {v : V} (r : RepS M W H s v) : RepS M' W H s v := by
  cases s with
  | im d => exact Rep.gr x d r
  | own xs => obtain ⟨p, vs, e, w, hp, r⟩ := r; exact ⟨p, vs, e, w, hp, RepO.gr x xs r⟩
theorem RepS.anti (x : ∀ a, M a → M' a) {s : S} {v : V} (r : RepS M' W H s v) : RepS M W H s v := by
  cases s with
  | im d => exact Rep.anti x d r
  | own xs => obtain ⟨p, vs, e, w, hp, r⟩ := r; exact ⟨p, vs, e, w, hp, RepO.anti x xs r⟩
theorem EnvR.gr (x : ∀ a, M' a → M a ∨ H a = none) (e : EnvR M W H σ δ) : EnvR M' W H σ δ := ⟨e.len, fun i s q => let ⟨v, a, b⟩ := e.at_ i s q; ⟨v, a, RepS.gr x b⟩, e.ap⟩
theorem EnvR.anti (x : ∀ a, M a → M' a) (e : EnvR M' W H σ δ) : EnvR M W H σ δ := ⟨e.len, fun i s q => let ⟨v, a, b⟩ := e.at_ i s q; ⟨v, a, RepS.anti x b⟩, e.ap⟩
theorem mp_gr {p : Addr} (h : H p = none) : ∀ a, Mp M p a → M a ∨ H a = none := fun a z => z.elim .inl fun e => .inr (by rw [e]; exact h)
theorem Good.put (g : Good M W H) {p : Addr} {o : HO} : Good M W (upd H p o) := ⟨g.wm, fun a m z => by
  by_cases h : a = p
  · subst h; rw [upd_same] at z; cases z
  · rw [upd_ne h] at z; exact g.mt a m z⟩
theorem Xt.put {p : Addr} {o : HO} (w : W p) : Xt W H (upd H p o) := fun a u n e => by
  rw [upd_ne (fun z => n (by rw [z]; exact w))]; exact e
end
end TL
set_option Elab.async false
set_option linter.all false
set_option maxRecDepth 100000
set_option autoImplicit false
set_option maxHeartbeats 4000000
/-! TL2: the judgements over trees, and the rules for expressions. -/
namespace TL
open PySem L2

/-! ### the weakest readings -/
/-! (each a structure, so that nothing unfolds the machine) -/
structure WE (X : Cx) (e : Expr) (σ : L2.St) (H : Hp) (Q : VK) : Prop where
  run : ∀ (pins : List (Addr × Obj)) (s : Shared), Inv X pins σ H s → wpAny (model X.prog X.w) X.A (eval e X.env) (EP X pins σ Q) X.xe s
structure WT (X : Cx) (e : Expr) (σ : L2.St) (H : Hp) (Q : Bool → Hp → Prop) : Prop where
  run : ∀ (pins : List (Addr × Obj)) (s : Shared), Inv X pins σ H s → wpAny (model X.prog X.w) X.A (isTrue e X.env (eval e X.env)) (TP X pins σ Q) X.xe s
structure WW (X : Cx) (e : Expr) (σ : L2.St) (H : Hp) (Q : Bool → Hp → Prop) : Prop where
  run : ∀ (whole : Sem Value) (pins : List (Addr × Obj)) (s : Shared), Inv X pins σ H s → wpAny (model X.prog X.w) X.A (isTrue e X.env whole) (TP X pins σ Q) X.xe s
structure WA (X : Cx) (es : List Expr) (σ : L2.St) (H : Hp) (Q : List V → Hp → Prop) : Prop where
  run : ∀ (pos : Pos) (pins : List (Addr × Obj)) (s : Shared), Inv X pins σ H s → wpAny (model X.prog X.w) X.A (spliced (backTo pos (starEach es X.env))) (AP X pins σ Q) X.xe s
structure WS (X : Cx) (st : Stmt) (Dn : Ends) (σ : L2.St) (H : Hp) : Prop where
  run : ∀ (pins : List (Addr × Obj)) (s : Shared), Inv X pins σ H s → wpAny (model X.prog X.w) X.A (exec st X.env) (SP X pins Dn) X.xe s
structure WB (X : Cx) (sts : List Stmt) (Dn : Ends) (σ : L2.St) (H : Hp) : Prop where
  run : ∀ (pins : List (Addr × Obj)) (s : Shared), Inv X pins σ H s → wpAny (model X.prog X.w) X.A (execs sts X.env) (SP X pins Dn) X.xe s
abbrev wE (X : Cx) (e : Expr) : TE := fun σ H Q => WE X e σ H Q
abbrev wT (X : Cx) (e : Expr) : L2.TT := fun σ H Q => WT X e σ H Q
abbrev wW (X : Cx) (e : Expr) : L2.TT := fun σ H Q => WW X e σ H Q
abbrev wA (X : Cx) (es : List Expr) : L2.TA := fun σ H Q => WA X es σ H Q
abbrev wS (X : Cx) (st : Stmt) : L2.TS := fun Dn σ H => WS X st Dn σ H
abbrev wB (X : Cx) (sts : List Stmt) : L2.TS := fun Dn σ H => WB X sts Dn σ H
section
variable {X : Cx} {e : Expr} {es : List Expr} {st : Stmt} {sts : List Stmt}
theorem pe_w : PE X e (wE X e) := ⟨fun pins s _ _ _ I h => h.run pins s I⟩
theorem pt_w : PT X e (wT X e) := ⟨fun pins s _ _ _ I h => h.run pins s I⟩
theorem pw_w : PW X e (wW X e) := ⟨fun w pins s _ _ _ I h => h.run w pins s I⟩
theorem pa_w : PA X es (wA X es) := ⟨fun pos pins s _ _ _ I h => h.run pos pins s I⟩
theorem ps_w : PS X st (wS X st) := ⟨fun pins s _ _ _ I h => h.run pins s I⟩
theorem pss_w : PSs X sts (wB X sts) := ⟨fun pins s _ _ _ I h => h.run pins s I⟩
theorem wE_of {t : TE} (h : PE X e t) {σ : L2.St} {H : Hp} {Q : VK} (q : t σ H Q) : wE X e σ H Q := ⟨fun pins s I => h.run pins s σ H Q I q⟩
theorem wT_of {t : TT} (h : PT X e t) {σ : L2.St} {H : Hp} {Q : Bool → Hp → Prop} (q : t σ H Q) : wT X e σ H Q := ⟨fun pins s I => h.run pins s σ H Q I q⟩
theorem wW_of {t : TT} (h : PW X e t) {σ : L2.St} {H : Hp} {Q : Bool → Hp → Prop} (q : t σ H Q) : wW X e σ H Q := ⟨fun w pins s I => h.run w pins s σ H Q I q⟩
theorem wA_of {t : TA} (h : PA X es t) {σ : L2.St} {H : Hp} {Q : List V → Hp → Prop} (q : t σ H Q) : wA X es σ H Q := ⟨fun pos pins s I => h.run pos pins s σ H Q I q⟩
theorem wS_of {t : TS} (h : PS X st t) {σ : L2.St} {H : Hp} {Dn : Ends} (q : t Dn σ H) : wS X st Dn σ H := ⟨fun pins s I => h.run pins s σ H Dn I q⟩
theorem wB_of {t : TS} (h : PSs X sts t) {σ : L2.St} {H : Hp} {Dn : Ends} (q : t Dn σ H) : wB X sts Dn σ H := ⟨fun pins s I => h.run pins s σ H Dn I q⟩
end

/-! ### the judgements -/
/-- what a step leaves behind -/
structure Stp (M W : Addr → Prop) (σ : L2.St) (δ' : TL.Env) (H H' : Hp) : Prop where
  xt : Xt W H H'
  good : Good M W H'
  env : EnvR M W H' σ δ'
section
variable {M W : Addr → Prop} {σ : L2.St} {δ δ1 δ2 : TL.Env} {H H1 H2 : Hp}
theorem Stp.refl (g : Good M W H) (e : EnvR M W H σ δ) : Stp M W σ δ H H := ⟨Xt.refl H, g, e⟩
theorem Stp.trans (a : Stp M W σ δ1 H H1) (b : Stp M W σ δ2 H1 H2) : Stp M W σ δ2 H H2 := ⟨a.xt.trans b.xt, b.good, b.env⟩
theorem Stp.ext (a : Stp M W σ δ1 H H1) (h : ∀ x o, H1 x = some o → H2 x = some o) : Stp M W σ δ1 H H2 := ⟨a.xt.trans (Xt.of h), a.good.ext h, a.env.ext h⟩
theorem Stp.rep (a : Stp M W σ δ1 H H1) {d : D} {v : V} (r : Rep M H d v) : Rep M H1 d v := Rep.ex (Xt.mono a.good.wm a.xt) d r
theorem Stp.fresh (a : Stp M W σ δ1 H H1) {p : Addr} {o : HO} (h : H1 p = none) : Stp (Mp M p) W σ δ1 H (upd H1 p o) := by
  refine ⟨a.xt.trans (Xt.of (ext_new h)), ⟨fun x w => .inl (a.good.wm x w), fun x m z => ?_⟩, (a.env.gr (mp_gr h)).ext (ext_new h)⟩
  rcases m with m | m
  · exact (a.good.new h).mt x m z
  · rw [m, upd_same] at z; cases z
theorem Stp.anti {p : Addr} (w : ∀ x, W x → M x) (a : Stp (Mp M p) W σ δ1 H H1) : Stp M W σ δ1 H H1 := ⟨a.xt, ⟨w, fun x m => a.good.mt x (.inl m)⟩, a.env.anti fun _ m => .inl m⟩
theorem Stp.none (g : Good M W H) (a : Stp M W σ δ1 H H1) {p : Addr} (h : H1 p = none) : H p = none := by
  cases hq : H p with
  | none => rfl
  | some o =>
    exfalso
    by_cases hw : W p
    · exact a.good.mt p (a.good.wm p hw) h
    · rw [a.xt p o hw hq] at h; cases h
theorem Stp.reps (a : Stp M W σ δ1 H H1) {ds : List D} {vs : List V} (r : Reps M H ds vs) : Reps M H1 ds vs := Reps.ex (Xt.mono a.good.wm a.xt) ds r
end
def TR (X : Cx) (e : Expr) (δ : TL.Env) (d : D) (δ' : TL.Env) : Prop := ∀ (M W : Addr → Prop) (σ : L2.St) (H : Hp) (Q : VK), Good M W H → EnvR M W H σ δ →
  (∀ v H', Stp M W σ δ' H H' → Rep M H' d v → Q v H') → wE X e σ H Q
/-- a new list that nobody else holds -/
def TF (X : Cx) (e : Expr) (δ : TL.Env) (xs : List D) (δ' : TL.Env) : Prop := ∀ (M W : Addr → Prop) (σ : L2.St) (H : Hp) (Q : VK), Good M W H → EnvR M W H σ δ →
  (∀ p vs H', Stp (Mp M p) W σ δ' H H' → H p = none → H' p = some (.lst vs) → Reps (Mp M p) H' xs vs → Q (.ref p) H') → wE X e σ H Q
def TT (X : Cx) (e : Expr) (δ : TL.Env) (b : Bool) (δ' : TL.Env) : Prop := ∀ (M W : Addr → Prop) (σ : L2.St) (H : Hp) (Q : Bool → Hp → Prop), Good M W H → EnvR M W H σ δ →
  (∀ H', Stp M W σ δ' H H' → Q b H') → wT X e σ H Q
/-- a test whatever its whole is -/
def TW (X : Cx) (e : Expr) (δ : TL.Env) (b : Bool) (δ' : TL.Env) : Prop := ∀ (M W : Addr → Prop) (σ : L2.St) (H : Hp) (Q : Bool → Hp → Prop), Good M W H → EnvR M W H σ δ →
  (∀ H', Stp M W σ δ' H H' → Q b H') → wW X e σ H Q
def TA (X : Cx) (es : List Expr) (δ : TL.Env) (ds : List D) (δ' : TL.Env) : Prop := ∀ (M W : Addr → Prop) (σ : L2.St) (H : Hp) (Q : List V → Hp → Prop), Good M W H → EnvR M W H σ δ →
  (∀ vs H', Stp M W σ δ' H H' → Reps M H' ds vs → Q vs H') → wA X es σ H Q

/-! ### operations on trees -/
def OpT (r : R2) (x y z : D) : Prop := ∀ (M W : Addr → Prop) (H : Hp) (u v : V) (Q : VK), Good M W H → Rep M H x u → Rep M H y v →
  (∀ w H', (∀ a o, H a = some o → H' a = some o) → Rep M H' z w → Q w H') → r u v H Q
def UnT (r : V → Hp → VK → Prop) (x z : D) : Prop := ∀ (M W : Addr → Prop) (H : Hp) (u : V) (Q : VK), Good M W H → Rep M H x u →
  (∀ w H', (∀ a o, H a = some o → H' a = some o) → Rep M H' z w → Q w H') → r u H Q
def CaT (r : List V → Hp → VK → Prop) (xs : List D) (z : D) : Prop := ∀ (M W : Addr → Prop) (H : Hp) (us : List V) (Q : VK), Good M W H → Reps M H xs us →
  (∀ w H', (∀ a o, H a = some o → H' a = some o) → Rep M H' z w → Q w H') → r us H Q
/-- .. to a new list -/
def OpF (r : R2) (x y : D) (zs : List D) : Prop := ∀ (M W : Addr → Prop) (H : Hp) (u v : V) (Q : VK), Good M W H → Rep M H x u → Rep M H y v →
  (∀ p vs, H p = none → Reps M H zs vs → Q (.ref p) (upd H p (.lst vs))) → r u v H Q
section
variable {X : Cx} {a b c e : Expr} {es : List Expr} {δ δ1 δ2 δ3 : TL.Env} {x y z d : D} {pos p : Pos} {r : R2}

theorem tr_var {i : Nat} {n : Str} (h : δ[i]? = some (some (.im d))) (hN : X.N[i]? = some n := by rfl) (hv : Vis X.env.scope n := by first | exact Or.inl rfl | exact Or.inr (Or.inl rfl) | exact Or.inr (Or.inr rfl))
    (hd : (n == ("__debug__" : Str)) = false := by decide) (hcd : (n == ("__classdict__" : Str)) = false := by decide) : TR X (.Name n pos) δ d δ := fun M W σ H Q g E k => by
  obtain ⟨v, h1, r⟩ := E.get h
  exact wE_of (pe_var hN hv hd hcd) ⟨v, h1, k v H (Stp.refl g E) r⟩
theorem tr_c {v : V} (h : PE X e (tC v)) (hr : ∀ M H, Rep M H d v) : TR X e δ d δ := fun M W σ H Q g E k =>
  wE_of h (k v H (Stp.refl g E) (hr M H))
theorem tr_int {i : Int} {j : Nat} : TR X (.Constant (.int i) j pos) δ (.int i) δ := tr_c pe_int (fun _ _ => rfl)
theorem tr_bl {i : Bool} {j : Nat} : TR X (.Constant (.bool i) j pos) δ (.bl i) δ := tr_c pe_bl (fun _ _ => rfl)
theorem tr_str {i : Str} {j : Nat} : TR X (.Constant (.str i) j pos) δ (.str i) δ := tr_c pe_str (fun _ _ => rfl)
theorem tr_non {j : Nat} : TR X (.Constant .none j pos) δ .non δ := tr_c pe_non (fun _ _ => rfl)
theorem tr_is {d' : D} (h : TR X e δ d δ1) (q : d = d') : TR X e δ d' δ1 := q ▸ h
theorem tr_env {δ' : TL.Env} (h : TR X e δ d δ1) (q : δ1 = δ') : TR X e δ d δ' := q ▸ h

theorem tr_op {op : Operator} (ho : OpR X (binaryOp op) r) (ha : TR X a δ x δ1) (hb : TR X b δ1 y δ2) (hr : OpT r x y z) : TR X (.BinOp a op b pos) δ z δ2 := fun M W σ H Q g E k =>
  wE_of (pe_op ho pe_w pe_w) (ha M W σ H _ g E fun u H1 s1 r1 => hb M W σ H1 _ s1.good s1.env fun v H2 s2 r2 => hr M W H2 u v Q s2.good (s2.rep r1) r2 fun w H3 e3 r3 => k w H3 ((s1.trans s2).ext e3) r3)
theorem tf_op {op : Operator} {zs : List D} (ho : OpR X (binaryOp op) r) (ha : TR X a δ x δ1) (hb : TR X b δ1 y δ2) (hr : OpF r x y zs) : TF X (.BinOp a op b pos) δ zs δ2 := fun M W σ H Q g E k =>
  wE_of (pe_op ho pe_w pe_w) (ha M W σ H _ g E fun u H1 s1 r1 => hb M W σ H1 _ s1.good s1.env fun v H2 s2 r2 => hr M W H2 u v Q s2.good (s2.rep r1) r2 fun q vs n3 r3 =>
    k q vs _ ((s1.trans s2).fresh n3) ((s1.trans s2).none g n3) upd_same (Reps.ex (Xt.of (ext_new n3)) zs (Reps.gr (mp_gr n3) zs r3)))
theorem tr_un {op : UnaryOp} {ru : V → Hp → VK → Prop} (ho : UnR X (unaryOp op) ru) (ha : TR X a δ x δ1) (hr : UnT ru x z) : TR X (.UnaryOp op a pos) δ z δ1 := fun M W σ H Q g E k =>
  wE_of (pe_un ho pe_w) (ha M W σ H _ g E fun u H1 s1 r1 => hr M W H1 u Q s1.good r1 fun w H3 e3 r3 => k w H3 (s1.ext e3) r3)
theorem tr_cmp {op : CmpOp} (ho : OpR X (compareOp op) r) (ha : TR X a δ x δ1) (hb : TR X b δ1 y δ2) (hr : OpT r x y z) (hm : behindInMarks op b = false := by first | exact nomark _ | rfl) : TR X (.Compare a [op] [b] pos) δ z δ2 := fun M W σ H Q g E k =>
  wE_of (pe_cmpR ho pe_w pe_w hm) (ha M W σ H _ g E fun u H1 s1 r1 => hb M W σ H1 _ s1.good s1.env fun v H2 s2 r2 => hr M W H2 u v Q s2.good (s2.rep r1) r2 fun w H3 e3 r3 => k w H3 ((s1.trans s2).ext e3) r3)
/-- a new list may be read as data -/
theorem tr_fr {xs : List D} (h : TF X e δ xs δ1) : TR X e δ (.lst xs) δ1 := fun M W σ H Q g E k => h M W σ H Q g E fun p vs H' s n hp r => k _ H' (s.anti g.wm) ⟨p, vs, rfl, fun m => g.mt p m n, hp, Reps.anti (fun _ m => .inl m) xs r⟩

/-! arguments -/
theorem ta_nil : TA X [] δ [] δ := fun M W σ H Q g E k => wA_of pa_nil (k [] H (Stp.refl g E) rfl)
theorem ta_cons {ds : List D} (ha : TR X e δ x δ1) (hr : TA X es δ1 ds δ2) (hs : starEach (e :: es) X.env = (false, eval e X.env) :: starEach es X.env := by rfl) : TA X (e :: es) δ (x :: ds) δ2 := fun M W σ H Q g E k =>
  wA_of (pa_cons pe_w pa_w hs) (ha M W σ H _ g E fun u H1 s1 r1 => hr M W σ H1 _ s1.good s1.env fun vs H2 s2 r2 => k (u :: vs) H2 (s1.trans s2) ⟨u, vs, rfl, s2.rep r1, r2⟩)
theorem tr_tup {ds : List D} {x1 : Nat} (h : TA X es δ ds δ1) (hl : ds.length ≤ 100000 := by simp) : TR X (.Tuple es x1 pos) δ (.tup ds) δ1 := fun M W σ H Q g E k =>
  wE_of (pe_tup pa_w) (h M W σ H _ g E fun vs H1 s1 r1 => ⟨by rw [r1.len]; exact Nat.le_trans hl (by decide), fun p hp => k _ _ (s1.ext (ext_new hp)) ⟨p, vs, rfl, s1.good.notM hp, Rd.of upd_same, Reps.ex (Xt.of (ext_new hp)) ds r1⟩⟩)
theorem tf_lst {ds : List D} (h : TA X es δ ds δ1) (hl : ds.length ≤ 100000 := by simp) : TF X (.List es pos) δ ds δ1 := fun M W σ H Q g E k =>
  wE_of (pe_lst pa_w) (h M W σ H _ g E fun vs H1 s1 r1 => ⟨by rw [r1.len]; exact Nat.le_trans hl (by decide), fun q hp => k q vs _ (s1.fresh hp) (s1.none g hp) upd_same (Reps.ex (Xt.of (ext_new hp)) ds (Reps.gr (mp_gr hp) ds r1))⟩)
end
end TL
set_option Elab.async false
set_option linter.all false
set_option maxRecDepth 100000
set_option autoImplicit false
set_option maxHeartbeats 4000000
/-! TL3: tests, operators on trees, subscripts, built-in calls. -/
namespace TL
open PySem L2
section
variable {X : Cx} {a b c e : Expr} {es : List Expr} {δ δ1 δ2 δ3 : TL.Env} {x y z d : D} {pos p : Pos} {r : R2} {k l : Bool}

/-! ### tests -/
theorem tt_bl (h : TR X e δ (.bl k) δ1) (he : ∀ whole, isTrue e X.env whole = (do let v ← whole; standAt e.pos; holding [v] (truthy v)) := by intro _; rfl) : TT X e δ k δ1 := fun M W σ H Q g E q =>
  wT_of (pt_val pe_w he) (h M W σ H _ g E fun v H1 s1 r1 => ⟨k, r1, q H1 s1⟩)
theorem tt_cmp {op : CmpOp} (ho : OpR X (compareOp op) r) (ha : TR X a δ x δ1) (hb : TR X b δ1 y δ2) (hr : OpT r x y (.bl k)) (hm : behindInMarks op b = false := by first | exact nomark _ | rfl) : TT X (.Compare a [op] [b] pos) δ k δ2 := fun M W σ H Q g E q =>
  wT_of (pt_cmpR ho pe_w pe_w hm) (ha M W σ H _ g E fun u H1 s1 r1 => hb M W σ H1 _ s1.good s1.env fun v H2 s2 r2 => hr M W H2 u v _ s2.good (s2.rep r1) r2 fun w H3 e3 r3 => ⟨k, r3, q H3 ((s1.trans s2).ext e3)⟩)
theorem tt_not (h : TT X a δ k δ1) : TT X (.UnaryOp .Not a pos) δ (!k) δ1 := fun M W σ H Q g E q =>
  wT_of (pt_not pt_w) (h M W σ H _ g E fun H1 s1 => q H1 s1)
theorem tt_w (h : TW X e δ k δ1) : TT X e δ k δ1 := fun M W σ H Q g E q => wT_of (PW.pt pw_w) (h M W σ H Q g E q)
theorem tt_is {l : Bool} (h : TT X e δ k δ1) (q : k = l) : TT X e δ l δ1 := q ▸ h
theorem tw_and1 (h : TT X a δ k δ1) : TW X (.BoolOp .And [a] pos) δ k δ1 := fun M W σ H Q g E q => wW_of (pw_and1 pt_w) (h M W σ H Q g E q)
theorem tw_or1 (h : TT X a δ k δ1) : TW X (.BoolOp .Or [a] pos) δ k δ1 := fun M W σ H Q g E q => wW_of (pw_or1 pt_w) (h M W σ H Q g E q)
theorem tw_and {rest : List Expr} (h : TT X a δ k δ1) (h2 : k = true → TW X (.BoolOp .And (b :: rest) pos) δ1 l δ1) : TW X (.BoolOp .And (a :: b :: rest) pos) δ (k && l) δ1 := fun M W σ H Q g E q =>
  wW_of (pw_and pt_w pw_w) (h M W σ H _ g E fun H1 s1 => by
    cases k with
    | true => rw [if_pos rfl]; exact h2 rfl M W σ H1 Q s1.good s1.env fun H2 s2 => q H2 (s1.trans s2)
    | false => rw [if_neg Bool.false_ne_true]; exact q H1 s1)
theorem tw_or {rest : List Expr} (h : TT X a δ k δ1) (h2 : k = false → TW X (.BoolOp .Or (b :: rest) pos) δ1 l δ1) : TW X (.BoolOp .Or (a :: b :: rest) pos) δ (k || l) δ1 := fun M W σ H Q g E q =>
  wW_of (pw_or pt_w pw_w) (h M W σ H _ g E fun H1 s1 => by
    cases k with
    | true => rw [if_pos rfl]; exact q H1 s1
    | false => rw [if_neg Bool.false_ne_true]; exact h2 rfl M W σ H1 Q s1.good s1.env fun H2 s2 => q H2 (s1.trans s2))
theorem tr_one {op : BoolOp} (h : TR X a δ d δ1) : TR X (.BoolOp op [a] pos) δ d δ1 := fun M W σ H Q g E q => wE_of (pe_one pe_w) (h M W σ H Q g E q)
theorem tr_and {rest : List Expr} (h : TR X a δ (.bl k) δ1) (h2 : k = true → TR X (.BoolOp .And (b :: rest) pos) δ1 (.bl l) δ1) : TR X (.BoolOp .And (a :: b :: rest) pos) δ (.bl (k && l)) δ1 := fun M W σ H Q g E q =>
  wE_of (pe_and pe_w pe_w) (h M W σ H _ g E fun v H1 s1 r1 => ⟨k, r1, by
    cases k with
    | true => rw [if_pos rfl]; exact h2 rfl M W σ H1 Q s1.good s1.env fun v H2 s2 r2 => q v H2 (s1.trans s2) r2
    | false => rw [if_neg Bool.false_ne_true]; exact q _ H1 s1 rfl⟩)
theorem tr_or {rest : List Expr} (h : TR X a δ (.bl k) δ1) (h2 : k = false → TR X (.BoolOp .Or (b :: rest) pos) δ1 (.bl l) δ1) : TR X (.BoolOp .Or (a :: b :: rest) pos) δ (.bl (k || l)) δ1 := fun M W σ H Q g E q =>
  wE_of (pe_or pe_w pe_w) (h M W σ H _ g E fun v H1 s1 r1 => ⟨k, r1, by
    cases k with
    | true => rw [if_pos rfl]; exact q _ H1 s1 rfl
    | false => rw [if_neg Bool.false_ne_true]; exact h2 rfl M W σ H1 Q s1.good s1.env fun v H2 s2 r2 => q v H2 (s1.trans s2) r2⟩)
theorem tr_not (h : TR X a δ (.bl k) δ1) : TR X (.UnaryOp .Not a pos) δ (.bl (!k)) δ1 := fun M W σ H Q g E q =>
  wE_of (pe_not pe_w) (h M W σ H _ g E fun v H1 s1 r1 => ⟨k, r1, q _ H1 s1 rfl⟩)
theorem tr_if (hc : TT X c δ k δ1) (h1 : k = true → TR X a δ1 d δ2) (h2 : k = false → TR X b δ1 d δ2) : TR X (.IfExp c a b pos) δ d δ2 := fun M W σ H Q g E q =>
  wE_of (pe_ifExp pt_w pe_w pe_w) (hc M W σ H _ g E fun H1 s1 => by
    cases k with
    | true => rw [if_pos rfl]; exact h1 rfl M W σ H1 Q s1.good s1.env fun v H2 s2 r2 => q v H2 (s1.trans s2) r2
    | false => rw [if_neg Bool.false_ne_true]; exact h2 rfl M W σ H1 Q s1.good s1.env fun v H2 s2 r2 => q v H2 (s1.trans s2) r2)
/-- the truth of a list -/
theorem tt_lst {xs : List D} (h : TR X e δ (.lst xs) δ1) (he : ∀ whole, isTrue e X.env whole = (do let v ← whole; standAt e.pos; holding [v] (truthy v)) := by intro _; rfl) : TT X e δ (!xs.isEmpty) δ1 := fun M W σ H Q g E q =>
  wT_of (pt_truth pe_w he) (h M W σ H _ g E fun v H1 s1 ⟨p, vs, ev, m, hp, r⟩ => ⟨!xs.isEmpty, by
    subst ev
    refine .inl ⟨vs, SqL.of hp, ?_⟩
    have := r.len
    cases xs <;> cases vs <;> simp_all, q H1 s1⟩)

/-! ### operators on ints and texts -/
theorem ot_I0 {g : Int → Int → V} {i j : Int} (h : ∀ M H, Rep M H z (g i j)) : OpT (rI0 g) (.int i) (.int j) z := fun M W H u v Q _ ru rv k => ⟨i, j, ru, rv, k _ H (fun _ _ e => e) (h M H)⟩
theorem ot_I {C : Int → Int → Prop} {g : Int → Int → V} {i j : Int} (hc : C i j) (h : ∀ M H, Rep M H z (g i j)) : OpT (rI C g) (.int i) (.int j) z := fun M W H u v Q _ ru rv k => ⟨i, j, ru, rv, hc, k _ H (fun _ _ e => e) (h M H)⟩
theorem ot_eqI {i j : Int} : OpT rEq (.int i) (.int j) (.bl (decide (i = j))) := fun M W H u v Q _ ru rv k => by
  rw [show u = .int i from ru, show v = .int j from rv]
  refine ⟨rfl, k _ H (fun _ _ e => e) ?_⟩
  show V.bl _ = V.bl _
  congr 1
  exact decide_eq_decide.mpr ⟨fun z => V.int.inj z, fun z => by rw [z]⟩
theorem ot_neI {i j : Int} : OpT rNe (.int i) (.int j) (.bl (!decide (i = j))) := fun M W H u v Q _ ru rv k => by
  rw [show u = .int i from ru, show v = .int j from rv]
  refine ⟨rfl, k _ H (fun _ _ e => e) ?_⟩
  show V.bl _ = V.bl _
  congr 2
  exact decide_eq_decide.mpr ⟨fun z => V.int.inj z, fun z => by rw [z]⟩
theorem ot_eqS {i j : Str} : OpT rEq (.str i) (.str j) (.bl (decide (i = j))) := fun M W H u v Q _ ru rv k => by
  rw [show u = .str i from ru, show v = .str j from rv]
  refine ⟨rfl, k _ H (fun _ _ e => e) ?_⟩
  show V.bl _ = V.bl _
  congr 1
  exact decide_eq_decide.mpr ⟨fun z => V.str.inj z, fun z => by rw [z]⟩
theorem ot_neS {i j : Str} : OpT rNe (.str i) (.str j) (.bl (!decide (i = j))) := fun M W H u v Q _ ru rv k => by
  rw [show u = .str i from ru, show v = .str j from rv]
  refine ⟨rfl, k _ H (fun _ _ e => e) ?_⟩
  show V.bl _ = V.bl _
  congr 2
  exact decide_eq_decide.mpr ⟨fun z => V.str.inj z, fun z => by rw [z]⟩
theorem tr_add {i j : Int} (ha : TR X a δ (.int i) δ1) (hb : TR X b δ1 (.int j) δ2) : TR X (.BinOp a .Add b pos) δ (.int (i + j)) δ2 := tr_op op_add ha hb (ot_I0 fun _ _ => rfl)
theorem tr_sub {i j : Int} (ha : TR X a δ (.int i) δ1) (hb : TR X b δ1 (.int j) δ2) : TR X (.BinOp a .Sub b pos) δ (.int (i - j)) δ2 := tr_op op_sub ha hb (ot_I0 fun _ _ => rfl)
theorem tr_mul {i j : Int} (ha : TR X a δ (.int i) δ1) (hb : TR X b δ1 (.int j) δ2) (hc : CMulW i j) : TR X (.BinOp a .Mult b pos) δ (.int (i * j)) δ2 := tr_op op_mulW ha hb (ot_I hc fun _ _ => rfl)
theorem tr_mod {i j : Int} (ha : TR X a δ (.int i) δ1) (hb : TR X b δ1 (.int j) δ2) (hc : 0 < j) : TR X (.BinOp a .Mod b pos) δ (.int (i % j)) δ2 := tr_op op_mod ha hb (ot_I hc fun _ _ => rfl)
theorem tr_fdivN {i j : Int} (ha : TR X a δ (.int i) δ1) (hb : TR X b δ1 (.int j) δ2) (hc : 0 < j ∧ j < 1073741824) : TR X (.BinOp a .FloorDiv b pos) δ (.int (i / j)) δ2 := tr_op op_fdiv ha hb (ot_I hc fun _ _ => rfl)
theorem tr_pow {i j : Int} (ha : TR X a δ (.int i) δ1) (hb : TR X b δ1 (.int j) δ2) (hc : 0 ≤ j ∧ j ≤ 1000000 ∧ i.natAbs < 2 ^ 64) : TR X (.BinOp a .Pow b pos) δ (.int (i ^ j.toNat)) δ2 := tr_op op_pow ha hb (ot_I hc fun _ _ => rfl)
theorem tr_neg {i : Int} (ha : TR X a δ (.int i) δ1) : TR X (.UnaryOp .USub a pos) δ (.int (-i)) δ1 := tr_un un_neg ha fun M W H u Q _ ru k => ⟨i, ru, k _ H (fun _ _ e => e) rfl⟩
theorem tr_addS {i j : Str} (ha : TR X a δ (.str i) δ1) (hb : TR X b δ1 (.str j) δ2) (hc : i.length + j.length ≤ sizeLine) : TR X (.BinOp a .Add b pos) δ (.str (i ++ j)) δ2 :=
  tr_op op_add_str ha hb fun M W H u v Q _ ru rv k => ⟨i, j, ru, rv, hc, k _ H (fun _ _ e => e) rfl⟩
theorem tt_lt {i j : Int} (ha : TR X a δ (.int i) δ1) (hb : TR X b δ1 (.int j) δ2) : TT X (.Compare a [.Lt] [b] pos) δ (decide (i < j)) δ2 := tt_cmp op_lt ha hb (ot_I0 fun _ _ => rfl)
theorem tt_le {i j : Int} (ha : TR X a δ (.int i) δ1) (hb : TR X b δ1 (.int j) δ2) : TT X (.Compare a [.LtE] [b] pos) δ (decide (i ≤ j)) δ2 := tt_cmp op_le ha hb (ot_I0 fun _ _ => rfl)
theorem tt_gt {i j : Int} (ha : TR X a δ (.int i) δ1) (hb : TR X b δ1 (.int j) δ2) : TT X (.Compare a [.Gt] [b] pos) δ (decide (j < i)) δ2 := tt_cmp op_gt ha hb (ot_I0 fun _ _ => rfl)
theorem tt_ge {i j : Int} (ha : TR X a δ (.int i) δ1) (hb : TR X b δ1 (.int j) δ2) : TT X (.Compare a [.GtE] [b] pos) δ (decide (j ≤ i)) δ2 := tt_cmp op_ge ha hb (ot_I0 fun _ _ => rfl)
theorem tt_eqI {i j : Int} (ha : TR X a δ (.int i) δ1) (hb : TR X b δ1 (.int j) δ2) : TT X (.Compare a [.Eq] [b] pos) δ (decide (i = j)) δ2 := tt_cmp op_eq ha hb ot_eqI
theorem tt_neI {i j : Int} (ha : TR X a δ (.int i) δ1) (hb : TR X b δ1 (.int j) δ2) : TT X (.Compare a [.NotEq] [b] pos) δ (!decide (i = j)) δ2 := tt_cmp op_ne ha hb ot_neI
theorem tt_eqS {i j : Str} (ha : TR X a δ (.str i) δ1) (hb : TR X b δ1 (.str j) δ2) : TT X (.Compare a [.Eq] [b] pos) δ (decide (i = j)) δ2 := tt_cmp op_eq ha hb ot_eqS
theorem tt_neS {i j : Str} (ha : TR X a δ (.str i) δ1) (hb : TR X b δ1 (.str j) δ2) : TT X (.Compare a [.NotEq] [b] pos) δ (!decide (i = j)) δ2 := tt_cmp op_ne ha hb ot_neS
theorem tr_eqI {i j : Int} (ha : TR X a δ (.int i) δ1) (hb : TR X b δ1 (.int j) δ2) : TR X (.Compare a [.Eq] [b] pos) δ (.bl (decide (i = j))) δ2 := tr_cmp op_eq ha hb ot_eqI
theorem tr_neI {i j : Int} (ha : TR X a δ (.int i) δ1) (hb : TR X b δ1 (.int j) δ2) : TR X (.Compare a [.NotEq] [b] pos) δ (.bl (!decide (i = j))) δ2 := tr_cmp op_ne ha hb ot_neI
theorem tr_eqS {i j : Str} (ha : TR X a δ (.str i) δ1) (hb : TR X b δ1 (.str j) δ2) : TR X (.Compare a [.Eq] [b] pos) δ (.bl (decide (i = j))) δ2 := tr_cmp op_eq ha hb ot_eqS
theorem tr_neS {i j : Str} (ha : TR X a δ (.str i) δ1) (hb : TR X b δ1 (.str j) δ2) : TR X (.Compare a [.NotEq] [b] pos) δ (.bl (!decide (i = j))) δ2 := tr_cmp op_ne ha hb ot_neS

/-! ### subscripts -/
theorem atI_map {vs : List V} {ds : List D} {M : Addr → Prop} {H : Hp} {i : Int} (r : Reps M H ds vs) (h : atI ds i = some d) : ∃ v, atI vs i = some v ∧ Rep M H d v := by
  unfold atI at h ⊢
  rw [r.len]
  cases hj : ixN ds.length i with
  | none => rw [hj] at h; cases h
  | some j =>
    rw [hj] at h
    exact r.get h
theorem tr_ixL {xs : List D} {i : Int} (ha : TR X a δ (.lst xs) δ1) (hb : TR X b δ1 (.int i) δ2) (hd : atI xs i = some d) (hs : PlainIx b := by exact fun _ _ => rfl) : TR X (.Subscript a b pos) δ d δ2 := fun M W σ H Q g E k =>
  wE_of (pe_ix ix_list pe_w pe_w hs) (ha M W σ H _ g E fun u H1 s1 r1 => hb M W σ H1 _ s1.good s1.env fun v H2 s2 r2 => by
    obtain ⟨p, vs, eu, m, hp, r⟩ := s2.rep r1
    obtain ⟨w, hw, rw'⟩ := atI_map r hd
    exact ⟨p, vs, i, w, eu, r2, SqL.of hp, hw, k w H2 (s1.trans s2) rw'⟩)
theorem tr_ixT {xs : List D} {i : Int} (ha : TR X a δ (.tup xs) δ1) (hb : TR X b δ1 (.int i) δ2) (hd : atI xs i = some d) (hs : PlainIx b := by exact fun _ _ => rfl) : TR X (.Subscript a b pos) δ d δ2 := fun M W σ H Q g E k =>
  wE_of (pe_ix ix_tup pe_w pe_w hs) (ha M W σ H _ g E fun u H1 s1 r1 => hb M W σ H1 _ s1.good s1.env fun v H2 s2 r2 => by
    obtain ⟨p, vs, eu, m, hp, r⟩ := s2.rep r1
    obtain ⟨w, hw, rw'⟩ := atI_map r hd
    exact ⟨p, vs, i, w, eu, r2, .inl hp, hw, k w H2 (s1.trans s2) rw'⟩)
/-- an item of the list of its own in slot n -/
theorem tr_ixO {n : Nat} {nm : Str} {xs : List D} {i : Int} (h : δ[n]? = some (some (.own (.lst xs)))) (hb : TR X b δ (.int i) δ) (hd : atI xs i = some d) (hN : X.N[n]? = some nm := by rfl)
    (hv : Vis X.env.scope nm := by first | exact Or.inl rfl | exact Or.inr (Or.inl rfl) | exact Or.inr (Or.inr rfl)) (hdb : (nm == ("__debug__" : Str)) = false := by decide) (hcd : (nm == ("__classdict__" : Str)) = false := by decide)
    (hs : PlainIx b := by exact fun _ _ => rfl) : TR X (.Subscript (.Name nm p) b pos) δ d δ := fun M W σ H Q g E k => by
  obtain ⟨q, ho, h1, hw, hp, vs, rfl, r⟩ := E.getO h
  refine wE_of (pe_ix ix_list (pe_var hN hv hdb hcd) pe_w hs) ⟨_, h1, hb M W σ H _ g E fun v H2 s2 r2 => ?_⟩
  obtain ⟨q', ho', h1', hw', hp', vs', rfl, r'⟩ := s2.env.getO h
  rw [h1] at h1'
  cases h1'
  obtain ⟨w, hw2, rw2⟩ := atI_map r' hd
  exact ⟨q, vs', i, w, rfl, r2, SqL.of hp', hw2, k w H2 s2 rw2⟩

/-! ### slices of a list that is read, sums of new lists -/
def TO (X : Cx) (e : Option Expr) (δ : TL.Env) (o : Option Int) (δ' : TL.Env) : Prop := ∀ (M W : Addr → Prop) (σ : L2.St) (H : Hp), Good M W H → EnvR M W H σ δ → ∃ t : L2.St → Hp → (Option Int → Hp → Prop) → Prop, PO X e t ∧ ∀ Q : Option Int → Hp → Prop, (∀ H', Stp M W σ δ' H H' → Q o H') → t σ H Q
end
end TL
set_option Elab.async false
set_option linter.all false
set_option maxRecDepth 100000
set_option autoImplicit false
set_option maxHeartbeats 4000000
/-! TL4: statements, blocks, defs and their calls. -/
namespace TL
open PySem L2

inductive Res where
  | im (d : D) | fr (xs : List D)
inductive Out where
  | nx (δ : TL.Env) | rt (r : Res) (δ : TL.Env) | bk (δ : TL.Env) | ct (δ : TL.Env)
structure Gr (M W M' W' : Addr → Prop) (H : Hp) : Prop where
  mm : ∀ a, M a → M' a
  mn : ∀ a, M' a → M a ∨ H a = none
  ww : ∀ a, W a → W' a
  wn : ∀ a, W' a → W a ∨ H a = none
def Kp (δ : TL.Env) (σ : L2.St) (δ' : TL.Env) (σ' : L2.St) : Prop := ∀ (i : Nat) (xs : OC), δ[i]? = some (some (.own xs)) → ∃ ys, δ'[i]? = some (some (.own ys)) ∧ σ'[i]? = σ[i]?
structure Aft (M W M' W' : Addr → Prop) (δ : TL.Env) (σ : L2.St) (H : Hp) (δ' : TL.Env) (σ' : L2.St) (H' : Hp) : Prop where
  gr : Gr M W M' W' H
  xt : Xt W H H'
  good : Good M' W' H'
  env : EnvR M' W' H' σ' δ'
  kp : Kp δ σ δ' σ'
def RepR (M : Addr → Prop) (H H' : Hp) : Res → V → Prop
  | .im d, v => Rep M H' d v
  | .fr xs, v => ∃ p vs, v = .ref p ∧ H p = none ∧ H' p = some (.lst vs) ∧ Reps (Mp M p) H' xs vs
def After (Dn : Ends) (M W : Addr → Prop) (δ : TL.Env) (σ : L2.St) (H : Hp) : Out → Prop
  | .nx δ' => ∀ M' W' σ' H', Aft M W M' W' δ σ H δ' σ' H' → Dn.nx σ' H'
  | .rt r δ' => ∀ M' W' σ' H' v, Aft M W M' W' δ σ H δ' σ' H' → RepR M' H H' r v → Dn.rt v H'
  | .bk δ' => ∀ M' W' σ' H', Aft M W M' W' δ σ H δ' σ' H' → Dn.bk σ' H'
  | .ct δ' => ∀ M' W' σ' H', Aft M W M' W' δ σ H δ' σ' H' → Dn.ct σ' H'
def TB (X : Cx) (sts : List Stmt) (δ : TL.Env) (o : Out) : Prop := ∀ (M W : Addr → Prop) (σ : L2.St) (H : Hp) (Dn : Ends), Good M W H → EnvR M W H σ δ → After Dn M W δ σ H o → wB X sts Dn σ H
def TS (X : Cx) (st : Stmt) (δ : TL.Env) (o : Out) : Prop := ∀ (M W : Addr → Prop) (σ : L2.St) (H : Hp) (Dn : Ends), Good M W H → EnvR M W H σ δ → After Dn M W δ σ H o → wS X st Dn σ H

section
variable {M W M' W' M1 W1 M2 W2 : Addr → Prop} {δ δ' δ1 δ2 : TL.Env} {σ σ' σ1 σ2 : L2.St} {H H' H1 H2 : Hp}
theorem Gr.refl : Gr M W M W H := ⟨fun _ h => h, fun _ h => .inl h, fun _ h => h, fun _ h => .inl h⟩
theorem Kp.refl : Kp δ σ δ σ := fun i xs h => ⟨xs, h, rfl⟩
/-- what was not known before a step was not known earlier -/
theorem back (g : Good M W H) (g1 : ∀ a, M a → H1 a ≠ none) (x : Xt W H H1) {a : Addr} (h : H1 a = none) : H a = none := by
  cases q : H a with
  | none => rfl
  | some o =>
    exfalso
    by_cases hw : W a
    · exact g1 a (g.wm a hw) h
    · rw [x a o hw q] at h; cases h
theorem Aft.trans (g : Good M W H) (a : Aft M W M1 W1 δ σ H δ1 σ1 H1) (b : Aft M1 W1 M2 W2 δ1 σ1 H1 δ2 σ2 H2) : Aft M W M2 W2 δ σ H δ2 σ2 H2 := by
  have bk : ∀ {x : Addr}, H1 x = none → H x = none := fun {x} h => back g (fun y m => a.good.mt y (a.gr.mm y m)) a.xt h
  refine ⟨⟨fun x m => b.gr.mm x (a.gr.mm x m), fun x m => ?_, fun x m => b.gr.ww x (a.gr.ww x m), fun x m => ?_⟩, fun x o w h => b.xt x o (fun w1 => ?_) (a.xt x o w h), b.good, b.env, fun i xs h => ?_⟩
  · rcases b.gr.mn x m with m | m
    · exact a.gr.mn x m
    · exact .inr (bk m)
  · rcases b.gr.wn x m with m | m
    · exact a.gr.wn x m
    · exact .inr (bk m)
  · rcases a.gr.wn x w1 with w1 | w1
    · exact w w1
    · rw [w1] at h; cases h
  · obtain ⟨ys, h1, e1⟩ := a.kp i xs h
    obtain ⟨zs, h2, e2⟩ := b.kp i ys h1
    exact ⟨zs, h2, e2.trans e1⟩
theorem RepR.back (g : Good M W H) (a : Aft M W M1 W1 δ σ H δ1 σ1 H1) {r : Res} {v : V} (h : RepR M2 H1 H2 r v) : RepR M2 H H2 r v := by
  cases r with
  | im d => exact h
  | fr xs =>
    obtain ⟨p, vs, e, n, h1, h2⟩ := h
    exact ⟨p, vs, e, TL.back g (fun y m => a.good.mt y (a.gr.mm y m)) a.xt n, h1, h2⟩
theorem After.trans {Dn : Ends} {o : Out} (g : Good M W H) (a : Aft M W M1 W1 δ σ H δ1 σ1 H1) (k : After Dn M W δ σ H o) : After Dn M1 W1 δ1 σ1 H1 o := by
  cases o with
  | nx δ' => exact fun M' W' σ' H' b => k M' W' σ' H' (a.trans g b)
  | rt r δ' => exact fun M' W' σ' H' v b q => k M' W' σ' H' v (a.trans g b) (q.back g a)
  | bk δ' => exact fun M' W' σ' H' b => k M' W' σ' H' (a.trans g b)
  | ct δ' => exact fun M' W' σ' H' b => k M' W' σ' H' (a.trans g b)
theorem After.nx' {Dn : Ends} {o : Out} {f : L2.St → Hp → Prop} (h : ∀ δ', o ≠ .nx δ') (k : After Dn M W δ σ H o) : After { Dn with nx := f } M W δ σ H o := by
  cases o with
  | nx δ' => exact absurd rfl (h δ')
  | rt r δ' => exact k
  | bk δ' => exact k
  | ct δ' => exact k
/-- an expression's step, seen as a statement's: shapes of the environments agree -/
def Sh (δ δ' : TL.Env) : Prop := ∀ (i : Nat) (xs : OC), δ[i]? = some (some (.own xs)) → ∃ ys, δ'[i]? = some (some (.own ys))
theorem Sh.refl {δ : TL.Env} : Sh δ δ := fun _ xs h => ⟨xs, h⟩
theorem Stp.aft (s : Stp M W σ δ1 H H1) (h : Sh δ δ1) : Aft M W M W δ σ H δ1 σ H1 := ⟨Gr.refl, s.xt, s.good, s.env, fun i xs q => let ⟨ys, z⟩ := h i xs q; ⟨ys, z, rfl⟩⟩
end

section
variable {X : Cx} {a b c e : Expr} {st : Stmt} {sts rest body orelse : List Stmt} {δ δ1 δ2 δ3 : TL.Env} {o o1 : Out} {d : D} {pos p : Pos} {k : Bool} {xs : List D}
theorem tb_nil : TB X [] δ (.nx δ) := fun M W σ H Dn g E q => wB_of pss_nil (q M W σ H ⟨Gr.refl, Xt.refl H, g, E, Kp.refl⟩)
theorem tb_cons (h : TS X st δ (.nx δ1)) (hr : TB X rest δ1 o) : TB X (st :: rest) δ o := fun M W σ H Dn g E q =>
  wB_of (pss_cons ps_w pss_w) (h M W σ H _ g E fun M' W' σ' H' A => hr M' W' σ' H' Dn A.good A.env (q.trans g A))
theorem tb_stop (h : TS X st δ o) (hn : ∀ δ', o ≠ .nx δ' := by intro _ z; cases z) : TB X (st :: rest) δ o := fun M W σ H Dn g E q =>
  wB_of (pss_cons ps_w pss_w) (h M W σ H _ g E (q.nx' hn))
theorem tb_out {o' : Out} (h : TB X sts δ o) (e : o = o') : TB X sts δ o' := e ▸ h
/-- what a part's end is to the whole block -/
def Sq (X : Cx) (rest : List Stmt) (o1 o : Out) : Prop := (∃ δ', o1 = .nx δ' ∧ TB X rest δ' o) ∨ ((∀ δ', o1 ≠ .nx δ') ∧ o1 = o)
theorem sq_nx (h : TB X rest δ o) : Sq X rest (.nx δ) o := .inl ⟨δ, rfl, h⟩
theorem sq_rt {r : Res} : Sq X rest (.rt r δ) (.rt r δ) := .inr ⟨(fun _ z => nomatch z), rfl⟩
theorem tb_if (hc : TT X c δ k δ1) (sh : Sh δ δ1) (h1 : k = true → ∃ o1, TB X body δ1 o1 ∧ Sq X rest o1 o) (h2 : k = false → ∃ o2, TB X orelse δ1 o2 ∧ Sq X rest o2 o) : TB X (.If c body orelse pos :: rest) δ o := fun M W σ H Dn g E q =>
  wB_of (pss_cons (ps_if pt_w pss_w pss_w) pss_w) (hc M W σ H _ g E fun H1 s1 => by
    have q1 := q.trans g (s1.aft sh)
    have main : ∀ (bl : List Stmt), (∃ o1, TB X bl δ1 o1 ∧ Sq X rest o1 o) → wB X bl { Dn with nx := wB X rest Dn } σ H1 := fun bl ⟨o1, hb, hs⟩ => by
      rcases hs with ⟨δ', rfl, hr⟩ | ⟨hn, rfl⟩
      · exact hb M W σ H1 _ s1.good s1.env fun M' W' σ' H' A => hr M' W' σ' H' Dn A.good A.env (q1.trans s1.good A)
      · exact hb M W σ H1 _ s1.good s1.env (q1.nx' hn)
    cases k with
    | true => rw [if_pos rfl]; exact main body (h1 rfl)
    | false => rw [if_neg Bool.false_ne_true]; exact main orelse (h2 rfl))
theorem ts_ret (h : TR X e δ d δ1) (sh : Sh δ δ1) : TS X (.Return (some e) pos) δ (.rt (.im d) δ1) := fun M W σ H Dn g E q =>
  wS_of (ps_ret pe_w) (h M W σ H _ g E fun v H1 s1 r1 => q M W σ H1 v (s1.aft sh) r1)
theorem ts_retF (h : TF X e δ xs δ1) (sh : Sh δ δ1) : TS X (.Return (some e) pos) δ (.rt (.fr xs) δ1) := fun M W σ H Dn g E q =>
  wS_of (ps_ret pe_w) (h M W σ H _ g E fun p vs H1 s1 n hp r1 => q M W σ H1 _ ((s1.anti g.wm).aft sh) ⟨p, vs, rfl, n, hp, r1⟩)
theorem ts_expr (h : TR X e δ d δ1) (sh : Sh δ δ1) (hs : swapsWith e none pos.line X.env = pure false := by rfl) : TS X (.Expr e pos) δ (.nx δ1) := fun M W σ H Dn g E q =>
  wS_of (ps_expr pe_w hs) (h M W σ H _ g E fun v H1 s1 r1 => q M W σ H1 (s1.aft sh))
theorem ts_pass : TS X (.Pass pos) δ (.nx δ) := fun M W σ H Dn g E q => wS_of ps_pass (q M W σ H ⟨Gr.refl, Xt.refl H, g, E, Kp.refl⟩)

/-! ### x = e -/
theorem aft_set {M W : Addr → Prop} {σ : L2.St} {H H1 : Hp} {i : Nat} {v : V} (s : Stp M W σ δ1 H H1) (sh : Sh δ δ1) (hno : ∀ xs, δ1[i]? ≠ some (some (.own xs))) (r : Rep M H1 d v) :
    Aft M W M W δ σ H (δ1.set i (some (.im d))) (σ.set i (some v)) H1 := by
  refine ⟨Gr.refl, s.xt, s.good, s.env.set r, fun j xs q => ?_⟩
  obtain ⟨ys, z⟩ := sh j xs q
  have hj : i ≠ j := fun e => by subst e; exact hno ys z
  exact ⟨ys, by rw [List.getElem?_set_ne hj]; exact z, by rw [List.getElem?_set_ne hj]⟩
theorem ts_set {i : Nat} {n : Str} (h : TR X e δ d δ1) (sh : Sh δ δ1) (hno : ∀ xs, δ1[i]? ≠ some (some (.own xs))) (hN : X.N.Nodup) (hi : X.N[i]? = some n := by rfl) (hx : Loc X.env.scope n := by first | exact Or.inl rfl | exact Or.inr rfl)
    (hs : swapsWith e (some (.Name n p)) pos.line X.env = pure false := by rfl) (hf : X.fn n = true ∨ X.env.scope.names.lookup n = some .local := by first | exact .inl rfl | exact .inr rfl) : TS X (.Assign [.Name n p] e pos) δ (.nx (δ1.set i (some (.im d)))) := fun M W σ H Dn g E q =>
  wS_of (ps_set hN hi hx pe_w hs hf) (h M W σ H _ g E fun v H1 s1 r1 => q M W _ H1 (aft_set s1 sh hno r1))
/-- a, b = e1, e2 -/
theorem ts_par {i j : Nat} {x y : Str} {px py pt : Pos} {kt k2 : Nat} {pt2 : Pos} {d1 d2 : D} (h : TA X [a, b] δ [d1, d2] δ1) (sh : Sh δ δ1) (hno : ∀ xs, δ1[i]? ≠ some (some (.own xs))) (hno2 : ∀ xs, δ1[j]? ≠ some (some (.own xs))) (hN : X.N.Nodup)
    (hij : i ≠ j := by decide) (hc : X.calm = true := by rfl) (hi : X.N[i]? = some x := by rfl) (hj : X.N[j]? = some y := by rfl) (hx : X.env.scope.names.lookup x = some .local := by rfl) (hy : X.env.scope.names.lookup y = some .local := by rfl)
    (hw : swappedStores [.Tuple [.Name x px, .Name y py] kt pt] (.Tuple [a, b] k2 pt2) X.env = pure (some [x, y]) := by rfl)
    (hs : swapsWithSole [.Tuple [.Name x px, .Name y py] kt pt] (.Tuple [a, b] k2 pt2) pos.line X.env = pure false := by rfl) :
    TS X (.Assign [.Tuple [.Name x px, .Name y py] kt pt] (.Tuple [a, b] k2 pt2) pos) δ (.nx ((δ1.set i (some (.im d1))).set j (some (.im d2)))) := fun M W σ H Dn g E q =>
  wS_of (ps_par hc hN hi hj hij hx hy pa_w hw hs) (h M W σ H _ g E fun vs H1 s1 r1 => by
    obtain ⟨v, r, rfl, r1, w, r', rfl, r2, e⟩ := r1
    have e : r' = [] := e
    subst e
    refine ⟨v, w, rfl, q M W _ H1 ?_⟩
    have A := aft_set (i := i) s1 sh hno r1
    refine ⟨Gr.refl, s1.xt, s1.good, A.env.set r2, fun l xs z => ?_⟩
    obtain ⟨ys, z1, z2⟩ := A.kp l xs z
    obtain ⟨ys', z3⟩ := sh l xs z
    have hl : j ≠ l := fun e => by subst e; exact hno2 ys' z3
    exact ⟨ys, by rw [List.getElem?_set_ne hl]; exact z1, by rw [List.getElem?_set_ne hl]; exact z2⟩)
/-- q[i] = e, q a list of its own -/
theorem ts_setO {n : Nat} {nm : Str} {i : Int} {j : Nat} (h : TR X e δ d δ1) (sh : Sh δ δ1) (ho : δ1[n]? = some (some (.own (.lst xs)))) (hi : TR X b δ1 (.int i) δ1) (hj : ixN xs.length i = some j) (hN : X.N[n]? = some nm := by rfl)
    (hv : Vis X.env.scope nm := by first | exact Or.inl rfl | exact Or.inr (Or.inl rfl) | exact Or.inr (Or.inr rfl)) (hdb : (nm == ("__debug__" : Str)) = false := by decide) (hcd : (nm == ("__classdict__" : Str)) = false := by decide)
    (hpg : ∀ {tb : TE}, PE X b tb → PG X (.Subscript (.Name nm p) b pos) (gSub (tVar n) tb rSetL) := by exact fun hb => pg_sub (pv _) hb set_list) {spos : Pos}
    (hs : swapsWithSole [.Subscript (.Name nm p) b pos] e spos.line X.env = pure false := by rfl) (hw : swappedStores [.Subscript (.Name nm p) b pos] e X.env = pure none := by rfl)
    (h1 : (assignEach [.Subscript (.Name nm p) b pos] X.env).map (·.2) = [assign (.Subscript (.Name nm p) b pos) X.env] := by rfl) : TS X (.Assign [.Subscript (.Name nm p) b pos] e spos) δ (.nx (δ1.set n (some (.own (.lst (xs.set j d)))))) := fun M W σ H Dn g E q =>
  wS_of (ps_asg pe_w (hpg pe_w) hs hw h1) (h M W σ H _ g E fun v H1 s1 r1 => by
    obtain ⟨p', ob, hp, hW, hh, vs, rfl, r⟩ := s1.env.getO ho
    refine ⟨_, hp, hi M W σ H1 _ s1.good s1.env fun u H2 s2 r2 => ?_⟩
    obtain ⟨p2, ob2, hp2, hW2, hh2, vs2, rfl, rr2⟩ := s2.env.getO ho
    rw [hp] at hp2
    cases hp2
    refine ⟨p', vs2, i, j, rfl, r2, hh2, by rw [rr2.len]; exact hj, q M W σ _ ?_⟩
    have s := s1.trans s2
    refine ⟨Gr.refl, s.xt.trans (Xt.put hW), s.good.put, s2.env.put s2.good.wm ho hp hW ⟨_, rfl, Reps.set rr2 (s2.rep r1)⟩, fun l zs z => ?_⟩
    obtain ⟨ys, z1⟩ := sh l zs z
    by_cases hl : n = l
    · subst hl
      exact ⟨_, by rw [List.getElem?_set_self (List.getElem?_eq_some_iff.mp ho).1], rfl⟩
    · exact ⟨ys, by rw [List.getElem?_set_ne hl]; exact z1, rfl⟩)
end
end TL
set_option Elab.async false
set_option linter.all false
set_option maxRecDepth 100000
set_option autoImplicit false
set_option maxHeartbeats 4000000
/-! TL5: defs by their bodies, calls of defs. -/
namespace TL
open PySem PySem.Spec PyProof.Rows L2

abbrev Spec := List S → Res → List S → Prop
def spT (R : Spec) : Sp := fun vs H Q _ => ∃ (M W : Addr → Prop) (ss ss' : List S) (r : Res), R ss r ss' ∧ Good M W H ∧ EnvR M W H (vs.map some) (ss.map some) ∧
  ∀ v H', Xt W H H' → Good M W H' → EnvR M W H' (vs.map some) (ss'.map some) → RepR M H H' r v → Q v H'
def env0 (N : List Str) (ss : List S) : TL.Env := ss.map some ++ List.replicate (N.length - ss.length) none
/-- the lists of its own among the arguments, behind the body -/
def FinA (ss : List S) (δ' : TL.Env) (ss' : List S) : Prop := ss'.length = ss.length ∧ ∀ (i : Nat) (s : S), ss[i]? = some s → match s with
  | .im d => ss'[i]? = some (.im d)
  | .own _ => ∃ ys, ss'[i]? = some (.own ys) ∧ δ'[i]? = some (some (.own ys))
section
variable {P : Program} {w : World} {K : PySem.W.Frag} {mg : Str → Option Value} {base : Heap}
theorem get_app_none {α : Type} {l : List (Option α)} {n i : Nat} {x : α} (h : (l ++ List.replicate n none)[i]? = some (some x)) : l[i]? = some (some x) := by
  by_cases hi : i < l.length
  · rw [List.getElem?_append_left hi] at h; exact h
  · rw [List.getElem?_append_right (by omega), List.getElem?_replicate] at h
    split at h <;> cases h
theorem get_map_some {α : Type} {l : List α} {i : Nat} {x : α} : (l.map some)[i]? = some (some x) ↔ l[i]? = some x := by
  rw [List.getElem?_map]
  cases l[i]? with
  | none => simp
  | some y => simp
theorem fn_end {M W M' W' : Addr → Prop} {N : List Str} {vs : List V} {ss ss' : List S} {r : Res} {δ' : TL.Env} {σ' : L2.St} {H H' : Hp} {v : V} {Q : VK} (g : Good M W H) (Ev : EnvR M W H (vs.map some) (ss.map some)) (fin : FinA ss δ' ss')
    (A : Aft M W M' W' (env0 N ss) (start N vs) H δ' σ' H') (rr : RepR M' H H' r v) (k : ∀ v H', Xt W H H' → Good M W H' → EnvR M W H' (vs.map some) (ss'.map some) → RepR M H H' r v → Q v H') : Q v H' := by
  have xm : Xt M H H' := Xt.mono g.wm A.xt
  have hvl : vs.length = ss.length := by have := Ev.len; simpa using this
  refine k v H' A.xt ⟨g.wm, fun a m => A.good.mt a (A.gr.mm a m)⟩ ⟨by simp [hvl, fin.1], fun i s hs => ?_, fun i j p xs ys h1 h2 h3 h4 => ?_⟩ ?_
  · rw [get_map_some] at hs
    have hi : i < ss.length := by rw [← fin.1]; exact (List.getElem?_eq_some_iff.mp hs).1
    obtain ⟨s0, hs0⟩ : ∃ s0, ss[i]? = some s0 := ⟨ss[i], List.getElem?_eq_getElem hi⟩
    obtain ⟨u, hu, ru⟩ := Ev.at_ i s0 (get_map_some.mpr hs0)
    refine ⟨u, hu, ?_⟩
    have f := fin.2 i s0 hs0
    cases s0 with
    | im d =>
      rw [show ss'[i]? = some (S.im d) from f] at hs
      cases hs
      exact Rep.ex xm d ru
    | own xs =>
      obtain ⟨ys, f1, f2⟩ := f
      rw [f1] at hs
      cases hs
      obtain ⟨p, us, rfl, wp, hp, rp⟩ := ru
      have hδ : (env0 N ss)[i]? = some (some (.own xs)) := by
        unfold env0
        rw [List.getElem?_append_left (by simpa using hi)]
        exact get_map_some.mpr hs0
      obtain ⟨zs, z1, z2⟩ := A.kp i xs hδ
      obtain ⟨u', hu', p', us', rfl, wp', hp', rp'⟩ := A.env.at_ i _ f2
      rw [z2] at hu'
      have hst : (start N vs)[i]? = some (some (V.ref p)) := by
        unfold L2.start
        rw [List.getElem?_append_left (by simpa [hvl] using hi)]
        exact hu
      rw [hst] at hu'
      cases hu'
      exact ⟨p, us', rfl, wp, hp', RepO.anti A.gr.mm ys rp'⟩
  · rw [get_map_some] at h1 h2
    have key : ∀ (i : Nat) (xs : OC), ss'[i]? = some (.own xs) → ∃ zs, ss[i]? = some (.own zs) := fun i xs h => by
      have hi : i < ss.length := by rw [← fin.1]; exact (List.getElem?_eq_some_iff.mp h).1
      obtain ⟨s0, hs0⟩ : ∃ s0, ss[i]? = some s0 := ⟨ss[i], List.getElem?_eq_getElem hi⟩
      have f := fin.2 i s0 hs0
      cases s0 with
      | im d => rw [show ss'[i]? = some (S.im d) from f] at h; cases h
      | own zs => exact ⟨zs, hs0⟩
    obtain ⟨z1, a1⟩ := key i xs h1
    obtain ⟨z2, a2⟩ := key j ys h2
    exact Ev.ap i j p z1 z2 (get_map_some.mpr a1) (get_map_some.mpr a2) h3 h4
  · cases r with
    | im d => exact Rep.anti A.gr.mm d rr
    | fr xs =>
      obtain ⟨p, us, e, n, hp, rs⟩ := rr
      exact ⟨p, us, e, n, hp, Reps.anti (fun a z => z.elim (fun m => .inl (A.gr.mm a m)) .inr) xs rs⟩
theorem env_start {M W : Addr → Prop} {N : List Str} {vs : List V} {ss : List S} {H : Hp} (Ev : EnvR M W H (vs.map some) (ss.map some)) : EnvR M W H (start N vs) (env0 N ss) := by
  have hvl : vs.length = ss.length := by have := Ev.len; simpa using this
  have key : ∀ (i : Nat) (v : V), i < ss.length → (vs.map some)[i]? = some (some v) → (start N vs)[i]? = some (some v) := fun i v hi h => by
    unfold L2.start
    rw [List.getElem?_append_left (by simpa [hvl] using hi)]; exact h
  have key' : ∀ (i : Nat) (v : V), i < ss.length → (start N vs)[i]? = some (some v) → (vs.map some)[i]? = some (some v) := fun i v hi h => by
    unfold L2.start at h
    rw [List.getElem?_append_left (by simpa [hvl] using hi)] at h; exact h
  have lt : ∀ (i : Nat) (s : S), (ss.map some)[i]? = some (some s) → i < ss.length := fun i s h => by
    rw [get_map_some] at h; exact (List.getElem?_eq_some_iff.mp h).1
  refine ⟨by unfold L2.start env0; simp [hvl], fun i s h => ?_, fun i j p xs ys h1 h2 h3 h4 => ?_⟩
  · have h := get_app_none h
    obtain ⟨v, h1, h2⟩ := Ev.at_ i s h
    exact ⟨v, key i v (lt i s h) h1, h2⟩
  · have h1 := get_app_none h1
    have h2 := get_app_none h2
    exact Ev.ap i j p xs ys h1 h2 (key' i _ (lt i _ h1) h3) (key' j _ (lt j _ h2) h4)
/-- a def that keeps a promise over trees, however it is called (args bound to the parameters ps) -/
structure FnK (P : Program) (w : World) (K : PySem.W.Frag) (mg : Str → Option Value) (base : Heap) (k : Nat) (f : Addr) (fd : FuncData) (ps : List Str) (R : Spec) : Prop where
  run : ∀ (A : Around) (outer : List PySem.Env) (s : Shared) (H : Hp) (args : Args) (us : List Value) (vs : List V) (Q : VK), Room k A → A.guards = some [] → Env0 P w K mg base A outer s H → BindsTo s fd args (ps.zip us) → Vals vs us →
    vs.length = ps.length → spT R vs H Q E0 → codeAny (model P w) A (.call (.ref f) args) (CR CX0 outer P w H s Q E0) s
theorem FnK.mono {j k : Nat} {f : Addr} {fd : FuncData} {ps : List Str} {R : Spec} (F : FnK P w K mg base j f fd ps R) (h : j ≤ k) : FnK P w K mg base k f fd ps R :=
  ⟨fun A outer s H args us vs Q hr => F.run A outer s H args us vs Q (hr.mono h)⟩
theorem FnK.imp {k : Nat} {f : Addr} {fd : FuncData} {ps : List Str} {R R' : Spec} (F : FnK P w K mg base k f fd ps R) (h : ∀ ss r ss', R' ss r ss' → R ss r ss') : FnK P w K mg base k f fd ps R' :=
  ⟨fun A outer s H args us vs Q hr hg e0 hb hv hl ⟨M, W, ss, ss', r, hR, q⟩ => F.run A outer s H args us vs Q hr hg e0 hb hv hl ⟨M, W, ss, ss', r, h _ _ _ hR, q⟩⟩
theorem fnK_of {k : Nat} {f : Addr} {name qual : Str} {params : Arguments} {body : List Stmt} {scope : Scope} {dV kV doc pm cdv ct oc : Value} {an od : Option Addr} {osl : Array (Option Value)} {N ps : List Str} {R : Spec}
    (lk : K.lookup f = some ⟨oc, od, .func (PySem.W.fnOf name qual params body scope dV kV doc pm an cdv ct), osl⟩) (hcd : PySem.W.codeIn K cdv qual = true) (S : FnScope N ps scope)
    (hb : ∀ (A : Around) (outer : List PySem.Env) (s : Shared) (H : Hp) (ss : List TL.S) (r : Res) (ss' : List TL.S), Room k (A.deeper (PyProof.Rows.envOfC qual scope s.heap.objs.size f cdv)) → A.guards = some [] → R ss r ss' → ss.length = ps.length →
      ∃ o δ', TB (cxOf CX0 P w K mg base N qual scope f cdv A outer s H E0).nox body (env0 N ss) o ∧ FinA ss δ' ss' ∧ (o = .rt r δ' ∨ (o = .nx δ' ∧ r = .im .non))) :
    FnK P w K mg base (k + 1) f (PySem.W.fnOf name qual params body scope dV kV doc pm an cdv ct) ps R := by
  refine ⟨fun A outer s H args us vs Q hr hg e0 hbd rv hl hsp => ?_⟩
  obtain ⟨M, W, ss, ss', r, hR, g, Ev, q⟩ := hsp
  have hsl : ss.length = ps.length := by have := Ev.len; simp at this; omega
  have hk : K.In s.heap := e0.mod.kin.keeps fun b o e => (e0.bs b o e).1
  have hnl : s.heap.NoLimit := e0.mod.nolimit.keeps fun b o e => (e0.bs b o e).1
  have kinds : ∀ y ∈ ps.zip us, scope.names.lookup y.1 = some .local ∨ (scope.names.lookup y.1 = some .cell ∧ ((cellsFrom (s.heap.objs.size + 1) scope.names []).lookup y.1).isSome = true) := by
    rintro ⟨n, v⟩ hy
    rcases S.par n (List.of_mem_zip hy).1 with z | z
    · exact .inl z
    · exact .inr ⟨z, PySem.W.cellsFrom_some _ _ _ (.inl z)⟩
  refine PySem.codeAny_call_function hr.depth (hk _ _ lk) rfl S.co S.gen rfl (PySem.W.codeRec_of hk hcd) (hbd _ _ _ _ ?_)
  refine wpAny_newFunctionEnv_cells S.kind kinds fun env he s1 x => ?_
  subst he
  refine ⟨hnl.keeps x.toInCall.keep, PySem.codeAny_func ?_⟩
  obtain ⟨o, δ', tb, fin, ho⟩ := hb A outer s H ss r ss' (hr.deeper _) hg hR hsl
  have I : Inv (cxOf CX0 P w K mg base N qual scope f cdv A outer s H E0) [] (L2.start N vs) H s1 := inv_start S hr.hd e0 hl rv x
  have body_ok : wB (cxOf CX0 P w K mg base N qual scope f cdv A outer s H E0).nox body { nx := fun _ H' => Q .non H', rt := Q } (L2.start N vs) H := by
    refine tb M W _ H _ g (env_start Ev) ?_
    rcases ho with rfl | ⟨rfl, rfl⟩
    · exact fun M' W' σ' H' v Af rr => fn_end g Ev fin Af rr q
    · exact fun M' W' σ' H' Af => fn_end (r := .im .non) (v := .non) g Ev fin Af rfl q
  refine wpAny_mono (body_ok.run [] s1 (I.wish _)) (fun fl s' hs => ?_) fun e s' hs => hs.elim
  cases fl with
  | ret u =>
    obtain ⟨v, σ', H', J, rw', q'⟩ := hs
    exact ⟨v, H', J.os, J.bare, J.base, J.hok, rw', q'⟩
  | next =>
    obtain ⟨σ', H', J, q'⟩ := hs
    exact ⟨V.non, H', J.os, J.bare, J.base, J.hok, rfl, q'⟩
  | brk => obtain ⟨_, _, _, q'⟩ := hs; exact q'.elim
  | cont => obtain ⟨_, _, _, q'⟩ := hs; exact q'.elim
end

/-! ### calls -/
/-- a call with so many written arguments and these keywords -/
structure FnG (P : Program) (w : World) (K : PySem.W.Frag) (mg : Str → Option Value) (base : Heap) (k : Nat) (f : Addr) (ks : List Str) (R : Spec) : Prop where
  run : ∀ (A : Around) (outer : List PySem.Env) (s : Shared) (H : Hp) (us ws : List Value) (vs zs : List V) (Q : VK), Room k A → A.guards = some [] → Env0 P w K mg base A outer s H → Vals vs us → Vals zs ws → zs.length = ks.length →
    spT R (vs ++ zs) H Q E0 → codeAny (model P w) A (.call (.ref f) ⟨us, ks.zip ws⟩) (CR CX0 outer P w H s Q E0) s
structure Cal (P : Program) (w : World) (K : PySem.W.Frag) (mg : Str → Option Value) (base : Heap) (x : Str) (k : Nat) (R : Spec) : Prop where
  ex : ∃ f : Addr, FnG P w K mg base k f [] R ∧ mg x = some (.ref f) ∧ PySem.W.keepIn K (.ref f) = true
section
variable {P : Program} {w : World} {K : PySem.W.Frag} {mg : Str → Option Value} {base : Heap}
theorem FnK.pos {k : Nat} {f : Addr} {fd : FuncData} {ps : List Str} {R : Spec} (F : FnK P w K mg base k f fd ps R) (b : Binds K fd ps []) (hl : ∀ ss r ss', R ss r ss' → ss.length = ps.length) : FnG P w K mg base k f [] R := by
  refine ⟨fun A outer s H us ws vs zs Q hr hg e0 rv rz lz h => ?_⟩
  have : zs = [] := List.length_eq_zero_iff.mp lz
  subst this
  rw [List.append_nil] at h
  have hk : K.In s.heap := e0.mod.kin.keeps fun b o e => (e0.bs b o e).1
  have hvl : vs.length = ps.length := by
    obtain ⟨M, W, ss, ss', r, hR, g, Ev, q⟩ := id h
    have h1 := hl _ _ _ hR
    have h2 := Ev.len
    simp at h2
    omega
  have hb := b s us hk (by rw [List.append_nil, ← rv.length]; exact hvl)
  rw [List.append_nil] at hb
  exact F.run A outer s H ⟨us, []⟩ us vs Q hr hg e0 hb rv hvl h
end
section
variable {M W : Addr → Prop} {H H' : Hp}
theorem envR_args : ∀ {ds : List D} {vs : List V}, Reps M H ds vs → EnvR M (fun _ => False) H (vs.map some) ((ds.map S.im).map some) := fun {ds vs} r => by
  refine ⟨by simp [r.len], fun i s h => ?_, fun i j p xs ys h1 => ?_⟩
  · rw [get_map_some, List.getElem?_map] at h
    cases hd : ds[i]? with
    | none => rw [hd] at h; cases h
    | some d =>
      rw [hd] at h
      cases h
      obtain ⟨v, h1, h2⟩ := r.get hd
      exact ⟨v, get_map_some.mpr h1, h2⟩
  · rw [get_map_some, List.getElem?_map] at h1
    cases hd : ds[i]? with
    | none => rw [hd] at h1; cases h1
    | some d => rw [hd] at h1; cases h1
/-- a list of its own ahead of data -/
theorem envR_own {p : Addr} {us : HO} {xs : OC} {ds : List D} {vs : List V} (hp : H p = some us) (ru : RepO M H xs us) (r : Reps M H ds vs) :
    EnvR M (fun a => a = p) H ((V.ref p :: vs).map some) ((S.own xs :: ds.map S.im).map some) := by
  have E := envR_args r
  refine ⟨by have := E.len; simp at this ⊢; exact this, fun i s h => ?_, fun i j q ys zs h1 h2 h3 h4 => ?_⟩
  · cases i with
    | zero =>
      have : s = .own xs := by simpa using h.symm
      subst this
      exact ⟨_, rfl, p, us, rfl, rfl, hp, ru⟩
    | succ i =>
      obtain ⟨v, a, b⟩ := E.at_ i s (by simpa using h)
      refine ⟨v, by simpa using a, ?_⟩
      cases s with
      | im d => exact b
      | own ys => obtain ⟨_, _, _, w, _⟩ := b; exact w.elim
  · have key : ∀ (i : Nat) (ys : OC), ((S.own xs :: ds.map S.im).map some)[i]? = some (some (S.own ys)) → i = 0 := fun i ys h => by
      cases i with
      | zero => rfl
      | succ i =>
        exfalso
        have h : ((ds.map S.im).map some)[i]? = some (some (S.own ys)) := by simpa using h
        rw [get_map_some, List.getElem?_map] at h
        cases hd : ds[i]? with
        | none => rw [hd] at h; cases h
        | some d => rw [hd] at h; cases h
    rw [key i ys h1, key j zs h2]
end
section
variable {X : Cx} {a b c e : Expr} {es : List Expr} {δ δ1 δ2 : TL.Env} {x : Str} {d : D} {ds : List D} {pos p : Pos} {k : Nat} {R : Spec} {xs ys : List D}
/-- f(e, ..) -/
theorem pe_callG {f : Addr} {t : L2.TA} (F : FnG X.prog X.w X.K X.mg X.base k f [] R) (hr : Room k X.A) (gd : X.A.guards = some []) (hg : Gl X x) (hm : X.mg x = some (.ref f)) (hk : PySem.W.keepIn X.K (.ref f) = true) (ha : PA X (e :: es) t)
    (hdb : (x == ("__debug__" : Str)) = false) (he : starEach (e :: es) X.env = (false, eval e X.env) :: starEach es X.env) (hpl : (backTo pos (starEach es X.env)).any (·.1) = false) :
    PE X (.Call (.Name x p) (e :: es) [] pos) (fun σ H Q => t σ H fun vs H1 => spT R vs H1 Q E0) := by
  refine ⟨fun pins s σ H Q I h => ?_⟩
  refine wpAny_Call_Name_kw (ld_glob I hg hm ?_ hdb)
  refine PySem.W.callWith_K (h₀ := X.base) I.ok.mod.kin hk (thn (ha.run pos pins s σ H _ I h) fun us s1 ⟨vs, H1, I1, rv, q⟩ => ⟨I1.kIn, ?_⟩) he hpl
  refine PySem.wpAny_call (PySem.codeAny_mono (F.run X.A X.stack s1 H1 us [] vs [] Q hr gd I1.env0 rv .nil rfl (by rw [List.append_nil]; exact q)) fun r s' hq => ?_)
  cases r with
  | error er => exact False.elim hq
  | ok fl =>
    cases fl with
    | ret u => exact I1.after hq
    | next => exact False.elim hq
    | brk => exact False.elim hq
    | cont => exact False.elim hq
theorem good0 {M W : Addr → Prop} {H : Hp} (g : Good M W H) : Good M (fun _ => False) H := ⟨fun _ z => z.elim, g.mt⟩
theorem tr_call (C : Cal X.prog X.w X.K X.mg X.base x k R) (hr : Room k X.A) (gd : X.A.guards = some []) (ha : TA X (e :: es) δ ds δ1) (hR : R (ds.map S.im) (.im d) (ds.map S.im)) (hg : Gl X x := by rfl)
    (hdb : (x == ("__debug__" : Str)) = false := by decide) (he : starEach (e :: es) X.env = (false, eval e X.env) :: starEach es X.env := by rfl) (hpl : (backTo pos (starEach es X.env)).any (·.1) = false := by rfl) : TR X (.Call (.Name x p) (e :: es) [] pos) δ d δ1 := fun M W σ H Q g E q => by
  obtain ⟨f, F, hm, hk⟩ := C.ex
  refine wE_of (pe_callG F hr gd hg hm hk pa_w hdb he hpl) (ha M W σ H _ g E fun vs H1 s1 r1 => ?_)
  exact ⟨M, fun _ => False, _, _, _, hR, good0 s1.good, envR_args r1, fun v H2 xt g2 _ rr => q v H2 (s1.ext fun a o h => xt a o (fun z => z) h) rr⟩
theorem tf_call (C : Cal X.prog X.w X.K X.mg X.base x k R) (hr : Room k X.A) (gd : X.A.guards = some []) (ha : TA X (e :: es) δ ds δ1) (hR : R (ds.map S.im) (.fr xs) (ds.map S.im)) (hg : Gl X x := by rfl)
    (hdb : (x == ("__debug__" : Str)) = false := by decide) (he : starEach (e :: es) X.env = (false, eval e X.env) :: starEach es X.env := by rfl) (hpl : (backTo pos (starEach es X.env)).any (·.1) = false := by rfl) : TF X (.Call (.Name x p) (e :: es) [] pos) δ xs δ1 := fun M W σ H Q g E q => by
  obtain ⟨f, F, hm, hk⟩ := C.ex
  refine wE_of (pe_callG F hr gd hg hm hk pa_w hdb he hpl) (ha M W σ H _ g E fun vs H1 s1 r1 => ?_)
  refine ⟨M, fun _ => False, _, _, _, hR, good0 s1.good, envR_args r1, fun v H2 xt g2 _ rr => ?_⟩
  obtain ⟨p', us, rfl, n, h2, r2⟩ := rr
  have ex : ∀ a o, H1 a = some o → H2 a = some o := fun a o h => xt a o (fun z => z) h
  refine q p' us H2 ⟨s1.xt.trans (Xt.of ex), ⟨fun a w => .inl (g.wm a w), fun a m z => ?_⟩, (s1.env.gr (mp_gr n)).ext ex⟩ (s1.none g n) h2 r2
  rcases m with m | m
  · exact g2.mt a m z
  · rw [m, h2] at z; cases z
/-- f(q, ..): q a list of its own in slot n -/
theorem tr_callO {n : Nat} {nm : Str} {xs ys : OC} (C : Cal X.prog X.w X.K X.mg X.base x k R) (hr : Room k X.A) (gd : X.A.guards = some []) (h0 : δ[n]? = some (some (.own xs))) (ha : TA X es δ ds δ) (hR : R (.own xs :: ds.map S.im) (.im d) (.own ys :: ds.map S.im)) (hg : Gl X x := by rfl)
    (hN : X.N[n]? = some nm := by rfl) (hv : Vis X.env.scope nm := by first | exact Or.inl rfl | exact Or.inr (Or.inl rfl) | exact Or.inr (Or.inr rfl)) (hnb : (nm == ("__debug__" : Str)) = false := by decide) (hcd : (nm == ("__classdict__" : Str)) = false := by decide) {np : Pos}
    (hdb : (x == ("__debug__" : Str)) = false := by decide) (he : starEach (.Name nm np :: es) X.env = (false, eval (.Name nm np) X.env) :: starEach es X.env := by rfl) (hpl : (backTo pos (starEach es X.env)).any (·.1) = false := by rfl) :
    TR X (.Call (.Name x p) (.Name nm np :: es) [] pos) δ d (δ.set n (some (.own ys))) := fun M W σ H Q g E q => by
  obtain ⟨f, F, hm, hk⟩ := C.ex
  obtain ⟨a0, us0, hs0, hw0, hp0, ru0⟩ := E.getO h0
  refine wE_of (pe_callG F hr gd hg hm hk (pa_cons (pe_var hN hv hnb hcd) pa_w he) hdb he hpl) ⟨_, hs0, ha M W σ H _ g E fun vs H1 s1 r1 => ?_⟩
  show spT R (V.ref a0 :: vs) H1 Q E0
  obtain ⟨a1, us1, hs1, hw1, hp1, ru1⟩ := s1.env.getO h0
  rw [hs0] at hs1
  cases hs1
  refine ⟨M, fun a => a = a0, _, _, _, hR, ⟨fun a z => by rw [z]; exact g.wm a0 hw0, s1.good.mt⟩, envR_own hp1 ru1 r1, fun v H2 xt g2 E2 rr => q v H2 ⟨s1.xt.trans (Xt.mono (fun a z => by rw [z]; exact hw0) xt), ⟨g.wm, g2.mt⟩, ?_⟩ rr⟩
  obtain ⟨u, hu, p2, us2, rfl, _, hp2, ru2⟩ := E2.at_ 0 (.own ys) rfl
  have : p2 = a0 := by simpa using hu.symm
  subst this
  have xm : Xt M H1 H2 := fun a o m h => xt a o (fun z => m (by rw [z]; exact g.wm p2 hw0)) h
  have il : n < δ.length := (List.getElem?_eq_some_iff.mp h0).1
  refine ⟨by rw [List.length_set]; exact s1.env.len, fun j s hj => ?_, fun i j a ws zs h1 h2 h3 h4 => ?_⟩
  · by_cases hn : n = j
    · subst hn
      rw [List.getElem?_set_self il] at hj
      cases hj
      exact ⟨_, hs0, p2, us2, rfl, hw0, hp2, ru2⟩
    · rw [List.getElem?_set_ne hn] at hj
      obtain ⟨u, a1, b1⟩ := s1.env.at_ j s hj
      refine ⟨u, a1, ?_⟩
      cases s with
      | im d => exact Rep.ex xm d b1
      | own ws =>
        obtain ⟨p', vs', rfl, w', hp', r'⟩ := b1
        exact ⟨p', vs', rfl, w', xt p' _ (fun z => hn (s1.env.ap n j p2 xs ws h0 hj hs0 (by rw [← z]; exact a1))) hp', RepO.ex xm ws r'⟩
  · have key : ∀ (j : Nat) (zs : OC), (δ.set n (some (.own ys)))[j]? = some (some (.own zs)) → ∃ zs', δ[j]? = some (some (.own zs')) := fun j zs q => by
      by_cases hj : n = j
      · subst hj; exact ⟨xs, h0⟩
      · rw [List.getElem?_set_ne hj] at q; exact ⟨zs, q⟩
    obtain ⟨z1, a1⟩ := key i ws h1
    obtain ⟨z2, a2⟩ := key j zs h2
    exact s1.env.ap i j a z1 z2 a1 a2 h3 h4
/-- f(e): e makes a new list, which f may change -/
theorem tr_callF (C : Cal X.prog X.w X.K X.mg X.base x k R) (hr : Room k X.A) (gd : X.A.guards = some []) (ha : TF X e δ xs δ1) {yo : OC} (hR : R [.own (.lst xs)] (.im d) [.own yo]) (hg : Gl X x := by rfl)
    (hdb : (x == ("__debug__" : Str)) = false := by decide) (he : starEach [e] X.env = (false, eval e X.env) :: starEach [] X.env := by rfl) : TR X (.Call (.Name x p) [e] [] pos) δ d δ1 := fun M W σ H Q g E q => by
  obtain ⟨f, F, hm, hk⟩ := C.ex
  refine wE_of (pe_callG F hr gd hg hm hk (pa_cons pe_w pa_nil he) hdb he rfl) (ha M W σ H _ g E fun p' us H1 s1 n hp r1 => ?_)
  have np : ¬ M p' := g.notM n
  refine ⟨Mp M p', fun a => a = p', [.own (.lst xs)], [.own yo], _, hR, ⟨fun a z => .inr z, s1.good.mt⟩, envR_own (ds := []) (vs := []) hp ⟨us, rfl, r1⟩ rfl, fun v H2 xt g2 _ rr => ?_⟩
  have nW : ¬ W p' := fun w => np (g.wm p' w)
  have xm : Xt (Mp M p') H1 H2 := Xt.mono (fun a z => .inr z) xt
  refine q v H2 ⟨fun a o w h => xt a o (fun z => by rw [z, n] at h; cases h) (s1.xt a o w h), ⟨g.wm, fun a m => g2.mt a (.inl m)⟩, ⟨s1.env.len, fun i s hs => ?_, s1.env.ap⟩⟩ (Rep.anti (fun _ m => .inl m) d rr)
  obtain ⟨u, a1, b1⟩ := s1.env.at_ i s hs
  refine ⟨u, a1, ?_⟩
  cases s with
  | im d => exact Rep.anti (fun _ m => .inl m) d (Rep.ex xm d b1)
  | own ws =>
    obtain ⟨p2, vs2, rfl, w2, hp2, r2⟩ := b1
    exact ⟨p2, vs2, rfl, w2, xt p2 _ (fun z => nW (by rw [← z]; exact w2)) hp2, RepO.anti (fun _ m => .inl m) ws (RepO.ex xm ws r2)⟩
end
end TL
set_option Elab.async false
set_option linter.all false
set_option maxRecDepth 100000
set_option autoImplicit false
set_option maxHeartbeats 4000000
/-! TL6: comprehensions, loops. -/
namespace TL
open PySem PySem.Spec PyProof.Rows L2

section
variable {M W : Addr → Prop} {H H' H1 : Hp} {σ : L2.St} {δ δ1 : TL.Env} {i : Nat} {d : D} {v : V}
/-- a slot that holds nothing of note may hold anything -/
theorem EnvR.blank (e : EnvR M W H σ δ) (h : δ[i]? = some none) (o : Option V) : EnvR M W H (σ.set i o) δ := by
  have ne : ∀ (j : Nat) (s : S), δ[j]? = some (some s) → i ≠ j := fun j s q z => by subst z; rw [h] at q; cases q
  refine ⟨by rw [List.length_set]; exact e.len, fun j s q => ?_, fun j k p xs ys h1 h2 h3 h4 => ?_⟩
  · obtain ⟨v, a, b⟩ := e.at_ j s q
    exact ⟨v, by rw [List.getElem?_set_ne (ne j s q)]; exact a, b⟩
  · rw [List.getElem?_set_ne (ne j _ h1)] at h3
    rw [List.getElem?_set_ne (ne k _ h2)] at h4
    exact e.ap j k p xs ys h1 h2 h3 h4
theorem EnvR.unblank {o : Option V} (e : EnvR M W H (σ.set i o) δ) (h : δ[i]? = some none) : EnvR M W H σ δ := by
  have ne : ∀ (j : Nat) (s : S), δ[j]? = some (some s) → i ≠ j := fun j s q z => by subst z; rw [h] at q; cases q
  refine ⟨by have := e.len; rw [List.length_set] at this; exact this, fun j s q => ?_, fun j k p xs ys h1 h2 h3 h4 => ?_⟩
  · obtain ⟨v, a, b⟩ := e.at_ j s q
    rw [List.getElem?_set_ne (ne j s q)] at a
    exact ⟨v, a, b⟩
  · exact e.ap j k p xs ys h1 h2 (by rw [List.getElem?_set_ne (ne j _ h1)]; exact h3) (by rw [List.getElem?_set_ne (ne k _ h2)]; exact h4)
/-- what slot i holds is forgotten -/
theorem EnvR.drop (e : EnvR M W H σ (δ.set i (some (.im d)))) (h : δ[i]? = some none) : EnvR M W H σ δ := by
  have ne : ∀ (j : Nat) (s : S), δ[j]? = some (some s) → i ≠ j := fun j s q z => by subst z; rw [h] at q; cases q
  have up : ∀ (j : Nat) (s : S), δ[j]? = some (some s) → (δ.set i (some (.im d)))[j]? = some (some s) := fun j s q => by rw [List.getElem?_set_ne (ne j s q)]; exact q
  exact ⟨by have := e.len; rw [List.length_set] at this; exact this, fun j s q => e.at_ j s (up j s q), fun j k p xs ys h1 h2 h3 h4 => e.ap j k p xs ys (up j _ h1) (up k _ h2) h3 h4⟩
/-- an object that no tree goes through, and no slot owns, changes -/
theorem EnvR.upd {p : Addr} {o : HO} (e : EnvR M W H σ δ) (m : M p) (nw : ¬ W p) : EnvR M W (L2.upd H p o) σ δ := by
  have X : Xt M H (L2.upd H p o) := fun a u n q => by rw [upd_ne (fun z => n (by rw [z]; exact m))]; exact q
  refine ⟨e.len, fun i s q => ?_, e.ap⟩
  obtain ⟨v, a, b⟩ := e.at_ i s q
  refine ⟨v, a, ?_⟩
  cases s with
  | im d => exact Rep.ex X d b
  | own xs =>
    obtain ⟨q', vs, rfl, w, hp, r⟩ := b
    exact ⟨q', vs, rfl, w, by rw [upd_ne (fun z => nw (by rw [← z]; exact w))]; exact hp, RepO.ex X xs r⟩
end

/-! ### comprehensions -/
/-- what holds between two turns: Dl the new list -/
structure Lcw (M W : Addr → Prop) (σ : L2.St) (H1 : Hp) (Dl : Addr) (δs : Nat → TL.Env) (ys : List D) (k : Nat) (H : Hp) : Prop where
  st : Stp (Mp M Dl) W σ (δs k) H1 H
  ex : ∃ acc, H Dl = some (.lst acc) ∧ Reps (Mp M Dl) H (ys.take k) acc
section
variable {X : Cx} {elt : Expr} {scope : Scope} {M W : Addr → Prop} {σ : L2.St} {H1 : Hp} {Dl : Addr} {δs : Nat → TL.Env} {ys : List D} {i : Nat} {x y : D}
/-- an element's judgement, in the block's own frame -/
def TRb (X : Cx) (scope : Scope) (e : Expr) (δ : TL.Env) (d : D) (δ' : TL.Env) : Prop := ∀ (s : Shared) (H : Hp) (C : Addr) (cl : List (Str × Addr)) (fp : List Addr), TR (X.blk s H scope (compEnvC scope cl C X.env) fp) e δ d δ'
def wEb (X : Cx) (scope : Scope) (e : Expr) : TE := fun σ H Q => ∀ (s : Shared) (H0 : Hp) (C : Addr) (cl : List (Str × Addr)) (fp : List Addr), wE (X.blk s H0 scope (compEnvC scope cl C X.env) fp) e σ H Q
theorem pe_wb (s : Shared) (H0 : Hp) (C : Addr) (cl : List (Str × Addr)) (fp : List Addr) : PE (X.blk s H0 scope (compEnvC scope cl C X.env) fp) elt (wEb X scope elt) := ⟨fun pins s' _ _ _ I h => (h s H0 C cl fp).run pins s' I⟩
theorem lcw_start (g : Good M W H1) (E : EnvR M W H1 σ (δs 0)) (hD : H1 Dl = none) : Lcw M W σ H1 Dl δs ys 0 (upd H1 Dl (.lst [])) :=
  ⟨(Stp.refl g E).fresh hD, [], upd_same, by rw [List.take_zero]; exact rfl⟩
theorem lcw_turn {k : Nat} {H : Hp} {v : V} (g : Good M W H1) (hD : H1 Dl = none) (p : Lcw M W σ H1 Dl δs ys k H) (hn : ∀ k, (δs k)[i]? = some none) (hy : ys[k]? = some y) (hk : k < 100000) (rx : Rep (Mp M Dl) H x v)
    (he : TRb X scope elt ((δs k).set i (some (.im x))) y ((δs (k + 1)).set i (some (.im x)))) :
    wEb X scope elt ((wipe σ [i]).set i (some v)) H fun u H4 => ∃ acc, H4 Dl = some (.lst acc) ∧ acc.length < sizeLine ∧ Lcw M W σ H1 Dl δs ys (k + 1) (upd H4 Dl (.lst (acc ++ [u]))) := fun s H0 C cl fp => by
  obtain ⟨acc, hacc, racc⟩ := p.ex
  have nW : ¬ W Dl := fun w => g.mt Dl (g.wm Dl w) hD
  have E2 : EnvR (Mp M Dl) W H ((wipe σ [i]).set i (some v)) ((δs k).set i (some (.im x))) := (p.st.env.blank (hn k) none).set rx
  refine he s H0 C cl fp (Mp M Dl) W _ H _ p.st.good E2 fun u H4 s4 r4 => ?_
  have h4 : H4 Dl = some (.lst acc) := s4.xt Dl _ nW hacc
  have hl : acc.length = min k ys.length := by rw [racc.len, List.length_take]
  refine ⟨acc, h4, Nat.lt_of_lt_of_le (Nat.lt_of_le_of_lt (by omega) hk) (by decide), ⟨?_, acc ++ [u], upd_same, ?_⟩⟩
  · have X4 : EnvR (Mp M Dl) W H4 σ (δs (k + 1)) := by
      have z := s4.env.drop (hn (k + 1))
      have z' := z.unblank (hn (k + 1))
      exact z'.unblank (hn (k + 1))
    refine ⟨fun a o w h => ?_, s4.good.put, X4.upd (.inr rfl) nW⟩
    have ne : a ≠ Dl := ne_of_none h hD
    rw [upd_ne ne]
    exact s4.xt a o w (p.st.xt a o w h)
  · have Xm : Xt (Mp M Dl) H4 (upd H4 Dl (.lst (acc ++ [u]))) := fun a o n q => by rw [upd_ne (fun z => n (.inr z))]; exact q
    have e : ys.take (k + 1) = ys.take k ++ [y] := by
      obtain ⟨h1, h2⟩ := List.getElem?_eq_some_iff.mp hy
      rw [List.take_succ, hy]; rfl
    rw [e]
    refine Reps.app (Reps.ex Xm _ (s4.reps racc)) ⟨u, [], rfl, Rep.ex Xm y r4, rfl⟩
end
section
variable {X : Cx} {elt it : Expr} {scope : Scope} {δ δ1 : TL.Env} {xs ys : List D} {i : Nat} {nm : Str} {pos np : Pos}
theorem lcw_end {M W : Addr → Prop} {σ : L2.St} {H H1 H' : Hp} {Dl : Addr} {δs : Nat → TL.Env} {n : Nat} {Q : VK} (g : Good M W H) (s1 : Stp M W σ δ1 H H1) (hD : H1 Dl = none) (p : Lcw M W σ H1 Dl δs ys n H') (hl : ys.length = n)
    (k : ∀ p vs H', Stp (Mp M p) W σ (δs n) H H' → H p = none → H' p = some (.lst vs) → Reps (Mp M p) H' ys vs → Q (.ref p) H') : Q (.ref Dl) H' := by
  obtain ⟨acc, hacc, racc⟩ := p.ex
  rw [← hl, List.take_length] at racc
  exact k Dl acc H' ⟨s1.xt.trans p.st.xt, p.st.good, p.st.env⟩ (s1.none g hD) hacc racc
/-- [elt for nm in it], it a list of data -/
theorem tf_lc (δs : Nat → TL.Env) (ys : List D) (hit : TR X it δ (.lst xs) (δs 0)) (hn : ∀ k, (δs k)[i]? = some none) (hl : ys.length = xs.length) (hb : xs.length ≤ 100000)
    (he : ∀ (k : Nat) (x y : D), xs[k]? = some x → ys[k]? = some y → TRb X scope elt ((δs k).set i (some (.im x))) y ((δs (k + 1)).set i (some (.im x))))
    (hN : X.N.Nodup) (ok : BlkOk X.N X.env.scope scope [(nm, i)])
    (hg : ∀ (s : Shared) (H : Hp) (C : Addr) (cl : List (Str × Addr)) (fp : List Addr), PG (X.blk s H scope (compEnvC scope cl C X.env) fp) (.Name nm np) (gName i)) (hc : X.calm = true := by rfl)
    (hs : ∀ x, foldedSetIterable it X.env x = pure x := by intro _; rfl) : TF X (.ListComp elt [⟨.Name nm np, it, [], 0⟩] scope pos) δ ys (δs xs.length) := fun M W σ H Q g E k => by
  refine wE_of (pe_lc (own := [(nm, i)]) (g := gName i) (tt := tYes) hc hN (pi_list pe_w) ok hg (fun _ _ _ _ _ => pts_nil) pe_wb hs) (hit M W σ H _ g E fun v H1 s1 ⟨a, vs, ea, m, ha, ra⟩ => ⟨a, ea, ⟨vs, SqL.of ha⟩, fun Dl hD => ?_⟩)
  have e0 : [(nm, i)].map (·.2) = [i] := rfl
  rw [e0]
  have nad : a ≠ Dl := ne_of_none ha hD
  refine lc_list (xs := vs) (Lcw M W σ H1 Dl δs ys) (lcw_start s1.good s1.env hD) (fun k' H' _ p => ?_) (fun k' x H' hk p => ⟨?_, ?_⟩) (fun H' p => ?_)
  · exact SqL.of (p.st.xt a _ (fun w => m (g.wm a w)) ha)
  · show (((σ.set i none).set i (some x)).set i none) = σ.set i none
    rw [List.set_set, List.set_set]
  · show wEb X scope elt ((wipe σ [i]).set i (some x)) H' _
    obtain ⟨d, hd, rd⟩ := ra.get' hk
    have hk' : k' < xs.length := (List.getElem?_eq_some_iff.mp hd).1
    have hy : ys[k']? = some ys[k'] := List.getElem?_eq_getElem (by omega)
    exact lcw_turn s1.good hD p hn hy (by omega) (Rep.ex (Xt.mono (fun _ w => .inl (g.wm _ w)) p.st.xt) d (Rep.gr (mp_gr hD) d rd)) (he k' d _ hd hy)
  · rw [ra.len] at p
    exact lcw_end g s1 hD p hl k
/-- .. over range(n) -/
theorem tf_lcR {n : Int} {e : Expr} {rp : Pos} (δs : Nat → TL.Env) (ys : List D) (hit : TR X e δ (.int n) (δs 0)) (hn : ∀ k, (δs k)[i]? = some none) (h0 : 0 ≤ n) (hb : n ≤ 100000) (hl : ys.length = n.toNat)
    (he : ∀ (k : Nat) (y : D), k < n.toNat → ys[k]? = some y → TRb X scope elt ((δs k).set i (some (.im (.int k)))) y ((δs (k + 1)).set i (some (.im (.int k)))))
    (hm : X.mg "range" = none) (hN : X.N.Nodup) (ok : BlkOk X.N X.env.scope scope [(nm, i)])
    (hg : ∀ (s : Shared) (H : Hp) (C : Addr) (cl : List (Str × Addr)) (fp : List Addr), PG (X.blk s H scope (compEnvC scope cl C X.env) fp) (.Name nm np) (gName i)) (hc : X.calm = true := by rfl) (hgl : Gl X "range" := by rfl)
    (hst : starEach [e] X.env = [(false, eval e X.env)] := by rfl)
    (hs : ∀ x, foldedSetIterable (.Call (.Name "range" rp) [e] [] pos) X.env x = pure x := by intro _; rfl) {cpos : Pos} : TF X (.ListComp elt [⟨.Name nm np, .Call (.Name "range" rp) [e] [] pos, [], 0⟩] scope cpos) δ ys (δs n.toNat) := fun M W σ H Q g E k => by
  refine wE_of (pe_lc (own := [(nm, i)]) (g := gName i) (tt := tYes) hc hN (pi_range1 hgl hm (pa_cons pe_w pa_nil hst) hst) ok hg (fun _ _ _ _ _ => pts_nil) pe_wb hs) (hit M W σ H _ g E fun v H1 s1 r1 => ⟨n, by rw [show v = V.int n from r1], by omega, by omega, fun Dl hD => ?_⟩)
  have e0 : [(nm, i)].map (·.2) = [i] := rfl
  rw [e0]
  refine lc_range (lo := 0) (n := n.toNat) (Lcw M W σ H1 Dl δs ys) (lcw_start s1.good s1.env hD) (fun k' H' hk p => ⟨?_, ?_⟩) (fun H' p => lcw_end g s1 hD p hl k)
  · show (((σ.set i none).set i _).set i none) = σ.set i none
    rw [List.set_set, List.set_set]
  · show wEb X scope elt ((wipe σ [i]).set i (some (.int (0 + (k' : Int))))) H' _
    rw [Int.zero_add]
    have hy : ys[k']? = some ys[k'] := List.getElem?_eq_getElem (by omega)
    exact lcw_turn (x := .int k') s1.good hD p hn hy (by omega) rfl (he k' _ hk hy)
/-- the script is read -/
theorem scr_sql {M : Addr → Prop} {H : Hp} {K : PySem.W.Frag} {a : Addr} {ns : List Int} {v : V} (r : Rep M H (.scr K a ns) v) : v = .ref a ∧ SqL K H a (ns.map V.int) := by
  obtain ⟨e, r⟩ := r
  rcases r with ⟨_, r⟩ | r
  · exact ⟨e, .inl r⟩
  · exact ⟨e, .inr r⟩
/-- .. over the script -/
theorem tf_lcS {a : Addr} {ns : List Int} (δs : Nat → TL.Env) (ys : List D) (hit : TR X it δ (.scr X.K a ns) (δs 0)) (hn : ∀ k, (δs k)[i]? = some none) (hl : ys.length = ns.length) (hb : ns.length ≤ 100000)
    (he : ∀ (k : Nat) (x : Int) (y : D), ns[k]? = some x → ys[k]? = some y → TRb X scope elt ((δs k).set i (some (.im (.int x)))) y ((δs (k + 1)).set i (some (.im (.int x)))))
    (hN : X.N.Nodup) (ok : BlkOk X.N X.env.scope scope [(nm, i)])
    (hg : ∀ (s : Shared) (H : Hp) (C : Addr) (cl : List (Str × Addr)) (fp : List Addr), PG (X.blk s H scope (compEnvC scope cl C X.env) fp) (.Name nm np) (gName i)) (hc : X.calm = true := by rfl)
    (hs : ∀ x, foldedSetIterable it X.env x = pure x := by intro _; rfl) : TF X (.ListComp elt [⟨.Name nm np, it, [], 0⟩] scope pos) δ ys (δs ns.length) := fun M W σ H Q g E k => by
  refine wE_of (pe_lc (own := [(nm, i)]) (g := gName i) (tt := tYes) hc hN (pi_list pe_w) ok hg (fun _ _ _ _ _ => pts_nil) pe_wb hs) (hit M W σ H _ g E fun v H1 s1 r1 => ⟨a, (scr_sql r1).1, ⟨_, (scr_sql r1).2⟩, fun Dl hD => ?_⟩)
  have e0 : [(nm, i)].map (·.2) = [i] := rfl
  rw [e0]
  refine lc_list (xs := ns.map V.int) (Lcw M W σ H1 Dl δs ys) (lcw_start s1.good s1.env hD) (fun k' H' _ p => ?_) (fun k' x H' hk p => ⟨?_, ?_⟩) (fun H' p => ?_)
  · exact (scr_sql (Rep.ex (Xt.mono (fun _ w => .inl (g.wm _ w)) p.st.xt) _ (Rep.gr (mp_gr hD) _ r1))).2
  · show (((σ.set i none).set i (some x)).set i none) = σ.set i none
    rw [List.set_set, List.set_set]
  · show wEb X scope elt ((wipe σ [i]).set i (some x)) H' _
    rw [List.getElem?_map] at hk
    cases hz : ns[k']? with
    | none => rw [hz] at hk; cases hk
    | some z =>
      rw [hz] at hk
      cases hk
      have hk' : k' < ns.length := (List.getElem?_eq_some_iff.mp hz).1
      have hy : ys[k']? = some ys[k'] := List.getElem?_eq_getElem (by omega)
      exact lcw_turn (x := .int z) s1.good hD p hn hy (by omega) rfl (he k' z _ hz hy)
  · rw [List.length_map] at p
    exact lcw_end g s1 hD p hl k
end

/-! ### loops -/
section
variable {X : Cx} {c it : Expr} {body : List Stmt} {δ δ1 δ' : TL.Env} {xs : List D} {j : Nat} {nm : Str} {pos np : Pos}
theorem ts_while {ι : Type} (I : ι → TL.Env) (J : ι → Prop) (μ : ι → Nat) (x0 : ι) (h0 : δ = I x0) (j0 : J x0)
    (hs : ∀ x, J x → ∃ k, TT X c (I x) k (I x) ∧ (k = true → ∃ y, J y ∧ μ y < μ x ∧ TB X body (I x) (.nx (I y))) ∧ (k = false → I x = δ')) (hp : PassesOwn (model X.prog X.w) X.A X.env X.xe) :
    TS X (.While c body [] pos) δ (.nx δ') := fun M W σ H Dn g E q => by
  subst h0
  refine wS_of (ps_while hp pt_w pss_w) ⟨fun m σ' H' => ∃ x M' W', J x ∧ μ x = m ∧ Aft M W M' W' (I x0) σ H (I x) σ' H', ⟨_, x0, M, W, j0, rfl, ⟨Gr.refl, Xt.refl H, g, E, Kp.refl⟩⟩, ?_⟩
  rintro m σ' H' ⟨x, M', W', jx, rfl, A⟩
  obtain ⟨k, ht, hT, hF⟩ := hs x jx
  refine ht M' W' σ' H' _ A.good A.env fun H1 s1 => ?_
  have A1 : Aft M W M' W' (I x0) σ H (I x) σ' H1 := A.trans g (s1.aft Sh.refl)
  cases k with
  | true =>
    rw [if_pos rfl]
    obtain ⟨y, jy, hm, hb⟩ := hT rfl
    refine ⟨_, fun _ _ n => n, hb M' W' σ' H1 _ s1.good s1.env fun M2 W2 σ2 H2 A2 => ?_⟩
    exact ⟨μ y, hm, y, M2, W2, jy, rfl, A1.trans g A2⟩
  | false =>
    rw [if_neg Bool.false_ne_true]
    have e := hF rfl
    rw [e] at A1
    exact q M' W' σ' H1 A1
/-- for nm in it: every turn goes on -/
theorem ts_for (I : Nat → TL.Env) (hit : TR X it δ (.lst xs) (I 0)) (sh : Sh δ (I 0)) (hno : ∀ k xs, (I k)[j]? ≠ some (some (.own xs))) (hs : ∀ (k : Nat) (x : D), xs[k]? = some x → TB X body ((I k).set j (some (.im x))) (.nx (I (k + 1))))
    (hp : PassesOwn (model X.prog X.w) X.A X.env X.xe) (hg : PG X (.Name nm np) (gName j)) (hc : X.calm = true := by rfl) (hf : ∀ x, foldedSetIterable it X.env x = pure x := by intro _; rfl) :
    TS X (.For (.Name nm np) it body [] pos) δ (.nx (I xs.length)) := fun M W σ H Dn g E q => by
  refine wS_of (ps_for hp hc (pi_list pe_w) hg pss_w hf) (hit M W σ H _ g E fun v H1 s1 ⟨a, vs, ea, m, ha, ra⟩ => ⟨a, ea, ⟨vs, SqL.of ha⟩, ?_⟩)
  have A1 := s1.aft sh
  refine for_list (xs := vs) (fun k σ' H' => ∃ M' W', Aft M W M' W' δ σ H (I k) σ' H' ∧ ¬ M' a ∧ H' a = some (.lst vs) ∧ Reps M' H' xs vs) ⟨M, W, A1, m, ha, ra⟩ (fun k σ' H' _ ⟨M', W', A, m', ha', _⟩ => SqL.of ha') ?_ ?_
  · rintro k x σ' H' hk ⟨M', W', A, m', ha', ra'⟩
    obtain ⟨d, hd, rd⟩ := ra'.get' hk
    refine hs k d hd M' W' (σ'.set j (some x)) H' _ A.good (A.env.set rd) fun M2 W2 σ2 H2 A2 => ?_
    have A3 : Aft M' W' M' W' (I k) σ' H' ((I k).set j (some (.im d))) (σ'.set j (some x)) H' := aft_set (Stp.refl A.good A.env) Sh.refl (hno k) rd
    have A4 := A3.trans A.good A2
    have na : ¬ W' a := fun w => m' (A.good.wm a w)
    have nM2 : ¬ M2 a := fun z => (A2.gr.mn a z).elim m' (fun y => by rw [ha'] at y; cases y)
    exact ⟨M2, W2, A.trans g A4, nM2, A2.xt a _ na ha', Reps.ex (fun b o n h => A2.xt b o (fun w => n (A2.gr.mm b (A.good.wm b w))) h) xs (Reps.gr A2.gr.mn xs ra')⟩
  · rintro σ' H' ⟨M', W', A, _⟩
    rw [ra.len] at A
    exact q M' W' σ' H' A
end
end TL
set_option Elab.async false
set_option linter.all false
set_option maxRecDepth 100000
set_option autoImplicit false
set_option maxHeartbeats 4000000
/-! TL7: built-in calls, equality and repr of data, slices, wide division. -/
namespace TL
open PySem PySem.Spec PyProof.Rows L2

/-! ### data without instances -/
mutual
def D.py : D → PyData
  | .non => .none
  | .bl b => .bool b
  | .int i => .int i
  | .str x => .str x
  | .lst xs => .list (D.pys xs)
  | .tup xs => .tuple (D.pys xs)
  | .scr _ _ ns => .list (ns.map PyData.int)
  | .ins _ _ _ => .none
  | .vl _ => .none
def D.pys : List D → List PyData
  | [] => []
  | d :: ds => d.py :: D.pys ds
end
mutual
def D.isData : D → Bool
  | .non => true
  | .bl _ => true
  | .int _ => true
  | .str _ => true
  | .lst xs => D.areData xs
  | .tup xs => D.areData xs
  | .scr _ _ _ => false
  | .ins _ _ _ => false
  | .vl _ => false
def D.areData : List D → Bool
  | [] => true
  | d :: ds => d.isData && D.areData ds
end
section
variable {K : PySem.W.Frag} {M : Addr → Prop} {H : Hp}
mutual
theorem Rep.dp : ∀ (d : D) {v : V}, d.isData = true → Rep M H d v → Dp K H v d.py
  | .non, _, _, h => by rw [show _ = V.non from h]; exact .non
  | .bl b, _, _, h => by rw [show _ = V.bl b from h]; exact .bl b
  | .int i, _, _, h => by rw [show _ = V.int i from h]; exact .int i
  | .str x, _, _, h => by rw [show _ = V.str x from h]; exact .str x
  | .lst xs, _, q, ⟨p, vs, e, m, s, r⟩ => by rw [e]; exact .lst (SqL.of s) (Reps.dp xs q r)
  | .tup xs, _, q, ⟨p, vs, e, m, s, r⟩ => by rw [e]; exact .tup (.inl s) (Reps.dp xs q r)
  | .scr _ _ _, _, q, _ => by cases q
  | .ins _ _ _, _, q, _ => by cases q
  | .vl _, _, q, _ => by cases q
theorem Reps.dp : ∀ (ds : List D) {vs : List V}, D.areData ds = true → Reps M H ds vs → DpAll K H vs (D.pys ds)
  | [], _, _, h => by rw [show _ = [] from h]; exact .nil
  | d :: ds, _, q, ⟨v, r, e, a, b⟩ => by
    rw [e]
    have q' : d.isData = true ∧ D.areData ds = true := by
      have : (d.isData && D.areData ds) = true := q
      simpa using this
    exact .cons (Rep.dp d q'.1 a) (Reps.dp ds q'.2 b)
end
end
section
variable {X : Cx} {a b c e : Expr} {es : List Expr} {δ δ1 δ2 : TL.Env} {x y z d : D} {ds xs ys : List D} {pos p : Pos} {r : R2} {k l : Bool} {nm : Str}
theorem ot_eqD (hx : x.isData = true) (hy : y.isData = true) (sx : SeqAt.shaped x.py = true) (sy : SeqAt.shaped y.py = true) : OpT (rEqD X.K) x y (.bl (PyData.eqv x.py y.py)) := fun M W H u v Q _ ru rv k =>
  ⟨x.py, y.py, Rep.dp x hx ru, Rep.dp y hy rv, sx, sy, k _ H (fun _ _ e => e) rfl⟩
theorem ot_neD (hx : x.isData = true) (hy : y.isData = true) (sx : SeqAt.shaped x.py = true) (sy : SeqAt.shaped y.py = true) : OpT (rNeD X.K) x y (.bl (!PyData.eqv x.py y.py)) := fun M W H u v Q _ ru rv k =>
  ⟨x.py, y.py, Rep.dp x hx ru, Rep.dp y hy rv, sx, sy, k _ H (fun _ _ e => e) rfl⟩
theorem tr_eqD (ha : TR X a δ x δ1) (hb : TR X b δ1 y δ2) (hu : X.A.units + 64 < cLine) (hx : x.isData = true) (hy : y.isData = true) (sx : SeqAt.shaped x.py = true) (sy : SeqAt.shaped y.py = true) : TR X (.Compare a [.Eq] [b] pos) δ (.bl (PyData.eqv x.py y.py)) δ2 := tr_cmp (op_eqD hu) ha hb (ot_eqD hx hy sx sy)
theorem tt_eqD (ha : TR X a δ x δ1) (hb : TR X b δ1 y δ2) (hu : X.A.units + 64 < cLine) (hx : x.isData = true) (hy : y.isData = true) (sx : SeqAt.shaped x.py = true) (sy : SeqAt.shaped y.py = true) : TT X (.Compare a [.Eq] [b] pos) δ (PyData.eqv x.py y.py) δ2 := tt_cmp (op_eqD hu) ha hb (ot_eqD hx hy sx sy)
theorem tt_neD (ha : TR X a δ x δ1) (hb : TR X b δ1 y δ2) (hu : X.A.units + 64 < cLine) (hx : x.isData = true) (hy : y.isData = true) (sx : SeqAt.shaped x.py = true) (sy : SeqAt.shaped y.py = true) : TT X (.Compare a [.NotEq] [b] pos) δ (!PyData.eqv x.py y.py) δ2 := tt_cmp (op_neD hu) ha hb (ot_neD hx hy sx sy)

/-! ### built-ins by name -/
theorem tr_callB {id : String} {rc : List V → Hp → VK → Prop} (hc : CallR X (.builtin id) rc) (hm : X.mg nm = none) (hv : bootBuiltins nm = some (.builtin id)) (ha : TA X (e :: es) δ ds δ1) (hr : CaT rc ds d) (hg : Gl X nm := by rfl) (hn : nm ≠ "__name__" := by decide)
    (hdb : (nm == ("__debug__" : Str)) = false := by decide) (he : starEach (e :: es) X.env = (false, eval e X.env) :: starEach es X.env := by rfl) (hpl : (backTo pos (starEach es X.env)).any (·.1) = false := by rfl) : TR X (.Call (.Name nm p) (e :: es) [] pos) δ d δ1 := fun M W σ H Q g E k =>
  wE_of (pe_callB hc hg hm hv pa_w hn hdb he hpl) (ha M W σ H _ g E fun vs H1 s1 r1 => hr M W H1 vs Q s1.good r1 fun w H2 e2 r2 => k w H2 (s1.ext e2) r2)
theorem tr_callTy {T : String} {rc : List V → Hp → VK → Prop} (hc : CallR X (.type T) rc) (hm : X.mg nm = none) (hv : bootBuiltins nm = some (.type T)) (ha : TA X (e :: es) δ ds δ1) (hr : CaT rc ds d) (hg : Gl X nm := by rfl) (hn : nm ≠ "__name__" := by decide)
    (hdb : (nm == ("__debug__" : Str)) = false := by decide) (he : starEach (e :: es) X.env = (false, eval e X.env) :: starEach es X.env := by rfl) (hpl : (backTo pos (starEach es X.env)).any (·.1) = false := by rfl) : TR X (.Call (.Name nm p) (e :: es) [] pos) δ d δ1 := fun M W σ H Q g E k =>
  wE_of (pe_callTy hc hg hm hv pa_w hn hdb he hpl) (ha M W σ H _ g E fun vs H1 s1 r1 => hr M W H1 vs Q s1.good r1 fun w H2 e2 r2 => k w H2 (s1.ext e2) r2)
theorem reps1 {M : Addr → Prop} {H : Hp} {vs : List V} (r : Reps M H [x] vs) : ∃ v, vs = [v] ∧ Rep M H x v := by
  obtain ⟨v, r', e, h, e2⟩ := r
  have e2 : r' = [] := e2
  subst e2
  exact ⟨v, e, h⟩
theorem reps2 {M : Addr → Prop} {H : Hp} {vs : List V} (r : Reps M H [x, y] vs) : ∃ v w, vs = [v, w] ∧ Rep M H x v ∧ Rep M H y w := by
  obtain ⟨v, r', e, h, r2⟩ := r
  obtain ⟨w, e2, h2⟩ := reps1 r2
  subst e2
  exact ⟨v, w, e, h, h2⟩
theorem ca_abs {i : Int} : CaT (fun xs H Q => ∃ i, xs = [.int i] ∧ Q (.int (if i < 0 then -i else i)) H) [.int i] (.int (if i < 0 then -i else i)) := fun M W H us Q g r k => by
    obtain ⟨v, e, h⟩ := reps1 r
    exact ⟨i, by rw [e, show v = V.int i from h], k _ H (fun _ _ e => e) rfl⟩
theorem ca_int {i : Int} : CaT (fun xs H Q => (∃ i, xs = [.int i] ∧ Q (.int i) H) ∨ ∃ k, xs = [.bl k] ∧ Q (.int (if k then 1 else 0)) H) [.int i] (.int i) := fun M W H us Q g r k => by
    obtain ⟨v, e, h⟩ := reps1 r
    exact .inl ⟨i, by rw [e, show v = V.int i from h], k _ H (fun _ _ e => e) rfl⟩
theorem ca_max2 {i j : Int} : CaT (fun xs H Q => ∃ i j, xs = [.int i, .int j] ∧ Q (.int (if j > i then j else i)) H) [.int i, .int j] (.int (if j > i then j else i)) := fun M W H us Q g r k => by
    obtain ⟨v, w, e, h, h2⟩ := reps2 r
    exact ⟨i, j, by rw [e, show v = V.int i from h, show w = V.int j from h2], k _ H (fun _ _ e => e) rfl⟩
theorem ca_min2 {i j : Int} : CaT (fun xs H Q => ∃ i j, xs = [.int i, .int j] ∧ Q (.int (if j < i then j else i)) H) [.int i, .int j] (.int (if j < i then j else i)) := fun M W H us Q g r k => by
    obtain ⟨v, w, e, h, h2⟩ := reps2 r
    exact ⟨i, j, by rw [e, show v = V.int i from h, show w = V.int j from h2], k _ H (fun _ _ e => e) rfl⟩
theorem ca_lenL : CaT (fun xs H Q => ∃ p ys, xs = [.ref p] ∧ (SqL X.K H p ys ∨ SqT X.K H p ys) ∧ Q (.int ys.length) H) [.lst xs] (.int (xs.length : Int)) := fun M W H us Q g r k => by
    obtain ⟨v, e, q, vs, ev, m, hq, rs⟩ := reps1 r
    exact ⟨q, vs, by rw [e, ev], .inl (SqL.of hq), k _ H (fun _ _ e => e) (by rw [rs.len]; exact rfl)⟩
theorem ca_lenT : CaT (fun xs H Q => ∃ p ys, xs = [.ref p] ∧ (SqL X.K H p ys ∨ SqT X.K H p ys) ∧ Q (.int ys.length) H) [.tup xs] (.int (xs.length : Int)) := fun M W H us Q g r k => by
    obtain ⟨v, e, q, vs, ev, m, hq, rs⟩ := reps1 r
    exact ⟨q, vs, by rw [e, ev], .inr (.inl hq), k _ H (fun _ _ e => e) (by rw [rs.len]; exact rfl)⟩
theorem ca_lenS {q : Addr} {ns : List Int} : CaT (fun xs H Q => ∃ p ys, xs = [.ref p] ∧ (SqL X.K H p ys ∨ SqT X.K H p ys) ∧ Q (.int ys.length) H) [.scr X.K q ns] (.int (ns.length : Int)) := fun M W H us Q g r k => by
    obtain ⟨v, e, h⟩ := reps1 r
    obtain ⟨ev, hs⟩ := scr_sql h
    exact ⟨q, ns.map V.int, by rw [e, ev], .inl hs, k _ H (fun _ _ e => e) (by rw [List.length_map]; exact rfl)⟩
theorem ca_strI {i : Int} (hi : i.natAbs.log2 < 1920) : CaT (fun xs H Q => ∃ i, xs = [.int i] ∧ i.natAbs.log2 < 1920 ∧ Q (.str (toString i)) H) [.int i] (.str (toString i)) := fun M W H us Q g r k => by
    obtain ⟨v, e, h⟩ := reps1 r
    exact ⟨i, by rw [e, show v = V.int i from h], hi, k _ H (fun _ _ e => e) rfl⟩
theorem reps_bl {M : Addr → Prop} {H : Hp} : ∀ (bs : List Bool) (vs : List V), Reps M H (bs.map D.bl) vs → vs = bs.map V.bl
  | [], _, h => h
  | b :: bs, _, ⟨v, r, e, h1, h2⟩ => by rw [e, reps_bl bs r h2, show v = V.bl b from h1]; rfl
theorem ca_all {bs : List Bool} : CaT (rAll X.K) [.lst (bs.map D.bl)] (.bl (bs.all id)) := fun M W H us Q g r k => by
    obtain ⟨v, e, q, vs, ev, m, hq, rs⟩ := reps1 r
    exact ⟨q, bs, by rw [e, ev], SqL.of (by rw [← reps_bl bs vs rs]; exact hq), k _ H (fun _ _ e => e) rfl⟩
theorem ca_any {bs : List Bool} : CaT (rAny X.K) [.lst (bs.map D.bl)] (.bl (bs.any id)) := fun M W H us Q g r k => by
    obtain ⟨v, e, q, vs, ev, m, hq, rs⟩ := reps1 r
    exact ⟨q, bs, by rw [e, ev], SqL.of (by rw [← reps_bl bs vs rs]; exact hq), k _ H (fun _ _ e => e) rfl⟩

/-! ### // by any divisor -/
def CDivX (_ j : Int) : Prop := j ≠ 0 ∧ j.natAbs.log2 < 9000
theorem op_fdivX : OpR X (binaryOp .FloorDiv) (rI CDivX fun i j => .int (i.fdiv j)) := opI fun i j _ _ _ _ _ hc q => floordiv_int hc.1 q (.inl (PyProof.noPylong_of_log2 hc.2))
theorem tr_fdiv {i j : Int} (ha : TR X a δ (.int i) δ1) (hb : TR X b δ1 (.int j) δ2) (hc : j ≠ 0 ∧ j.natAbs.log2 < 9000) : TR X (.BinOp a .FloorDiv b pos) δ (.int (i.fdiv j)) δ2 := tr_op op_fdivX ha hb (ot_I hc fun _ _ => rfl)
theorem tr_fdivP {i j : Int} (ha : TR X a δ (.int i) δ1) (hb : TR X b δ1 (.int j) δ2) (hc : CDivW i j) : TR X (.BinOp a .FloorDiv b pos) δ (.int (i / j)) δ2 := tr_op op_fdivW ha hb (ot_I hc fun _ _ => rfl)

/-! ### repr of data -/
def rRepr (K : PySem.W.Frag) : List V → Hp → VK → Prop := fun xs H Q => ∃ q d, xs = [.ref q] ∧ Dp K H (.ref q) d ∧ d.showable = true ∧ d.hasDict = false ∧ d.depth ≤ 60 ∧ d.shown.length ≤ sizeLine ∧ Q (.str d.shown) H
theorem call_reprD (gd : X.A.guards = some []) (hu : X.A.units + 64 < cLine) : CallR X (.builtin "repr") (rRepr X.K) := by
  intro pins s σ H xs us Q I rv h
  obtain ⟨q, d, rfl, hd, hs, hn, hdp, hsz, hq⟩ := h
  obtain ⟨u, rest, e, r1, r2⟩ : ∃ u rest, us = u :: rest ∧ RelV (.ref q) u ∧ Vals [] rest := by cases rv with | cons a b => exact ⟨_, _, rfl, a, b⟩
  cases r2
  subst e
  cases r1
  obtain ⟨as, hr⟩ := Dp.reads I d _ _ hd rfl
  exact repr_of_reads' hr hs (fun z => by rw [hn] at z; cases z) gd (by omega) (fun _ _ z => z) (fun h' t tk hk => ⟨.str d.shown, H, I.kept hk, ⟨_, rfl⟩, hq⟩) hsz
theorem ca_repr (hx : x.isData = true) (hl : (∃ xs, x = .lst xs) ∨ ∃ xs, x = .tup xs) (hs : x.py.showable = true) (hd : x.py.hasDict = false) (hdp : x.py.depth ≤ 60) (hsz : x.py.shown.length ≤ sizeLine) : CaT (rRepr X.K) [x] (.str x.py.shown) := fun M W H us Q g r k => by
    obtain ⟨v, e, h⟩ := reps1 r
    obtain ⟨q, ev⟩ : ∃ q, v = V.ref q := by
      rcases hl with ⟨xs, rfl⟩ | ⟨xs, rfl⟩
      · obtain ⟨q, _, ev, _⟩ := h; exact ⟨q, ev⟩
      · obtain ⟨q, _, ev, _⟩ := h; exact ⟨q, ev⟩
    subst ev
    exact ⟨q, x.py, e, Rep.dp x hx h, hs, hd, hdp, hsz, k _ H (fun _ _ e => e) rfl⟩

/-! ### slices, sums and multiples of lists -/
theorem cutV_int {ns : List Int} (lo hi : Option Int) : cutV (ns.map V.int) lo hi = ((ns.drop (HT.sIx ns.length 0 lo)).take (HT.sIx ns.length ns.length hi - HT.sIx ns.length 0 lo)).map V.int := by
  unfold cutV
  rw [List.length_map, List.map_take, List.map_drop]
/-- script[k:] -/
theorem tf_slLo {q : Addr} {ns : List Int} {i : Int} {p2 : Pos} (ha : TR X a δ (.scr X.K q ns) δ1) (hb : TR X b δ1 (.int i) δ2) : TF X (.Subscript a (.Slice (some b) none none p2) pos) δ ((ns.drop (HT.sIx ns.length 0 (some i))).map D.int) δ2 := fun M W σ H Q g E k =>
  wE_of (pe_slice sl_list pe_w (po_some pe_w) po_none) (ha M W σ H _ g E fun v H1 s1 r1 => hb M W σ H1 _ s1.good s1.env fun u H2 s2 r2 => ⟨i, r2, by
    obtain ⟨ev, hs⟩ := scr_sql (s2.rep r1)
    refine ⟨q, ns.map V.int, ev, hs, fun p' hp => ?_⟩
    have s := s1.trans s2
    rw [cutV_int]
    have e : (ns.drop (HT.sIx ns.length 0 (some i))).take (HT.sIx ns.length ns.length none - HT.sIx ns.length 0 (some i)) = ns.drop (HT.sIx ns.length 0 (some i)) := List.take_of_length_le (by rw [List.length_drop]; exact Nat.le_refl _)
    rw [e]
    exact k p' _ _ (s.fresh hp) (s.none g hp) upd_same (Reps.ofInts _)⟩)
/-- script[:k] -/
theorem tf_slHi {q : Addr} {ns : List Int} {i : Int} {p2 : Pos} (ha : TR X a δ (.scr X.K q ns) δ1) (hb : TR X b δ1 (.int i) δ2) : TF X (.Subscript a (.Slice none (some b) none p2) pos) δ ((ns.take (HT.sIx ns.length ns.length (some i))).map D.int) δ2 := fun M W σ H Q g E k =>
  wE_of (pe_slice sl_list pe_w po_none (po_some pe_w)) (ha M W σ H _ g E fun v H1 s1 r1 => hb M W σ H1 _ s1.good s1.env fun u H2 s2 r2 => ⟨i, r2, by
    obtain ⟨ev, hs⟩ := scr_sql (s2.rep r1)
    refine ⟨q, ns.map V.int, ev, hs, fun p' hp => ?_⟩
    have s := s1.trans s2
    rw [cutV_int]
    have e : (ns.drop (HT.sIx ns.length 0 none)).take (HT.sIx ns.length ns.length (some i) - HT.sIx ns.length 0 none) = ns.take (HT.sIx ns.length ns.length (some i)) := by
      rw [HT.sIx_none, List.drop_zero, Nat.sub_zero]
    rw [e]
    exact k p' _ _ (s.fresh hp) (s.none g hp) upd_same (Reps.ofInts _)⟩)
theorem tf_cat (ha : TR X a δ (.lst xs) δ1) (hb : TR X b δ1 (.lst ys) δ2) (hz : xs.length + ys.length ≤ 100000) : TF X (.BinOp a .Add b pos) δ (xs ++ ys) δ2 :=
  tf_op op_cat ha hb fun M W H u v Q g ⟨p1, vs1, e1, m1, h1, r1⟩ ⟨p2, vs2, e2, m2, h2, r2⟩ k => ⟨p1, p2, vs1, vs2, e1, e2, h1, h2, by rw [r1.len, r2.len]; exact Nat.le_trans hz (by decide), fun p hp => k p _ hp (Reps.app r1 r2)⟩
theorem tf_rep {n : Int} (ha : TR X a δ (.lst xs) δ1) (hb : TR X b δ1 (.int n) δ2) (h0 : 0 ≤ n) (hz : n ≤ 1000) (hx : xs.length ≤ 100) : TF X (.BinOp a .Mult b pos) δ (List.replicate n.toNat xs).flatten δ2 :=
  tf_op op_rep ha hb fun M W H u v Q g ⟨p1, vs1, e1, m1, h1, r1⟩ rv k => ⟨p1, n, vs1, e1, rv, h1, by omega, by omega, by
    rw [r1.len]
    have : xs.length * n.toNat ≤ 100 * 1000 := Nat.mul_le_mul hx (by omega)
    exact Nat.le_trans this (by decide), fun p hp => k p _ hp (by
      have hr : ∀ m : Nat, Reps M H (List.replicate m xs).flatten (List.replicate m vs1).flatten := fun m => by
        induction m with
        | zero => exact rfl
        | succ m ih => rw [List.replicate_succ, List.flatten_cons, List.replicate_succ, List.flatten_cons]; exact Reps.app r1 ih
      exact hr _)⟩
end
end TL
set_option Elab.async false
set_option linter.all false
set_option maxRecDepth 100000
set_option autoImplicit false
set_option maxHeartbeats 4000000
/-! TL8: instances: fields, properties, making, own operators, isinstance. -/
namespace TL
open PySem PySem.Spec PyProof.Rows L2

/-! ### != by an own == -/
section
variable {prog : Program} {w : World} {A : Around} {E : Value → Shared → Prop} {s : Shared} {K : PySem.W.Frag} {x C L f : Addr} {h0 : Heap} {m : Str → Option Value} {ox : Obj} {od : Option Obj} {b tb : Value}
theorem ifBound_ne {args : List Value} {Q : Option Value → Shared → Prop} {Md : Model} (X : K.In s.heap) (I : PySem.W.InstAt s.heap x ox C od) (hs : PySem.W.findIn K (.ref C) "__ne__" = some (some (.builtin "object.__ne__")))
    (h : wpAny Md A (call (.builtin "object.__ne__") (.ref x :: args)) (fun v => Q (some v)) E s) : wpAny Md A (callSpecialIfBound? (.ref x) "__ne__" args) Q E s := by
  simp only [callSpecialIfBound?, bindSpecialIfBound?]
  refine wpAny_holding (wpAny_bind (wpAny_bind (wpAny_bind (I.type.here ((PySem.W.looks_findIn X hs).here ?_)))))
  refine wpAny_bind (wpAny_askSetting (wpAny_ite ?_))
  have last : wpAny Md A (call (.builtin "object.__ne__") ([.ref x] ++ args) >>= fun v => pure (some v)) Q E s := wpAny_bind (wpAny_mono h (fun v s' h' => wpAny_pure h') fun _ _ h' => h')
  split
  · exact wpAny_bind (wpAny_of_eq (F.cmp_object.ne.bind _) (wpAny_pure (by exact last)))
  · exact wpAny_tryCatch (wpAny_bind (wpAny_of_eq (F.cmp_object.ne.bind _) (wpAny_pure (by exact last))))
theorem entry_ne_own {Q : Fin → Shared → Prop} (hu : A.units < cLine) (X : K.In s.heap) (I : PySem.W.InstAt s.heap x ox C od) (hs : PySem.W.findIn K (.ref C) "__eq__" = some (some (.ref f))) (hf : PySem.W.isFn K (.ref f) = true)
    (h : wpAny (model prog w) A (call (.ref f) [.ref x, b]) (fun v s' => ∃ k, v = .bool k ∧ Q (.done (.ret (.bool (!k)))) s') E s) : wpAny (model prog w) A (Builtin.«object.__ne__» ⟨[.ref x, b], []⟩) Q E s := by
  unfold Builtin.«object.__ne__»
  repeat (first
    | with_reducible refine wpAny_cRoomFor hu ?_
    | (refine wpAny_bind (m := callSpecialIfBound? (.ref x) (Str.ofString "__eq__") [b])
        (PySem.W.ifBound_K X I hs hf (wpAny_mono h (fun r s' hr => by
          obtain ⟨k, rfl, hq⟩ := hr
          repeat (first | exact hq | exact wpAny_pure hq | exact wpAny_truthy_bool hq | (refine wpAny_bind (m := truthy (.bool _)) (wpAny_truthy_bool ?_)) | wp_step)) fun _ _ e => e)))
    | wp_step)
theorem ne_own {Q : Value → Shared → Prop} (hu : A.units + 1 < cLine) (Fh : Fr h0 L s.heap m) (hX : K.In h0) (I : PySem.W.InstAt s.heap x ox C od) (hb : PySem.W.Looks (model prog w) s.heap (typeOf b) tb) (hn : PySem.W.notFirst K C tb = true)
    (hm : PySem.W.mroIn K C (.type "object") = some true) (hne : PySem.W.findIn K (.ref C) "__ne__" = some (some (.builtin "object.__ne__"))) (hs : PySem.W.findIn K (.ref C) "__eq__" = some (some (.ref f))) (hf : PySem.W.isFn K (.ref f) = true)
    (h : wpAny (model prog w) A.in1 (call (.ref f) [.ref x, b]) (fun v s' => ∃ k, v = .bool k ∧ Q (.bool (!k)) s') E s) : wpAny (model prog w) A (richCompare .NotEq (.ref x) b) Q E s := by
  have X := hX.keeps Fh.keep
  have one : wpAny (model prog w) A (tryCompare (.ref x) "__ne__" b) (fun r s' => ∃ v, r = some v ∧ Q v s') E s := by
    unfold tryCompare
    refine wpAny_bind (ifBound_ne X I hne ?_)
    refine wpAny_call (codeAny_call_builtin F.cmp_object.ne.plain F.cmpEntry_ne (PySem.W.check_slot F.cmpKind_ne F.cmpSplit_ne (I.type.andThen (PySem.W.looks_mroIn X hm)) (F.cmpArgs_ne _ _) (entry_ne_own (A := A.in1) hu X I hs hf (wpAny_mono h (fun v s' hv => ?_) fun _ _ e => e))))
    obtain ⟨k, rfl, hq⟩ := hv
    first | exact ⟨k, rfl, wpAny_pure ⟨_, rfl, hq⟩⟩ | exact ⟨k, rfl, wpAny_pure (wpAny_pure ⟨_, rfl, hq⟩)⟩
  simp only [richCompare, cmpInfo_NotEq, oneThing_ref]
  refine wpAny_holding (wpAny_bind (wpAny_cRoomFor (Nat.lt_of_succ_lt hu) ?_))
  refine wpAny_bind (I.type.here (wpAny_bind (hb.here ?_)))
  split
  · rename_i q
    have e : PySem.W.subIn K tb (.ref C) = some false := by
      rcases Bool.or_eq_true_iff.mp hn with e | e
      · rw [beq_iff_eq.mp e] at q; simp at q
      · exact beq_iff_eq.mp e
    refine wpAny_bind ((PySem.W.looks_subIn X e).here ?_)
    simp only [Bool.false_eq_true, if_false]
    refine wpAny_bind (wpAny_mono one (fun r s' z => ?_) fun _ _ e => e)
    obtain ⟨v, rfl, hq⟩ := z
    exact wpAny_pure hq
  · refine wpAny_bind (wpAny_pure ?_)
    simp only [Bool.false_eq_true, if_false]
    refine wpAny_bind (wpAny_mono one (fun r s' z => ?_) fun _ _ e => e)
    obtain ⟨v, rfl, hq⟩ := z
    exact wpAny_pure hq
end
end TL
set_option Elab.async false
set_option linter.all false
set_option maxRecDepth 100000
set_option autoImplicit false
set_option maxHeartbeats 4000000
/-! TL9: instances over trees: fields, properties, making, own operators, isinstance, methods. -/
namespace TL
open PySem PySem.Spec PyProof.Rows L2

/-! ### the callee runs -/
section
variable {X : Cx} {k : Nat} {f : Addr} {R : Spec} {pins : List (Addr × Obj)} {σ : L2.St} {H : Hp} {s : Shared} {Q : VK} {us ws : List Value} {vs zs : List V} {ks : List Str}
theorem runG (F : FnG X.prog X.w X.K X.mg X.base k f ks R) (hr : Room k X.A) (gd : X.A.guards = some []) (I : Inv X pins σ H s) (r : Vals vs us) (rz : Vals zs ws) (lz : zs.length = ks.length) (h : spT R (vs ++ zs) H Q E0) :
    wpAny (model X.prog X.w) X.A (call (.ref f) us (ks.zip ws)) (EP X pins σ Q) X.xe s := by
  refine wpAny_call (codeAny_mono (F.run X.A X.stack s H us ws vs zs Q hr gd I.env0 r rz lz h) fun rr s' hq => ?_)
  cases rr with
  | error e => exact False.elim hq
  | ok fl =>
    cases fl with
    | ret u => exact I.after hq
    | next => exact False.elim hq
    | brk => exact False.elim hq
    | cont => exact False.elim hq
/-- .. one level down -/
theorem runG1 (F : FnG X.prog X.w X.K X.mg X.base k f [] R) (hr : Room (k + 1) X.A) (gd : X.A.guards = some []) (I : Inv X pins σ H s) (r : Vals vs us) (h : spT R vs H Q E0) :
    wpAny (model X.prog X.w) X.A.in1 (call (.ref f) us) (EP X pins σ Q) X.xe s := by
  refine wpAny_call (codeAny_mono (F.run X.A.in1 X.stack s H us [] vs [] Q hr.in1 gd I.env0.in1 r .nil rfl (by rw [List.append_nil]; exact h)) fun rr s' hq => ?_)
  cases rr with
  | error e => exact False.elim hq
  | ok fl =>
    cases fl with
    | ret u => exact I.after hq
    | next => exact False.elim hq
    | brk => exact False.elim hq
    | cont => exact False.elim hq
end

/-! ### what is asked of a class -/
structure ClsO (K : PySem.W.Frag) (C : Addr) : Prop where
  cl : Cls K C
  ca : PySem.W.findIn K (.ref C) "__class__" = some (some (.builtin "object.__class__"))
  cn : PySem.W.specialIn K (.builtin "object.__class__") "__get__" = some (some (.builtin "getset_descriptor.__get__"))
  ct : PySem.W.takesIn K (.builtin "object.__class__") = some true
  cm : PySem.W.mroIn K C (.type "object") = some true
  sf : PySem.W.selfFirst K C = true
/-- the class of data, as isinstance asks it -/
inductive TyD (K : PySem.W.Frag) : D → Value → Prop where
  | non : TyD K .non (.type "NoneType")
  | bl (b : Bool) : TyD K (.bl b) (.type "bool")
  | int (i : Int) : TyD K (.int i) (.type "int")
  | str (x : Str) : TyD K (.str x) (.type "str")
  | lst (xs : List D) : TyD K (.lst xs) (.type "list")
  | tup (xs : List D) : TyD K (.tup xs) (.type "tuple")
  | ins {C : Addr} (h : ClsO K C) (ns : List Str) (ds : List D) : TyD K (.ins C ns ds) (.ref C)
theorem TyD.x {K : PySem.W.Frag} {M : Addr → Prop} {H : Hp} {d : D} {t : Value} {v : V} (h : TyD K d t) (r : Rep M H d v) : TyX K H v t := by
  cases h with
  | non => rw [show v = V.non from r]; exact .base .non
  | bl b => rw [show v = V.bl b from r]; exact .base (.bl b)
  | int i => rw [show v = V.int i from r]; exact .base (.int i)
  | str x => rw [show v = V.str x from r]; exact .base (.str x)
  | lst xs => obtain ⟨p, vs, rfl, _, h, _⟩ := r; exact .base (.lst h)
  | tup xs =>
    obtain ⟨p, vs, rfl, _, h, _⟩ := r
    rcases h with h | ⟨o, h⟩
    · exact .base (.tup h)
    · exact .fTuple h
  | ins c ns ds => obtain ⟨p, dx, vs, rfl, _, h, _⟩ := r; exact .base (.ins h c.cl c.ca c.cn c.ct c.cm)
section
variable {X : Cx} {a b c e o : Expr} {es : List Expr} {δ δ1 δ2 : TL.Env} {x y z d : D} {ds xs ys : List D} {ns : List Str} {pos p apos : Pos} {k : Nat} {nm fl : Str} {C f : Addr} {R : Spec} {bo : Bool}
theorem ca_isi {cv : V} {t u : Value} (hx : TyD X.K x t) (hc : ClsV cv u) (hk : PySem.W.kitOne X.K t u = some bo) : CaT (rIsi X.K) [x, .vl cv] (.bl bo) := fun M W H us Q g r q => by
  obtain ⟨v, w, e, h, h2⟩ := reps2 r
  exact ⟨v, cv, t, u, bo, by rw [e, show w = cv from h2], hc, hx.x h, hk, q _ H (fun _ _ e => e) rfl⟩
/-- a name of the module, of the built-ins, as a value -/
theorem tr_glob {v : V} {u : Value} (hm : X.mg nm = some u) (r : RelV v u) (hg : Gl X nm := by rfl) (hdb : (nm == ("__debug__" : Str)) = false := by decide) : TR X (.Name nm pos) δ (.vl v) δ := tr_c (pe_glob hg hm r hdb) fun _ _ => rfl
theorem tr_gint {i : Int} {t : Tok} (hm : X.mg nm = some (.int i t)) (hg : Gl X nm := by rfl) (hdb : (nm == ("__debug__" : Str)) = false := by decide) : TR X (.Name nm pos) δ (.int i) δ := tr_c (pe_glob (v := .int i) hg hm ⟨t, rfl⟩ hdb) fun _ _ => rfl
theorem tr_gstr {i : Str} {t : Tok} (hm : X.mg nm = some (.str i t)) (hg : Gl X nm := by rfl) (hdb : (nm == ("__debug__" : Str)) = false := by decide) : TR X (.Name nm pos) δ (.str i) δ := tr_c (pe_glob (v := .str i) hg hm ⟨t, rfl⟩ hdb) fun _ _ => rfl
theorem tr_blt {v : V} {u : Value} (hm : X.mg nm = none) (hv : bootBuiltins nm = some u) (r : RelV v u) (hg : Gl X nm := by rfl) (hn : nm ≠ "__name__" := by decide) (hdb : (nm == ("__debug__" : Str)) = false := by decide) : TR X (.Name nm pos) δ (.vl v) δ :=
  tr_c (pe_bltn hg hm hv r hn hdb) fun _ _ => rfl

/-! ### fields -/
theorem look_zip {M : Addr → Prop} {H : Hp} : ∀ {ns : List Str} {ds : List D} {vs : List V} {fl : Str} {d : D}, Reps M H ds vs → (ns.zip ds).lookup fl = some d → ∃ v, (ns.zip vs).lookup fl = some v ∧ Rep M H d v
  | [], _, _, _, _, _, h => by simp at h
  | _ :: _, [], _, _, _, _, h => by simp at h
  | n :: ns, d0 :: ds, _, fl, d, ⟨v, r, e, r1, r2⟩, h => by
    subst e
    rw [List.zip_cons_cons, List.lookup_cons] at h
    rw [List.zip_cons_cons, List.lookup_cons]
    by_cases q : (fl == n) = true
    · rw [q] at h ⊢
      cases h
      exact ⟨v, rfl, r1⟩
    · rw [Bool.not_eq_true] at q
      rw [q] at h ⊢
      exact look_zip r2 h
theorem look_zipN {M : Addr → Prop} {H : Hp} : ∀ {ns : List Str} {ds : List D} {vs : List V} {fl : Str}, Reps M H ds vs → (ns.zip ds).lookup fl = none → (ns.zip vs).lookup fl = none
  | [], _, _, _, _, _ => by simp
  | _ :: _, [], _, _, r, _ => by rw [show _ = [] from r]; simp
  | n :: ns, d0 :: ds, _, fl, ⟨v, r, e, r1, r2⟩, h => by
    subst e
    rw [List.zip_cons_cons, List.lookup_cons] at h
    rw [List.zip_cons_cons, List.lookup_cons]
    by_cases q : (fl == n) = true
    · rw [q] at h; cases h
    · rw [Bool.not_eq_true] at q
      rw [q] at h ⊢
      exact look_zipN r2 h
theorem tr_fld (c : Cls X.K C) (na : NoAttr X.K C fl) (he : TR X e δ (.ins C ns ds) δ1) (hl : (ns.zip ds).lookup fl = some d) (hb : attributeBase e fl X.env (eval e X.env) = eval e X.env := by rfl) : TR X (.Attribute e fl pos) δ d δ1 := fun M W σ H Q g E q =>
  wE_of (pe_fld pe_w hb) (he M W σ H _ g E fun v H1 s1 ⟨p, dx, vs, ev, m, hp, r⟩ => by
    obtain ⟨u, hu, ru⟩ := look_zip r hl
    exact ⟨p, C, dx, _, u, ev, hp, c, na, hu, q u H1 s1 ru⟩)
/-- self.f, self being made -/
theorem tr_fldO {n : Nat} (c : Cls X.K C) (na : NoAttr X.K C fl) (h : δ[n]? = some (some (.own (.ins C ns ds)))) (hl : (ns.zip ds).lookup fl = some d) (hN : X.N[n]? = some nm := by rfl)
    (hv : Vis X.env.scope nm := by first | exact Or.inl rfl | exact Or.inr (Or.inl rfl) | exact Or.inr (Or.inr rfl)) (hdb : (nm == ("__debug__" : Str)) = false := by decide) (hcd : (nm == ("__classdict__" : Str)) = false := by decide)
    (hb : attributeBase (.Name nm p) fl X.env (eval (.Name nm p) X.env) = eval (.Name nm p) X.env := by rfl) : TR X (.Attribute (.Name nm p) fl pos) δ d δ := fun M W σ H Q g E q => by
  obtain ⟨a, ho, hs, hw, ha, dx, vs, rfl, hle, r⟩ := E.getO h
  obtain ⟨u, hu, ru⟩ := look_zip r hl
  exact wE_of (pe_fld (pe_var hN hv hdb hcd) hb) ⟨_, hs, a, C, dx, _, u, rfl, ha, c, na, hu, q u H (Stp.refl g E) ru⟩
/-- a field more, or another value of one -/
def putN (fl : Str) (ns : List Str) : List Str := if fl ∈ ns then ns else ns ++ [fl]
def putD (fl : Str) (d : D) : List Str → List D → List D
  | [], _ => [d]
  | n :: ns, x :: ds => if n = fl then d :: ds else x :: putD fl d ns ds
  | _ :: _, [] => [d]
theorem putF_zip {M : Addr → Prop} {H : Hp} {fl : Str} {d : D} {v : V} (rd : Rep M H d v) : ∀ {ns : List Str} {ds : List D} {vs : List V}, ns.length = ds.length → Reps M H ds vs → ∃ vs', putF fl v (ns.zip vs) = (putN fl ns).zip vs' ∧ Reps M H (putD fl d ns ds) vs'
  | [], [], _, _, r => by
    have r : _ = [] := r
    subst r
    exact ⟨[v], by simp [putF, putN], v, [], rfl, rd, rfl⟩
  | [], _ :: _, _, hl, _ => by simp at hl
  | _ :: _, [], _, hl, _ => by simp at hl
  | n :: ns, x :: ds, _, hl, ⟨u, r, e, r1, r2⟩ => by
    subst e
    by_cases h : n = fl
    · subst h
      refine ⟨v :: r, ?_, ?_⟩
      · simp [putF, putN]
      · show Reps M H (if n = n then d :: ds else _) (v :: r)
        rw [if_pos rfl]
        exact ⟨v, r, rfl, rd, r2⟩
    · obtain ⟨vs', e1, e2⟩ := putF_zip rd (ns := ns) (ds := ds) (by simpa using hl) r2
      refine ⟨u :: vs', ?_, ?_⟩
      · have h' : ¬ fl = n := fun z => h z.symm
        show (if n = fl then _ else (n, u) :: putF fl v (ns.zip r)) = _
        rw [if_neg h, e1]
        unfold putN
        by_cases hm : fl ∈ ns
        · rw [if_pos hm, if_pos (List.mem_cons_of_mem _ hm)]; rfl
        · rw [if_neg hm, if_neg (by simp [h', hm])]; rfl
      · show Reps M H (if n = fl then _ else x :: putD fl d ns ds) (u :: vs')
        rw [if_neg h]
        exact ⟨u, vs', rfl, r1, e2⟩
theorem putN_len {fl : Str} {d : D} : ∀ {ns : List Str} {ds : List D}, ns.length = ds.length → (putN fl ns).length = (putD fl d ns ds).length
  | [], [], _ => by simp [putN, putD]
  | [], _ :: _, h => by simp at h
  | _ :: _, [], h => by simp at h
  | n :: ns, x :: ds, h => by
    have ih := putN_len (fl := fl) (d := d) (ns := ns) (ds := ds) (by simpa using h)
    by_cases hn : n = fl
    · subst hn; simp [putN, putD] at h ⊢; exact h
    · have h' : ¬ fl = n := fun z => hn z.symm
      unfold putN at ih ⊢
      show _ = (if n = fl then d :: ds else x :: putD fl d ns ds).length
      rw [if_neg hn]
      by_cases hm : fl ∈ ns
      · rw [if_pos hm] at ih; rw [if_pos (List.mem_cons_of_mem _ hm)]; simp [ih]
      · rw [if_neg hm] at ih; rw [if_neg (by simp [h', hm])]; simp at ih ⊢; omega
/-- self.f = e, self being made -/
theorem ts_fldO {n : Nat} {spos : Pos} (c : Cls X.K C) (na : NoAttr X.K C fl) (h : TR X e δ d δ1) (sh : Sh δ δ1) (ho : δ1[n]? = some (some (.own (.ins C ns ds)))) (hl : ns.length < 100) (hN : X.N[n]? = some nm := by rfl)
    (hv : Vis X.env.scope nm := by first | exact Or.inl rfl | exact Or.inr (Or.inl rfl) | exact Or.inr (Or.inr rfl)) (hdb : (nm == ("__debug__" : Str)) = false := by decide) (hcd : (nm == ("__classdict__" : Str)) = false := by decide)
    (hs : swapsWith e (some (.Attribute (.Name nm p) fl pos)) spos.line X.env = pure false := by rfl) : TS X (.Assign [.Attribute (.Name nm p) fl pos] e spos) δ (.nx (δ1.set n (some (.own (.ins C (putN fl ns) (putD fl d ns ds)))))) := fun M W σ H Dn g E q =>
  wS_of (ps_fld (pe_var hN hv hdb hcd) pe_w hs) (h M W σ H _ g E fun v H1 s1 r1 => by
    obtain ⟨a, ob, hp, hW, hh, dx, vs, rfl, hle, r⟩ := s1.env.getO ho
    refine ⟨_, hp, a, C, dx, _, rfl, hh, c, na, ?_, q M W σ _ ?_⟩
    · rw [List.length_zip]; omega
    obtain ⟨vs', e1, e2⟩ := putF_zip (fl := fl) r1 hle r
    rw [e1]
    refine ⟨Gr.refl, s1.xt.trans (Xt.put hW), s1.good.put, s1.env.put s1.good.wm ho hp hW ⟨dx, vs', rfl, putN_len hle, e2⟩, fun l zs z => ?_⟩
    obtain ⟨ys, z1⟩ := sh l zs z
    by_cases hl : n = l
    · subst hl
      exact ⟨_, by rw [List.getElem?_set_self (List.getElem?_eq_some_iff.mp ho).1], rfl⟩
    · exact ⟨ys, by rw [List.getElem?_set_ne hl]; exact z1, rfl⟩)

/-! ### properties that hand out a field -/
structure PropF (P : Program) (w : World) (K : PySem.W.Frag) (mg : Str → Option Value) (base : Heap) (C : Addr) (fl fi : Str) : Prop where
  ex : ∃ (p g : Addr) (fd : FuncData), PropOf K C fl p g ∧ FnOk P w K mg base CX0 1 g fd ["self"] (getSp C fi) ∧ Binds K fd ["self"] []
theorem tr_prop {fi : Str} (c : Cls X.K C) (pf : PropF X.prog X.w X.K X.mg X.base C fl fi) (hr : Room 2 X.A) (he : TR X e δ (.ins C ns ds) δ1) (hl : (ns.zip ds).lookup fi = some d) (hb : attributeBase e fl X.env (eval e X.env) = eval e X.env := by rfl) : TR X (.Attribute e fl pos) δ d δ1 := fun M W σ H Q g E q => by
  obtain ⟨p, gt, fd, hp, F, hB⟩ := pf.ex
  refine wE_of (pe_prop (dvs := []) (E := E0) pe_w c hp F hr hB .nil (fun _ _ _ _ _ _ _ z => z.elim) hb) (he M W σ H _ g E fun v H1 s1 ⟨p, dx, vs, ev, m, hp, r⟩ => ?_)
  obtain ⟨u, hu, ru⟩ := look_zip r hl
  exact ⟨p, dx, _, ev, hp, p, dx, _, u, rfl, hp, hu, q u H1 s1 ru⟩

/-! ### C(e, ..) -/
structure MkG (P : Program) (w : World) (K : PySem.W.Frag) (mg : Str → Option Value) (base : Heap) (x : Str) (C : Addr) (k : Nat) (ks : List Str) (R : Spec) : Prop where
  ex : ∃ f : Addr, Mk K C f ∧ FnG P w K mg base k f ks R ∧ mg x = some (.ref C)
theorem made_ok {pins : List (Addr × Obj)} {σ : L2.St} {H : Hp} {s : Shared} {Q : VK} {us ws : List Value} {vs zs : List V} {ks : List Str} (Mx : Mk X.K C f) (F : FnG X.prog X.w X.K X.mg X.base k f ks R) (hr : Room (k + 1) X.A) (gd : X.A.guards = some []) (I : Inv X pins σ H s) (rv : Vals vs us) (rz : Vals zs ws) (lz : zs.length = ks.length)
    (h : ∀ x dx, H x = none → H dx = none → dx ≠ x → spT R (V.ref x :: (vs ++ zs)) (upd (upd H dx (.own x)) x (.ins C dx [])) (fun v H2 => v = .non ∧ Q (.ref x) H2) E0) :
    wpAny (model X.prog X.w) X.A (call (.ref C) us (ks.zip ws)) (EP X pins σ Q) X.xe s := by
  have hq := h (s.heap.objs.size + 1) s.heap.objs.size (I.hok.fresh (Nat.le_succ _)) (I.hok.fresh (Nat.le_refl _)) (Nat.ne_of_lt (Nat.lt_succ_self _))
  have I2 := Inv.made (C := C) I
  have gd2 : (X.A.under (.builtin "type.__call__" ⟨.ref C :: us, ks.zip ws⟩)).guards = some [] := by
    first | exact gd | (simpa [Around.under, Code.guards, Code.isGuard, pushGuards, guardIds] using gd)
  refine wpAny_call (make_map (f := f) I.kIn Mx.makes Mx.init (beq_iff_eq.mp Mx.fn) (codeAny_mono (F.run _ X.stack _ _ (Value.ref (s.heap.objs.size + 1) :: us) ws (V.ref (s.heap.objs.size + 1) :: vs) zs _ (hr.make C us (ks.zip ws)) gd2 (I2.env0.make C us (ks.zip ws)) (.cons rfl rv) rz lz hq) fun r s' hq' => ?_))
  cases r with
  | error e => exact False.elim hq'
  | ok fl =>
    cases fl with
    | ret u =>
      obtain ⟨v, H', I3, rv', ev, q3⟩ := I2.after hq'
      subst ev
      exact ⟨rv', ⟨V.ref (s.heap.objs.size + 1), H', I3, rfl, q3⟩⟩
    | next => exact False.elim hq'
    | brk => exact False.elim hq'
    | cont => exact False.elim hq'
/-- what a new instance is, over trees -/
theorem make_tree {M W : Addr → Prop} {σ : L2.St} {H H1 : Hp} {Q : VK} {vs : List V} (g : Good M W H) (s1 : Stp M W σ δ1 H H1) (r1 : Reps M H1 ds vs) (hR : R (.own (.ins C [] []) :: ds.map S.im) (.im .non) (.own (.ins C ns ys) :: ds.map S.im)) (q : ∀ v H', Stp M W σ δ1 H H' → Rep M H' (.ins C ns ys) v → Q v H')
    {x dx : Addr} (hx : H1 x = none) (hd : H1 dx = none) (hne : dx ≠ x) : spT R (V.ref x :: vs) (upd (upd H1 dx (.own x)) x (.ins C dx [])) (fun v H2 => v = .non ∧ Q (.ref x) H2) E0 := by
  have hx1 : (upd H1 dx (.own x)) x = none := by rw [upd_ne (fun z => hne z.symm)]; exact hx
  have ex1 : ∀ a o, H1 a = some o → (upd (upd H1 dx (.own x)) x (.ins C dx [])) a = some o := fun a o h => ext_new hx1 a o (ext_new hd a o h)
  have nM : ¬ M x := s1.good.notM hx
  have nW : ¬ W x := fun w => nM (g.wm x w)
  have gr : ∀ a, Mp M x a → M a ∨ H1 a = none := mp_gr hx
  refine ⟨Mp M x, fun a => a = x, _, _, _, hR, ⟨fun a z => .inr z, fun a m z => ?_⟩, envR_own (xs := .ins C [] []) upd_same ⟨dx, [], rfl, rfl, rfl⟩ (Reps.ex (Xt.of ex1) ds (Reps.gr gr ds r1)), fun v H2 xt g2 E2 rr => ⟨rr, ?_⟩⟩
  · rcases m with m | m
    · have := (s1.good.ext ex1).mt a m
      exact this z
    · rw [m, upd_same] at z; cases z
  obtain ⟨u, hu, p2, h2, rfl, _, hp2, dx2, vs2, rfl, hle2, r2⟩ := E2.at_ 0 (.own (.ins C ns ys)) rfl
  have : p2 = x := by simpa using hu.symm
  subst this
  have fx : ∀ a o, H1 a = some o → H2 a = some o := fun a o h => xt a o (fun z => by rw [z, hx] at h; cases h) (ex1 a o h)
  exact q _ H2 (s1.ext fx) ⟨p2, dx2, vs2, rfl, nM, hp2, Reps.anti (fun _ m => .inl m) ys r2⟩
theorem tr_make (G : MkG X.prog X.w X.K X.mg X.base nm C k [] R) (hr : Room (k + 1) X.A) (gd : X.A.guards = some []) (ha : TA X (e :: es) δ ds δ1) (hR : R (.own (.ins C [] []) :: ds.map S.im) (.im .non) (.own (.ins C ns ys) :: ds.map S.im)) (hg : Gl X nm := by rfl)
    (hdb : (nm == ("__debug__" : Str)) = false := by decide) (he : starEach (e :: es) X.env = (false, eval e X.env) :: starEach es X.env := by rfl) (hpl : (backTo pos (starEach es X.env)).any (·.1) = false := by rfl) :
    TR X (.Call (.Name nm p) (e :: es) [] pos) δ (.ins C ns ys) δ1 := fun M W σ H Q g E q => by
  obtain ⟨f, Mx, F, hm⟩ := G.ex
  refine wE_of (t := fun σ H Q => wA X (e :: es) σ H fun vs H1 => ∀ x dx, H1 x = none → H1 dx = none → dx ≠ x → spT R (V.ref x :: vs) (upd (upd H1 dx (.own x)) x (.ins C dx [])) (fun v H2 => v = .non ∧ Q (.ref x) H2) E0) ⟨fun pins s σ H Q I h => ?_⟩
    (ha M W σ H _ g E fun vs H1 s1 r1 x dx hx hd hne => make_tree g s1 r1 hR q hx hd hne)
  refine wpAny_Call_Name_kw (ld_glob I hg hm ?_ hdb)
  refine PySem.W.callWith_K (h₀ := X.base) I.ok.mod.kin Mx.kp (thn (h.run pos pins s I) fun us s1 ⟨vs, H1, I1, rv, q⟩ => ⟨I1.kIn, ?_⟩) he hpl
  exact made_ok (ws := []) (zs := []) Mx F hr gd I1 rv .nil rfl (by simpa using q)

/-! ### own operators -/
structure OwnF (P : Program) (w : World) (K : PySem.W.Frag) (mg : Str → Option Value) (base : Heap) (C : Addr) (nm : Str) (k : Nat) (R : Spec) : Prop where
  ex : ∃ f : Addr, PySem.W.findIn K (.ref C) nm = some (some (.ref f)) ∧ PySem.W.isFn K (.ref f) = true ∧ FnG P w K mg base k f [] R
/-- the answer of a call over trees -/
theorem sp_args {M W : Addr → Prop} {H : Hp} {us : List V} {Q : VK} (g : Good M W H) (r : Reps M H ds us) (hR : R (ds.map S.im) (.im d) (ds.map S.im)) (k : ∀ w H', (∀ a o, H a = some o → H' a = some o) → Rep M H' d w → Q w H') : spT R us H Q E0 :=
  ⟨M, fun _ => False, _, _, _, hR, good0 g, envR_args r, fun v H2 xt g2 _ rr => k v H2 (fun a o h => xt a o (fun z => z) h) rr⟩
def rOwn2 (C : Addr) (ty : V → Hp → Prop) (R : Spec) : R2 := fun x y H Q => ∃ a dx fs, x = .ref a ∧ H a = some (.ins C dx fs) ∧ ty y H ∧ spT R [x, y] H Q E0
/-- a op b, both of the class C -/
theorem op_ownC {op : Operator} (c : ClsO X.K C) (G : OwnF X.prog X.w X.K X.mg X.base C (PySem.dunder op.info.2) k R) (hr : Room k X.A) (gd : X.A.guards = some []) :
    OpR X (binaryOp op) (rOwn2 C (fun y H => ∃ b dy fs, y = .ref b ∧ H b = some (.ins C dy fs)) R) := by
  intro pins s σ H x y v u Q I rx ry h
  obtain ⟨a, dx, fs, rfl, ha, ⟨b, dy, fs', rfl, hb⟩, hsp⟩ := h
  cases rx
  cases ry
  obtain ⟨f, hs, hf, F⟩ := G.ex
  obtain ⟨mA, J, _⟩ := ins_get I.hok ha
  obtain ⟨mB, J', _⟩ := ins_get I.hok hb
  obtain ⟨od, J, _⟩ := J.look
  obtain ⟨od', J', _⟩ := J'.look
  obtain ⟨m, hF⟩ := I.fr
  refine PySem.W.binop_K hF I.ok.mod.kin J J'.type c.sf hs hf (wpAny_mono (runG (ks := []) (ws := []) (zs := []) (vs := [V.ref a, V.ref b]) F hr gd I (.cons rfl (.cons rfl .nil)) .nil rfl hsp) (fun r s' hq => ?_) fun _ _ z => z)
  exact SlX.cmpback (z := hq.choose) hq.choose_spec.choose_spec.2.1 hq
/-- a op b, b an int -/
theorem op_ownI {op : Operator} {fo ro rc : Option Value} (c : ClsO X.K C) (G : OwnF X.prog X.w X.K X.mg X.base C (PySem.dunder op.info.2) k R) (hr : Room k X.A) (gd : X.A.guards = some [])
    (hrr : PySem.W.findIn X.K (.ref C) (dunderR op.info.2) = some none) (h1 : PySem.W.findIn X.K (.type "int") (PySem.dunder op.info.2) = some fo) (h2 : PySem.W.findIn X.K (.type "int") (dunderR op.info.2) = some ro) (hsub : PySem.W.subIn X.K (.type "int") (.ref C) = some false) :
    OpR X (binaryOp op) (rOwn2 C (fun y _ => ∃ i, y = .int i) R) := by
  intro pins s σ H x y v u Q I rx ry h
  obtain ⟨a, dx, fs, rfl, ha, ⟨i, rfl⟩, hsp⟩ := h
  cases rx
  obtain ⟨t, rfl⟩ := ry
  obtain ⟨f, hs, hf, F⟩ := G.ex
  obtain ⟨mA, J, _⟩ := ins_get I.hok ha
  obtain ⟨od, J, _⟩ := J.look
  obtain ⟨m, hF⟩ := I.fr
  refine PySem.W.ksp_binT hF I.ok.mod.kin J rfl c.sf hs hf hrr (.inl rfl) h1 h2 hsub (wpAny_mono (runG (ks := []) (ws := []) (zs := []) (vs := [V.ref a, V.int i]) F hr gd I (.cons rfl (.cons ⟨t, rfl⟩ .nil)) .nil rfl hsp) (fun r s' hq => ?_) fun _ _ z => z)
  exact SlX.cmpback (z := hq.choose) hq.choose_spec.choose_spec.2.1 hq
theorem ot_ownC {ns' : List Str} (hR : R [.im (.ins C ns xs), .im (.ins C ns' ys)] (.im d) [.im (.ins C ns xs), .im (.ins C ns' ys)]) : OpT (rOwn2 C (fun y H => ∃ b dy fs, y = .ref b ∧ H b = some (.ins C dy fs)) R) (.ins C ns xs) (.ins C ns' ys) d := fun M W H u v Q g ru rv k => by
  obtain ⟨a, dx, vs, ea, ma, ha, ra⟩ := id ru
  obtain ⟨b, dy, vs', eb, mb, hb, rb⟩ := id rv
  exact ⟨a, dx, _, ea, ha, ⟨b, dy, _, eb, hb⟩, sp_args (ds := [_, _]) g ⟨u, [v], rfl, ru, v, [], rfl, rv, rfl⟩ hR k⟩
theorem ot_ownI {i : Int} (hR : R [.im (.ins C ns xs), .im (.int i)] (.im d) [.im (.ins C ns xs), .im (.int i)]) : OpT (rOwn2 C (fun y _ => ∃ i, y = .int i) R) (.ins C ns xs) (.int i) d := fun M W H u v Q g ru rv k => by
  obtain ⟨a, dx, vs, ea, ma, ha, ra⟩ := id ru
  exact ⟨a, dx, _, ea, ha, ⟨i, rv⟩, sp_args (ds := [_, _]) g ⟨u, [v], rfl, ru, v, [], rfl, rv, rfl⟩ hR k⟩
/-- -a -/
theorem un_own (G : OwnF X.prog X.w X.K X.mg X.base C "__neg__" k R) (hr : Room k X.A) (gd : X.A.guards = some []) : UnR X (unaryOp .USub) (fun x H Q => ∃ a dx fs, x = .ref a ∧ H a = some (.ins C dx fs) ∧ spT R [x] H Q E0) := by
  intro pins s σ H x v Q I rx h
  obtain ⟨a, dx, fs, rfl, ha, hsp⟩ := h
  cases rx
  obtain ⟨f, hs, hf, F⟩ := G.ex
  obtain ⟨mA, J, _⟩ := ins_get I.hok ha
  obtain ⟨od, J, _⟩ := J.look
  obtain ⟨m, hF⟩ := I.fr
  exact PySem.W.ksp_neg hF I.ok.mod.kin J hs hf (runG (ks := []) (ws := []) (zs := []) (vs := [V.ref a]) F hr gd I (.cons rfl .nil) .nil rfl hsp)
theorem ut_own (hR : R [.im (.ins C ns xs)] (.im d) [.im (.ins C ns xs)]) : UnT (fun x H Q => ∃ a dx fs, x = .ref a ∧ H a = some (.ins C dx fs) ∧ spT R [x] H Q E0) (.ins C ns xs) d := fun M W H u Q g ru k => by
  obtain ⟨a, dx, vs, ea, ma, ha, ra⟩ := id ru
  exact ⟨a, dx, _, ea, ha, sp_args (ds := [_]) g ⟨u, [], rfl, ru, rfl⟩ hR k⟩

/-! == and != by an own __eq__; the right one has any class that does not come first -/
/-- what stands right of ==: its class is told -/
inductive TyR (K : PySem.W.Frag) (H : Hp) : V → Value → Prop where
  | mk {y : V} {t : Value} (h : TyX K H y t) : TyR K H y t
theorem looks_ty {pins : List (Addr × Obj)} {σ : L2.St} {H : Hp} {s : Shared} {y : V} {u t : Value} (I : Inv X pins σ H s) (ry : RelV y u) (h : TyX X.K H y t) : PySem.W.Looks (model X.prog X.w) s.heap (typeOf u) t := by
  obtain ⟨P, kx, hp, _⟩ := kit_of I ry h
  exact kx.ty _ _ I.kIn hp
def rOwnE (K : PySem.W.Frag) (C : Addr) (neg : Bool) (R : Spec) : R2 := fun x y H Q => ∃ a dx fs t, x = .ref a ∧ H a = some (.ins C dx fs) ∧ TyX K H y t ∧ PySem.W.notFirst K C t = true ∧ spT R [x, y] H (fun v H' => ∃ k, v = .bl k ∧ Q (.bl (if neg then !k else k)) H') E0
theorem op_ownEq (G : OwnF X.prog X.w X.K X.mg X.base C "__eq__" k R) (hr : Room k X.A) (gd : X.A.guards = some []) : OpR X (compareOp .Eq) (rOwnE X.K C false R) := by
  intro pins s σ H x y v u Q I rx ry h
  obtain ⟨a, dx, fs, t, rfl, ha, hy, hn, hsp⟩ := h
  cases rx
  obtain ⟨f, hs, hf, F⟩ := G.ex
  obtain ⟨mA, J, _⟩ := ins_get I.hok ha
  obtain ⟨od, J, _⟩ := J.look
  obtain ⟨m, hF⟩ := I.fr
  refine PySem.W.cmp_K (op := .Eq) hr.units0 hF I.ok.mod.kin J (looks_ty I ry hy) hn hs hf (wpAny_mono (runG (ks := []) (ws := []) (zs := []) (vs := [V.ref a, y]) F hr gd I (.cons rfl (.cons ry .nil)) .nil rfl hsp) (fun r s' hq => ?_) fun _ _ z => z)
  obtain ⟨z, H', I', rz, kk, ez, hq⟩ := hq
  subst ez
  cases rz
  exact ⟨.bl kk, H', I', rfl, hq⟩
theorem op_ownNe (c : ClsO X.K C) (hne : PySem.W.findIn X.K (.ref C) "__ne__" = some (some (.builtin "object.__ne__"))) (G : OwnF X.prog X.w X.K X.mg X.base C "__eq__" k R) (hr : Room (k + 1) X.A) (gd : X.A.guards = some []) : OpR X (compareOp .NotEq) (rOwnE X.K C true R) := by
  intro pins s σ H x y v u Q I rx ry h
  obtain ⟨a, dx, fs, t, rfl, ha, hy, hn, hsp⟩ := h
  cases rx
  obtain ⟨f, hs, hf, F⟩ := G.ex
  obtain ⟨mA, J, _⟩ := ins_get I.hok ha
  obtain ⟨od, J, _⟩ := J.look
  obtain ⟨m, hF⟩ := I.fr
  refine ne_own (by have := hr.units; omega) hF I.ok.mod.kin J (looks_ty I ry hy) hn c.cm hne hs hf (wpAny_mono (runG1 (vs := [V.ref a, y]) F hr gd I (.cons rfl (.cons ry .nil)) hsp) (fun r s' hq => ?_) fun _ _ z => z)
  obtain ⟨z, H', I', rz, kk, ez, hq⟩ := hq
  subst ez
  cases rz
  exact ⟨kk, rfl, .bl (!kk), H', I', rfl, hq⟩
theorem ot_ownE {neg kk : Bool} {t : Value} (hy : TyD X.K y t) (hn : PySem.W.notFirst X.K C t = true) (hR : R [.im (.ins C ns xs), .im y] (.im (.bl kk)) [.im (.ins C ns xs), .im y]) : OpT (rOwnE X.K C neg R) (.ins C ns xs) y (.bl (if neg then !kk else kk)) := fun M W H u v Q g ru rv k => by
  obtain ⟨a, dx, vs, ea, ma, ha, ra⟩ := id ru
  refine ⟨a, dx, _, t, ea, ha, hy.x rv, hn, sp_args (ds := [_, _]) (d := .bl kk) g ⟨u, [v], rfl, ru, v, [], rfl, rv, rfl⟩ hR fun w H' ex rw' => ⟨kk, rw', k _ H' ex rfl⟩⟩
end
end TL
set_option Elab.async false
set_option linter.all false
set_option maxRecDepth 100000
set_option autoImplicit false
set_option maxHeartbeats 4000000
/-! TL10: defaults, keywords, methods. -/
namespace TL
open PySem PyProof.Rows L2

section
variable {M W : Addr → Prop} {H : Hp}
theorem env_app {vs us : List V} {ss : List S} {dd : List D} (E : EnvR M W H (vs.map some) (ss.map some)) (r : Reps M H dd us) : EnvR M W H ((vs ++ us).map some) ((ss ++ dd.map S.im).map some) := by
  have hvl : vs.length = ss.length := by have := E.len; simpa using this
  have low : ∀ (i : Nat) (s : S), (ss ++ dd.map S.im)[i]? = some s → i < ss.length → ss[i]? = some s := fun i s h hi => by rw [List.getElem?_append_left hi] at h; exact h
  have high : ∀ (i : Nat) (s : S), (ss ++ dd.map S.im)[i]? = some s → ¬ i < ss.length → ∃ d, dd[i - ss.length]? = some d ∧ s = .im d := fun i s h hi => by
    rw [List.getElem?_append_right (by omega), List.getElem?_map] at h
    cases hd : dd[i - ss.length]? with
    | none => rw [hd] at h; cases h
    | some d => rw [hd] at h; cases h; exact ⟨d, rfl, rfl⟩
  have own : ∀ (i : Nat) (o : OC), ((ss ++ dd.map S.im).map some)[i]? = some (some (.own o)) → i < ss.length ∧ (ss.map some)[i]? = some (some (.own o)) := fun i o h => by
    rw [get_map_some] at h
    by_cases hi : i < ss.length
    · exact ⟨hi, get_map_some.mpr (low i _ h hi)⟩
    · obtain ⟨d, _, e⟩ := high i _ h hi
      cases e
  refine ⟨by simp [hvl, r.len], fun i s h => ?_, fun i j p xs ys h1 h2 h3 h4 => ?_⟩
  · rw [get_map_some] at h
    by_cases hi : i < ss.length
    · obtain ⟨v, a, b⟩ := E.at_ i s (get_map_some.mpr (low i s h hi))
      rw [get_map_some] at a
      exact ⟨v, get_map_some.mpr (by rw [List.getElem?_append_left (by omega)]; exact a), b⟩
    · obtain ⟨d, hd, rfl⟩ := high i s h hi
      obtain ⟨v, a, b⟩ := r.get hd
      exact ⟨v, get_map_some.mpr (by rw [List.getElem?_append_right (by omega), hvl]; exact a), b⟩
  · obtain ⟨l1, q1⟩ := own i xs h1
    obtain ⟨l2, q2⟩ := own j ys h2
    rw [get_map_some, List.getElem?_append_left (by omega)] at h3 h4
    exact E.ap i j p xs ys q1 q2 (get_map_some.mpr h3) (get_map_some.mpr h4)
theorem env_unapp {vs us : List V} {ss : List S} {dd : List D} (hl : vs.length = ss.length) (E : EnvR M W H ((vs ++ us).map some) ((ss ++ dd.map S.im).map some)) : EnvR M W H (vs.map some) (ss.map some) := by
  have up : ∀ (i : Nat) (s : S), (ss.map some)[i]? = some (some s) → i < ss.length ∧ ((ss ++ dd.map S.im).map some)[i]? = some (some s) := fun i s h => by
    rw [get_map_some] at h
    have hi := (List.getElem?_eq_some_iff.mp h).1
    exact ⟨hi, get_map_some.mpr (by rw [List.getElem?_append_left hi]; exact h)⟩
  refine ⟨by simp [hl], fun i s h => ?_, fun i j p xs ys h1 h2 h3 h4 => ?_⟩
  · obtain ⟨hi, h'⟩ := up i s h
    obtain ⟨v, a, b⟩ := E.at_ i s h'
    rw [get_map_some, List.getElem?_append_left (by omega)] at a
    exact ⟨v, get_map_some.mpr a, b⟩
  · obtain ⟨l1, q1⟩ := up i _ h1
    obtain ⟨l2, q2⟩ := up j _ h2
    rw [get_map_some] at h3 h4
    exact E.ap i j p xs ys q1 q2 (get_map_some.mpr (by rw [List.getElem?_append_left (by omega)]; exact h3)) (get_map_some.mpr (by rw [List.getElem?_append_left (by omega)]; exact h4))
end
section
variable {P : Program} {w : World} {K : PySem.W.Frag} {mg : Str → Option Value} {base : Heap} {k : Nat} {f : Addr} {fd : FuncData} {ps : List Str} {R : Spec}
/-- the promise where the last parameters have their defaults -/
def RDef (n : Nat) (dd : List D) (R : Spec) : Spec := fun ss r ss' => ss.length = n ∧ ss'.length = n ∧ R (ss ++ dd.map S.im) r (ss' ++ dd.map S.im)
theorem FnK.posD {n : Nat} {dd : List D} {dvs : List V} {ds : List Value} (F : FnK P w K mg base k f fd ps R) (b : Binds K fd ps ds) (hd : Vals dvs ds) (hdd : ∀ M H, Reps M H dd dvs) (hn : n + dd.length = ps.length) : FnG P w K mg base k f [] (RDef n dd R) := by
  refine ⟨fun A outer s H us ws vs zs Q hr hg e0 rv rz lz h => ?_⟩
  have : zs = [] := List.length_eq_zero_iff.mp lz
  subst this
  rw [List.append_nil] at h
  obtain ⟨M, W, ss, ss', r, ⟨l1, l2, hR⟩, g, Ev, q⟩ := h
  have hk : K.In s.heap := e0.mod.kin.keeps fun b o e => (e0.bs b o e).1
  have hvl : vs.length = n := by have := Ev.len; simp at this; omega
  have hdl : dvs.length = dd.length := (hdd M H).len
  have hb := b s us hk (by rw [List.length_append, ← rv.length, ← hd.length]; omega)
  refine F.run A outer s H ⟨us, []⟩ (us ++ ds) (vs ++ dvs) Q hr hg e0 hb (rv.append hd) (by rw [List.length_append]; omega) ⟨M, W, _, _, r, hR, g, env_app Ev (hdd M H), fun v H' xt g' E' rr => q v H' xt g' (env_unapp (by omega) E') rr⟩
/-- keywords in the parameters' order -/
theorem FnK.kwO {n : Nat} {ks : List Str} (F : FnK P w K mg base k f fd ps R) (hl : ∀ ss r ss', R ss r ss' → ss.length = ps.length) (hn : n + ks.length = ps.length)
    (hb : ∀ (s : Shared) (us ws : List Value), K.In s.heap → us.length = n → ws.length = ks.length → BindsTo s fd ⟨us, ks.zip ws⟩ (ps.zip (us ++ ws))) : FnG P w K mg base k f ks R := by
  refine ⟨fun A outer s H us ws vs zs Q hr hg e0 rv rz lz h => ?_⟩
  have hk : K.In s.heap := e0.mod.kin.keeps fun b o e => (e0.bs b o e).1
  have hvl : (vs ++ zs).length = ps.length := by
    obtain ⟨M, W, ss, ss', r, hR, g, Ev, q⟩ := id h
    have h1 := hl _ _ _ hR
    have h2 := Ev.len
    simp at h2 ⊢
    omega
  rw [List.length_append] at hvl
  exact F.run A outer s H ⟨us, ks.zip ws⟩ (us ++ ws) (vs ++ zs) Q hr hg e0 (hb s us ws hk (by rw [← rv.length]; omega) (by rw [← rz.length]; exact lz)) (rv.append rz) (by rw [List.length_append]; exact hvl) h
end

/-! ### keywords, methods -/
structure WK (X : Cx) (kws : List Keyword) (σ : L2.St) (H : Hp) (Q : List V → Hp → Prop) : Prop where
  run : ∀ (pos : Pos) (pins : List (Addr × Obj)) (s : Shared), Inv X pins σ H s → wpAny (model X.prog X.w) X.A (evalAll ((backToKw pos (keywordEach kws X.env)).map (·.2))) (AP X pins σ Q) X.xe s
abbrev wK (X : Cx) (kws : List Keyword) : L2.TA := fun σ H Q => WK X kws σ H Q
def TK (X : Cx) (kws : List Keyword) (δ : TL.Env) (ds : List D) (δ' : TL.Env) : Prop := ∀ (M W : Addr → Prop) (σ : L2.St) (H : Hp) (Q : List V → Hp → Prop), Good M W H → EnvR M W H σ δ →
  (∀ vs H', Stp M W σ δ' H H' → Reps M H' ds vs → Q vs H') → wK X kws σ H Q
section
variable {X : Cx} {a b c e o : Expr} {es : List Expr} {kws : List Keyword} {δ δ1 δ2 : TL.Env} {x y z d : D} {ds ds2 xs ys : List D} {ns : List Str} {pos p apos kpos : Pos} {k : Nat} {nm m : Str} {C f : Addr} {R : Spec} {kn : Option Str}
theorem pk_w : PK X kws (wK X kws) := ⟨fun pos pins s _ _ _ I h => h.run pos pins s I⟩
theorem wK_of {t : L2.TA} (h : PK X kws t) {σ : L2.St} {H : Hp} {Q : List V → Hp → Prop} (q : t σ H Q) : wK X kws σ H Q := ⟨fun pos pins s I => h.run pos pins s σ H Q I q⟩
theorem tk_nil : TK X [] δ [] δ := fun M W σ H Q g E k => wK_of pk_nil (k [] H (Stp.refl g E) rfl)
theorem tk_cons (ha : TR X e δ x δ1) (hr : TK X kws δ1 ds δ2) : TK X (⟨kn, e, kpos⟩ :: kws) δ (x :: ds) δ2 := fun M W σ H Q g E k =>
  wK_of (pk_cons pe_w pk_w) (ha M W σ H _ g E fun u H1 s1 r1 => hr M W σ H1 _ s1.good s1.env fun vs H2 s2 r2 => k (u :: vs) H2 (s1.trans s2) ⟨u, vs, rfl, s2.rep r1, r2⟩)
/-- C(k = v, ..) -/
theorem tr_makeK {ks : List Str} (G : MkG X.prog X.w X.K X.mg X.base nm C k ks R) (hr : Room (k + 1) X.A) (gd : X.A.guards = some []) (ha : TK X kws δ ds δ1) (hR : R (.own (.ins C [] []) :: ds.map S.im) (.im .non) (.own (.ins C ns ys) :: ds.map S.im)) (hlk : ds.length = ks.length) (hg : Gl X nm := by rfl)
    (hall : (backToKw pos (keywordEach kws X.env)).all (·.1.isSome) = true := by rfl) (hks : (backToKw pos (keywordEach kws X.env)).filterMap (·.1) = ks := by rfl)
    (hdb : (nm == ("__debug__" : Str)) = false := by decide) (hpl : ((backTo pos (starEach [] X.env)).any (·.1) || (backToKw pos (keywordEach kws X.env)).any (·.1.isNone)) = false := by rfl) :
    TR X (.Call (.Name nm p) [] kws pos) δ (.ins C ns ys) δ1 := fun M W σ H Q g E q => by
  obtain ⟨f, Mx, F, hm⟩ := G.ex
  refine wE_of (t := fun σ H Q => wK X kws σ H fun vs H1 => vs.length = ks.length ∧ ∀ x dx, H1 x = none → H1 dx = none → dx ≠ x → spT R (V.ref x :: vs) (upd (upd H1 dx (.own x)) x (.ins C dx [])) (fun v H2 => v = .non ∧ Q (.ref x) H2) E0) ⟨fun pins s σ H Q I h => ?_⟩
    (ha M W σ H _ g E fun vs H1 s1 r1 => ⟨by rw [r1.len]; exact hlk, fun x dx hx hd hne => make_tree g s1 r1 hR q hx hd hne⟩)
  refine wpAny_Call_Name_kw (ld_glob I hg hm ?_ hdb)
  refine PySem.W.callWith_KW0 (h₀ := X.base) (first := []) I.ok.mod.kin Mx.kp hall (thn (h.run pos pins s I) fun us s1 ⟨vs, H1, I1, rv, lz, q⟩ => ⟨I1.kIn, ?_⟩) hpl
  rw [hks]
  exact made_ok (us := []) (vs := []) Mx F hr gd I1 .nil rv lz (by simpa using q)
/-! o.m(e, ..), o.m(k = v, ..) -/
structure MethF (P : Program) (w : World) (K : PySem.W.Frag) (mg : Str → Option Value) (base : Heap) (C : Addr) (m : Str) (k : Nat) (ks : List Str) (R : Spec) : Prop where
  ex : ∃ f : Addr, Meth K C m f ∧ FnG P w K mg base k f ks R
theorem tr_meth {pl : Sem Bool} (c : Cls X.K C) (G : MethF X.prog X.w X.K X.mg X.base C m k [] R) (hr : Room k X.A) (gd : X.A.guards = some []) (ho : TR X o δ (.ins C ns xs) δ1) (hno : (ns.zip xs).lookup m = none) (ha : TA X (e :: es) δ1 ds δ2)
    (hR : R (.im (.ins C ns xs) :: ds.map S.im) (.im d) (.im (.ins C ns xs) :: ds.map S.im))
    (hst : starEach (e :: es) X.env = (false, eval e X.env) :: starEach es X.env := by rfl) (hpl : (backTo pos (starEach es X.env)).any (·.1) = false := by rfl)
    (ht : eval (.Call (.Attribute o m apos) (e :: es) [] pos) X.env = (do
      let ov ← eval o X.env
      standAt apos.atName
      let (f, first) ← holding [ov] (getMethod ov m pl)
      callWith pos f first (backTo pos (starEach (e :: es) X.env)) (backToKw pos (keywordEach [] X.env))) := by rfl) :
    TR X (.Call (.Attribute o m apos) (e :: es) [] pos) δ d δ2 := fun M W σ H Q g E q => by
  obtain ⟨f, hm, F⟩ := G.ex
  refine wE_of (t := fun σ H Q => wE X o σ H fun v H1 => ∃ a dx fs, v = .ref a ∧ H1 a = some (.ins C dx fs) ∧ fs.lookup m = none ∧ wA X (e :: es) σ H1 fun vs H2 => spT R (V.ref a :: vs) H2 Q E0) ⟨fun pins s σ H Q I h => ?_⟩
    (ho M W σ H _ g E fun v H1 s1 r1 => by
      obtain ⟨a, dx, vs, ev, ma, hp, r⟩ := id r1
      refine ⟨a, dx, _, ev, hp, look_zipN r hno, ha M W σ H1 _ s1.good s1.env fun us H2 s2 r2 => ?_⟩
      exact sp_args (ds := _ :: ds) s2.good ⟨_, us, rfl, by rw [← ev]; exact s2.rep r1, r2⟩ hR fun w' H3 ex rw' => q w' H3 ((s1.trans s2).ext ex) rw')
  refine PySem.W.methodCall_KW (pl := pl) (thn (h.run pins s I) fun u s1 ⟨x, H1, I1, rx, a, dx, fs, ex, ea, l, q⟩ => ?_) ht
  subst ex
  obtain rfl : u = Value.ref a := rx
  refine getmeth_ok I1 ea c hm l ?_
  refine PySem.W.callWith_K (first := [.ref a]) (h₀ := X.base) I.ok.mod.kin hm.kp (thn (q.run pos pins s1 I1) fun us s2 ⟨vs, H2, I2, r, q2⟩ => ⟨I2.kIn, ?_⟩) hst hpl
  exact runG (ks := []) (ws := []) (zs := []) (us := .ref a :: us) (vs := .ref a :: vs) F hr gd I2 (.cons rfl r) .nil rfl (by simpa using q2)
theorem tr_methK {pl : Sem Bool} {ks : List Str} (c : Cls X.K C) (G : MethF X.prog X.w X.K X.mg X.base C m k ks R) (hr : Room k X.A) (gd : X.A.guards = some []) (ho : TR X o δ (.ins C ns xs) δ1) (hno : (ns.zip xs).lookup m = none) (ha : TK X kws δ1 ds δ2) (hlk : ds.length = ks.length)
    (hR : R (.im (.ins C ns xs) :: ds.map S.im) (.im d) (.im (.ins C ns xs) :: ds.map S.im))
    (hall : (backToKw pos (keywordEach kws X.env)).all (·.1.isSome) = true := by rfl) (hks : (backToKw pos (keywordEach kws X.env)).filterMap (·.1) = ks := by rfl)
    (hpl : ((backTo pos (starEach [] X.env)).any (·.1) || (backToKw pos (keywordEach kws X.env)).any (·.1.isNone)) = false := by rfl)
    (ht : eval (.Call (.Attribute o m apos) [] kws pos) X.env = (do
      let ov ← eval o X.env
      standAt apos.atName
      let (f, first) ← holding [ov] (getMethod ov m pl)
      callWith pos f first (backTo pos (starEach [] X.env)) (backToKw pos (keywordEach kws X.env))) := by rfl) :
    TR X (.Call (.Attribute o m apos) [] kws pos) δ d δ2 := fun M W σ H Q g E q => by
  obtain ⟨f, hm, F⟩ := G.ex
  refine wE_of (t := fun σ H Q => wE X o σ H fun v H1 => ∃ a dx fs, v = .ref a ∧ H1 a = some (.ins C dx fs) ∧ fs.lookup m = none ∧ wK X kws σ H1 fun vs H2 => vs.length = ks.length ∧ spT R (V.ref a :: vs) H2 Q E0) ⟨fun pins s σ H Q I h => ?_⟩
    (ho M W σ H _ g E fun v H1 s1 r1 => by
      obtain ⟨a, dx, vs, ev, ma, hp, r⟩ := id r1
      refine ⟨a, dx, _, ev, hp, look_zipN r hno, ha M W σ H1 _ s1.good s1.env fun us H2 s2 r2 => ⟨by rw [r2.len]; exact hlk, ?_⟩⟩
      exact sp_args (ds := _ :: ds) s2.good ⟨_, us, rfl, by rw [← ev]; exact s2.rep r1, r2⟩ hR fun w' H3 ex rw' => q w' H3 ((s1.trans s2).ext ex) rw')
  refine PySem.W.methodCall_KW (pl := pl) (thn (h.run pins s I) fun u s1 ⟨x, H1, I1, rx, a, dx, fs, ex, ea, l, q⟩ => ?_) ht
  subst ex
  obtain rfl : u = Value.ref a := rx
  refine getmeth_ok I1 ea c hm l ?_
  refine PySem.W.callWith_KW0 (first := [.ref a]) (h₀ := X.base) I.ok.mod.kin hm.kp hall (thn (q.run pos pins s1 I1) fun us s2 ⟨vs, H2, I2, r, lz, q2⟩ => ⟨I2.kIn, ?_⟩) hpl
  rw [hks]
  exact runG (us := [.ref a]) (vs := [.ref a]) F hr gd I2 (.cons rfl .nil) r lz q2
end
end TL
set_option Elab.async false
set_option linter.all false
set_option maxRecDepth 100000
set_option autoImplicit false
set_option maxHeartbeats 1000000
/-! TL11: displays of constants. -/
namespace TL
open PySem L2
/-- a constant's data -/
def cD : Expr → D
  | .Constant (.int i) _ _ => .int i
  | .Constant (.str x) _ _ => .str x
  | .Constant (.bool b) _ _ => .bl b
  | _ => .non
def isC : Expr → Bool
  | .Constant (.int _) _ _ => true
  | .Constant (.str _) _ _ => true
  | .Constant (.bool _) _ _ => true
  | .Constant .none _ _ => true
  | _ => false
theorem ta_consts {X : Cx} {δ : TL.Env} : ∀ {es : List Expr}, es.all isC = true → TA X es δ (es.map cD) δ
  | [], _ => ta_nil
  | e :: es, h => by
    rw [List.all_cons, Bool.and_eq_true] at h
    obtain ⟨h1, h2⟩ := h
    have ih := ta_consts (X := X) (δ := δ) h2
    cases e with
    | Constant c j p =>
      cases c with
      | int i => exact ta_cons tr_int ih rfl
      | str x => exact ta_cons tr_str ih rfl
      | bool b => exact ta_cons tr_bl ih rfl
      | none => exact ta_cons tr_non ih rfl
      | _ => cases h1
    | _ => cases h1
end TL
set_option Elab.async false
set_option linter.all false
set_option maxRecDepth 100000
set_option autoImplicit false
set_option maxHeartbeats 1000000
/-! TL12: three names at once. -/
namespace TL
open PySem L2
section
variable {X : Cx} {a b c e : Expr} {δ δ1 δ2 δ3 : TL.Env} {pos p : Pos}
/-- a, b, c = e1, e2, e3 -/
theorem ts_par3 {i j l : Nat} {x y z : Str} {px py pz pt : Pos} {kt k2 : Nat} {pt2 : Pos} {d1 d2 d3 : D} (h : TA X [a, b, c] δ [d1, d2, d3] δ1) (sh : Sh δ δ1) (hno : ∀ xs, δ1[i]? ≠ some (some (.own xs))) (hno2 : ∀ xs, δ1[j]? ≠ some (some (.own xs))) (hno3 : ∀ xs, δ1[l]? ≠ some (some (.own xs))) (hN : X.N.Nodup)
    (hij : i ≠ j := by decide) (hil : i ≠ l := by decide) (hjl : j ≠ l := by decide) (hc : X.calm = true := by rfl) (hi : X.N[i]? = some x := by rfl) (hj : X.N[j]? = some y := by rfl) (hl : X.N[l]? = some z := by rfl) (hx : X.env.scope.names.lookup x = some .local := by rfl) (hy : X.env.scope.names.lookup y = some .local := by rfl) (hz : X.env.scope.names.lookup z = some .local := by rfl)
    (hw : swappedStores [.Tuple [.Name x px, .Name y py, .Name z pz] kt pt] (.Tuple [a, b, c] k2 pt2) X.env = pure (some [x, y, z]) := by rfl)
    (hs : swapsWithSole [.Tuple [.Name x px, .Name y py, .Name z pz] kt pt] (.Tuple [a, b, c] k2 pt2) pos.line X.env = pure false := by rfl) :
    TS X (.Assign [.Tuple [.Name x px, .Name y py, .Name z pz] kt pt] (.Tuple [a, b, c] k2 pt2) pos) δ (.nx (((δ1.set i (some (.im d1))).set j (some (.im d2))).set l (some (.im d3)))) := fun M W σ H Dn g E q =>
  wS_of (ps_par3 hc hN hi hj hl hij hil hjl hx hy hz pa_w hw hs) (h M W σ H _ g E fun vs H1 s1 r1 => by
    obtain ⟨v, r, rfl, r1, w, r', rfl, r2, u, r'', rfl, r3, e⟩ := r1
    have e : r'' = [] := e
    subst e
    refine ⟨v, w, u, rfl, q M W _ H1 ?_⟩
    have A := aft_set (i := i) s1 sh hno r1
    refine ⟨Gr.refl, s1.xt, s1.good, (A.env.set r2).set r3, fun m xs z => ?_⟩
    obtain ⟨ys, z1, z2⟩ := A.kp m xs z
    obtain ⟨ys', z3⟩ := sh m xs z
    have hm : j ≠ m := fun e => by subst e; exact hno2 ys' z3
    have hm3 : l ≠ m := fun e => by subst e; exact hno3 ys' z3
    exact ⟨ys, by rw [List.getElem?_set_ne hm3, List.getElem?_set_ne hm]; exact z1, by rw [List.getElem?_set_ne hm3, List.getElem?_set_ne hm]; exact z2⟩)
end
end TL
set_option Elab.async false
set_option linter.all false
set_option maxRecDepth 100000
set_option autoImplicit false
set_option maxHeartbeats 1000000
/-! TL13: name = [elt for nm in it] on one line (the machine stores by another road). -/
namespace TL
open PySem L2
section
variable {X : Cx} {elt it : Expr} {scope : Scope} {δ δ1 : TL.Env} {xs ys : List D} {i j : Nat} {nm y : Str} {pos np py spos : Pos}
theorem ts_setLc (δs : Nat → TL.Env) (ys : List D) (hit : TR X it δ (.lst xs) (δs 0)) (hn : ∀ k, (δs k)[i]? = some none) (hl : ys.length = xs.length) (hb : xs.length ≤ 100000)
    (he : ∀ (k : Nat) (x y : D), xs[k]? = some x → ys[k]? = some y → TRb X scope elt ((δs k).set i (some (.im x))) y ((δs (k + 1)).set i (some (.im x))))
    (hN : X.N.Nodup) (ok : BlkOk X.N X.env.scope scope [(nm, i)])
    (hg : ∀ (s : Shared) (H : Hp) (C : Addr) (cl : List (Str × Addr)) (fp : List Addr), PG (X.blk s H scope (compEnvC scope cl C X.env) fp) (.Name nm np) (gName i))
    (sh : Sh δ (δs xs.length)) (hno : ∀ zs, (δs xs.length)[j]? ≠ some (some (.own zs))) (hc : X.calm = true := by rfl)
    (hs : ∀ x, foldedSetIterable it X.env x = pure x := by intro _; rfl) (hy : X.N[j]? = some y := by rfl) (hyl : X.env.scope.names.lookup y = some .local := by rfl) (hk : X.env.scope.kind = .function := by rfl) (hl2 : (py.line == pos.line) = true := by rfl)
    (ha : (scope.names.any fun (n, k) => n == y && (k == .local || k == .cell)) = false := by decide +kernel) :
    TS X (.Assign [.Name y py] (.ListComp elt [⟨.Name nm np, it, [], 0⟩] scope pos) spos) δ (.nx ((δs xs.length).set j (some (.im (.lst ys))))) := fun M W σ H Dn g E q => by
  refine wS_of (ps_setLc (own := [(nm, i)]) (g := gName i) (tt := tYes) hc hN hy hyl (sw_true hk hyl hl2 ha) (pi_list pe_w) ok hg (fun _ _ _ _ _ => pts_nil) pe_wb hs) (hit M W σ H _ g E fun v H1 s1 ⟨a, vs, ea, m, ha, ra⟩ => ⟨a, ea, ⟨vs, SqL.of ha⟩, fun Dl hD => ?_⟩)
  have e0 : [(nm, i)].map (·.2) = [i] := rfl
  rw [e0]
  have nad : a ≠ Dl := ne_of_none ha hD
  refine lc_list (xs := vs) (Lcw M W σ H1 Dl δs ys) (lcw_start s1.good s1.env hD) (fun k' H' _ p => ?_) (fun k' x H' hk p => ⟨?_, ?_⟩) (fun H' p => ?_)
  · exact SqL.of (p.st.xt a _ (fun w => m (g.wm a w)) ha)
  · show (((σ.set i none).set i (some x)).set i none) = σ.set i none
    rw [List.set_set, List.set_set]
  · show wEb X scope elt ((wipe σ [i]).set i (some x)) H' _
    obtain ⟨d, hd, rd⟩ := ra.get' hk
    have hk' : k' < xs.length := (List.getElem?_eq_some_iff.mp hd).1
    have hy : ys[k']? = some ys[k'] := List.getElem?_eq_getElem (by omega)
    exact lcw_turn s1.good hD p hn hy (by omega) (Rep.ex (Xt.mono (fun _ w => .inl (g.wm _ w)) p.st.xt) d (Rep.gr (mp_gr hD) d rd)) (he k' d _ hd hy)
  · rw [ra.len] at p
    exact lcw_end (Q := fun x H1 => Dn.nx (σ.set j (some x)) H1) g s1 hD p hl fun p' us H2 s2 n hp r2 => q M W _ H2 (aft_set (d := .lst ys) (s2.anti g.wm) sh hno ⟨p', us, rfl, fun m => g.mt p' m n, hp, Reps.anti (fun _ m => .inl m) ys r2⟩)
/-- name = [h x for x in ..] over a list g x -/
theorem ts_setLcm {α : Type} (qs : List α) (g h : α → D) (hit : TR X it δ (.lst (qs.map g)) δ1) (hn : δ1[i]? = some none) (hb : qs.length ≤ 100000)
    (he : ∀ q, q ∈ qs → TRb X scope elt (δ1.set i (some (.im (g q)))) (h q) (δ1.set i (some (.im (g q)))))
    (hN : X.N.Nodup) (ok : BlkOk X.N X.env.scope scope [(nm, i)])
    (hg : ∀ (s : Shared) (H : Hp) (C : Addr) (cl : List (Str × Addr)) (fp : List Addr), PG (X.blk s H scope (compEnvC scope cl C X.env) fp) (.Name nm np) (gName i))
    (sh : Sh δ δ1) (hno : ∀ zs, δ1[j]? ≠ some (some (.own zs))) (hc : X.calm = true := by rfl)
    (hs : ∀ x, foldedSetIterable it X.env x = pure x := by intro _; rfl) (hy : X.N[j]? = some y := by rfl) (hyl : X.env.scope.names.lookup y = some .local := by rfl) (hk : X.env.scope.kind = .function := by rfl) (hl2 : (py.line == pos.line) = true := by rfl)
    (ha : (scope.names.any fun (n, k) => n == y && (k == .local || k == .cell)) = false := by decide +kernel) :
    TS X (.Assign [.Name y py] (.ListComp elt [⟨.Name nm np, it, [], 0⟩] scope pos) spos) δ (.nx (δ1.set j (some (.im (.lst (qs.map h)))))) :=
  ts_setLc (i := i) (fun _ => δ1) (qs.map h) hit (fun _ => hn) (by simp) (by simpa using hb) (fun k x y hx hy => by
    rw [List.getElem?_map] at hx hy
    cases hz : qs[k]? with
    | none => rw [hz] at hx; cases hx
    | some z =>
      rw [hz] at hx hy
      cases hx
      cases hy
      exact he z (List.mem_of_getElem? hz)) hN ok hg sh hno hc hs hy hyl hk hl2 ha
end
end TL
set_option Elab.async false
set_option linter.all false
set_option maxRecDepth 100000
set_option autoImplicit false
set_option maxHeartbeats 1000000
/-! TL14: the law's end, for a def that keeps its promise over trees. -/
namespace TL
open PySem PySem.Spec PyProof.Rows L2
/-- the promise from the script alone -/
theorem spT_script {R : Spec} {K : PySem.W.Frag} {H : Hp} {a : Addr} {ns : List Int} (h : SqL K H a (ns.map V.int)) (hR : R [.im (.scr K a ns)] (.im (.bl true)) [.im (.scr K a ns)]) : spT R [.ref a] H (fun v _ => v = .bl true) E0 :=
  ⟨fun _ => False, fun _ => False, _, _, _, hR, ⟨fun _ z => z, fun _ z => z.elim⟩, envR_args (ds := [.scr K a ns]) ⟨.ref a, [], rfl, ⟨rfl, h.elim (fun z => .inl ⟨fun q => q, z⟩) .inr⟩, rfl⟩, fun v H' _ _ _ r => r⟩
/-- with a heap of which nothing but the script is told -/
theorem true_of {P : Program} {w : World} {K : PySem.W.Frag} {mg mb : Str → Option Value} {k : Nat} {fa a : Addr} {fd : FuncData} {x : Str} {R : Spec} {s : Shared} {vs : List Value} {ns : List Int} {H : Hp}
    (KX : K.In s.heap) (hns : s.heap.Ns mainGlobals mg) (hb : s.heap.Ns builtinsNs mb) (hbb : ∀ x : Str, x ≠ "__name__" → mb x = bootBuiltins x) (hlim : s.heap.NoLimit) (hg : s.gens = #[])
    (ha : s.heap.get? a = some { cls := .type "list", data := .seq vs.toArray }) (hr : Room k callerA)
    (F : ∀ base : Heap, K.In base → base.Ns mainGlobals mg → FnK P w K mg base k fa fd [x] R) (hbind : ∀ (s : Shared) (u : Value), BindsTo s fd ⟨[u], []⟩ [(x, u)])
    (hR : R [.im (.scr K a ns)] (.im (.bl true)) [.im (.scr K a ns)])
    (hO : Only H) (hS : SqL K H a (ns.map V.int)) (hok : HOk P w H s.heap) (hA : ∀ b, H b ≠ none → b = a) (hK : H a ≠ none → K.lookup a = none) :
    codeAny (model P w) callerA (.call (.ref fa) ⟨[.ref a], []⟩) (fun r s' => r = .ok (.ret (.bool true)) ∧ OldK s.heap s'.heap ∧ s'.os = s.os ∧ AllBare s'.gens) s := by
  have free : ∀ {b : Addr} {o : Obj}, s.heap.get? b = some o → (∀ l n, o.data ≠ .seq l n) → H b = none := fun {b o} e nd => by
    cases q : H b with
    | none => rfl
    | some u =>
      obtain rfl := hA b (by rw [q]; simp)
      rw [ha] at e
      cases e
      exact absurd rfl (nd _ _)
  have ns' : ∀ {b : Addr} {m : Str → Option Value}, s.heap.Ns b m → (hidT s.heap H).Ns b m := fun ⟨o, es, ep, e, d, r⟩ => ⟨o, es, ep, hidT_get e (free e (fun l n z => by rw [d] at z; cases z)), d, r⟩
  have kin : K.In (hidT s.heap H) := fun b o e => hidT_get (KX b o e) (by
    cases q : H b with
    | none => rfl
    | some u =>
      obtain rfl := hA b (by rw [q]; simp)
      rw [hK (by rw [q]; simp)] at e
      cases e)
  have md : Mod K mg (hidT s.heap H) := ⟨kin, ns' hns, ⟨mb, ns' hb, hbb⟩, let ⟨mc, h1, h2⟩ := hlim; ⟨mc, ns' h1, h2⟩⟩
  have e0 : Env0 P w K mg (hidT s.heap H) callerA [] s H := ⟨rfl, md, fun b o e => of_hidT e, Nat.le_of_eq (hidT_size _ _), trivial, fun b hb => absurd (show b ∈ ([] : List Addr) from hb) (by simp), hok, .of_eq hg⟩
  refine codeAny_mono ((F _ kin (ns' hns)).run callerA [] s H ⟨[.ref a], []⟩ [.ref a] [.ref a] _ hr rfl e0 (hbind s (.ref a)) (.cons rfl .nil) rfl (spT_script hS hR)) fun r s' h => ?_
  match r, h with
  | .ok (.ret u), h =>
    obtain ⟨v, H', os, bare, un, hok', r', q⟩ := h
    have q' : v = .bl true := q
    subst q'
    obtain rfl : u = Value.bool true := r'
    refine ⟨rfl, OldK.of_keep fun b o e => ?_, os, bare⟩
    rcases hO b with z | ⟨ob, xs, z⟩
    · exact un.keep b o e z (by intro y; exact absurd (show b ∈ ([] : List Addr) from y) (by simp)) (by simp)
    · obtain ⟨e1, _⟩ := hok b _ z
      obtain ⟨e2, _⟩ := hok' b _ (un.frzs b ob _ z)
      rw [e] at e1
      cases e1
      exact e2
  | .error e, h => exact h.elim
/-- the law's call -/
theorem law_true {P : Program} {w : World} {K : PySem.W.Frag} {mg mb : Str → Option Value} {k : Nat} {fa a : Addr} {fd : FuncData} {x : Str} {R : Spec} {s : Shared} {vs : List Value} {ns : List Int}
    (KX : K.In s.heap) (hns : s.heap.Ns mainGlobals mg) (hb : s.heap.Ns builtinsNs mb) (hbb : ∀ x : Str, x ≠ "__name__" → mb x = bootBuiltins x) (hlim : s.heap.NoLimit) (hg : s.gens = #[])
    (ha : s.heap.get? a = some { cls := .type "list", data := .seq vs.toArray }) (hi : IntsAre vs ns) (hl : ns.length ≤ sizeLine) (hr : Room k callerA)
    (F : ∀ base : Heap, K.In base → base.Ns mainGlobals mg → FnK P w K mg base k fa fd [x] R) (hbind : ∀ (s : Shared) (u : Value), BindsTo s fd ⟨[u], []⟩ [(x, u)])
    (hR : R [.im (.scr K a ns)] (.im (.bl true)) [.im (.scr K a ns)]) :
    codeAny (model P w) callerA (.call (.ref fa) ⟨[.ref a], []⟩) (fun r s' => r = .ok (.ret (.bool true)) ∧ OldK s.heap s'.heap ∧ s'.os = s.os ∧ AllBare s'.gens) s := by
  have rv := vals_ints hi
  cases hk : K.lookup a with
  | some o =>
    have e := KX a o hk
    rw [ha] at e
    cases e
    exact true_of (H := fun _ => none) KX hns hb hbb hlim hg ha hr F hbind hR (fun _ => .inl rfl) (.inr ⟨_, vs.toArray, _, hk, rfl, rfl, rfl, by rw [List.size_toArray, hi.length]; exact hl, by simpa using rv⟩) (fun b u z => by cases (show (none : Option HO) = some u from z)) (fun b z => absurd rfl z) fun z => absurd rfl z
  | none =>
    refine true_of (H := fun b => if b = a then some (.frz { cls := .type "list", data := .seq vs.toArray } (.lst (ns.map V.int))) else none) KX hns hb hbb hlim hg ha hr F hbind hR (fun b => ?_) (.inl (.inr ⟨_, if_pos rfl⟩)) (fun b u z => ?_) (fun b z => ?_) fun _ => hk
    · by_cases hb : b = a
      · exact .inr ⟨_, _, if_pos hb⟩
      · exact .inl (if_neg hb)
    · by_cases hb : b = a
      · subst hb
        cases (if_pos rfl).symm.trans z
        exact ⟨ha, by rw [List.length_map]; exact hl, vs, _, rv, ha⟩
      · cases (if_neg hb).symm.trans z
    · exact Decidable.byContradiction fun hb => z (if_neg hb)
/-- what k_head leaves -/
theorem walk_tree {l : PySem.W.OpenLaw} {n k : Nat} {q : Program} {loose : List Str} {XP : (Str → Option Value) → Heap → Prop} {YP : World → Heap → Prop} {d : DefRec} {K : Params → PySem.W.Frag} {R : PySem.W.Frag → Spec} {x : Str}
    (hn : l.most = some n) (hn2 : n ≤ sizeLine) (hdf : d.params.defaults = []) (hr : Room k callerA)
    (hY : ∀ (w : World) (h : Heap), YP w h → (K w.params).In h)
    (F : ∀ (w : World) (mg : Str → Option Value) (fa : Addr) (h : Heap), (K w.params).In h → h.Ns mainGlobals mg → mg d.name = some (.ref fa) →
      ∃ fd : FuncData, (∀ (s : Shared) (u : Value), BindsTo s fd ⟨[u], []⟩ [(x, u)]) ∧
        ∀ base : Heap, (K w.params).In base → base.Ns mainGlobals mg → FnK l.prog w (K w.params) mg base k fa fd [x] (R (K w.params)))
    (hR : ∀ (K : PySem.W.Frag) (a : Addr) (ns : List Int), ns.length ≤ n → R K [.im (.scr K a ns)] (.im (.bl true)) [.im (.scr K a ns)]) :
    PySem.W.WalkO q loose XP YP l.row.toRowW d [] (fun f vs => PySem.call f vs) := by
  refine Att.attach_call hn hdf fun w s₀ s₁ mg mb fa o pm cd doc a vs ns G Y ho hd hcd hmg hobj hints hlen hg => ?_
  have KX := hY w _ Y
  obtain ⟨fd, hb, hF⟩ := F w mg fa _ KX G.T.g hmg
  exact law_true KX G.T.g G.T.b G.T.builtins G.T.nolimit hg hobj hints (Nat.le_trans hlen hn2) hr hF hb (hR _ a ns hlen)
end TL
set_option Elab.async false
set_option linter.all false
set_option autoImplicit false
set_option maxHeartbeats 4000000
/-! MA: the plain mathematics of fractions in lowest terms, and of the purse. -/
namespace MA
theorem gcd_step {x y : Int} (hx : 0 ≤ x) (hy : 0 < y) : Int.gcd y (x % y) = Int.gcd x y := by
  obtain ⟨m, rfl⟩ := Int.eq_ofNat_of_zero_le hx
  obtain ⟨n, rfl⟩ := Int.eq_ofNat_of_zero_le (Int.le_of_lt hy)
  show Nat.gcd (Int.natAbs (n : Int)) (Int.natAbs ((m : Int) % (n : Int))) = Nat.gcd (Int.natAbs (m : Int)) (Int.natAbs (n : Int))
  rw [← Int.natCast_emod, Int.natAbs_natCast, Int.natAbs_natCast, Int.natAbs_natCast, Nat.gcd_comm n, ← Nat.gcd_rec, Nat.gcd_comm]
/-- the common divisor, with the sign of the bottom -/
def sh (t b : Int) : Int := if b > 0 then (Int.gcd t b : Int) else -(Int.gcd t b : Int)
def lN (t b : Int) : Int := t.fdiv (sh t b)
def lD (t b : Int) : Int := b.fdiv (sh t b)
theorem gcd_pos {t b : Int} (hb : b ≠ 0) : 0 < (Int.gcd t b : Int) := by
  have : Int.gcd t b ≠ 0 := fun h => hb (Int.gcd_eq_zero_iff.mp h).2
  omega
theorem sh_ne {t b : Int} (hb : b ≠ 0) : sh t b ≠ 0 := by
  have := gcd_pos (t := t) hb
  unfold sh
  split <;> omega
theorem sh_dvd_t (t b : Int) : sh t b ∣ t := by
  unfold sh
  split
  · exact Int.gcd_dvd_left ..
  · exact Int.neg_dvd.mpr (Int.gcd_dvd_left ..)
theorem sh_dvd_b (t b : Int) : sh t b ∣ b := by
  unfold sh
  split
  · exact Int.gcd_dvd_right ..
  · exact Int.neg_dvd.mpr (Int.gcd_dvd_right ..)
theorem lN_mul {t b : Int} : lN t b * sh t b = t := by
  unfold lN
  exact Int.fdiv_mul_cancel (sh_dvd_t t b)
theorem lD_mul {t b : Int} : lD t b * sh t b = b := by
  unfold lD
  exact Int.fdiv_mul_cancel (sh_dvd_b t b)
theorem lD_pos {t b : Int} (hb : b ≠ 0) : 0 < lD t b := by
  have h := lD_mul (t := t) (b := b)
  have hg := gcd_pos (t := t) hb
  unfold sh at h
  split at h
  · rename_i h0
    rcases Int.lt_trichotomy (lD t b) 0 with z | z | z
    · have : lD t b * (Int.gcd t b : Int) < 0 := Int.mul_neg_of_neg_of_pos z hg
      omega
    · rw [z] at h; omega
    · exact z
  · rename_i h0
    rcases Int.lt_trichotomy (lD t b) 0 with z | z | z
    · have : 0 < lD t b * -(Int.gcd t b : Int) := Int.mul_pos_of_neg_of_neg z (by omega)
      omega
    · rw [z] at h; omega
    · exact z
theorem l_cross {t b : Int} : lN t b * b = t * lD t b := by
  have h1 := lN_mul (t := t) (b := b)
  have h2 := lD_mul (t := t) (b := b)
  generalize sh t b = s at *
  rw [← h1, ← h2]
  grind
theorem natAbs_sh (t b : Int) : (sh t b).natAbs = Int.gcd t b := by
  unfold sh
  split <;> simp
theorem l_coprime {t b : Int} (hb : b ≠ 0) : Int.gcd (lN t b) (lD t b) = 1 := by
  have h1 := lN_mul (t := t) (b := b)
  have h2 := lD_mul (t := t) (b := b)
  have hg := gcd_pos (t := t) hb
  have : Int.gcd (lN t b * sh t b) (lD t b * sh t b) = Int.gcd (lN t b) (lD t b) * (sh t b).natAbs := Int.gcd_mul_right ..
  rw [h1, h2, natAbs_sh] at this
  have h3 : 0 < Int.gcd t b := by omega
  have h4 : 1 * Int.gcd t b = Int.gcd (lN t b) (lD t b) * Int.gcd t b := by rw [Nat.one_mul]; exact this
  exact (Nat.eq_of_mul_eq_mul_right h3 h4).symm
/-- fractions that are equal have one lowest form -/
theorem cop_uniq {n d m e : Int} (hd : 0 < d) (he : 0 < e) (h1 : Int.gcd n d = 1) (h2 : Int.gcd m e = 1) (h : n * e = m * d) : n = m ∧ d = e := by
  have a1 : d ∣ n * e := ⟨m, by rw [h]; exact Int.mul_comm ..⟩
  have a2 : e ∣ m * d := ⟨n, by rw [← h]; exact Int.mul_comm ..⟩
  have b1 : d ∣ e := by
    refine Int.natAbs_dvd_natAbs.mp (Nat.Coprime.dvd_of_dvd_mul_left (m := n.natAbs) ?_ ?_)
    · rw [Nat.coprime_comm]; exact h1
    · rw [← Int.natAbs_mul]; exact Int.natAbs_dvd_natAbs.mpr a1
  have b2 : e ∣ d := by
    refine Int.natAbs_dvd_natAbs.mp (Nat.Coprime.dvd_of_dvd_mul_left (m := m.natAbs) ?_ ?_)
    · rw [Nat.coprime_comm]; exact h2
    · rw [← Int.natAbs_mul]; exact Int.natAbs_dvd_natAbs.mpr a2
  have hde : d = e := Int.dvd_antisymm (Int.le_of_lt hd) (Int.le_of_lt he) b1 b2
  subst hde
  exact ⟨Int.eq_of_mul_eq_mul_right (Int.ne_of_gt hd) h, rfl⟩
theorem l_eq {t b u c : Int} (hb : b ≠ 0) (hc : c ≠ 0) (h : t * c = u * b) : lN t b = lN u c ∧ lD t b = lD u c := by
  refine cop_uniq (lD_pos hb) (lD_pos hc) (l_coprime hb) (l_coprime hc) ?_
  have h1 := lN_mul (t := t) (b := b)
  have h2 := lD_mul (t := t) (b := b)
  have h3 := lN_mul (t := u) (b := c)
  have h4 := lD_mul (t := u) (b := c)
  have hs := sh_ne (t := t) hb
  have hs' := sh_ne (t := u) hc
  generalize sh t b = s at *
  generalize sh u c = s' at *
  rw [← h1, ← h2, ← h3, ← h4] at h
  have : (lN t b * lD u c) * (s * s') = (lN u c * lD t b) * (s * s') := by grind
  exact Int.eq_of_mul_eq_mul_right (Int.mul_ne_zero hs hs') this
/-- what is in lowest terms stays -/
theorem l_self {n d : Int} (hd : 0 < d) (h : Int.gcd n d = 1) : lN n d = n ∧ lD n d = d := by
  have : sh n d = 1 := by unfold sh; rw [if_pos hd, h]; rfl
  unfold lN lD
  rw [this]
  simp
theorem l_int (n : Int) : lN n 1 = n ∧ lD n 1 = 1 := l_self (by decide) (by simp)
theorem fdiv_abs_le (a b : Int) (h : b ∣ a) : (a.fdiv b).natAbs ≤ a.natAbs := by
  by_cases hb : b = 0
  · subst hb; simp
  · have h1 := Int.fdiv_mul_cancel h
    have h2 : (a.fdiv b).natAbs * b.natAbs = a.natAbs := by rw [← Int.natAbs_mul, h1]
    have h3 : 1 ≤ b.natAbs := by omega
    calc (a.fdiv b).natAbs = (a.fdiv b).natAbs * 1 := by omega
      _ ≤ (a.fdiv b).natAbs * b.natAbs := Nat.mul_le_mul_left _ h3
      _ = a.natAbs := h2
theorem lN_le (t b : Int) : (lN t b).natAbs ≤ t.natAbs := fdiv_abs_le _ _ (sh_dvd_t t b)
theorem lD_le (t b : Int) : (lD t b).natAbs ≤ b.natAbs := fdiv_abs_le _ _ (sh_dvd_b t b)
theorem sh_le {t b : Int} (hb : b ≠ 0) : (sh t b).natAbs ≤ b.natAbs := by
  rw [natAbs_sh]
  exact Nat.le_of_dvd (by omega) (by have := Int.natAbs_dvd_natAbs.mpr (Int.gcd_dvd_right t b); simpa using this)
end MA
set_option Elab.async false
set_option linter.all false
set_option autoImplicit false
set_option maxHeartbeats 4000000
/-! PU: the purse, in plain Lean. -/
namespace PU
structure Pu where
  cells : List Int
  i : Int
  r : Int
  t : Int
def primes : List Int := [1000003, 1299709, 2750159, 3497861, 4256233, 5800079, 6700417, 7368787, 8460041, 9576901, 15485863]
def cs (p : Pu) : List Int := if p.cells = [] then [0] else p.cells
def ix (p : Pu) : Nat := (p.i % ((cs p).length : Int)).toNat
def cell (p : Pu) : Int := (cs p).getD (ix p) 0
def pr (t : Int) : Int := primes.getD (t % 11).toNat 1
def b1 (c t : Int) : Int := ((c + 1) * 48271 + (t + 1) * (t + 7) * 69621) % pr t
def b2 (c t : Int) : Int := (b1 c t ^ 3 + t * 40503) % 2147483647
def draw (p : Pu) (m : Int) : Int × Pu :=
  if 0 < p.r then (p.r % m, { p with r := p.r / m })
  else if (10 : Int) ^ 18 ≤ cell p then (cell p % m, { p with i := p.i + 1, r := cell p / m })
  else (b2 (cell p) p.t / 32 % m, { p with i := p.i + 1, t := p.t + 1 })
structure Ok (n : Nat) (p : Pu) : Prop where
  i0 : 0 ≤ p.i
  t0 : 0 ≤ p.t
  tn : p.t ≤ n
  c0 : ∀ c ∈ p.cells, 0 ≤ c
theorem cs_pos (p : Pu) : 0 < (cs p).length := by
  unfold cs
  split
  · decide
  · rename_i h; exact List.length_pos_iff.mpr h
theorem ix_lt (p : Pu) : ix p < (cs p).length := by
  have h := cs_pos p
  unfold ix
  have h1 := Int.emod_lt_of_pos p.i (b := ((cs p).length : Int)) (by omega)
  have h2 := Int.emod_nonneg p.i (b := ((cs p).length : Int)) (by omega)
  omega
theorem ix_eq (p : Pu) : ((ix p : Nat) : Int) = p.i % ((cs p).length : Int) := by
  have h := cs_pos p
  have h2 := Int.emod_nonneg p.i (b := ((cs p).length : Int)) (by omega)
  unfold ix
  omega
theorem cell_get (p : Pu) : (cs p)[ix p]? = some (cell p) := by
  have h := ix_lt p
  unfold cell
  rw [List.getD_eq_getElem?_getD, List.getElem?_eq_getElem h]
  rfl
theorem Ok.cell {n : Nat} {p : Pu} (h : Ok n p) : 0 ≤ cell p := by
  have := List.mem_of_getElem? (cell_get p)
  unfold cs at this
  split at this
  · simp at this; omega
  · exact h.c0 _ this
theorem pr_get {t : Int} (h : 0 ≤ t) : primes[(t % 11).toNat]? = some (pr t) := by
  have h1 := Int.emod_lt_of_pos t (b := 11) (by decide)
  have h2 := Int.emod_nonneg t (b := 11) (by decide)
  have hl : (t % 11).toNat < primes.length := by show _ < 11; omega
  unfold pr
  rw [List.getD_eq_getElem?_getD, List.getElem?_eq_getElem hl]
  rfl
theorem pr_pos {t : Int} (h : 0 ≤ t) : 0 < pr t ∧ pr t < 2 ^ 24 := by
  have hm := List.mem_of_getElem? (pr_get h)
  have : ∀ x ∈ primes, 0 < x ∧ x < 2 ^ 24 := by decide
  exact this _ hm
theorem b1_bd {c t : Int} (h : 0 ≤ t) : 0 ≤ b1 c t ∧ b1 c t < 2 ^ 24 := by
  have := pr_pos h
  unfold b1
  have h1 := Int.emod_nonneg ((c + 1) * 48271 + (t + 1) * (t + 7) * 69621) (b := pr t) (by omega)
  have h2 := Int.emod_lt_of_pos ((c + 1) * 48271 + (t + 1) * (t + 7) * 69621) (b := pr t) (by omega)
  omega
theorem b2_bd (c t : Int) : 0 ≤ b2 c t ∧ b2 c t < 2147483647 := by
  unfold b2
  have h1 := Int.emod_nonneg (b1 c t ^ 3 + t * 40503) (b := 2147483647) (by omega)
  have h2 := Int.emod_lt_of_pos (b1 c t ^ 3 + t * 40503) (b := 2147483647) (by omega)
  omega
theorem draw_ok {n : Nat} {p : Pu} {m : Int} (h : Ok n p) : Ok (n + 1) (draw p m).2 := by
  unfold draw
  have h1 := h.i0
  have h2 := h.t0
  have h3 := h.tn
  split
  · exact ⟨h1, h2, by show p.t ≤ _; omega, h.c0⟩
  · split
    · exact ⟨by show 0 ≤ p.i + 1; omega, h2, by show p.t ≤ _; omega, h.c0⟩
    · exact ⟨by show 0 ≤ p.i + 1; omega, by show 0 ≤ p.t + 1; omega, by show p.t + 1 ≤ _; omega, h.c0⟩
theorem draw_bd {p : Pu} {m : Int} (hm : 0 < m) : 0 ≤ (draw p m).1 ∧ (draw p m).1 < m := by
  unfold draw
  split
  · exact ⟨Int.emod_nonneg _ (by omega), Int.emod_lt_of_pos _ hm⟩
  · split
    · exact ⟨Int.emod_nonneg _ (by omega), Int.emod_lt_of_pos _ hm⟩
    · exact ⟨Int.emod_nonneg _ (by omega), Int.emod_lt_of_pos _ hm⟩
end PU
set_option Elab.async false
set_option linter.all false
set_option maxRecDepth 100000
set_option autoImplicit false
set_option maxHeartbeats 4000000
namespace K03
open PySem L2 TL
def top (i : Nat) : Stmt := PySem.Challenge.pw_matrixforms_k03_ratio_operators.main.body.getD i (.Pass ⟨0, 0, 0, 0⟩)
abbrev sIsInt : Stmt := top 6
abbrev sCommon : Stmt := top 7
section
variable {P : Program} {w : World} {K : PySem.W.Frag} {mg : Str → Option Value} {base : Heap}
/-- no built-in's name is taken by the module -/
structure Blt (mg : Str → Option Value) : Prop where
  isi : mg "isinstance" = none
  int : mg "int" = none
  bool : mg "bool" = none
  abs : mg "abs" = none
  len : mg "len" = none
  max : mg "max" = none
  min : mg "min" = none
  range : mg "range" = none
  all : mg "all" = none
  repr : mg "repr" = none
  str : mg "str" = none
/-! is_integer -/
def rIsInt (K : PySem.W.Frag) : TL.Spec := fun ss r ss' => ∃ d t b1 b2, ss = [.im d] ∧ TyD K d t ∧ PySem.W.kitOne K t (.type "int") = some b1 ∧ (b1 = true → PySem.W.kitOne K t (.type "bool") = some b2) ∧ r = .im (.bl (b1 && !b2)) ∧ ss' = ss
theorem scIsInt : FnScope ["value"] ["value"] (defScope sIsInt) := ⟨rfl, rfl, rfl, by decide +kernel, rfl, by decide +kernel, by decide +kernel⟩
theorem fin1 {d : D} {δ' : TL.Env} : FinA [.im d] δ' [.im d] := ⟨rfl, fun i s h => by
  cases i with
  | zero => cases h; rfl
  | succ i => simp at h⟩
theorem ok_isInt {f : Addr} {fd : FuncData} (F : Fun K "is_integer" "is_integer" sIsInt f fd) (B : Blt mg) : FnK P w K mg base 1 f fd ["value"] (rIsInt K) := by
  obtain ⟨oc, od, kV, doc, pm, an, cdv, ct, osl, rfl, lk, hcd⟩ := F.ex
  refine fnK_of lk hcd scIsInt (fun A outer s H ss r ss' hr hg hR hl => ?_)
  obtain ⟨d, t, b1, b2, rfl, ht, h1, h2, rfl, rfl⟩ := hR
  refine ⟨_, _, tb_stop (ts_ret (tr_and (tr_callB call_isi B.isi (by decide +kernel) (ta_cons (tr_var (i := 0) rfl) (ta_cons (tr_blt (v := .ty "int") B.int (by decide +kernel) rfl) ta_nil)) (ca_isi ht (.ty "int") h1))
    (fun hb => tr_one (tr_not (tr_callB call_isi B.isi (by decide +kernel) (ta_cons (tr_var (i := 0) rfl) (ta_cons (tr_blt (v := .ty "bool") B.bool (by decide +kernel) rfl) ta_nil)) (ca_isi ht (.ty "bool") (h2 hb)))))) Sh.refl), fin1, .inl rfl⟩
/-! common -/
def rCommon : TL.Spec := fun ss r ss' => ∃ a b : Int, ss = [.im (.int a), .im (.int b)] ∧ r = .im (.int (Int.gcd a b : Int)) ∧ ss' = ss
theorem scCommon : FnScope ["one", "two", "high", "low"] ["one", "two"] (defScope sCommon) := ⟨rfl, rfl, rfl, by decide +kernel, rfl, by decide +kernel, by decide +kernel⟩
theorem fin2 {d e : D} {δ' : TL.Env} : FinA [.im d, .im e] δ' [.im d, .im e] := ⟨rfl, fun i s h => by
  match i with
  | 0 => cases h; rfl
  | 1 => cases h; rfl
  | i + 2 => simp at h⟩
theorem abs_if (i : Int) : (if i < 0 then -i else i) = (i.natAbs : Int) := by split <;> omega
theorem ok_common {f : Addr} {fd : FuncData} (F : Fun K "common" "common" sCommon f fd) (B : Blt mg) : FnK P w K mg base 1 f fd ["one", "two"] rCommon := by
  obtain ⟨oc, od, kV, doc, pm, an, cdv, ct, osl, rfl, lk, hcd⟩ := F.ex
  refine fnK_of lk hcd scCommon (fun A outer s H ss r ss' hr hg hR hl => ?_)
  obtain ⟨a, b, rfl, rfl, rfl⟩ := hR
  let I : Int × Int → TL.Env := fun x => [some (.im (.int a)), some (.im (.int b)), some (.im (.int x.1)), some (.im (.int x.2))]
  refine ⟨_, _, tb_cons (ts_par (i := 2) (j := 3) (ta_cons (tr_callB call_abs B.abs (by decide +kernel) (ta_cons (tr_var (i := 0) rfl) ta_nil) ca_abs) (ta_cons (tr_callB call_abs B.abs (by decide +kernel) (ta_cons (tr_var (i := 1) rfl) ta_nil) ca_abs) ta_nil))
      Sh.refl (by intro _ h; cases h) (by intro _ h; cases h) scCommon.nd)
    (tb_cons (ts_while I (fun x => 0 ≤ x.1 ∧ 0 ≤ x.2 ∧ Int.gcd x.1 x.2 = Int.gcd a b) (fun x => x.2.toNat) ((a.natAbs : Int), (b.natAbs : Int)) ?_ ?_ (δ' := I ((Int.gcd a b : Int), 0)) ?_ PassesOwn.never)
    (tb_stop (ts_ret (tr_var (i := 2) rfl) Sh.refl))), fin2, .inl rfl⟩
  · show [_, _, some (TL.S.im (.int (if a < 0 then -a else a))), some (TL.S.im (.int (if b < 0 then -b else b)))] = _
    rw [abs_if, abs_if]
  · exact ⟨by simp, by simp, by simp [Int.gcd]⟩
  · rintro ⟨h, l⟩ ⟨h1, h2, h3⟩
    refine ⟨decide (0 < l), tt_gt (tr_var (i := 3) rfl) tr_int, fun hk => ?_, fun hk => ?_⟩
    · have hl : 0 < l := of_decide_eq_true hk
      refine ⟨(l, h % l), ⟨h2, Int.emod_nonneg _ (by omega), by rw [MA.gcd_step h1 hl]; exact h3⟩, ?_, tb_cons (ts_par (i := 2) (j := 3) (ta_cons (tr_var (i := 3) rfl) (ta_cons (tr_mod (tr_var (i := 2) rfl) (tr_var (i := 3) rfl) hl) ta_nil))
        Sh.refl (by intro _ h; cases h) (by intro _ h; cases h) scCommon.nd) tb_nil⟩
      show (h % l).toNat < l.toNat
      have := Int.emod_lt_of_pos h hl
      have := Int.emod_nonneg h (b := l) (by omega)
      omega
    · have hl : l = 0 := by
        have := of_decide_eq_false hk
        dsimp only at h2
        omega
      subst hl
      dsimp only at h1 h3
      have : (Int.gcd a b : Int) = h := by rw [← h3]; simp; omega
      rw [this]
end
end K03
set_option Elab.async false
set_option linter.all false
set_option maxRecDepth 100000
set_option autoImplicit false
set_option maxHeartbeats 4000000
namespace K03
open PySem L2 TL
abbrev cRatio : Stmt := top 8
abbrev sInit : Stmt := inClass cRatio 0
abbrev sTop : Stmt := inClass cRatio 1
abbrev sBottom : Stmt := inClass cRatio 2
abbrev sOver : Stmt := inClass cRatio 4
abbrev sAdd : Stmt := inClass cRatio 5
abbrev sSub : Stmt := inClass cRatio 6
abbrev sMul : Stmt := inClass cRatio 7
abbrev sNeg : Stmt := inClass cRatio 8
abbrev sEq : Stmt := inClass cRatio 9
abbrev sIsNum : Stmt := top 9
abbrev sAsRatio : Stmt := top 10
/-- bounds -/
def Bd (n : Nat) (i : Int) : Prop := i.natAbs < 2 ^ n
theorem Bd.log {n : Nat} {i : Int} (h : Bd n i) (hn : 0 < n) : i.natAbs.log2 < n := PySem.Flt.log2_lt_of hn h
theorem Bd.mono {n m : Nat} {i : Int} (h : Bd n i) (hn : n ≤ m) : Bd m i := Nat.lt_of_lt_of_le h (Nat.pow_le_pow_right (by decide) hn)
theorem Bd.mul {n m : Nat} {i j : Int} (h : Bd n i) (h' : Bd m j) : Bd (n + m) (i * j) := wide_lt h h'
theorem Bd.add {n : Nat} {i j : Int} (h : Bd n i) (h' : Bd n j) : Bd (n + 1) (i + j) := by
  unfold Bd at *
  have e : 2 ^ (n + 1) = 2 ^ n + 2 ^ n := by rw [Nat.pow_succ]; omega
  omega
theorem Bd.sub {n : Nat} {i j : Int} (h : Bd n i) (h' : Bd n j) : Bd (n + 1) (i - j) := by
  unfold Bd at *
  have e : 2 ^ (n + 1) = 2 ^ n + 2 ^ n := by rw [Nat.pow_succ]; omega
  omega
theorem Bd.neg {n : Nat} {i : Int} (h : Bd n i) : Bd n (-i) := by unfold Bd at *; omega
theorem Bd.le {n : Nat} {i j : Int} (h : Bd n i) (q : j.natAbs ≤ i.natAbs) : Bd n j := Nat.lt_of_le_of_lt q h
theorem Bd.cm {n m : Nat} {i j : Int} (h : Bd n i) (h' : Bd m j) (hn : 0 < n) (hm : 0 < m) (hs : n + m ≤ 1000000) : CMulW i j := wide_mul h h' hn hm hs
/-- a Ratio -/
def rat (C : Addr) (n d : Int) : D := .ins C ["numerator_here", "denominator_here"] [.int n, .int d]
section
variable {P : Program} {w : World} {K : PySem.W.Frag} {mg : Str → Option Value} {base : Heap}
/-- the class as the top has made it -/
structure CR (P : Program) (w : World) (K : PySem.W.Frag) (mg : Str → Option Value) (base : Heap) (C : Addr) : Prop where
  cls : ClsO K C
  nN : NoAttr K C "numerator_here"
  nD : NoAttr K C "denominator_here"
  gl : mg "Ratio" = some (.ref C)
  kInt : PySem.W.kitOne K (.ref C) (.type "int") = some false
  kOwn : PySem.W.kitOne K (.ref C) (.ref C) = some true
  kI : PySem.W.kitOne K (.type "int") (.ref C) = some false
  top : PropF P w K mg base C "top" "numerator_here"
  bot : PropF P w K mg base C "bottom" "denominator_here"
theorem isInt_int (K : PySem.W.Frag) (i : Int) : rIsInt K [.im (.int i)] (.im (.bl true)) [.im (.int i)] := ⟨_, _, true, false, rfl, .int i, kit_ty (by decide +kernel), fun _ => kit_ty (by decide +kernel), rfl, rfl⟩
/-! __init__ -/
def rInit (C : Addr) : TL.Spec := fun ss r ss' => ∃ t b : Int, ss = [.own (.ins C [] []), .im (.int t), .im (.int b)] ∧ b ≠ 0 ∧ Bd 8000 t ∧ Bd 8000 b ∧ r = .im .non ∧ ss' = [.own (.ins C ["numerator_here", "denominator_here"] [.int (MA.lN t b), .int (MA.lD t b)]), .im (.int t), .im (.int b)]
theorem scInit : FnScope ["self", "top", "bottom", "shared"] ["self", "top", "bottom"] (defScope sInit) := ⟨rfl, rfl, rfl, by decide +kernel, rfl, by decide +kernel, by decide +kernel⟩
theorem finO3 {o o' : OC} {d e : D} {δ' : TL.Env} (h : δ'[0]? = some (some (.own o'))) : FinA [.own o, .im d, .im e] δ' [.own o', .im d, .im e] := ⟨rfl, fun i s q => by
  match i with
  | 0 => cases q; exact ⟨o', rfl, h⟩
  | 1 => cases q; rfl
  | 2 => cases q; rfl
  | i + 3 => simp at q⟩
theorem ok_init {f C : Addr} {fd : FuncData} {dvs : List V} (F : FunD K "__init__" "Ratio.__init__" (defArgs sInit) (defBody sInit) (defScope sInit) dvs [] f fd) (c : Cls K C) (nN : NoAttr K C "numerator_here") (nD : NoAttr K C "denominator_here")
    (cI : Cal P w K mg base "is_integer" 1 (rIsInt K)) (cC : Cal P w K mg base "common" 1 rCommon) : FnK P w K mg base 2 f fd ["self", "top", "bottom"] (rInit C) := by
  obtain ⟨oc, od, dV, kV, doc, pm, an, cdv, ct, osl, rfl, lk, hcd, _, _⟩ := F.ex
  refine fnK_of lk hcd scInit (fun A outer s H ss r ss' hr hg hR hl => ?_)
  obtain ⟨t, b, rfl, hb, ht, hB, rfl, rfl⟩ := hR
  have sb : MA.sh t b ≠ 0 := MA.sh_ne hb
  have sl : (MA.sh t b).natAbs.log2 < 9000 := Nat.lt_of_lt_of_le (Bd.log (n := 8000) (hB.le (MA.sh_le hb)) (by decide)) (by decide)
  refine ⟨.nx [some (.own (.ins C ["numerator_here", "denominator_here"] [.int (MA.lN t b), .int (MA.lD t b)])), some (.im (.int t)), some (.im (.int b)), some (.im (.int (MA.sh t b)))], _, ?_, finO3 rfl, .inr ⟨rfl, rfl⟩⟩
  refine tb_if (k := !true) (tt_not (tt_bl (tr_call cI hr hg (ta_cons (tr_var (i := 1) rfl) ta_nil) (isInt_int K t)))) Sh.refl (fun h => by cases h) (fun _ => ⟨_, tb_nil, sq_nx ?_⟩)
  refine tb_if (k := !true || decide (b = 0)) (tt_w (tw_or (tt_not (tt_bl (tr_call cI hr hg (ta_cons (tr_var (i := 2) rfl) ta_nil) (isInt_int K b)))) (fun _ => tw_or1 (tt_eqI (tr_var (i := 2) rfl) tr_int)))) Sh.refl (fun h => absurd h (by simp [hb])) (fun _ => ⟨_, tb_nil, sq_nx ?_⟩)
  refine tb_cons (ts_set (i := 3) (d := .int (MA.sh t b)) (tr_if (k := decide (0 < b)) (tt_gt (tr_var (i := 2) rfl) tr_int)
        (fun h => tr_is (tr_call cC hr hg (ta_cons (tr_var (i := 1) rfl) (ta_cons (tr_var (i := 2) rfl) ta_nil)) ⟨t, b, rfl, rfl, rfl⟩) (by unfold MA.sh; rw [if_pos (of_decide_eq_true h)]))
        (fun h => tr_is (tr_neg (tr_call cC hr hg (ta_cons (tr_var (i := 1) rfl) (ta_cons (tr_var (i := 2) rfl) ta_nil)) ⟨t, b, rfl, rfl, rfl⟩)) (by unfold MA.sh; rw [if_neg (of_decide_eq_false h)])))
        Sh.refl (by intro _ h; cases h) scInit.nd) ?_
  refine tb_cons (ts_fldO (n := 0) c nN (tr_fdiv (tr_var (i := 1) rfl) (tr_var (i := 3) rfl) ⟨sb, sl⟩) Sh.refl rfl (by decide)) ?_
  refine tb_cons (ts_fldO (n := 0) c nD (tr_fdiv (tr_var (i := 2) rfl) (tr_var (i := 3) rfl) ⟨sb, sl⟩) Sh.refl rfl (by decide)) ?_
  exact tb_out tb_nil rfl
end
end K03
set_option Elab.async false
set_option linter.all false
set_option maxRecDepth 100000
set_option autoImplicit false
set_option maxHeartbeats 4000000
namespace K03
open PySem L2 TL
section
variable {P : Program} {w : World} {K : PySem.W.Frag} {mg : Str → Option Value} {base : Heap} {f C : Addr} {fd : FuncData}
/-- a number: an int or a Ratio -/
def NumD (C : Addr) (o : D) (m e : Int) : Prop := (o = .int m ∧ e = 1) ∨ o = rat C m e
theorem isInt_rat {n d : Int} (c : CR P w K mg base C) : rIsInt K [.im (rat C n d)] (.im (.bl false)) [.im (rat C n d)] := ⟨_, _, false, false, rfl, .ins c.cls _ _, c.kInt, fun z => (by cases z), rfl, rfl⟩
/-! is_number -/
def rIsNum (C : Addr) : TL.Spec := fun ss r ss' => ∃ o m e, ss = [.im o] ∧ NumD C o m e ∧ r = .im (.bl true) ∧ ss' = ss
theorem scIsNum : FnScope ["value"] ["value"] (defScope sIsNum) := ⟨rfl, rfl, rfl, by decide +kernel, rfl, by decide +kernel, by decide +kernel⟩
theorem ok_isNum (F : Fun K "is_number" "is_number" sIsNum f fd) (B : Blt mg) (c : CR P w K mg base C) (cI : Cal P w K mg base "is_integer" 1 (rIsInt K)) : FnK P w K mg base 2 f fd ["value"] (rIsNum C) := by
  obtain ⟨oc, od, kV, doc, pm, an, cdv, ct, osl, rfl, lk, hcd⟩ := F.ex
  refine fnK_of lk hcd scIsNum (fun A outer s H ss r ss' hr hg hR hl => ?_)
  obtain ⟨o, m, e, rfl, hn, rfl, rfl⟩ := hR
  refine ⟨.rt _ [some (.im o)], _, ?_, fin1, .inl rfl⟩
  · rcases hn with ⟨rfl, rfl⟩ | rfl
    · exact tb_stop (ts_ret (tr_is (tr_or (l := false) (tr_call cI hr hg (ta_cons (tr_var (i := 0) rfl) ta_nil) (isInt_int K m)) (fun z => by cases z)) rfl) Sh.refl)
    · exact tb_stop (ts_ret (tr_is (tr_or (tr_call cI hr hg (ta_cons (tr_var (i := 0) rfl) ta_nil) (isInt_rat c)) (fun _ => tr_one (tr_callB call_isi B.isi (by decide +kernel) (ta_cons (tr_var (i := 0) rfl) (ta_cons (tr_glob (v := .ref C) c.gl rfl) ta_nil)) (ca_isi (.ins c.cls _ _) (.own C) c.kOwn)))) rfl) Sh.refl)
theorem bd1 : Bd 8000 1 := Nat.one_lt_two_pow (by decide)
/-! as_ratio -/
def rAsRatio (C : Addr) : TL.Spec := fun ss r ss' => ∃ o m e, ss = [.im o] ∧ NumD C o m e ∧ Bd 8000 m ∧ r = .im (rat C m e) ∧ ss' = ss
theorem scAsRatio : FnScope ["number"] ["number"] (defScope sAsRatio) := ⟨rfl, rfl, rfl, by decide +kernel, rfl, by decide +kernel, by decide +kernel⟩
theorem ok_asRatio (F : Fun K "as_ratio" "as_ratio" sAsRatio f fd) (B : Blt mg) (c : CR P w K mg base C) (mk1 : MkG P w K mg base "Ratio" C 2 [] (RDef 2 [.int 1] (rInit C))) : FnK P w K mg base 4 f fd ["number"] (rAsRatio C) := by
  obtain ⟨oc, od, kV, doc, pm, an, cdv, ct, osl, rfl, lk, hcd⟩ := F.ex
  refine fnK_of lk hcd scAsRatio (fun A outer s H ss r ss' hr hg hR hl => ?_)
  obtain ⟨o, m, e, rfl, hn, hm, rfl, rfl⟩ := hR
  refine ⟨.rt _ [some (.im o)], _, ?_, fin1, .inl rfl⟩
  · rcases hn with ⟨rfl, rfl⟩ | rfl
    · refine tb_stop (ts_ret (tr_if (k := false) (tt_bl (tr_callB call_isi B.isi (by decide +kernel) (ta_cons (tr_var (i := 0) rfl) (ta_cons (tr_glob (v := .ref C) c.gl rfl) ta_nil)) (ca_isi (.int _) (.own C) c.kI))) (fun z => by cases z) (fun _ =>
        tr_make mk1 hr hg (ta_cons (tr_var (i := 0) rfl) ta_nil) ?_)) Sh.refl)
      refine ⟨rfl, rfl, m, 1, rfl, by decide, hm, bd1, rfl, ?_⟩
      rw [(MA.l_int m).1, (MA.l_int m).2]
      rfl
    · exact tb_stop (ts_ret (tr_if (k := true) (tt_bl (tr_callB call_isi B.isi (by decide +kernel) (ta_cons (tr_var (i := 0) rfl) (ta_cons (tr_glob (v := .ref C) c.gl rfl) ta_nil)) (ca_isi (.ins c.cls _ _) (.own C) c.kOwn))) (fun _ => tr_var (i := 0) rfl) (fun z => by cases z)) Sh.refl)
/-! the operators: (n, d) op (m, e) -/
def rBin (C : Addr) (gT gB : Int → Int → Int → Int → Int) : TL.Spec := fun ss r ss' => ∃ n d o m e, ss = [.im (rat C n d), .im o] ∧ NumD C o m e ∧ Bd 2000 n ∧ Bd 2000 d ∧ Bd 2000 m ∧ Bd 2000 e ∧ gB n d m e ≠ 0 ∧
  r = .im (rat C (MA.lN (gT n d m e) (gB n d m e)) (MA.lD (gT n d m e) (gB n d m e))) ∧ ss' = ss
abbrev rAdd' (C : Addr) : TL.Spec := rBin C (fun n d m e => n * e + m * d) (fun _ d _ e => d * e)
abbrev rSub' (C : Addr) : TL.Spec := rBin C (fun n d m e => n * e - m * d) (fun _ d _ e => d * e)
abbrev rMul' (C : Addr) : TL.Spec := rBin C (fun n _ m _ => n * m) (fun _ d _ e => d * e)
abbrev rOver' (C : Addr) : TL.Spec := rBin C (fun n _ _ e => n * e) (fun _ d m _ => d * m)
/-- what the operators call -/
structure Dp1 (P : Program) (w : World) (K : PySem.W.Frag) (mg : Str → Option Value) (base : Heap) (C : Addr) : Prop where
  B : Blt mg
  c : CR P w K mg base C
  isInt : Cal P w K mg base "is_integer" 1 (rIsInt K)
  isNum : Cal P w K mg base "is_number" 2 (rIsNum C)
  asR : Cal P w K mg base "as_ratio" 4 (rAsRatio C)
  mk2 : MkG P w K mg base "Ratio" C 2 [] (rInit C)
  mk1 : MkG P w K mg base "Ratio" C 2 [] (RDef 2 [.int 1] (rInit C))
theorem rat_n {n d : Int} : ((["numerator_here", "denominator_here"] : List Str).zip [D.int n, D.int d]).lookup ("numerator_here" : Str) = some (.int n) := by
  rw [List.zip_cons_cons, List.lookup_cons]; rfl
theorem rat_d {n d : Int} : ((["numerator_here", "denominator_here"] : List Str).zip [D.int n, D.int d]).lookup ("denominator_here" : Str) = some (.int d) := by
  have h : (("denominator_here" : Str) == "numerator_here") = false := by decide +kernel
  rw [List.zip_cons_cons, List.lookup_cons, h]
  show List.lookup _ [(("denominator_here" : Str), D.int d)] = _
  rw [List.lookup_cons]
  have h : (("denominator_here" : Str) == "denominator_here") = true := by decide +kernel
  rw [h]
section
variable {X : Cx} {e : Expr} {δ δ1 : TL.Env} {n d : Int} {pos : Pos}
theorem tr_top (c : CR X.prog X.w X.K X.mg X.base C) (hr : Room 2 X.A) (he : TR X e δ (rat C n d) δ1) (hb : attributeBase e "top" X.env (eval e X.env) = eval e X.env := by rfl) : TR X (.Attribute e "top" pos) δ (.int n) δ1 := tr_prop c.cls.cl c.top hr he rat_n hb
theorem tr_bot (c : CR X.prog X.w X.K X.mg X.base C) (hr : Room 2 X.A) (he : TR X e δ (rat C n d) δ1) (hb : attributeBase e "bottom" X.env (eval e X.env) = eval e X.env := by rfl) : TR X (.Attribute e "bottom" pos) δ (.int d) δ1 := tr_prop c.cls.cl c.bot hr he rat_d hb
end
theorem init_ok {t b : Int} (hb : b ≠ 0) (ht : Bd 8000 t) (hB : Bd 8000 b) : rInit C (.own (.ins C [] []) :: [D.int t, D.int b].map S.im) (.im .non) (.own (.ins C ["numerator_here", "denominator_here"] [.int (MA.lN t b), .int (MA.lD t b)]) :: [D.int t, D.int b].map S.im) := ⟨t, b, rfl, hb, ht, hB, rfl, rfl⟩
theorem b22 {a b : Int} (h : Bd 2000 a) (h' : Bd 2000 b) : CMulW a b := h.cm h' (by decide) (by decide) (by decide)
theorem b44 {a b c d : Int} (h1 : Bd 2000 a) (h2 : Bd 2000 b) (h3 : Bd 2000 c) (h4 : Bd 2000 d) : Bd 8000 (a * b + c * d) := ((h1.mul h2).add (h3.mul h4)).mono (by decide)
theorem b44s {a b c d : Int} (h1 : Bd 2000 a) (h2 : Bd 2000 b) (h3 : Bd 2000 c) (h4 : Bd 2000 d) : Bd 8000 (a * b - c * d) := ((h1.mul h2).sub (h3.mul h4)).mono (by decide)
theorem b40 {a b : Int} (h1 : Bd 2000 a) (h2 : Bd 2000 b) : Bd 8000 (a * b) := (h1.mul h2).mono (by decide)
theorem scAdd : FnScope ["self", "other", "term"] ["self", "other"] (defScope sAdd) := ⟨rfl, rfl, rfl, by decide +kernel, rfl, by decide +kernel, by decide +kernel⟩
theorem ok_add (F : Fun K "__add__" "Ratio.__add__" sAdd f fd) (D1 : Dp1 P w K mg base C) : FnK P w K mg base 5 f fd ["self", "other"] (rAdd' C) := by
  obtain ⟨oc, od, kV, doc, pm, an, cdv, ct, osl, rfl, lk, hcd⟩ := F.ex
  refine fnK_of lk hcd scAdd (fun A outer s H ss r ss' hr hg hR hl => ?_)
  obtain ⟨n, d, o, m, e, rfl, hn, b1, b2, b3, b4, hb, rfl, rfl⟩ := hR
  refine ⟨.rt _ [some (.im (rat C n d)), some (.im o), some (.im (rat C m e))], _, ?_, fin2, .inl rfl⟩
  refine tb_if (k := !true) (tt_not (tt_bl (tr_call D1.isNum (hr.mono (by decide)) hg (ta_cons (tr_var (i := 1) rfl) ta_nil) ⟨o, m, e, rfl, hn, rfl, rfl⟩))) Sh.refl (fun h => by cases h) (fun _ => ⟨_, tb_nil, sq_nx ?_⟩)
  refine tb_cons (ts_set (i := 2) (tr_call D1.asR (hr.mono (by decide)) hg (ta_cons (tr_var (i := 1) rfl) ta_nil) ⟨o, m, e, rfl, hn, b3.mono (by decide), rfl, rfl⟩) Sh.refl (by intro _ h; cases h) scAdd.nd) ?_
  exact tb_stop (ts_ret (tr_make D1.mk2 (hr.mono (by decide)) hg (ta_cons (tr_add (tr_mul (tr_top D1.c (hr.mono (by decide)) (tr_var (i := 0) rfl)) (tr_bot D1.c (hr.mono (by decide)) (tr_var (i := 2) rfl)) (b22 b1 b4)) (tr_mul (tr_top D1.c (hr.mono (by decide)) (tr_var (i := 2) rfl)) (tr_bot D1.c (hr.mono (by decide)) (tr_var (i := 0) rfl)) (b22 b3 b2)))
    (ta_cons (tr_mul (tr_bot D1.c (hr.mono (by decide)) (tr_var (i := 0) rfl)) (tr_bot D1.c (hr.mono (by decide)) (tr_var (i := 2) rfl)) (b22 b2 b4)) ta_nil)) (init_ok hb (b44 b1 b4 b3 b2) (b40 b2 b4))) Sh.refl)
theorem scSub : FnScope ["self", "other", "term"] ["self", "other"] (defScope sSub) := ⟨rfl, rfl, rfl, by decide +kernel, rfl, by decide +kernel, by decide +kernel⟩
theorem ok_sub (F : Fun K "__sub__" "Ratio.__sub__" sSub f fd) (D1 : Dp1 P w K mg base C) : FnK P w K mg base 5 f fd ["self", "other"] (rSub' C) := by
  obtain ⟨oc, od, kV, doc, pm, an, cdv, ct, osl, rfl, lk, hcd⟩ := F.ex
  refine fnK_of lk hcd scSub (fun A outer s H ss r ss' hr hg hR hl => ?_)
  obtain ⟨n, d, o, m, e, rfl, hn, b1, b2, b3, b4, hb, rfl, rfl⟩ := hR
  refine ⟨.rt _ [some (.im (rat C n d)), some (.im o), some (.im (rat C m e))], _, ?_, fin2, .inl rfl⟩
  refine tb_if (k := !true) (tt_not (tt_bl (tr_call D1.isNum (hr.mono (by decide)) hg (ta_cons (tr_var (i := 1) rfl) ta_nil) ⟨o, m, e, rfl, hn, rfl, rfl⟩))) Sh.refl (fun h => by cases h) (fun _ => ⟨_, tb_nil, sq_nx ?_⟩)
  refine tb_cons (ts_set (i := 2) (tr_call D1.asR (hr.mono (by decide)) hg (ta_cons (tr_var (i := 1) rfl) ta_nil) ⟨o, m, e, rfl, hn, b3.mono (by decide), rfl, rfl⟩) Sh.refl (by intro _ h; cases h) scSub.nd) ?_
  exact tb_stop (ts_ret (tr_make D1.mk2 (hr.mono (by decide)) hg (ta_cons (tr_sub (tr_mul (tr_top D1.c (hr.mono (by decide)) (tr_var (i := 0) rfl)) (tr_bot D1.c (hr.mono (by decide)) (tr_var (i := 2) rfl)) (b22 b1 b4)) (tr_mul (tr_top D1.c (hr.mono (by decide)) (tr_var (i := 2) rfl)) (tr_bot D1.c (hr.mono (by decide)) (tr_var (i := 0) rfl)) (b22 b3 b2)))
    (ta_cons (tr_mul (tr_bot D1.c (hr.mono (by decide)) (tr_var (i := 0) rfl)) (tr_bot D1.c (hr.mono (by decide)) (tr_var (i := 2) rfl)) (b22 b2 b4)) ta_nil)) (init_ok hb (b44s b1 b4 b3 b2) (b40 b2 b4))) Sh.refl)
theorem scMul : FnScope ["self", "other", "factor"] ["self", "other"] (defScope sMul) := ⟨rfl, rfl, rfl, by decide +kernel, rfl, by decide +kernel, by decide +kernel⟩
theorem ok_mul (F : Fun K "__mul__" "Ratio.__mul__" sMul f fd) (D1 : Dp1 P w K mg base C) : FnK P w K mg base 5 f fd ["self", "other"] (rMul' C) := by
  obtain ⟨oc, od, kV, doc, pm, an, cdv, ct, osl, rfl, lk, hcd⟩ := F.ex
  refine fnK_of lk hcd scMul (fun A outer s H ss r ss' hr hg hR hl => ?_)
  obtain ⟨n, d, o, m, e, rfl, hn, b1, b2, b3, b4, hb, rfl, rfl⟩ := hR
  refine ⟨.rt _ [some (.im (rat C n d)), some (.im o), some (.im (rat C m e))], _, ?_, fin2, .inl rfl⟩
  refine tb_if (k := !true) (tt_not (tt_bl (tr_call D1.isNum (hr.mono (by decide)) hg (ta_cons (tr_var (i := 1) rfl) ta_nil) ⟨o, m, e, rfl, hn, rfl, rfl⟩))) Sh.refl (fun h => by cases h) (fun _ => ⟨_, tb_nil, sq_nx ?_⟩)
  refine tb_cons (ts_set (i := 2) (tr_call D1.asR (hr.mono (by decide)) hg (ta_cons (tr_var (i := 1) rfl) ta_nil) ⟨o, m, e, rfl, hn, b3.mono (by decide), rfl, rfl⟩) Sh.refl (by intro _ h; cases h) scMul.nd) ?_
  exact tb_stop (ts_ret (tr_make D1.mk2 (hr.mono (by decide)) hg (ta_cons (tr_mul (tr_top D1.c (hr.mono (by decide)) (tr_var (i := 0) rfl)) (tr_top D1.c (hr.mono (by decide)) (tr_var (i := 2) rfl)) (b22 b1 b3))
    (ta_cons (tr_mul (tr_bot D1.c (hr.mono (by decide)) (tr_var (i := 0) rfl)) (tr_bot D1.c (hr.mono (by decide)) (tr_var (i := 2) rfl)) (b22 b2 b4)) ta_nil)) (init_ok hb (b40 b1 b3) (b40 b2 b4))) Sh.refl)
theorem scOver : FnScope ["self", "other", "divisor"] ["self", "other"] (defScope sOver) := ⟨rfl, rfl, rfl, by decide +kernel, rfl, by decide +kernel, by decide +kernel⟩
theorem ok_over (F : Fun K "over" "Ratio.over" sOver f fd) (D1 : Dp1 P w K mg base C) : FnK P w K mg base 5 f fd ["self", "other"] (rOver' C) := by
  obtain ⟨oc, od, kV, doc, pm, an, cdv, ct, osl, rfl, lk, hcd⟩ := F.ex
  refine fnK_of lk hcd scOver (fun A outer s H ss r ss' hr hg hR hl => ?_)
  obtain ⟨n, d, o, m, e, rfl, hn, b1, b2, b3, b4, hb, rfl, rfl⟩ := hR
  have hm : m ≠ 0 := fun z => hb (by rw [z]; exact Int.mul_zero _)
  refine ⟨.rt _ [some (.im (rat C n d)), some (.im o), some (.im (rat C m e))], _, ?_, fin2, .inl rfl⟩
  refine tb_if (k := !true || decide (m = 0)) (tt_w (tw_or (tt_not (tt_bl (tr_call D1.isNum (hr.mono (by decide)) hg (ta_cons (tr_var (i := 1) rfl) ta_nil) ⟨o, m, e, rfl, hn, rfl, rfl⟩))) (fun _ => tw_or1 (tt_eqI (tr_top D1.c (hr.mono (by decide)) (tr_call D1.asR (hr.mono (by decide)) hg (ta_cons (tr_var (i := 1) rfl) ta_nil) ⟨o, m, e, rfl, hn, b3.mono (by decide), rfl, rfl⟩)) tr_int))))
    Sh.refl (fun h => absurd h (by simp [hm])) (fun _ => ⟨_, tb_nil, sq_nx ?_⟩)
  refine tb_cons (ts_set (i := 2) (tr_call D1.asR (hr.mono (by decide)) hg (ta_cons (tr_var (i := 1) rfl) ta_nil) ⟨o, m, e, rfl, hn, b3.mono (by decide), rfl, rfl⟩) Sh.refl (by intro _ h; cases h) scOver.nd) ?_
  exact tb_stop (ts_ret (tr_make D1.mk2 (hr.mono (by decide)) hg (ta_cons (tr_mul (tr_top D1.c (hr.mono (by decide)) (tr_var (i := 0) rfl)) (tr_bot D1.c (hr.mono (by decide)) (tr_var (i := 2) rfl)) (b22 b1 b4))
    (ta_cons (tr_mul (tr_bot D1.c (hr.mono (by decide)) (tr_var (i := 0) rfl)) (tr_top D1.c (hr.mono (by decide)) (tr_var (i := 2) rfl)) (b22 b2 b3)) ta_nil)) (init_ok hb (b40 b1 b4) (b40 b2 b3))) Sh.refl)
/-! -one -/
def rNeg (C : Addr) : TL.Spec := fun ss r ss' => ∃ n d, ss = [.im (rat C n d)] ∧ Bd 2000 n ∧ Bd 2000 d ∧ d ≠ 0 ∧ r = .im (rat C (MA.lN (-n) d) (MA.lD (-n) d)) ∧ ss' = ss
theorem scNeg : FnScope ["self"] ["self"] (defScope sNeg) := ⟨rfl, rfl, rfl, by decide +kernel, rfl, by decide +kernel, by decide +kernel⟩
theorem ok_neg (F : Fun K "__neg__" "Ratio.__neg__" sNeg f fd) (D1 : Dp1 P w K mg base C) : FnK P w K mg base 4 f fd ["self"] (rNeg C) := by
  obtain ⟨oc, od, kV, doc, pm, an, cdv, ct, osl, rfl, lk, hcd⟩ := F.ex
  refine fnK_of lk hcd scNeg (fun A outer s H ss r ss' hr hg hR hl => ?_)
  obtain ⟨n, d, rfl, b1, b2, hb, rfl, rfl⟩ := hR
  exact ⟨_, _, tb_stop (ts_ret (tr_make D1.mk2 hr hg (ta_cons (tr_neg (tr_top D1.c (hr.mono (by decide)) (tr_var (i := 0) rfl))) (ta_cons (tr_bot D1.c (hr.mono (by decide)) (tr_var (i := 0) rfl)) ta_nil)) (init_ok hb (b1.neg.mono (by decide)) (b2.mono (by decide)))) Sh.refl), fin1, .inl rfl⟩
/-! one == other -/
def rEqR (C : Addr) : TL.Spec := fun ss r ss' => ∃ n d m e, ss = [.im (rat C n d), .im (rat C m e)] ∧ r = .im (.bl (decide (n = m) && decide (d = e))) ∧ ss' = ss
theorem scEq : FnScope ["self", "other"] ["self", "other"] (defScope sEq) := ⟨rfl, rfl, rfl, by decide +kernel, rfl, by decide +kernel, by decide +kernel⟩
theorem ok_eq (F : Fun K "__eq__" "Ratio.__eq__" sEq f fd) (B : Blt mg) (c : CR P w K mg base C) : FnK P w K mg base 3 f fd ["self", "other"] (rEqR C) := by
  obtain ⟨oc, od, kV, doc, pm, an, cdv, ct, osl, rfl, lk, hcd⟩ := F.ex
  refine fnK_of lk hcd scEq (fun A outer s H ss r ss' hr hg hR hl => ?_)
  obtain ⟨n, d, m, e, rfl, rfl, rfl⟩ := hR
  exact ⟨_, _, tb_stop (ts_ret (tr_is (tr_and (tr_callB call_isi B.isi (by decide +kernel) (ta_cons (tr_var (i := 1) rfl) (ta_cons (tr_glob (v := .ref C) c.gl rfl) ta_nil)) (ca_isi (.ins c.cls _ _) (.own C) c.kOwn))
    (fun _ => tr_and (tr_eqI (tr_top c hr (tr_var (i := 0) rfl)) (tr_top c hr (tr_var (i := 1) rfl))) (fun _ => tr_one (tr_eqI (tr_bot c hr (tr_var (i := 0) rfl)) (tr_bot c hr (tr_var (i := 1) rfl)))))) rfl) Sh.refl), fin2, .inl rfl⟩
end
end K03
set_option Elab.async false
set_option linter.all false
set_option maxRecDepth 100000
set_option autoImplicit false
set_option maxHeartbeats 1000000
namespace K03
open PySem L2 TL
abbrev sPurse : Stmt := top 14
abbrev sDraw : Stmt := top 15
/-- a purse as an object -/
def puD (p : PU.Pu) : OC := .lst [.lst (p.cells.map D.int), .int p.i, .int p.r, .int p.t]
section
variable {P : Program} {w : World} {K : PySem.W.Frag} {mg : Str → Option Value} {base : Heap} {f C : Addr} {fd : FuncData}
/-! _law_purse -/
def big : Int := 10 ^ 60 * 10 ^ 60
def rPurse : TL.Spec := fun ss r ss' => ∃ ns : List Int, ss = [.im (.lst (ns.map D.int))] ∧ ns.length ≤ 1000 ∧ r = .fr [.lst ((ns.map (· % big)).map D.int), .int 0, .int 0, .int 0] ∧ ss' = ss
theorem scPurse : FnScope ["_law_script", "_law_cell"] ["_law_script"] (defScope sPurse) := ⟨rfl, rfl, rfl, by decide +kernel, rfl, by decide +kernel, by decide +kernel⟩
theorem cm60 : CMulW ((10 : Int) ^ (60 : Int).toNat) ((10 : Int) ^ (60 : Int).toNat) := by unfold CMulW; decide +kernel
theorem ok_purse (F : Fun K "_law_purse" "_law_purse" sPurse f fd) (B : Blt mg) : FnK P w K mg base 1 f fd ["_law_script"] rPurse := by
  obtain ⟨oc, od, kV, doc, pm, an, cdv, ct, osl, rfl, lk, hcd⟩ := F.ex
  refine fnK_of lk hcd scPurse (fun A outer s H ss r ss' hr hg hR hl => ?_)
  obtain ⟨ns, rfl, hn, rfl, rfl⟩ := hR
  refine ⟨.rt _ [some (.im (.lst (ns.map D.int))), none], _, ?_, fin1, .inl rfl⟩
  refine tb_stop (ts_retF (tf_lst (ta_cons (tr_fr (tf_lc (i := 1) (fun _ => [some (.im (.lst (ns.map D.int))), none]) ((ns.map (· % big)).map D.int) (tr_var (i := 0) rfl) (fun _ => rfl) (by simp) (by simp; omega) ?_ scPurse.nd (blkOk_by (N := ["_law_script", "_law_cell"]) (sc := defScope sPurse) (by decide +kernel)) (fun _ _ _ _ _ => pg_name (i := 1) scPurse.nd rfl (Or.inl rfl))))
    (ta_cons tr_int (ta_cons tr_int (ta_cons tr_int ta_nil)))) (by simp)) Sh.refl)
  intro k x y hx hy s' H' C' cl fp
  rw [List.getElem?_map] at hx hy
  rw [List.getElem?_map] at hy
  cases hz : ns[k]? with
  | none => rw [hz] at hx; cases hx
  | some z =>
    rw [hz] at hx hy
    cases hx
    cases hy
    exact tr_mod (tr_callTy call_int1 B.int (by decide +kernel) (ta_cons (tr_var (i := 1) rfl) ta_nil) ca_int) (tr_mul (tr_pow tr_int tr_int ⟨by decide, by decide, by decide +kernel⟩) (tr_pow tr_int tr_int ⟨by decide, by decide, by decide +kernel⟩) cm60) (by decide +kernel)
/-! _law_draw -/
def rDraw : TL.Spec := fun ss r ss' => ∃ p m n, ss = [.own (puD p), .im (.int m)] ∧ PU.Ok n p ∧ n ≤ 1000000 ∧ 0 < m ∧ m < 1073741824 ∧ r = .im (.int (PU.draw p m).1) ∧ ss' = [.own (puD (PU.draw p m).2), .im (.int m)]
theorem scDraw : FnScope ["_law_q", "_law_many", "_law_digit", "_law_cells", "_law_cell", "_law_turn", "_law_primes", "_law_blend"] ["_law_q", "_law_many"] (defScope sDraw) := ⟨rfl, rfl, rfl, by decide +kernel, rfl, by decide +kernel, by decide +kernel⟩
theorem finO2 {o o' : OC} {d : D} {δ' : TL.Env} (h : δ'[0]? = some (some (.own o'))) : FinA [.own o, .im d] δ' [.own o', .im d] := ⟨rfl, fun i s q => by
  match i with
  | 0 => cases q; exact ⟨o', rfl, h⟩
  | 1 => cases q; rfl
  | i + 2 => simp at q⟩
theorem Sh.put {δ : TL.Env} {n : Nat} {o o' : OC} (h : δ[n]? = some (some (.own o))) : Sh δ (δ.set n (some (.own o'))) := fun i xs q => by
  by_cases hi : n = i
  · subst hi
    exact ⟨o', by rw [List.getElem?_set_self (List.getElem?_eq_some_iff.mp h).1]⟩
  · exact ⟨xs, by rw [List.getElem?_set_ne hi]; exact q⟩
def exprOf : Stmt → Expr
  | .Assign _ e _ => e
  | _ => .Constant .none 0 ⟨0, 0, 0, 0⟩
def eltsOf : Expr → List Expr
  | .List es _ => es
  | _ => []
def posOf : Expr → Pos
  | .List _ p => p
  | _ => ⟨0, 0, 0, 0⟩
abbrev ePr : Expr := exprOf ((defBody sDraw).getD 7 (.Pass ⟨0, 0, 0, 0⟩))
theorem ePr_list : ePr = .List (eltsOf ePr) (posOf ePr) := rfl
theorem ePr_c : (eltsOf ePr).all isC = true := by decide +kernel
theorem ePr_len : (eltsOf ePr).length ≤ 100000 := by decide +kernel
theorem ePr_d : (eltsOf ePr).map cD = PU.primes.map D.int := rfl
theorem tr_primes {X : Cx} {δ : TL.Env} : TR X ePr δ (.lst (PU.primes.map D.int)) δ := by
  rw [ePr_list]
  exact tr_is (tr_fr (tf_lst (ta_consts ePr_c) (by rw [List.length_map]; exact ePr_len))) (by rw [ePr_d])
theorem cm_small {i j : Int} (h1 : i.natAbs < 2 ^ 100) (h2 : j.natAbs < 2 ^ 100) : CMulW i j := wide_mul h1 h2 (by decide) (by decide) (by decide)
theorem ok_draw (F : Fun K "_law_draw" "_law_draw" sDraw f fd) (B : Blt mg) : FnK P w K mg base 1 f fd ["_law_q", "_law_many"] rDraw := by
  obtain ⟨oc, od, kV, doc, pm, an, cdv, ct, osl, rfl, lk, hcd⟩ := F.ex
  refine fnK_of lk hcd scDraw (fun A outer s H ss r ss' hr hg hR hl => ?_)
  obtain ⟨p, m, n, rfl, hok, hn, hm0, hm1, rfl, rfl⟩ := hR
  by_cases h0 : 0 < p.r
  · have hd : PU.draw p m = (p.r % m, { p with r := p.r / m }) := by unfold PU.draw; rw [if_pos h0]
    rw [hd]
    refine ⟨.rt _ [some (.own (puD { p with r := p.r / m })), some (.im (.int m)), some (.im (.int (p.r % m))), none, none, none, none, none], _, ?_, finO2 rfl, .inl rfl⟩
    refine tb_if (k := decide (0 < p.r)) (tt_gt (tr_ixO (n := 0) rfl tr_int rfl) tr_int) Sh.refl (fun _ => ⟨_, ?_, sq_rt⟩) (fun h => absurd h0 (of_decide_eq_false h))
    refine tb_cons (ts_set (i := 2) (tr_mod (tr_callTy call_int1 B.int (by decide +kernel) (ta_cons (tr_ixO (n := 0) rfl tr_int rfl) ta_nil) ca_int) (tr_var (i := 1) rfl) hm0) Sh.refl (by intro _ h; cases h) scDraw.nd) ?_
    refine tb_cons (ts_setO (n := 0) (j := 2) (tr_fdivN (tr_ixO (n := 0) rfl tr_int rfl) (tr_var (i := 1) rfl) ⟨hm0, hm1⟩) Sh.refl rfl tr_int rfl) ?_
    exact tb_stop (ts_ret (tr_var (i := 2) rfl) Sh.refl)
  · have hcs : (!(p.cells.map D.int).isEmpty) = true → PU.cs p = p.cells := fun h => by
      unfold PU.cs
      rw [if_neg]
      intro z
      rw [z] at h
      cases h
    have hcs' : (!(p.cells.map D.int).isEmpty) = false → PU.cs p = [0] := fun h => by
      unfold PU.cs
      rw [if_pos]
      cases hc : p.cells with
      | nil => rfl
      | cons a b => rw [hc] at h; cases h
    have hix : atI ((PU.cs p).map D.int) (p.i % (((PU.cs p).map D.int).length : Int)) = some (.int (PU.cell p)) := by
      rw [List.length_map, ← PU.ix_eq]
      exact atI_nat (by rw [List.getElem?_map, PU.cell_get]; rfl)
    have hlen : (0 : Int) < (((PU.cs p).map D.int).length : Int) := by rw [List.length_map]; have := PU.cs_pos p; omega
    have c0 := hok.cell
    have t0 := hok.t0
    have tn := hok.tn
    -- up to the great cell's test
    have head : ∀ o, TB (cxOf CX0 P w K mg base ["_law_q", "_law_many", "_law_digit", "_law_cells", "_law_cell", "_law_turn", "_law_primes", "_law_blend"] "_law_draw" (defScope sDraw) f cdv A outer s H E0).nox ((defBody sDraw).drop 4)
        [some (.own (puD { p with i := p.i + 1 })), some (.im (.int m)), none, some (.im (.lst ((PU.cs p).map D.int))), some (.im (.int (PU.cell p))), none, none, none] o →
        TB (cxOf CX0 P w K mg base ["_law_q", "_law_many", "_law_digit", "_law_cells", "_law_cell", "_law_turn", "_law_primes", "_law_blend"] "_law_draw" (defScope sDraw) f cdv A outer s H E0).nox (defBody sDraw) (env0 ["_law_q", "_law_many", "_law_digit", "_law_cells", "_law_cell", "_law_turn", "_law_primes", "_law_blend"] [.own (puD p), .im (.int m)]) o := fun o ho => by
      refine tb_if (k := decide (0 < p.r)) (tt_gt (tr_ixO (n := 0) rfl tr_int rfl) tr_int) Sh.refl (fun h => absurd (of_decide_eq_true h) h0) (fun _ => ⟨_, tb_nil, sq_nx ?_⟩)
      refine tb_cons (ts_set (i := 3) (d := .lst ((PU.cs p).map D.int)) (tr_if (tt_lst (tr_ixO (n := 0) rfl tr_int rfl)) (fun h => tr_is (tr_ixO (n := 0) rfl tr_int rfl) (by rw [hcs h])) (fun h => tr_is (tr_fr (tf_lst (ta_cons tr_int ta_nil))) (by rw [hcs' h]; rfl))) Sh.refl (by intro _ h; cases h) scDraw.nd) ?_
      refine tb_cons (ts_set (i := 4) (tr_ixL (tr_var (i := 3) rfl) (tr_mod (tr_callTy call_int1 B.int (by decide +kernel) (ta_cons (tr_ixO (n := 0) rfl tr_int rfl) ta_nil) ca_int) (tr_callB call_len_seq B.len (by decide +kernel) (ta_cons (tr_var (i := 3) rfl) ta_nil) ca_lenL) hlen) hix) Sh.refl (by intro _ h; cases h) scDraw.nd) ?_
      refine tb_cons (ts_setO (n := 0) (j := 1) (tr_add (tr_ixO (n := 0) rfl tr_int rfl) tr_int) Sh.refl rfl tr_int rfl) ?_
      exact ho
    by_cases h1 : (10 : Int) ^ 18 ≤ PU.cell p
    · have hd : PU.draw p m = (PU.cell p % m, { p with i := p.i + 1, r := PU.cell p / m }) := by unfold PU.draw; rw [if_neg h0, if_pos h1]
      rw [hd]
      refine ⟨.rt _ [some (.own (puD { p with i := p.i + 1, r := PU.cell p / m })), some (.im (.int m)), none, some (.im (.lst ((PU.cs p).map D.int))), some (.im (.int (PU.cell p))), none, none, none], _, head _ ?_, finO2 rfl, .inl rfl⟩
      refine tb_if (k := decide ((10 : Int) ^ (18 : Int).toNat ≤ PU.cell p)) (tt_ge (tr_var (i := 4) rfl) (tr_pow tr_int tr_int ⟨by decide, by decide, by decide +kernel⟩)) Sh.refl (fun _ => ⟨_, ?_, sq_rt⟩) (fun h => absurd h1 (of_decide_eq_false h))
      refine tb_cons (ts_setO (n := 0) (j := 2) (tr_fdivN (tr_var (i := 4) rfl) (tr_var (i := 1) rfl) ⟨hm0, hm1⟩) Sh.refl rfl tr_int rfl) ?_
      exact tb_stop (ts_ret (tr_mod (tr_callTy call_int1 B.int (by decide +kernel) (ta_cons (tr_var (i := 4) rfl) ta_nil) ca_int) (tr_var (i := 1) rfl) hm0) Sh.refl)
    · have hd : PU.draw p m = (PU.b2 (PU.cell p) p.t / 32 % m, { p with i := p.i + 1, t := p.t + 1 }) := by unfold PU.draw; rw [if_neg h0, if_neg h1]
      rw [hd]
      have c1 : PU.cell p < 10 ^ 18 := Int.not_le.mp h1
      have pb := PU.pr_pos t0
      have bb := PU.b1_bd (c := PU.cell p) t0
      refine ⟨.rt _ [some (.own (puD { p with i := p.i + 1, t := p.t + 1 })), some (.im (.int m)), none, some (.im (.lst ((PU.cs p).map D.int))), some (.im (.int (PU.cell p))), some (.im (.int p.t)), some (.im (.lst (PU.primes.map D.int))), some (.im (.int (PU.b2 (PU.cell p) p.t)))], _, head _ ?_, finO2 rfl, .inl rfl⟩
      refine tb_if (k := decide ((10 : Int) ^ (18 : Int).toNat ≤ PU.cell p)) (tt_ge (tr_var (i := 4) rfl) (tr_pow tr_int tr_int ⟨by decide, by decide, by decide +kernel⟩)) Sh.refl (fun h => absurd (of_decide_eq_true h) h1) (fun _ => ⟨_, tb_nil, sq_nx ?_⟩)
      refine tb_cons (ts_set (i := 5) (tr_ixO (n := 0) rfl tr_int rfl) Sh.refl (by intro _ h; cases h) scDraw.nd) ?_
      refine tb_cons (ts_setO (n := 0) (j := 3) (tr_add (tr_var (i := 5) rfl) tr_int) Sh.refl rfl tr_int rfl) ?_
      refine tb_cons (ts_set (i := 6) tr_primes Sh.refl (by intro _ h; cases h) scDraw.nd) ?_
      refine tb_cons (ts_set (i := 7) (d := .int (PU.b1 (PU.cell p) p.t)) (tr_mod (tr_callTy call_int1 B.int (by decide +kernel) (ta_cons (tr_add (tr_mul (tr_add (tr_var (i := 4) rfl) tr_int) tr_int (cm_small (by first | omega | (dsimp only; omega)) (by decide +kernel)))
          (tr_mul (tr_mul (tr_add (tr_var (i := 5) rfl) tr_int) (tr_add (tr_var (i := 5) rfl) tr_int) (cm_small (by first | omega | (dsimp only; omega)) (by first | omega | (dsimp only; omega)))) tr_int (cm_small ?_ (by decide +kernel)))) ta_nil) ca_int)
        (tr_ixL (tr_var (i := 6) rfl) (tr_mod (tr_callTy call_int1 B.int (by decide +kernel) (ta_cons (tr_var (i := 5) rfl) ta_nil) ca_int) tr_int (by decide)) ?_) pb.1) Sh.refl (by intro _ h; cases h) scDraw.nd) ?_
      · have e1 : (p.t + 1).natAbs ≤ 2 ^ 40 := by omega
        have e2 : (p.t + 7).natAbs ≤ 2 ^ 40 := by omega
        rw [Int.natAbs_mul]
        exact Nat.lt_of_le_of_lt (Nat.mul_le_mul e1 e2) (by decide +kernel)
      · have e : p.t % 11 = (((p.t % 11).toNat : Nat) : Int) := by
          have := Int.emod_nonneg p.t (b := 11) (by decide)
          omega
        rw [e]
        exact atI_nat (by rw [List.getElem?_map, PU.pr_get t0]; rfl)
      refine tb_cons (ts_set (i := 7) (d := .int (PU.b2 (PU.cell p) p.t)) (tr_mod (tr_callTy call_int1 B.int (by decide +kernel) (ta_cons (tr_add (tr_pow (tr_var (i := 7) rfl) tr_int ⟨by decide, by decide, by omega⟩) (tr_mul (tr_var (i := 5) rfl) tr_int (cm_small (by first | omega | (dsimp only; omega)) (by decide +kernel)))) ta_nil) ca_int) tr_int (by decide)) Sh.refl (by intro _ h; cases h) scDraw.nd) ?_
      exact tb_stop (ts_ret (tr_mod (tr_callTy call_int1 B.int (by decide +kernel) (ta_cons (tr_fdivN (tr_var (i := 7) rfl) tr_int ⟨by decide, by decide⟩) ta_nil) ca_int) (tr_var (i := 1) rfl) hm0) Sh.refl)
end
end K03
set_option Elab.async false
set_option linter.all false
set_option maxRecDepth 100000
set_option autoImplicit false
set_option maxHeartbeats 1000000
namespace K03
open PySem L2 TL
abbrev sGreat : Stmt := top 16
abbrev sLCommon : Stmt := top 17
abbrev sLowest : Stmt := top 18
abbrev sFrom : Stmt := top 19
abbrev sNear : Stmt := top 20
abbrev sSum : Stmt := top 21
abbrev sTold : Stmt := top 22
/-- a pair of integers -/
def pair (n d : Int) : D := .tup [.int n, .int d]
def pick (l : List Int) (v : Int) : Int := l.getD v.toNat 0
theorem pick_at {l : List Int} {v : Int} (h0 : 0 ≤ v) (h1 : v < l.length) : atI (l.map D.int) v = some (.int (pick l v)) := by
  have e : v = ((v.toNat : Nat) : Int) := by omega
  have hl : v.toNat < l.length := by omega
  rw [e]
  refine atI_nat ?_
  unfold pick
  rw [List.getElem?_map, List.getD_eq_getElem?_getD]
  have : ((v.toNat : Nat) : Int).toNat = v.toNat := rfl
  rw [this, List.getElem?_eq_getElem hl]
  rfl
theorem pick_mem {l : List Int} {v : Int} (h0 : 0 ≤ v) (h1 : v < l.length) : pick l v ∈ l := by
  have hl : v.toNat < l.length := by omega
  unfold pick
  rw [List.getD_eq_getElem?_getD, List.getElem?_eq_getElem hl]
  exact List.getElem_mem hl
def sgns : List Int := [1, -1]
def fars : List Int := [1, 1, 10, 10 ^ 3, 10 ^ 9, 10 ^ 20, 10 ^ 39]
def fars2 : List Int := [4, 12, 1000, 10 ^ 10, 10 ^ 19]
open PU in
def great (p : Pu) : Int × Pu :=
  let a := draw p 7
  let b := draw a.2 2
  let c := draw b.2 60
  (pick sgns b.1 * (pick fars a.1 - 1 + c.1 * (pick fars a.1 / 7 + 1)), c.2)
open PU in
def near (p : Pu) : (Int × Int) × Pu :=
  let a := draw p 5
  let b := draw a.2 2
  let c := draw b.2 60
  let d := draw c.2 60
  let e := draw d.2 30
  let g := draw e.2 4
  ((pick sgns b.1 * (c.1 * (pick fars2 a.1 / 60 + 1) + d.1), 1 + e.1 * (pick fars2 a.1 / 60 + 1) + g.1), g.2)
theorem Bd.lit {n : Nat} {i : Int} (h : i.natAbs < 2 ^ n) : Bd n i := h
theorem far_bd {v : Int} (h0 : 0 ≤ v) (h1 : v < 7) : 0 ≤ pick fars v ∧ pick fars v ≤ 10 ^ 39 := by
  have := pick_mem (l := fars) h0 (by show v < 7; exact h1)
  have q : ∀ x ∈ fars, 0 ≤ x ∧ x ≤ 10 ^ 39 := by decide +kernel
  exact q _ this
theorem far2_bd {v : Int} (h0 : 0 ≤ v) (h1 : v < 5) : 0 ≤ pick fars2 v ∧ pick fars2 v ≤ 10 ^ 19 := by
  have := pick_mem (l := fars2) h0 (by show v < 5; exact h1)
  have q : ∀ x ∈ fars2, 0 ≤ x ∧ x ≤ 10 ^ 19 := by decide +kernel
  exact q _ this
theorem sgn_bd {v : Int} (h0 : 0 ≤ v) (h1 : v < 2) : pick sgns v = 1 ∨ pick sgns v = -1 := by
  have := pick_mem (l := sgns) h0 (by show v < 2; exact h1)
  have q : ∀ x ∈ sgns, x = 1 ∨ x = -1 := by decide
  exact q _ this
theorem mul_bd {x y : Int} {a b : Nat} (h1 : x.natAbs ≤ a) (h2 : y.natAbs ≤ b) : (x * y).natAbs ≤ a * b := by
  rw [Int.natAbs_mul]; exact Nat.mul_le_mul h1 h2
theorem sh_put {a b : TL.Env} {n : Nat} {o o' : OC} (h : Sh a b) (e : b[n]? = some (some (.own o))) : Sh a (b.set n (some (.own o'))) := fun i xs q => by
  obtain ⟨ys, q1⟩ := h i xs q
  exact Sh.put e i ys q1
theorem sh_nil : Sh [] [] := fun _ _ h => by simp at h
theorem sh_own {a b : TL.Env} {o o' : OC} (h : Sh a b) : Sh (some (.own o) :: a) (some (.own o') :: b) := fun i xs q => by
  match i with
  | 0 => exact ⟨o', rfl⟩
  | i + 1 => exact h i xs q
theorem sh_im {a b : TL.Env} {d : D} {t : Option S} (h : Sh a b) : Sh (some (.im d) :: a) (t :: b) := fun i xs q => by
  match i with
  | 0 => simp at q
  | i + 1 => exact h i xs q
theorem sh_no {a b : TL.Env} {t : Option S} (h : Sh a b) : Sh (none :: a) (t :: b) := fun i xs q => by
  match i with
  | 0 => simp at q
  | i + 1 => exact h i xs q
theorem cm_mid {i j : Int} (h1 : i.natAbs < 2 ^ 300) (h2 : j.natAbs < 2 ^ 300) : CMulW i j := wide_mul h1 h2 (by decide) (by decide) (by decide)
section
variable {P : Program} {w : World} {K : PySem.W.Frag} {mg : Str → Option Value} {base : Heap} {f C : Addr} {fd : FuncData}
theorem draw_R {p : PU.Pu} {m : Int} {n : Nat} (h : PU.Ok n p) (hn : n ≤ 1000000) (h0 : 0 < m) (h1 : m < 1073741824) : rDraw (.own (puD p) :: [D.int m].map S.im) (.im (.int (PU.draw p m).1)) (.own (puD (PU.draw p m).2) :: [D.int m].map S.im) := ⟨p, m, n, rfl, h, hn, h0, h1, rfl, rfl⟩
section
variable {X : Cx} {δ : TL.Env} {nm : Str} {i : Nat} {p : PU.Pu} {m : Int} {n : Nat} {j : Nat} {np pos p' mp : Pos}
/-- _law_draw(q, m), m written -/
theorem tr_draw (C : Cal X.prog X.w X.K X.mg X.base "_law_draw" 1 rDraw) (hr : Room 1 X.A) (gd : X.A.guards = some []) (h0 : δ[i]? = some (some (.own (puD p)))) (hk : PU.Ok n p) (hn : n ≤ 1000000) (m0 : 0 < m) (m1 : m < 1073741824) (hg : Gl X "_law_draw" := by rfl)
    (hN : X.N[i]? = some nm := by rfl) (hv : Vis X.env.scope nm := by first | exact Or.inl rfl | exact Or.inr (Or.inl rfl) | exact Or.inr (Or.inr rfl)) (hnb : (nm == ("__debug__" : Str)) = false := by decide) (hcd : (nm == ("__classdict__" : Str)) = false := by decide) :
    TR X (.Call (.Name "_law_draw" p') [.Name nm np, .Constant (.int m) j mp] [] pos) δ (.int (PU.draw p m).1) (δ.set i (some (.own (puD (PU.draw p m).2)))) :=
  tr_callO C hr gd h0 (ta_cons tr_int ta_nil rfl) (draw_R hk hn m0 m1) hg hN hv hnb hcd (by decide +kernel) rfl rfl
end
/-! _law_great -/
def rGreat : TL.Spec := fun ss r ss' => ∃ p n, ss = [.own (puD p)] ∧ PU.Ok n p ∧ n ≤ 900000 ∧ r = .im (.int (great p).1) ∧ ss' = [.own (puD (great p).2)]
theorem scGreat : FnScope ["_law_q", "_law_far"] ["_law_q"] (defScope sGreat) := ⟨rfl, rfl, rfl, by decide +kernel, rfl, by decide +kernel, by decide +kernel⟩
theorem finO1 {o o' : OC} {δ' : TL.Env} (h : δ'[0]? = some (some (.own o'))) : FinA [.own o] δ' [.own o'] := ⟨rfl, fun i s q => by
  match i with
  | 0 => cases q; exact ⟨o', rfl, h⟩
  | i + 1 => simp at q⟩
theorem pw {k : Int} (h : 0 ≤ k ∧ k ≤ 1000 := by decide) : 0 ≤ k ∧ k ≤ 1000000 ∧ (10 : Int).natAbs < 2 ^ 64 := ⟨h.1, by omega, by decide +kernel⟩
theorem ok_great (F : Fun K "_law_great" "_law_great" sGreat f fd) (cD : Cal P w K mg base "_law_draw" 1 rDraw) : FnK P w K mg base 2 f fd ["_law_q"] rGreat := by
  obtain ⟨oc, od, kV, doc, pm, an, cdv, ct, osl, rfl, lk, hcd⟩ := F.ex
  refine fnK_of lk hcd scGreat (fun A outer s H ss r ss' hr hg hR hl => ?_)
  obtain ⟨p, n, rfl, hok, hn, rfl, rfl⟩ := hR
  have o1 := PU.draw_ok (m := 7) hok
  have o2 := PU.draw_ok (m := 2) o1
  have d1 := PU.draw_bd (p := p) (m := 7) (by decide)
  have d2 := PU.draw_bd (p := (PU.draw p 7).2) (m := 2) (by decide)
  have d3 := PU.draw_bd (p := (PU.draw (PU.draw p 7).2 2).2) (m := 60) (by decide)
  have fb := far_bd d1.1 d1.2
  have sb := sgn_bd d2.1 d2.2
  refine ⟨.rt _ [some (.own (puD (great p).2)), some (.im (.int (pick fars (PU.draw p 7).1)))], _, ?_, finO1 rfl, .inl rfl⟩
  refine tb_cons (ts_set (i := 1) (d := .int (pick fars (PU.draw p 7).1)) (tr_ixL (xs := fars.map D.int) (tr_fr (tf_lst (ds := fars.map D.int) (ta_cons tr_int (ta_cons tr_int (ta_cons tr_int (ta_cons (tr_pow tr_int tr_int pw) (ta_cons (tr_pow tr_int tr_int pw) (ta_cons (tr_pow tr_int tr_int pw) (ta_cons (tr_pow tr_int tr_int pw) ta_nil))))))) (by decide)))
    (tr_draw (i := 0) cD hr hg rfl hok (by omega) (by decide) (by decide)) (pick_at d1.1 d1.2)) (Sh.put rfl) (by intro _ h; cases h) scGreat.nd) ?_
  refine tb_stop (ts_ret (tr_mul (tr_ixL (xs := sgns.map D.int) (tr_fr (tf_lst (ds := sgns.map D.int) (ta_cons tr_int (ta_cons (tr_neg tr_int) ta_nil)) (by decide))) (tr_draw (i := 0) cD hr hg rfl o1 (by omega) (by decide) (by decide)) (pick_at d2.1 d2.2))
    (tr_add (tr_sub (tr_var (i := 1) rfl) tr_int) (tr_mul (tr_draw (i := 0) cD hr hg rfl o2 (by omega) (by decide) (by decide)) (tr_add (tr_fdivN (tr_var (i := 1) rfl) tr_int ⟨by decide, by decide⟩) tr_int) ?_)) ?_) ?_)
  · refine cm_mid (by omega) (by omega)
  · have q := mul_bd (x := (PU.draw (PU.draw (PU.draw p 7).2 2).2 60).1) (y := pick fars (PU.draw p 7).1 / 7 + 1) (a := 60) (b := 10 ^ 39) (by omega) (by omega)
    refine cm_mid (by omega) (by omega)
  · exact sh_own (sh_im sh_nil)
end
end K03
set_option Elab.async false
set_option linter.all false
set_option maxRecDepth 100000
set_option autoImplicit false
set_option maxHeartbeats 1000000
namespace K03
open PySem L2 TL
section
variable {P : Program} {w : World} {K : PySem.W.Frag} {mg : Str → Option Value} {base : Heap} {f C : Addr} {fd : FuncData}
/-! _law_common -/
theorem scLCommon : FnScope ["_law_one", "_law_two", "_law_high", "_law_low"] ["_law_one", "_law_two"] (defScope sLCommon) := ⟨rfl, rfl, rfl, by decide +kernel, rfl, by decide +kernel, by decide +kernel⟩
theorem ok_lcommon {f : Addr} {fd : FuncData} (F : Fun K "_law_common" "_law_common" sLCommon f fd) (B : Blt mg) : FnK P w K mg base 1 f fd ["_law_one", "_law_two"] rCommon := by
  obtain ⟨oc, od, kV, doc, pm, an, cdv, ct, osl, rfl, lk, hcd⟩ := F.ex
  refine fnK_of lk hcd scLCommon (fun A outer s H ss r ss' hr hg hR hl => ?_)
  obtain ⟨a, b, rfl, rfl, rfl⟩ := hR
  let I : Int × Int → TL.Env := fun x => [some (.im (.int a)), some (.im (.int b)), some (.im (.int x.1)), some (.im (.int x.2))]
  refine ⟨_, _, tb_cons (ts_par (i := 2) (j := 3) (ta_cons (tr_callB call_abs B.abs (by decide +kernel) (ta_cons (tr_var (i := 0) rfl) ta_nil) ca_abs) (ta_cons (tr_callB call_abs B.abs (by decide +kernel) (ta_cons (tr_var (i := 1) rfl) ta_nil) ca_abs) ta_nil))
      Sh.refl (by intro _ h; cases h) (by intro _ h; cases h) scLCommon.nd)
    (tb_cons (ts_while I (fun x => 0 ≤ x.1 ∧ 0 ≤ x.2 ∧ Int.gcd x.1 x.2 = Int.gcd a b) (fun x => x.2.toNat) ((a.natAbs : Int), (b.natAbs : Int)) ?_ ?_ (δ' := I ((Int.gcd a b : Int), 0)) ?_ PassesOwn.never)
    (tb_stop (ts_ret (tr_var (i := 2) rfl) Sh.refl))), fin2, .inl rfl⟩
  · show [_, _, some (TL.S.im (.int (if a < 0 then -a else a))), some (TL.S.im (.int (if b < 0 then -b else b)))] = _
    rw [abs_if, abs_if]
  · exact ⟨by simp, by simp, by simp [Int.gcd]⟩
  · rintro ⟨h, l⟩ ⟨h1, h2, h3⟩
    refine ⟨decide (0 < l), tt_gt (tr_var (i := 3) rfl) tr_int, fun hk => ?_, fun hk => ?_⟩
    · have hl : 0 < l := of_decide_eq_true hk
      refine ⟨(l, h % l), ⟨h2, Int.emod_nonneg _ (by omega), by rw [MA.gcd_step h1 hl]; exact h3⟩, ?_, tb_cons (ts_par (i := 2) (j := 3) (ta_cons (tr_var (i := 3) rfl) (ta_cons (tr_mod (tr_callTy call_int1 B.int (by decide +kernel) (ta_cons (tr_var (i := 2) rfl) ta_nil) ca_int) (tr_var (i := 3) rfl) hl) ta_nil))
        Sh.refl (by intro _ h; cases h) (by intro _ h; cases h) scLCommon.nd) tb_nil⟩
      show (h % l).toNat < l.toNat
      have := Int.emod_lt_of_pos h hl
      have := Int.emod_nonneg h (b := l) (by omega)
      omega
    · have hl : l = 0 := by
        have := of_decide_eq_false hk
        dsimp only at h2
        omega
      subst hl
      dsimp only at h1 h3
      have : (Int.gcd a b : Int) = h := by rw [← h3]; simp; omega
      rw [this]
/-! _law_lowest -/
def rLowest : TL.Spec := fun ss r ss' => ∃ t b : Int, ss = [.im (.int t), .im (.int b)] ∧ b ≠ 0 ∧ Bd 8000 b ∧ r = .im (pair (MA.lN t b) (MA.lD t b)) ∧ ss' = ss
theorem scLowest : FnScope ["_law_high", "_law_under", "_law_both"] ["_law_high", "_law_under"] (defScope sLowest) := ⟨rfl, rfl, rfl, by decide +kernel, rfl, by decide +kernel, by decide +kernel⟩
theorem ok_lowest (F : Fun K "_law_lowest" "_law_lowest" sLowest f fd) (cC : Cal P w K mg base "_law_common" 1 rCommon) : FnK P w K mg base 2 f fd ["_law_high", "_law_under"] rLowest := by
  obtain ⟨oc, od, kV, doc, pm, an, cdv, ct, osl, rfl, lk, hcd⟩ := F.ex
  refine fnK_of lk hcd scLowest (fun A outer s H ss r ss' hr hg hR hl => ?_)
  obtain ⟨t, b, rfl, hb, hB, rfl, rfl⟩ := hR
  have sb : MA.sh t b ≠ 0 := MA.sh_ne hb
  have sl : (MA.sh t b).natAbs.log2 < 9000 := Nat.lt_of_lt_of_le (Bd.log (n := 8000) (hB.le (MA.sh_le hb)) (by decide)) (by decide)
  refine ⟨.rt _ [some (.im (.int t)), some (.im (.int b)), some (.im (.int (MA.sh t b)))], _, ?_, fin2, .inl rfl⟩
  refine tb_cons (ts_set (i := 2) (d := .int (MA.sh t b)) (tr_if (k := decide (0 < b)) (tt_gt (tr_var (i := 1) rfl) tr_int)
        (fun h => tr_is (tr_call cC hr hg (ta_cons (tr_var (i := 0) rfl) (ta_cons (tr_var (i := 1) rfl) ta_nil)) ⟨t, b, rfl, rfl, rfl⟩) (by unfold MA.sh; rw [if_pos (of_decide_eq_true h)]))
        (fun h => tr_is (tr_neg (tr_call cC hr hg (ta_cons (tr_var (i := 0) rfl) (ta_cons (tr_var (i := 1) rfl) ta_nil)) ⟨t, b, rfl, rfl, rfl⟩)) (by unfold MA.sh; rw [if_neg (of_decide_eq_false h)]))) Sh.refl (by intro _ h; cases h) scLowest.nd) ?_
  exact tb_stop (ts_ret (tr_tup (ta_cons (tr_fdiv (tr_var (i := 0) rfl) (tr_var (i := 2) rfl) ⟨sb, sl⟩) (ta_cons (tr_fdiv (tr_var (i := 1) rfl) (tr_var (i := 2) rfl) ⟨sb, sl⟩) ta_nil)) (by show 2 ≤ 100000; decide)) Sh.refl)
/-! _law_from -/
def rot (ns : List Int) (k : Int) : List Int := ns.drop (HT.sIx ns.length 0 (some k)) ++ ns.take (HT.sIx ns.length ns.length (some k))
def rotP (ns : List Int) (k : Int) : PU.Pu := ⟨(rot ns k).map (· % big), 0, 0, 0⟩
theorem rotP_ok (ns : List Int) (k : Int) : PU.Ok 0 (rotP ns k) := ⟨Int.le_refl _, Int.le_refl _, Int.le_refl _, fun c h => by
  obtain ⟨x, _, rfl⟩ := List.mem_map.mp h
  exact Int.emod_nonneg _ (by decide +kernel)⟩
theorem rot_len (ns : List Int) (k : Int) : (rot ns k).length ≤ 2 * ns.length := by
  unfold rot
  simp only [List.length_append, List.length_drop, List.length_take]
  omega
def puL (p : PU.Pu) : List D := [.lst (p.cells.map D.int), .int p.i, .int p.r, .int p.t]
theorem puD_L (p : PU.Pu) : puD p = .lst (puL p) := rfl
def rFrom (K : PySem.W.Frag) : TL.Spec := fun ss r ss' => ∃ a ns k, ss = [.im (.scr K a ns), .im (.int k)] ∧ ns.length ≤ 500 ∧ r = .fr (puL (rotP ns k)) ∧ ss' = ss
theorem scFrom : FnScope ["_law_script", "_law_k"] ["_law_script", "_law_k"] (defScope sFrom) := ⟨rfl, rfl, rfl, by decide +kernel, rfl, by decide +kernel, by decide +kernel⟩
theorem ok_from (F : Fun K "_law_from" "_law_from" sFrom f fd) (cP : Cal P w K mg base "_law_purse" 1 rPurse) : FnK P w K mg base 2 f fd ["_law_script", "_law_k"] (rFrom K) := by
  obtain ⟨oc, od, kV, doc, pm, an, cdv, ct, osl, rfl, lk, hcd⟩ := F.ex
  refine fnK_of lk hcd scFrom (fun A outer s H ss r ss' hr hg hR hl => ?_)
  obtain ⟨a, ns, k, rfl, hn, rfl, rfl⟩ := hR
  refine ⟨.rt _ _, _, tb_stop (ts_retF (tf_call (xs := puL (rotP ns k)) cP hr hg (ta_cons (tr_fr (tf_cat (tr_fr (tf_slLo (tr_var (i := 0) rfl) (tr_var (i := 1) rfl))) (tr_fr (tf_slHi (tr_var (i := 0) rfl) (tr_var (i := 1) rfl))) ?_)) ta_nil) ?_) Sh.refl), fin2, .inl rfl⟩
  · simp only [List.length_map, List.length_drop, List.length_take]
    omega
  · have := rot_len ns k
    refine ⟨rot ns k, ?_, by omega, rfl, rfl⟩
    unfold rot
    rw [List.map_append]
    rfl
/-! _law_near -/
def rNear : TL.Spec := fun ss r ss' => ∃ p n, ss = [.own (puD p)] ∧ PU.Ok n p ∧ n ≤ 900000 ∧ r = .im (pair (MA.lN (near p).1.1 (near p).1.2) (MA.lD (near p).1.1 (near p).1.2)) ∧ ss' = [.own (puD (near p).2)]
theorem scNear : FnScope ["_law_q", "_law_far", "_law_high"] ["_law_q"] (defScope sNear) := ⟨rfl, rfl, rfl, by decide +kernel, rfl, by decide +kernel, by decide +kernel⟩
theorem ok_near (F : Fun K "_law_near" "_law_near" sNear f fd) (cD : Cal P w K mg base "_law_draw" 1 rDraw) (cL : Cal P w K mg base "_law_lowest" 2 rLowest) : FnK P w K mg base 3 f fd ["_law_q"] rNear := by
  obtain ⟨oc, od, kV, doc, pm, an, cdv, ct, osl, rfl, lk, hcd⟩ := F.ex
  refine fnK_of lk hcd scNear (fun A outer s H ss r ss' hr0 hg hR hl => ?_)
  obtain ⟨p, n, rfl, hok, hn, rfl, rfl⟩ := hR
  have hr := Room.mono (j := 1) hr0 (by decide)
  have o1 := PU.draw_ok (m := 5) hok
  have o2 := PU.draw_ok (m := 2) o1
  have o3 := PU.draw_ok (m := 60) o2
  have o4 := PU.draw_ok (m := 60) o3
  have o5 := PU.draw_ok (m := 30) o4
  have d1 := PU.draw_bd (p := p) (m := 5) (by decide)
  have d2 := PU.draw_bd (p := (PU.draw p 5).2) (m := 2) (by decide)
  have d3 := PU.draw_bd (p := (PU.draw (PU.draw p 5).2 2).2) (m := 60) (by decide)
  have d4 := PU.draw_bd (p := (PU.draw (PU.draw (PU.draw p 5).2 2).2 60).2) (m := 60) (by decide)
  have d5 := PU.draw_bd (p := (PU.draw (PU.draw (PU.draw (PU.draw p 5).2 2).2 60).2 60).2) (m := 30) (by decide)
  have d6 := PU.draw_bd (p := (PU.draw (PU.draw (PU.draw (PU.draw (PU.draw p 5).2 2).2 60).2 60).2 30).2) (m := 4) (by decide)
  have fb := far2_bd d1.1 d1.2
  have sb := sgn_bd d2.1 d2.2
  have m1 := mul_bd (x := (PU.draw (PU.draw (PU.draw p 5).2 2).2 60).1) (y := pick fars2 (PU.draw p 5).1 / 60 + 1) (a := 60) (b := 10 ^ 19) (by omega) (by omega)
  have m2 := mul_bd (x := (PU.draw (PU.draw (PU.draw (PU.draw (PU.draw p 5).2 2).2 60).2 60).2 30).1) (y := pick fars2 (PU.draw p 5).1 / 60 + 1) (a := 30) (b := 10 ^ 19) (by omega) (by omega)
  have m3 : 0 ≤ (PU.draw (PU.draw (PU.draw (PU.draw (PU.draw p 5).2 2).2 60).2 60).2 30).1 * (pick fars2 (PU.draw p 5).1 / 60 + 1) := Int.mul_nonneg (by omega) (by omega)
  refine ⟨.rt _ [some (.own (puD (near p).2)), some (.im (.int (pick fars2 (PU.draw p 5).1))), some (.im (.int (near p).1.1))], _, ?_, finO1 rfl, .inl rfl⟩
  refine tb_cons (ts_set (i := 1) (d := .int (pick fars2 (PU.draw p 5).1)) (tr_ixL (xs := fars2.map D.int) (tr_fr (tf_lst (ds := fars2.map D.int) (ta_cons tr_int (ta_cons tr_int (ta_cons tr_int (ta_cons (tr_pow tr_int tr_int pw) (ta_cons (tr_pow tr_int tr_int pw) ta_nil))))) (by decide)))
    (tr_draw (i := 0) cD hr hg rfl hok (by omega) (by decide) (by decide)) (pick_at d1.1 d1.2)) (Sh.put rfl) (by intro _ h; cases h) scNear.nd) ?_
  refine tb_cons (ts_set (i := 2) (d := .int (near p).1.1) (tr_mul (tr_ixL (xs := sgns.map D.int) (tr_fr (tf_lst (ds := sgns.map D.int) (ta_cons tr_int (ta_cons (tr_neg tr_int) ta_nil)) (by decide))) (tr_draw (i := 0) cD hr hg rfl o1 (by omega) (by decide) (by decide)) (pick_at d2.1 d2.2))
    (tr_add (tr_mul (tr_draw (i := 0) cD hr hg rfl o2 (by omega) (by decide) (by decide)) (tr_add (tr_fdivN (tr_var (i := 1) rfl) tr_int ⟨by decide, by decide⟩) tr_int) (cm_mid (by omega) (by omega))) (tr_draw (i := 0) cD hr hg rfl o3 (by omega) (by decide) (by decide))) (cm_mid (by omega) (by omega))) (sh_own (sh_im (sh_no sh_nil))) (by intro _ h; cases h) scNear.nd) ?_
  refine tb_stop (ts_ret (tr_call cL (hr0.mono (by decide)) hg (ta_cons (tr_var (i := 2) rfl) (ta_cons (tr_add (tr_add tr_int (tr_mul (tr_draw (i := 0) cD hr hg rfl o4 (by omega) (by decide) (by decide)) (tr_add (tr_fdivN (tr_var (i := 1) rfl) tr_int ⟨by decide, by decide⟩) tr_int) (cm_mid (by omega) (by omega)))) (tr_draw (i := 0) cD hr hg rfl o5 (by omega) (by decide) (by decide))) ta_nil)) ?_) (sh_own (sh_im (sh_im sh_nil))))
  exact ⟨(near p).1.1, (near p).1.2, rfl, by show (1 + _ + _ : Int) ≠ 0; omega, by show Bd 8000 (1 + _ + _ : Int); exact Bd.mono (n := 300) (by unfold Bd; omega) (by decide), rfl, rfl⟩
/-! _law_sum -/
def rSum : TL.Spec := fun ss r ss' => ∃ a b c d s : Int, ss = [.im (pair a b), .im (pair c d), .im (.int s)] ∧ b ≠ 0 ∧ d ≠ 0 ∧ (s = 1 ∨ s = -1) ∧ Bd 2000 a ∧ Bd 2000 b ∧ Bd 2000 c ∧ Bd 2000 d ∧ r = .im (pair (MA.lN (a * d + s * c * b) (b * d)) (MA.lD (a * d + s * c * b) (b * d))) ∧ ss' = ss
theorem scSum : FnScope ["_law_one", "_law_two", "_law_sign"] ["_law_one", "_law_two", "_law_sign"] (defScope sSum) := ⟨rfl, rfl, rfl, by decide +kernel, rfl, by decide +kernel, by decide +kernel⟩
theorem fin3 {d e g : D} {δ' : TL.Env} : FinA [.im d, .im e, .im g] δ' [.im d, .im e, .im g] := ⟨rfl, fun i s h => by
  match i with
  | 0 => cases h; rfl
  | 1 => cases h; rfl
  | 2 => cases h; rfl
  | i + 3 => simp at h⟩
theorem bd_s {s : Int} (h : s = 1 ∨ s = -1) : Bd 1 s := by unfold Bd; omega
section
variable {X : Cx} {e : Expr} {δ δ1 : TL.Env} {a b : Int} {pos pp : Pos} {k : Nat}
theorem tr_p0 (h : TR X e δ (pair a b) δ1) : TR X (.Subscript e (.Constant (.int 0) k pp) pos) δ (.int a) δ1 := tr_ixT (i := 0) h tr_int rfl
theorem tr_p1 (h : TR X e δ (pair a b) δ1) : TR X (.Subscript e (.Constant (.int 1) k pp) pos) δ (.int b) δ1 := tr_ixT (i := 1) h tr_int rfl
end
theorem ok_sum (F : Fun K "_law_sum" "_law_sum" sSum f fd) (cL : Cal P w K mg base "_law_lowest" 2 rLowest) : FnK P w K mg base 3 f fd ["_law_one", "_law_two", "_law_sign"] rSum := by
  obtain ⟨oc, od, kV, doc, pm, an, cdv, ct, osl, rfl, lk, hcd⟩ := F.ex
  refine fnK_of lk hcd scSum (fun A outer s H ss r ss' hr hg hR hl => ?_)
  obtain ⟨a, b, c, d, sg, rfl, hb, hd, hs, ba, bb, bc, bd, rfl, rfl⟩ := hR
  exact ⟨_, _, tb_stop (ts_ret (tr_call cL hr hg (ta_cons (tr_add (tr_mul (tr_p0 (tr_var (i := 0) rfl)) (tr_p1 (tr_var (i := 1) rfl)) (b22 ba bd)) (tr_mul (tr_mul (tr_var (i := 2) rfl) (tr_p0 (tr_var (i := 1) rfl)) ((bd_s hs).cm bc (by decide) (by decide) (by decide))) (tr_p1 (tr_var (i := 0) rfl)) (((bd_s hs).mul bc).cm bb (by decide) (by decide) (by decide))))
    (ta_cons (tr_mul (tr_p1 (tr_var (i := 0) rfl)) (tr_p1 (tr_var (i := 1) rfl)) (b22 bb bd)) ta_nil)) ⟨_, _, rfl, Int.mul_ne_zero hb hd, b40 bb bd, rfl, rfl⟩) Sh.refl), fin3, .inl rfl⟩
/-! _law_told -/
def txt (n d : Int) : Str := (pair n d).py.shown
theorem txt_len {n d : Int} (hn : n.natAbs.log2 < 1920) (hd : d.natAbs.log2 < 1920) : (txt n d).length ≤ 4000 := by
  have h1 := PyProof.Rows.int_text_len_1921 hn
  have h2 := PyProof.Rows.int_text_len_1921 hd
  unfold txt pair
  simp only [D.py, D.pys, PyData.shown_tuple, PyData.shownAll_cons, PyData.shownAll_nil, PyData.shown_int, Str.join, Str.length_append, List.length_cons, List.length_nil]
  have e1 : (Str.ofString "(").length = 1 := by decide +kernel
  have e2 : (Str.ofString ", ").length = 2 := by decide +kernel
  have e3 : (Str.ofString (if (0 + 1 + 1 == 1) = true then ",)" else ")")).length = 1 := by decide +kernel
  omega
theorem units_of {k : Nat} {A : Around} (h : Room k A) : A.units + 64 < cLine := by have := h.un; omega
def rTold (C : Addr) : TL.Spec := fun ss r ss' => ∃ n d, ss = [.im (rat C n d)] ∧ Bd 1900 n ∧ Bd 1900 d ∧ r = .im (.str (txt n d)) ∧ ss' = ss
theorem scTold : FnScope ["_law_one"] ["_law_one"] (defScope sTold) := ⟨rfl, rfl, rfl, by decide +kernel, rfl, by decide +kernel, by decide +kernel⟩
theorem tr_repr {X : Cx} {e : Expr} {δ δ1 : TL.Env} {n d : Int} {pos p' : Pos} (hm : X.mg "repr" = none) (gd : X.A.guards = some []) (hu : X.A.units + 64 < cLine) (h : TR X e δ (pair n d) δ1) (hn : Bd 1900 n) (hd : Bd 1900 d) (hg : Gl X "repr" := by rfl) (hs : starEach [e] X.env = (false, eval e X.env) :: starEach [] X.env := by rfl) : TR X (.Call (.Name "repr" p') [e] [] pos) δ (.str (txt n d)) δ1 := by
  have h1 : n.natAbs.log2 < 1920 := Nat.lt_of_lt_of_le (hn.log (by decide)) (by decide)
  have h2 : d.natAbs.log2 < 1920 := Nat.lt_of_lt_of_le (hd.log (by decide)) (by decide)
  refine tr_callB (call_reprD gd hu) hm (by decide +kernel) (ta_cons h ta_nil hs) (ca_repr rfl (.inr ⟨_, rfl⟩) ?_ rfl ?_ ?_) hg (by decide) (by decide) hs rfl
  · show (decide (n.natAbs.log2 < 1920) && (decide (d.natAbs.log2 < 1920) && true)) = true
    simp [h1, h2]
  · exact of_decide_eq_true rfl
  · exact Nat.le_trans (txt_len h1 h2) (by rw [sizeLine_eq]; decide)
theorem ok_told (F : Fun K "_law_told" "_law_told" sTold f fd) (B : Blt mg) (c : CR P w K mg base C) : FnK P w K mg base 3 f fd ["_law_one"] (rTold C) := by
  obtain ⟨oc, od, kV, doc, pm, an, cdv, ct, osl, rfl, lk, hcd⟩ := F.ex
  refine fnK_of lk hcd scTold (fun A outer s H ss r ss' hr hg hR hl => ?_)
  obtain ⟨n, d, rfl, hn, hd, rfl, rfl⟩ := hR
  have hu := units_of hr
  refine ⟨.rt _ [some (.im (rat C n d))], _, tb_if (k := !true) (tt_not (tt_bl (tr_callB call_isi B.isi (by decide +kernel) (ta_cons (tr_var (i := 0) rfl) (ta_cons (tr_glob (v := .ref C) c.gl rfl) ta_nil)) (ca_isi (.ins c.cls _ _) (.own C) c.kOwn)))) Sh.refl (fun h => by cases h) (fun _ => ⟨_, tb_nil, sq_nx ?_⟩), fin1, .inl rfl⟩
  exact tb_stop (ts_ret (tr_repr B.repr hg hu (tr_tup (ta_cons (tr_top c hr (tr_var (i := 0) rfl)) (ta_cons (tr_bot c hr (tr_var (i := 0) rfl)) ta_nil)) (by show 2 ≤ 100000; decide)) hn hd) Sh.refl)
end
end K03
set_option Elab.async false
set_option linter.all false
set_option autoImplicit false
set_option maxHeartbeats 1000000
/-! QM: fractions in lowest terms, plain. -/
namespace QM
open K03 MA
abbrev Q := Int × Int
def lo (t b : Int) : Q := (lN t b, lD t b)
def add (x y : Q) : Q := lo (x.1 * y.2 + y.1 * x.2) (x.2 * y.2)
def sub (x y : Q) : Q := lo (x.1 * y.2 - y.1 * x.2) (x.2 * y.2)
def mul (x y : Q) : Q := lo (x.1 * y.1) (x.2 * y.2)
def ov (x y : Q) : Q := lo (x.1 * y.2) (x.2 * y.1)
def neg (x : Q) : Q := lo (-x.1) x.2
def int (k : Int) : Q := (k, 1)
structure Ok (n : Nat) (x : Q) : Prop where
  pos : 0 < x.2
  cop : Int.gcd x.1 x.2 = 1
  b1 : Bd n x.1
  b2 : Bd n x.2
theorem lo_eq {t b u c : Int} (hb : b ≠ 0) (hc : c ≠ 0) (h : t * c = u * b) : lo t b = lo u c := by
  obtain ⟨e1, e2⟩ := l_eq hb hc h
  unfold lo
  rw [e1, e2]
theorem lo_ok {n : Nat} {t b : Int} (hb : b ≠ 0) (h1 : Bd n t) (h2 : Bd n b) : Ok n (lo t b) := ⟨lD_pos hb, l_coprime hb, h1.le (lN_le t b), h2.le (lD_le t b)⟩
theorem Ok.ne {n : Nat} {x : Q} (h : Ok n x) : x.2 ≠ 0 := by have := h.pos; omega
theorem Ok.self {n : Nat} {x : Q} (h : Ok n x) : lo x.1 x.2 = x := by
  obtain ⟨e1, e2⟩ := l_self h.pos h.cop
  unfold lo
  rw [e1, e2]
theorem Ok.mono {n m : Nat} {x : Q} (h : Ok n x) (q : n ≤ m) : Ok m x := ⟨h.pos, h.cop, h.b1.mono q, h.b2.mono q⟩
theorem int_ok {n : Nat} {k : Int} (h : Bd n k) (hn : 1 ≤ n) : Ok n (int k) := ⟨Int.one_pos, by simp [int], h, Bd.mono (n := 1) (by show (1 : Int).natAbs < 2 ^ 1; decide) hn⟩
theorem Ok.add {n m : Nat} {x y : Q} (h : Ok n x) (h' : Ok m y) : Ok (n + m + 1) (add x y) :=
  lo_ok (Int.mul_ne_zero h.ne h'.ne) (Bd.add (h.b1.mul h'.b2) ((h'.b1.mul h.b2).mono (by omega))) ((h.b2.mul h'.b2).mono (by omega))
theorem Ok.sub {n m : Nat} {x y : Q} (h : Ok n x) (h' : Ok m y) : Ok (n + m + 1) (sub x y) :=
  lo_ok (Int.mul_ne_zero h.ne h'.ne) (Bd.sub (h.b1.mul h'.b2) ((h'.b1.mul h.b2).mono (by omega))) ((h.b2.mul h'.b2).mono (by omega))
theorem Ok.mul {n m : Nat} {x y : Q} (h : Ok n x) (h' : Ok m y) : Ok (n + m) (mul x y) :=
  lo_ok (Int.mul_ne_zero h.ne h'.ne) (h.b1.mul h'.b1) (h.b2.mul h'.b2)
theorem Ok.ov {n m : Nat} {x y : Q} (h : Ok n x) (h' : Ok m y) (hy : y.1 ≠ 0) : Ok (n + m) (ov x y) :=
  lo_ok (Int.mul_ne_zero h.ne hy) (h.b1.mul h'.b2) (h.b2.mul h'.b1)
theorem Ok.neg {n : Nat} {x : Q} (h : Ok n x) : Ok n (neg x) := lo_ok h.ne h.b1.neg h.b2
section
variable {t b u c : Int}
theorem lo_ne (hb : b ≠ 0) : (lo t b).2 ≠ 0 := by have := lD_pos (t := t) hb; show lD t b ≠ 0; omega
theorem add_lo (hb : b ≠ 0) (hc : c ≠ 0) : add (lo t b) (lo u c) = lo (t * c + u * b) (b * c) := by
  refine lo_eq (Int.mul_ne_zero (lo_ne hb) (lo_ne hc)) (Int.mul_ne_zero hb hc) ?_
  have h1 := lN_mul (t := t) (b := b)
  have h2 := lD_mul (t := t) (b := b)
  have h3 := lN_mul (t := u) (b := c)
  have h4 := lD_mul (t := u) (b := c)
  show (lN t b * lD u c + lN u c * lD t b) * (b * c) = (t * c + u * b) * (lD t b * lD u c)
  generalize sh t b = s at *
  generalize sh u c = s' at *
  generalize lN t b = n at *
  generalize lD t b = d at *
  generalize lN u c = m at *
  generalize lD u c = e at *
  subst h1 h2 h3 h4
  grind
theorem sub_lo (hb : b ≠ 0) (hc : c ≠ 0) : sub (lo t b) (lo u c) = lo (t * c - u * b) (b * c) := by
  refine lo_eq (Int.mul_ne_zero (lo_ne hb) (lo_ne hc)) (Int.mul_ne_zero hb hc) ?_
  have h1 := lN_mul (t := t) (b := b)
  have h2 := lD_mul (t := t) (b := b)
  have h3 := lN_mul (t := u) (b := c)
  have h4 := lD_mul (t := u) (b := c)
  show (lN t b * lD u c - lN u c * lD t b) * (b * c) = (t * c - u * b) * (lD t b * lD u c)
  generalize sh t b = s at *
  generalize sh u c = s' at *
  generalize lN t b = n at *
  generalize lD t b = d at *
  generalize lN u c = m at *
  generalize lD u c = e at *
  subst h1 h2 h3 h4
  grind
theorem mul_lo (hb : b ≠ 0) (hc : c ≠ 0) : mul (lo t b) (lo u c) = lo (t * u) (b * c) := by
  refine lo_eq (Int.mul_ne_zero (lo_ne hb) (lo_ne hc)) (Int.mul_ne_zero hb hc) ?_
  have h1 := lN_mul (t := t) (b := b)
  have h2 := lD_mul (t := t) (b := b)
  have h3 := lN_mul (t := u) (b := c)
  have h4 := lD_mul (t := u) (b := c)
  show (lN t b * lN u c) * (b * c) = (t * u) * (lD t b * lD u c)
  generalize sh t b = s at *
  generalize sh u c = s' at *
  generalize lN t b = n at *
  generalize lD t b = d at *
  generalize lN u c = m at *
  generalize lD u c = e at *
  subst h1 h2 h3 h4
  grind
theorem neg_lo (hb : b ≠ 0) : neg (lo t b) = lo (-t) b := by
  refine lo_eq (lo_ne hb) hb ?_
  have h1 := lN_mul (t := t) (b := b)
  have h2 := lD_mul (t := t) (b := b)
  show (-lN t b) * b = -t * lD t b
  generalize sh t b = s at *
  generalize lN t b = n at *
  generalize lD t b = d at *
  subst h1 h2
  grind
end
section
variable {n m l : Nat} {x y z : Q}
theorem neg_eq (h : Ok n x) : neg x = (-x.1, x.2) := by
  have : Ok n (-x.1, x.2) := ⟨h.pos, by simpa using h.cop, h.b1.neg, h.b2⟩
  exact this.self
theorem sub_self (h : Ok n x) : sub x x = (0, 1) := by
  have : (lo 0 1 : Q) = (0, 1) := by decide
  rw [← this]
  exact lo_eq (Int.mul_ne_zero h.ne h.ne) (by decide) (by grind)
theorem ov_self (h : Ok n x) (h0 : x.1 ≠ 0) : ov x x = (1, 1) := by
  have : (lo 1 1 : Q) = (1, 1) := by decide
  rw [← this]
  exact lo_eq (Int.mul_ne_zero h.ne h0) (by decide) (by grind)
theorem add_sub (h : Ok n x) (h' : Ok m y) : sub (add x y) y = x := by
  have a := h.ne
  have b := h'.ne
  have e1 : sub (add x y) y = sub (add x y) (lo y.1 y.2) := by rw [h'.self]
  rw [e1]
  unfold add
  rw [sub_lo (by simp [Int.mul_eq_zero, *]) b]
  refine Eq.trans (lo_eq (u := x.1) (c := x.2) (by simp [Int.mul_eq_zero, *]) a (by grind)) h.self
theorem distr (h : Ok n x) (h' : Ok m y) (h2 : Ok l z) : mul (add x y) z = add (mul x z) (mul y z) := by
  have a := h.ne
  have b := h'.ne
  have c := h2.ne
  have e1 : mul (add x y) z = mul (add x y) (lo z.1 z.2) := by rw [h2.self]
  rw [e1]
  unfold add
  rw [mul_lo (by simp [Int.mul_eq_zero, *]) c]
  have e2 : lo ((mul x z).1 * (mul y z).2 + (mul y z).1 * (mul x z).2) ((mul x z).2 * (mul y z).2) = add (mul x z) (mul y z) := rfl
  rw [e2]
  unfold mul
  rw [add_lo (by simp [Int.mul_eq_zero, *]) (by simp [Int.mul_eq_zero, *])]
  exact lo_eq (by simp [Int.mul_eq_zero, *]) (by simp [Int.mul_eq_zero, *]) (by grind)
theorem assoc (h : Ok n x) (h' : Ok m y) (h2 : Ok l z) : add x (add y z) = add (add x y) z := by
  have a := h.ne
  have b := h'.ne
  have c := h2.ne
  have e1 : add x (add y z) = add (lo x.1 x.2) (lo (y.1 * z.2 + z.1 * y.2) (y.2 * z.2)) := by rw [h.self]; rfl
  have e2 : add (add x y) z = add (lo (x.1 * y.2 + y.1 * x.2) (x.2 * y.2)) (lo z.1 z.2) := by rw [h2.self]; rfl
  rw [e1, e2, add_lo a (by simp [Int.mul_eq_zero, *]), add_lo (by simp [Int.mul_eq_zero, *]) c]
  exact lo_eq (by simp [Int.mul_eq_zero, *]) (by simp [Int.mul_eq_zero, *]) (by grind)
theorem sub_neg (h : Ok n x) (h' : Ok m y) : sub x y = neg (sub y x) := by
  have a := h.ne
  have b := h'.ne
  have e : neg (sub y x) = neg (lo (y.1 * x.2 - x.1 * y.2) (y.2 * x.2)) := rfl
  rw [e, neg_lo (by simp [Int.mul_eq_zero, *])]
  exact lo_eq (by simp [Int.mul_eq_zero, *]) (by simp [Int.mul_eq_zero, *]) (by grind)
theorem mul_comm (h : Ok n x) (h' : Ok m y) : mul x y = mul y x := by
  have a := h.ne
  have b := h'.ne
  exact lo_eq (by simp [Int.mul_eq_zero, *]) (by simp [Int.mul_eq_zero, *]) (by grind)
end
end QM
set_option Elab.async false
set_option linter.all false
set_option maxRecDepth 100000
set_option autoImplicit false
set_option maxHeartbeats 1000000
namespace K03
open PySem L2 TL
abbrev sRight : Stmt := top 23
abbrev sLaw : Stmt := top 24
abbrev Q := QM.Q
def rq (C : Addr) (x : Q) : D := rat C x.1 x.2
def pq (x : Q) : D := pair x.1 x.2
def tx (x : Q) : D := .str (txt x.1 x.2)
/-! texts are texts -/
theorem ok_ofS (s : String) : PyData.strOk (Str.ofString s) = true := by
  unfold PyData.strOk
  rw [Str.ofString_eq_toList]
  simp only [List.all_toArray, List.all_map, List.all_eq_true]
  intro c _
  refine decide_eq_true ?_
  show c.val.toNat < 0x110000
  have h : (c.val.toNat).isValidChar := c.valid
  unfold Nat.isValidChar at h
  omega
theorem ok_app (a b : Str) (h1 : PyData.strOk a = true) (h2 : PyData.strOk b = true) : PyData.strOk (a ++ b) = true := by
  unfold PyData.strOk at *
  rw [Str.cps_append, Array.all_append, h1, h2]
  rfl
theorem ok_txt (n d : Int) : PyData.strOk (txt n d) = true := by
  unfold txt pair
  simp only [D.py, D.pys, PyData.shown_tuple, PyData.shownAll_cons, PyData.shownAll_nil, PyData.shown_int, Str.join]
  exact ok_app _ _ (ok_app _ _ (ok_ofS _) (ok_app _ _ (ok_app _ _ (ok_ofS _) (ok_ofS _)) (ok_ofS _))) (ok_ofS _)
theorem txs_data : ∀ qs : List Q, (D.lst (qs.map tx)).isData = true := fun qs => by
  show D.areData _ = true
  induction qs with
  | nil => rfl
  | cons q r ih => exact ih
theorem txs_lay : ∀ qs : List Q, PyData.canLayAll0 (D.pys (qs.map tx)) = true := fun qs => by
  induction qs with
  | nil => rfl
  | cons q r ih =>
    show (PyData.strOk (txt q.1 q.2) && PyData.canLayAll0 (D.pys (r.map tx))) = true
    rw [ok_txt, ih]; rfl
theorem txs_dep : ∀ qs : List Q, PyData.depthAll (D.pys (qs.map tx)) = 0 := fun qs => by
  induction qs with
  | nil => rfl
  | cons q r ih =>
    show max 0 (PyData.depthAll (D.pys (r.map tx))) = 0
    rw [ih]; rfl
theorem txs_shaped (qs : List Q) : SeqAt.shaped (D.lst (qs.map tx)).py = true := by
  show (PyData.canLayAll0 (D.pys (qs.map tx)) && decide (PyData.depthAll (D.pys (qs.map tx)) + 1 ≤ 64)) = true
  rw [txs_lay, txs_dep]; rfl
theorem txs_eq (qs : List Q) : PyData.eqv (D.lst (qs.map tx)).py (D.lst (qs.map tx)).py = true := SeqAt.eqv_refl _ (SeqAt.canLay_of_shaped (txs_shaped qs))
/-! bounds -/
theorem near_ok (p : PU.Pu) : QM.Ok 80 (QM.lo (near p).1.1 (near p).1.2) := by
  have d1 := PU.draw_bd (p := p) (m := 5) (by decide)
  have d2 := PU.draw_bd (p := (PU.draw p 5).2) (m := 2) (by decide)
  have d3 := PU.draw_bd (p := (PU.draw (PU.draw p 5).2 2).2) (m := 60) (by decide)
  have d4 := PU.draw_bd (p := (PU.draw (PU.draw (PU.draw p 5).2 2).2 60).2) (m := 60) (by decide)
  have d5 := PU.draw_bd (p := (PU.draw (PU.draw (PU.draw (PU.draw p 5).2 2).2 60).2 60).2) (m := 30) (by decide)
  have d6 := PU.draw_bd (p := (PU.draw (PU.draw (PU.draw (PU.draw (PU.draw p 5).2 2).2 60).2 60).2 30).2) (m := 4) (by decide)
  have fb := far2_bd d1.1 d1.2
  have sb := sgn_bd d2.1 d2.2
  have m1 := mul_bd (x := (PU.draw (PU.draw (PU.draw p 5).2 2).2 60).1) (y := pick fars2 (PU.draw p 5).1 / 60 + 1) (a := 60) (b := 10 ^ 19) (by omega) (by omega)
  have m2 := mul_bd (x := (PU.draw (PU.draw (PU.draw (PU.draw (PU.draw p 5).2 2).2 60).2 60).2 30).1) (y := pick fars2 (PU.draw p 5).1 / 60 + 1) (a := 30) (b := 10 ^ 19) (by omega) (by omega)
  have m3 : 0 ≤ (PU.draw (PU.draw (PU.draw (PU.draw (PU.draw p 5).2 2).2 60).2 60).2 30).1 * (pick fars2 (PU.draw p 5).1 / 60 + 1) := Int.mul_nonneg (by omega) (by omega)
  refine QM.lo_ok ?_ ?_ ?_
  · show (1 + _ + _ : Int) ≠ 0
    omega
  · show Bd 80 (_ * (_ + _) : Int)
    unfold Bd
    rcases sb with e | e <;> rw [e] <;> omega
  · show Bd 80 (1 + _ + _ : Int)
    unfold Bd
    omega
theorem great_bd (p : PU.Pu) : Bd 150 (great p).1 := by
  have d1 := PU.draw_bd (p := p) (m := 7) (by decide)
  have d2 := PU.draw_bd (p := (PU.draw p 7).2) (m := 2) (by decide)
  have d3 := PU.draw_bd (p := (PU.draw (PU.draw p 7).2 2).2) (m := 60) (by decide)
  have fb := far_bd d1.1 d1.2
  have sb := sgn_bd d2.1 d2.2
  have q := mul_bd (x := (PU.draw (PU.draw (PU.draw p 7).2 2).2 60).1) (y := pick fars (PU.draw p 7).1 / 7 + 1) (a := 60) (b := 10 ^ 39) (by omega) (by omega)
  show Bd 150 (_ * (_ - _ + _) : Int)
  unfold Bd
  rcases sb with e | e <;> rw [e] <;> omega
theorem near_pu {n : Nat} {p : PU.Pu} (h : PU.Ok n p) : PU.Ok (n + 6) (near p).2 := PU.draw_ok (PU.draw_ok (PU.draw_ok (PU.draw_ok (PU.draw_ok (PU.draw_ok h)))))
theorem great_pu {n : Nat} {p : PU.Pu} (h : PU.Ok n p) : PU.Ok (n + 3) (great p).2 := PU.draw_ok (PU.draw_ok (PU.draw_ok h))
section
variable {P : Program} {w : World} {K : PySem.W.Frag} {mg : Str → Option Value} {base : Heap} {f C : Addr} {fd : FuncData}
/-- what _law_right stands on -/
structure Dp2 (P : Program) (w : World) (K : PySem.W.Frag) (mg : Str → Option Value) (base : Heap) (C : Addr) : Prop where
  D1 : Dp1 P w K mg base C
  add : OwnF P w K mg base C (PySem.dunder Operator.Add.info.2) 5 (rAdd' C)
  sub : OwnF P w K mg base C (PySem.dunder Operator.Sub.info.2) 5 (rSub' C)
  mul : OwnF P w K mg base C (PySem.dunder Operator.Mult.info.2) 5 (rMul' C)
  neg : OwnF P w K mg base C "__neg__" 4 (rNeg C)
  eq : OwnF P w K mg base C "__eq__" 3 (rEqR C)
  hne : PySem.W.findIn K (.ref C) "__ne__" = some (some (.builtin "object.__ne__"))
  nf : PySem.W.notFirst K C (.ref C) = true
  ra : ∀ op : Operator, op = .Add ∨ op = .Sub ∨ op = .Mult → PySem.W.findIn K (.ref C) (dunderR op.info.2) = some none ∧ ∃ fo ro, PySem.W.findIn K (.type "int") (PySem.dunder op.info.2) = some fo ∧ PySem.W.findIn K (.type "int") (dunderR op.info.2) = some ro
  si : PySem.W.subIn K (.type "int") (.ref C) = some false
  over : MethF P w K mg base C "over" 5 [] (rOver' C)
  overK : MethF P w K mg base C "over" 5 ["other"] (rOver' C)
  told : Cal P w K mg base "_law_told" 3 (rTold C)
  low : Cal P w K mg base "_law_lowest" 2 rLowest
  sum : Cal P w K mg base "_law_sum" 3 rSum
  near : Cal P w K mg base "_law_near" 3 rNear
  great : Cal P w K mg base "_law_great" 2 rGreat
section
variable {X : Cx} {a b e : Expr} {δ δ1 δ2 : TL.Env} {pos : Pos} {x y : Q} {k : Int}
variable (D2 : Dp2 X.prog X.w X.K X.mg X.base C) (hr : Room 5 X.A) (gd : X.A.guards = some [])
theorem m2k {n : Nat} (h : n ≤ 2000 := by decide) {i : Int} (b : Bd n i) : Bd 2000 i := b.mono h
include D2 hr gd
theorem tr_radd (ha : TR X a δ (rq C x) δ1) (hb : TR X b δ1 (rq C y) δ2) (hx : QM.Ok 2000 x) (hy : QM.Ok 2000 y) : TR X (.BinOp a .Add b pos) δ (rq C (QM.add x y)) δ2 :=
  tr_op (op_ownC D2.D1.c.cls D2.add hr gd) ha hb (ot_ownC ⟨_, _, _, _, _, rfl, .inr rfl, hx.b1, hx.b2, hy.b1, hy.b2, Int.mul_ne_zero hx.ne hy.ne, rfl, rfl⟩)
theorem tr_rsub (ha : TR X a δ (rq C x) δ1) (hb : TR X b δ1 (rq C y) δ2) (hx : QM.Ok 2000 x) (hy : QM.Ok 2000 y) : TR X (.BinOp a .Sub b pos) δ (rq C (QM.sub x y)) δ2 :=
  tr_op (op_ownC D2.D1.c.cls D2.sub hr gd) ha hb (ot_ownC ⟨_, _, _, _, _, rfl, .inr rfl, hx.b1, hx.b2, hy.b1, hy.b2, Int.mul_ne_zero hx.ne hy.ne, rfl, rfl⟩)
theorem tr_rmul (ha : TR X a δ (rq C x) δ1) (hb : TR X b δ1 (rq C y) δ2) (hx : QM.Ok 2000 x) (hy : QM.Ok 2000 y) : TR X (.BinOp a .Mult b pos) δ (rq C (QM.mul x y)) δ2 :=
  tr_op (op_ownC D2.D1.c.cls D2.mul hr gd) ha hb (ot_ownC ⟨_, _, _, _, _, rfl, .inr rfl, hx.b1, hx.b2, hy.b1, hy.b2, Int.mul_ne_zero hx.ne hy.ne, rfl, rfl⟩)
theorem tr_raddI (ha : TR X a δ (rq C x) δ1) (hb : TR X b δ1 (.int k) δ2) (hx : QM.Ok 2000 x) (hk : Bd 2000 k) : TR X (.BinOp a .Add b pos) δ (rq C (QM.add x (QM.int k))) δ2 := by
  obtain ⟨h1, fo, ro, h2, h3⟩ := D2.ra .Add (by simp)
  have hy := QM.int_ok hk (by decide)
  exact tr_op (op_ownI (rc := none) D2.D1.c.cls D2.add hr gd h1 h2 h3 D2.si) ha hb (ot_ownI ⟨_, _, _, k, 1, rfl, .inl ⟨rfl, rfl⟩, hx.b1, hx.b2, hy.b1, hy.b2, Int.mul_ne_zero hx.ne hy.ne, rfl, rfl⟩)
theorem tr_rsubI (ha : TR X a δ (rq C x) δ1) (hb : TR X b δ1 (.int k) δ2) (hx : QM.Ok 2000 x) (hk : Bd 2000 k) : TR X (.BinOp a .Sub b pos) δ (rq C (QM.sub x (QM.int k))) δ2 := by
  obtain ⟨h1, fo, ro, h2, h3⟩ := D2.ra .Sub (by simp)
  have hy := QM.int_ok hk (by decide)
  exact tr_op (op_ownI (rc := none) D2.D1.c.cls D2.sub hr gd h1 h2 h3 D2.si) ha hb (ot_ownI ⟨_, _, _, k, 1, rfl, .inl ⟨rfl, rfl⟩, hx.b1, hx.b2, hy.b1, hy.b2, Int.mul_ne_zero hx.ne hy.ne, rfl, rfl⟩)
theorem tr_rmulI (ha : TR X a δ (rq C x) δ1) (hb : TR X b δ1 (.int k) δ2) (hx : QM.Ok 2000 x) (hk : Bd 2000 k) : TR X (.BinOp a .Mult b pos) δ (rq C (QM.mul x (QM.int k))) δ2 := by
  obtain ⟨h1, fo, ro, h2, h3⟩ := D2.ra .Mult (by simp)
  have hy := QM.int_ok hk (by decide)
  exact tr_op (op_ownI (rc := none) D2.D1.c.cls D2.mul hr gd h1 h2 h3 D2.si) ha hb (ot_ownI ⟨_, _, _, k, 1, rfl, .inl ⟨rfl, rfl⟩, hx.b1, hx.b2, hy.b1, hy.b2, Int.mul_ne_zero hx.ne hy.ne, rfl, rfl⟩)
theorem tr_rneg (ha : TR X a δ (rq C x) δ1) (hx : QM.Ok 2000 x) : TR X (.UnaryOp .USub a pos) δ (rq C (QM.neg x)) δ1 :=
  tr_un (un_own D2.neg (hr.mono (by decide)) gd) ha (ut_own ⟨_, _, rfl, hx.b1, hx.b2, hx.ne, rfl, rfl⟩)
theorem tt_rne (ha : TR X a δ (rq C x) δ1) (hb : TR X b δ1 (rq C y) δ2) (h : x = y) : TT X (.Compare a [.NotEq] [b] pos) δ false δ2 :=
  tt_cmp (op_ownNe D2.D1.c.cls D2.hne D2.eq (hr.mono (by decide)) gd) ha hb (ot_ownE (neg := true) (kk := true) (.ins D2.D1.c.cls _ _) D2.nf ⟨_, _, _, _, rfl, by rw [h]; simp, rfl⟩)
end
end
end K03
set_option Elab.async false
set_option linter.all false
set_option maxRecDepth 100000
set_option autoImplicit false
set_option maxHeartbeats 1000000
namespace TL
open PySem L2
theorem tt_k {X : Cx} {e : Expr} {δ δ' : TL.Env} {k k' : Bool} (h : TT X e δ k δ') (q : k = k') : TT X e δ k' δ' := q ▸ h
theorem tw_k {X : Cx} {es : Expr} {δ δ' : TL.Env} {k k' : Bool} (h : TT X es δ k δ') (q : k = k') : TT X es δ k' δ' := q ▸ h
/-- [h x for x in ..] over a list g x -/
theorem tf_lcm {α : Type} {X : Cx} {it elt : Expr} {scope : Scope} {δ δ1 : TL.Env} {i : Nat} {nm : Str} {np pos : Pos} (qs : List α) (g h : α → D) (hit : TR X it δ (.lst (qs.map g)) δ1) (hn : δ1[i]? = some none) (hb : qs.length ≤ 100000)
    (he : ∀ q, q ∈ qs → TRb X scope elt (δ1.set i (some (.im (g q)))) (h q) (δ1.set i (some (.im (g q)))))
    (hN : X.N.Nodup) (ok : BlkOk X.N X.env.scope scope [(nm, i)])
    (hg : ∀ (s : Shared) (H : Hp) (C : Addr) (cl : List (Str × Addr)) (fp : List Addr), PG (X.blk s H scope (compEnvC scope cl C X.env) fp) (.Name nm np) (gName i)) (hc : X.calm = true := by rfl)
    (hs : ∀ x, foldedSetIterable it X.env x = pure x := by intro _; rfl) : TF X (.ListComp elt [⟨.Name nm np, it, [], 0⟩] scope pos) δ (qs.map h) δ1 :=
  tf_lc (i := i) (fun _ => δ1) (qs.map h) hit (fun _ => hn) (by simp) (by simpa using hb) (fun k x y hx hy => by
    rw [List.getElem?_map] at hx hy
    cases hz : qs[k]? with
    | none => rw [hz] at hx; cases hx
    | some z =>
      rw [hz] at hx hy
      cases hx
      cases hy
      exact he z (List.mem_of_getElem? hz)) hN ok hg hc hs
end TL
namespace K03
open PySem L2 TL
section
variable {P : Program} {w : World} {K : PySem.W.Frag} {mg : Str → Option Value} {base : Heap} {f C : Addr} {fd : FuncData}
def rRight : TL.Spec := fun ss r ss' => ∃ p n, ss = [.own (puD p)] ∧ PU.Ok n p ∧ n ≤ 1000 ∧ r = .im (.bl true) ∧ ss' = [.own (puD (great (near (near (near p).2).2).2).2)]
theorem scRight : FnScope ["_law_q", "_law_a", "_law_b", "_law_c", "_law_k", "_law_one", "_law_two", "_law_three", "_law_told_here", "_law_due", "_law_x"] ["_law_q"] (defScope sRight) := ⟨rfl, rfl, rfl, by decide +kernel, rfl, by decide +kernel, by decide +kernel⟩
section
variable {X : Cx} {δ δ1 : TL.Env} {nm : Str} {i : Nat} {p : PU.Pu} {n : Nat} {np pos p' : Pos} {e e' e3 : Expr} {x y : Q} {s : Int}
def nq (p : PU.Pu) : Q := QM.lo (near p).1.1 (near p).1.2
/-- _law_near(q) -/
theorem tr_near (C : Cal X.prog X.w X.K X.mg X.base "_law_near" 3 rNear) (hr : Room 3 X.A) (gd : X.A.guards = some []) (h0 : δ[i]? = some (some (.own (puD p)))) (hk : PU.Ok n p) (hn : n ≤ 900000) (hg : Gl X "_law_near" := by rfl)
    (hN : X.N[i]? = some nm := by rfl) (hv : Vis X.env.scope nm := by first | exact Or.inl rfl | exact Or.inr (Or.inl rfl) | exact Or.inr (Or.inr rfl)) (hnb : (nm == ("__debug__" : Str)) = false := by decide) (hcd : (nm == ("__classdict__" : Str)) = false := by decide) :
    TR X (.Call (.Name "_law_near" p') [.Name nm np] [] pos) δ (pq (nq p)) (δ.set i (some (.own (puD (near p).2)))) :=
  tr_callO C hr gd h0 ta_nil ⟨p, n, rfl, hk, hn, rfl, rfl⟩ hg hN hv hnb hcd (by decide +kernel) rfl rfl
theorem tr_great (C : Cal X.prog X.w X.K X.mg X.base "_law_great" 2 rGreat) (hr : Room 2 X.A) (gd : X.A.guards = some []) (h0 : δ[i]? = some (some (.own (puD p)))) (hk : PU.Ok n p) (hn : n ≤ 900000) (hg : Gl X "_law_great" := by rfl)
    (hN : X.N[i]? = some nm := by rfl) (hv : Vis X.env.scope nm := by first | exact Or.inl rfl | exact Or.inr (Or.inl rfl) | exact Or.inr (Or.inr rfl)) (hnb : (nm == ("__debug__" : Str)) = false := by decide) (hcd : (nm == ("__classdict__" : Str)) = false := by decide) :
    TR X (.Call (.Name "_law_great" p') [.Name nm np] [] pos) δ (.int (great p).1) (δ.set i (some (.own (puD (great p).2)))) :=
  tr_callO C hr gd h0 ta_nil ⟨p, n, rfl, hk, hn, rfl, rfl⟩ hg hN hv hnb hcd (by decide +kernel) rfl rfl
theorem tr_ratio {Cc : Addr} (D1 : Dp1 X.prog X.w X.K X.mg X.base Cc) (hr : Room 3 X.A) (gd : X.A.guards = some []) {nm : Str} {c1 c2 : Nat} {u1 u2 u3 u4 u5 u6 : Pos} (h : ∀ {q : Pos}, TR X (.Name nm q) δ (pq x) δ) (hx : QM.Ok 2000 x) (hg : Gl X "Ratio" := by rfl) :
    TR X (.Call (.Name "Ratio" p') [.Subscript (.Name nm u1) (.Constant (.int 0) c1 u2) u3, .Subscript (.Name nm u4) (.Constant (.int 1) c2 u5) u6] [] pos) δ (rq Cc x) δ :=
  tr_is (tr_make D1.mk2 hr gd (ta_cons (tr_p0 h) (ta_cons (tr_p1 h) ta_nil rfl) rfl) (init_ok hx.ne (hx.b1.mono (by decide)) (hx.b2.mono (by decide))) hg) (congrArg (rq Cc) hx.self)
theorem tr_q0 (h : TR X e δ (pq x) δ1) {k : Nat} {pp : Pos} : TR X (.Subscript e (.Constant (.int 0) k pp) pos) δ (.int x.1) δ1 := tr_p0 h
theorem tr_q1 (h : TR X e δ (pq x) δ1) {k : Nat} {pp : Pos} : TR X (.Subscript e (.Constant (.int 1) k pp) pos) δ (.int x.2) δ1 := tr_p1 h
end
def L1 (a b : Q) (k : Int) : List Q := [QM.add a b, QM.sub a b, QM.mul a b, QM.neg a, QM.add a (QM.int k), QM.sub a (QM.int k), QM.mul a (QM.int k), QM.add b b, QM.sub b b, QM.mul b b]
def L2 (a b : Q) : List Q := [QM.ov a b, QM.ov a b, QM.ov b b]
def sm (a b : Q) (s : Int) : Q := QM.lo (a.1 * b.2 + s * b.1 * a.2) (a.2 * b.2)
def L3a (a b : Q) : List Q := [sm a b 1, sm a b (-1), QM.lo (a.1 * b.1) (a.2 * b.2), (-a.1, a.2)]
def L3b (a : Q) (k : Int) : List Q := [sm a (QM.int k) 1, sm a (QM.int k) (-1), QM.lo (a.1 * k) a.2]
def L3c (b : Q) : List Q := [sm b b 1, (0, 1), QM.lo (b.1 * b.1) (b.2 * b.2)]
def L3 (a b : Q) (k : Int) : List Q := L3a a b ++ L3b a k ++ L3c b
/-- what stands in the frame after the first five lines -/
def fr1 (C : Addr) (q : OC) (a b c : Q) (k : Int) (t u : Option S) : TL.Env := [some (.own q), some (.im (pq a)), some (.im (pq b)), some (.im (pq c)), some (.im (.int k)), some (.im (rq C a)), some (.im (rq C b)), some (.im (rq C c)), t, u, none]
abbrev NR : List Str := ["_law_q", "_law_a", "_law_b", "_law_c", "_law_k", "_law_one", "_law_two", "_law_three", "_law_told_here", "_law_due", "_law_x"]
section
variable {A : Around} {outer : List PySem.Env} {s : Shared} {H : Hp} {cdv : Value} {q : OC} {a b c : Q} {k : Int}
abbrev XR (P : Program) (w : World) (K : PySem.W.Frag) (mg : Str → Option Value) (base : Heap) (f : Addr) (cdv : Value) (A : Around) (outer : List PySem.Env) (s : Shared) (H : Hp) : Cx := (cxOf CX0 P w K mg base NR "_law_right" (defScope sRight) f cdv A outer s H E0).nox
abbrev AR (f : Addr) (cdv : Value) (A : Around) (s : Shared) : Around := A.deeper (PyProof.Rows.envOfC "_law_right" (defScope sRight) s.heap.objs.size f cdv)
def stR (i : Nat) : Stmt := (defBody sRight).getD i (.Pass ⟨0, 0, 0, 0⟩)
theorem st3 (D2 : Dp2 P w K mg base C) (hr : Room 5 (AR f cdv A s)) (hg : A.guards = some []) (A2 : QM.Ok 2000 a) (B2 : QM.Ok 2000 b) (k2 : Bd 2000 k) :
    TS (XR P w K mg base f cdv A outer s H) (stR 3) (fr1 C q a b c k none none) (.nx (fr1 C q a b c k (some (.im (.lst ((L1 a b k).map (rq C))))) none)) := by
  have h5 : ∀ {nm : Str} {pos : Pos}, nm = "_law_one" → TR (XR P w K mg base f cdv A outer s H) (.Name nm pos) (fr1 C q a b c k none none) (rq C a) (fr1 C q a b c k none none) := fun e => by subst e; exact tr_var (i := 5) rfl
  have h6 : ∀ {nm : Str} {pos : Pos}, nm = "_law_two" → TR (XR P w K mg base f cdv A outer s H) (.Name nm pos) (fr1 C q a b c k none none) (rq C b) (fr1 C q a b c k none none) := fun e => by subst e; exact tr_var (i := 6) rfl
  have h4 : ∀ {nm : Str} {pos : Pos}, nm = "_law_k" → TR (XR P w K mg base f cdv A outer s H) (.Name nm pos) (fr1 C q a b c k none none) (.int k) (fr1 C q a b c k none none) := fun e => by subst e; exact tr_var (i := 4) rfl
  refine ts_set (i := 8) (δ1 := fr1 C q a b c k none none) (d := .lst ((L1 a b k).map (rq C))) (tr_fr (tf_lst (ds := [rq C (QM.add a b), rq C (QM.sub a b), rq C (QM.mul a b), rq C (QM.neg a), rq C (QM.add a (QM.int k)), rq C (QM.sub a (QM.int k)), rq C (QM.mul a (QM.int k)), rq C (QM.add b b), rq C (QM.sub b b), rq C (QM.mul b b)]) ?_ (by show 10 ≤ 100000; decide))) Sh.refl (by intro _ h; cases h) scRight.nd
  refine ta_cons (tr_radd (x := a) (y := b) D2 hr hg (h5 rfl) (h6 rfl) A2 B2) ?_
  refine ta_cons (tr_rsub (x := a) (y := b) D2 hr hg (h5 rfl) (h6 rfl) A2 B2) ?_
  refine ta_cons (tr_rmul (x := a) (y := b) D2 hr hg (h5 rfl) (h6 rfl) A2 B2) ?_
  refine ta_cons (tr_rneg (x := a) D2 hr hg (h5 rfl) A2) ?_
  refine ta_cons (tr_raddI (x := a) (k := k) D2 hr hg (h5 rfl) (h4 rfl) A2 k2) ?_
  refine ta_cons (tr_rsubI (x := a) (k := k) D2 hr hg (h5 rfl) (h4 rfl) A2 k2) ?_
  refine ta_cons (tr_rmulI (x := a) (k := k) D2 hr hg (h5 rfl) (h4 rfl) A2 k2) ?_
  refine ta_cons (tr_radd (x := b) (y := b) D2 hr hg (h6 rfl) (h6 rfl) B2 B2) ?_
  refine ta_cons (tr_rsub (x := b) (y := b) D2 hr hg (h6 rfl) (h6 rfl) B2 B2) ?_
  refine ta_cons (tr_rmul (x := b) (y := b) D2 hr hg (h6 rfl) (h6 rfl) B2 B2) ?_
  exact ta_nil
end
end
end K03
set_option Elab.async false
set_option linter.all false
set_option maxRecDepth 100000
set_option autoImplicit false
set_option maxHeartbeats 1000000
namespace K03
open PySem L2 TL
/-! the plain side of _law_right -/
theorem L1_ok {a b : Q} {k : Int} (ha : QM.Ok 80 a) (hb : QM.Ok 80 b) (hk : Bd 150 k) : ∀ z ∈ L1 a b k, QM.Ok 1900 z := by
  have ki := QM.int_ok hk (by decide)
  intro z hz
  simp only [L1, List.mem_cons, List.not_mem_nil, or_false] at hz
  rcases hz with rfl | rfl | rfl | rfl | rfl | rfl | rfl | rfl | rfl | rfl
  · exact (ha.add hb).mono (by decide)
  · exact (ha.sub hb).mono (by decide)
  · exact (ha.mul hb).mono (by decide)
  · exact ha.neg.mono (by decide)
  · exact (ha.add ki).mono (by decide)
  · exact (ha.sub ki).mono (by decide)
  · exact (ha.mul ki).mono (by decide)
  · exact (hb.add hb).mono (by decide)
  · exact (hb.sub hb).mono (by decide)
  · exact (hb.mul hb).mono (by decide)
theorem sm1 (a b : Q) : sm a b 1 = QM.add a b := by unfold sm QM.add; rw [Int.one_mul]
theorem sm2 (a b : Q) : sm a b (-1) = QM.sub a b := by
  unfold sm QM.sub
  congr 1
  rw [Int.neg_mul, Int.one_mul, Int.neg_mul]
  rfl
theorem L1_L3 {a b : Q} {k : Int} (ha : QM.Ok 80 a) (hb : QM.Ok 80 b) : L1 a b k = L3 a b k := by
  have e4 := QM.neg_eq ha
  have e7 : QM.mul a (QM.int k) = QM.lo (a.1 * k) a.2 := by
    unfold QM.mul QM.int
    rw [Int.mul_one]
  have e9 := QM.sub_self hb
  unfold L3 L3a L3b L3c L1
  rw [sm1, sm2, sm1, sm2, sm1, e4, e7, e9]
  rfl
theorem txt11 : txt 1 1 = "(1, 1)" := by decide +kernel
section
variable {P : Program} {w : World} {K : PySem.W.Frag} {mg : Str → Option Value} {base : Heap} {f C : Addr} {fd : FuncData}
variable {A : Around} {outer : List PySem.Env} {s : Shared} {H : Hp} {cdv : Value} {q : OC} {a b c : Q} {k : Int} {t u : Option S} {d : D} {pos : Pos}
theorem v1 : TR (XR P w K mg base f cdv A outer s H) (.Name "_law_a" pos) (fr1 C q a b c k t u) (pq a) (fr1 C q a b c k t u) := tr_var (i := 1) rfl
theorem v2 : TR (XR P w K mg base f cdv A outer s H) (.Name "_law_b" pos) (fr1 C q a b c k t u) (pq b) (fr1 C q a b c k t u) := tr_var (i := 2) rfl
theorem v3 : TR (XR P w K mg base f cdv A outer s H) (.Name "_law_c" pos) (fr1 C q a b c k t u) (pq c) (fr1 C q a b c k t u) := tr_var (i := 3) rfl
theorem v4 : TR (XR P w K mg base f cdv A outer s H) (.Name "_law_k" pos) (fr1 C q a b c k t u) (.int k) (fr1 C q a b c k t u) := tr_var (i := 4) rfl
theorem v5 : TR (XR P w K mg base f cdv A outer s H) (.Name "_law_one" pos) (fr1 C q a b c k t u) (rq C a) (fr1 C q a b c k t u) := tr_var (i := 5) rfl
theorem v6 : TR (XR P w K mg base f cdv A outer s H) (.Name "_law_two" pos) (fr1 C q a b c k t u) (rq C b) (fr1 C q a b c k t u) := tr_var (i := 6) rfl
theorem v7 : TR (XR P w K mg base f cdv A outer s H) (.Name "_law_three" pos) (fr1 C q a b c k t u) (rq C c) (fr1 C q a b c k t u) := tr_var (i := 7) rfl
theorem v8 : TR (XR P w K mg base f cdv A outer s H) (.Name "_law_told_here" pos) (fr1 C q a b c k (some (.im d)) u) d (fr1 C q a b c k (some (.im d)) u) := tr_var (i := 8) rfl
theorem v9 : TR (XR P w K mg base f cdv A outer s H) (.Name "_law_due" pos) (fr1 C q a b c k t (some (.im d))) d (fr1 C q a b c k t (some (.im d))) := tr_var (i := 9) rfl
section
variable {X : Cx} {δ δ1 δ2 δ3 : TL.Env} {p' : Pos} {e e' e3 : Expr} {x y : Q} {sg : Int}
/-- _law_sum(x, y, s) -/
theorem tr_sum (G : Cal X.prog X.w X.K X.mg X.base "_law_sum" 3 rSum) (hr : Room 3 X.A) (gd : X.A.guards = some []) (h1 : TR X e δ (pq x) δ1) (h2 : TR X e' δ1 (pq y) δ2) (h3 : TR X e3 δ2 (.int sg) δ3) (hs : sg = 1 ∨ sg = -1) (hx : QM.Ok 2000 x) (hy : QM.Ok 2000 y) (hg : Gl X "_law_sum" := by rfl)
    (s1 : starEach [e, e', e3] X.env = (false, eval e X.env) :: starEach [e', e3] X.env := by rfl) (s2 : starEach [e', e3] X.env = (false, eval e' X.env) :: starEach [e3] X.env := by rfl) (s3 : starEach [e3] X.env = (false, eval e3 X.env) :: starEach [] X.env := by rfl) (s4 : (backTo pos (starEach [e', e3] X.env)).any (·.1) = false := by rfl) :
    TR X (.Call (.Name "_law_sum" p') [e, e', e3] [] pos) δ (pq (sm x y sg)) δ3 :=
  tr_call G hr gd (ta_cons h1 (ta_cons h2 (ta_cons h3 ta_nil s3) s2) s1) ⟨x.1, x.2, y.1, y.2, sg, rfl, hx.ne, hy.ne, hs, hx.b1, hx.b2, hy.b1, hy.b2, rfl, rfl⟩ hg (by decide) s1 s4
/-- _law_lowest(t, b) -/
theorem tr_low {n m : Int} (G : Cal X.prog X.w X.K X.mg X.base "_law_lowest" 2 rLowest) (hr : Room 2 X.A) (gd : X.A.guards = some []) (h1 : TR X e δ (.int n) δ1) (h2 : TR X e' δ1 (.int m) δ2) (h0 : m ≠ 0) (hb : Bd 8000 m) (hg : Gl X "_law_lowest" := by rfl)
    (s1 : starEach [e, e'] X.env = (false, eval e X.env) :: starEach [e'] X.env := by rfl) (s2 : starEach [e'] X.env = (false, eval e' X.env) :: starEach [] X.env := by rfl) (s4 : (backTo pos (starEach [e'] X.env)).any (·.1) = false := by rfl) :
    TR X (.Call (.Name "_law_lowest" p') [e, e'] [] pos) δ (pq (QM.lo n m)) δ2 :=
  tr_call G hr gd (ta_cons h1 (ta_cons h2 ta_nil s2) s1) ⟨n, m, rfl, h0, hb, rfl, rfl⟩ hg (by decide) s1 s4
end
variable (D2 : Dp2 P w K mg base C) (hr : Room 5 (AR f cdv A s)) (hg : A.guards = some [])
include D2 hr hg
theorem st4 (A2 : QM.Ok 2000 a) (B2 : QM.Ok 2000 b) : TS (XR P w K mg base f cdv A outer s H) (stR 4) (fr1 C q a b c k t none) (.nx (fr1 C q a b c k t (some (.im (.lst ((L3a a b).map pq)))))) := by
  have r3 := Room.mono (j := 3) hr (by decide)
  have r2 := Room.mono (j := 2) hr (by decide)
  refine ts_set (i := 9) (δ1 := fr1 C q a b c k t none) (d := .lst ((L3a a b).map pq)) (tr_fr (tf_lst (ds := [pq (sm a b 1), pq (sm a b (-1)), pq (QM.lo (a.1 * b.1) (a.2 * b.2)), pq (-a.1, a.2)]) ?_ (by show 4 ≤ 100000; decide))) Sh.refl (by intro _ h; cases h) scRight.nd
  refine ta_cons (tr_sum (x := a) (y := b) D2.sum r3 hg v1 v2 tr_int (.inl rfl) A2 B2) ?_
  refine ta_cons (tr_sum (x := a) (y := b) D2.sum r3 hg v1 v2 (tr_neg tr_int) (.inr rfl) A2 B2) ?_
  refine ta_cons (tr_low D2.low r2 hg (tr_mul (tr_q0 v1) (tr_q0 v2) (b22 A2.b1 B2.b1)) (tr_mul (tr_q1 v1) (tr_q1 v2) (b22 A2.b2 B2.b2)) (Int.mul_ne_zero A2.ne B2.ne) (b40 A2.b2 B2.b2)) ?_
  exact ta_cons (tr_tup (ta_cons (tr_neg (tr_q0 v1)) (ta_cons (tr_q1 v1) ta_nil)) (by show 2 ≤ 100000; decide)) ta_nil
theorem st5 {l : List Q} (hl : l.length ≤ 10) (A2 : QM.Ok 2000 a) (k2 : Bd 2000 k) : TS (XR P w K mg base f cdv A outer s H) (stR 5) (fr1 C q a b c k t (some (.im (.lst (l.map pq))))) (.nx (fr1 C q a b c k t (some (.im (.lst (l.map pq ++ (L3b a k).map pq)))))) := by
  have r3 := Room.mono (j := 3) hr (by decide)
  have r2 := Room.mono (j := 2) hr (by decide)
  have K2 := QM.int_ok k2 (by decide)
  refine ts_set (i := 9) (δ1 := fr1 C q a b c k t (some (.im (.lst (l.map pq))))) (d := .lst (l.map pq ++ (L3b a k).map pq)) (tr_fr (tf_cat v9 (tr_fr (tf_lst (ds := [pq (sm a (QM.int k) 1), pq (sm a (QM.int k) (-1)), pq (QM.lo (a.1 * k) a.2)]) ?_ (by show 3 ≤ 100000; decide))) (by simp [L3b]; omega))) Sh.refl (by intro _ h; cases h) scRight.nd
  refine ta_cons (tr_sum (x := a) (y := QM.int k) D2.sum r3 hg v1 (tr_tup (ta_cons v4 (ta_cons tr_int ta_nil)) (by show 2 ≤ 100000; decide)) tr_int (.inl rfl) A2 K2) ?_
  refine ta_cons (tr_sum (x := a) (y := QM.int k) D2.sum r3 hg v1 (tr_tup (ta_cons v4 (ta_cons tr_int ta_nil)) (by show 2 ≤ 100000; decide)) (tr_neg tr_int) (.inr rfl) A2 K2) ?_
  exact ta_cons (tr_low D2.low r2 hg (tr_mul (tr_q0 v1) v4 (b22 A2.b1 k2)) (tr_q1 v1) A2.ne (A2.b2.mono (by decide))) ta_nil
theorem st6 {l : List D} (hl : l.length ≤ 20) (B2 : QM.Ok 2000 b) : TS (XR P w K mg base f cdv A outer s H) (stR 6) (fr1 C q a b c k t (some (.im (.lst l)))) (.nx (fr1 C q a b c k t (some (.im (.lst (l ++ (L3c b).map pq)))))) := by
  have r3 := Room.mono (j := 3) hr (by decide)
  have r2 := Room.mono (j := 2) hr (by decide)
  refine ts_set (i := 9) (δ1 := fr1 C q a b c k t (some (.im (.lst l)))) (d := .lst (l ++ (L3c b).map pq)) (tr_fr (tf_cat v9 (tr_fr (tf_lst (ds := [pq (sm b b 1), pq (0, 1), pq (QM.lo (b.1 * b.1) (b.2 * b.2))]) ?_ (by show 3 ≤ 100000; decide))) (by simp [L3c]; omega))) Sh.refl (by intro _ h; cases h) scRight.nd
  refine ta_cons (tr_sum (x := b) (y := b) D2.sum r3 hg v2 v2 tr_int (.inl rfl) B2 B2) ?_
  refine ta_cons (tr_tup (ta_cons tr_int (ta_cons tr_int ta_nil)) (by show 2 ≤ 100000; decide)) ?_
  exact ta_cons (tr_low D2.low r2 hg (tr_mul (tr_q0 v2) (tr_q0 v2) (b22 B2.b1 B2.b1)) (tr_mul (tr_q1 v2) (tr_q1 v2) (b22 B2.b2 B2.b2)) (Int.mul_ne_zero B2.ne B2.ne) (b40 B2.b2 B2.b2)) ta_nil
end
end K03
set_option Elab.async false
set_option linter.all false
set_option maxRecDepth 100000
set_option autoImplicit false
set_option maxHeartbeats 1000000
namespace K03
open PySem L2 TL
def cond : Stmt → Expr
  | .If c _ _ _ => c
  | _ => .Constant .none 0 ⟨0, 0, 0, 0⟩
def thenB : Stmt → List Stmt
  | .If _ b _ _ => b
  | _ => []
def retE : Stmt → Expr
  | .Return (some e) _ => e
  | _ => .Constant .none 0 ⟨0, 0, 0, 0⟩
section
variable {P : Program} {w : World} {K : PySem.W.Frag} {mg : Str → Option Value} {base : Heap} {f C : Addr} {fd : FuncData}
variable {A : Around} {outer : List PySem.Env} {s : Shared} {H : Hp} {cdv : Value} {q : OC} {a b c : Q} {k : Int} {t u : Option S} {d : D} {pos : Pos}
theorem int_b {k : Int} (hk : Bd 150 k) : QM.Ok 150 (QM.int k) := QM.int_ok hk (by decide)
theorem L3_ok (ha : QM.Ok 80 a) (hb : QM.Ok 80 b) (hk : Bd 150 k) : ∀ z ∈ L3 a b k, QM.Ok 1900 z := by rw [← L1_L3 ha hb]; exact L1_ok ha hb hk
variable (B : Blt mg) (D2 : Dp2 P w K mg base C) (hr : Room 5 (AR f cdv A s)) (hg : A.guards = some [])
include B D2 hr hg
theorem tt7 (na : QM.Ok 80 a) (nb : QM.Ok 80 b) (kb : Bd 150 k) :
    TT (XR P w K mg base f cdv A outer s H) (cond (stR 7)) (fr1 C q a b c k (some (.im (.lst ((L1 a b k).map (rq C))))) (some (.im (.lst ((L3 a b k).map pq))))) false (fr1 C q a b c k (some (.im (.lst ((L1 a b k).map (rq C))))) (some (.im (.lst ((L3 a b k).map pq))))) := by
  have hu := units_of hr
  have r3 := Room.mono (j := 3) hr (by decide)
  refine tt_k (tt_neD (x := .lst ((L1 a b k).map tx)) (y := .lst ((L3 a b k).map tx)) (tr_fr (tf_lcm (i := 10) (L1 a b k) (rq C) tx v8 rfl (by show 10 ≤ 100000; decide) (fun z hz s' H' C' cl fp => ?_) scRight.nd (blkOk_by (N := NR) (sc := defScope sRight) (by decide +kernel)) (fun _ _ _ _ _ => pg_name (i := 10) scRight.nd rfl (Or.inl rfl))))
    (tr_fr (tf_lcm (i := 10) (L3 a b k) pq tx v9 rfl (by show 10 ≤ 100000; decide) (fun z hz s' H' C' cl fp => ?_) scRight.nd (blkOk_by (N := NR) (sc := defScope sRight) (by decide +kernel)) (fun _ _ _ _ _ => pg_name (i := 10) scRight.nd rfl (Or.inl rfl)))) hu (txs_data _) (txs_data _) (txs_shaped _) (txs_shaped _)) (by rw [L1_L3 na nb, txs_eq]; rfl)
  · have o := L1_ok na nb kb z hz
    exact tr_call D2.told r3 hg (ta_cons (tr_var (i := 10) rfl) ta_nil) ⟨z.1, z.2, rfl, o.b1, o.b2, rfl, rfl⟩
  · have o := L3_ok na nb kb z hz
    exact tr_repr B.repr hg hu (tr_var (i := 10) rfl) o.b1 o.b2
theorem bo8 (na : QM.Ok 80 a) (nb : QM.Ok 80 b) (h0 : b.1 ≠ 0) :
    TB (XR P w K mg base f cdv A outer s H) (thenB (stR 8)) (fr1 C q a b c k (some (.im d)) u) (.nx (fr1 C q a b c k (some (.im (.lst ((L2 a b).map tx)))) u)) := by
  have hu := units_of hr
  have r3 := Room.mono (j := 3) hr (by decide)
  have r2 := Room.mono (j := 2) hr (by decide)
  have A2 := na.mono (m := 2000) (by decide)
  have B2 := nb.mono (m := 2000) (by decide)
  have oab := (na.ov nb h0).mono (m := 1900) (by decide)
  have obb := (nb.ov nb h0).mono (m := 1900) (by decide)
  have ol : ∀ z ∈ L2 a b, QM.Ok 1900 z := by
    intro z hz
    simp only [L2, List.mem_cons, List.not_mem_nil, or_false] at hz
    rcases hz with rfl | rfl | rfl <;> assumption
  refine tb_cons (ts_setLcm (i := 10) (j := 8) (δ1 := fr1 C q a b c k (some (.im d)) u) (L2 a b) (rq C) tx (tr_fr (tf_lst (ds := [rq C (QM.ov a b), rq C (QM.ov a b), rq C (QM.ov b b)])
      (ta_cons (tr_meth D2.D1.c.cls.cl D2.over hr hg v5 rfl (ta_cons v6 ta_nil) ⟨_, _, _, _, _, rfl, .inr rfl, A2.b1, A2.b2, B2.b1, B2.b2, Int.mul_ne_zero A2.ne h0, rfl, rfl⟩)
      (ta_cons (tr_methK D2.D1.c.cls.cl D2.overK hr hg v5 rfl (tk_cons v6 tk_nil) rfl ⟨_, _, _, _, _, rfl, .inr rfl, A2.b1, A2.b2, B2.b1, B2.b2, Int.mul_ne_zero A2.ne h0, rfl, rfl⟩)
      (ta_cons (tr_meth D2.D1.c.cls.cl D2.over hr hg v6 rfl (ta_cons v6 ta_nil) ⟨_, _, _, _, _, rfl, .inr rfl, B2.b1, B2.b2, B2.b1, B2.b2, Int.mul_ne_zero B2.ne h0, rfl, rfl⟩) ta_nil))) (by show 3 ≤ 100000; decide)))
      rfl (by show 3 ≤ 100000; decide) (fun z hz s' H' C' cl fp => ?_) scRight.nd (blkOk_by (N := NR) (sc := defScope sRight) (by decide +kernel)) (fun _ _ _ _ _ => pg_name (i := 10) scRight.nd rfl (Or.inl rfl)) Sh.refl (by intro _ h; cases h)) ?_
  · have o := ol z hz
    exact tr_call D2.told r3 hg (ta_cons (tr_var (i := 10) rfl) ta_nil) ⟨z.1, z.2, rfl, o.b1, o.b2, rfl, rfl⟩
  · refine tb_if (k := false) (tt_k (tt_neD (x := .lst ((L2 a b).map tx)) (y := .lst ((L2 a b).map tx)) v8 (tr_is (tr_fr (tf_cat (tr_fr (tf_rep (xs := [tx (QM.ov a b)]) (n := 2) (tr_fr (tf_lst (ta_cons (tr_repr B.repr hg hu (tr_low D2.low r2 hg (tr_mul (tr_q0 v1) (tr_q1 v2) (b22 A2.b1 B2.b2)) (tr_mul (tr_q1 v1) (tr_q0 v2) (b22 A2.b2 B2.b1)) (Int.mul_ne_zero A2.ne h0) (b40 A2.b2 B2.b1)) oab.b1 oab.b2) ta_nil) (by show 1 ≤ 100000; decide))) tr_int (by decide) (by decide) (by show 1 ≤ 100; decide)))
      (tr_fr (tf_lst (ds := [.str "(1, 1)"]) (ta_cons tr_str ta_nil) (by show 1 ≤ 100000; decide))) (by show 3 ≤ 100000; decide))) ?_) hu (txs_data _) (txs_data _) (txs_shaped _) (txs_shaped _)) (by rw [txs_eq]; rfl)) Sh.refl (fun h => by cases h) (fun _ => ⟨_, tb_nil, sq_nx tb_nil⟩)
    show D.lst [tx (QM.ov a b), tx (QM.ov a b), D.str "(1, 1)"] = .lst [tx (QM.ov a b), tx (QM.ov a b), tx (QM.ov b b)]
    rw [QM.ov_self nb h0, ← txt11]
    rfl
theorem tt9 (na : QM.Ok 80 a) (kb : Bd 150 k) : TT (XR P w K mg base f cdv A outer s H) (cond (stR 9)) (fr1 C q a b c k t u) false (fr1 C q a b c k t u) := by
  have hu := units_of hr
  have r3 := Room.mono (j := 3) hr (by decide)
  have r2 := Room.mono (j := 2) hr (by decide)
  have A2 := na.mono (m := 2000) (by decide)
  have K2 := (int_b kb).mono (m := 2000) (by decide)
  refine tt_k (tt_w (tw_and (l := false) (tt_neI v4 tr_int) (fun hk => tw_and1 (tt_k (tt_neS (δ1 := fr1 C q a b c k t u) (i := txt (QM.ov a (QM.int k)).1 (QM.ov a (QM.int k)).2) (j := txt (QM.lo a.1 (a.2 * k)).1 (QM.lo a.1 (a.2 * k)).2) ?_ ?_) ?_)))) (Bool.and_false _)
  all_goals (have h0 : k ≠ 0 := by simpa using hk)
  · have o := (na.ov (int_b kb) (by exact h0)).mono (m := 1900) (by decide)
    exact tr_call D2.told r3 hg (ta_cons (tr_meth D2.D1.c.cls.cl D2.over hr hg v5 rfl (ta_cons v4 ta_nil) ⟨_, _, _, k, 1, rfl, .inl ⟨rfl, rfl⟩, A2.b1, A2.b2, K2.b1, K2.b2, Int.mul_ne_zero A2.ne h0, rfl, rfl⟩) ta_nil) ⟨(QM.ov a (QM.int k)).1, (QM.ov a (QM.int k)).2, rfl, o.b1, o.b2, rfl, rfl⟩
  · have o : QM.Ok 1900 (QM.lo a.1 (a.2 * k)) := QM.lo_ok (Int.mul_ne_zero A2.ne h0) (na.b1.mono (by decide)) ((na.b2.mul kb).mono (by decide))
    exact tr_repr B.repr hg hu (tr_low D2.low r2 hg (tr_q0 v1) (tr_mul (tr_q1 v1) v4 (b22 A2.b2 K2.b1)) (Int.mul_ne_zero A2.ne h0) (b40 A2.b2 K2.b1)) o.b1 o.b2
  · have e : QM.ov a (QM.int k) = QM.lo a.1 (a.2 * k) := by
      show QM.lo (a.1 * 1) (a.2 * k) = _
      rw [Int.mul_one]
    rw [e]
    simp
omit B in
theorem tt10 (na : QM.Ok 80 a) (nb : QM.Ok 80 b) (nc : QM.Ok 80 c) : TT (XR P w K mg base f cdv A outer s H) (cond (stR 10)) (fr1 C q a b c k t u) false (fr1 C q a b c k t u) := by
  have A2 := na.mono (m := 2000) (by decide)
  have B2 := nb.mono (m := 2000) (by decide)
  have C2 := nc.mono (m := 2000) (by decide)
  have ab := (na.add nb).mono (m := 2000) (by decide)
  have ac := (na.mul nc).mono (m := 2000) (by decide)
  have bc := (nb.mul nc).mono (m := 2000) (by decide)
  exact tt_k (tt_w (tw_or (tt_rne D2 hr hg (tr_rsub D2 hr hg (tr_radd D2 hr hg v5 v6 A2 B2) v6 ab B2) v5 (QM.add_sub na nb)) (fun _ => tw_or1 (tt_rne D2 hr hg (tr_rmul D2 hr hg (tr_radd D2 hr hg v5 v6 A2 B2) v7 ab C2) (tr_radd D2 hr hg (tr_rmul D2 hr hg v5 v7 A2 C2) (tr_rmul D2 hr hg v6 v7 B2 C2) ac bc) (QM.distr na nb nc))))) rfl
omit B in
theorem tt11 (na : QM.Ok 80 a) (nb : QM.Ok 80 b) (nc : QM.Ok 80 c) : TT (XR P w K mg base f cdv A outer s H) (cond (stR 11)) (fr1 C q a b c k t u) false (fr1 C q a b c k t u) := by
  have A2 := na.mono (m := 2000) (by decide)
  have B2 := nb.mono (m := 2000) (by decide)
  have C2 := nc.mono (m := 2000) (by decide)
  have ab := (na.add nb).mono (m := 2000) (by decide)
  have bc := (nb.add nc).mono (m := 2000) (by decide)
  have ba := (nb.sub na).mono (m := 2000) (by decide)
  exact tt_k (tt_w (tw_or (tt_rne D2 hr hg (tr_radd D2 hr hg v5 (tr_radd D2 hr hg v6 v7 B2 C2) A2 bc) (tr_radd D2 hr hg (tr_radd D2 hr hg v5 v6 A2 B2) v7 ab C2) (QM.assoc na nb nc)) (fun _ => tw_or1 (tt_rne D2 hr hg (tr_rsub D2 hr hg v5 v6 A2 B2) (tr_rneg D2 hr hg (tr_rsub D2 hr hg v6 v5 B2 A2) ba) (QM.sub_neg na nb))))) rfl
omit B in
theorem tt12 (na : QM.Ok 80 a) (nb : QM.Ok 80 b) : TT (XR P w K mg base f cdv A outer s H) (cond (stR 12)) (fr1 C q a b c k t u) false (fr1 C q a b c k t u) := by
  have A2 := na.mono (m := 2000) (by decide)
  have B2 := nb.mono (m := 2000) (by decide)
  exact tt_k (tt_w (tw_or (tt_rne D2 hr hg (tr_rmul D2 hr hg v5 v6 A2 B2) (tr_rmul D2 hr hg v6 v5 B2 A2) (QM.mul_comm na nb)) (fun _ => tw_or1 (tt_rne D2 hr hg (tr_radd D2 hr hg v5 v6 A2 B2) (tr_radd D2 hr hg v5 v6 A2 B2) rfl)))) rfl
theorem ret13 (na : QM.Ok 80 a) (nb : QM.Ok 80 b) (nc : QM.Ok 80 c) : TR (XR P w K mg base f cdv A outer s H) (retE (stR 13)) (fr1 C q a b c k t u) (.bl true) (fr1 C q a b c k t u) := by
  have hu := units_of hr
  have r3 := Room.mono (j := 3) hr (by decide)
  have ol : ∀ z ∈ [a, b, c], QM.Ok 1900 z := by
    intro z hz
    simp only [List.mem_cons, List.not_mem_nil, or_false] at hz
    rcases hz with rfl | rfl | rfl
    · exact na.mono (by decide)
    · exact nb.mono (by decide)
    · exact nc.mono (by decide)
  refine tr_is (tr_eqD (x := .lst ([a, b, c].map tx)) (y := .lst ([a, b, c].map tx)) (tr_fr (tf_lcm (i := 10) [a, b, c] (rq C) tx (tr_fr (tf_lst (ds := [rq C a, rq C b, rq C c]) (ta_cons v5 (ta_cons v6 (ta_cons v7 ta_nil))) (by show 3 ≤ 100000; decide))) rfl (by show 3 ≤ 100000; decide) (fun z hz s' H' C' cl fp => ?_) scRight.nd (blkOk_by (N := NR) (sc := defScope sRight) (by decide +kernel)) (fun _ _ _ _ _ => pg_name (i := 10) scRight.nd rfl (Or.inl rfl))))
    (tr_fr (tf_lcm (i := 10) [a, b, c] pq tx (tr_fr (tf_lst (ds := [pq a, pq b, pq c]) (ta_cons v1 (ta_cons v2 (ta_cons v3 ta_nil))) (by show 3 ≤ 100000; decide))) rfl (by show 3 ≤ 100000; decide) (fun z hz s' H' C' cl fp => ?_) scRight.nd (blkOk_by (N := NR) (sc := defScope sRight) (by decide +kernel)) (fun _ _ _ _ _ => pg_name (i := 10) scRight.nd rfl (Or.inl rfl)))) hu (txs_data _) (txs_data _) (txs_shaped _) (txs_shaped _)) (by rw [txs_eq])
  · have o := ol z hz
    exact tr_call D2.told r3 hg (ta_cons (tr_var (i := 10) rfl) ta_nil) ⟨z.1, z.2, rfl, o.b1, o.b2, rfl, rfl⟩
  · have o := ol z hz
    exact tr_repr B.repr hg hu (tr_var (i := 10) rfl) o.b1 o.b2
end
end K03
set_option Elab.async false
set_option linter.all false
set_option maxRecDepth 100000
set_option autoImplicit false
set_option maxHeartbeats 1000000
namespace K03
open PySem L2 TL
section
variable {P : Program} {w : World} {K : PySem.W.Frag} {mg : Str → Option Value} {base : Heap} {f C : Addr} {fd : FuncData}
section
variable {A : Around} {outer : List PySem.Env} {s : Shared} {H : Hp} {cdv : Value} {q : OC} {a b c : Q} {k : Int} {t u : Option S} {d : D} {pos : Pos}
def fr0 (q : OC) (a b c : Q) (k : Option S) : TL.Env := [some (.own q), some (.im (pq a)), some (.im (pq b)), some (.im (pq c)), k, none, none, none, none, none, none]
theorem st0 {p : PU.Pu} {n : Nat} (D2 : Dp2 P w K mg base C) (hr : Room 5 (AR f cdv A s)) (hg : A.guards = some []) (hok : PU.Ok n p) (hn : n ≤ 1000) :
    TS (XR P w K mg base f cdv A outer s H) (stR 0) [some (.own (puD p)), none, none, none, none, none, none, none, none, none, none] (.nx (fr0 (puD (near (near (near p).2).2).2) (nq p) (nq (near p).2) (nq (near (near p).2).2) none)) := by
  have r3 := Room.mono (j := 3) hr (by decide)
  have o1 := near_pu hok
  have o2 := near_pu o1
  exact ts_par3 (i := 1) (j := 2) (l := 3) (ta_cons (tr_near (i := 0) D2.near r3 hg rfl hok (by omega)) (ta_cons (tr_near (i := 0) D2.near r3 hg rfl o1 (by omega)) (ta_cons (tr_near (i := 0) D2.near r3 hg rfl o2 (by omega)) ta_nil)))
    (sh_own (sh_no (sh_no (sh_no (sh_no (sh_no (sh_no (sh_no (sh_no (sh_no (sh_no sh_nil))))))))))) (by intro _ h; cases h) (by intro _ h; cases h) (by intro _ h; cases h) scRight.nd
theorem st1 {p : PU.Pu} {n : Nat} (D2 : Dp2 P w K mg base C) (hr : Room 5 (AR f cdv A s)) (hg : A.guards = some []) (hok : PU.Ok n p) (hn : n ≤ 10000) :
    TS (XR P w K mg base f cdv A outer s H) (stR 1) (fr0 (puD p) a b c none) (.nx (fr0 (puD (great p).2) a b c (some (.im (.int (great p).1))))) := by
  have r2 := Room.mono (j := 2) hr (by decide)
  exact ts_set (i := 4) (tr_great (i := 0) D2.great r2 hg rfl hok (by omega)) (sh_own (sh_im (sh_im (sh_im (sh_no (sh_no (sh_no (sh_no (sh_no (sh_no (sh_no sh_nil))))))))))) (by intro _ h; cases h) scRight.nd
theorem st2 (D2 : Dp2 P w K mg base C) (hr : Room 5 (AR f cdv A s)) (hg : A.guards = some []) (A2 : QM.Ok 2000 a) (B2 : QM.Ok 2000 b) (C2 : QM.Ok 2000 c) :
    TS (XR P w K mg base f cdv A outer s H) (stR 2) (fr0 q a b c (some (.im (.int k)))) (.nx (fr1 C q a b c k none none)) := by
  have r3 := Room.mono (j := 3) hr (by decide)
  exact ts_par3 (i := 5) (j := 6) (l := 7) (ta_cons (tr_ratio D2.D1 r3 hg (tr_var (i := 1) rfl) A2) (ta_cons (tr_ratio D2.D1 r3 hg (tr_var (i := 2) rfl) B2) (ta_cons (tr_ratio D2.D1 r3 hg (tr_var (i := 3) rfl) C2) ta_nil))) Sh.refl (by intro _ h; cases h) (by intro _ h; cases h) (by intro _ h; cases h) scRight.nd
theorem right_rest (B : Blt mg) (D2 : Dp2 P w K mg base C) (hr : Room 5 (AR f cdv A s)) (hg : A.guards = some []) (na : QM.Ok 80 a) (nb : QM.Ok 80 b) (nc : QM.Ok 80 c) (kb : Bd 150 k) :
    TB (XR P w K mg base f cdv A outer s H) ((defBody sRight).drop 9) (fr1 C q a b c k t u) (.rt (.im (.bl true)) (fr1 C q a b c k t u)) := by
  refine tb_if (tt9 B D2 hr hg na kb) Sh.refl (fun h => by cases h) (fun _ => ⟨_, tb_nil, sq_nx ?_⟩)
  refine tb_if (tt10 D2 hr hg na nb nc) Sh.refl (fun h => by cases h) (fun _ => ⟨_, tb_nil, sq_nx ?_⟩)
  refine tb_if (tt11 D2 hr hg na nb nc) Sh.refl (fun h => by cases h) (fun _ => ⟨_, tb_nil, sq_nx ?_⟩)
  refine tb_if (tt12 D2 hr hg na nb) Sh.refl (fun h => by cases h) (fun _ => ⟨_, tb_nil, sq_nx ?_⟩)
  exact tb_stop (ts_ret (ret13 B D2 hr hg na nb nc) Sh.refl)
theorem right_mid (B : Blt mg) (D2 : Dp2 P w K mg base C) (hr : Room 5 (AR f cdv A s)) (hg : A.guards = some []) (na : QM.Ok 80 a) (nb : QM.Ok 80 b) (nc : QM.Ok 80 c) (kb : Bd 150 k) :
    ∃ t u, TB (XR P w K mg base f cdv A outer s H) ((defBody sRight).drop 2) (fr0 q a b c (some (.im (.int k)))) (.rt (.im (.bl true)) (fr1 C q a b c k t u)) := by
  have A2 := na.mono (m := 2000) (by decide)
  have B2 := nb.mono (m := 2000) (by decide)
  have C2 := nc.mono (m := 2000) (by decide)
  have k2 : Bd 2000 k := kb.mono (by decide)
  by_cases h0 : b.1 = 0
  · refine ⟨some (.im (.lst ((L1 a b k).map (rq C)))), some (.im (.lst ((L3 a b k).map pq))), tb_cons (st2 D2 hr hg A2 B2 C2) (tb_cons (st3 D2 hr hg A2 B2 k2) (tb_cons (st4 D2 hr hg A2 B2) (tb_cons (st5 D2 hr hg (by show 4 ≤ 10; decide) A2 k2) (tb_cons (st6 D2 hr hg (by show 7 ≤ 20; decide) B2) (tb_if (tt7 B D2 hr hg na nb kb) Sh.refl (fun h => by cases h) (fun _ => ⟨_, tb_nil, sq_nx ?_⟩))))))⟩
    exact tb_if (k := false) (tt_k (tt_neI (tr_q0 v2) tr_int) (by simp [h0])) Sh.refl (fun h => by cases h) (fun _ => ⟨_, tb_nil, sq_nx (right_rest B D2 hr hg na nb nc kb)⟩)
  · refine ⟨some (.im (.lst ((L2 a b).map tx))), some (.im (.lst ((L3 a b k).map pq))), tb_cons (st2 D2 hr hg A2 B2 C2) (tb_cons (st3 D2 hr hg A2 B2 k2) (tb_cons (st4 D2 hr hg A2 B2) (tb_cons (st5 D2 hr hg (by show 4 ≤ 10; decide) A2 k2) (tb_cons (st6 D2 hr hg (by show 7 ≤ 20; decide) B2) (tb_if (tt7 B D2 hr hg na nb kb) Sh.refl (fun h => by cases h) (fun _ => ⟨_, tb_nil, sq_nx ?_⟩))))))⟩
    exact tb_if (k := true) (tt_k (tt_neI (tr_q0 v2) tr_int) (by simp [h0])) Sh.refl (fun _ => ⟨_, bo8 B D2 hr hg na nb h0, sq_nx (right_rest B D2 hr hg na nb nc kb)⟩) (fun h => by cases h)
end
theorem ok_right (F : Fun K "_law_right" "_law_right" sRight f fd) (B : Blt mg) (D2 : Dp2 P w K mg base C) : FnK P w K mg base 6 f fd ["_law_q"] rRight := by
  obtain ⟨oc, od, kV, doc, pm, an, cdv, ct, osl, rfl, lk, hcd⟩ := F.ex
  refine fnK_of lk hcd scRight (fun A outer s H ss r ss' hr hg hR hl => ?_)
  obtain ⟨p, n, rfl, hok, hn, rfl, rfl⟩ := hR
  have o3 := near_pu (near_pu (near_pu hok))
  obtain ⟨t, u, h⟩ := right_mid (outer := outer) (H := H) (q := puD (great (near (near (near p).2).2).2).2) B D2 hr hg (near_ok p) (near_ok (near p).2) (near_ok (near (near p).2).2) (great_bd (near (near (near p).2).2).2)
  exact ⟨_, _, tb_cons (st0 D2 hr hg hok hn) (tb_cons (st1 D2 hr hg o3 (by omega)) h), finO1 rfl, .inl rfl⟩
end
end K03
set_option Elab.async false
set_option linter.all false
set_option maxRecDepth 100000
set_option autoImplicit false
set_option maxHeartbeats 1000000
namespace K03
open PySem L2 TL
section
variable {P : Program} {w : World} {K : PySem.W.Frag} {mg : Str → Option Value} {base : Heap} {f C : Addr} {fd : FuncData}
def rLaw (K : PySem.W.Frag) : TL.Spec := fun ss r ss' => ∃ a ns, ss = [.im (.scr K a ns)] ∧ ns.length ≤ 63 ∧ r = .im (.bl true) ∧ ss' = ss
theorem scLaw : FnScope ["_law_script", "_law_k"] ["_law_script"] (defScope sLaw) := ⟨rfl, rfl, rfl, by decide +kernel, rfl, by decide +kernel, by decide +kernel⟩
theorem ok_law (F : Fun K "law" "law" sLaw f fd) (B : Blt mg) (cR : Cal P w K mg base "_law_right" 6 rRight) (cF : Cal P w K mg base "_law_from" 2 (rFrom K)) : FnK P w K mg base 7 f fd ["_law_script"] (rLaw K) := by
  obtain ⟨oc, od, kV, doc, pm, an, cdv, ct, osl, rfl, lk, hcd⟩ := F.ex
  refine fnK_of lk hcd scLaw (fun A outer s H ss r ss' hr hg hR hl => ?_)
  obtain ⟨a, ns, rfl, hn, rfl, rfl⟩ := hR
  have r2 := Room.mono (j := 2) hr (by decide)
  have hm : 0 ≤ (if (if (6 : Int) < (ns.length : Int) then (6 : Int) else (ns.length : Int)) > 1 then (if (6 : Int) < (ns.length : Int) then (6 : Int) else (ns.length : Int)) else 1) ∧ (if (if (6 : Int) < (ns.length : Int) then (6 : Int) else (ns.length : Int)) > 1 then (if (6 : Int) < (ns.length : Int) then (6 : Int) else (ns.length : Int)) else 1) ≤ 6 := by
    split <;> split <;> omega
  refine ⟨.rt _ [some (.im (.scr K a ns)), none], _, ?_, fin1, .inl rfl⟩
  refine tb_stop (ts_ret (tr_is (tr_callB (cr_all rfl) B.all (by decide +kernel) (ta_cons (tr_fr (tf_lcR (i := 1) (n := if (if (6 : Int) < (ns.length : Int) then (6 : Int) else (ns.length : Int)) > 1 then (if (6 : Int) < (ns.length : Int) then (6 : Int) else (ns.length : Int)) else 1) (fun _ => [some (.im (.scr K a ns)), none]) ((List.replicate (if (if (6 : Int) < (ns.length : Int) then (6 : Int) else (ns.length : Int)) > 1 then (if (6 : Int) < (ns.length : Int) then (6 : Int) else (ns.length : Int)) else 1).toNat true).map D.bl)
    (tr_callB (call_max2 rfl) B.max (by decide +kernel) (ta_cons tr_int (ta_cons (tr_callB (call_min2 rfl) B.min (by decide +kernel) (ta_cons (tr_callB call_len_seq B.len (by decide +kernel) (ta_cons (tr_var (i := 0) rfl) ta_nil) ca_lenS) (ta_cons tr_int ta_nil)) ca_min2) ta_nil)) ca_max2)
    (fun _ => rfl) hm.1 (by omega) (by simp) (fun k y hk hy s' H' C' cl fp => ?_) B.range scLaw.nd (blkOk_by (N := ["_law_script", "_law_k"]) (sc := defScope sLaw) (by decide +kernel)) (fun _ _ _ _ _ => pg_name (i := 1) scLaw.nd rfl (Or.inl rfl)))) ta_nil) ca_all) (by simp)) Sh.refl)
  have hy2 : y = .bl true := by
    obtain ⟨b, hb, e⟩ := List.mem_map.mp (List.mem_of_getElem? hy)
    rw [← e, List.eq_of_mem_replicate hb]
  subst hy2
  exact tr_callF cR hr hg (tf_call cF r2 hg (ta_cons (tr_var (i := 0) rfl) (ta_cons (tr_var (i := 1) rfl) ta_nil)) ⟨a, ns, k, rfl, by omega, rfl, rfl⟩) ⟨rotP ns k, 0, rfl, rotP_ok ns k, by decide, rfl, rfl⟩
end
end K03
set_option Elab.async false
set_option linter.all false
set_option maxRecDepth 100000
set_option autoImplicit false
set_option maxHeartbeats 1000000
namespace K03
open PySem L2 TL
theorem kit_rt {K : PySem.W.Frag} {C : Addr} {T : String} {b : Bool} (h1 : PySem.W.kitMeta T = true) (h2 : PySem.W.mroIn K C (.type T) = some b) : PySem.W.kitOne K (.ref C) (.type T) = some b := by
  show (if PySem.W.kitMeta T = true then PySem.W.subIn K (.ref C) (.type T) else none) = some b
  rw [if_pos h1]
  exact h2
theorem kit_tr {K : PySem.W.Frag} {C : Addr} {T : String} {b : Bool} {cd : ClassData} (h1 : PySem.W.clsIn K C = some cd) (h2 : PySem.W.typeIn K (.ref C) = some (.type "type")) (h3 : PySem.W.subIn K (.type T) (.ref C) = some b) : PySem.W.kitOne K (.type T) (.ref C) = some b := by
  show (if ((PySem.W.clsIn K C).isSome && PySem.W.typeIn K (.ref C) == some (.type "type")) = true then PySem.W.subIn K (.type T) (.ref C) else none) = some b
  rw [h1, h2, if_pos (by show (true && (some (Value.type "type") == some (Value.type "type"))) = true; decide)]
  exact h3
theorem kit_self {K : PySem.W.Frag} {C : Addr} : PySem.W.kitOne K (.ref C) (.ref C) = some true := by
  unfold PySem.W.kitOne
  rw [if_pos (by simp)]
theorem scTop : FnScope ["self"] ["self"] (defScope sTop) := ⟨rfl, rfl, rfl, by decide +kernel, rfl, by decide +kernel, by decide +kernel⟩
theorem scBottom : FnScope ["self"] ["self"] (defScope sBottom) := ⟨rfl, rfl, rfl, by decide +kernel, rfl, by decide +kernel, by decide +kernel⟩
theorem init_binds {K : PySem.W.Frag} {fI : Addr} {fd : FuncData} (F : FunD K "__init__" "Ratio.__init__" (defArgs sInit) (defBody sInit) (defScope sInit) [.int 1] [] fI fd) : Binds K fd ["self", "top", "bottom"] [] := by
  obtain ⟨ds, hv, hb⟩ := F.binds1 (ps := ["self", "top", "bottom"]) 3 1 (by simp) rfl (fun T kV doc pm an cdv ct us its hl hl2 => match us, its, hl, hl2 with | [_, _, _], [_], _, _ => ⟨_, rfl, rfl⟩)
  cases hv
  exact hb
theorem init_binds1 {K : PySem.W.Frag} {fI : Addr} {fd : FuncData} (F : FunD K "__init__" "Ratio.__init__" (defArgs sInit) (defBody sInit) (defScope sInit) [.int 1] [] fI fd) : ∃ ds, Vals [.int 1] ds ∧ Binds K fd ["self", "top", "bottom"] ds :=
  F.binds1 (ps := ["self", "top", "bottom"]) 2 0 (by simp) rfl (fun T kV doc pm an cdv ct us its hl hl2 => match us, its, hl, hl2 with | [_, _], [_], _, _ => ⟨_, rfl, rfl⟩)
theorem over_kw {K : PySem.W.Frag} {f : Addr} {fd : FuncData} (F : Fun K "over" "Ratio.over" sOver f fd) (s : Shared) (us ws : List Value) (hu : us.length = 1) (hw : ws.length = 1) : BindsTo s fd ⟨us, (["other"] : List Str).zip ws⟩ ((["self", "other"] : List Str).zip (us ++ ws)) := by
  obtain ⟨oc, od, kV, doc, pm, an, cdv, ct, osl, rfl, lk, hcd⟩ := F.ex
  match us, ws, hu, hw with
  | [_], [_], _, _ => exact .of_eq rfl
theorem all_mk {l : PySem.W.OpenLaw} {w : World} {K : PySem.W.Frag} {h : Heap} {mg : Str → Option Value} {fa : Addr} {C fII fCO fIN fAR fPU fDR fGR fLC fLO fFR fNE fSU fTO fRI fLA fIT fT fov fad fsb fmu fng feq ftp fbt ptp pbt : Addr} {cdC : ClassData} (X : K.In h) (G : h.Ns mainGlobals mg) (hfa : mg "law" = some (.ref fa))
    {odII anII : Option Addr} {slII : Array (Option Value)} {ocII kVII dcII pmII cdII ctII : Value}
    {odCO anCO : Option Addr} {slCO : Array (Option Value)} {ocCO kVCO dcCO pmCO cdCO ctCO : Value}
    {odIN anIN : Option Addr} {slIN : Array (Option Value)} {ocIN kVIN dcIN pmIN cdIN ctIN : Value}
    {odAR anAR : Option Addr} {slAR : Array (Option Value)} {ocAR kVAR dcAR pmAR cdAR ctAR : Value}
    {odPU anPU : Option Addr} {slPU : Array (Option Value)} {ocPU kVPU dcPU pmPU cdPU ctPU : Value}
    {odDR anDR : Option Addr} {slDR : Array (Option Value)} {ocDR kVDR dcDR pmDR cdDR ctDR : Value}
    {odGR anGR : Option Addr} {slGR : Array (Option Value)} {ocGR kVGR dcGR pmGR cdGR ctGR : Value}
    {odLC anLC : Option Addr} {slLC : Array (Option Value)} {ocLC kVLC dcLC pmLC cdLC ctLC : Value}
    {odLO anLO : Option Addr} {slLO : Array (Option Value)} {ocLO kVLO dcLO pmLO cdLO ctLO : Value}
    {odFR anFR : Option Addr} {slFR : Array (Option Value)} {ocFR kVFR dcFR pmFR cdFR ctFR : Value}
    {odNE anNE : Option Addr} {slNE : Array (Option Value)} {ocNE kVNE dcNE pmNE cdNE ctNE : Value}
    {odSU anSU : Option Addr} {slSU : Array (Option Value)} {ocSU kVSU dcSU pmSU cdSU ctSU : Value}
    {odTO anTO : Option Addr} {slTO : Array (Option Value)} {ocTO kVTO dcTO pmTO cdTO ctTO : Value}
    {odRI anRI : Option Addr} {slRI : Array (Option Value)} {ocRI kVRI dcRI pmRI cdRI ctRI : Value}
    {odLA anLA : Option Addr} {slLA : Array (Option Value)} {ocLA kVLA dcLA pmLA cdLA ctLA : Value}
    {odIT anIT : Option Addr} {slIT : Array (Option Value)} {ocIT kVIT dcIT pmIT cdIT ctIT : Value}
    {odT : Option Addr} {slT : Array (Option Value)} {ocT : Value} {tk : Tok} {nT : Nat}
    {odov anov : Option Addr} {slov : Array (Option Value)} {ocov kVov dcov pmov cdov ctov : Value}
    {odad anad : Option Addr} {slad : Array (Option Value)} {ocad kVad dcad pmad cdad ctad : Value}
    {odsb ansb : Option Addr} {slsb : Array (Option Value)} {ocsb kVsb dcsb pmsb cdsb ctsb : Value}
    {odmu anmu : Option Addr} {slmu : Array (Option Value)} {ocmu kVmu dcmu pmmu cdmu ctmu : Value}
    {odng anng : Option Addr} {slng : Array (Option Value)} {ocng kVng dcng pmng cdng ctng : Value}
    {odeq aneq : Option Addr} {sleq : Array (Option Value)} {oceq kVeq dceq pmeq cdeq cteq : Value}
    {rtp : List Value}
    {odtp antp : Option Addr} {sltp : Array (Option Value)} {octp kVtp dctp pmtp cdtp cttp : Value}
    {rbt : List Value}
    {odbt anbt : Option Addr} {slbt : Array (Option Value)} {ocbt kVbt dcbt pmbt cdbt ctbt : Value}
    {foAdd roAdd : Option Value}
    {foSub roSub : Option Value}
    {foMult roMult : Option Value}
    (aC : PySem.W.nsIn K mainGlobals "Ratio" = some (some (.ref C)))
    (aII : PySem.W.nsIn K mainGlobals "is_integer" = some (some (.ref fII)))
    (lII : K.lookup fII = some ⟨ocII, odII, .func (PySem.W.fnOf "is_integer" "is_integer" (defArgs sIsInt) (defBody sIsInt) (defScope sIsInt) .none kVII dcII pmII anII cdII ctII), slII⟩)
    (cII : PySem.W.codeIn K cdII "is_integer" = true)
    (kII : PySem.W.keepIn K (.ref fII) = true)
    (aCO : PySem.W.nsIn K mainGlobals "common" = some (some (.ref fCO)))
    (lCO : K.lookup fCO = some ⟨ocCO, odCO, .func (PySem.W.fnOf "common" "common" (defArgs sCommon) (defBody sCommon) (defScope sCommon) .none kVCO dcCO pmCO anCO cdCO ctCO), slCO⟩)
    (cCO : PySem.W.codeIn K cdCO "common" = true)
    (kCO : PySem.W.keepIn K (.ref fCO) = true)
    (aIN : PySem.W.nsIn K mainGlobals "is_number" = some (some (.ref fIN)))
    (lIN : K.lookup fIN = some ⟨ocIN, odIN, .func (PySem.W.fnOf "is_number" "is_number" (defArgs sIsNum) (defBody sIsNum) (defScope sIsNum) .none kVIN dcIN pmIN anIN cdIN ctIN), slIN⟩)
    (cIN : PySem.W.codeIn K cdIN "is_number" = true)
    (kIN : PySem.W.keepIn K (.ref fIN) = true)
    (aAR : PySem.W.nsIn K mainGlobals "as_ratio" = some (some (.ref fAR)))
    (lAR : K.lookup fAR = some ⟨ocAR, odAR, .func (PySem.W.fnOf "as_ratio" "as_ratio" (defArgs sAsRatio) (defBody sAsRatio) (defScope sAsRatio) .none kVAR dcAR pmAR anAR cdAR ctAR), slAR⟩)
    (cAR : PySem.W.codeIn K cdAR "as_ratio" = true)
    (kAR : PySem.W.keepIn K (.ref fAR) = true)
    (aPU : PySem.W.nsIn K mainGlobals "_law_purse" = some (some (.ref fPU)))
    (lPU : K.lookup fPU = some ⟨ocPU, odPU, .func (PySem.W.fnOf "_law_purse" "_law_purse" (defArgs sPurse) (defBody sPurse) (defScope sPurse) .none kVPU dcPU pmPU anPU cdPU ctPU), slPU⟩)
    (cPU : PySem.W.codeIn K cdPU "_law_purse" = true)
    (kPU : PySem.W.keepIn K (.ref fPU) = true)
    (aDR : PySem.W.nsIn K mainGlobals "_law_draw" = some (some (.ref fDR)))
    (lDR : K.lookup fDR = some ⟨ocDR, odDR, .func (PySem.W.fnOf "_law_draw" "_law_draw" (defArgs sDraw) (defBody sDraw) (defScope sDraw) .none kVDR dcDR pmDR anDR cdDR ctDR), slDR⟩)
    (cDR : PySem.W.codeIn K cdDR "_law_draw" = true)
    (kDR : PySem.W.keepIn K (.ref fDR) = true)
    (aGR : PySem.W.nsIn K mainGlobals "_law_great" = some (some (.ref fGR)))
    (lGR : K.lookup fGR = some ⟨ocGR, odGR, .func (PySem.W.fnOf "_law_great" "_law_great" (defArgs sGreat) (defBody sGreat) (defScope sGreat) .none kVGR dcGR pmGR anGR cdGR ctGR), slGR⟩)
    (cGR : PySem.W.codeIn K cdGR "_law_great" = true)
    (kGR : PySem.W.keepIn K (.ref fGR) = true)
    (aLC : PySem.W.nsIn K mainGlobals "_law_common" = some (some (.ref fLC)))
    (lLC : K.lookup fLC = some ⟨ocLC, odLC, .func (PySem.W.fnOf "_law_common" "_law_common" (defArgs sLCommon) (defBody sLCommon) (defScope sLCommon) .none kVLC dcLC pmLC anLC cdLC ctLC), slLC⟩)
    (cLC : PySem.W.codeIn K cdLC "_law_common" = true)
    (kLC : PySem.W.keepIn K (.ref fLC) = true)
    (aLO : PySem.W.nsIn K mainGlobals "_law_lowest" = some (some (.ref fLO)))
    (lLO : K.lookup fLO = some ⟨ocLO, odLO, .func (PySem.W.fnOf "_law_lowest" "_law_lowest" (defArgs sLowest) (defBody sLowest) (defScope sLowest) .none kVLO dcLO pmLO anLO cdLO ctLO), slLO⟩)
    (cLO : PySem.W.codeIn K cdLO "_law_lowest" = true)
    (kLO : PySem.W.keepIn K (.ref fLO) = true)
    (aFR : PySem.W.nsIn K mainGlobals "_law_from" = some (some (.ref fFR)))
    (lFR : K.lookup fFR = some ⟨ocFR, odFR, .func (PySem.W.fnOf "_law_from" "_law_from" (defArgs sFrom) (defBody sFrom) (defScope sFrom) .none kVFR dcFR pmFR anFR cdFR ctFR), slFR⟩)
    (cFR : PySem.W.codeIn K cdFR "_law_from" = true)
    (kFR : PySem.W.keepIn K (.ref fFR) = true)
    (aNE : PySem.W.nsIn K mainGlobals "_law_near" = some (some (.ref fNE)))
    (lNE : K.lookup fNE = some ⟨ocNE, odNE, .func (PySem.W.fnOf "_law_near" "_law_near" (defArgs sNear) (defBody sNear) (defScope sNear) .none kVNE dcNE pmNE anNE cdNE ctNE), slNE⟩)
    (cNE : PySem.W.codeIn K cdNE "_law_near" = true)
    (kNE : PySem.W.keepIn K (.ref fNE) = true)
    (aSU : PySem.W.nsIn K mainGlobals "_law_sum" = some (some (.ref fSU)))
    (lSU : K.lookup fSU = some ⟨ocSU, odSU, .func (PySem.W.fnOf "_law_sum" "_law_sum" (defArgs sSum) (defBody sSum) (defScope sSum) .none kVSU dcSU pmSU anSU cdSU ctSU), slSU⟩)
    (cSU : PySem.W.codeIn K cdSU "_law_sum" = true)
    (kSU : PySem.W.keepIn K (.ref fSU) = true)
    (aTO : PySem.W.nsIn K mainGlobals "_law_told" = some (some (.ref fTO)))
    (lTO : K.lookup fTO = some ⟨ocTO, odTO, .func (PySem.W.fnOf "_law_told" "_law_told" (defArgs sTold) (defBody sTold) (defScope sTold) .none kVTO dcTO pmTO anTO cdTO ctTO), slTO⟩)
    (cTO : PySem.W.codeIn K cdTO "_law_told" = true)
    (kTO : PySem.W.keepIn K (.ref fTO) = true)
    (aRI : PySem.W.nsIn K mainGlobals "_law_right" = some (some (.ref fRI)))
    (lRI : K.lookup fRI = some ⟨ocRI, odRI, .func (PySem.W.fnOf "_law_right" "_law_right" (defArgs sRight) (defBody sRight) (defScope sRight) .none kVRI dcRI pmRI anRI cdRI ctRI), slRI⟩)
    (cRI : PySem.W.codeIn K cdRI "_law_right" = true)
    (kRI : PySem.W.keepIn K (.ref fRI) = true)
    (aLA : PySem.W.nsIn K mainGlobals "law" = some (some (.ref fLA)))
    (lLA : K.lookup fLA = some ⟨ocLA, odLA, .func (PySem.W.fnOf "law" "law" (defArgs sLaw) (defBody sLaw) (defScope sLaw) .none kVLA dcLA pmLA anLA cdLA ctLA), slLA⟩)
    (cLA : PySem.W.codeIn K cdLA "law" = true)
    (kLA : PySem.W.keepIn K (.ref fLA) = true)
    (aIT : PySem.W.findIn K (.ref C) "__init__" = some (some (.ref fIT)))
    (iIT : PySem.W.isFn K (.ref fIT) = true)
    (lIT : K.lookup fIT = some ⟨ocIT, odIT, .func (PySem.W.fnOf "__init__" "Ratio.__init__" (defArgs sInit) (defBody sInit) (defScope sInit) (.ref fT) kVIT dcIT pmIT anIT cdIT ctIT), slIT⟩)
    (cIT : PySem.W.codeIn K cdIT "Ratio.__init__" = true)
    (kIT : PySem.W.keepIn K (.ref fIT) = true)
    (lT : K.lookup fT = some ⟨ocT, odT, .seq #[.int 1 tk] nT, slT⟩)
    (aov : PySem.W.findIn K (.ref C) ("over") = some (some (.ref fov)))
    (iov : PySem.W.isFn K (.ref fov) = true)
    (lov : K.lookup fov = some ⟨ocov, odov, .func (PySem.W.fnOf "over" "Ratio.over" (defArgs sOver) (defBody sOver) (defScope sOver) .none kVov dcov pmov anov cdov ctov), slov⟩)
    (cov : PySem.W.codeIn K cdov "Ratio.over" = true)
    (kov : PySem.W.keepIn K (.ref fov) = true)
    (aad : PySem.W.findIn K (.ref C) (PySem.dunder Operator.Add.info.2) = some (some (.ref fad)))
    (iad : PySem.W.isFn K (.ref fad) = true)
    (lad : K.lookup fad = some ⟨ocad, odad, .func (PySem.W.fnOf "__add__" "Ratio.__add__" (defArgs sAdd) (defBody sAdd) (defScope sAdd) .none kVad dcad pmad anad cdad ctad), slad⟩)
    (cad : PySem.W.codeIn K cdad "Ratio.__add__" = true)
    (kad : PySem.W.keepIn K (.ref fad) = true)
    (asb : PySem.W.findIn K (.ref C) (PySem.dunder Operator.Sub.info.2) = some (some (.ref fsb)))
    (isb : PySem.W.isFn K (.ref fsb) = true)
    (lsb : K.lookup fsb = some ⟨ocsb, odsb, .func (PySem.W.fnOf "__sub__" "Ratio.__sub__" (defArgs sSub) (defBody sSub) (defScope sSub) .none kVsb dcsb pmsb ansb cdsb ctsb), slsb⟩)
    (csb : PySem.W.codeIn K cdsb "Ratio.__sub__" = true)
    (ksb : PySem.W.keepIn K (.ref fsb) = true)
    (amu : PySem.W.findIn K (.ref C) (PySem.dunder Operator.Mult.info.2) = some (some (.ref fmu)))
    (imu : PySem.W.isFn K (.ref fmu) = true)
    (lmu : K.lookup fmu = some ⟨ocmu, odmu, .func (PySem.W.fnOf "__mul__" "Ratio.__mul__" (defArgs sMul) (defBody sMul) (defScope sMul) .none kVmu dcmu pmmu anmu cdmu ctmu), slmu⟩)
    (cmu : PySem.W.codeIn K cdmu "Ratio.__mul__" = true)
    (kmu : PySem.W.keepIn K (.ref fmu) = true)
    (ang : PySem.W.findIn K (.ref C) ("__neg__") = some (some (.ref fng)))
    (ing : PySem.W.isFn K (.ref fng) = true)
    (lng : K.lookup fng = some ⟨ocng, odng, .func (PySem.W.fnOf "__neg__" "Ratio.__neg__" (defArgs sNeg) (defBody sNeg) (defScope sNeg) .none kVng dcng pmng anng cdng ctng), slng⟩)
    (cng : PySem.W.codeIn K cdng "Ratio.__neg__" = true)
    (kng : PySem.W.keepIn K (.ref fng) = true)
    (aeq : PySem.W.findIn K (.ref C) ("__eq__") = some (some (.ref feq)))
    (ieq : PySem.W.isFn K (.ref feq) = true)
    (leq : K.lookup feq = some ⟨oceq, odeq, .func (PySem.W.fnOf "__eq__" "Ratio.__eq__" (defArgs sEq) (defBody sEq) (defScope sEq) .none kVeq dceq pmeq aneq cdeq cteq), sleq⟩)
    (ceq : PySem.W.codeIn K cdeq "Ratio.__eq__" = true)
    (keq : PySem.W.keepIn K (.ref feq) = true)
    (atp : PySem.W.findIn K (.ref C) "top" = some (some (.ref ptp)))
    (gtp : PySem.W.specialIn K (.ref ptp) "__get__" = some (some (.builtin "property.__get__")))
    (ttp : PySem.W.takesIn K (.ref ptp) = some true)
    (rtph : PySem.W.recIn K ptp "property" = some (.ref ftp :: rtp))
    (ltp : K.lookup ftp = some ⟨octp, odtp, .func (PySem.W.fnOf "top" "Ratio.top" (defArgs sTop) (defBody sTop) (defScope sTop) .none kVtp dctp pmtp antp cdtp cttp), sltp⟩)
    (ctp : PySem.W.codeIn K cdtp "Ratio.top" = true)
    (ktp : PySem.W.keepIn K (.ref ftp) = true)
    (abt : PySem.W.findIn K (.ref C) "bottom" = some (some (.ref pbt)))
    (gbt : PySem.W.specialIn K (.ref pbt) "__get__" = some (some (.builtin "property.__get__")))
    (tbt : PySem.W.takesIn K (.ref pbt) = some true)
    (rbth : PySem.W.recIn K pbt "property" = some (.ref fbt :: rbt))
    (lbt : K.lookup fbt = some ⟨ocbt, odbt, .func (PySem.W.fnOf "bottom" "Ratio.bottom" (defArgs sBottom) (defBody sBottom) (defScope sBottom) .none kVbt dcbt pmbt anbt cdbt ctbt), slbt⟩)
    (cbt : PySem.W.codeIn K cdbt "Ratio.bottom" = true)
    (kbt : PySem.W.keepIn K (.ref fbt) = true)
    (pg : PySem.W.plainGet K C Str.empty = true)
    (hd : PySem.W.hasDictIn K C = true)
    (po : PySem.W.plainOver K C = true)
    (sa : PySem.W.findIn K (.ref C) "__setattr__" = some (some (.builtin "object.__setattr__")))
    (mk : PySem.W.makesIn K C = true)
    (kc : PySem.W.keepIn K (.ref C) = true)
    (nN : PySem.W.findIn K (.ref C) "numerator_here" = some none)
    (nD : PySem.W.findIn K (.ref C) "denominator_here" = some none)
    (ca : PySem.W.findIn K (.ref C) "__class__" = some (some (.builtin "object.__class__")))
    (cn : PySem.W.specialIn K (.builtin "object.__class__") "__get__" = some (some (.builtin "getset_descriptor.__get__")))
    (ct : PySem.W.takesIn K (.builtin "object.__class__") = some true)
    (cm : PySem.W.mroIn K C (.type "object") = some true)
    (sf : PySem.W.selfFirst K C = true)
    (mi : PySem.W.mroIn K C (.type "int") = some false)
    (si : PySem.W.subIn K (.type "int") (.ref C) = some false)
    (hci : PySem.W.clsIn K C = some cdC)
    (hty : PySem.W.typeIn K (.ref C) = some (.type "type"))
    (hne : PySem.W.findIn K (.ref C) "__ne__" = some (some (.builtin "object.__ne__")))
    (nf : PySem.W.notFirst K C (.ref C) = true)
    (xAdd : PySem.W.findIn K (.ref C) (dunderR Operator.Add.info.2) = some none)
    (yAdd : PySem.W.findIn K (.type "int") (PySem.dunder Operator.Add.info.2) = some foAdd)
    (zAdd : PySem.W.findIn K (.type "int") (dunderR Operator.Add.info.2) = some roAdd)
    (xSub : PySem.W.findIn K (.ref C) (dunderR Operator.Sub.info.2) = some none)
    (ySub : PySem.W.findIn K (.type "int") (PySem.dunder Operator.Sub.info.2) = some foSub)
    (zSub : PySem.W.findIn K (.type "int") (dunderR Operator.Sub.info.2) = some roSub)
    (xMult : PySem.W.findIn K (.ref C) (dunderR Operator.Mult.info.2) = some none)
    (yMult : PySem.W.findIn K (.type "int") (PySem.dunder Operator.Mult.info.2) = some foMult)
    (zMult : PySem.W.findIn K (.type "int") (dunderR Operator.Mult.info.2) = some roMult)
    (bisi : PySem.W.nsIn K mainGlobals "isinstance" = some none)
    (bint : PySem.W.nsIn K mainGlobals "int" = some none)
    (bbool : PySem.W.nsIn K mainGlobals "bool" = some none)
    (babs : PySem.W.nsIn K mainGlobals "abs" = some none)
    (blen : PySem.W.nsIn K mainGlobals "len" = some none)
    (bmax : PySem.W.nsIn K mainGlobals "max" = some none)
    (bmin : PySem.W.nsIn K mainGlobals "min" = some none)
    (brange : PySem.W.nsIn K mainGlobals "range" = some none)
    (ball : PySem.W.nsIn K mainGlobals "all" = some none)
    (brepr : PySem.W.nsIn K mainGlobals "repr" = some none)
    (bstr : PySem.W.nsIn K mainGlobals "str" = some none) :
    ∃ fd : FuncData, (∀ (s : Shared) (v : Value), BindsTo s fd ⟨[v], []⟩ [("_law_script", v)]) ∧ ∀ base : Heap, K.In base → base.Ns mainGlobals mg → FnK l.prog w K mg base 7 fa fd ["_law_script"] (rLaw K) := by
  have e := hfa.symm.trans (PySem.W.mg_of X G aLA)
  cases e
  have B : Blt mg := ⟨PySem.W.mg_none_of X G bisi, PySem.W.mg_none_of X G bint, PySem.W.mg_none_of X G bbool, PySem.W.mg_none_of X G babs, PySem.W.mg_none_of X G blen, PySem.W.mg_none_of X G bmax, PySem.W.mg_none_of X G bmin, PySem.W.mg_none_of X G brange, PySem.W.mg_none_of X G ball, PySem.W.mg_none_of X G brepr, PySem.W.mg_none_of X G bstr⟩
  have FII := fun_mk (st := sIsInt) lII cII kII
  have FCO := fun_mk (st := sCommon) lCO cCO kCO
  have FIN := fun_mk (st := sIsNum) lIN cIN kIN
  have FAR := fun_mk (st := sAsRatio) lAR cAR kAR
  have FPU := fun_mk (st := sPurse) lPU cPU kPU
  have FDR := fun_mk (st := sDraw) lDR cDR kDR
  have FGR := fun_mk (st := sGreat) lGR cGR kGR
  have FLC := fun_mk (st := sLCommon) lLC cLC kLC
  have FLO := fun_mk (st := sLowest) lLO cLO kLO
  have FFR := fun_mk (st := sFrom) lFR cFR kFR
  have FNE := fun_mk (st := sNear) lNE cNE kNE
  have FSU := fun_mk (st := sSum) lSU cSU kSU
  have FTO := fun_mk (st := sTold) lTO cTO kTO
  have FRI := fun_mk (st := sRight) lRI cRI kRI
  have FLA := fun_mk (st := sLaw) lLA cLA kLA
  have Fov := fun_mk (st := sOver) lov cov kov
  have Fad := fun_mk (st := sAdd) lad cad kad
  have Fsb := fun_mk (st := sSub) lsb csb ksb
  have Fmu := fun_mk (st := sMul) lmu cmu kmu
  have Fng := fun_mk (st := sNeg) lng cng kng
  have Feq := fun_mk (st := sEq) leq ceq keq
  have bII' := FII.binds (ps := ["value"]) fun _ _ _ _ _ _ us hl => match us, hl with | [_], _ => rfl
  have bCO' := FCO.binds (ps := ["one", "two"]) fun _ _ _ _ _ _ us hl => match us, hl with | [_, _], _ => rfl
  have bIN' := FIN.binds (ps := ["value"]) fun _ _ _ _ _ _ us hl => match us, hl with | [_], _ => rfl
  have bAR' := FAR.binds (ps := ["number"]) fun _ _ _ _ _ _ us hl => match us, hl with | [_], _ => rfl
  have bPU' := FPU.binds (ps := ["_law_script"]) fun _ _ _ _ _ _ us hl => match us, hl with | [_], _ => rfl
  have bDR' := FDR.binds (ps := ["_law_q", "_law_many"]) fun _ _ _ _ _ _ us hl => match us, hl with | [_, _], _ => rfl
  have bGR' := FGR.binds (ps := ["_law_q"]) fun _ _ _ _ _ _ us hl => match us, hl with | [_], _ => rfl
  have bLC' := FLC.binds (ps := ["_law_one", "_law_two"]) fun _ _ _ _ _ _ us hl => match us, hl with | [_, _], _ => rfl
  have bLO' := FLO.binds (ps := ["_law_high", "_law_under"]) fun _ _ _ _ _ _ us hl => match us, hl with | [_, _], _ => rfl
  have bFR' := FFR.binds (ps := ["_law_script", "_law_k"]) fun _ _ _ _ _ _ us hl => match us, hl with | [_, _], _ => rfl
  have bNE' := FNE.binds (ps := ["_law_q"]) fun _ _ _ _ _ _ us hl => match us, hl with | [_], _ => rfl
  have bSU' := FSU.binds (ps := ["_law_one", "_law_two", "_law_sign"]) fun _ _ _ _ _ _ us hl => match us, hl with | [_, _, _], _ => rfl
  have bTO' := FTO.binds (ps := ["_law_one"]) fun _ _ _ _ _ _ us hl => match us, hl with | [_], _ => rfl
  have bRI' := FRI.binds (ps := ["_law_q"]) fun _ _ _ _ _ _ us hl => match us, hl with | [_], _ => rfl
  have bLA' := FLA.binds (ps := ["_law_script"]) fun _ _ _ _ _ _ us hl => match us, hl with | [_], _ => rfl
  have bov' := Fov.binds (ps := ["self", "other"]) fun _ _ _ _ _ _ us hl => match us, hl with | [_, _], _ => rfl
  have bad' := Fad.binds (ps := ["self", "other"]) fun _ _ _ _ _ _ us hl => match us, hl with | [_, _], _ => rfl
  have bsb' := Fsb.binds (ps := ["self", "other"]) fun _ _ _ _ _ _ us hl => match us, hl with | [_, _], _ => rfl
  have bmu' := Fmu.binds (ps := ["self", "other"]) fun _ _ _ _ _ _ us hl => match us, hl with | [_, _], _ => rfl
  have bng' := Fng.binds (ps := ["self"]) fun _ _ _ _ _ _ us hl => match us, hl with | [_], _ => rfl
  have beq' := Feq.binds (ps := ["self", "other"]) fun _ _ _ _ _ _ us hl => match us, hl with | [_, _], _ => rfl
  have FIT : FunD K "__init__" "Ratio.__init__" (defArgs sInit) (defBody sInit) (defScope sInit) [.int 1] [] fIT _ := ⟨⟨_, _, _, _, _, _, _, _, _, _, rfl, lIT, cIT, .inr ⟨by simp, fT, _, [.int 1 tk], nT, rfl, lT, rfl, .cons ⟨tk, rfl⟩ .nil⟩, .inl rfl⟩, kIT⟩
  refine ⟨PySem.W.fnOf "law" "law" (defArgs sLaw) (defBody sLaw) (defScope sLaw) .none kVLA dcLA pmLA anLA cdLA ctLA, fun s v => .of_eq rfl, fun base _ _ => ?_⟩
  have cl : Cls K C := ⟨pg, hd, po, sa⟩
  have co : ClsO K C := ⟨cl, ca, cn, ct, cm, sf⟩
  have cII : Cal l.prog w K mg base "is_integer" 1 (rIsInt K) := ⟨fII, (ok_isInt FII B).pos bII' (fun ss r ss' ⟨_, _, _, _, e, _⟩ => by rw [e]; rfl), PySem.W.mg_of X G aII, kII⟩
  have cCO : Cal l.prog w K mg base "common" 1 rCommon := ⟨fCO, (ok_common FCO B).pos bCO' (fun ss r ss' ⟨_, _, e, _⟩ => by rw [e]; rfl), PySem.W.mg_of X G aCO, kCO⟩
  have pT : PropF l.prog w K mg base C "top" "numerator_here" := ⟨ptp, ftp, _, ⟨atp, gtp, ttp, _, rtph⟩, fn_getter ltp ctp scTop rfl rfl cl nN, (fun_mk (st := sTop) ltp ctp ktp).binds (ps := ["self"]) fun _ _ _ _ _ _ us hl => match us, hl with | [_], _ => rfl⟩
  have pB : PropF l.prog w K mg base C "bottom" "denominator_here" := ⟨pbt, fbt, _, ⟨abt, gbt, tbt, _, rbth⟩, fn_getter lbt cbt scBottom rfl rfl cl nD, (fun_mk (st := sBottom) lbt cbt kbt).binds (ps := ["self"]) fun _ _ _ _ _ _ us hl => match us, hl with | [_], _ => rfl⟩
  have c : CR l.prog w K mg base C := ⟨co, nN, nD, PySem.W.mg_of X G aC, kit_rt (by decide +kernel) mi, kit_self, kit_tr hci hty si, pT, pB⟩
  have kI := ok_init (P := l.prog) (w := w) (mg := mg) (base := base) (C := C) FIT cl nN nD cII cCO
  have M : Mk K C fIT := ⟨mk, aIT, iIT, kc⟩
  have mk2 : MkG l.prog w K mg base "Ratio" C 2 [] (rInit C) := ⟨fIT, M, kI.pos (init_binds FIT) (fun ss r ss' ⟨_, _, e, _⟩ => by rw [e]; rfl), PySem.W.mg_of X G aC⟩
  obtain ⟨ds1, hv1, hb1⟩ := init_binds1 FIT
  have mk1 : MkG l.prog w K mg base "Ratio" C 2 [] (RDef 2 [.int 1] (rInit C)) := ⟨fIT, M, kI.posD hb1 hv1 (fun M H => ⟨_, _, rfl, rfl, rfl⟩) rfl, PySem.W.mg_of X G aC⟩
  have cIN : Cal l.prog w K mg base "is_number" 2 (rIsNum C) := ⟨fIN, (ok_isNum FIN B c cII).pos bIN' (fun ss r ss' ⟨_, _, _, e, _⟩ => by rw [e]; rfl), PySem.W.mg_of X G aIN, kIN⟩
  have cAR : Cal l.prog w K mg base "as_ratio" 4 (rAsRatio C) := ⟨fAR, (ok_asRatio FAR B c mk1).pos bAR' (fun ss r ss' ⟨_, _, _, e, _⟩ => by rw [e]; rfl), PySem.W.mg_of X G aAR, kAR⟩
  have D1 : Dp1 l.prog w K mg base C := ⟨B, c, cII, cIN, cAR, mk2, mk1⟩
  have hb2 : ∀ gT gB (ss : List TL.S) r ss', rBin C gT gB ss r ss' → ss.length = 2 := fun gT gB ss r ss' ⟨_, _, _, _, _, e, _⟩ => by rw [e]; rfl
  have cPU : Cal l.prog w K mg base "_law_purse" 1 rPurse := ⟨fPU, (ok_purse FPU B).pos bPU' (fun ss r ss' ⟨_, e, _⟩ => by rw [e]; rfl), PySem.W.mg_of X G aPU, kPU⟩
  have cDR : Cal l.prog w K mg base "_law_draw" 1 rDraw := ⟨fDR, (ok_draw FDR B).pos bDR' (fun ss r ss' ⟨_, _, _, e, _⟩ => by rw [e]; rfl), PySem.W.mg_of X G aDR, kDR⟩
  have cGR : Cal l.prog w K mg base "_law_great" 2 rGreat := ⟨fGR, (ok_great FGR cDR).pos bGR' (fun ss r ss' ⟨_, _, e, _⟩ => by rw [e]; rfl), PySem.W.mg_of X G aGR, kGR⟩
  have cLC : Cal l.prog w K mg base "_law_common" 1 rCommon := ⟨fLC, (ok_lcommon FLC B).pos bLC' (fun ss r ss' ⟨_, _, e, _⟩ => by rw [e]; rfl), PySem.W.mg_of X G aLC, kLC⟩
  have cLO : Cal l.prog w K mg base "_law_lowest" 2 rLowest := ⟨fLO, (ok_lowest FLO cLC).pos bLO' (fun ss r ss' ⟨_, _, e, _⟩ => by rw [e]; rfl), PySem.W.mg_of X G aLO, kLO⟩
  have cFR : Cal l.prog w K mg base "_law_from" 2 (rFrom K) := ⟨fFR, (ok_from FFR cPU).pos bFR' (fun ss r ss' ⟨_, _, _, e, _⟩ => by rw [e]; rfl), PySem.W.mg_of X G aFR, kFR⟩
  have cNE : Cal l.prog w K mg base "_law_near" 3 rNear := ⟨fNE, (ok_near FNE cDR cLO).pos bNE' (fun ss r ss' ⟨_, _, e, _⟩ => by rw [e]; rfl), PySem.W.mg_of X G aNE, kNE⟩
  have cSU : Cal l.prog w K mg base "_law_sum" 3 rSum := ⟨fSU, (ok_sum FSU cLO).pos bSU' (fun ss r ss' ⟨_, _, _, _, _, e, _⟩ => by rw [e]; rfl), PySem.W.mg_of X G aSU, kSU⟩
  have cTO : Cal l.prog w K mg base "_law_told" 3 (rTold C) := ⟨fTO, (ok_told FTO B c).pos bTO' (fun ss r ss' ⟨_, _, e, _⟩ => by rw [e]; rfl), PySem.W.mg_of X G aTO, kTO⟩
  have D2 : Dp2 l.prog w K mg base C := {
    D1 := D1
    add := ⟨fad, aad, iad, (ok_add Fad D1).pos bad' (hb2 _ _)⟩
    sub := ⟨fsb, asb, isb, (ok_sub Fsb D1).pos bsb' (hb2 _ _)⟩
    mul := ⟨fmu, amu, imu, (ok_mul Fmu D1).pos bmu' (hb2 _ _)⟩
    neg := ⟨fng, ang, ing, (ok_neg Fng D1).pos bng' (fun ss r ss' ⟨_, _, e, _⟩ => by rw [e]; rfl)⟩
    eq := ⟨feq, aeq, ieq, (ok_eq Feq B c).pos beq' (fun ss r ss' ⟨_, _, _, _, e, _⟩ => by rw [e]; rfl)⟩
    hne := hne
    nf := nf
    ra := fun op h => by
      rcases h with rfl | rfl | rfl
      · exact ⟨xAdd, _, _, yAdd, zAdd⟩
      · exact ⟨xSub, _, _, ySub, zSub⟩
      · exact ⟨xMult, _, _, yMult, zMult⟩
    si := si
    over := ⟨fov, ⟨aov, iov, kov⟩, (ok_over Fov D1).pos bov' (hb2 _ _)⟩
    overK := ⟨fov, ⟨aov, iov, kov⟩, (ok_over Fov D1).kwO (n := 1) (ks := ["other"]) (hb2 _ _) rfl (fun s us ws _ hu hw => over_kw Fov s us ws hu hw)⟩
    told := cTO
    low := cLO
    sum := cSU
    near := cNE
    great := cGR }
  have cRI : Cal l.prog w K mg base "_law_right" 6 rRight := ⟨fRI, (ok_right FRI B D2).pos bRI' (fun ss r ss' ⟨_, _, e, _⟩ => by rw [e]; rfl), PySem.W.mg_of X G aRI, kRI⟩
  exact ok_law FLA B cRI cFR
end K03
set_option Elab.async false
set_option linter.all false
set_option autoImplicit false
open PySem PySem.W PyProof.Rows
set_option maxRecDepth 100000 in
set_option maxHeartbeats 0 in
theorem PySem.Challenge.cw_matrixforms_k03_ratio_operators_holds : PySem.Challenge.rw_matrixforms_k03_ratio_operators.Holds := by
  w_on; o_law; k_head; (case hw => w_witness2)
  k_fill
  refine TL.walk_tree (l := PySem.Challenge.rw_matrixforms_k03_ratio_operators) (n := 63) (k := 7) (x := "_law_script") (R := K03.rLaw) rfl (by decide) rfl ⟨rfl, by decide, by decide⟩ (fun w h Y => PySem.W.kIn_of Y) ?F (fun K a ns hl => ⟨a, ns, rfl, hl, rfl, rfl⟩)
  case F =>
    intro w mg fa h KX G hmg
    refine' K03.all_mk KX G hmg ?aC ?aII ?lII ?cII ?kII ?aCO ?lCO ?cCO ?kCO ?aIN ?lIN ?cIN ?kIN ?aAR ?lAR ?cAR ?kAR ?aPU ?lPU ?cPU ?kPU ?aDR ?lDR ?cDR ?kDR ?aGR ?lGR ?cGR ?kGR ?aLC ?lLC ?cLC ?kLC ?aLO ?lLO ?cLO ?kLO ?aFR ?lFR ?cFR ?kFR ?aNE ?lNE ?cNE ?kNE ?aSU ?lSU ?cSU ?kSU ?aTO ?lTO ?cTO ?kTO ?aRI ?lRI ?cRI ?kRI ?aLA ?lLA ?cLA ?kLA ?aIT ?iIT ?lIT ?cIT ?kIT ?lT ?aov ?iov ?lov ?cov ?kov ?aad ?iad ?lad ?cad ?kad ?asb ?isb ?lsb ?csb ?ksb ?amu ?imu ?lmu ?cmu ?kmu ?ang ?ing ?lng ?cng ?kng ?aeq ?ieq ?leq ?ceq ?keq ?atp ?gtp ?ttp ?rtph ?ltp ?ctp ?ktp ?abt ?gbt ?tbt ?rbth ?lbt ?cbt ?kbt ?pg ?hd ?po ?sa ?mk ?kc ?nN ?nD ?ca ?cn ?ct ?cm ?sf ?mi ?si ?hci ?hty ?hne ?nf ?xAdd ?yAdd ?zAdd ?xSub ?ySub ?zSub ?xMult ?yMult ?zMult ?bisi ?bint ?bbool ?babs ?blen ?bmax ?bmin ?brange ?ball ?brepr ?bstr
    (case aC => k_is)
    (case aII => k_is)
    (case lII => k_is)
    (case cII => k_is)
    (case kII => k_is)
    (case aCO => k_is)
    (case lCO => k_is)
    (case cCO => k_is)
    (case kCO => k_is)
    (case aIN => k_is)
    (case lIN => k_is)
    (case cIN => k_is)
    (case kIN => k_is)
    (case aAR => k_is)
    (case lAR => k_is)
    (case cAR => k_is)
    (case kAR => k_is)
    (case aPU => k_is)
    (case lPU => k_is)
    (case cPU => k_is)
    (case kPU => k_is)
    (case aDR => k_is)
    (case lDR => k_is)
    (case cDR => k_is)
    (case kDR => k_is)
    (case aGR => k_is)
    (case lGR => k_is)
    (case cGR => k_is)
    (case kGR => k_is)
    (case aLC => k_is)
    (case lLC => k_is)
    (case cLC => k_is)
    (case kLC => k_is)
    (case aLO => k_is)
    (case lLO => k_is)
    (case cLO => k_is)
    (case kLO => k_is)
    (case aFR => k_is)
    (case lFR => k_is)
    (case cFR => k_is)
    (case kFR => k_is)
    (case aNE => k_is)
    (case lNE => k_is)
    (case cNE => k_is)
    (case kNE => k_is)
    (case aSU => k_is)
    (case lSU => k_is)
    (case cSU => k_is)
    (case kSU => k_is)
    (case aTO => k_is)
    (case lTO => k_is)
    (case cTO => k_is)
    (case kTO => k_is)
    (case aRI => k_is)
    (case lRI => k_is)
    (case cRI => k_is)
    (case kRI => k_is)
    (case aLA => k_is)
    (case lLA => k_is)
    (case cLA => k_is)
    (case kLA => k_is)
    (case aIT => k_is)
    (case iIT => k_is)
    (case lIT => k_is)
    (case cIT => k_is)
    (case kIT => k_is)
    (case lT => k_is)
    (case aov => k_is)
    (case iov => k_is)
    (case lov => k_is)
    (case cov => k_is)
    (case kov => k_is)
    (case aad => k_is)
    (case iad => k_is)
    (case lad => k_is)
    (case cad => k_is)
    (case kad => k_is)
    (case asb => k_is)
    (case isb => k_is)
    (case lsb => k_is)
    (case csb => k_is)
    (case ksb => k_is)
    (case amu => k_is)
    (case imu => k_is)
    (case lmu => k_is)
    (case cmu => k_is)
    (case kmu => k_is)
    (case ang => k_is)
    (case ing => k_is)
    (case lng => k_is)
    (case cng => k_is)
    (case kng => k_is)
    (case aeq => k_is)
    (case ieq => k_is)
    (case leq => k_is)
    (case ceq => k_is)
    (case keq => k_is)
    (case atp => k_is)
    (case gtp => k_is)
    (case ttp => k_is)
    (case rtph => k_is)
    (case ltp => k_is)
    (case ctp => k_is)
    (case ktp => k_is)
    (case abt => k_is)
    (case gbt => k_is)
    (case tbt => k_is)
    (case rbth => k_is)
    (case lbt => k_is)
    (case cbt => k_is)
    (case kbt => k_is)
    (case pg => k_is)
    (case hd => k_is)
    (case po => k_is)
    (case sa => k_is)
    (case mk => k_is)
    (case kc => k_is)
    (case nN => k_is)
    (case nD => k_is)
    (case ca => k_is)
    (case cn => k_is)
    (case ct => k_is)
    (case cm => k_is)
    (case sf => k_is)
    (case mi => k_is)
    (case si => k_is)
    (case hci => k_is)
    (case hty => k_is)
    (case hne => k_is)
    (case nf => k_is)
    (case xAdd => k_is)
    (case yAdd => k_is)
    (case zAdd => k_is)
    (case xSub => k_is)
    (case ySub => k_is)
    (case zSub => k_is)
    (case xMult => k_is)
    (case yMult => k_is)
    (case zMult => k_is)
    (case bisi => k_is)
    (case bint => k_is)
    (case bbool => k_is)
    (case babs => k_is)
    (case blen => k_is)
    (case bmax => k_is)
    (case bmin => k_is)
    (case brange => k_is)
    (case ball => k_is)
    (case brepr => k_is)
    (case bstr => k_is)
