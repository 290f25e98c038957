import PyProof.Rows.All
import Wide.All
import OpenK.AllK
import Wide.FinOn
import HandS.ForMost
import HandS.Style
import HandS.Wide
import HandS.IsInst
import HandS.RaiseMore
import HandS.Property
import HandS.SlotsOwn
import HandS.More
import KE.KOpsOwn
import PyProof.InstNe
import HandS.Defaults
import HandS.FStr
import KE.KCallOwn
import HandS.Exc
import PySem.Challenge.RW_matrixforms_k02_ratios_in_lowest_terms
set_option Elab.async false
set_option linter.all false
set_option maxRecDepth 100000
set_option autoImplicit false
set_option maxHeartbeats 4000000
/-! TL1: trees of data over the hand layer. D: immutable data; S: what a slot holds (data, or a list of its own that may change).
    Rep: a value stands for a tree in a heap. M: the addresses that may change (no tree goes through them), W: those that this code may change. -/
namespace TL
open PySem L2

inductive D where
  | non | bl (b : Bool) | int (i : Int) | str (x : Str) | lst (xs : List D) | scr (K : PySem.W.Frag) (a : Addr) (ns : List Int) | tup (xs : List D)
  | ins (C : Addr) (ns : List Str) (ds : List D) | vl (x : V)

/-- what may change: a list, an instance that is being made -/
inductive OC where
  | lst (xs : List D) | ins (C : Addr) (ns : List Str) (ds : List D)
inductive S where
  | im (d : D) | own (o : OC)

/-- a list of ints that stands in the written part -/
def KL (K : PySem.W.Frag) (a : Addr) (ns : List Int) : Prop := ∃ (o : Obj) (its : Array Value) (n : Nat), K.lookup a = some o ∧ o.cls = .type "list" ∧ o.dict = none ∧ o.data = .seq its n ∧ its.size ≤ sizeLine ∧ Vals (ns.map V.int) its.toList
mutual
def Rep (M : Addr → Prop) (H : Hp) : D → V → Prop
  | .non, v => v = .non
  | .bl b, v => v = .bl b
  | .int i, v => v = .int i
  | .str x, v => v = .str x
  | .lst xs, v => ∃ p vs, v = .ref p ∧ ¬ M p ∧ H p = some (.lst vs) ∧ Reps M H xs vs
  | .scr K a ns, v => v = .ref a ∧ ((¬ M a ∧ Rd H a (.lst (ns.map V.int))) ∨ KL K a ns)
  | .tup xs, v => ∃ p vs, v = .ref p ∧ ¬ M p ∧ Rd H p (.tup vs) ∧ Reps M H xs vs
  | .ins C ns ds, v => ∃ p dx vs, v = .ref p ∧ ¬ M p ∧ H p = some (.ins C dx (ns.zip vs)) ∧ Reps M H ds vs
  | .vl x, v => v = x
def Reps (M : Addr → Prop) (H : Hp) : List D → List V → Prop
  | [], vs => vs = []
  | d :: ds, vs => ∃ v r, vs = v :: r ∧ Rep M H d v ∧ Reps M H ds r
end

/-- what W does not hold stays -/
def Xt (W : Addr → Prop) (H H' : Hp) : Prop := ∀ a o, ¬ W a → H a = some o → H' a = some o
theorem Xt.refl {W : Addr → Prop} (H : Hp) : Xt W H H := fun _ _ _ h => h
theorem Xt.trans {W : Addr → Prop} {H H1 H2 : Hp} (a : Xt W H H1) (b : Xt W H1 H2) : Xt W H H2 := fun x o w h => b x o w (a x o w h)
theorem Xt.mono {W W' : Addr → Prop} {H H1 : Hp} (h : ∀ a, W a → W' a) (a : Xt W H H1) : Xt W' H H1 := fun x o w e => a x o (fun q => w (h x q)) e
theorem Xt.of {W : Addr → Prop} {H H' : Hp} (h : ∀ a o, H a = some o → H' a = some o) : Xt W H H' := fun a o _ e => h a o e
theorem ext_new {H : Hp} {p : Addr} {o : HO} (h : H p = none) : ∀ a u, H a = some u → upd H p o a = some u := fun a u e => by
  rw [upd_ne (ne_of_none e h)]; exact e

section
variable {M M' W W' : Addr → Prop} {H H' : Hp}
theorem rd_ex {a : Addr} {u : HO} (w : ∀ o, H a = some o → H' a = some o) (h : Rd H a u) : Rd H' a u := by
  rcases h with h | ⟨o, h⟩
  · exact .inl (w _ h)
  · exact .inr ⟨o, w _ h⟩
mutual
theorem Rep.ex (x : Xt M H H') : ∀ (d : D) {v : V}, Rep M H d v → Rep M H' d v
  | .non, _, h => h
  | .bl _, _, h => h
  | .int _, _, h => h
  | .str _, _, h => h
  | .vl _, _, h => h
  | .lst xs, _, ⟨p, vs, e, m, s, r⟩ => ⟨p, vs, e, m, x p _ m s, Reps.ex x xs r⟩
  | .scr K a ns, _, ⟨e, r⟩ => ⟨e, r.elim (fun z => .inl ⟨z.1, rd_ex (fun o q => x a o z.1 q) z.2⟩) .inr⟩
  | .tup xs, _, ⟨p, vs, e, m, s, r⟩ => ⟨p, vs, e, m, rd_ex (fun o q => x p o m q) s, Reps.ex x xs r⟩
  | .ins C ns ds, _, ⟨p, dx, vs, e, m, s, r⟩ => ⟨p, dx, vs, e, m, x p _ m s, Reps.ex x ds r⟩
theorem Reps.ex (x : Xt M H H') : ∀ (ds : List D) {vs : List V}, Reps M H ds vs → Reps M H' ds vs
  | [], _, h => h
  | d :: ds, _, ⟨v, r, e, a, b⟩ => ⟨v, r, e, Rep.ex x d a, Reps.ex x ds b⟩
end
mutual
theorem Rep.anti (x : ∀ a, M a → M' a) : ∀ (d : D) {v : V}, Rep M' H d v → Rep M H d v
  | .non, _, h => h
  | .bl _, _, h => h
  | .int _, _, h => h
  | .str _, _, h => h
  | .vl _, _, h => h
  | .lst xs, _, ⟨p, vs, e, m, s, r⟩ => ⟨p, vs, e, fun q => m (x p q), s, Reps.anti x xs r⟩
  | .scr K a ns, _, ⟨e, r⟩ => ⟨e, r.elim (fun z => .inl ⟨fun q => z.1 (x a q), z.2⟩) .inr⟩
  | .tup xs, _, ⟨p, vs, e, m, s, r⟩ => ⟨p, vs, e, fun q => m (x p q), s, Reps.anti x xs r⟩
  | .ins C ns ds, _, ⟨p, dx, vs, e, m, s, r⟩ => ⟨p, dx, vs, e, fun q => m (x p q), s, Reps.anti x ds r⟩
theorem Reps.anti (x : ∀ a, M a → M' a) : ∀ (ds : List D) {vs : List V}, Reps M' H ds vs → Reps M H ds vs
  | [], _, h => h
  | d :: ds, _, ⟨v, r, e, a, b⟩ => ⟨v, r, e, Rep.anti x d a, Reps.anti x ds b⟩
end
theorem rd_kn {a : Addr} {u : HO} (h : Rd H a u) : H a ≠ none := by
  rcases h with h | ⟨o, h⟩
  · rw [h]; exact fun z => nomatch z
  · rw [h]; exact fun z => nomatch z
/-! a value that stood for a tree stands for it when an address that the heap does not know becomes one that may change -/
mutual
theorem Rep.gr (x : ∀ a, M' a → M a ∨ H a = none) : ∀ (d : D) {v : V}, Rep M H d v → Rep M' H d v
  | .non, _, h => h
  | .bl _, _, h => h
  | .int _, _, h => h
  | .str _, _, h => h
  | .vl _, _, h => h
  | .lst xs, _, ⟨p, vs, e, m, s, r⟩ => ⟨p, vs, e, fun q => (x p q).elim m (fun z => nomatch s.symm.trans z), s, Reps.gr x xs r⟩
  | .scr K a ns, _, ⟨e, r⟩ => ⟨e, r.elim (fun z => .inl ⟨fun q => (x a q).elim z.1 (fun y => rd_kn z.2 y), z.2⟩) .inr⟩
  | .tup xs, _, ⟨p, vs, e, m, s, r⟩ => ⟨p, vs, e, fun q => (x p q).elim m (fun z => rd_kn s z), s, Reps.gr x xs r⟩
  | .ins C ns ds, _, ⟨p, dx, vs, e, m, s, r⟩ => ⟨p, dx, vs, e, fun q => (x p q).elim m (fun z => nomatch s.symm.trans z), s, Reps.gr x ds r⟩
theorem Reps.gr (x : ∀ a, M' a → M a ∨ H a = none) : ∀ (ds : List D) {vs : List V}, Reps M H ds vs → Reps M' H ds vs
  | [], _, h => h
  | d :: ds, _, ⟨v, r, e, a, b⟩ => ⟨v, r, e, Rep.gr x d a, Reps.gr x ds b⟩
end
theorem Reps.len : ∀ {ds : List D} {vs : List V}, Reps M H ds vs → vs.length = ds.length
  | [], _, h => by rw [show _ = [] from h]; rfl
  | d :: ds, _, ⟨v, r, e, _, b⟩ => by rw [e, List.length_cons, List.length_cons, Reps.len b]
theorem Reps.get : ∀ {ds : List D} {vs : List V} {i : Nat} {d : D}, Reps M H ds vs → ds[i]? = some d → ∃ v, vs[i]? = some v ∧ Rep M H d v
  | [], _, _, _, _, e => by simp at e
  | d :: ds, _, 0, d', ⟨v, r, e, a, b⟩, q => by
    subst e
    have : d = d' := by simpa using q
    subst this
    exact ⟨v, rfl, a⟩
  | d :: ds, _, i + 1, d', ⟨v, r, e, a, b⟩, q => by
    subst e
    obtain ⟨u, h1, h2⟩ := Reps.get (i := i) b (by simpa using q)
    exact ⟨u, by simpa using h1, h2⟩
theorem Reps.get' : ∀ {ds : List D} {vs : List V} {i : Nat} {v : V}, Reps M H ds vs → vs[i]? = some v → ∃ d, ds[i]? = some d ∧ Rep M H d v
  | [], _, _, _, h, e => by rw [show _ = [] from h] at e; simp at e
  | d :: ds, _, 0, v', ⟨v, r, e, a, b⟩, q => by
    subst e
    have : v = v' := by simpa using q
    subst this
    exact ⟨d, rfl, a⟩
  | d :: ds, _, i + 1, v', ⟨v, r, e, a, b⟩, q => by
    subst e
    obtain ⟨u, h1, h2⟩ := Reps.get' (i := i) b (by simpa using q)
    exact ⟨u, by simpa using h1, h2⟩
theorem Reps.set : ∀ {ds : List D} {vs : List V} {i : Nat} {d : D} {v : V}, Reps M H ds vs → Rep M H d v → Reps M H (ds.set i d) (vs.set i v)
  | [], _, _, _, _, h, _ => by rw [show _ = [] from h]; exact rfl
  | d :: ds, _, 0, d', v', ⟨v, r, e, a, b⟩, q => by subst e; exact ⟨v', r, rfl, q, b⟩
  | d :: ds, _, i + 1, d', v', ⟨v, r, e, a, b⟩, q => by subst e; exact ⟨v, _, rfl, a, Reps.set b q⟩
theorem Reps.app : ∀ {ds es : List D} {vs ws : List V}, Reps M H ds vs → Reps M H es ws → Reps M H (ds ++ es) (vs ++ ws)
  | [], _, _, _, h, g => by rw [show _ = [] from h]; exact g
  | d :: ds, _, _, _, ⟨v, r, e, a, b⟩, g => by subst e; exact ⟨v, _, rfl, a, Reps.app b g⟩
theorem Reps.take : ∀ {ds : List D} {vs : List V} (n : Nat), Reps M H ds vs → Reps M H (ds.take n) (vs.take n)
  | [], _, n, h => by rw [show _ = [] from h]; simp [Reps]
  | d :: ds, _, 0, _ => rfl
  | d :: ds, _, n + 1, ⟨v, r, e, a, b⟩ => by subst e; exact ⟨v, _, rfl, a, Reps.take n b⟩
theorem Reps.drop : ∀ {ds : List D} {vs : List V} (n : Nat), Reps M H ds vs → Reps M H (ds.drop n) (vs.drop n)
  | [], _, n, h => by rw [show _ = [] from h]; simp [Reps]
  | d :: ds, _, 0, h => h
  | d :: ds, _, n + 1, ⟨v, r, e, a, b⟩ => by subst e; exact Reps.drop n b
theorem Reps.ints : ∀ {ns : List Int} {vs : List V}, Reps M H (ns.map D.int) vs → vs = ns.map V.int
  | [], _, h => h
  | n :: ns, _, ⟨v, r, e, a, b⟩ => by
    have q : v = V.int n := a
    subst e; rw [q, Reps.ints b]; rfl
theorem Reps.ofInts : ∀ (ns : List Int), Reps M H (ns.map D.int) (ns.map V.int)
  | [] => rfl
  | n :: ns => ⟨V.int n, _, rfl, rfl, Reps.ofInts ns⟩
theorem Reps.strs : ∀ {ns : List Str} {vs : List V}, Reps M H (ns.map D.str) vs → vs = ns.map V.str
  | [], _, h => h
  | n :: ns, _, ⟨v, r, e, a, b⟩ => by
    have q : v = V.str n := a
    subst e; rw [q, Reps.strs b]; rfl
end

def RepO (M : Addr → Prop) (H : Hp) : OC → HO → Prop
  | .lst xs, h => ∃ vs, h = .lst vs ∧ Reps M H xs vs
  | .ins C ns ds, h => ∃ dx vs, h = .ins C dx (ns.zip vs) ∧ ns.length = ds.length ∧ Reps M H ds vs
section
variable {M M' : Addr → Prop} {H H' : Hp}
theorem RepO.ex (x : Xt M H H') (o : OC) {h : HO} (r : RepO M H o h) : RepO M H' o h := by
  cases o with
  | lst xs => obtain ⟨vs, e, r⟩ := r; exact ⟨vs, e, Reps.ex x xs r⟩
  | ins C ns ds => obtain ⟨dx, vs, e, l, r⟩ := r; exact ⟨dx, vs, e, l, Reps.ex x ds r⟩
theorem RepO.anti (x : ∀ a, M a → M' a) (o : OC) {h : HO} (r : RepO M' H o h) : RepO M H o h := by
  cases o with
  | lst xs => obtain ⟨vs, e, r⟩ := r; exact ⟨vs, e, Reps.anti x xs r⟩
  | ins C ns ds => obtain ⟨dx, vs, e, l, r⟩ := r; exact ⟨dx, vs, e, l, Reps.anti x ds r⟩
theorem RepO.gr (x : ∀ a, M' a → M a ∨ H a = none) (o : OC) {h : HO} (r : RepO M H o h) : RepO M' H o h := by
  cases o with
  | lst xs => obtain ⟨vs, e, r⟩ := r; exact ⟨vs, e, Reps.gr x xs r⟩
  | ins C ns ds => obtain ⟨dx, vs, e, l, r⟩ := r; exact ⟨dx, vs, e, l, Reps.gr x ds r⟩
end
/-- slots -/
abbrev Env := List (Option S)
def RepS (M W : Addr → Prop) (H : Hp) : S → V → Prop
  | .im d, v => Rep M H d v
  | .own o, v => ∃ p h, v = .ref p ∧ W p ∧ H p = some h ∧ RepO M H o h
structure Good (M W : Addr → Prop) (H : Hp) : Prop where
  wm : ∀ a, W a → M a
  mt : ∀ a, M a → H a ≠ none
structure EnvR (M W : Addr → Prop) (H : Hp) (σ : L2.St) (δ : TL.Env) : Prop where
  len : σ.length = δ.length
  at_ : ∀ (i : Nat) (s : S), δ[i]? = some (some s) → ∃ v, σ[i]? = some (some v) ∧ RepS M W H s v
  ap : ∀ (i j : Nat) (p : Addr) (xs ys : OC), δ[i]? = some (some (.own xs)) → δ[j]? = some (some (.own ys)) → σ[i]? = some (some (.ref p)) → σ[j]? = some (some (.ref p)) → i = j

section
variable {M M' W W' : Addr → Prop} {H H' : Hp} {σ : L2.St} {δ : TL.Env}
theorem Good.ext (g : Good M W H) (h : ∀ a o, H a = some o → H' a = some o) : Good M W H' := ⟨g.wm, fun a m z => by
  cases q : H a with
  | none => exact g.mt a m q
  | some o => rw [h a o q] at z; cases z⟩
theorem Good.new (g : Good M W H) {p : Addr} {o : HO} (h : H p = none) : Good M W (upd H p o) := g.ext (ext_new h)
theorem Good.notM (g : Good M W H) {p : Addr} (h : H p = none) : ¬ M p := fun m => g.mt p m h
theorem RepS.ext (h : ∀ a o, H a = some o → H' a = some o) {s : S} {v : V} (r : RepS M W H s v) : RepS M W H' s v := by
  cases s with
  | im d => exact Rep.ex (Xt.of h) d r
  | own xs =>
    obtain ⟨p, vs, e, w, hp, r⟩ := r
    exact ⟨p, vs, e, w, h p _ hp, RepO.ex (Xt.of h) xs r⟩
theorem EnvR.ext (h : ∀ a o, H a = some o → H' a = some o) (e : EnvR M W H σ δ) : EnvR M W H' σ δ :=
  ⟨e.len, fun i s q => let ⟨v, a, b⟩ := e.at_ i s q; ⟨v, a, RepS.ext h b⟩, e.ap⟩
/-- slot i gets data -/
theorem EnvR.set (e : EnvR M W H σ δ) {i : Nat} {d : D} {v : V} (r : Rep M H d v) : EnvR M W H (σ.set i (some v)) (δ.set i (some (.im d))) := by
  refine ⟨by rw [List.length_set, List.length_set, e.len], fun j s q => ?_, fun j k p xs ys h1 h2 h3 h4 => ?_⟩
  · by_cases hj : i = j
    · subst hj
      by_cases hl : i < δ.length
      · rw [List.getElem?_set_self hl] at q
        cases q
        exact ⟨v, by rw [List.getElem?_set_self (by rw [e.len]; exact hl)], r⟩
      · rw [List.getElem?_eq_none (by rw [List.length_set]; omega)] at q; cases q
    · rw [List.getElem?_set_ne hj] at q
      obtain ⟨u, a, b⟩ := e.at_ j s q
      exact ⟨u, by rw [List.getElem?_set_ne hj]; exact a, b⟩
  · have key : ∀ (j : Nat) (zs : OC), (δ.set i (some (.im d)))[j]? = some (some (.own zs)) → i ≠ j ∧ δ[j]? = some (some (.own zs)) := fun j zs q => by
      by_cases hj : i = j
      · subst hj
        by_cases hl : i < δ.length
        · rw [List.getElem?_set_self hl] at q; cases q
        · rw [List.getElem?_eq_none (by rw [List.length_set]; omega)] at q; cases q
      · exact ⟨hj, by rw [List.getElem?_set_ne hj] at q; exact q⟩
    obtain ⟨n1, a1⟩ := key j xs h1
    obtain ⟨n2, a2⟩ := key k ys h2
    rw [List.getElem?_set_ne n1] at h3
    rw [List.getElem?_set_ne n2] at h4
    exact e.ap j k p xs ys a1 a2 h3 h4
theorem EnvR.get (e : EnvR M W H σ δ) {i : Nat} {d : D} (h : δ[i]? = some (some (.im d))) : ∃ v, σ[i]? = some (some v) ∧ Rep M H d v := e.at_ i _ h
theorem EnvR.getO (e : EnvR M W H σ δ) {i : Nat} {xs : OC} (h : δ[i]? = some (some (.own xs))) : ∃ p vs, σ[i]? = some (some (.ref p)) ∧ W p ∧ H p = some vs ∧ RepO M H xs vs := by
  obtain ⟨v, a, p, vs, rfl, w, hp, r⟩ := e.at_ i _ h
  exact ⟨p, vs, a, w, hp, r⟩
/-- the list of its own in slot i becomes another -/
theorem EnvR.put (e : EnvR M W H σ δ) (wm : ∀ a, W a → M a) {i : Nat} {xs ys : OC} {p : Addr} {us : HO} (h : δ[i]? = some (some (.own xs))) (hp : σ[i]? = some (some (.ref p))) (hW : W p) (r : RepO M H ys us) :
    EnvR M W (upd H p us) σ (δ.set i (some (.own ys))) := by
  have X : Xt M H (upd H p us) := fun a o m q => by rw [upd_ne (fun z => m (by rw [z]; exact wm p hW))]; exact q
  have il : i < δ.length := (List.getElem?_eq_some_iff.mp h).1
  refine ⟨by rw [List.length_set, e.len], fun j s q => ?_, fun j k a zs ws h1 h2 h3 h4 => ?_⟩
  · by_cases hj : i = j
    · subst hj
      rw [List.getElem?_set_self il] at q
      cases q
      exact ⟨_, hp, p, us, rfl, hW, upd_same, RepO.ex X ys r⟩
    · rw [List.getElem?_set_ne hj] at q
      obtain ⟨u, a, b⟩ := e.at_ j s q
      refine ⟨u, a, ?_⟩
      cases s with
      | im d => exact Rep.ex X d b
      | own zs =>
        obtain ⟨p', vs, rfl, w, hp', r'⟩ := b
        refine ⟨p', vs, rfl, w, ?_, RepO.ex X zs r'⟩
        rw [upd_ne]
        · exact hp'
        · rintro rfl
          exact hj (e.ap i j p' xs zs h q hp a)
  · have key : ∀ (j : Nat) (zs : OC), (δ.set i (some (.own ys)))[j]? = some (some (.own zs)) → ∃ zs', δ[j]? = some (some (.own zs')) := fun j zs q => by
      by_cases hj : i = j
      · subst hj; exact ⟨xs, h⟩
      · rw [List.getElem?_set_ne hj] at q; exact ⟨zs, q⟩
    obtain ⟨z1, a1⟩ := key j zs h1
    obtain ⟨z2, a2⟩ := key k ws h2
    exact e.ap j k a z1 z2 a1 a2 h3 h4
/-- an address more that may change -/
def Mp (M : Addr → Prop) (p : Addr) : Addr → Prop := fun a => M a ∨ a = p
theorem RepS.gr (x : ∀ a, M' a → M a ∨ H a = none) {s : S} {v : V} (r : RepS M W H s v) : RepS M' W H s v := by
  cases s with
  | im d => exact Rep.gr x d r
  | own xs => obtain ⟨p, vs, e, w, hp, r⟩ := r; exact ⟨p, vs, e, w, hp, RepO.gr x xs r⟩
theorem RepS.anti (x : ∀ a, M a → M' a) {s : S} {v : V} (r : RepS M' W H s v) : RepS M W H s v := by
  cases s with
  | im d => exact Rep.anti x d r
  | own xs => obtain ⟨p, vs, e, w, hp, r⟩ := r; exact ⟨p, vs, e, w, hp, RepO.anti x xs r⟩
theorem EnvR.gr (x : ∀ a, M' a → M a ∨ H a = none) (e : EnvR M W H σ δ) : EnvR M' W H σ δ := ⟨e.len, fun i s q => let ⟨v, a, b⟩ := e.at_ i s q; ⟨v, a, RepS.gr x b⟩, e.ap⟩
theorem EnvR.anti (x : ∀ a, M a → M' a) (e : EnvR M' W H σ δ) : EnvR M W H σ δ := ⟨e.len, fun i s q => let ⟨v, a, b⟩ := e.at_ i s q; ⟨v, a, RepS.anti x b⟩, e.ap⟩
theorem mp_gr {p : Addr} (h : H p = none) : ∀ a, Mp M p a → M a ∨ H a = none := fun a z => z.elim .inl fun e => .inr (by rw [e]; exact h)
theorem Good.put (g : Good M W H) {p : Addr} {o : HO} : Good M W (upd H p o) := ⟨g.wm, fun a m z => by
  by_cases h : a = p
  · subst h; rw [upd_same] at z; cases z
  · rw [upd_ne h] at z; exact g.mt a m z⟩
theorem Xt.put {p : Addr} {o : HO} (w : W p) : Xt W H (upd H p o) := fun a u n e => by
  rw [upd_ne (fun z => n (by rw [z]; exact w))]; exact e
end
end TL
set_option Elab.async false
set_option linter.all false
set_option maxRecDepth 100000
set_option autoImplicit false
set_option maxHeartbeats 4000000
/-! TL2: the judgements over trees, and the rules for expressions. -/
namespace TL
open PySem L2

/-! ### the weakest readings -/
/-! (each a structure, so that nothing unfolds the machine) -/
structure WE (X : Cx) (e : Expr) (σ : L2.St) (H : Hp) (Q : VK) : Prop where
  run : ∀ (pins : List (Addr × Obj)) (s : Shared), Inv X pins σ H s → wpAny (model X.prog X.w) X.A (eval e X.env) (EP X pins σ Q) X.xe s
structure WT (X : Cx) (e : Expr) (σ : L2.St) (H : Hp) (Q : Bool → Hp → Prop) : Prop where
  run : ∀ (pins : List (Addr × Obj)) (s : Shared), Inv X pins σ H s → wpAny (model X.prog X.w) X.A (isTrue e X.env (eval e X.env)) (TP X pins σ Q) X.xe s
structure WW (X : Cx) (e : Expr) (σ : L2.St) (H : Hp) (Q : Bool → Hp → Prop) : Prop where
  run : ∀ (whole : Sem Value) (pins : List (Addr × Obj)) (s : Shared), Inv X pins σ H s → wpAny (model X.prog X.w) X.A (isTrue e X.env whole) (TP X pins σ Q) X.xe s
structure WA (X : Cx) (es : List Expr) (σ : L2.St) (H : Hp) (Q : List V → Hp → Prop) : Prop where
  run : ∀ (pos : Pos) (pins : List (Addr × Obj)) (s : Shared), Inv X pins σ H s → wpAny (model X.prog X.w) X.A (spliced (backTo pos (starEach es X.env))) (AP X pins σ Q) X.xe s
structure WS (X : Cx) (st : Stmt) (Dn : Ends) (σ : L2.St) (H : Hp) : Prop where
  run : ∀ (pins : List (Addr × Obj)) (s : Shared), Inv X pins σ H s → wpAny (model X.prog X.w) X.A (exec st X.env) (SP X pins Dn) X.xe s
structure WB (X : Cx) (sts : List Stmt) (Dn : Ends) (σ : L2.St) (H : Hp) : Prop where
  run : ∀ (pins : List (Addr × Obj)) (s : Shared), Inv X pins σ H s → wpAny (model X.prog X.w) X.A (execs sts X.env) (SP X pins Dn) X.xe s
abbrev wE (X : Cx) (e : Expr) : TE := fun σ H Q => WE X e σ H Q
abbrev wT (X : Cx) (e : Expr) : L2.TT := fun σ H Q => WT X e σ H Q
abbrev wW (X : Cx) (e : Expr) : L2.TT := fun σ H Q => WW X e σ H Q
abbrev wA (X : Cx) (es : List Expr) : L2.TA := fun σ H Q => WA X es σ H Q
abbrev wS (X : Cx) (st : Stmt) : L2.TS := fun Dn σ H => WS X st Dn σ H
abbrev wB (X : Cx) (sts : List Stmt) : L2.TS := fun Dn σ H => WB X sts Dn σ H
section
variable {X : Cx} {e : Expr} {es : List Expr} {st : Stmt} {sts : List Stmt}
theorem pe_w : PE X e (wE X e) := ⟨fun pins s _ _ _ I h => h.run pins s I⟩
theorem pt_w : PT X e (wT X e) := ⟨fun pins s _ _ _ I h => h.run pins s I⟩
theorem pw_w : PW X e (wW X e) := ⟨fun w pins s _ _ _ I h => h.run w pins s I⟩
theorem pa_w : PA X es (wA X es) := ⟨fun pos pins s _ _ _ I h => h.run pos pins s I⟩
theorem ps_w : PS X st (wS X st) := ⟨fun pins s _ _ _ I h => h.run pins s I⟩
theorem pss_w : PSs X sts (wB X sts) := ⟨fun pins s _ _ _ I h => h.run pins s I⟩
theorem wE_of {t : TE} (h : PE X e t) {σ : L2.St} {H : Hp} {Q : VK} (q : t σ H Q) : wE X e σ H Q := ⟨fun pins s I => h.run pins s σ H Q I q⟩
theorem wT_of {t : TT} (h : PT X e t) {σ : L2.St} {H : Hp} {Q : Bool → Hp → Prop} (q : t σ H Q) : wT X e σ H Q := ⟨fun pins s I => h.run pins s σ H Q I q⟩
theorem wW_of {t : TT} (h : PW X e t) {σ : L2.St} {H : Hp} {Q : Bool → Hp → Prop} (q : t σ H Q) : wW X e σ H Q := ⟨fun w pins s I => h.run w pins s σ H Q I q⟩
theorem wA_of {t : TA} (h : PA X es t) {σ : L2.St} {H : Hp} {Q : List V → Hp → Prop} (q : t σ H Q) : wA X es σ H Q := ⟨fun pos pins s I => h.run pos pins s σ H Q I q⟩
theorem wS_of {t : TS} (h : PS X st t) {σ : L2.St} {H : Hp} {Dn : Ends} (q : t Dn σ H) : wS X st Dn σ H := ⟨fun pins s I => h.run pins s σ H Dn I q⟩
theorem wB_of {t : TS} (h : PSs X sts t) {σ : L2.St} {H : Hp} {Dn : Ends} (q : t Dn σ H) : wB X sts Dn σ H := ⟨fun pins s I => h.run pins s σ H Dn I q⟩
end

/-! ### the judgements -/
/-- what a step leaves behind -/
structure Stp (M W : Addr → Prop) (σ : L2.St) (δ' : TL.Env) (H H' : Hp) : Prop where
  xt : Xt W H H'
  good : Good M W H'
  env : EnvR M W H' σ δ'
section
variable {M W : Addr → Prop} {σ : L2.St} {δ δ1 δ2 : TL.Env} {H H1 H2 : Hp}
theorem Stp.refl (g : Good M W H) (e : EnvR M W H σ δ) : Stp M W σ δ H H := ⟨Xt.refl H, g, e⟩
theorem Stp.trans (a : Stp M W σ δ1 H H1) (b : Stp M W σ δ2 H1 H2) : Stp M W σ δ2 H H2 := ⟨a.xt.trans b.xt, b.good, b.env⟩
theorem Stp.ext (a : Stp M W σ δ1 H H1) (h : ∀ x o, H1 x = some o → H2 x = some o) : Stp M W σ δ1 H H2 := ⟨a.xt.trans (Xt.of h), a.good.ext h, a.env.ext h⟩
theorem Stp.rep (a : Stp M W σ δ1 H H1) {d : D} {v : V} (r : Rep M H d v) : Rep M H1 d v := Rep.ex (Xt.mono a.good.wm a.xt) d r
theorem Stp.fresh (a : Stp M W σ δ1 H H1) {p : Addr} {o : HO} (h : H1 p = none) : Stp (Mp M p) W σ δ1 H (upd H1 p o) := by
  refine ⟨a.xt.trans (Xt.of (ext_new h)), ⟨fun x w => .inl (a.good.wm x w), fun x m z => ?_⟩, (a.env.gr (mp_gr h)).ext (ext_new h)⟩
  rcases m with m | m
  · exact (a.good.new h).mt x m z
  · rw [m, upd_same] at z; cases z
theorem Stp.anti {p : Addr} (w : ∀ x, W x → M x) (a : Stp (Mp M p) W σ δ1 H H1) : Stp M W σ δ1 H H1 := ⟨a.xt, ⟨w, fun x m => a.good.mt x (.inl m)⟩, a.env.anti fun _ m => .inl m⟩
theorem Stp.none (g : Good M W H) (a : Stp M W σ δ1 H H1) {p : Addr} (h : H1 p = none) : H p = none := by
  cases hq : H p with
  | none => rfl
  | some o =>
    exfalso
    by_cases hw : W p
    · exact a.good.mt p (a.good.wm p hw) h
    · rw [a.xt p o hw hq] at h; cases h
theorem Stp.reps (a : Stp M W σ δ1 H H1) {ds : List D} {vs : List V} (r : Reps M H ds vs) : Reps M H1 ds vs := Reps.ex (Xt.mono a.good.wm a.xt) ds r
end
def TR (X : Cx) (e : Expr) (δ : TL.Env) (d : D) (δ' : TL.Env) : Prop := ∀ (M W : Addr → Prop) (σ : L2.St) (H : Hp) (Q : VK), Good M W H → EnvR M W H σ δ →
  (∀ v H', Stp M W σ δ' H H' → Rep M H' d v → Q v H') → wE X e σ H Q
/-- a new list that nobody else holds -/
def TF (X : Cx) (e : Expr) (δ : TL.Env) (xs : List D) (δ' : TL.Env) : Prop := ∀ (M W : Addr → Prop) (σ : L2.St) (H : Hp) (Q : VK), Good M W H → EnvR M W H σ δ →
  (∀ p vs H', Stp (Mp M p) W σ δ' H H' → H p = none → H' p = some (.lst vs) → Reps (Mp M p) H' xs vs → Q (.ref p) H') → wE X e σ H Q
def TT (X : Cx) (e : Expr) (δ : TL.Env) (b : Bool) (δ' : TL.Env) : Prop := ∀ (M W : Addr → Prop) (σ : L2.St) (H : Hp) (Q : Bool → Hp → Prop), Good M W H → EnvR M W H σ δ →
  (∀ H', Stp M W σ δ' H H' → Q b H') → wT X e σ H Q
/-- a test whatever its whole is -/
def TW (X : Cx) (e : Expr) (δ : TL.Env) (b : Bool) (δ' : TL.Env) : Prop := ∀ (M W : Addr → Prop) (σ : L2.St) (H : Hp) (Q : Bool → Hp → Prop), Good M W H → EnvR M W H σ δ →
  (∀ H', Stp M W σ δ' H H' → Q b H') → wW X e σ H Q
def TA (X : Cx) (es : List Expr) (δ : TL.Env) (ds : List D) (δ' : TL.Env) : Prop := ∀ (M W : Addr → Prop) (σ : L2.St) (H : Hp) (Q : List V → Hp → Prop), Good M W H → EnvR M W H σ δ →
  (∀ vs H', Stp M W σ δ' H H' → Reps M H' ds vs → Q vs H') → wA X es σ H Q

/-! ### operations on trees -/
def OpT (r : R2) (x y z : D) : Prop := ∀ (M W : Addr → Prop) (H : Hp) (u v : V) (Q : VK), Good M W H → Rep M H x u → Rep M H y v →
  (∀ w H', (∀ a o, H a = some o → H' a = some o) → Rep M H' z w → Q w H') → r u v H Q
def UnT (r : V → Hp → VK → Prop) (x z : D) : Prop := ∀ (M W : Addr → Prop) (H : Hp) (u : V) (Q : VK), Good M W H → Rep M H x u →
  (∀ w H', (∀ a o, H a = some o → H' a = some o) → Rep M H' z w → Q w H') → r u H Q
def CaT (r : List V → Hp → VK → Prop) (xs : List D) (z : D) : Prop := ∀ (M W : Addr → Prop) (H : Hp) (us : List V) (Q : VK), Good M W H → Reps M H xs us →
  (∀ w H', (∀ a o, H a = some o → H' a = some o) → Rep M H' z w → Q w H') → r us H Q
/-- .. to a new list -/
def OpF (r : R2) (x y : D) (zs : List D) : Prop := ∀ (M W : Addr → Prop) (H : Hp) (u v : V) (Q : VK), Good M W H → Rep M H x u → Rep M H y v →
  (∀ p vs, H p = none → Reps M H zs vs → Q (.ref p) (upd H p (.lst vs))) → r u v H Q
section
variable {X : Cx} {a b c e : Expr} {es : List Expr} {δ δ1 δ2 δ3 : TL.Env} {x y z d : D} {pos p : Pos} {r : R2}

theorem tr_var {i : Nat} {n : Str} (h : δ[i]? = some (some (.im d))) (hN : X.N[i]? = some n := by rfl) (hv : Vis X.env.scope n := by first | exact Or.inl rfl | exact Or.inr (Or.inl rfl) | exact Or.inr (Or.inr rfl))
    (hd : (n == ("__debug__" : Str)) = false := by decide) (hcd : (n == ("__classdict__" : Str)) = false := by decide) : TR X (.Name n pos) δ d δ := fun M W σ H Q g E k => by
  obtain ⟨v, h1, r⟩ := E.get h
  exact wE_of (pe_var hN hv hd hcd) ⟨v, h1, k v H (Stp.refl g E) r⟩
theorem tr_c {v : V} (h : PE X e (tC v)) (hr : ∀ M H, Rep M H d v) : TR X e δ d δ := fun M W σ H Q g E k =>
  wE_of h (k v H (Stp.refl g E) (hr M H))
theorem tr_int {i : Int} {j : Nat} : TR X (.Constant (.int i) j pos) δ (.int i) δ := tr_c pe_int (fun _ _ => rfl)
theorem tr_bl {i : Bool} {j : Nat} : TR X (.Constant (.bool i) j pos) δ (.bl i) δ := tr_c pe_bl (fun _ _ => rfl)
theorem tr_str {i : Str} {j : Nat} : TR X (.Constant (.str i) j pos) δ (.str i) δ := tr_c pe_str (fun _ _ => rfl)
theorem tr_non {j : Nat} : TR X (.Constant .none j pos) δ .non δ := tr_c pe_non (fun _ _ => rfl)
theorem tr_is {d' : D} (h : TR X e δ d δ1) (q : d = d') : TR X e δ d' δ1 := q ▸ h
theorem tr_env {δ' : TL.Env} (h : TR X e δ d δ1) (q : δ1 = δ') : TR X e δ d δ' := q ▸ h

theorem tr_op {op : Operator} (ho : OpR X (binaryOp op) r) (ha : TR X a δ x δ1) (hb : TR X b δ1 y δ2) (hr : OpT r x y z) : TR X (.BinOp a op b pos) δ z δ2 := fun M W σ H Q g E k =>
  wE_of (pe_op ho pe_w pe_w) (ha M W σ H _ g E fun u H1 s1 r1 => hb M W σ H1 _ s1.good s1.env fun v H2 s2 r2 => hr M W H2 u v Q s2.good (s2.rep r1) r2 fun w H3 e3 r3 => k w H3 ((s1.trans s2).ext e3) r3)
theorem tf_op {op : Operator} {zs : List D} (ho : OpR X (binaryOp op) r) (ha : TR X a δ x δ1) (hb : TR X b δ1 y δ2) (hr : OpF r x y zs) : TF X (.BinOp a op b pos) δ zs δ2 := fun M W σ H Q g E k =>
  wE_of (pe_op ho pe_w pe_w) (ha M W σ H _ g E fun u H1 s1 r1 => hb M W σ H1 _ s1.good s1.env fun v H2 s2 r2 => hr M W H2 u v Q s2.good (s2.rep r1) r2 fun q vs n3 r3 =>
    k q vs _ ((s1.trans s2).fresh n3) ((s1.trans s2).none g n3) upd_same (Reps.ex (Xt.of (ext_new n3)) zs (Reps.gr (mp_gr n3) zs r3)))
theorem tr_un {op : UnaryOp} {ru : V → Hp → VK → Prop} (ho : UnR X (unaryOp op) ru) (ha : TR X a δ x δ1) (hr : UnT ru x z) : TR X (.UnaryOp op a pos) δ z δ1 := fun M W σ H Q g E k =>
  wE_of (pe_un ho pe_w) (ha M W σ H _ g E fun u H1 s1 r1 => hr M W H1 u Q s1.good r1 fun w H3 e3 r3 => k w H3 (s1.ext e3) r3)
theorem tr_cmp {op : CmpOp} (ho : OpR X (compareOp op) r) (ha : TR X a δ x δ1) (hb : TR X b δ1 y δ2) (hr : OpT r x y z) (hm : behindInMarks op b = false := by first | exact nomark _ | rfl) : TR X (.Compare a [op] [b] pos) δ z δ2 := fun M W σ H Q g E k =>
  wE_of (pe_cmpR ho pe_w pe_w hm) (ha M W σ H _ g E fun u H1 s1 r1 => hb M W σ H1 _ s1.good s1.env fun v H2 s2 r2 => hr M W H2 u v Q s2.good (s2.rep r1) r2 fun w H3 e3 r3 => k w H3 ((s1.trans s2).ext e3) r3)
/-- a new list may be read as data -/
theorem tr_fr {xs : List D} (h : TF X e δ xs δ1) : TR X e δ (.lst xs) δ1 := fun M W σ H Q g E k => h M W σ H Q g E fun p vs H' s n hp r => k _ H' (s.anti g.wm) ⟨p, vs, rfl, fun m => g.mt p m n, hp, Reps.anti (fun _ m => .inl m) xs r⟩

/-! arguments -/
theorem ta_nil : TA X [] δ [] δ := fun M W σ H Q g E k => wA_of pa_nil (k [] H (Stp.refl g E) rfl)
theorem ta_cons {ds : List D} (ha : TR X e δ x δ1) (hr : TA X es δ1 ds δ2) (hs : starEach (e :: es) X.env = (false, eval e X.env) :: starEach es X.env := by rfl) : TA X (e :: es) δ (x :: ds) δ2 := fun M W σ H Q g E k =>
  wA_of (pa_cons pe_w pa_w hs) (ha M W σ H _ g E fun u H1 s1 r1 => hr M W σ H1 _ s1.good s1.env fun vs H2 s2 r2 => k (u :: vs) H2 (s1.trans s2) ⟨u, vs, rfl, s2.rep r1, r2⟩)
theorem tr_tup {ds : List D} {x1 : Nat} (h : TA X es δ ds δ1) (hl : ds.length ≤ 100000 := by simp) : TR X (.Tuple es x1 pos) δ (.tup ds) δ1 := fun M W σ H Q g E k =>
  wE_of (pe_tup pa_w) (h M W σ H _ g E fun vs H1 s1 r1 => ⟨by rw [r1.len]; exact Nat.le_trans hl (by decide), fun p hp => k _ _ (s1.ext (ext_new hp)) ⟨p, vs, rfl, s1.good.notM hp, Rd.of upd_same, Reps.ex (Xt.of (ext_new hp)) ds r1⟩⟩)
theorem tf_lst {ds : List D} (h : TA X es δ ds δ1) (hl : ds.length ≤ 100000 := by simp) : TF X (.List es pos) δ ds δ1 := fun M W σ H Q g E k =>
  wE_of (pe_lst pa_w) (h M W σ H _ g E fun vs H1 s1 r1 => ⟨by rw [r1.len]; exact Nat.le_trans hl (by decide), fun q hp => k q vs _ (s1.fresh hp) (s1.none g hp) upd_same (Reps.ex (Xt.of (ext_new hp)) ds (Reps.gr (mp_gr hp) ds r1))⟩)
end
end TL
set_option Elab.async false
set_option linter.all false
set_option maxRecDepth 100000
set_option autoImplicit false
set_option maxHeartbeats 4000000
/-! TL3: tests, operators on trees, subscripts, built-in calls. -/
namespace TL
open PySem L2
section
variable {X : Cx} {a b c e : Expr} {es : List Expr} {δ δ1 δ2 δ3 : TL.Env} {x y z d : D} {pos p : Pos} {r : R2} {k l : Bool}

/-! ### tests -/
theorem tt_bl (h : TR X e δ (.bl k) δ1) (he : ∀ whole, isTrue e X.env whole = (do let v ← whole; standAt e.pos; holding [v] (truthy v)) := by intro _; rfl) : TT X e δ k δ1 := fun M W σ H Q g E q =>
  wT_of (pt_val pe_w he) (h M W σ H _ g E fun v H1 s1 r1 => ⟨k, r1, q H1 s1⟩)
theorem tt_cmp {op : CmpOp} (ho : OpR X (compareOp op) r) (ha : TR X a δ x δ1) (hb : TR X b δ1 y δ2) (hr : OpT r x y (.bl k)) (hm : behindInMarks op b = false := by first | exact nomark _ | rfl) : TT X (.Compare a [op] [b] pos) δ k δ2 := fun M W σ H Q g E q =>
  wT_of (pt_cmpR ho pe_w pe_w hm) (ha M W σ H _ g E fun u H1 s1 r1 => hb M W σ H1 _ s1.good s1.env fun v H2 s2 r2 => hr M W H2 u v _ s2.good (s2.rep r1) r2 fun w H3 e3 r3 => ⟨k, r3, q H3 ((s1.trans s2).ext e3)⟩)
theorem tt_not (h : TT X a δ k δ1) : TT X (.UnaryOp .Not a pos) δ (!k) δ1 := fun M W σ H Q g E q =>
  wT_of (pt_not pt_w) (h M W σ H _ g E fun H1 s1 => q H1 s1)
theorem tt_w (h : TW X e δ k δ1) : TT X e δ k δ1 := fun M W σ H Q g E q => wT_of (PW.pt pw_w) (h M W σ H Q g E q)
theorem tt_is {l : Bool} (h : TT X e δ k δ1) (q : k = l) : TT X e δ l δ1 := q ▸ h
theorem tw_and1 (h : TT X a δ k δ1) : TW X (.BoolOp .And [a] pos) δ k δ1 := fun M W σ H Q g E q => wW_of (pw_and1 pt_w) (h M W σ H Q g E q)
theorem tw_or1 (h : TT X a δ k δ1) : TW X (.BoolOp .Or [a] pos) δ k δ1 := fun M W σ H Q g E q => wW_of (pw_or1 pt_w) (h M W σ H Q g E q)
theorem tw_and {rest : List Expr} (h : TT X a δ k δ1) (h2 : k = true → TW X (.BoolOp .And (b :: rest) pos) δ1 l δ1) : TW X (.BoolOp .And (a :: b :: rest) pos) δ (k && l) δ1 := fun M W σ H Q g E q =>
  wW_of (pw_and pt_w pw_w) (h M W σ H _ g E fun H1 s1 => by
    cases k with
    | true => rw [if_pos rfl]; exact h2 rfl M W σ H1 Q s1.good s1.env fun H2 s2 => q H2 (s1.trans s2)
    | false => rw [if_neg Bool.false_ne_true]; exact q H1 s1)
theorem tw_or {rest : List Expr} (h : TT X a δ k δ1) (h2 : k = false → TW X (.BoolOp .Or (b :: rest) pos) δ1 l δ1) : TW X (.BoolOp .Or (a :: b :: rest) pos) δ (k || l) δ1 := fun M W σ H Q g E q =>
  wW_of (pw_or pt_w pw_w) (h M W σ H _ g E fun H1 s1 => by
    cases k with
    | true => rw [if_pos rfl]; exact q H1 s1
    | false => rw [if_neg Bool.false_ne_true]; exact h2 rfl M W σ H1 Q s1.good s1.env fun H2 s2 => q H2 (s1.trans s2))
theorem tr_one {op : BoolOp} (h : TR X a δ d δ1) : TR X (.BoolOp op [a] pos) δ d δ1 := fun M W σ H Q g E q => wE_of (pe_one pe_w) (h M W σ H Q g E q)
theorem tr_and {rest : List Expr} (h : TR X a δ (.bl k) δ1) (h2 : k = true → TR X (.BoolOp .And (b :: rest) pos) δ1 (.bl l) δ1) : TR X (.BoolOp .And (a :: b :: rest) pos) δ (.bl (k && l)) δ1 := fun M W σ H Q g E q =>
  wE_of (pe_and pe_w pe_w) (h M W σ H _ g E fun v H1 s1 r1 => ⟨k, r1, by
    cases k with
    | true => rw [if_pos rfl]; exact h2 rfl M W σ H1 Q s1.good s1.env fun v H2 s2 r2 => q v H2 (s1.trans s2) r2
    | false => rw [if_neg Bool.false_ne_true]; exact q _ H1 s1 rfl⟩)
theorem tr_or {rest : List Expr} (h : TR X a δ (.bl k) δ1) (h2 : k = false → TR X (.BoolOp .Or (b :: rest) pos) δ1 (.bl l) δ1) : TR X (.BoolOp .Or (a :: b :: rest) pos) δ (.bl (k || l)) δ1 := fun M W σ H Q g E q =>
  wE_of (pe_or pe_w pe_w) (h M W σ H _ g E fun v H1 s1 r1 => ⟨k, r1, by
    cases k with
    | true => rw [if_pos rfl]; exact q _ H1 s1 rfl
    | false => rw [if_neg Bool.false_ne_true]; exact h2 rfl M W σ H1 Q s1.good s1.env fun v H2 s2 r2 => q v H2 (s1.trans s2) r2⟩)
theorem tr_not (h : TR X a δ (.bl k) δ1) : TR X (.UnaryOp .Not a pos) δ (.bl (!k)) δ1 := fun M W σ H Q g E q =>
  wE_of (pe_not pe_w) (h M W σ H _ g E fun v H1 s1 r1 => ⟨k, r1, q _ H1 s1 rfl⟩)
theorem tr_if (hc : TT X c δ k δ1) (h1 : k = true → TR X a δ1 d δ2) (h2 : k = false → TR X b δ1 d δ2) : TR X (.IfExp c a b pos) δ d δ2 := fun M W σ H Q g E q =>
  wE_of (pe_ifExp pt_w pe_w pe_w) (hc M W σ H _ g E fun H1 s1 => by
    cases k with
    | true => rw [if_pos rfl]; exact h1 rfl M W σ H1 Q s1.good s1.env fun v H2 s2 r2 => q v H2 (s1.trans s2) r2
    | false => rw [if_neg Bool.false_ne_true]; exact h2 rfl M W σ H1 Q s1.good s1.env fun v H2 s2 r2 => q v H2 (s1.trans s2) r2)
/-- the truth of a list -/
theorem tt_lst {xs : List D} (h : TR X e δ (.lst xs) δ1) (he : ∀ whole, isTrue e X.env whole = (do let v ← whole; standAt e.pos; holding [v] (truthy v)) := by intro _; rfl) : TT X e δ (!xs.isEmpty) δ1 := fun M W σ H Q g E q =>
  wT_of (pt_truth pe_w he) (h M W σ H _ g E fun v H1 s1 ⟨p, vs, ev, m, hp, r⟩ => ⟨!xs.isEmpty, by
    subst ev
    refine .inl ⟨vs, SqL.of hp, ?_⟩
    have := r.len
    cases xs <;> cases vs <;> simp_all, q H1 s1⟩)

/-! ### operators on ints and texts -/
theorem ot_I0 {g : Int → Int → V} {i j : Int} (h : ∀ M H, Rep M H z (g i j)) : OpT (rI0 g) (.int i) (.int j) z := fun M W H u v Q _ ru rv k => ⟨i, j, ru, rv, k _ H (fun _ _ e => e) (h M H)⟩
theorem ot_I {C : Int → Int → Prop} {g : Int → Int → V} {i j : Int} (hc : C i j) (h : ∀ M H, Rep M H z (g i j)) : OpT (rI C g) (.int i) (.int j) z := fun M W H u v Q _ ru rv k => ⟨i, j, ru, rv, hc, k _ H (fun _ _ e => e) (h M H)⟩
theorem ot_eqI {i j : Int} : OpT rEq (.int i) (.int j) (.bl (decide (i = j))) := fun M W H u v Q _ ru rv k => by
  rw [show u = .int i from ru, show v = .int j from rv]
  refine ⟨rfl, k _ H (fun _ _ e => e) ?_⟩
  show V.bl _ = V.bl _
  congr 1
  exact decide_eq_decide.mpr ⟨fun z => V.int.inj z, fun z => by rw [z]⟩
theorem ot_neI {i j : Int} : OpT rNe (.int i) (.int j) (.bl (!decide (i = j))) := fun M W H u v Q _ ru rv k => by
  rw [show u = .int i from ru, show v = .int j from rv]
  refine ⟨rfl, k _ H (fun _ _ e => e) ?_⟩
  show V.bl _ = V.bl _
  congr 2
  exact decide_eq_decide.mpr ⟨fun z => V.int.inj z, fun z => by rw [z]⟩
theorem ot_eqS {i j : Str} : OpT rEq (.str i) (.str j) (.bl (decide (i = j))) := fun M W H u v Q _ ru rv k => by
  rw [show u = .str i from ru, show v = .str j from rv]
  refine ⟨rfl, k _ H (fun _ _ e => e) ?_⟩
  show V.bl _ = V.bl _
  congr 1
  exact decide_eq_decide.mpr ⟨fun z => V.str.inj z, fun z => by rw [z]⟩
theorem ot_neS {i j : Str} : OpT rNe (.str i) (.str j) (.bl (!decide (i = j))) := fun M W H u v Q _ ru rv k => by
  rw [show u = .str i from ru, show v = .str j from rv]
  refine ⟨rfl, k _ H (fun _ _ e => e) ?_⟩
  show V.bl _ = V.bl _
  congr 2
  exact decide_eq_decide.mpr ⟨fun z => V.str.inj z, fun z => by rw [z]⟩
theorem tr_add {i j : Int} (ha : TR X a δ (.int i) δ1) (hb : TR X b δ1 (.int j) δ2) : TR X (.BinOp a .Add b pos) δ (.int (i + j)) δ2 := tr_op op_add ha hb (ot_I0 fun _ _ => rfl)
theorem tr_sub {i j : Int} (ha : TR X a δ (.int i) δ1) (hb : TR X b δ1 (.int j) δ2) : TR X (.BinOp a .Sub b pos) δ (.int (i - j)) δ2 := tr_op op_sub ha hb (ot_I0 fun _ _ => rfl)
theorem tr_mul {i j : Int} (ha : TR X a δ (.int i) δ1) (hb : TR X b δ1 (.int j) δ2) (hc : CMulW i j) : TR X (.BinOp a .Mult b pos) δ (.int (i * j)) δ2 := tr_op op_mulW ha hb (ot_I hc fun _ _ => rfl)
theorem tr_mod {i j : Int} (ha : TR X a δ (.int i) δ1) (hb : TR X b δ1 (.int j) δ2) (hc : 0 < j) : TR X (.BinOp a .Mod b pos) δ (.int (i % j)) δ2 := tr_op op_mod ha hb (ot_I hc fun _ _ => rfl)
theorem tr_fdivN {i j : Int} (ha : TR X a δ (.int i) δ1) (hb : TR X b δ1 (.int j) δ2) (hc : 0 < j ∧ j < 1073741824) : TR X (.BinOp a .FloorDiv b pos) δ (.int (i / j)) δ2 := tr_op op_fdiv ha hb (ot_I hc fun _ _ => rfl)
theorem tr_pow {i j : Int} (ha : TR X a δ (.int i) δ1) (hb : TR X b δ1 (.int j) δ2) (hc : 0 ≤ j ∧ j ≤ 1000000 ∧ i.natAbs < 2 ^ 64) : TR X (.BinOp a .Pow b pos) δ (.int (i ^ j.toNat)) δ2 := tr_op op_pow ha hb (ot_I hc fun _ _ => rfl)
theorem tr_neg {i : Int} (ha : TR X a δ (.int i) δ1) : TR X (.UnaryOp .USub a pos) δ (.int (-i)) δ1 := tr_un un_neg ha fun M W H u Q _ ru k => ⟨i, ru, k _ H (fun _ _ e => e) rfl⟩
theorem tr_addS {i j : Str} (ha : TR X a δ (.str i) δ1) (hb : TR X b δ1 (.str j) δ2) (hc : i.length + j.length ≤ sizeLine) : TR X (.BinOp a .Add b pos) δ (.str (i ++ j)) δ2 :=
  tr_op op_add_str ha hb fun M W H u v Q _ ru rv k => ⟨i, j, ru, rv, hc, k _ H (fun _ _ e => e) rfl⟩
theorem tt_lt {i j : Int} (ha : TR X a δ (.int i) δ1) (hb : TR X b δ1 (.int j) δ2) : TT X (.Compare a [.Lt] [b] pos) δ (decide (i < j)) δ2 := tt_cmp op_lt ha hb (ot_I0 fun _ _ => rfl)
theorem tt_le {i j : Int} (ha : TR X a δ (.int i) δ1) (hb : TR X b δ1 (.int j) δ2) : TT X (.Compare a [.LtE] [b] pos) δ (decide (i ≤ j)) δ2 := tt_cmp op_le ha hb (ot_I0 fun _ _ => rfl)
theorem tt_gt {i j : Int} (ha : TR X a δ (.int i) δ1) (hb : TR X b δ1 (.int j) δ2) : TT X (.Compare a [.Gt] [b] pos) δ (decide (j < i)) δ2 := tt_cmp op_gt ha hb (ot_I0 fun _ _ => rfl)
theorem tt_ge {i j : Int} (ha : TR X a δ (.int i) δ1) (hb : TR X b δ1 (.int j) δ2) : TT X (.Compare a [.GtE] [b] pos) δ (decide (j ≤ i)) δ2 := tt_cmp op_ge ha hb (ot_I0 fun _ _ => rfl)
theorem tt_eqI {i j : Int} (ha : TR X a δ (.int i) δ1) (hb : TR X b δ1 (.int j) δ2) : TT X (.Compare a [.Eq] [b] pos) δ (decide (i = j)) δ2 := tt_cmp op_eq ha hb ot_eqI
theorem tt_neI {i j : Int} (ha : TR X a δ (.int i) δ1) (hb : TR X b δ1 (.int j) δ2) : TT X (.Compare a [.NotEq] [b] pos) δ (!decide (i = j)) δ2 := tt_cmp op_ne ha hb ot_neI
theorem tt_eqS {i j : Str} (ha : TR X a δ (.str i) δ1) (hb : TR X b δ1 (.str j) δ2) : TT X (.Compare a [.Eq] [b] pos) δ (decide (i = j)) δ2 := tt_cmp op_eq ha hb ot_eqS
theorem tt_neS {i j : Str} (ha : TR X a δ (.str i) δ1) (hb : TR X b δ1 (.str j) δ2) : TT X (.Compare a [.NotEq] [b] pos) δ (!decide (i = j)) δ2 := tt_cmp op_ne ha hb ot_neS
theorem tr_eqI {i j : Int} (ha : TR X a δ (.int i) δ1) (hb : TR X b δ1 (.int j) δ2) : TR X (.Compare a [.Eq] [b] pos) δ (.bl (decide (i = j))) δ2 := tr_cmp op_eq ha hb ot_eqI
theorem tr_neI {i j : Int} (ha : TR X a δ (.int i) δ1) (hb : TR X b δ1 (.int j) δ2) : TR X (.Compare a [.NotEq] [b] pos) δ (.bl (!decide (i = j))) δ2 := tr_cmp op_ne ha hb ot_neI
theorem tr_eqS {i j : Str} (ha : TR X a δ (.str i) δ1) (hb : TR X b δ1 (.str j) δ2) : TR X (.Compare a [.Eq] [b] pos) δ (.bl (decide (i = j))) δ2 := tr_cmp op_eq ha hb ot_eqS
theorem tr_neS {i j : Str} (ha : TR X a δ (.str i) δ1) (hb : TR X b δ1 (.str j) δ2) : TR X (.Compare a [.NotEq] [b] pos) δ (.bl (!decide (i = j))) δ2 := tr_cmp op_ne ha hb ot_neS

/-! ### subscripts -/
theorem atI_map {vs : List V} {ds : List D} {M : Addr → Prop} {H : Hp} {i : Int} (r : Reps M H ds vs) (h : atI ds i = some d) : ∃ v, atI vs i = some v ∧ Rep M H d v := by
  unfold atI at h ⊢
  rw [r.len]
  cases hj : ixN ds.length i with
  | none => rw [hj] at h; cases h
  | some j =>
    rw [hj] at h
    exact r.get h
theorem tr_ixL {xs : List D} {i : Int} (ha : TR X a δ (.lst xs) δ1) (hb : TR X b δ1 (.int i) δ2) (hd : atI xs i = some d) (hs : PlainIx b := by exact fun _ _ => rfl) : TR X (.Subscript a b pos) δ d δ2 := fun M W σ H Q g E k =>
  wE_of (pe_ix ix_list pe_w pe_w hs) (ha M W σ H _ g E fun u H1 s1 r1 => hb M W σ H1 _ s1.good s1.env fun v H2 s2 r2 => by
    obtain ⟨p, vs, eu, m, hp, r⟩ := s2.rep r1
    obtain ⟨w, hw, rw'⟩ := atI_map r hd
    exact ⟨p, vs, i, w, eu, r2, SqL.of hp, hw, k w H2 (s1.trans s2) rw'⟩)
theorem tr_ixT {xs : List D} {i : Int} (ha : TR X a δ (.tup xs) δ1) (hb : TR X b δ1 (.int i) δ2) (hd : atI xs i = some d) (hs : PlainIx b := by exact fun _ _ => rfl) : TR X (.Subscript a b pos) δ d δ2 := fun M W σ H Q g E k =>
  wE_of (pe_ix ix_tup pe_w pe_w hs) (ha M W σ H _ g E fun u H1 s1 r1 => hb M W σ H1 _ s1.good s1.env fun v H2 s2 r2 => by
    obtain ⟨p, vs, eu, m, hp, r⟩ := s2.rep r1
    obtain ⟨w, hw, rw'⟩ := atI_map r hd
    exact ⟨p, vs, i, w, eu, r2, .inl hp, hw, k w H2 (s1.trans s2) rw'⟩)
/-- an item of the list of its own in slot n -/
theorem tr_ixO {n : Nat} {nm : Str} {xs : List D} {i : Int} (h : δ[n]? = some (some (.own (.lst xs)))) (hb : TR X b δ (.int i) δ) (hd : atI xs i = some d) (hN : X.N[n]? = some nm := by rfl)
    (hv : Vis X.env.scope nm := by first | exact Or.inl rfl | exact Or.inr (Or.inl rfl) | exact Or.inr (Or.inr rfl)) (hdb : (nm == ("__debug__" : Str)) = false := by decide) (hcd : (nm == ("__classdict__" : Str)) = false := by decide)
    (hs : PlainIx b := by exact fun _ _ => rfl) : TR X (.Subscript (.Name nm p) b pos) δ d δ := fun M W σ H Q g E k => by
  obtain ⟨q, ho, h1, hw, hp, vs, rfl, r⟩ := E.getO h
  refine wE_of (pe_ix ix_list (pe_var hN hv hdb hcd) pe_w hs) ⟨_, h1, hb M W σ H _ g E fun v H2 s2 r2 => ?_⟩
  obtain ⟨q', ho', h1', hw', hp', vs', rfl, r'⟩ := s2.env.getO h
  rw [h1] at h1'
  cases h1'
  obtain ⟨w, hw2, rw2⟩ := atI_map r' hd
  exact ⟨q, vs', i, w, rfl, r2, SqL.of hp', hw2, k w H2 s2 rw2⟩

/-! ### slices of a list that is read, sums of new lists -/
def TO (X : Cx) (e : Option Expr) (δ : TL.Env) (o : Option Int) (δ' : TL.Env) : Prop := ∀ (M W : Addr → Prop) (σ : L2.St) (H : Hp), Good M W H → EnvR M W H σ δ → ∃ t : L2.St → Hp → (Option Int → Hp → Prop) → Prop, PO X e t ∧ ∀ Q : Option Int → Hp → Prop, (∀ H', Stp M W σ δ' H H' → Q o H') → t σ H Q
end
end TL
set_option Elab.async false
set_option linter.all false
set_option maxRecDepth 100000
set_option autoImplicit false
set_option maxHeartbeats 4000000
/-! TL4: statements, blocks, defs and their calls. -/
namespace TL
open PySem L2

inductive Res where
  | im (d : D) | fr (xs : List D)
inductive Out where
  | nx (δ : TL.Env) | rt (r : Res) (δ : TL.Env) | bk (δ : TL.Env) | ct (δ : TL.Env)
structure Gr (M W M' W' : Addr → Prop) (H : Hp) : Prop where
  mm : ∀ a, M a → M' a
  mn : ∀ a, M' a → M a ∨ H a = none
  ww : ∀ a, W a → W' a
  wn : ∀ a, W' a → W a ∨ H a = none
def Kp (δ : TL.Env) (σ : L2.St) (δ' : TL.Env) (σ' : L2.St) : Prop := ∀ (i : Nat) (xs : OC), δ[i]? = some (some (.own xs)) → ∃ ys, δ'[i]? = some (some (.own ys)) ∧ σ'[i]? = σ[i]?
structure Aft (M W M' W' : Addr → Prop) (δ : TL.Env) (σ : L2.St) (H : Hp) (δ' : TL.Env) (σ' : L2.St) (H' : Hp) : Prop where
  gr : Gr M W M' W' H
  xt : Xt W H H'
  good : Good M' W' H'
  env : EnvR M' W' H' σ' δ'
  kp : Kp δ σ δ' σ'
def RepR (M : Addr → Prop) (H H' : Hp) : Res → V → Prop
  | .im d, v => Rep M H' d v
  | .fr xs, v => ∃ p vs, v = .ref p ∧ H p = none ∧ H' p = some (.lst vs) ∧ Reps (Mp M p) H' xs vs
def After (Dn : Ends) (M W : Addr → Prop) (δ : TL.Env) (σ : L2.St) (H : Hp) : Out → Prop
  | .nx δ' => ∀ M' W' σ' H', Aft M W M' W' δ σ H δ' σ' H' → Dn.nx σ' H'
  | .rt r δ' => ∀ M' W' σ' H' v, Aft M W M' W' δ σ H δ' σ' H' → RepR M' H H' r v → Dn.rt v H'
  | .bk δ' => ∀ M' W' σ' H', Aft M W M' W' δ σ H δ' σ' H' → Dn.bk σ' H'
  | .ct δ' => ∀ M' W' σ' H', Aft M W M' W' δ σ H δ' σ' H' → Dn.ct σ' H'
def TB (X : Cx) (sts : List Stmt) (δ : TL.Env) (o : Out) : Prop := ∀ (M W : Addr → Prop) (σ : L2.St) (H : Hp) (Dn : Ends), Good M W H → EnvR M W H σ δ → After Dn M W δ σ H o → wB X sts Dn σ H
def TS (X : Cx) (st : Stmt) (δ : TL.Env) (o : Out) : Prop := ∀ (M W : Addr → Prop) (σ : L2.St) (H : Hp) (Dn : Ends), Good M W H → EnvR M W H σ δ → After Dn M W δ σ H o → wS X st Dn σ H

section
variable {M W M' W' M1 W1 M2 W2 : Addr → Prop} {δ δ' δ1 δ2 : TL.Env} {σ σ' σ1 σ2 : L2.St} {H H' H1 H2 : Hp}
theorem Gr.refl : Gr M W M W H := ⟨fun _ h => h, fun _ h => .inl h, fun _ h => h, fun _ h => .inl h⟩
theorem Kp.refl : Kp δ σ δ σ := fun i xs h => ⟨xs, h, rfl⟩
/-- what was not known before a step was not known earlier -/
theorem back (g : Good M W H) (g1 : ∀ a, M a → H1 a ≠ none) (x : Xt W H H1) {a : Addr} (h : H1 a = none) : H a = none := by
  cases q : H a with
  | none => rfl
  | some o =>
    exfalso
    by_cases hw : W a
    · exact g1 a (g.wm a hw) h
    · rw [x a o hw q] at h; cases h
theorem Aft.trans (g : Good M W H) (a : Aft M W M1 W1 δ σ H δ1 σ1 H1) (b : Aft M1 W1 M2 W2 δ1 σ1 H1 δ2 σ2 H2) : Aft M W M2 W2 δ σ H δ2 σ2 H2 := by
  have bk : ∀ {x : Addr}, H1 x = none → H x = none := fun {x} h => back g (fun y m => a.good.mt y (a.gr.mm y m)) a.xt h
  refine ⟨⟨fun x m => b.gr.mm x (a.gr.mm x m), fun x m => ?_, fun x m => b.gr.ww x (a.gr.ww x m), fun x m => ?_⟩, fun x o w h => b.xt x o (fun w1 => ?_) (a.xt x o w h), b.good, b.env, fun i xs h => ?_⟩
  · rcases b.gr.mn x m with m | m
    · exact a.gr.mn x m
    · exact .inr (bk m)
  · rcases b.gr.wn x m with m | m
    · exact a.gr.wn x m
    · exact .inr (bk m)
  · rcases a.gr.wn x w1 with w1 | w1
    · exact w w1
    · rw [w1] at h; cases h
  · obtain ⟨ys, h1, e1⟩ := a.kp i xs h
    obtain ⟨zs, h2, e2⟩ := b.kp i ys h1
    exact ⟨zs, h2, e2.trans e1⟩
theorem RepR.back (g : Good M W H) (a : Aft M W M1 W1 δ σ H δ1 σ1 H1) {r : Res} {v : V} (h : RepR M2 H1 H2 r v) : RepR M2 H H2 r v := by
  cases r with
  | im d => exact h
  | fr xs =>
    obtain ⟨p, vs, e, n, h1, h2⟩ := h
    exact ⟨p, vs, e, TL.back g (fun y m => a.good.mt y (a.gr.mm y m)) a.xt n, h1, h2⟩
theorem After.trans {Dn : Ends} {o : Out} (g : Good M W H) (a : Aft M W M1 W1 δ σ H δ1 σ1 H1) (k : After Dn M W δ σ H o) : After Dn M1 W1 δ1 σ1 H1 o := by
  cases o with
  | nx δ' => exact fun M' W' σ' H' b => k M' W' σ' H' (a.trans g b)
  | rt r δ' => exact fun M' W' σ' H' v b q => k M' W' σ' H' v (a.trans g b) (q.back g a)
  | bk δ' => exact fun M' W' σ' H' b => k M' W' σ' H' (a.trans g b)
  | ct δ' => exact fun M' W' σ' H' b => k M' W' σ' H' (a.trans g b)
theorem After.nx' {Dn : Ends} {o : Out} {f : L2.St → Hp → Prop} (h : ∀ δ', o ≠ .nx δ') (k : After Dn M W δ σ H o) : After { Dn with nx := f } M W δ σ H o := by
  cases o with
  | nx δ' => exact absurd rfl (h δ')
  | rt r δ' => exact k
  | bk δ' => exact k
  | ct δ' => exact k
/-- an expression's step, seen as a statement's: shapes of the environments agree -/
def Sh (δ δ' : TL.Env) : Prop := ∀ (i : Nat) (xs : OC), δ[i]? = some (some (.own xs)) → ∃ ys, δ'[i]? = some (some (.own ys))
theorem Sh.refl {δ : TL.Env} : Sh δ δ := fun _ xs h => ⟨xs, h⟩
theorem Stp.aft (s : Stp M W σ δ1 H H1) (h : Sh δ δ1) : Aft M W M W δ σ H δ1 σ H1 := ⟨Gr.refl, s.xt, s.good, s.env, fun i xs q => let ⟨ys, z⟩ := h i xs q; ⟨ys, z, rfl⟩⟩
end

section
variable {X : Cx} {a b c e : Expr} {st : Stmt} {sts rest body orelse : List Stmt} {δ δ1 δ2 δ3 : TL.Env} {o o1 : Out} {d : D} {pos p : Pos} {k : Bool} {xs : List D}
theorem tb_nil : TB X [] δ (.nx δ) := fun M W σ H Dn g E q => wB_of pss_nil (q M W σ H ⟨Gr.refl, Xt.refl H, g, E, Kp.refl⟩)
theorem tb_cons (h : TS X st δ (.nx δ1)) (hr : TB X rest δ1 o) : TB X (st :: rest) δ o := fun M W σ H Dn g E q =>
  wB_of (pss_cons ps_w pss_w) (h M W σ H _ g E fun M' W' σ' H' A => hr M' W' σ' H' Dn A.good A.env (q.trans g A))
theorem tb_stop (h : TS X st δ o) (hn : ∀ δ', o ≠ .nx δ' := by intro _ z; cases z) : TB X (st :: rest) δ o := fun M W σ H Dn g E q =>
  wB_of (pss_cons ps_w pss_w) (h M W σ H _ g E (q.nx' hn))
theorem tb_out {o' : Out} (h : TB X sts δ o) (e : o = o') : TB X sts δ o' := e ▸ h
/-- what a part's end is to the whole block -/
def Sq (X : Cx) (rest : List Stmt) (o1 o : Out) : Prop := (∃ δ', o1 = .nx δ' ∧ TB X rest δ' o) ∨ ((∀ δ', o1 ≠ .nx δ') ∧ o1 = o)
theorem sq_nx (h : TB X rest δ o) : Sq X rest (.nx δ) o := .inl ⟨δ, rfl, h⟩
theorem sq_rt {r : Res} : Sq X rest (.rt r δ) (.rt r δ) := .inr ⟨(fun _ z => nomatch z), rfl⟩
theorem tb_if (hc : TT X c δ k δ1) (sh : Sh δ δ1) (h1 : k = true → ∃ o1, TB X body δ1 o1 ∧ Sq X rest o1 o) (h2 : k = false → ∃ o2, TB X orelse δ1 o2 ∧ Sq X rest o2 o) : TB X (.If c body orelse pos :: rest) δ o := fun M W σ H Dn g E q =>
  wB_of (pss_cons (ps_if pt_w pss_w pss_w) pss_w) (hc M W σ H _ g E fun H1 s1 => by
    have q1 := q.trans g (s1.aft sh)
    have main : ∀ (bl : List Stmt), (∃ o1, TB X bl δ1 o1 ∧ Sq X rest o1 o) → wB X bl { Dn with nx := wB X rest Dn } σ H1 := fun bl ⟨o1, hb, hs⟩ => by
      rcases hs with ⟨δ', rfl, hr⟩ | ⟨hn, rfl⟩
      · exact hb M W σ H1 _ s1.good s1.env fun M' W' σ' H' A => hr M' W' σ' H' Dn A.good A.env (q1.trans s1.good A)
      · exact hb M W σ H1 _ s1.good s1.env (q1.nx' hn)
    cases k with
    | true => rw [if_pos rfl]; exact main body (h1 rfl)
    | false => rw [if_neg Bool.false_ne_true]; exact main orelse (h2 rfl))
theorem ts_ret (h : TR X e δ d δ1) (sh : Sh δ δ1) : TS X (.Return (some e) pos) δ (.rt (.im d) δ1) := fun M W σ H Dn g E q =>
  wS_of (ps_ret pe_w) (h M W σ H _ g E fun v H1 s1 r1 => q M W σ H1 v (s1.aft sh) r1)
theorem ts_retF (h : TF X e δ xs δ1) (sh : Sh δ δ1) : TS X (.Return (some e) pos) δ (.rt (.fr xs) δ1) := fun M W σ H Dn g E q =>
  wS_of (ps_ret pe_w) (h M W σ H _ g E fun p vs H1 s1 n hp r1 => q M W σ H1 _ ((s1.anti g.wm).aft sh) ⟨p, vs, rfl, n, hp, r1⟩)
theorem ts_expr (h : TR X e δ d δ1) (sh : Sh δ δ1) (hs : swapsWith e none pos.line X.env = pure false := by rfl) : TS X (.Expr e pos) δ (.nx δ1) := fun M W σ H Dn g E q =>
  wS_of (ps_expr pe_w hs) (h M W σ H _ g E fun v H1 s1 r1 => q M W σ H1 (s1.aft sh))
theorem ts_pass : TS X (.Pass pos) δ (.nx δ) := fun M W σ H Dn g E q => wS_of ps_pass (q M W σ H ⟨Gr.refl, Xt.refl H, g, E, Kp.refl⟩)

/-! ### x = e -/
theorem aft_set {M W : Addr → Prop} {σ : L2.St} {H H1 : Hp} {i : Nat} {v : V} (s : Stp M W σ δ1 H H1) (sh : Sh δ δ1) (hno : ∀ xs, δ1[i]? ≠ some (some (.own xs))) (r : Rep M H1 d v) :
    Aft M W M W δ σ H (δ1.set i (some (.im d))) (σ.set i (some v)) H1 := by
  refine ⟨Gr.refl, s.xt, s.good, s.env.set r, fun j xs q => ?_⟩
  obtain ⟨ys, z⟩ := sh j xs q
  have hj : i ≠ j := fun e => by subst e; exact hno ys z
  exact ⟨ys, by rw [List.getElem?_set_ne hj]; exact z, by rw [List.getElem?_set_ne hj]⟩
theorem ts_set {i : Nat} {n : Str} (h : TR X e δ d δ1) (sh : Sh δ δ1) (hno : ∀ xs, δ1[i]? ≠ some (some (.own xs))) (hN : X.N.Nodup) (hi : X.N[i]? = some n := by rfl) (hx : Loc X.env.scope n := by first | exact Or.inl rfl | exact Or.inr rfl)
    (hs : swapsWith e (some (.Name n p)) pos.line X.env = pure false := by rfl) (hf : X.fn n = true ∨ X.env.scope.names.lookup n = some .local := by first | exact .inl rfl | exact .inr rfl) : TS X (.Assign [.Name n p] e pos) δ (.nx (δ1.set i (some (.im d)))) := fun M W σ H Dn g E q =>
  wS_of (ps_set hN hi hx pe_w hs hf) (h M W σ H _ g E fun v H1 s1 r1 => q M W _ H1 (aft_set s1 sh hno r1))
/-- a, b = e1, e2 -/
theorem ts_par {i j : Nat} {x y : Str} {px py pt : Pos} {kt k2 : Nat} {pt2 : Pos} {d1 d2 : D} (h : TA X [a, b] δ [d1, d2] δ1) (sh : Sh δ δ1) (hno : ∀ xs, δ1[i]? ≠ some (some (.own xs))) (hno2 : ∀ xs, δ1[j]? ≠ some (some (.own xs))) (hN : X.N.Nodup)
    (hij : i ≠ j := by decide) (hc : X.calm = true := by rfl) (hi : X.N[i]? = some x := by rfl) (hj : X.N[j]? = some y := by rfl) (hx : X.env.scope.names.lookup x = some .local := by rfl) (hy : X.env.scope.names.lookup y = some .local := by rfl)
    (hw : swappedStores [.Tuple [.Name x px, .Name y py] kt pt] (.Tuple [a, b] k2 pt2) X.env = pure (some [x, y]) := by rfl)
    (hs : swapsWithSole [.Tuple [.Name x px, .Name y py] kt pt] (.Tuple [a, b] k2 pt2) pos.line X.env = pure false := by rfl) :
    TS X (.Assign [.Tuple [.Name x px, .Name y py] kt pt] (.Tuple [a, b] k2 pt2) pos) δ (.nx ((δ1.set i (some (.im d1))).set j (some (.im d2)))) := fun M W σ H Dn g E q =>
  wS_of (ps_par hc hN hi hj hij hx hy pa_w hw hs) (h M W σ H _ g E fun vs H1 s1 r1 => by
    obtain ⟨v, r, rfl, r1, w, r', rfl, r2, e⟩ := r1
    have e : r' = [] := e
    subst e
    refine ⟨v, w, rfl, q M W _ H1 ?_⟩
    have A := aft_set (i := i) s1 sh hno r1
    refine ⟨Gr.refl, s1.xt, s1.good, A.env.set r2, fun l xs z => ?_⟩
    obtain ⟨ys, z1, z2⟩ := A.kp l xs z
    obtain ⟨ys', z3⟩ := sh l xs z
    have hl : j ≠ l := fun e => by subst e; exact hno2 ys' z3
    exact ⟨ys, by rw [List.getElem?_set_ne hl]; exact z1, by rw [List.getElem?_set_ne hl]; exact z2⟩)
/-- q[i] = e, q a list of its own -/
theorem ts_setO {n : Nat} {nm : Str} {i : Int} {j : Nat} (h : TR X e δ d δ1) (sh : Sh δ δ1) (ho : δ1[n]? = some (some (.own (.lst xs)))) (hi : TR X b δ1 (.int i) δ1) (hj : ixN xs.length i = some j) (hN : X.N[n]? = some nm := by rfl)
    (hv : Vis X.env.scope nm := by first | exact Or.inl rfl | exact Or.inr (Or.inl rfl) | exact Or.inr (Or.inr rfl)) (hdb : (nm == ("__debug__" : Str)) = false := by decide) (hcd : (nm == ("__classdict__" : Str)) = false := by decide)
    (hpg : ∀ {tb : TE}, PE X b tb → PG X (.Subscript (.Name nm p) b pos) (gSub (tVar n) tb rSetL) := by exact fun hb => pg_sub (pv _) hb set_list) {spos : Pos}
    (hs : swapsWithSole [.Subscript (.Name nm p) b pos] e spos.line X.env = pure false := by rfl) (hw : swappedStores [.Subscript (.Name nm p) b pos] e X.env = pure none := by rfl)
    (h1 : (assignEach [.Subscript (.Name nm p) b pos] X.env).map (·.2) = [assign (.Subscript (.Name nm p) b pos) X.env] := by rfl) : TS X (.Assign [.Subscript (.Name nm p) b pos] e spos) δ (.nx (δ1.set n (some (.own (.lst (xs.set j d)))))) := fun M W σ H Dn g E q =>
  wS_of (ps_asg pe_w (hpg pe_w) hs hw h1) (h M W σ H _ g E fun v H1 s1 r1 => by
    obtain ⟨p', ob, hp, hW, hh, vs, rfl, r⟩ := s1.env.getO ho
    refine ⟨_, hp, hi M W σ H1 _ s1.good s1.env fun u H2 s2 r2 => ?_⟩
    obtain ⟨p2, ob2, hp2, hW2, hh2, vs2, rfl, rr2⟩ := s2.env.getO ho
    rw [hp] at hp2
    cases hp2
    refine ⟨p', vs2, i, j, rfl, r2, hh2, by rw [rr2.len]; exact hj, q M W σ _ ?_⟩
    have s := s1.trans s2
    refine ⟨Gr.refl, s.xt.trans (Xt.put hW), s.good.put, s2.env.put s2.good.wm ho hp hW ⟨_, rfl, Reps.set rr2 (s2.rep r1)⟩, fun l zs z => ?_⟩
    obtain ⟨ys, z1⟩ := sh l zs z
    by_cases hl : n = l
    · subst hl
      exact ⟨_, by rw [List.getElem?_set_self (List.getElem?_eq_some_iff.mp ho).1], rfl⟩
    · exact ⟨ys, by rw [List.getElem?_set_ne hl]; exact z1, rfl⟩)
end
end TL
set_option Elab.async false
set_option linter.all false
set_option maxRecDepth 100000
set_option autoImplicit false
set_option maxHeartbeats 4000000
/-! TL5: defs by their bodies, calls of defs. -/
namespace TL
open PySem PySem.Spec PyProof.Rows L2

abbrev Spec := List S → Res → List S → Prop
def spT (R : Spec) : Sp := fun vs H Q _ => ∃ (M W : Addr → Prop) (ss ss' : List S) (r : Res), R ss r ss' ∧ Good M W H ∧ EnvR M W H (vs.map some) (ss.map some) ∧
  ∀ v H', Xt W H H' → Good M W H' → EnvR M W H' (vs.map some) (ss'.map some) → RepR M H H' r v → Q v H'
def env0 (N : List Str) (ss : List S) : TL.Env := ss.map some ++ List.replicate (N.length - ss.length) none
/-- the lists of its own among the arguments, behind the body -/
def FinA (ss : List S) (δ' : TL.Env) (ss' : List S) : Prop := ss'.length = ss.length ∧ ∀ (i : Nat) (s : S), ss[i]? = some s → match s with
  | .im d => ss'[i]? = some (.im d)
  | .own _ => ∃ ys, ss'[i]? = some (.own ys) ∧ δ'[i]? = some (some (.own ys))
section
variable {P : Program} {w : World} {K : PySem.W.Frag} {mg : Str → Option Value} {base : Heap}
theorem get_app_none {α : Type} {l : List (Option α)} {n i : Nat} {x : α} (h : (l ++ List.replicate n none)[i]? = some (some x)) : l[i]? = some (some x) := by
  by_cases hi : i < l.length
  · rw [List.getElem?_append_left hi] at h; exact h
  · rw [List.getElem?_append_right (by omega), List.getElem?_replicate] at h
    split at h <;> cases h
theorem get_map_some {α : Type} {l : List α} {i : Nat} {x : α} : (l.map some)[i]? = some (some x) ↔ l[i]? = some x := by
  rw [List.getElem?_map]
  cases l[i]? with
  | none => simp
  | some y => simp
theorem fn_end {M W M' W' : Addr → Prop} {N : List Str} {vs : List V} {ss ss' : List S} {r : Res} {δ' : TL.Env} {σ' : L2.St} {H H' : Hp} {v : V} {Q : VK} (g : Good M W H) (Ev : EnvR M W H (vs.map some) (ss.map some)) (fin : FinA ss δ' ss')
    (A : Aft M W M' W' (env0 N ss) (start N vs) H δ' σ' H') (rr : RepR M' H H' r v) (k : ∀ v H', Xt W H H' → Good M W H' → EnvR M W H' (vs.map some) (ss'.map some) → RepR M H H' r v → Q v H') : Q v H' := by
  have xm : Xt M H H' := Xt.mono g.wm A.xt
  have hvl : vs.length = ss.length := by have := Ev.len; simpa using this
  refine k v H' A.xt ⟨g.wm, fun a m => A.good.mt a (A.gr.mm a m)⟩ ⟨by simp [hvl, fin.1], fun i s hs => ?_, fun i j p xs ys h1 h2 h3 h4 => ?_⟩ ?_
  · rw [get_map_some] at hs
    have hi : i < ss.length := by rw [← fin.1]; exact (List.getElem?_eq_some_iff.mp hs).1
    obtain ⟨s0, hs0⟩ : ∃ s0, ss[i]? = some s0 := ⟨ss[i], List.getElem?_eq_getElem hi⟩
    obtain ⟨u, hu, ru⟩ := Ev.at_ i s0 (get_map_some.mpr hs0)
    refine ⟨u, hu, ?_⟩
    have f := fin.2 i s0 hs0
    cases s0 with
    | im d =>
      rw [show ss'[i]? = some (S.im d) from f] at hs
      cases hs
      exact Rep.ex xm d ru
    | own xs =>
      obtain ⟨ys, f1, f2⟩ := f
      rw [f1] at hs
      cases hs
      obtain ⟨p, us, rfl, wp, hp, rp⟩ := ru
      have hδ : (env0 N ss)[i]? = some (some (.own xs)) := by
        unfold env0
        rw [List.getElem?_append_left (by simpa using hi)]
        exact get_map_some.mpr hs0
      obtain ⟨zs, z1, z2⟩ := A.kp i xs hδ
      obtain ⟨u', hu', p', us', rfl, wp', hp', rp'⟩ := A.env.at_ i _ f2
      rw [z2] at hu'
      have hst : (start N vs)[i]? = some (some (V.ref p)) := by
        unfold L2.start
        rw [List.getElem?_append_left (by simpa [hvl] using hi)]
        exact hu
      rw [hst] at hu'
      cases hu'
      exact ⟨p, us', rfl, wp, hp', RepO.anti A.gr.mm ys rp'⟩
  · rw [get_map_some] at h1 h2
    have key : ∀ (i : Nat) (xs : OC), ss'[i]? = some (.own xs) → ∃ zs, ss[i]? = some (.own zs) := fun i xs h => by
      have hi : i < ss.length := by rw [← fin.1]; exact (List.getElem?_eq_some_iff.mp h).1
      obtain ⟨s0, hs0⟩ : ∃ s0, ss[i]? = some s0 := ⟨ss[i], List.getElem?_eq_getElem hi⟩
      have f := fin.2 i s0 hs0
      cases s0 with
      | im d => rw [show ss'[i]? = some (S.im d) from f] at h; cases h
      | own zs => exact ⟨zs, hs0⟩
    obtain ⟨z1, a1⟩ := key i xs h1
    obtain ⟨z2, a2⟩ := key j ys h2
    exact Ev.ap i j p z1 z2 (get_map_some.mpr a1) (get_map_some.mpr a2) h3 h4
  · cases r with
    | im d => exact Rep.anti A.gr.mm d rr
    | fr xs =>
      obtain ⟨p, us, e, n, hp, rs⟩ := rr
      exact ⟨p, us, e, n, hp, Reps.anti (fun a z => z.elim (fun m => .inl (A.gr.mm a m)) .inr) xs rs⟩
theorem env_start {M W : Addr → Prop} {N : List Str} {vs : List V} {ss : List S} {H : Hp} (Ev : EnvR M W H (vs.map some) (ss.map some)) : EnvR M W H (start N vs) (env0 N ss) := by
  have hvl : vs.length = ss.length := by have := Ev.len; simpa using this
  have key : ∀ (i : Nat) (v : V), i < ss.length → (vs.map some)[i]? = some (some v) → (start N vs)[i]? = some (some v) := fun i v hi h => by
    unfold L2.start
    rw [List.getElem?_append_left (by simpa [hvl] using hi)]; exact h
  have key' : ∀ (i : Nat) (v : V), i < ss.length → (start N vs)[i]? = some (some v) → (vs.map some)[i]? = some (some v) := fun i v hi h => by
    unfold L2.start at h
    rw [List.getElem?_append_left (by simpa [hvl] using hi)] at h; exact h
  have lt : ∀ (i : Nat) (s : S), (ss.map some)[i]? = some (some s) → i < ss.length := fun i s h => by
    rw [get_map_some] at h; exact (List.getElem?_eq_some_iff.mp h).1
  refine ⟨by unfold L2.start env0; simp [hvl], fun i s h => ?_, fun i j p xs ys h1 h2 h3 h4 => ?_⟩
  · have h := get_app_none h
    obtain ⟨v, h1, h2⟩ := Ev.at_ i s h
    exact ⟨v, key i v (lt i s h) h1, h2⟩
  · have h1 := get_app_none h1
    have h2 := get_app_none h2
    exact Ev.ap i j p xs ys h1 h2 (key' i _ (lt i _ h1) h3) (key' j _ (lt j _ h2) h4)
/-- a def that keeps a promise over trees, however it is called (args bound to the parameters ps) -/
structure FnK (P : Program) (w : World) (K : PySem.W.Frag) (mg : Str → Option Value) (base : Heap) (k : Nat) (f : Addr) (fd : FuncData) (ps : List Str) (R : Spec) : Prop where
  run : ∀ (A : Around) (outer : List PySem.Env) (s : Shared) (H : Hp) (args : Args) (us : List Value) (vs : List V) (Q : VK), Room k A → A.guards = some [] → Env0 P w K mg base A outer s H → BindsTo s fd args (ps.zip us) → Vals vs us →
    vs.length = ps.length → spT R vs H Q E0 → codeAny (model P w) A (.call (.ref f) args) (CR CX0 outer P w H s Q E0) s
theorem FnK.mono {j k : Nat} {f : Addr} {fd : FuncData} {ps : List Str} {R : Spec} (F : FnK P w K mg base j f fd ps R) (h : j ≤ k) : FnK P w K mg base k f fd ps R :=
  ⟨fun A outer s H args us vs Q hr => F.run A outer s H args us vs Q (hr.mono h)⟩
theorem FnK.imp {k : Nat} {f : Addr} {fd : FuncData} {ps : List Str} {R R' : Spec} (F : FnK P w K mg base k f fd ps R) (h : ∀ ss r ss', R' ss r ss' → R ss r ss') : FnK P w K mg base k f fd ps R' :=
  ⟨fun A outer s H args us vs Q hr hg e0 hb hv hl ⟨M, W, ss, ss', r, hR, q⟩ => F.run A outer s H args us vs Q hr hg e0 hb hv hl ⟨M, W, ss, ss', r, h _ _ _ hR, q⟩⟩
/-- a def's body, run (wherever it is called) -/
theorem fn_run {k : Nat} {f : Addr} {name qual : Str} {params : Arguments} {body : List Stmt} {scope : Scope} {dV kV doc pm cdv ct oc : Value} {an od : Option Addr} {osl : Array (Option Value)} {N ps : List Str} {R : Spec}
    (lk : K.lookup f = some ⟨oc, od, .func (PySem.W.fnOf name qual params body scope dV kV doc pm an cdv ct), osl⟩) (hcd : PySem.W.codeIn K cdv qual = true) (S : FnScope N ps scope)
    {A : Around} {outer : List PySem.Env} {s : Shared} {H : Hp} {args : Args} {us : List Value} {vs : List V} {Q : VK}
    (hb : ∀ (ss : List TL.S) (r : Res) (ss' : List TL.S), R ss r ss' → ss.length = ps.length →
      ∃ o δ', TB (cxOf CX0 P w K mg base N qual scope f cdv A outer s H E0).nox body (env0 N ss) o ∧ FinA ss δ' ss' ∧ (o = .rt r δ' ∨ (o = .nx δ' ∧ r = .im .non)))
    (hr : Room (k + 1) A) (e0 : Env0 P w K mg base A outer s H) (hbd : BindsTo s (PySem.W.fnOf name qual params body scope dV kV doc pm an cdv ct) args (ps.zip us)) (rv : Vals vs us) (hl : vs.length = ps.length) (hsp : spT R vs H Q E0) :
    codeAny (model P w) A (.call (.ref f) args) (CR CX0 outer P w H s Q E0) s := by
  obtain ⟨M, W, ss, ss', r, hR, g, Ev, q⟩ := hsp
  have hsl : ss.length = ps.length := by have := Ev.len; simp at this; omega
  have hk : K.In s.heap := e0.mod.kin.keeps fun b o e => (e0.bs b o e).1
  have hnl : s.heap.NoLimit := e0.mod.nolimit.keeps fun b o e => (e0.bs b o e).1
  have kinds : ∀ y ∈ ps.zip us, scope.names.lookup y.1 = some .local ∨ (scope.names.lookup y.1 = some .cell ∧ ((cellsFrom (s.heap.objs.size + 1) scope.names []).lookup y.1).isSome = true) := by
    rintro ⟨n, v⟩ hy
    rcases S.par n (List.of_mem_zip hy).1 with z | z
    · exact .inl z
    · exact .inr ⟨z, PySem.W.cellsFrom_some _ _ _ (.inl z)⟩
  refine PySem.codeAny_call_function hr.depth (hk _ _ lk) rfl S.co S.gen rfl (PySem.W.codeRec_of hk hcd) (hbd _ _ _ _ ?_)
  refine wpAny_newFunctionEnv_cells S.kind kinds fun env he s1 x => ?_
  subst he
  refine ⟨hnl.keeps x.toInCall.keep, PySem.codeAny_func ?_⟩
  obtain ⟨o, δ', tb, fin, ho⟩ := hb ss r ss' hR hsl
  have I : Inv (cxOf CX0 P w K mg base N qual scope f cdv A outer s H E0) [] (L2.start N vs) H s1 := inv_start S hr.hd e0 hl rv x
  have body_ok : wB (cxOf CX0 P w K mg base N qual scope f cdv A outer s H E0).nox body { nx := fun _ H' => Q .non H', rt := Q } (L2.start N vs) H := by
    refine tb M W _ H _ g (env_start Ev) ?_
    rcases ho with rfl | ⟨rfl, rfl⟩
    · exact fun M' W' σ' H' v Af rr => fn_end g Ev fin Af rr q
    · exact fun M' W' σ' H' Af => fn_end (r := .im .non) (v := .non) g Ev fin Af rfl q
  refine wpAny_mono (body_ok.run [] s1 (I.wish _)) (fun fl s' hs => ?_) fun e s' hs => hs.elim
  cases fl with
  | ret u =>
    obtain ⟨v, σ', H', J, rw', q'⟩ := hs
    exact ⟨v, H', J.os, J.bare, J.base, J.hok, rw', q'⟩
  | next =>
    obtain ⟨σ', H', J, q'⟩ := hs
    exact ⟨V.non, H', J.os, J.bare, J.base, J.hok, rfl, q'⟩
  | brk => obtain ⟨_, _, _, q'⟩ := hs; exact q'.elim
  | cont => obtain ⟨_, _, _, q'⟩ := hs; exact q'.elim
theorem fnK_of {k : Nat} {f : Addr} {name qual : Str} {params : Arguments} {body : List Stmt} {scope : Scope} {dV kV doc pm cdv ct oc : Value} {an od : Option Addr} {osl : Array (Option Value)} {N ps : List Str} {R : Spec}
    (lk : K.lookup f = some ⟨oc, od, .func (PySem.W.fnOf name qual params body scope dV kV doc pm an cdv ct), osl⟩) (hcd : PySem.W.codeIn K cdv qual = true) (S : FnScope N ps scope)
    (hb : ∀ (A : Around) (outer : List PySem.Env) (s : Shared) (H : Hp) (ss : List TL.S) (r : Res) (ss' : List TL.S), Room k (A.deeper (PyProof.Rows.envOfC qual scope s.heap.objs.size f cdv)) → A.guards = some [] → R ss r ss' → ss.length = ps.length →
      ∃ o δ', TB (cxOf CX0 P w K mg base N qual scope f cdv A outer s H E0).nox body (env0 N ss) o ∧ FinA ss δ' ss' ∧ (o = .rt r δ' ∨ (o = .nx δ' ∧ r = .im .non))) :
    FnK P w K mg base (k + 1) f (PySem.W.fnOf name qual params body scope dV kV doc pm an cdv ct) ps R :=
  ⟨fun A outer s H args us vs Q hr hg e0 hbd rv hl hsp => fn_run lk hcd S (fun ss r ss' hR hl' => hb A outer s H ss r ss' (hr.deeper _) hg hR hl') hr e0 hbd rv hl hsp⟩
/-- the same for a def that does not ask which reprs are under way -/
structure FnN (P : Program) (w : World) (K : PySem.W.Frag) (mg : Str → Option Value) (base : Heap) (k : Nat) (f : Addr) (fd : FuncData) (ps : List Str) (R : Spec) : Prop where
  run : ∀ (A : Around) (outer : List PySem.Env) (s : Shared) (H : Hp) (args : Args) (us : List Value) (vs : List V) (Q : VK), Room k A → Env0 P w K mg base A outer s H → BindsTo s fd args (ps.zip us) → Vals vs us →
    vs.length = ps.length → spT R vs H Q E0 → codeAny (model P w) A (.call (.ref f) args) (CR CX0 outer P w H s Q E0) s
theorem FnN.toK {k : Nat} {f : Addr} {fd : FuncData} {ps : List Str} {R : Spec} (F : FnN P w K mg base k f fd ps R) : FnK P w K mg base k f fd ps R := ⟨fun A outer s H args us vs Q hr _ => F.run A outer s H args us vs Q hr⟩
theorem fnN_of {k : Nat} {f : Addr} {name qual : Str} {params : Arguments} {body : List Stmt} {scope : Scope} {dV kV doc pm cdv ct oc : Value} {an od : Option Addr} {osl : Array (Option Value)} {N ps : List Str} {R : Spec}
    (lk : K.lookup f = some ⟨oc, od, .func (PySem.W.fnOf name qual params body scope dV kV doc pm an cdv ct), osl⟩) (hcd : PySem.W.codeIn K cdv qual = true) (S : FnScope N ps scope)
    (hb : ∀ (A : Around) (outer : List PySem.Env) (s : Shared) (H : Hp) (ss : List TL.S) (r : Res) (ss' : List TL.S), Room k (A.deeper (PyProof.Rows.envOfC qual scope s.heap.objs.size f cdv)) → R ss r ss' → ss.length = ps.length →
      ∃ o δ', TB (cxOf CX0 P w K mg base N qual scope f cdv A outer s H E0).nox body (env0 N ss) o ∧ FinA ss δ' ss' ∧ (o = .rt r δ' ∨ (o = .nx δ' ∧ r = .im .non))) :
    FnN P w K mg base (k + 1) f (PySem.W.fnOf name qual params body scope dV kV doc pm an cdv ct) ps R :=
  ⟨fun A outer s H args us vs Q hr e0 hbd rv hl hsp => fn_run lk hcd S (fun ss r ss' hR hl' => hb A outer s H ss r ss' (hr.deeper _) hR hl') hr e0 hbd rv hl hsp⟩
end

/-! ### calls -/
/-- a call with so many written arguments and these keywords -/
structure FnG (P : Program) (w : World) (K : PySem.W.Frag) (mg : Str → Option Value) (base : Heap) (k : Nat) (f : Addr) (ks : List Str) (R : Spec) : Prop where
  run : ∀ (A : Around) (outer : List PySem.Env) (s : Shared) (H : Hp) (us ws : List Value) (vs zs : List V) (Q : VK), Room k A → A.guards = some [] → Env0 P w K mg base A outer s H → Vals vs us → Vals zs ws → zs.length = ks.length →
    spT R (vs ++ zs) H Q E0 → codeAny (model P w) A (.call (.ref f) ⟨us, ks.zip ws⟩) (CR CX0 outer P w H s Q E0) s
structure Cal (P : Program) (w : World) (K : PySem.W.Frag) (mg : Str → Option Value) (base : Heap) (x : Str) (k : Nat) (R : Spec) : Prop where
  ex : ∃ f : Addr, FnG P w K mg base k f [] R ∧ mg x = some (.ref f) ∧ PySem.W.keepIn K (.ref f) = true
section
variable {P : Program} {w : World} {K : PySem.W.Frag} {mg : Str → Option Value} {base : Heap}
theorem FnK.pos {k : Nat} {f : Addr} {fd : FuncData} {ps : List Str} {R : Spec} (F : FnK P w K mg base k f fd ps R) (b : Binds K fd ps []) (hl : ∀ ss r ss', R ss r ss' → ss.length = ps.length) : FnG P w K mg base k f [] R := by
  refine ⟨fun A outer s H us ws vs zs Q hr hg e0 rv rz lz h => ?_⟩
  have : zs = [] := List.length_eq_zero_iff.mp lz
  subst this
  rw [List.append_nil] at h
  have hk : K.In s.heap := e0.mod.kin.keeps fun b o e => (e0.bs b o e).1
  have hvl : vs.length = ps.length := by
    obtain ⟨M, W, ss, ss', r, hR, g, Ev, q⟩ := id h
    have h1 := hl _ _ _ hR
    have h2 := Ev.len
    simp at h2
    omega
  have hb := b s us hk (by rw [List.append_nil, ← rv.length]; exact hvl)
  rw [List.append_nil] at hb
  exact F.run A outer s H ⟨us, []⟩ us vs Q hr hg e0 hb rv hvl h
end
section
variable {M W : Addr → Prop} {H H' : Hp}
theorem envR_args : ∀ {ds : List D} {vs : List V}, Reps M H ds vs → EnvR M (fun _ => False) H (vs.map some) ((ds.map S.im).map some) := fun {ds vs} r => by
  refine ⟨by simp [r.len], fun i s h => ?_, fun i j p xs ys h1 => ?_⟩
  · rw [get_map_some, List.getElem?_map] at h
    cases hd : ds[i]? with
    | none => rw [hd] at h; cases h
    | some d =>
      rw [hd] at h
      cases h
      obtain ⟨v, h1, h2⟩ := r.get hd
      exact ⟨v, get_map_some.mpr h1, h2⟩
  · rw [get_map_some, List.getElem?_map] at h1
    cases hd : ds[i]? with
    | none => rw [hd] at h1; cases h1
    | some d => rw [hd] at h1; cases h1
/-- a list of its own ahead of data -/
theorem envR_own {p : Addr} {us : HO} {xs : OC} {ds : List D} {vs : List V} (hp : H p = some us) (ru : RepO M H xs us) (r : Reps M H ds vs) :
    EnvR M (fun a => a = p) H ((V.ref p :: vs).map some) ((S.own xs :: ds.map S.im).map some) := by
  have E := envR_args r
  refine ⟨by have := E.len; simp at this ⊢; exact this, fun i s h => ?_, fun i j q ys zs h1 h2 h3 h4 => ?_⟩
  · cases i with
    | zero =>
      have : s = .own xs := by simpa using h.symm
      subst this
      exact ⟨_, rfl, p, us, rfl, rfl, hp, ru⟩
    | succ i =>
      obtain ⟨v, a, b⟩ := E.at_ i s (by simpa using h)
      refine ⟨v, by simpa using a, ?_⟩
      cases s with
      | im d => exact b
      | own ys => obtain ⟨_, _, _, w, _⟩ := b; exact w.elim
  · have key : ∀ (i : Nat) (ys : OC), ((S.own xs :: ds.map S.im).map some)[i]? = some (some (S.own ys)) → i = 0 := fun i ys h => by
      cases i with
      | zero => rfl
      | succ i =>
        exfalso
        have h : ((ds.map S.im).map some)[i]? = some (some (S.own ys)) := by simpa using h
        rw [get_map_some, List.getElem?_map] at h
        cases hd : ds[i]? with
        | none => rw [hd] at h; cases h
        | some d => rw [hd] at h; cases h
    rw [key i ys h1, key j zs h2]
end
section
variable {X : Cx} {a b c e : Expr} {es : List Expr} {δ δ1 δ2 : TL.Env} {x : Str} {d : D} {ds : List D} {pos p : Pos} {k : Nat} {R : Spec} {xs ys : List D}
/-- f(e, ..) -/
theorem pe_callG {f : Addr} {t : L2.TA} (F : FnG X.prog X.w X.K X.mg X.base k f [] R) (hr : Room k X.A) (gd : X.A.guards = some []) (hg : Gl X x) (hm : X.mg x = some (.ref f)) (hk : PySem.W.keepIn X.K (.ref f) = true) (ha : PA X (e :: es) t)
    (hdb : (x == ("__debug__" : Str)) = false) (he : starEach (e :: es) X.env = (false, eval e X.env) :: starEach es X.env) (hpl : (backTo pos (starEach es X.env)).any (·.1) = false) :
    PE X (.Call (.Name x p) (e :: es) [] pos) (fun σ H Q => t σ H fun vs H1 => spT R vs H1 Q E0) := by
  refine ⟨fun pins s σ H Q I h => ?_⟩
  refine wpAny_Call_Name_kw (ld_glob I hg hm ?_ hdb)
  refine PySem.W.callWith_K (h₀ := X.base) I.ok.mod.kin hk (thn (ha.run pos pins s σ H _ I h) fun us s1 ⟨vs, H1, I1, rv, q⟩ => ⟨I1.kIn, ?_⟩) he hpl
  refine PySem.wpAny_call (PySem.codeAny_mono (F.run X.A X.stack s1 H1 us [] vs [] Q hr gd I1.env0 rv .nil rfl (by rw [List.append_nil]; exact q)) fun r s' hq => ?_)
  cases r with
  | error er => exact False.elim hq
  | ok fl =>
    cases fl with
    | ret u => exact I1.after hq
    | next => exact False.elim hq
    | brk => exact False.elim hq
    | cont => exact False.elim hq
theorem good0 {M W : Addr → Prop} {H : Hp} (g : Good M W H) : Good M (fun _ => False) H := ⟨fun _ z => z.elim, g.mt⟩
theorem tr_call (C : Cal X.prog X.w X.K X.mg X.base x k R) (hr : Room k X.A) (gd : X.A.guards = some []) (ha : TA X (e :: es) δ ds δ1) (hR : R (ds.map S.im) (.im d) (ds.map S.im)) (hg : Gl X x := by rfl)
    (hdb : (x == ("__debug__" : Str)) = false := by decide) (he : starEach (e :: es) X.env = (false, eval e X.env) :: starEach es X.env := by rfl) (hpl : (backTo pos (starEach es X.env)).any (·.1) = false := by rfl) : TR X (.Call (.Name x p) (e :: es) [] pos) δ d δ1 := fun M W σ H Q g E q => by
  obtain ⟨f, F, hm, hk⟩ := C.ex
  refine wE_of (pe_callG F hr gd hg hm hk pa_w hdb he hpl) (ha M W σ H _ g E fun vs H1 s1 r1 => ?_)
  exact ⟨M, fun _ => False, _, _, _, hR, good0 s1.good, envR_args r1, fun v H2 xt g2 _ rr => q v H2 (s1.ext fun a o h => xt a o (fun z => z) h) rr⟩
theorem tf_call (C : Cal X.prog X.w X.K X.mg X.base x k R) (hr : Room k X.A) (gd : X.A.guards = some []) (ha : TA X (e :: es) δ ds δ1) (hR : R (ds.map S.im) (.fr xs) (ds.map S.im)) (hg : Gl X x := by rfl)
    (hdb : (x == ("__debug__" : Str)) = false := by decide) (he : starEach (e :: es) X.env = (false, eval e X.env) :: starEach es X.env := by rfl) (hpl : (backTo pos (starEach es X.env)).any (·.1) = false := by rfl) : TF X (.Call (.Name x p) (e :: es) [] pos) δ xs δ1 := fun M W σ H Q g E q => by
  obtain ⟨f, F, hm, hk⟩ := C.ex
  refine wE_of (pe_callG F hr gd hg hm hk pa_w hdb he hpl) (ha M W σ H _ g E fun vs H1 s1 r1 => ?_)
  refine ⟨M, fun _ => False, _, _, _, hR, good0 s1.good, envR_args r1, fun v H2 xt g2 _ rr => ?_⟩
  obtain ⟨p', us, rfl, n, h2, r2⟩ := rr
  have ex : ∀ a o, H1 a = some o → H2 a = some o := fun a o h => xt a o (fun z => z) h
  refine q p' us H2 ⟨s1.xt.trans (Xt.of ex), ⟨fun a w => .inl (g.wm a w), fun a m z => ?_⟩, (s1.env.gr (mp_gr n)).ext ex⟩ (s1.none g n) h2 r2
  rcases m with m | m
  · exact g2.mt a m z
  · rw [m, h2] at z; cases z
/-- f(q, ..): q a list of its own in slot n -/
theorem tr_callO {n : Nat} {nm : Str} {xs ys : OC} (C : Cal X.prog X.w X.K X.mg X.base x k R) (hr : Room k X.A) (gd : X.A.guards = some []) (h0 : δ[n]? = some (some (.own xs))) (ha : TA X es δ ds δ) (hR : R (.own xs :: ds.map S.im) (.im d) (.own ys :: ds.map S.im)) (hg : Gl X x := by rfl)
    (hN : X.N[n]? = some nm := by rfl) (hv : Vis X.env.scope nm := by first | exact Or.inl rfl | exact Or.inr (Or.inl rfl) | exact Or.inr (Or.inr rfl)) (hnb : (nm == ("__debug__" : Str)) = false := by decide) (hcd : (nm == ("__classdict__" : Str)) = false := by decide) {np : Pos}
    (hdb : (x == ("__debug__" : Str)) = false := by decide) (he : starEach (.Name nm np :: es) X.env = (false, eval (.Name nm np) X.env) :: starEach es X.env := by rfl) (hpl : (backTo pos (starEach es X.env)).any (·.1) = false := by rfl) :
    TR X (.Call (.Name x p) (.Name nm np :: es) [] pos) δ d (δ.set n (some (.own ys))) := fun M W σ H Q g E q => by
  obtain ⟨f, F, hm, hk⟩ := C.ex
  obtain ⟨a0, us0, hs0, hw0, hp0, ru0⟩ := E.getO h0
  refine wE_of (pe_callG F hr gd hg hm hk (pa_cons (pe_var hN hv hnb hcd) pa_w he) hdb he hpl) ⟨_, hs0, ha M W σ H _ g E fun vs H1 s1 r1 => ?_⟩
  show spT R (V.ref a0 :: vs) H1 Q E0
  obtain ⟨a1, us1, hs1, hw1, hp1, ru1⟩ := s1.env.getO h0
  rw [hs0] at hs1
  cases hs1
  refine ⟨M, fun a => a = a0, _, _, _, hR, ⟨fun a z => by rw [z]; exact g.wm a0 hw0, s1.good.mt⟩, envR_own hp1 ru1 r1, fun v H2 xt g2 E2 rr => q v H2 ⟨s1.xt.trans (Xt.mono (fun a z => by rw [z]; exact hw0) xt), ⟨g.wm, g2.mt⟩, ?_⟩ rr⟩
  obtain ⟨u, hu, p2, us2, rfl, _, hp2, ru2⟩ := E2.at_ 0 (.own ys) rfl
  have : p2 = a0 := by simpa using hu.symm
  subst this
  have xm : Xt M H1 H2 := fun a o m h => xt a o (fun z => m (by rw [z]; exact g.wm p2 hw0)) h
  have il : n < δ.length := (List.getElem?_eq_some_iff.mp h0).1
  refine ⟨by rw [List.length_set]; exact s1.env.len, fun j s hj => ?_, fun i j a ws zs h1 h2 h3 h4 => ?_⟩
  · by_cases hn : n = j
    · subst hn
      rw [List.getElem?_set_self il] at hj
      cases hj
      exact ⟨_, hs0, p2, us2, rfl, hw0, hp2, ru2⟩
    · rw [List.getElem?_set_ne hn] at hj
      obtain ⟨u, a1, b1⟩ := s1.env.at_ j s hj
      refine ⟨u, a1, ?_⟩
      cases s with
      | im d => exact Rep.ex xm d b1
      | own ws =>
        obtain ⟨p', vs', rfl, w', hp', r'⟩ := b1
        exact ⟨p', vs', rfl, w', xt p' _ (fun z => hn (s1.env.ap n j p2 xs ws h0 hj hs0 (by rw [← z]; exact a1))) hp', RepO.ex xm ws r'⟩
  · have key : ∀ (j : Nat) (zs : OC), (δ.set n (some (.own ys)))[j]? = some (some (.own zs)) → ∃ zs', δ[j]? = some (some (.own zs')) := fun j zs q => by
      by_cases hj : n = j
      · subst hj; exact ⟨xs, h0⟩
      · rw [List.getElem?_set_ne hj] at q; exact ⟨zs, q⟩
    obtain ⟨z1, a1⟩ := key i ws h1
    obtain ⟨z2, a2⟩ := key j zs h2
    exact s1.env.ap i j a z1 z2 a1 a2 h3 h4
/-- f(e): e makes a new list, which f may change -/
theorem tr_callF (C : Cal X.prog X.w X.K X.mg X.base x k R) (hr : Room k X.A) (gd : X.A.guards = some []) (ha : TF X e δ xs δ1) {yo : OC} (hR : R [.own (.lst xs)] (.im d) [.own yo]) (hg : Gl X x := by rfl)
    (hdb : (x == ("__debug__" : Str)) = false := by decide) (he : starEach [e] X.env = (false, eval e X.env) :: starEach [] X.env := by rfl) : TR X (.Call (.Name x p) [e] [] pos) δ d δ1 := fun M W σ H Q g E q => by
  obtain ⟨f, F, hm, hk⟩ := C.ex
  refine wE_of (pe_callG F hr gd hg hm hk (pa_cons pe_w pa_nil he) hdb he rfl) (ha M W σ H _ g E fun p' us H1 s1 n hp r1 => ?_)
  have np : ¬ M p' := g.notM n
  refine ⟨Mp M p', fun a => a = p', [.own (.lst xs)], [.own yo], _, hR, ⟨fun a z => .inr z, s1.good.mt⟩, envR_own (ds := []) (vs := []) hp ⟨us, rfl, r1⟩ rfl, fun v H2 xt g2 _ rr => ?_⟩
  have nW : ¬ W p' := fun w => np (g.wm p' w)
  have xm : Xt (Mp M p') H1 H2 := Xt.mono (fun a z => .inr z) xt
  refine q v H2 ⟨fun a o w h => xt a o (fun z => by rw [z, n] at h; cases h) (s1.xt a o w h), ⟨g.wm, fun a m => g2.mt a (.inl m)⟩, ⟨s1.env.len, fun i s hs => ?_, s1.env.ap⟩⟩ (Rep.anti (fun _ m => .inl m) d rr)
  obtain ⟨u, a1, b1⟩ := s1.env.at_ i s hs
  refine ⟨u, a1, ?_⟩
  cases s with
  | im d => exact Rep.anti (fun _ m => .inl m) d (Rep.ex xm d b1)
  | own ws =>
    obtain ⟨p2, vs2, rfl, w2, hp2, r2⟩ := b1
    exact ⟨p2, vs2, rfl, w2, xt p2 _ (fun z => nW (by rw [← z]; exact w2)) hp2, RepO.anti (fun _ m => .inl m) ws (RepO.ex xm ws r2)⟩
end
end TL
set_option Elab.async false
set_option linter.all false
set_option maxRecDepth 100000
set_option autoImplicit false
set_option maxHeartbeats 4000000
/-! TL6: comprehensions, loops. -/
namespace TL
open PySem PySem.Spec PyProof.Rows L2

section
variable {M W : Addr → Prop} {H H' H1 : Hp} {σ : L2.St} {δ δ1 : TL.Env} {i : Nat} {d : D} {v : V}
/-- a slot that holds nothing of note may hold anything -/
theorem EnvR.blank (e : EnvR M W H σ δ) (h : δ[i]? = some none) (o : Option V) : EnvR M W H (σ.set i o) δ := by
  have ne : ∀ (j : Nat) (s : S), δ[j]? = some (some s) → i ≠ j := fun j s q z => by subst z; rw [h] at q; cases q
  refine ⟨by rw [List.length_set]; exact e.len, fun j s q => ?_, fun j k p xs ys h1 h2 h3 h4 => ?_⟩
  · obtain ⟨v, a, b⟩ := e.at_ j s q
    exact ⟨v, by rw [List.getElem?_set_ne (ne j s q)]; exact a, b⟩
  · rw [List.getElem?_set_ne (ne j _ h1)] at h3
    rw [List.getElem?_set_ne (ne k _ h2)] at h4
    exact e.ap j k p xs ys h1 h2 h3 h4
theorem EnvR.unblank {o : Option V} (e : EnvR M W H (σ.set i o) δ) (h : δ[i]? = some none) : EnvR M W H σ δ := by
  have ne : ∀ (j : Nat) (s : S), δ[j]? = some (some s) → i ≠ j := fun j s q z => by subst z; rw [h] at q; cases q
  refine ⟨by have := e.len; rw [List.length_set] at this; exact this, fun j s q => ?_, fun j k p xs ys h1 h2 h3 h4 => ?_⟩
  · obtain ⟨v, a, b⟩ := e.at_ j s q
    rw [List.getElem?_set_ne (ne j s q)] at a
    exact ⟨v, a, b⟩
  · exact e.ap j k p xs ys h1 h2 (by rw [List.getElem?_set_ne (ne j _ h1)]; exact h3) (by rw [List.getElem?_set_ne (ne k _ h2)]; exact h4)
/-- what slot i holds is forgotten -/
theorem EnvR.drop (e : EnvR M W H σ (δ.set i (some (.im d)))) (h : δ[i]? = some none) : EnvR M W H σ δ := by
  have ne : ∀ (j : Nat) (s : S), δ[j]? = some (some s) → i ≠ j := fun j s q z => by subst z; rw [h] at q; cases q
  have up : ∀ (j : Nat) (s : S), δ[j]? = some (some s) → (δ.set i (some (.im d)))[j]? = some (some s) := fun j s q => by rw [List.getElem?_set_ne (ne j s q)]; exact q
  exact ⟨by have := e.len; rw [List.length_set] at this; exact this, fun j s q => e.at_ j s (up j s q), fun j k p xs ys h1 h2 h3 h4 => e.ap j k p xs ys (up j _ h1) (up k _ h2) h3 h4⟩
/-- an object that no tree goes through, and no slot owns, changes -/
theorem EnvR.upd {p : Addr} {o : HO} (e : EnvR M W H σ δ) (m : M p) (nw : ¬ W p) : EnvR M W (L2.upd H p o) σ δ := by
  have X : Xt M H (L2.upd H p o) := fun a u n q => by rw [upd_ne (fun z => n (by rw [z]; exact m))]; exact q
  refine ⟨e.len, fun i s q => ?_, e.ap⟩
  obtain ⟨v, a, b⟩ := e.at_ i s q
  refine ⟨v, a, ?_⟩
  cases s with
  | im d => exact Rep.ex X d b
  | own xs =>
    obtain ⟨q', vs, rfl, w, hp, r⟩ := b
    exact ⟨q', vs, rfl, w, by rw [upd_ne (fun z => nw (by rw [← z]; exact w))]; exact hp, RepO.ex X xs r⟩
end

/-! ### comprehensions -/
/-- what holds between two turns: Dl the new list -/
structure Lcw (M W : Addr → Prop) (σ : L2.St) (H1 : Hp) (Dl : Addr) (δs : Nat → TL.Env) (ys : List D) (k : Nat) (H : Hp) : Prop where
  st : Stp (Mp M Dl) W σ (δs k) H1 H
  ex : ∃ acc, H Dl = some (.lst acc) ∧ Reps (Mp M Dl) H (ys.take k) acc
section
variable {X : Cx} {elt : Expr} {scope : Scope} {M W : Addr → Prop} {σ : L2.St} {H1 : Hp} {Dl : Addr} {δs : Nat → TL.Env} {ys : List D} {i : Nat} {x y : D}
/-- an element's judgement, in the block's own frame -/
def TRb (X : Cx) (scope : Scope) (e : Expr) (δ : TL.Env) (d : D) (δ' : TL.Env) : Prop := ∀ (s : Shared) (H : Hp) (C : Addr) (cl : List (Str × Addr)) (fp : List Addr), TR (X.blk s H scope (compEnvC scope cl C X.env) fp) e δ d δ'
def wEb (X : Cx) (scope : Scope) (e : Expr) : TE := fun σ H Q => ∀ (s : Shared) (H0 : Hp) (C : Addr) (cl : List (Str × Addr)) (fp : List Addr), wE (X.blk s H0 scope (compEnvC scope cl C X.env) fp) e σ H Q
theorem pe_wb (s : Shared) (H0 : Hp) (C : Addr) (cl : List (Str × Addr)) (fp : List Addr) : PE (X.blk s H0 scope (compEnvC scope cl C X.env) fp) elt (wEb X scope elt) := ⟨fun pins s' _ _ _ I h => (h s H0 C cl fp).run pins s' I⟩
theorem lcw_start (g : Good M W H1) (E : EnvR M W H1 σ (δs 0)) (hD : H1 Dl = none) : Lcw M W σ H1 Dl δs ys 0 (upd H1 Dl (.lst [])) :=
  ⟨(Stp.refl g E).fresh hD, [], upd_same, by rw [List.take_zero]; exact rfl⟩
theorem lcw_turn {k : Nat} {H : Hp} {v : V} (g : Good M W H1) (hD : H1 Dl = none) (p : Lcw M W σ H1 Dl δs ys k H) (hn : ∀ k, (δs k)[i]? = some none) (hy : ys[k]? = some y) (hk : k < 100000) (rx : Rep (Mp M Dl) H x v)
    (he : TRb X scope elt ((δs k).set i (some (.im x))) y ((δs (k + 1)).set i (some (.im x)))) :
    wEb X scope elt ((wipe σ [i]).set i (some v)) H fun u H4 => ∃ acc, H4 Dl = some (.lst acc) ∧ acc.length < sizeLine ∧ Lcw M W σ H1 Dl δs ys (k + 1) (upd H4 Dl (.lst (acc ++ [u]))) := fun s H0 C cl fp => by
  obtain ⟨acc, hacc, racc⟩ := p.ex
  have nW : ¬ W Dl := fun w => g.mt Dl (g.wm Dl w) hD
  have E2 : EnvR (Mp M Dl) W H ((wipe σ [i]).set i (some v)) ((δs k).set i (some (.im x))) := (p.st.env.blank (hn k) none).set rx
  refine he s H0 C cl fp (Mp M Dl) W _ H _ p.st.good E2 fun u H4 s4 r4 => ?_
  have h4 : H4 Dl = some (.lst acc) := s4.xt Dl _ nW hacc
  have hl : acc.length = min k ys.length := by rw [racc.len, List.length_take]
  refine ⟨acc, h4, Nat.lt_of_lt_of_le (Nat.lt_of_le_of_lt (by omega) hk) (by decide), ⟨?_, acc ++ [u], upd_same, ?_⟩⟩
  · have X4 : EnvR (Mp M Dl) W H4 σ (δs (k + 1)) := by
      have z := s4.env.drop (hn (k + 1))
      have z' := z.unblank (hn (k + 1))
      exact z'.unblank (hn (k + 1))
    refine ⟨fun a o w h => ?_, s4.good.put, X4.upd (.inr rfl) nW⟩
    have ne : a ≠ Dl := ne_of_none h hD
    rw [upd_ne ne]
    exact s4.xt a o w (p.st.xt a o w h)
  · have Xm : Xt (Mp M Dl) H4 (upd H4 Dl (.lst (acc ++ [u]))) := fun a o n q => by rw [upd_ne (fun z => n (.inr z))]; exact q
    have e : ys.take (k + 1) = ys.take k ++ [y] := by
      obtain ⟨h1, h2⟩ := List.getElem?_eq_some_iff.mp hy
      rw [List.take_succ, hy]; rfl
    rw [e]
    refine Reps.app (Reps.ex Xm _ (s4.reps racc)) ⟨u, [], rfl, Rep.ex Xm y r4, rfl⟩
end
section
variable {X : Cx} {elt it : Expr} {scope : Scope} {δ δ1 : TL.Env} {xs ys : List D} {i : Nat} {nm : Str} {pos np : Pos}
theorem lcw_end {M W : Addr → Prop} {σ : L2.St} {H H1 H' : Hp} {Dl : Addr} {δs : Nat → TL.Env} {n : Nat} {Q : VK} (g : Good M W H) (s1 : Stp M W σ δ1 H H1) (hD : H1 Dl = none) (p : Lcw M W σ H1 Dl δs ys n H') (hl : ys.length = n)
    (k : ∀ p vs H', Stp (Mp M p) W σ (δs n) H H' → H p = none → H' p = some (.lst vs) → Reps (Mp M p) H' ys vs → Q (.ref p) H') : Q (.ref Dl) H' := by
  obtain ⟨acc, hacc, racc⟩ := p.ex
  rw [← hl, List.take_length] at racc
  exact k Dl acc H' ⟨s1.xt.trans p.st.xt, p.st.good, p.st.env⟩ (s1.none g hD) hacc racc
/-- [elt for nm in it], it a list of data -/
theorem tf_lc (δs : Nat → TL.Env) (ys : List D) (hit : TR X it δ (.lst xs) (δs 0)) (hn : ∀ k, (δs k)[i]? = some none) (hl : ys.length = xs.length) (hb : xs.length ≤ 100000)
    (he : ∀ (k : Nat) (x y : D), xs[k]? = some x → ys[k]? = some y → TRb X scope elt ((δs k).set i (some (.im x))) y ((δs (k + 1)).set i (some (.im x))))
    (hN : X.N.Nodup) (ok : BlkOk X.N X.env.scope scope [(nm, i)])
    (hg : ∀ (s : Shared) (H : Hp) (C : Addr) (cl : List (Str × Addr)) (fp : List Addr), PG (X.blk s H scope (compEnvC scope cl C X.env) fp) (.Name nm np) (gName i)) (hc : X.calm = true := by rfl)
    (hs : ∀ x, foldedSetIterable it X.env x = pure x := by intro _; rfl) : TF X (.ListComp elt [⟨.Name nm np, it, [], 0⟩] scope pos) δ ys (δs xs.length) := fun M W σ H Q g E k => by
  refine wE_of (pe_lc (own := [(nm, i)]) (g := gName i) (tt := tYes) hc hN (pi_list pe_w) ok hg (fun _ _ _ _ _ => pts_nil) pe_wb hs) (hit M W σ H _ g E fun v H1 s1 ⟨a, vs, ea, m, ha, ra⟩ => ⟨a, ea, ⟨vs, SqL.of ha⟩, fun Dl hD => ?_⟩)
  have e0 : [(nm, i)].map (·.2) = [i] := rfl
  rw [e0]
  have nad : a ≠ Dl := ne_of_none ha hD
  refine lc_list (xs := vs) (Lcw M W σ H1 Dl δs ys) (lcw_start s1.good s1.env hD) (fun k' H' _ p => ?_) (fun k' x H' hk p => ⟨?_, ?_⟩) (fun H' p => ?_)
  · exact SqL.of (p.st.xt a _ (fun w => m (g.wm a w)) ha)
  · show (((σ.set i none).set i (some x)).set i none) = σ.set i none
    rw [List.set_set, List.set_set]
  · show wEb X scope elt ((wipe σ [i]).set i (some x)) H' _
    obtain ⟨d, hd, rd⟩ := ra.get' hk
    have hk' : k' < xs.length := (List.getElem?_eq_some_iff.mp hd).1
    have hy : ys[k']? = some ys[k'] := List.getElem?_eq_getElem (by omega)
    exact lcw_turn s1.good hD p hn hy (by omega) (Rep.ex (Xt.mono (fun _ w => .inl (g.wm _ w)) p.st.xt) d (Rep.gr (mp_gr hD) d rd)) (he k' d _ hd hy)
  · rw [ra.len] at p
    exact lcw_end g s1 hD p hl k
/-- .. over range(n) -/
theorem tf_lcR {n : Int} {e : Expr} {rp : Pos} (δs : Nat → TL.Env) (ys : List D) (hit : TR X e δ (.int n) (δs 0)) (hn : ∀ k, (δs k)[i]? = some none) (h0 : 0 ≤ n) (hb : n ≤ 100000) (hl : ys.length = n.toNat)
    (he : ∀ (k : Nat) (y : D), k < n.toNat → ys[k]? = some y → TRb X scope elt ((δs k).set i (some (.im (.int k)))) y ((δs (k + 1)).set i (some (.im (.int k)))))
    (hm : X.mg "range" = none) (hN : X.N.Nodup) (ok : BlkOk X.N X.env.scope scope [(nm, i)])
    (hg : ∀ (s : Shared) (H : Hp) (C : Addr) (cl : List (Str × Addr)) (fp : List Addr), PG (X.blk s H scope (compEnvC scope cl C X.env) fp) (.Name nm np) (gName i)) (hc : X.calm = true := by rfl) (hgl : Gl X "range" := by rfl)
    (hst : starEach [e] X.env = [(false, eval e X.env)] := by rfl)
    (hs : ∀ x, foldedSetIterable (.Call (.Name "range" rp) [e] [] pos) X.env x = pure x := by intro _; rfl) {cpos : Pos} : TF X (.ListComp elt [⟨.Name nm np, .Call (.Name "range" rp) [e] [] pos, [], 0⟩] scope cpos) δ ys (δs n.toNat) := fun M W σ H Q g E k => by
  refine wE_of (pe_lc (own := [(nm, i)]) (g := gName i) (tt := tYes) hc hN (pi_range1 hgl hm (pa_cons pe_w pa_nil hst) hst) ok hg (fun _ _ _ _ _ => pts_nil) pe_wb hs) (hit M W σ H _ g E fun v H1 s1 r1 => ⟨n, by rw [show v = V.int n from r1], by omega, by omega, fun Dl hD => ?_⟩)
  have e0 : [(nm, i)].map (·.2) = [i] := rfl
  rw [e0]
  refine lc_range (lo := 0) (n := n.toNat) (Lcw M W σ H1 Dl δs ys) (lcw_start s1.good s1.env hD) (fun k' H' hk p => ⟨?_, ?_⟩) (fun H' p => lcw_end g s1 hD p hl k)
  · show (((σ.set i none).set i _).set i none) = σ.set i none
    rw [List.set_set, List.set_set]
  · show wEb X scope elt ((wipe σ [i]).set i (some (.int (0 + (k' : Int))))) H' _
    rw [Int.zero_add]
    have hy : ys[k']? = some ys[k'] := List.getElem?_eq_getElem (by omega)
    exact lcw_turn (x := .int k') s1.good hD p hn hy (by omega) rfl (he k' _ hk hy)
/-- the script is read -/
theorem scr_sql {M : Addr → Prop} {H : Hp} {K : PySem.W.Frag} {a : Addr} {ns : List Int} {v : V} (r : Rep M H (.scr K a ns) v) : v = .ref a ∧ SqL K H a (ns.map V.int) := by
  obtain ⟨e, r⟩ := r
  rcases r with ⟨_, r⟩ | r
  · exact ⟨e, .inl r⟩
  · exact ⟨e, .inr r⟩
/-- .. over the script -/
theorem tf_lcS {a : Addr} {ns : List Int} (δs : Nat → TL.Env) (ys : List D) (hit : TR X it δ (.scr X.K a ns) (δs 0)) (hn : ∀ k, (δs k)[i]? = some none) (hl : ys.length = ns.length) (hb : ns.length ≤ 100000)
    (he : ∀ (k : Nat) (x : Int) (y : D), ns[k]? = some x → ys[k]? = some y → TRb X scope elt ((δs k).set i (some (.im (.int x)))) y ((δs (k + 1)).set i (some (.im (.int x)))))
    (hN : X.N.Nodup) (ok : BlkOk X.N X.env.scope scope [(nm, i)])
    (hg : ∀ (s : Shared) (H : Hp) (C : Addr) (cl : List (Str × Addr)) (fp : List Addr), PG (X.blk s H scope (compEnvC scope cl C X.env) fp) (.Name nm np) (gName i)) (hc : X.calm = true := by rfl)
    (hs : ∀ x, foldedSetIterable it X.env x = pure x := by intro _; rfl) : TF X (.ListComp elt [⟨.Name nm np, it, [], 0⟩] scope pos) δ ys (δs ns.length) := fun M W σ H Q g E k => by
  refine wE_of (pe_lc (own := [(nm, i)]) (g := gName i) (tt := tYes) hc hN (pi_list pe_w) ok hg (fun _ _ _ _ _ => pts_nil) pe_wb hs) (hit M W σ H _ g E fun v H1 s1 r1 => ⟨a, (scr_sql r1).1, ⟨_, (scr_sql r1).2⟩, fun Dl hD => ?_⟩)
  have e0 : [(nm, i)].map (·.2) = [i] := rfl
  rw [e0]
  refine lc_list (xs := ns.map V.int) (Lcw M W σ H1 Dl δs ys) (lcw_start s1.good s1.env hD) (fun k' H' _ p => ?_) (fun k' x H' hk p => ⟨?_, ?_⟩) (fun H' p => ?_)
  · exact (scr_sql (Rep.ex (Xt.mono (fun _ w => .inl (g.wm _ w)) p.st.xt) _ (Rep.gr (mp_gr hD) _ r1))).2
  · show (((σ.set i none).set i (some x)).set i none) = σ.set i none
    rw [List.set_set, List.set_set]
  · show wEb X scope elt ((wipe σ [i]).set i (some x)) H' _
    rw [List.getElem?_map] at hk
    cases hz : ns[k']? with
    | none => rw [hz] at hk; cases hk
    | some z =>
      rw [hz] at hk
      cases hk
      have hk' : k' < ns.length := (List.getElem?_eq_some_iff.mp hz).1
      have hy : ys[k']? = some ys[k'] := List.getElem?_eq_getElem (by omega)
      exact lcw_turn (x := .int z) s1.good hD p hn hy (by omega) rfl (he k' z _ hz hy)
  · rw [List.length_map] at p
    exact lcw_end g s1 hD p hl k
end

/-! ### loops -/
section
variable {X : Cx} {c it : Expr} {body : List Stmt} {δ δ1 δ' : TL.Env} {xs : List D} {j : Nat} {nm : Str} {pos np : Pos}
theorem ts_while {ι : Type} (I : ι → TL.Env) (J : ι → Prop) (μ : ι → Nat) (x0 : ι) (h0 : δ = I x0) (j0 : J x0)
    (hs : ∀ x, J x → ∃ k, TT X c (I x) k (I x) ∧ (k = true → ∃ y, J y ∧ μ y < μ x ∧ TB X body (I x) (.nx (I y))) ∧ (k = false → I x = δ')) (hp : PassesOwn (model X.prog X.w) X.A X.env X.xe) :
    TS X (.While c body [] pos) δ (.nx δ') := fun M W σ H Dn g E q => by
  subst h0
  refine wS_of (ps_while hp pt_w pss_w) ⟨fun m σ' H' => ∃ x M' W', J x ∧ μ x = m ∧ Aft M W M' W' (I x0) σ H (I x) σ' H', ⟨_, x0, M, W, j0, rfl, ⟨Gr.refl, Xt.refl H, g, E, Kp.refl⟩⟩, ?_⟩
  rintro m σ' H' ⟨x, M', W', jx, rfl, A⟩
  obtain ⟨k, ht, hT, hF⟩ := hs x jx
  refine ht M' W' σ' H' _ A.good A.env fun H1 s1 => ?_
  have A1 : Aft M W M' W' (I x0) σ H (I x) σ' H1 := A.trans g (s1.aft Sh.refl)
  cases k with
  | true =>
    rw [if_pos rfl]
    obtain ⟨y, jy, hm, hb⟩ := hT rfl
    refine ⟨_, fun _ _ n => n, hb M' W' σ' H1 _ s1.good s1.env fun M2 W2 σ2 H2 A2 => ?_⟩
    exact ⟨μ y, hm, y, M2, W2, jy, rfl, A1.trans g A2⟩
  | false =>
    rw [if_neg Bool.false_ne_true]
    have e := hF rfl
    rw [e] at A1
    exact q M' W' σ' H1 A1
/-- for nm in it: every turn goes on -/
theorem ts_for (I : Nat → TL.Env) (hit : TR X it δ (.lst xs) (I 0)) (sh : Sh δ (I 0)) (hno : ∀ k xs, (I k)[j]? ≠ some (some (.own xs))) (hs : ∀ (k : Nat) (x : D), xs[k]? = some x → TB X body ((I k).set j (some (.im x))) (.nx (I (k + 1))))
    (hp : PassesOwn (model X.prog X.w) X.A X.env X.xe) (hg : PG X (.Name nm np) (gName j)) (hc : X.calm = true := by rfl) (hf : ∀ x, foldedSetIterable it X.env x = pure x := by intro _; rfl) :
    TS X (.For (.Name nm np) it body [] pos) δ (.nx (I xs.length)) := fun M W σ H Dn g E q => by
  refine wS_of (ps_for hp hc (pi_list pe_w) hg pss_w hf) (hit M W σ H _ g E fun v H1 s1 ⟨a, vs, ea, m, ha, ra⟩ => ⟨a, ea, ⟨vs, SqL.of ha⟩, ?_⟩)
  have A1 := s1.aft sh
  refine for_list (xs := vs) (fun k σ' H' => ∃ M' W', Aft M W M' W' δ σ H (I k) σ' H' ∧ ¬ M' a ∧ H' a = some (.lst vs) ∧ Reps M' H' xs vs) ⟨M, W, A1, m, ha, ra⟩ (fun k σ' H' _ ⟨M', W', A, m', ha', _⟩ => SqL.of ha') ?_ ?_
  · rintro k x σ' H' hk ⟨M', W', A, m', ha', ra'⟩
    obtain ⟨d, hd, rd⟩ := ra'.get' hk
    refine hs k d hd M' W' (σ'.set j (some x)) H' _ A.good (A.env.set rd) fun M2 W2 σ2 H2 A2 => ?_
    have A3 : Aft M' W' M' W' (I k) σ' H' ((I k).set j (some (.im d))) (σ'.set j (some x)) H' := aft_set (Stp.refl A.good A.env) Sh.refl (hno k) rd
    have A4 := A3.trans A.good A2
    have na : ¬ W' a := fun w => m' (A.good.wm a w)
    have nM2 : ¬ M2 a := fun z => (A2.gr.mn a z).elim m' (fun y => by rw [ha'] at y; cases y)
    exact ⟨M2, W2, A.trans g A4, nM2, A2.xt a _ na ha', Reps.ex (fun b o n h => A2.xt b o (fun w => n (A2.gr.mm b (A.good.wm b w))) h) xs (Reps.gr A2.gr.mn xs ra')⟩
  · rintro σ' H' ⟨M', W', A, _⟩
    rw [ra.len] at A
    exact q M' W' σ' H' A
end
end TL
set_option Elab.async false
set_option linter.all false
set_option maxRecDepth 100000
set_option autoImplicit false
set_option maxHeartbeats 4000000
/-! TL7: built-in calls, equality and repr of data, slices, wide division. -/
namespace TL
open PySem PySem.Spec PyProof.Rows L2

/-! ### data without instances -/
mutual
def D.py : D → PyData
  | .non => .none
  | .bl b => .bool b
  | .int i => .int i
  | .str x => .str x
  | .lst xs => .list (D.pys xs)
  | .tup xs => .tuple (D.pys xs)
  | .scr _ _ ns => .list (ns.map PyData.int)
  | .ins _ _ _ => .none
  | .vl _ => .none
def D.pys : List D → List PyData
  | [] => []
  | d :: ds => d.py :: D.pys ds
end
mutual
def D.isData : D → Bool
  | .non => true
  | .bl _ => true
  | .int _ => true
  | .str _ => true
  | .lst xs => D.areData xs
  | .tup xs => D.areData xs
  | .scr _ _ _ => false
  | .ins _ _ _ => false
  | .vl _ => false
def D.areData : List D → Bool
  | [] => true
  | d :: ds => d.isData && D.areData ds
end
section
variable {K : PySem.W.Frag} {M : Addr → Prop} {H : Hp}
mutual
theorem Rep.dp : ∀ (d : D) {v : V}, d.isData = true → Rep M H d v → Dp K H v d.py
  | .non, _, _, h => by rw [show _ = V.non from h]; exact .non
  | .bl b, _, _, h => by rw [show _ = V.bl b from h]; exact .bl b
  | .int i, _, _, h => by rw [show _ = V.int i from h]; exact .int i
  | .str x, _, _, h => by rw [show _ = V.str x from h]; exact .str x
  | .lst xs, _, q, ⟨p, vs, e, m, s, r⟩ => by rw [e]; exact .lst (SqL.of s) (Reps.dp xs q r)
  | .tup xs, _, q, ⟨p, vs, e, m, s, r⟩ => by rw [e]; exact .tup (.inl s) (Reps.dp xs q r)
  | .scr _ _ _, _, q, _ => by cases q
  | .ins _ _ _, _, q, _ => by cases q
  | .vl _, _, q, _ => by cases q
theorem Reps.dp : ∀ (ds : List D) {vs : List V}, D.areData ds = true → Reps M H ds vs → DpAll K H vs (D.pys ds)
  | [], _, _, h => by rw [show _ = [] from h]; exact .nil
  | d :: ds, _, q, ⟨v, r, e, a, b⟩ => by
    rw [e]
    have q' : d.isData = true ∧ D.areData ds = true := by
      have : (d.isData && D.areData ds) = true := q
      simpa using this
    exact .cons (Rep.dp d q'.1 a) (Reps.dp ds q'.2 b)
end
end
section
variable {X : Cx} {a b c e : Expr} {es : List Expr} {δ δ1 δ2 : TL.Env} {x y z d : D} {ds xs ys : List D} {pos p : Pos} {r : R2} {k l : Bool} {nm : Str}
theorem ot_eqD (hx : x.isData = true) (hy : y.isData = true) (sx : SeqAt.shaped x.py = true) (sy : SeqAt.shaped y.py = true) : OpT (rEqD X.K) x y (.bl (PyData.eqv x.py y.py)) := fun M W H u v Q _ ru rv k =>
  ⟨x.py, y.py, Rep.dp x hx ru, Rep.dp y hy rv, sx, sy, k _ H (fun _ _ e => e) rfl⟩
theorem ot_neD (hx : x.isData = true) (hy : y.isData = true) (sx : SeqAt.shaped x.py = true) (sy : SeqAt.shaped y.py = true) : OpT (rNeD X.K) x y (.bl (!PyData.eqv x.py y.py)) := fun M W H u v Q _ ru rv k =>
  ⟨x.py, y.py, Rep.dp x hx ru, Rep.dp y hy rv, sx, sy, k _ H (fun _ _ e => e) rfl⟩
theorem tr_eqD (ha : TR X a δ x δ1) (hb : TR X b δ1 y δ2) (hu : X.A.units + 64 < cLine) (hx : x.isData = true) (hy : y.isData = true) (sx : SeqAt.shaped x.py = true) (sy : SeqAt.shaped y.py = true) : TR X (.Compare a [.Eq] [b] pos) δ (.bl (PyData.eqv x.py y.py)) δ2 := tr_cmp (op_eqD hu) ha hb (ot_eqD hx hy sx sy)
theorem tt_eqD (ha : TR X a δ x δ1) (hb : TR X b δ1 y δ2) (hu : X.A.units + 64 < cLine) (hx : x.isData = true) (hy : y.isData = true) (sx : SeqAt.shaped x.py = true) (sy : SeqAt.shaped y.py = true) : TT X (.Compare a [.Eq] [b] pos) δ (PyData.eqv x.py y.py) δ2 := tt_cmp (op_eqD hu) ha hb (ot_eqD hx hy sx sy)
theorem tt_neD (ha : TR X a δ x δ1) (hb : TR X b δ1 y δ2) (hu : X.A.units + 64 < cLine) (hx : x.isData = true) (hy : y.isData = true) (sx : SeqAt.shaped x.py = true) (sy : SeqAt.shaped y.py = true) : TT X (.Compare a [.NotEq] [b] pos) δ (!PyData.eqv x.py y.py) δ2 := tt_cmp (op_neD hu) ha hb (ot_neD hx hy sx sy)

/-! ### built-ins by name -/
theorem tr_callB {id : String} {rc : List V → Hp → VK → Prop} (hc : CallR X (.builtin id) rc) (hm : X.mg nm = none) (hv : bootBuiltins nm = some (.builtin id)) (ha : TA X (e :: es) δ ds δ1) (hr : CaT rc ds d) (hg : Gl X nm := by rfl) (hn : nm ≠ "__name__" := by decide)
    (hdb : (nm == ("__debug__" : Str)) = false := by decide) (he : starEach (e :: es) X.env = (false, eval e X.env) :: starEach es X.env := by rfl) (hpl : (backTo pos (starEach es X.env)).any (·.1) = false := by rfl) : TR X (.Call (.Name nm p) (e :: es) [] pos) δ d δ1 := fun M W σ H Q g E k =>
  wE_of (pe_callB hc hg hm hv pa_w hn hdb he hpl) (ha M W σ H _ g E fun vs H1 s1 r1 => hr M W H1 vs Q s1.good r1 fun w H2 e2 r2 => k w H2 (s1.ext e2) r2)
theorem tr_callTy {T : String} {rc : List V → Hp → VK → Prop} (hc : CallR X (.type T) rc) (hm : X.mg nm = none) (hv : bootBuiltins nm = some (.type T)) (ha : TA X (e :: es) δ ds δ1) (hr : CaT rc ds d) (hg : Gl X nm := by rfl) (hn : nm ≠ "__name__" := by decide)
    (hdb : (nm == ("__debug__" : Str)) = false := by decide) (he : starEach (e :: es) X.env = (false, eval e X.env) :: starEach es X.env := by rfl) (hpl : (backTo pos (starEach es X.env)).any (·.1) = false := by rfl) : TR X (.Call (.Name nm p) (e :: es) [] pos) δ d δ1 := fun M W σ H Q g E k =>
  wE_of (pe_callTy hc hg hm hv pa_w hn hdb he hpl) (ha M W σ H _ g E fun vs H1 s1 r1 => hr M W H1 vs Q s1.good r1 fun w H2 e2 r2 => k w H2 (s1.ext e2) r2)
theorem reps1 {M : Addr → Prop} {H : Hp} {vs : List V} (r : Reps M H [x] vs) : ∃ v, vs = [v] ∧ Rep M H x v := by
  obtain ⟨v, r', e, h, e2⟩ := r
  have e2 : r' = [] := e2
  subst e2
  exact ⟨v, e, h⟩
theorem reps2 {M : Addr → Prop} {H : Hp} {vs : List V} (r : Reps M H [x, y] vs) : ∃ v w, vs = [v, w] ∧ Rep M H x v ∧ Rep M H y w := by
  obtain ⟨v, r', e, h, r2⟩ := r
  obtain ⟨w, e2, h2⟩ := reps1 r2
  subst e2
  exact ⟨v, w, e, h, h2⟩
theorem ca_abs {i : Int} : CaT (fun xs H Q => ∃ i, xs = [.int i] ∧ Q (.int (if i < 0 then -i else i)) H) [.int i] (.int (if i < 0 then -i else i)) := fun M W H us Q g r k => by
    obtain ⟨v, e, h⟩ := reps1 r
    exact ⟨i, by rw [e, show v = V.int i from h], k _ H (fun _ _ e => e) rfl⟩
theorem ca_int {i : Int} : CaT (fun xs H Q => (∃ i, xs = [.int i] ∧ Q (.int i) H) ∨ ∃ k, xs = [.bl k] ∧ Q (.int (if k then 1 else 0)) H) [.int i] (.int i) := fun M W H us Q g r k => by
    obtain ⟨v, e, h⟩ := reps1 r
    exact .inl ⟨i, by rw [e, show v = V.int i from h], k _ H (fun _ _ e => e) rfl⟩
theorem ca_max2 {i j : Int} : CaT (fun xs H Q => ∃ i j, xs = [.int i, .int j] ∧ Q (.int (if j > i then j else i)) H) [.int i, .int j] (.int (if j > i then j else i)) := fun M W H us Q g r k => by
    obtain ⟨v, w, e, h, h2⟩ := reps2 r
    exact ⟨i, j, by rw [e, show v = V.int i from h, show w = V.int j from h2], k _ H (fun _ _ e => e) rfl⟩
theorem ca_min2 {i j : Int} : CaT (fun xs H Q => ∃ i j, xs = [.int i, .int j] ∧ Q (.int (if j < i then j else i)) H) [.int i, .int j] (.int (if j < i then j else i)) := fun M W H us Q g r k => by
    obtain ⟨v, w, e, h, h2⟩ := reps2 r
    exact ⟨i, j, by rw [e, show v = V.int i from h, show w = V.int j from h2], k _ H (fun _ _ e => e) rfl⟩
theorem ca_lenL : CaT (fun xs H Q => ∃ p ys, xs = [.ref p] ∧ (SqL X.K H p ys ∨ SqT X.K H p ys) ∧ Q (.int ys.length) H) [.lst xs] (.int (xs.length : Int)) := fun M W H us Q g r k => by
    obtain ⟨v, e, q, vs, ev, m, hq, rs⟩ := reps1 r
    exact ⟨q, vs, by rw [e, ev], .inl (SqL.of hq), k _ H (fun _ _ e => e) (by rw [rs.len]; exact rfl)⟩
theorem ca_lenT : CaT (fun xs H Q => ∃ p ys, xs = [.ref p] ∧ (SqL X.K H p ys ∨ SqT X.K H p ys) ∧ Q (.int ys.length) H) [.tup xs] (.int (xs.length : Int)) := fun M W H us Q g r k => by
    obtain ⟨v, e, q, vs, ev, m, hq, rs⟩ := reps1 r
    exact ⟨q, vs, by rw [e, ev], .inr (.inl hq), k _ H (fun _ _ e => e) (by rw [rs.len]; exact rfl)⟩
theorem ca_lenS {q : Addr} {ns : List Int} : CaT (fun xs H Q => ∃ p ys, xs = [.ref p] ∧ (SqL X.K H p ys ∨ SqT X.K H p ys) ∧ Q (.int ys.length) H) [.scr X.K q ns] (.int (ns.length : Int)) := fun M W H us Q g r k => by
    obtain ⟨v, e, h⟩ := reps1 r
    obtain ⟨ev, hs⟩ := scr_sql h
    exact ⟨q, ns.map V.int, by rw [e, ev], .inl hs, k _ H (fun _ _ e => e) (by rw [List.length_map]; exact rfl)⟩
theorem ca_strI {i : Int} (hi : i.natAbs.log2 < 1920) : CaT (fun xs H Q => ∃ i, xs = [.int i] ∧ i.natAbs.log2 < 1920 ∧ Q (.str (toString i)) H) [.int i] (.str (toString i)) := fun M W H us Q g r k => by
    obtain ⟨v, e, h⟩ := reps1 r
    exact ⟨i, by rw [e, show v = V.int i from h], hi, k _ H (fun _ _ e => e) rfl⟩
theorem reps_bl {M : Addr → Prop} {H : Hp} : ∀ (bs : List Bool) (vs : List V), Reps M H (bs.map D.bl) vs → vs = bs.map V.bl
  | [], _, h => h
  | b :: bs, _, ⟨v, r, e, h1, h2⟩ => by rw [e, reps_bl bs r h2, show v = V.bl b from h1]; rfl
theorem ca_all {bs : List Bool} : CaT (rAll X.K) [.lst (bs.map D.bl)] (.bl (bs.all id)) := fun M W H us Q g r k => by
    obtain ⟨v, e, q, vs, ev, m, hq, rs⟩ := reps1 r
    exact ⟨q, bs, by rw [e, ev], SqL.of (by rw [← reps_bl bs vs rs]; exact hq), k _ H (fun _ _ e => e) rfl⟩
theorem ca_any {bs : List Bool} : CaT (rAny X.K) [.lst (bs.map D.bl)] (.bl (bs.any id)) := fun M W H us Q g r k => by
    obtain ⟨v, e, q, vs, ev, m, hq, rs⟩ := reps1 r
    exact ⟨q, bs, by rw [e, ev], SqL.of (by rw [← reps_bl bs vs rs]; exact hq), k _ H (fun _ _ e => e) rfl⟩

/-! ### // by any divisor -/
def CDivX (_ j : Int) : Prop := j ≠ 0 ∧ j.natAbs.log2 < 9000
theorem op_fdivX : OpR X (binaryOp .FloorDiv) (rI CDivX fun i j => .int (i.fdiv j)) := opI fun i j _ _ _ _ _ hc q => floordiv_int hc.1 q (.inl (PyProof.noPylong_of_log2 hc.2))
theorem tr_fdiv {i j : Int} (ha : TR X a δ (.int i) δ1) (hb : TR X b δ1 (.int j) δ2) (hc : j ≠ 0 ∧ j.natAbs.log2 < 9000) : TR X (.BinOp a .FloorDiv b pos) δ (.int (i.fdiv j)) δ2 := tr_op op_fdivX ha hb (ot_I hc fun _ _ => rfl)
theorem tr_fdivP {i j : Int} (ha : TR X a δ (.int i) δ1) (hb : TR X b δ1 (.int j) δ2) (hc : CDivW i j) : TR X (.BinOp a .FloorDiv b pos) δ (.int (i / j)) δ2 := tr_op op_fdivW ha hb (ot_I hc fun _ _ => rfl)

/-! ### repr of data -/
def rRepr (K : PySem.W.Frag) : List V → Hp → VK → Prop := fun xs H Q => ∃ q d, xs = [.ref q] ∧ Dp K H (.ref q) d ∧ d.showable = true ∧ d.hasDict = false ∧ d.depth ≤ 60 ∧ d.shown.length ≤ sizeLine ∧ Q (.str d.shown) H
theorem call_reprD (gd : X.A.guards = some []) (hu : X.A.units + 64 < cLine) : CallR X (.builtin "repr") (rRepr X.K) := by
  intro pins s σ H xs us Q I rv h
  obtain ⟨q, d, rfl, hd, hs, hn, hdp, hsz, hq⟩ := h
  obtain ⟨u, rest, e, r1, r2⟩ : ∃ u rest, us = u :: rest ∧ RelV (.ref q) u ∧ Vals [] rest := by cases rv with | cons a b => exact ⟨_, _, rfl, a, b⟩
  cases r2
  subst e
  cases r1
  obtain ⟨as, hr⟩ := Dp.reads I d _ _ hd rfl
  exact repr_of_reads' hr hs (fun z => by rw [hn] at z; cases z) gd (by omega) (fun _ _ z => z) (fun h' t tk hk => ⟨.str d.shown, H, I.kept hk, ⟨_, rfl⟩, hq⟩) hsz
theorem ca_repr (hx : x.isData = true) (hl : (∃ xs, x = .lst xs) ∨ ∃ xs, x = .tup xs) (hs : x.py.showable = true) (hd : x.py.hasDict = false) (hdp : x.py.depth ≤ 60) (hsz : x.py.shown.length ≤ sizeLine) : CaT (rRepr X.K) [x] (.str x.py.shown) := fun M W H us Q g r k => by
    obtain ⟨v, e, h⟩ := reps1 r
    obtain ⟨q, ev⟩ : ∃ q, v = V.ref q := by
      rcases hl with ⟨xs, rfl⟩ | ⟨xs, rfl⟩
      · obtain ⟨q, _, ev, _⟩ := h; exact ⟨q, ev⟩
      · obtain ⟨q, _, ev, _⟩ := h; exact ⟨q, ev⟩
    subst ev
    exact ⟨q, x.py, e, Rep.dp x hx h, hs, hd, hdp, hsz, k _ H (fun _ _ e => e) rfl⟩

/-! ### slices, sums and multiples of lists -/
theorem cutV_int {ns : List Int} (lo hi : Option Int) : cutV (ns.map V.int) lo hi = ((ns.drop (HT.sIx ns.length 0 lo)).take (HT.sIx ns.length ns.length hi - HT.sIx ns.length 0 lo)).map V.int := by
  unfold cutV
  rw [List.length_map, List.map_take, List.map_drop]
/-- script[k:] -/
theorem tf_slLo {q : Addr} {ns : List Int} {i : Int} {p2 : Pos} (ha : TR X a δ (.scr X.K q ns) δ1) (hb : TR X b δ1 (.int i) δ2) : TF X (.Subscript a (.Slice (some b) none none p2) pos) δ ((ns.drop (HT.sIx ns.length 0 (some i))).map D.int) δ2 := fun M W σ H Q g E k =>
  wE_of (pe_slice sl_list pe_w (po_some pe_w) po_none) (ha M W σ H _ g E fun v H1 s1 r1 => hb M W σ H1 _ s1.good s1.env fun u H2 s2 r2 => ⟨i, r2, by
    obtain ⟨ev, hs⟩ := scr_sql (s2.rep r1)
    refine ⟨q, ns.map V.int, ev, hs, fun p' hp => ?_⟩
    have s := s1.trans s2
    rw [cutV_int]
    have e : (ns.drop (HT.sIx ns.length 0 (some i))).take (HT.sIx ns.length ns.length none - HT.sIx ns.length 0 (some i)) = ns.drop (HT.sIx ns.length 0 (some i)) := List.take_of_length_le (by rw [List.length_drop]; exact Nat.le_refl _)
    rw [e]
    exact k p' _ _ (s.fresh hp) (s.none g hp) upd_same (Reps.ofInts _)⟩)
/-- script[:k] -/
theorem tf_slHi {q : Addr} {ns : List Int} {i : Int} {p2 : Pos} (ha : TR X a δ (.scr X.K q ns) δ1) (hb : TR X b δ1 (.int i) δ2) : TF X (.Subscript a (.Slice none (some b) none p2) pos) δ ((ns.take (HT.sIx ns.length ns.length (some i))).map D.int) δ2 := fun M W σ H Q g E k =>
  wE_of (pe_slice sl_list pe_w po_none (po_some pe_w)) (ha M W σ H _ g E fun v H1 s1 r1 => hb M W σ H1 _ s1.good s1.env fun u H2 s2 r2 => ⟨i, r2, by
    obtain ⟨ev, hs⟩ := scr_sql (s2.rep r1)
    refine ⟨q, ns.map V.int, ev, hs, fun p' hp => ?_⟩
    have s := s1.trans s2
    rw [cutV_int]
    have e : (ns.drop (HT.sIx ns.length 0 none)).take (HT.sIx ns.length ns.length (some i) - HT.sIx ns.length 0 none) = ns.take (HT.sIx ns.length ns.length (some i)) := by
      rw [HT.sIx_none, List.drop_zero, Nat.sub_zero]
    rw [e]
    exact k p' _ _ (s.fresh hp) (s.none g hp) upd_same (Reps.ofInts _)⟩)
theorem tf_cat (ha : TR X a δ (.lst xs) δ1) (hb : TR X b δ1 (.lst ys) δ2) (hz : xs.length + ys.length ≤ 100000) : TF X (.BinOp a .Add b pos) δ (xs ++ ys) δ2 :=
  tf_op op_cat ha hb fun M W H u v Q g ⟨p1, vs1, e1, m1, h1, r1⟩ ⟨p2, vs2, e2, m2, h2, r2⟩ k => ⟨p1, p2, vs1, vs2, e1, e2, h1, h2, by rw [r1.len, r2.len]; exact Nat.le_trans hz (by decide), fun p hp => k p _ hp (Reps.app r1 r2)⟩
theorem tf_rep {n : Int} (ha : TR X a δ (.lst xs) δ1) (hb : TR X b δ1 (.int n) δ2) (h0 : 0 ≤ n) (hz : n ≤ 1000) (hx : xs.length ≤ 100) : TF X (.BinOp a .Mult b pos) δ (List.replicate n.toNat xs).flatten δ2 :=
  tf_op op_rep ha hb fun M W H u v Q g ⟨p1, vs1, e1, m1, h1, r1⟩ rv k => ⟨p1, n, vs1, e1, rv, h1, by omega, by omega, by
    rw [r1.len]
    have : xs.length * n.toNat ≤ 100 * 1000 := Nat.mul_le_mul hx (by omega)
    exact Nat.le_trans this (by decide), fun p hp => k p _ hp (by
      have hr : ∀ m : Nat, Reps M H (List.replicate m xs).flatten (List.replicate m vs1).flatten := fun m => by
        induction m with
        | zero => exact rfl
        | succ m ih => rw [List.replicate_succ, List.flatten_cons, List.replicate_succ, List.flatten_cons]; exact Reps.app r1 ih
      exact hr _)⟩
end
end TL
set_option Elab.async false
set_option linter.all false
set_option maxRecDepth 100000
set_option autoImplicit false
set_option maxHeartbeats 4000000
/-! TL8: instances: fields, properties, making, own operators, isinstance. -/
namespace TL
open PySem PySem.Spec PyProof.Rows L2

/-! ### != by an own == -/
section
variable {prog : Program} {w : World} {A : Around} {E : Value → Shared → Prop} {s : Shared} {K : PySem.W.Frag} {x C L f : Addr} {h0 : Heap} {m : Str → Option Value} {ox : Obj} {od : Option Obj} {b tb : Value}
theorem ifBound_ne {args : List Value} {Q : Option Value → Shared → Prop} {Md : Model} (X : K.In s.heap) (I : PySem.W.InstAt s.heap x ox C od) (hs : PySem.W.findIn K (.ref C) "__ne__" = some (some (.builtin "object.__ne__")))
    (h : wpAny Md A (call (.builtin "object.__ne__") (.ref x :: args)) (fun v => Q (some v)) E s) : wpAny Md A (callSpecialIfBound? (.ref x) "__ne__" args) Q E s := by
  simp only [callSpecialIfBound?, bindSpecialIfBound?]
  refine wpAny_holding (wpAny_bind (wpAny_bind (wpAny_bind (I.type.here ((PySem.W.looks_findIn X hs).here ?_)))))
  refine wpAny_bind (wpAny_askSetting (wpAny_ite ?_))
  have last : wpAny Md A (call (.builtin "object.__ne__") ([.ref x] ++ args) >>= fun v => pure (some v)) Q E s := wpAny_bind (wpAny_mono h (fun v s' h' => wpAny_pure h') fun _ _ h' => h')
  split
  · exact wpAny_bind (wpAny_of_eq (F.cmp_object.ne.bind _) (wpAny_pure (by exact last)))
  · exact wpAny_tryCatch (wpAny_bind (wpAny_of_eq (F.cmp_object.ne.bind _) (wpAny_pure (by exact last))))
theorem entry_ne_own {Q : Fin → Shared → Prop} (hu : A.units < cLine) (X : K.In s.heap) (I : PySem.W.InstAt s.heap x ox C od) (hs : PySem.W.findIn K (.ref C) "__eq__" = some (some (.ref f))) (hf : PySem.W.isFn K (.ref f) = true)
    (h : wpAny (model prog w) A (call (.ref f) [.ref x, b]) (fun v s' => ∃ k, v = .bool k ∧ Q (.done (.ret (.bool (!k)))) s') E s) : wpAny (model prog w) A (Builtin.«object.__ne__» ⟨[.ref x, b], []⟩) Q E s := by
  unfold Builtin.«object.__ne__»
  repeat (first
    | with_reducible refine wpAny_cRoomFor hu ?_
    | (refine wpAny_bind (m := callSpecialIfBound? (.ref x) (Str.ofString "__eq__") [b])
        (PySem.W.ifBound_K X I hs hf (wpAny_mono h (fun r s' hr => by
          obtain ⟨k, rfl, hq⟩ := hr
          repeat (first | exact hq | exact wpAny_pure hq | exact wpAny_truthy_bool hq | (refine wpAny_bind (m := truthy (.bool _)) (wpAny_truthy_bool ?_)) | wp_step)) fun _ _ e => e)))
    | wp_step)
theorem ne_own {Q : Value → Shared → Prop} (hu : A.units + 1 < cLine) (Fh : Fr h0 L s.heap m) (hX : K.In h0) (I : PySem.W.InstAt s.heap x ox C od) (hb : PySem.W.Looks (model prog w) s.heap (typeOf b) tb) (hn : PySem.W.notFirst K C tb = true)
    (hm : PySem.W.mroIn K C (.type "object") = some true) (hne : PySem.W.findIn K (.ref C) "__ne__" = some (some (.builtin "object.__ne__"))) (hs : PySem.W.findIn K (.ref C) "__eq__" = some (some (.ref f))) (hf : PySem.W.isFn K (.ref f) = true)
    (h : wpAny (model prog w) A.in1 (call (.ref f) [.ref x, b]) (fun v s' => ∃ k, v = .bool k ∧ Q (.bool (!k)) s') E s) : wpAny (model prog w) A (richCompare .NotEq (.ref x) b) Q E s := by
  have X := hX.keeps Fh.keep
  have one : wpAny (model prog w) A (tryCompare (.ref x) "__ne__" b) (fun r s' => ∃ v, r = some v ∧ Q v s') E s := by
    unfold tryCompare
    refine wpAny_bind (ifBound_ne X I hne ?_)
    refine wpAny_call (codeAny_call_builtin F.cmp_object.ne.plain F.cmpEntry_ne (PySem.W.check_slot F.cmpKind_ne F.cmpSplit_ne (I.type.andThen (PySem.W.looks_mroIn X hm)) (F.cmpArgs_ne _ _) (entry_ne_own (A := A.in1) hu X I hs hf (wpAny_mono h (fun v s' hv => ?_) fun _ _ e => e))))
    obtain ⟨k, rfl, hq⟩ := hv
    first | exact ⟨k, rfl, wpAny_pure ⟨_, rfl, hq⟩⟩ | exact ⟨k, rfl, wpAny_pure (wpAny_pure ⟨_, rfl, hq⟩)⟩
  simp only [richCompare, cmpInfo_NotEq, oneThing_ref]
  refine wpAny_holding (wpAny_bind (wpAny_cRoomFor (Nat.lt_of_succ_lt hu) ?_))
  refine wpAny_bind (I.type.here (wpAny_bind (hb.here ?_)))
  split
  · rename_i q
    have e : PySem.W.subIn K tb (.ref C) = some false := by
      rcases Bool.or_eq_true_iff.mp hn with e | e
      · rw [beq_iff_eq.mp e] at q; simp at q
      · exact beq_iff_eq.mp e
    refine wpAny_bind ((PySem.W.looks_subIn X e).here ?_)
    simp only [Bool.false_eq_true, if_false]
    refine wpAny_bind (wpAny_mono one (fun r s' z => ?_) fun _ _ e => e)
    obtain ⟨v, rfl, hq⟩ := z
    exact wpAny_pure hq
  · refine wpAny_bind (wpAny_pure ?_)
    simp only [Bool.false_eq_true, if_false]
    refine wpAny_bind (wpAny_mono one (fun r s' z => ?_) fun _ _ e => e)
    obtain ⟨v, rfl, hq⟩ := z
    exact wpAny_pure hq
end
end TL
set_option Elab.async false
set_option linter.all false
set_option maxRecDepth 100000
set_option autoImplicit false
set_option maxHeartbeats 4000000
/-! TL9: instances over trees: fields, properties, making, own operators, isinstance, methods. -/
namespace TL
open PySem PySem.Spec PyProof.Rows L2

/-! ### the callee runs -/
section
variable {X : Cx} {k : Nat} {f : Addr} {R : Spec} {pins : List (Addr × Obj)} {σ : L2.St} {H : Hp} {s : Shared} {Q : VK} {us ws : List Value} {vs zs : List V} {ks : List Str}
theorem runG (F : FnG X.prog X.w X.K X.mg X.base k f ks R) (hr : Room k X.A) (gd : X.A.guards = some []) (I : Inv X pins σ H s) (r : Vals vs us) (rz : Vals zs ws) (lz : zs.length = ks.length) (h : spT R (vs ++ zs) H Q E0) :
    wpAny (model X.prog X.w) X.A (call (.ref f) us (ks.zip ws)) (EP X pins σ Q) X.xe s := by
  refine wpAny_call (codeAny_mono (F.run X.A X.stack s H us ws vs zs Q hr gd I.env0 r rz lz h) fun rr s' hq => ?_)
  cases rr with
  | error e => exact False.elim hq
  | ok fl =>
    cases fl with
    | ret u => exact I.after hq
    | next => exact False.elim hq
    | brk => exact False.elim hq
    | cont => exact False.elim hq
/-- .. one level down -/
theorem runG1 (F : FnG X.prog X.w X.K X.mg X.base k f [] R) (hr : Room (k + 1) X.A) (gd : X.A.guards = some []) (I : Inv X pins σ H s) (r : Vals vs us) (h : spT R vs H Q E0) :
    wpAny (model X.prog X.w) X.A.in1 (call (.ref f) us) (EP X pins σ Q) X.xe s := by
  refine wpAny_call (codeAny_mono (F.run X.A.in1 X.stack s H us [] vs [] Q hr.in1 gd I.env0.in1 r .nil rfl (by rw [List.append_nil]; exact h)) fun rr s' hq => ?_)
  cases rr with
  | error e => exact False.elim hq
  | ok fl =>
    cases fl with
    | ret u => exact I.after hq
    | next => exact False.elim hq
    | brk => exact False.elim hq
    | cont => exact False.elim hq
end

/-! ### what is asked of a class -/
structure ClsO (K : PySem.W.Frag) (C : Addr) : Prop where
  cl : Cls K C
  ca : PySem.W.findIn K (.ref C) "__class__" = some (some (.builtin "object.__class__"))
  cn : PySem.W.specialIn K (.builtin "object.__class__") "__get__" = some (some (.builtin "getset_descriptor.__get__"))
  ct : PySem.W.takesIn K (.builtin "object.__class__") = some true
  cm : PySem.W.mroIn K C (.type "object") = some true
  sf : PySem.W.selfFirst K C = true
/-- the class of data, as isinstance asks it -/
inductive TyD (K : PySem.W.Frag) : D → Value → Prop where
  | non : TyD K .non (.type "NoneType")
  | bl (b : Bool) : TyD K (.bl b) (.type "bool")
  | int (i : Int) : TyD K (.int i) (.type "int")
  | str (x : Str) : TyD K (.str x) (.type "str")
  | lst (xs : List D) : TyD K (.lst xs) (.type "list")
  | tup (xs : List D) : TyD K (.tup xs) (.type "tuple")
  | ins {C : Addr} (h : ClsO K C) (ns : List Str) (ds : List D) : TyD K (.ins C ns ds) (.ref C)
theorem TyD.x {K : PySem.W.Frag} {M : Addr → Prop} {H : Hp} {d : D} {t : Value} {v : V} (h : TyD K d t) (r : Rep M H d v) : TyX K H v t := by
  cases h with
  | non => rw [show v = V.non from r]; exact .base .non
  | bl b => rw [show v = V.bl b from r]; exact .base (.bl b)
  | int i => rw [show v = V.int i from r]; exact .base (.int i)
  | str x => rw [show v = V.str x from r]; exact .base (.str x)
  | lst xs => obtain ⟨p, vs, rfl, _, h, _⟩ := r; exact .base (.lst h)
  | tup xs =>
    obtain ⟨p, vs, rfl, _, h, _⟩ := r
    rcases h with h | ⟨o, h⟩
    · exact .base (.tup h)
    · exact .fTuple h
  | ins c ns ds => obtain ⟨p, dx, vs, rfl, _, h, _⟩ := r; exact .base (.ins h c.cl c.ca c.cn c.ct c.cm)
section
variable {X : Cx} {a b c e o : Expr} {es : List Expr} {δ δ1 δ2 : TL.Env} {x y z d : D} {ds xs ys : List D} {ns : List Str} {pos p apos : Pos} {k : Nat} {nm fl : Str} {C f : Addr} {R : Spec} {bo : Bool}
theorem ca_isi {cv : V} {t u : Value} (hx : TyD X.K x t) (hc : ClsV cv u) (hk : PySem.W.kitOne X.K t u = some bo) : CaT (rIsi X.K) [x, .vl cv] (.bl bo) := fun M W H us Q g r q => by
  obtain ⟨v, w, e, h, h2⟩ := reps2 r
  exact ⟨v, cv, t, u, bo, by rw [e, show w = cv from h2], hc, hx.x h, hk, q _ H (fun _ _ e => e) rfl⟩
/-- a name of the module, of the built-ins, as a value -/
theorem tr_glob {v : V} {u : Value} (hm : X.mg nm = some u) (r : RelV v u) (hg : Gl X nm := by rfl) (hdb : (nm == ("__debug__" : Str)) = false := by decide) : TR X (.Name nm pos) δ (.vl v) δ := tr_c (pe_glob hg hm r hdb) fun _ _ => rfl
theorem tr_gint {i : Int} {t : Tok} (hm : X.mg nm = some (.int i t)) (hg : Gl X nm := by rfl) (hdb : (nm == ("__debug__" : Str)) = false := by decide) : TR X (.Name nm pos) δ (.int i) δ := tr_c (pe_glob (v := .int i) hg hm ⟨t, rfl⟩ hdb) fun _ _ => rfl
theorem tr_gstr {i : Str} {t : Tok} (hm : X.mg nm = some (.str i t)) (hg : Gl X nm := by rfl) (hdb : (nm == ("__debug__" : Str)) = false := by decide) : TR X (.Name nm pos) δ (.str i) δ := tr_c (pe_glob (v := .str i) hg hm ⟨t, rfl⟩ hdb) fun _ _ => rfl
theorem tr_blt {v : V} {u : Value} (hm : X.mg nm = none) (hv : bootBuiltins nm = some u) (r : RelV v u) (hg : Gl X nm := by rfl) (hn : nm ≠ "__name__" := by decide) (hdb : (nm == ("__debug__" : Str)) = false := by decide) : TR X (.Name nm pos) δ (.vl v) δ :=
  tr_c (pe_bltn hg hm hv r hn hdb) fun _ _ => rfl

/-! ### fields -/
theorem look_zip {M : Addr → Prop} {H : Hp} : ∀ {ns : List Str} {ds : List D} {vs : List V} {fl : Str} {d : D}, Reps M H ds vs → (ns.zip ds).lookup fl = some d → ∃ v, (ns.zip vs).lookup fl = some v ∧ Rep M H d v
  | [], _, _, _, _, _, h => by simp at h
  | _ :: _, [], _, _, _, _, h => by simp at h
  | n :: ns, d0 :: ds, _, fl, d, ⟨v, r, e, r1, r2⟩, h => by
    subst e
    rw [List.zip_cons_cons, List.lookup_cons] at h
    rw [List.zip_cons_cons, List.lookup_cons]
    by_cases q : (fl == n) = true
    · rw [q] at h ⊢
      cases h
      exact ⟨v, rfl, r1⟩
    · rw [Bool.not_eq_true] at q
      rw [q] at h ⊢
      exact look_zip r2 h
theorem look_zipN {M : Addr → Prop} {H : Hp} : ∀ {ns : List Str} {ds : List D} {vs : List V} {fl : Str}, Reps M H ds vs → (ns.zip ds).lookup fl = none → (ns.zip vs).lookup fl = none
  | [], _, _, _, _, _ => by simp
  | _ :: _, [], _, _, r, _ => by rw [show _ = [] from r]; simp
  | n :: ns, d0 :: ds, _, fl, ⟨v, r, e, r1, r2⟩, h => by
    subst e
    rw [List.zip_cons_cons, List.lookup_cons] at h
    rw [List.zip_cons_cons, List.lookup_cons]
    by_cases q : (fl == n) = true
    · rw [q] at h; cases h
    · rw [Bool.not_eq_true] at q
      rw [q] at h ⊢
      exact look_zipN r2 h
theorem tr_fld (c : Cls X.K C) (na : NoAttr X.K C fl) (he : TR X e δ (.ins C ns ds) δ1) (hl : (ns.zip ds).lookup fl = some d) (hb : attributeBase e fl X.env (eval e X.env) = eval e X.env := by rfl) : TR X (.Attribute e fl pos) δ d δ1 := fun M W σ H Q g E q =>
  wE_of (pe_fld pe_w hb) (he M W σ H _ g E fun v H1 s1 ⟨p, dx, vs, ev, m, hp, r⟩ => by
    obtain ⟨u, hu, ru⟩ := look_zip r hl
    exact ⟨p, C, dx, _, u, ev, hp, c, na, hu, q u H1 s1 ru⟩)
/-- self.f, self being made -/
theorem tr_fldO {n : Nat} (c : Cls X.K C) (na : NoAttr X.K C fl) (h : δ[n]? = some (some (.own (.ins C ns ds)))) (hl : (ns.zip ds).lookup fl = some d) (hN : X.N[n]? = some nm := by rfl)
    (hv : Vis X.env.scope nm := by first | exact Or.inl rfl | exact Or.inr (Or.inl rfl) | exact Or.inr (Or.inr rfl)) (hdb : (nm == ("__debug__" : Str)) = false := by decide) (hcd : (nm == ("__classdict__" : Str)) = false := by decide)
    (hb : attributeBase (.Name nm p) fl X.env (eval (.Name nm p) X.env) = eval (.Name nm p) X.env := by rfl) : TR X (.Attribute (.Name nm p) fl pos) δ d δ := fun M W σ H Q g E q => by
  obtain ⟨a, ho, hs, hw, ha, dx, vs, rfl, hle, r⟩ := E.getO h
  obtain ⟨u, hu, ru⟩ := look_zip r hl
  exact wE_of (pe_fld (pe_var hN hv hdb hcd) hb) ⟨_, hs, a, C, dx, _, u, rfl, ha, c, na, hu, q u H (Stp.refl g E) ru⟩
/-- a field more, or another value of one -/
def putN (fl : Str) (ns : List Str) : List Str := if fl ∈ ns then ns else ns ++ [fl]
def putD (fl : Str) (d : D) : List Str → List D → List D
  | [], _ => [d]
  | n :: ns, x :: ds => if n = fl then d :: ds else x :: putD fl d ns ds
  | _ :: _, [] => [d]
theorem putF_zip {M : Addr → Prop} {H : Hp} {fl : Str} {d : D} {v : V} (rd : Rep M H d v) : ∀ {ns : List Str} {ds : List D} {vs : List V}, ns.length = ds.length → Reps M H ds vs → ∃ vs', putF fl v (ns.zip vs) = (putN fl ns).zip vs' ∧ Reps M H (putD fl d ns ds) vs'
  | [], [], _, _, r => by
    have r : _ = [] := r
    subst r
    exact ⟨[v], by simp [putF, putN], v, [], rfl, rd, rfl⟩
  | [], _ :: _, _, hl, _ => by simp at hl
  | _ :: _, [], _, hl, _ => by simp at hl
  | n :: ns, x :: ds, _, hl, ⟨u, r, e, r1, r2⟩ => by
    subst e
    by_cases h : n = fl
    · subst h
      refine ⟨v :: r, ?_, ?_⟩
      · simp [putF, putN]
      · show Reps M H (if n = n then d :: ds else _) (v :: r)
        rw [if_pos rfl]
        exact ⟨v, r, rfl, rd, r2⟩
    · obtain ⟨vs', e1, e2⟩ := putF_zip rd (ns := ns) (ds := ds) (by simpa using hl) r2
      refine ⟨u :: vs', ?_, ?_⟩
      · have h' : ¬ fl = n := fun z => h z.symm
        show (if n = fl then _ else (n, u) :: putF fl v (ns.zip r)) = _
        rw [if_neg h, e1]
        unfold putN
        by_cases hm : fl ∈ ns
        · rw [if_pos hm, if_pos (List.mem_cons_of_mem _ hm)]; rfl
        · rw [if_neg hm, if_neg (by simp [h', hm])]; rfl
      · show Reps M H (if n = fl then _ else x :: putD fl d ns ds) (u :: vs')
        rw [if_neg h]
        exact ⟨u, vs', rfl, r1, e2⟩
theorem putN_len {fl : Str} {d : D} : ∀ {ns : List Str} {ds : List D}, ns.length = ds.length → (putN fl ns).length = (putD fl d ns ds).length
  | [], [], _ => by simp [putN, putD]
  | [], _ :: _, h => by simp at h
  | _ :: _, [], h => by simp at h
  | n :: ns, x :: ds, h => by
    have ih := putN_len (fl := fl) (d := d) (ns := ns) (ds := ds) (by simpa using h)
    by_cases hn : n = fl
    · subst hn; simp [putN, putD] at h ⊢; exact h
    · have h' : ¬ fl = n := fun z => hn z.symm
      unfold putN at ih ⊢
      show _ = (if n = fl then d :: ds else x :: putD fl d ns ds).length
      rw [if_neg hn]
      by_cases hm : fl ∈ ns
      · rw [if_pos hm] at ih; rw [if_pos (List.mem_cons_of_mem _ hm)]; simp [ih]
      · rw [if_neg hm] at ih; rw [if_neg (by simp [h', hm])]; simp at ih ⊢; omega
/-- self.f = e, self being made -/
theorem ts_fldO {n : Nat} {spos : Pos} (c : Cls X.K C) (na : NoAttr X.K C fl) (h : TR X e δ d δ1) (sh : Sh δ δ1) (ho : δ1[n]? = some (some (.own (.ins C ns ds)))) (hl : ns.length < 100) (hN : X.N[n]? = some nm := by rfl)
    (hv : Vis X.env.scope nm := by first | exact Or.inl rfl | exact Or.inr (Or.inl rfl) | exact Or.inr (Or.inr rfl)) (hdb : (nm == ("__debug__" : Str)) = false := by decide) (hcd : (nm == ("__classdict__" : Str)) = false := by decide)
    (hs : swapsWith e (some (.Attribute (.Name nm p) fl pos)) spos.line X.env = pure false := by rfl) : TS X (.Assign [.Attribute (.Name nm p) fl pos] e spos) δ (.nx (δ1.set n (some (.own (.ins C (putN fl ns) (putD fl d ns ds)))))) := fun M W σ H Dn g E q =>
  wS_of (ps_fld (pe_var hN hv hdb hcd) pe_w hs) (h M W σ H _ g E fun v H1 s1 r1 => by
    obtain ⟨a, ob, hp, hW, hh, dx, vs, rfl, hle, r⟩ := s1.env.getO ho
    refine ⟨_, hp, a, C, dx, _, rfl, hh, c, na, ?_, q M W σ _ ?_⟩
    · rw [List.length_zip]; omega
    obtain ⟨vs', e1, e2⟩ := putF_zip (fl := fl) r1 hle r
    rw [e1]
    refine ⟨Gr.refl, s1.xt.trans (Xt.put hW), s1.good.put, s1.env.put s1.good.wm ho hp hW ⟨dx, vs', rfl, putN_len hle, e2⟩, fun l zs z => ?_⟩
    obtain ⟨ys, z1⟩ := sh l zs z
    by_cases hl : n = l
    · subst hl
      exact ⟨_, by rw [List.getElem?_set_self (List.getElem?_eq_some_iff.mp ho).1], rfl⟩
    · exact ⟨ys, by rw [List.getElem?_set_ne hl]; exact z1, rfl⟩)

/-! ### properties that hand out a field -/
structure PropF (P : Program) (w : World) (K : PySem.W.Frag) (mg : Str → Option Value) (base : Heap) (C : Addr) (fl fi : Str) : Prop where
  ex : ∃ (p g : Addr) (fd : FuncData), PropOf K C fl p g ∧ FnOk P w K mg base CX0 1 g fd ["self"] (getSp C fi) ∧ Binds K fd ["self"] []
theorem tr_prop {fi : Str} (c : Cls X.K C) (pf : PropF X.prog X.w X.K X.mg X.base C fl fi) (hr : Room 2 X.A) (he : TR X e δ (.ins C ns ds) δ1) (hl : (ns.zip ds).lookup fi = some d) (hb : attributeBase e fl X.env (eval e X.env) = eval e X.env := by rfl) : TR X (.Attribute e fl pos) δ d δ1 := fun M W σ H Q g E q => by
  obtain ⟨p, gt, fd, hp, F, hB⟩ := pf.ex
  refine wE_of (pe_prop (dvs := []) (E := E0) pe_w c hp F hr hB .nil (fun _ _ _ _ _ _ _ z => z.elim) hb) (he M W σ H _ g E fun v H1 s1 ⟨p, dx, vs, ev, m, hp, r⟩ => ?_)
  obtain ⟨u, hu, ru⟩ := look_zip r hl
  exact ⟨p, dx, _, ev, hp, p, dx, _, u, rfl, hp, hu, q u H1 s1 ru⟩

/-! ### C(e, ..) -/
structure MkG (P : Program) (w : World) (K : PySem.W.Frag) (mg : Str → Option Value) (base : Heap) (x : Str) (C : Addr) (k : Nat) (ks : List Str) (R : Spec) : Prop where
  ex : ∃ f : Addr, Mk K C f ∧ FnG P w K mg base k f ks R ∧ mg x = some (.ref C)
theorem made_ok {pins : List (Addr × Obj)} {σ : L2.St} {H : Hp} {s : Shared} {Q : VK} {us ws : List Value} {vs zs : List V} {ks : List Str} (Mx : Mk X.K C f) (F : FnG X.prog X.w X.K X.mg X.base k f ks R) (hr : Room (k + 1) X.A) (gd : X.A.guards = some []) (I : Inv X pins σ H s) (rv : Vals vs us) (rz : Vals zs ws) (lz : zs.length = ks.length)
    (h : ∀ x dx, H x = none → H dx = none → dx ≠ x → spT R (V.ref x :: (vs ++ zs)) (upd (upd H dx (.own x)) x (.ins C dx [])) (fun v H2 => v = .non ∧ Q (.ref x) H2) E0) :
    wpAny (model X.prog X.w) X.A (call (.ref C) us (ks.zip ws)) (EP X pins σ Q) X.xe s := by
  have hq := h (s.heap.objs.size + 1) s.heap.objs.size (I.hok.fresh (Nat.le_succ _)) (I.hok.fresh (Nat.le_refl _)) (Nat.ne_of_lt (Nat.lt_succ_self _))
  have I2 := Inv.made (C := C) I
  have gd2 : (X.A.under (.builtin "type.__call__" ⟨.ref C :: us, ks.zip ws⟩)).guards = some [] := by
    first | exact gd | (simpa [Around.under, Code.guards, Code.isGuard, pushGuards, guardIds] using gd)
  refine wpAny_call (make_map (f := f) I.kIn Mx.makes Mx.init (beq_iff_eq.mp Mx.fn) (codeAny_mono (F.run _ X.stack _ _ (Value.ref (s.heap.objs.size + 1) :: us) ws (V.ref (s.heap.objs.size + 1) :: vs) zs _ (hr.make C us (ks.zip ws)) gd2 (I2.env0.make C us (ks.zip ws)) (.cons rfl rv) rz lz hq) fun r s' hq' => ?_))
  cases r with
  | error e => exact False.elim hq'
  | ok fl =>
    cases fl with
    | ret u =>
      obtain ⟨v, H', I3, rv', ev, q3⟩ := I2.after hq'
      subst ev
      exact ⟨rv', ⟨V.ref (s.heap.objs.size + 1), H', I3, rfl, q3⟩⟩
    | next => exact False.elim hq'
    | brk => exact False.elim hq'
    | cont => exact False.elim hq'
/-- what a new instance is, over trees -/
theorem make_tree {M W : Addr → Prop} {σ : L2.St} {H H1 : Hp} {Q : VK} {vs : List V} (g : Good M W H) (s1 : Stp M W σ δ1 H H1) (r1 : Reps M H1 ds vs) (hR : R (.own (.ins C [] []) :: ds.map S.im) (.im .non) (.own (.ins C ns ys) :: ds.map S.im)) (q : ∀ v H', Stp M W σ δ1 H H' → Rep M H' (.ins C ns ys) v → Q v H')
    {x dx : Addr} (hx : H1 x = none) (hd : H1 dx = none) (hne : dx ≠ x) : spT R (V.ref x :: vs) (upd (upd H1 dx (.own x)) x (.ins C dx [])) (fun v H2 => v = .non ∧ Q (.ref x) H2) E0 := by
  have hx1 : (upd H1 dx (.own x)) x = none := by rw [upd_ne (fun z => hne z.symm)]; exact hx
  have ex1 : ∀ a o, H1 a = some o → (upd (upd H1 dx (.own x)) x (.ins C dx [])) a = some o := fun a o h => ext_new hx1 a o (ext_new hd a o h)
  have nM : ¬ M x := s1.good.notM hx
  have nW : ¬ W x := fun w => nM (g.wm x w)
  have gr : ∀ a, Mp M x a → M a ∨ H1 a = none := mp_gr hx
  refine ⟨Mp M x, fun a => a = x, _, _, _, hR, ⟨fun a z => .inr z, fun a m z => ?_⟩, envR_own (xs := .ins C [] []) upd_same ⟨dx, [], rfl, rfl, rfl⟩ (Reps.ex (Xt.of ex1) ds (Reps.gr gr ds r1)), fun v H2 xt g2 E2 rr => ⟨rr, ?_⟩⟩
  · rcases m with m | m
    · have := (s1.good.ext ex1).mt a m
      exact this z
    · rw [m, upd_same] at z; cases z
  obtain ⟨u, hu, p2, h2, rfl, _, hp2, dx2, vs2, rfl, hle2, r2⟩ := E2.at_ 0 (.own (.ins C ns ys)) rfl
  have : p2 = x := by simpa using hu.symm
  subst this
  have fx : ∀ a o, H1 a = some o → H2 a = some o := fun a o h => xt a o (fun z => by rw [z, hx] at h; cases h) (ex1 a o h)
  exact q _ H2 (s1.ext fx) ⟨p2, dx2, vs2, rfl, nM, hp2, Reps.anti (fun _ m => .inl m) ys r2⟩
theorem tr_make (G : MkG X.prog X.w X.K X.mg X.base nm C k [] R) (hr : Room (k + 1) X.A) (gd : X.A.guards = some []) (ha : TA X (e :: es) δ ds δ1) (hR : R (.own (.ins C [] []) :: ds.map S.im) (.im .non) (.own (.ins C ns ys) :: ds.map S.im)) (hg : Gl X nm := by rfl)
    (hdb : (nm == ("__debug__" : Str)) = false := by decide) (he : starEach (e :: es) X.env = (false, eval e X.env) :: starEach es X.env := by rfl) (hpl : (backTo pos (starEach es X.env)).any (·.1) = false := by rfl) :
    TR X (.Call (.Name nm p) (e :: es) [] pos) δ (.ins C ns ys) δ1 := fun M W σ H Q g E q => by
  obtain ⟨f, Mx, F, hm⟩ := G.ex
  refine wE_of (t := fun σ H Q => wA X (e :: es) σ H fun vs H1 => ∀ x dx, H1 x = none → H1 dx = none → dx ≠ x → spT R (V.ref x :: vs) (upd (upd H1 dx (.own x)) x (.ins C dx [])) (fun v H2 => v = .non ∧ Q (.ref x) H2) E0) ⟨fun pins s σ H Q I h => ?_⟩
    (ha M W σ H _ g E fun vs H1 s1 r1 x dx hx hd hne => make_tree g s1 r1 hR q hx hd hne)
  refine wpAny_Call_Name_kw (ld_glob I hg hm ?_ hdb)
  refine PySem.W.callWith_K (h₀ := X.base) I.ok.mod.kin Mx.kp (thn (h.run pos pins s I) fun us s1 ⟨vs, H1, I1, rv, q⟩ => ⟨I1.kIn, ?_⟩) he hpl
  exact made_ok (ws := []) (zs := []) Mx F hr gd I1 rv .nil rfl (by simpa using q)

/-! ### own operators -/
structure OwnF (P : Program) (w : World) (K : PySem.W.Frag) (mg : Str → Option Value) (base : Heap) (C : Addr) (nm : Str) (k : Nat) (R : Spec) : Prop where
  ex : ∃ f : Addr, PySem.W.findIn K (.ref C) nm = some (some (.ref f)) ∧ PySem.W.isFn K (.ref f) = true ∧ FnG P w K mg base k f [] R
/-- the answer of a call over trees -/
theorem sp_args {M W : Addr → Prop} {H : Hp} {us : List V} {Q : VK} (g : Good M W H) (r : Reps M H ds us) (hR : R (ds.map S.im) (.im d) (ds.map S.im)) (k : ∀ w H', (∀ a o, H a = some o → H' a = some o) → Rep M H' d w → Q w H') : spT R us H Q E0 :=
  ⟨M, fun _ => False, _, _, _, hR, good0 g, envR_args r, fun v H2 xt g2 _ rr => k v H2 (fun a o h => xt a o (fun z => z) h) rr⟩
def rOwn2 (C : Addr) (ty : V → Hp → Prop) (R : Spec) : R2 := fun x y H Q => ∃ a dx fs, x = .ref a ∧ H a = some (.ins C dx fs) ∧ ty y H ∧ spT R [x, y] H Q E0
/-- a op b, both of the class C -/
theorem op_ownC {op : Operator} (c : ClsO X.K C) (G : OwnF X.prog X.w X.K X.mg X.base C (PySem.dunder op.info.2) k R) (hr : Room k X.A) (gd : X.A.guards = some []) :
    OpR X (binaryOp op) (rOwn2 C (fun y H => ∃ b dy fs, y = .ref b ∧ H b = some (.ins C dy fs)) R) := by
  intro pins s σ H x y v u Q I rx ry h
  obtain ⟨a, dx, fs, rfl, ha, ⟨b, dy, fs', rfl, hb⟩, hsp⟩ := h
  cases rx
  cases ry
  obtain ⟨f, hs, hf, F⟩ := G.ex
  obtain ⟨mA, J, _⟩ := ins_get I.hok ha
  obtain ⟨mB, J', _⟩ := ins_get I.hok hb
  obtain ⟨od, J, _⟩ := J.look
  obtain ⟨od', J', _⟩ := J'.look
  obtain ⟨m, hF⟩ := I.fr
  refine PySem.W.binop_K hF I.ok.mod.kin J J'.type c.sf hs hf (wpAny_mono (runG (ks := []) (ws := []) (zs := []) (vs := [V.ref a, V.ref b]) F hr gd I (.cons rfl (.cons rfl .nil)) .nil rfl hsp) (fun r s' hq => ?_) fun _ _ z => z)
  exact SlX.cmpback (z := hq.choose) hq.choose_spec.choose_spec.2.1 hq
/-- a op b, b an int -/
theorem op_ownI {op : Operator} {fo ro rc : Option Value} (c : ClsO X.K C) (G : OwnF X.prog X.w X.K X.mg X.base C (PySem.dunder op.info.2) k R) (hr : Room k X.A) (gd : X.A.guards = some [])
    (hrr : PySem.W.findIn X.K (.ref C) (dunderR op.info.2) = some none) (h1 : PySem.W.findIn X.K (.type "int") (PySem.dunder op.info.2) = some fo) (h2 : PySem.W.findIn X.K (.type "int") (dunderR op.info.2) = some ro) (hsub : PySem.W.subIn X.K (.type "int") (.ref C) = some false) :
    OpR X (binaryOp op) (rOwn2 C (fun y _ => ∃ i, y = .int i) R) := by
  intro pins s σ H x y v u Q I rx ry h
  obtain ⟨a, dx, fs, rfl, ha, ⟨i, rfl⟩, hsp⟩ := h
  cases rx
  obtain ⟨t, rfl⟩ := ry
  obtain ⟨f, hs, hf, F⟩ := G.ex
  obtain ⟨mA, J, _⟩ := ins_get I.hok ha
  obtain ⟨od, J, _⟩ := J.look
  obtain ⟨m, hF⟩ := I.fr
  refine PySem.W.ksp_binT hF I.ok.mod.kin J rfl c.sf hs hf hrr (.inl rfl) h1 h2 hsub (wpAny_mono (runG (ks := []) (ws := []) (zs := []) (vs := [V.ref a, V.int i]) F hr gd I (.cons rfl (.cons ⟨t, rfl⟩ .nil)) .nil rfl hsp) (fun r s' hq => ?_) fun _ _ z => z)
  exact SlX.cmpback (z := hq.choose) hq.choose_spec.choose_spec.2.1 hq
theorem ot_ownC {ns' : List Str} (hR : R [.im (.ins C ns xs), .im (.ins C ns' ys)] (.im d) [.im (.ins C ns xs), .im (.ins C ns' ys)]) : OpT (rOwn2 C (fun y H => ∃ b dy fs, y = .ref b ∧ H b = some (.ins C dy fs)) R) (.ins C ns xs) (.ins C ns' ys) d := fun M W H u v Q g ru rv k => by
  obtain ⟨a, dx, vs, ea, ma, ha, ra⟩ := id ru
  obtain ⟨b, dy, vs', eb, mb, hb, rb⟩ := id rv
  exact ⟨a, dx, _, ea, ha, ⟨b, dy, _, eb, hb⟩, sp_args (ds := [_, _]) g ⟨u, [v], rfl, ru, v, [], rfl, rv, rfl⟩ hR k⟩
theorem ot_ownI {i : Int} (hR : R [.im (.ins C ns xs), .im (.int i)] (.im d) [.im (.ins C ns xs), .im (.int i)]) : OpT (rOwn2 C (fun y _ => ∃ i, y = .int i) R) (.ins C ns xs) (.int i) d := fun M W H u v Q g ru rv k => by
  obtain ⟨a, dx, vs, ea, ma, ha, ra⟩ := id ru
  exact ⟨a, dx, _, ea, ha, ⟨i, rv⟩, sp_args (ds := [_, _]) g ⟨u, [v], rfl, ru, v, [], rfl, rv, rfl⟩ hR k⟩
/-- -a -/
theorem un_own (G : OwnF X.prog X.w X.K X.mg X.base C "__neg__" k R) (hr : Room k X.A) (gd : X.A.guards = some []) : UnR X (unaryOp .USub) (fun x H Q => ∃ a dx fs, x = .ref a ∧ H a = some (.ins C dx fs) ∧ spT R [x] H Q E0) := by
  intro pins s σ H x v Q I rx h
  obtain ⟨a, dx, fs, rfl, ha, hsp⟩ := h
  cases rx
  obtain ⟨f, hs, hf, F⟩ := G.ex
  obtain ⟨mA, J, _⟩ := ins_get I.hok ha
  obtain ⟨od, J, _⟩ := J.look
  obtain ⟨m, hF⟩ := I.fr
  exact PySem.W.ksp_neg hF I.ok.mod.kin J hs hf (runG (ks := []) (ws := []) (zs := []) (vs := [V.ref a]) F hr gd I (.cons rfl .nil) .nil rfl hsp)
theorem ut_own (hR : R [.im (.ins C ns xs)] (.im d) [.im (.ins C ns xs)]) : UnT (fun x H Q => ∃ a dx fs, x = .ref a ∧ H a = some (.ins C dx fs) ∧ spT R [x] H Q E0) (.ins C ns xs) d := fun M W H u Q g ru k => by
  obtain ⟨a, dx, vs, ea, ma, ha, ra⟩ := id ru
  exact ⟨a, dx, _, ea, ha, sp_args (ds := [_]) g ⟨u, [], rfl, ru, rfl⟩ hR k⟩

/-! == and != by an own __eq__; the right one has any class that does not come first -/
/-- what stands right of ==: its class is told -/
inductive TyR (K : PySem.W.Frag) (H : Hp) : V → Value → Prop where
  | mk {y : V} {t : Value} (h : TyX K H y t) : TyR K H y t
theorem looks_ty {pins : List (Addr × Obj)} {σ : L2.St} {H : Hp} {s : Shared} {y : V} {u t : Value} (I : Inv X pins σ H s) (ry : RelV y u) (h : TyX X.K H y t) : PySem.W.Looks (model X.prog X.w) s.heap (typeOf u) t := by
  obtain ⟨P, kx, hp, _⟩ := kit_of I ry h
  exact kx.ty _ _ I.kIn hp
def rOwnE (K : PySem.W.Frag) (C : Addr) (neg : Bool) (R : Spec) : R2 := fun x y H Q => ∃ a dx fs t, x = .ref a ∧ H a = some (.ins C dx fs) ∧ TyX K H y t ∧ PySem.W.notFirst K C t = true ∧ spT R [x, y] H (fun v H' => ∃ k, v = .bl k ∧ Q (.bl (if neg then !k else k)) H') E0
theorem op_ownEq (G : OwnF X.prog X.w X.K X.mg X.base C "__eq__" k R) (hr : Room k X.A) (gd : X.A.guards = some []) : OpR X (compareOp .Eq) (rOwnE X.K C false R) := by
  intro pins s σ H x y v u Q I rx ry h
  obtain ⟨a, dx, fs, t, rfl, ha, hy, hn, hsp⟩ := h
  cases rx
  obtain ⟨f, hs, hf, F⟩ := G.ex
  obtain ⟨mA, J, _⟩ := ins_get I.hok ha
  obtain ⟨od, J, _⟩ := J.look
  obtain ⟨m, hF⟩ := I.fr
  refine PySem.W.cmp_K (op := .Eq) hr.units0 hF I.ok.mod.kin J (looks_ty I ry hy) hn hs hf (wpAny_mono (runG (ks := []) (ws := []) (zs := []) (vs := [V.ref a, y]) F hr gd I (.cons rfl (.cons ry .nil)) .nil rfl hsp) (fun r s' hq => ?_) fun _ _ z => z)
  obtain ⟨z, H', I', rz, kk, ez, hq⟩ := hq
  subst ez
  cases rz
  exact ⟨.bl kk, H', I', rfl, hq⟩
theorem op_ownNe (c : ClsO X.K C) (hne : PySem.W.findIn X.K (.ref C) "__ne__" = some (some (.builtin "object.__ne__"))) (G : OwnF X.prog X.w X.K X.mg X.base C "__eq__" k R) (hr : Room (k + 1) X.A) (gd : X.A.guards = some []) : OpR X (compareOp .NotEq) (rOwnE X.K C true R) := by
  intro pins s σ H x y v u Q I rx ry h
  obtain ⟨a, dx, fs, t, rfl, ha, hy, hn, hsp⟩ := h
  cases rx
  obtain ⟨f, hs, hf, F⟩ := G.ex
  obtain ⟨mA, J, _⟩ := ins_get I.hok ha
  obtain ⟨od, J, _⟩ := J.look
  obtain ⟨m, hF⟩ := I.fr
  refine ne_own (by have := hr.units; omega) hF I.ok.mod.kin J (looks_ty I ry hy) hn c.cm hne hs hf (wpAny_mono (runG1 (vs := [V.ref a, y]) F hr gd I (.cons rfl (.cons ry .nil)) hsp) (fun r s' hq => ?_) fun _ _ z => z)
  obtain ⟨z, H', I', rz, kk, ez, hq⟩ := hq
  subst ez
  cases rz
  exact ⟨kk, rfl, .bl (!kk), H', I', rfl, hq⟩
theorem ot_ownE {neg kk : Bool} {t : Value} (hy : TyD X.K y t) (hn : PySem.W.notFirst X.K C t = true) (hR : R [.im (.ins C ns xs), .im y] (.im (.bl kk)) [.im (.ins C ns xs), .im y]) : OpT (rOwnE X.K C neg R) (.ins C ns xs) y (.bl (if neg then !kk else kk)) := fun M W H u v Q g ru rv k => by
  obtain ⟨a, dx, vs, ea, ma, ha, ra⟩ := id ru
  refine ⟨a, dx, _, t, ea, ha, hy.x rv, hn, sp_args (ds := [_, _]) (d := .bl kk) g ⟨u, [v], rfl, ru, v, [], rfl, rv, rfl⟩ hR fun w H' ex rw' => ⟨kk, rw', k _ H' ex rfl⟩⟩
end
end TL
set_option Elab.async false
set_option linter.all false
set_option maxRecDepth 100000
set_option autoImplicit false
set_option maxHeartbeats 4000000
/-! TL10: defaults, keywords, methods. -/
namespace TL
open PySem PyProof.Rows L2

section
variable {M W : Addr → Prop} {H : Hp}
theorem env_app {vs us : List V} {ss : List S} {dd : List D} (E : EnvR M W H (vs.map some) (ss.map some)) (r : Reps M H dd us) : EnvR M W H ((vs ++ us).map some) ((ss ++ dd.map S.im).map some) := by
  have hvl : vs.length = ss.length := by have := E.len; simpa using this
  have low : ∀ (i : Nat) (s : S), (ss ++ dd.map S.im)[i]? = some s → i < ss.length → ss[i]? = some s := fun i s h hi => by rw [List.getElem?_append_left hi] at h; exact h
  have high : ∀ (i : Nat) (s : S), (ss ++ dd.map S.im)[i]? = some s → ¬ i < ss.length → ∃ d, dd[i - ss.length]? = some d ∧ s = .im d := fun i s h hi => by
    rw [List.getElem?_append_right (by omega), List.getElem?_map] at h
    cases hd : dd[i - ss.length]? with
    | none => rw [hd] at h; cases h
    | some d => rw [hd] at h; cases h; exact ⟨d, rfl, rfl⟩
  have own : ∀ (i : Nat) (o : OC), ((ss ++ dd.map S.im).map some)[i]? = some (some (.own o)) → i < ss.length ∧ (ss.map some)[i]? = some (some (.own o)) := fun i o h => by
    rw [get_map_some] at h
    by_cases hi : i < ss.length
    · exact ⟨hi, get_map_some.mpr (low i _ h hi)⟩
    · obtain ⟨d, _, e⟩ := high i _ h hi
      cases e
  refine ⟨by simp [hvl, r.len], fun i s h => ?_, fun i j p xs ys h1 h2 h3 h4 => ?_⟩
  · rw [get_map_some] at h
    by_cases hi : i < ss.length
    · obtain ⟨v, a, b⟩ := E.at_ i s (get_map_some.mpr (low i s h hi))
      rw [get_map_some] at a
      exact ⟨v, get_map_some.mpr (by rw [List.getElem?_append_left (by omega)]; exact a), b⟩
    · obtain ⟨d, hd, rfl⟩ := high i s h hi
      obtain ⟨v, a, b⟩ := r.get hd
      exact ⟨v, get_map_some.mpr (by rw [List.getElem?_append_right (by omega), hvl]; exact a), b⟩
  · obtain ⟨l1, q1⟩ := own i xs h1
    obtain ⟨l2, q2⟩ := own j ys h2
    rw [get_map_some, List.getElem?_append_left (by omega)] at h3 h4
    exact E.ap i j p xs ys q1 q2 (get_map_some.mpr h3) (get_map_some.mpr h4)
theorem env_unapp {vs us : List V} {ss : List S} {dd : List D} (hl : vs.length = ss.length) (E : EnvR M W H ((vs ++ us).map some) ((ss ++ dd.map S.im).map some)) : EnvR M W H (vs.map some) (ss.map some) := by
  have up : ∀ (i : Nat) (s : S), (ss.map some)[i]? = some (some s) → i < ss.length ∧ ((ss ++ dd.map S.im).map some)[i]? = some (some s) := fun i s h => by
    rw [get_map_some] at h
    have hi := (List.getElem?_eq_some_iff.mp h).1
    exact ⟨hi, get_map_some.mpr (by rw [List.getElem?_append_left hi]; exact h)⟩
  refine ⟨by simp [hl], fun i s h => ?_, fun i j p xs ys h1 h2 h3 h4 => ?_⟩
  · obtain ⟨hi, h'⟩ := up i s h
    obtain ⟨v, a, b⟩ := E.at_ i s h'
    rw [get_map_some, List.getElem?_append_left (by omega)] at a
    exact ⟨v, get_map_some.mpr a, b⟩
  · obtain ⟨l1, q1⟩ := up i _ h1
    obtain ⟨l2, q2⟩ := up j _ h2
    rw [get_map_some] at h3 h4
    exact E.ap i j p xs ys q1 q2 (get_map_some.mpr (by rw [List.getElem?_append_left (by omega)]; exact h3)) (get_map_some.mpr (by rw [List.getElem?_append_left (by omega)]; exact h4))
end
section
variable {P : Program} {w : World} {K : PySem.W.Frag} {mg : Str → Option Value} {base : Heap} {k : Nat} {f : Addr} {fd : FuncData} {ps : List Str} {R : Spec}
/-- the promise where the last parameters have their defaults -/
def RDef (n : Nat) (dd : List D) (R : Spec) : Spec := fun ss r ss' => ss.length = n ∧ ss'.length = n ∧ R (ss ++ dd.map S.im) r (ss' ++ dd.map S.im)
theorem FnK.posD {n : Nat} {dd : List D} {dvs : List V} {ds : List Value} (F : FnK P w K mg base k f fd ps R) (b : Binds K fd ps ds) (hd : Vals dvs ds) (hdd : ∀ M H, Reps M H dd dvs) (hn : n + dd.length = ps.length) : FnG P w K mg base k f [] (RDef n dd R) := by
  refine ⟨fun A outer s H us ws vs zs Q hr hg e0 rv rz lz h => ?_⟩
  have : zs = [] := List.length_eq_zero_iff.mp lz
  subst this
  rw [List.append_nil] at h
  obtain ⟨M, W, ss, ss', r, ⟨l1, l2, hR⟩, g, Ev, q⟩ := h
  have hk : K.In s.heap := e0.mod.kin.keeps fun b o e => (e0.bs b o e).1
  have hvl : vs.length = n := by have := Ev.len; simp at this; omega
  have hdl : dvs.length = dd.length := (hdd M H).len
  have hb := b s us hk (by rw [List.length_append, ← rv.length, ← hd.length]; omega)
  refine F.run A outer s H ⟨us, []⟩ (us ++ ds) (vs ++ dvs) Q hr hg e0 hb (rv.append hd) (by rw [List.length_append]; omega) ⟨M, W, _, _, r, hR, g, env_app Ev (hdd M H), fun v H' xt g' E' rr => q v H' xt g' (env_unapp (by omega) E') rr⟩
/-- keywords in the parameters' order -/
theorem FnK.kwO {n : Nat} {ks : List Str} (F : FnK P w K mg base k f fd ps R) (hl : ∀ ss r ss', R ss r ss' → ss.length = ps.length) (hn : n + ks.length = ps.length)
    (hb : ∀ (s : Shared) (us ws : List Value), K.In s.heap → us.length = n → ws.length = ks.length → BindsTo s fd ⟨us, ks.zip ws⟩ (ps.zip (us ++ ws))) : FnG P w K mg base k f ks R := by
  refine ⟨fun A outer s H us ws vs zs Q hr hg e0 rv rz lz h => ?_⟩
  have hk : K.In s.heap := e0.mod.kin.keeps fun b o e => (e0.bs b o e).1
  have hvl : (vs ++ zs).length = ps.length := by
    obtain ⟨M, W, ss, ss', r, hR, g, Ev, q⟩ := id h
    have h1 := hl _ _ _ hR
    have h2 := Ev.len
    simp at h2 ⊢
    omega
  rw [List.length_append] at hvl
  exact F.run A outer s H ⟨us, ks.zip ws⟩ (us ++ ws) (vs ++ zs) Q hr hg e0 (hb s us ws hk (by rw [← rv.length]; omega) (by rw [← rz.length]; exact lz)) (rv.append rz) (by rw [List.length_append]; exact hvl) h
end

/-! ### keywords, methods -/
structure WK (X : Cx) (kws : List Keyword) (σ : L2.St) (H : Hp) (Q : List V → Hp → Prop) : Prop where
  run : ∀ (pos : Pos) (pins : List (Addr × Obj)) (s : Shared), Inv X pins σ H s → wpAny (model X.prog X.w) X.A (evalAll ((backToKw pos (keywordEach kws X.env)).map (·.2))) (AP X pins σ Q) X.xe s
abbrev wK (X : Cx) (kws : List Keyword) : L2.TA := fun σ H Q => WK X kws σ H Q
def TK (X : Cx) (kws : List Keyword) (δ : TL.Env) (ds : List D) (δ' : TL.Env) : Prop := ∀ (M W : Addr → Prop) (σ : L2.St) (H : Hp) (Q : List V → Hp → Prop), Good M W H → EnvR M W H σ δ →
  (∀ vs H', Stp M W σ δ' H H' → Reps M H' ds vs → Q vs H') → wK X kws σ H Q
section
variable {X : Cx} {a b c e o : Expr} {es : List Expr} {kws : List Keyword} {δ δ1 δ2 : TL.Env} {x y z d : D} {ds ds2 xs ys : List D} {ns : List Str} {pos p apos kpos : Pos} {k : Nat} {nm m : Str} {C f : Addr} {R : Spec} {kn : Option Str}
theorem pk_w : PK X kws (wK X kws) := ⟨fun pos pins s _ _ _ I h => h.run pos pins s I⟩
theorem wK_of {t : L2.TA} (h : PK X kws t) {σ : L2.St} {H : Hp} {Q : List V → Hp → Prop} (q : t σ H Q) : wK X kws σ H Q := ⟨fun pos pins s I => h.run pos pins s σ H Q I q⟩
theorem tk_nil : TK X [] δ [] δ := fun M W σ H Q g E k => wK_of pk_nil (k [] H (Stp.refl g E) rfl)
theorem tk_cons (ha : TR X e δ x δ1) (hr : TK X kws δ1 ds δ2) : TK X (⟨kn, e, kpos⟩ :: kws) δ (x :: ds) δ2 := fun M W σ H Q g E k =>
  wK_of (pk_cons pe_w pk_w) (ha M W σ H _ g E fun u H1 s1 r1 => hr M W σ H1 _ s1.good s1.env fun vs H2 s2 r2 => k (u :: vs) H2 (s1.trans s2) ⟨u, vs, rfl, s2.rep r1, r2⟩)
/-- C(k = v, ..) -/
theorem tr_makeK {ks : List Str} (G : MkG X.prog X.w X.K X.mg X.base nm C k ks R) (hr : Room (k + 1) X.A) (gd : X.A.guards = some []) (ha : TK X kws δ ds δ1) (hR : R (.own (.ins C [] []) :: ds.map S.im) (.im .non) (.own (.ins C ns ys) :: ds.map S.im)) (hlk : ds.length = ks.length) (hg : Gl X nm := by rfl)
    (hall : (backToKw pos (keywordEach kws X.env)).all (·.1.isSome) = true := by rfl) (hks : (backToKw pos (keywordEach kws X.env)).filterMap (·.1) = ks := by rfl)
    (hdb : (nm == ("__debug__" : Str)) = false := by decide) (hpl : ((backTo pos (starEach [] X.env)).any (·.1) || (backToKw pos (keywordEach kws X.env)).any (·.1.isNone)) = false := by rfl) :
    TR X (.Call (.Name nm p) [] kws pos) δ (.ins C ns ys) δ1 := fun M W σ H Q g E q => by
  obtain ⟨f, Mx, F, hm⟩ := G.ex
  refine wE_of (t := fun σ H Q => wK X kws σ H fun vs H1 => vs.length = ks.length ∧ ∀ x dx, H1 x = none → H1 dx = none → dx ≠ x → spT R (V.ref x :: vs) (upd (upd H1 dx (.own x)) x (.ins C dx [])) (fun v H2 => v = .non ∧ Q (.ref x) H2) E0) ⟨fun pins s σ H Q I h => ?_⟩
    (ha M W σ H _ g E fun vs H1 s1 r1 => ⟨by rw [r1.len]; exact hlk, fun x dx hx hd hne => make_tree g s1 r1 hR q hx hd hne⟩)
  refine wpAny_Call_Name_kw (ld_glob I hg hm ?_ hdb)
  refine PySem.W.callWith_KW0 (h₀ := X.base) (first := []) I.ok.mod.kin Mx.kp hall (thn (h.run pos pins s I) fun us s1 ⟨vs, H1, I1, rv, lz, q⟩ => ⟨I1.kIn, ?_⟩) hpl
  rw [hks]
  exact made_ok (us := []) (vs := []) Mx F hr gd I1 .nil rv lz (by simpa using q)
/-! o.m(e, ..), o.m(k = v, ..) -/
structure MethF (P : Program) (w : World) (K : PySem.W.Frag) (mg : Str → Option Value) (base : Heap) (C : Addr) (m : Str) (k : Nat) (ks : List Str) (R : Spec) : Prop where
  ex : ∃ f : Addr, Meth K C m f ∧ FnG P w K mg base k f ks R
theorem tr_meth {pl : Sem Bool} (c : Cls X.K C) (G : MethF X.prog X.w X.K X.mg X.base C m k [] R) (hr : Room k X.A) (gd : X.A.guards = some []) (ho : TR X o δ (.ins C ns xs) δ1) (hno : (ns.zip xs).lookup m = none) (ha : TA X (e :: es) δ1 ds δ2)
    (hR : R (.im (.ins C ns xs) :: ds.map S.im) (.im d) (.im (.ins C ns xs) :: ds.map S.im))
    (hst : starEach (e :: es) X.env = (false, eval e X.env) :: starEach es X.env := by rfl) (hpl : (backTo pos (starEach es X.env)).any (·.1) = false := by rfl)
    (ht : eval (.Call (.Attribute o m apos) (e :: es) [] pos) X.env = (do
      let ov ← eval o X.env
      standAt apos.atName
      let (f, first) ← holding [ov] (getMethod ov m pl)
      callWith pos f first (backTo pos (starEach (e :: es) X.env)) (backToKw pos (keywordEach [] X.env))) := by rfl) :
    TR X (.Call (.Attribute o m apos) (e :: es) [] pos) δ d δ2 := fun M W σ H Q g E q => by
  obtain ⟨f, hm, F⟩ := G.ex
  refine wE_of (t := fun σ H Q => wE X o σ H fun v H1 => ∃ a dx fs, v = .ref a ∧ H1 a = some (.ins C dx fs) ∧ fs.lookup m = none ∧ wA X (e :: es) σ H1 fun vs H2 => spT R (V.ref a :: vs) H2 Q E0) ⟨fun pins s σ H Q I h => ?_⟩
    (ho M W σ H _ g E fun v H1 s1 r1 => by
      obtain ⟨a, dx, vs, ev, ma, hp, r⟩ := id r1
      refine ⟨a, dx, _, ev, hp, look_zipN r hno, ha M W σ H1 _ s1.good s1.env fun us H2 s2 r2 => ?_⟩
      exact sp_args (ds := _ :: ds) s2.good ⟨_, us, rfl, by rw [← ev]; exact s2.rep r1, r2⟩ hR fun w' H3 ex rw' => q w' H3 ((s1.trans s2).ext ex) rw')
  refine PySem.W.methodCall_KW (pl := pl) (thn (h.run pins s I) fun u s1 ⟨x, H1, I1, rx, a, dx, fs, ex, ea, l, q⟩ => ?_) ht
  subst ex
  obtain rfl : u = Value.ref a := rx
  refine getmeth_ok I1 ea c hm l ?_
  refine PySem.W.callWith_K (first := [.ref a]) (h₀ := X.base) I.ok.mod.kin hm.kp (thn (q.run pos pins s1 I1) fun us s2 ⟨vs, H2, I2, r, q2⟩ => ⟨I2.kIn, ?_⟩) hst hpl
  exact runG (ks := []) (ws := []) (zs := []) (us := .ref a :: us) (vs := .ref a :: vs) F hr gd I2 (.cons rfl r) .nil rfl (by simpa using q2)
theorem tr_methK {pl : Sem Bool} {ks : List Str} (c : Cls X.K C) (G : MethF X.prog X.w X.K X.mg X.base C m k ks R) (hr : Room k X.A) (gd : X.A.guards = some []) (ho : TR X o δ (.ins C ns xs) δ1) (hno : (ns.zip xs).lookup m = none) (ha : TK X kws δ1 ds δ2) (hlk : ds.length = ks.length)
    (hR : R (.im (.ins C ns xs) :: ds.map S.im) (.im d) (.im (.ins C ns xs) :: ds.map S.im))
    (hall : (backToKw pos (keywordEach kws X.env)).all (·.1.isSome) = true := by rfl) (hks : (backToKw pos (keywordEach kws X.env)).filterMap (·.1) = ks := by rfl)
    (hpl : ((backTo pos (starEach [] X.env)).any (·.1) || (backToKw pos (keywordEach kws X.env)).any (·.1.isNone)) = false := by rfl)
    (ht : eval (.Call (.Attribute o m apos) [] kws pos) X.env = (do
      let ov ← eval o X.env
      standAt apos.atName
      let (f, first) ← holding [ov] (getMethod ov m pl)
      callWith pos f first (backTo pos (starEach [] X.env)) (backToKw pos (keywordEach kws X.env))) := by rfl) :
    TR X (.Call (.Attribute o m apos) [] kws pos) δ d δ2 := fun M W σ H Q g E q => by
  obtain ⟨f, hm, F⟩ := G.ex
  refine wE_of (t := fun σ H Q => wE X o σ H fun v H1 => ∃ a dx fs, v = .ref a ∧ H1 a = some (.ins C dx fs) ∧ fs.lookup m = none ∧ wK X kws σ H1 fun vs H2 => vs.length = ks.length ∧ spT R (V.ref a :: vs) H2 Q E0) ⟨fun pins s σ H Q I h => ?_⟩
    (ho M W σ H _ g E fun v H1 s1 r1 => by
      obtain ⟨a, dx, vs, ev, ma, hp, r⟩ := id r1
      refine ⟨a, dx, _, ev, hp, look_zipN r hno, ha M W σ H1 _ s1.good s1.env fun us H2 s2 r2 => ⟨by rw [r2.len]; exact hlk, ?_⟩⟩
      exact sp_args (ds := _ :: ds) s2.good ⟨_, us, rfl, by rw [← ev]; exact s2.rep r1, r2⟩ hR fun w' H3 ex rw' => q w' H3 ((s1.trans s2).ext ex) rw')
  refine PySem.W.methodCall_KW (pl := pl) (thn (h.run pins s I) fun u s1 ⟨x, H1, I1, rx, a, dx, fs, ex, ea, l, q⟩ => ?_) ht
  subst ex
  obtain rfl : u = Value.ref a := rx
  refine getmeth_ok I1 ea c hm l ?_
  refine PySem.W.callWith_KW0 (first := [.ref a]) (h₀ := X.base) I.ok.mod.kin hm.kp hall (thn (q.run pos pins s1 I1) fun us s2 ⟨vs, H2, I2, r, lz, q2⟩ => ⟨I2.kIn, ?_⟩) hpl
  rw [hks]
  exact runG (us := [.ref a]) (vs := [.ref a]) F hr gd I2 (.cons rfl .nil) r lz q2
end
end TL
set_option Elab.async false
set_option linter.all false
set_option maxRecDepth 100000
set_option autoImplicit false
set_option maxHeartbeats 1000000
/-! TL11: displays of constants. -/
namespace TL
open PySem L2
/-- a constant's data -/
def cD : Expr → D
  | .Constant (.int i) _ _ => .int i
  | .Constant (.str x) _ _ => .str x
  | .Constant (.bool b) _ _ => .bl b
  | _ => .non
def isC : Expr → Bool
  | .Constant (.int _) _ _ => true
  | .Constant (.str _) _ _ => true
  | .Constant (.bool _) _ _ => true
  | .Constant .none _ _ => true
  | _ => false
theorem ta_consts {X : Cx} {δ : TL.Env} : ∀ {es : List Expr}, es.all isC = true → TA X es δ (es.map cD) δ
  | [], _ => ta_nil
  | e :: es, h => by
    rw [List.all_cons, Bool.and_eq_true] at h
    obtain ⟨h1, h2⟩ := h
    have ih := ta_consts (X := X) (δ := δ) h2
    cases e with
    | Constant c j p =>
      cases c with
      | int i => exact ta_cons tr_int ih rfl
      | str x => exact ta_cons tr_str ih rfl
      | bool b => exact ta_cons tr_bl ih rfl
      | none => exact ta_cons tr_non ih rfl
      | _ => cases h1
    | _ => cases h1
end TL
set_option Elab.async false
set_option linter.all false
set_option maxRecDepth 100000
set_option autoImplicit false
set_option maxHeartbeats 1000000
/-! TL12: three names at once. -/
namespace TL
open PySem L2
section
variable {X : Cx} {a b c e : Expr} {δ δ1 δ2 δ3 : TL.Env} {pos p : Pos}
/-- a, b, c = e1, e2, e3 -/
theorem ts_par3 {i j l : Nat} {x y z : Str} {px py pz pt : Pos} {kt k2 : Nat} {pt2 : Pos} {d1 d2 d3 : D} (h : TA X [a, b, c] δ [d1, d2, d3] δ1) (sh : Sh δ δ1) (hno : ∀ xs, δ1[i]? ≠ some (some (.own xs))) (hno2 : ∀ xs, δ1[j]? ≠ some (some (.own xs))) (hno3 : ∀ xs, δ1[l]? ≠ some (some (.own xs))) (hN : X.N.Nodup)
    (hij : i ≠ j := by decide) (hil : i ≠ l := by decide) (hjl : j ≠ l := by decide) (hc : X.calm = true := by rfl) (hi : X.N[i]? = some x := by rfl) (hj : X.N[j]? = some y := by rfl) (hl : X.N[l]? = some z := by rfl) (hx : X.env.scope.names.lookup x = some .local := by rfl) (hy : X.env.scope.names.lookup y = some .local := by rfl) (hz : X.env.scope.names.lookup z = some .local := by rfl)
    (hw : swappedStores [.Tuple [.Name x px, .Name y py, .Name z pz] kt pt] (.Tuple [a, b, c] k2 pt2) X.env = pure (some [x, y, z]) := by rfl)
    (hs : swapsWithSole [.Tuple [.Name x px, .Name y py, .Name z pz] kt pt] (.Tuple [a, b, c] k2 pt2) pos.line X.env = pure false := by rfl) :
    TS X (.Assign [.Tuple [.Name x px, .Name y py, .Name z pz] kt pt] (.Tuple [a, b, c] k2 pt2) pos) δ (.nx (((δ1.set i (some (.im d1))).set j (some (.im d2))).set l (some (.im d3)))) := fun M W σ H Dn g E q =>
  wS_of (ps_par3 hc hN hi hj hl hij hil hjl hx hy hz pa_w hw hs) (h M W σ H _ g E fun vs H1 s1 r1 => by
    obtain ⟨v, r, rfl, r1, w, r', rfl, r2, u, r'', rfl, r3, e⟩ := r1
    have e : r'' = [] := e
    subst e
    refine ⟨v, w, u, rfl, q M W _ H1 ?_⟩
    have A := aft_set (i := i) s1 sh hno r1
    refine ⟨Gr.refl, s1.xt, s1.good, (A.env.set r2).set r3, fun m xs z => ?_⟩
    obtain ⟨ys, z1, z2⟩ := A.kp m xs z
    obtain ⟨ys', z3⟩ := sh m xs z
    have hm : j ≠ m := fun e => by subst e; exact hno2 ys' z3
    have hm3 : l ≠ m := fun e => by subst e; exact hno3 ys' z3
    exact ⟨ys, by rw [List.getElem?_set_ne hm3, List.getElem?_set_ne hm]; exact z1, by rw [List.getElem?_set_ne hm3, List.getElem?_set_ne hm]; exact z2⟩)
end
end TL
set_option Elab.async false
set_option linter.all false
set_option maxRecDepth 100000
set_option autoImplicit false
set_option maxHeartbeats 1000000
/-! TL13: name = [elt for nm in it] on one line (the machine stores by another road). -/
namespace TL
open PySem L2
section
variable {X : Cx} {elt it : Expr} {scope : Scope} {δ δ1 : TL.Env} {xs ys : List D} {i j : Nat} {nm y : Str} {pos np py spos : Pos}
theorem ts_setLc (δs : Nat → TL.Env) (ys : List D) (hit : TR X it δ (.lst xs) (δs 0)) (hn : ∀ k, (δs k)[i]? = some none) (hl : ys.length = xs.length) (hb : xs.length ≤ 100000)
    (he : ∀ (k : Nat) (x y : D), xs[k]? = some x → ys[k]? = some y → TRb X scope elt ((δs k).set i (some (.im x))) y ((δs (k + 1)).set i (some (.im x))))
    (hN : X.N.Nodup) (ok : BlkOk X.N X.env.scope scope [(nm, i)])
    (hg : ∀ (s : Shared) (H : Hp) (C : Addr) (cl : List (Str × Addr)) (fp : List Addr), PG (X.blk s H scope (compEnvC scope cl C X.env) fp) (.Name nm np) (gName i))
    (sh : Sh δ (δs xs.length)) (hno : ∀ zs, (δs xs.length)[j]? ≠ some (some (.own zs))) (hc : X.calm = true := by rfl)
    (hs : ∀ x, foldedSetIterable it X.env x = pure x := by intro _; rfl) (hy : X.N[j]? = some y := by rfl) (hyl : X.env.scope.names.lookup y = some .local := by rfl) (hk : X.env.scope.kind = .function := by rfl) (hl2 : (py.line == pos.line) = true := by rfl)
    (ha : (scope.names.any fun (n, k) => n == y && (k == .local || k == .cell)) = false := by decide +kernel) :
    TS X (.Assign [.Name y py] (.ListComp elt [⟨.Name nm np, it, [], 0⟩] scope pos) spos) δ (.nx ((δs xs.length).set j (some (.im (.lst ys))))) := fun M W σ H Dn g E q => by
  refine wS_of (ps_setLc (own := [(nm, i)]) (g := gName i) (tt := tYes) hc hN hy hyl (sw_true hk hyl hl2 ha) (pi_list pe_w) ok hg (fun _ _ _ _ _ => pts_nil) pe_wb hs) (hit M W σ H _ g E fun v H1 s1 ⟨a, vs, ea, m, ha, ra⟩ => ⟨a, ea, ⟨vs, SqL.of ha⟩, fun Dl hD => ?_⟩)
  have e0 : [(nm, i)].map (·.2) = [i] := rfl
  rw [e0]
  have nad : a ≠ Dl := ne_of_none ha hD
  refine lc_list (xs := vs) (Lcw M W σ H1 Dl δs ys) (lcw_start s1.good s1.env hD) (fun k' H' _ p => ?_) (fun k' x H' hk p => ⟨?_, ?_⟩) (fun H' p => ?_)
  · exact SqL.of (p.st.xt a _ (fun w => m (g.wm a w)) ha)
  · show (((σ.set i none).set i (some x)).set i none) = σ.set i none
    rw [List.set_set, List.set_set]
  · show wEb X scope elt ((wipe σ [i]).set i (some x)) H' _
    obtain ⟨d, hd, rd⟩ := ra.get' hk
    have hk' : k' < xs.length := (List.getElem?_eq_some_iff.mp hd).1
    have hy : ys[k']? = some ys[k'] := List.getElem?_eq_getElem (by omega)
    exact lcw_turn s1.good hD p hn hy (by omega) (Rep.ex (Xt.mono (fun _ w => .inl (g.wm _ w)) p.st.xt) d (Rep.gr (mp_gr hD) d rd)) (he k' d _ hd hy)
  · rw [ra.len] at p
    exact lcw_end (Q := fun x H1 => Dn.nx (σ.set j (some x)) H1) g s1 hD p hl fun p' us H2 s2 n hp r2 => q M W _ H2 (aft_set (d := .lst ys) (s2.anti g.wm) sh hno ⟨p', us, rfl, fun m => g.mt p' m n, hp, Reps.anti (fun _ m => .inl m) ys r2⟩)
/-- name = [h x for x in ..] over a list g x -/
theorem ts_setLcm {α : Type} (qs : List α) (g h : α → D) (hit : TR X it δ (.lst (qs.map g)) δ1) (hn : δ1[i]? = some none) (hb : qs.length ≤ 100000)
    (he : ∀ q, q ∈ qs → TRb X scope elt (δ1.set i (some (.im (g q)))) (h q) (δ1.set i (some (.im (g q)))))
    (hN : X.N.Nodup) (ok : BlkOk X.N X.env.scope scope [(nm, i)])
    (hg : ∀ (s : Shared) (H : Hp) (C : Addr) (cl : List (Str × Addr)) (fp : List Addr), PG (X.blk s H scope (compEnvC scope cl C X.env) fp) (.Name nm np) (gName i))
    (sh : Sh δ δ1) (hno : ∀ zs, δ1[j]? ≠ some (some (.own zs))) (hc : X.calm = true := by rfl)
    (hs : ∀ x, foldedSetIterable it X.env x = pure x := by intro _; rfl) (hy : X.N[j]? = some y := by rfl) (hyl : X.env.scope.names.lookup y = some .local := by rfl) (hk : X.env.scope.kind = .function := by rfl) (hl2 : (py.line == pos.line) = true := by rfl)
    (ha : (scope.names.any fun (n, k) => n == y && (k == .local || k == .cell)) = false := by decide +kernel) :
    TS X (.Assign [.Name y py] (.ListComp elt [⟨.Name nm np, it, [], 0⟩] scope pos) spos) δ (.nx (δ1.set j (some (.im (.lst (qs.map h)))))) :=
  ts_setLc (i := i) (fun _ => δ1) (qs.map h) hit (fun _ => hn) (by simp) (by simpa using hb) (fun k x y hx hy => by
    rw [List.getElem?_map] at hx hy
    cases hz : qs[k]? with
    | none => rw [hz] at hx; cases hx
    | some z =>
      rw [hz] at hx hy
      cases hx
      cases hy
      exact he z (List.mem_of_getElem? hz)) hN ok hg sh hno hc hs hy hyl hk hl2 ha
end
end TL
set_option Elab.async false
set_option linter.all false
set_option maxRecDepth 100000
set_option autoImplicit false
set_option maxHeartbeats 1000000
/-! TL14: the law's end, for a def that keeps its promise over trees. -/
namespace TL
open PySem PySem.Spec PyProof.Rows L2
/-- the promise from the script alone -/
theorem spT_script {R : Spec} {K : PySem.W.Frag} {H : Hp} {a : Addr} {ns : List Int} (h : SqL K H a (ns.map V.int)) (hR : R [.im (.scr K a ns)] (.im (.bl true)) [.im (.scr K a ns)]) : spT R [.ref a] H (fun v _ => v = .bl true) E0 :=
  ⟨fun _ => False, fun _ => False, _, _, _, hR, ⟨fun _ z => z, fun _ z => z.elim⟩, envR_args (ds := [.scr K a ns]) ⟨.ref a, [], rfl, ⟨rfl, h.elim (fun z => .inl ⟨fun q => q, z⟩) .inr⟩, rfl⟩, fun v H' _ _ _ r => r⟩
/-- with a heap of which nothing but the script is told -/
theorem true_of {P : Program} {w : World} {K : PySem.W.Frag} {mg mb : Str → Option Value} {k : Nat} {fa a : Addr} {fd : FuncData} {x : Str} {R : Spec} {s : Shared} {vs : List Value} {ns : List Int} {H : Hp}
    (KX : K.In s.heap) (hns : s.heap.Ns mainGlobals mg) (hb : s.heap.Ns builtinsNs mb) (hbb : ∀ x : Str, x ≠ "__name__" → mb x = bootBuiltins x) (hlim : s.heap.NoLimit) (hg : s.gens = #[])
    (ha : s.heap.get? a = some { cls := .type "list", data := .seq vs.toArray }) (hr : Room k callerA)
    (F : ∀ base : Heap, K.In base → base.Ns mainGlobals mg → FnK P w K mg base k fa fd [x] R) (hbind : ∀ (s : Shared) (u : Value), BindsTo s fd ⟨[u], []⟩ [(x, u)])
    (hR : R [.im (.scr K a ns)] (.im (.bl true)) [.im (.scr K a ns)])
    (hO : Only H) (hS : SqL K H a (ns.map V.int)) (hok : HOk P w H s.heap) (hA : ∀ b, H b ≠ none → b = a) (hK : H a ≠ none → K.lookup a = none) :
    codeAny (model P w) callerA (.call (.ref fa) ⟨[.ref a], []⟩) (fun r s' => r = .ok (.ret (.bool true)) ∧ OldK s.heap s'.heap ∧ s'.os = s.os ∧ AllBare s'.gens) s := by
  have free : ∀ {b : Addr} {o : Obj}, s.heap.get? b = some o → (∀ l n, o.data ≠ .seq l n) → H b = none := fun {b o} e nd => by
    cases q : H b with
    | none => rfl
    | some u =>
      obtain rfl := hA b (by rw [q]; simp)
      rw [ha] at e
      cases e
      exact absurd rfl (nd _ _)
  have ns' : ∀ {b : Addr} {m : Str → Option Value}, s.heap.Ns b m → (hidT s.heap H).Ns b m := fun ⟨o, es, ep, e, d, r⟩ => ⟨o, es, ep, hidT_get e (free e (fun l n z => by rw [d] at z; cases z)), d, r⟩
  have kin : K.In (hidT s.heap H) := fun b o e => hidT_get (KX b o e) (by
    cases q : H b with
    | none => rfl
    | some u =>
      obtain rfl := hA b (by rw [q]; simp)
      rw [hK (by rw [q]; simp)] at e
      cases e)
  have md : Mod K mg (hidT s.heap H) := ⟨kin, ns' hns, ⟨mb, ns' hb, hbb⟩, let ⟨mc, h1, h2⟩ := hlim; ⟨mc, ns' h1, h2⟩⟩
  have e0 : Env0 P w K mg (hidT s.heap H) callerA [] s H := ⟨rfl, md, fun b o e => of_hidT e, Nat.le_of_eq (hidT_size _ _), trivial, fun b hb => absurd (show b ∈ ([] : List Addr) from hb) (by simp), hok, .of_eq hg⟩
  refine codeAny_mono ((F _ kin (ns' hns)).run callerA [] s H ⟨[.ref a], []⟩ [.ref a] [.ref a] _ hr rfl e0 (hbind s (.ref a)) (.cons rfl .nil) rfl (spT_script hS hR)) fun r s' h => ?_
  match r, h with
  | .ok (.ret u), h =>
    obtain ⟨v, H', os, bare, un, hok', r', q⟩ := h
    have q' : v = .bl true := q
    subst q'
    obtain rfl : u = Value.bool true := r'
    refine ⟨rfl, OldK.of_keep fun b o e => ?_, os, bare⟩
    rcases hO b with z | ⟨ob, xs, z⟩
    · exact un.keep b o e z (by intro y; exact absurd (show b ∈ ([] : List Addr) from y) (by simp)) (by simp)
    · obtain ⟨e1, _⟩ := hok b _ z
      obtain ⟨e2, _⟩ := hok' b _ (un.frzs b ob _ z)
      rw [e] at e1
      cases e1
      exact e2
  | .error e, h => exact h.elim
/-- the law's call -/
theorem law_true {P : Program} {w : World} {K : PySem.W.Frag} {mg mb : Str → Option Value} {k : Nat} {fa a : Addr} {fd : FuncData} {x : Str} {R : Spec} {s : Shared} {vs : List Value} {ns : List Int}
    (KX : K.In s.heap) (hns : s.heap.Ns mainGlobals mg) (hb : s.heap.Ns builtinsNs mb) (hbb : ∀ x : Str, x ≠ "__name__" → mb x = bootBuiltins x) (hlim : s.heap.NoLimit) (hg : s.gens = #[])
    (ha : s.heap.get? a = some { cls := .type "list", data := .seq vs.toArray }) (hi : IntsAre vs ns) (hl : ns.length ≤ sizeLine) (hr : Room k callerA)
    (F : ∀ base : Heap, K.In base → base.Ns mainGlobals mg → FnK P w K mg base k fa fd [x] R) (hbind : ∀ (s : Shared) (u : Value), BindsTo s fd ⟨[u], []⟩ [(x, u)])
    (hR : R [.im (.scr K a ns)] (.im (.bl true)) [.im (.scr K a ns)]) :
    codeAny (model P w) callerA (.call (.ref fa) ⟨[.ref a], []⟩) (fun r s' => r = .ok (.ret (.bool true)) ∧ OldK s.heap s'.heap ∧ s'.os = s.os ∧ AllBare s'.gens) s := by
  have rv := vals_ints hi
  cases hk : K.lookup a with
  | some o =>
    have e := KX a o hk
    rw [ha] at e
    cases e
    exact true_of (H := fun _ => none) KX hns hb hbb hlim hg ha hr F hbind hR (fun _ => .inl rfl) (.inr ⟨_, vs.toArray, _, hk, rfl, rfl, rfl, by rw [List.size_toArray, hi.length]; exact hl, by simpa using rv⟩) (fun b u z => by cases (show (none : Option HO) = some u from z)) (fun b z => absurd rfl z) fun z => absurd rfl z
  | none =>
    refine true_of (H := fun b => if b = a then some (.frz { cls := .type "list", data := .seq vs.toArray } (.lst (ns.map V.int))) else none) KX hns hb hbb hlim hg ha hr F hbind hR (fun b => ?_) (.inl (.inr ⟨_, if_pos rfl⟩)) (fun b u z => ?_) (fun b z => ?_) fun _ => hk
    · by_cases hb : b = a
      · exact .inr ⟨_, _, if_pos hb⟩
      · exact .inl (if_neg hb)
    · by_cases hb : b = a
      · subst hb
        cases (if_pos rfl).symm.trans z
        exact ⟨ha, by rw [List.length_map]; exact hl, vs, _, rv, ha⟩
      · cases (if_neg hb).symm.trans z
    · exact Decidable.byContradiction fun hb => z (if_neg hb)
/-- what k_head leaves -/
theorem walk_tree {l : PySem.W.OpenLaw} {n k : Nat} {q : Program} {loose : List Str} {XP : (Str → Option Value) → Heap → Prop} {YP : World → Heap → Prop} {d : DefRec} {K : Params → PySem.W.Frag} {R : PySem.W.Frag → Spec} {x : Str}
    (hn : l.most = some n) (hn2 : n ≤ sizeLine) (hdf : d.params.defaults = []) (hr : Room k callerA)
    (hY : ∀ (w : World) (h : Heap), YP w h → (K w.params).In h)
    (F : ∀ (w : World) (mg : Str → Option Value) (fa : Addr) (h : Heap), (K w.params).In h → h.Ns mainGlobals mg → mg d.name = some (.ref fa) →
      ∃ fd : FuncData, (∀ (s : Shared) (u : Value), BindsTo s fd ⟨[u], []⟩ [(x, u)]) ∧
        ∀ base : Heap, (K w.params).In base → base.Ns mainGlobals mg → FnK l.prog w (K w.params) mg base k fa fd [x] (R (K w.params)))
    (hR : ∀ (K : PySem.W.Frag) (a : Addr) (ns : List Int), ns.length ≤ n → R K [.im (.scr K a ns)] (.im (.bl true)) [.im (.scr K a ns)]) :
    PySem.W.WalkO q loose XP YP l.row.toRowW d [] (fun f vs => PySem.call f vs) := by
  refine Att.attach_call hn hdf fun w s₀ s₁ mg mb fa o pm cd doc a vs ns G Y ho hd hcd hmg hobj hints hlen hg => ?_
  have KX := hY w _ Y
  obtain ⟨fd, hb, hF⟩ := F w mg fa _ KX G.T.g hmg
  exact law_true KX G.T.g G.T.b G.T.builtins G.T.nolimit hg hobj hints (Nat.le_trans hlen hn2) hr hF hb (hR _ a ns hlen)
end TL
set_option Elab.async false
set_option linter.all false
set_option maxRecDepth 100000
set_option autoImplicit false
set_option maxHeartbeats 1000000
/-! TL15: f-strings; str(x), repr(x), bool(x) by the class's own methods. -/
namespace TL
open PySem PySem.Spec PyProof.Rows L2
section
variable {X : Cx} {a b e : Expr} {es : List Expr} {δ δ1 δ2 : TL.Env} {d : D} {pos p : Pos} {acc out y : Str}
/-! ### f'..' -/
theorem tr_fmt {i : Int} (h : TR X e δ (.int i) δ1) (hi : i.natAbs.log2 < 1920) : TR X (.FormattedValue e (-1) none pos) δ (.str (toString i)) δ1 := fun M W σ H Q g E k =>
  wE_of (pe_fmt pe_w) (h M W σ H _ g E fun v H1 s1 r1 => .inr ⟨i, r1, hi, k _ H1 s1 rfl⟩)
theorem tr_fmtS (h : TR X e δ (.str y) δ1) (hy : y.length ≤ sizeLine) : TR X (.FormattedValue e (-1) none pos) δ (.str y) δ1 := fun M W σ H Q g E k =>
  wE_of (pe_fmt pe_w) (h M W σ H _ g E fun v H1 s1 r1 => .inl ⟨y, r1, hy, k _ H1 s1 rfl⟩)
def TJ (X : Cx) (es : List Expr) (acc : Str) (δ : TL.Env) (out : Str) (δ' : TL.Env) : Prop := ∃ ts, PJ X es ts ∧ ∀ (M W : Addr → Prop) (σ : L2.St) (H : Hp) (Q : Str → Hp → Prop), Good M W H → EnvR M W H σ δ →
  (∀ H', Stp M W σ δ' H H' → Q out H') → tJs ts acc σ H Q
theorem tj_nil : TJ X [] acc δ acc δ := ⟨[], .nil, fun M W σ H Q g E k => k H (Stp.refl g E)⟩
theorem tj_cons (h : TR X e δ (.str y) δ1) (hz : (acc ++ y).length ≤ sizeLine) (hr : TJ X es (acc ++ y) δ1 out δ2) : TJ X (e :: es) acc δ out δ2 := by
  obtain ⟨ts, hp, hq⟩ := hr
  exact ⟨wE X e :: ts, .cons pe_w hp, fun M W σ H Q g E k => h M W σ H _ g E fun v H1 s1 r1 => ⟨y, r1, hz, hq M W σ H1 Q s1.good s1.env fun H' s2 => k H' (s1.trans s2)⟩⟩
theorem tr_js (h : TJ X (a :: b :: es) Str.empty δ out δ1) : TR X (.JoinedStr (a :: b :: es) pos) δ (.str out) δ1 := fun M W σ H Q g E k => by
  obtain ⟨ts, hp, hq⟩ := h
  exact wE_of (pe_joined hp) (hq M W σ H _ g E fun H' s => k _ H' s rfl)
theorem tr_js1 (h : TR X e δ (.str y) δ1) : TR X (.JoinedStr [e] pos) δ (.str y) δ1 := fun M W σ H Q g E k => wE_of (pe_joined1 pe_w) (h M W σ H Q g E k)
end
section
variable {X : Cx} {e : Expr} {es : List Expr} {δ δ1 : TL.Env} {x z d : D} {ds : List D} {pos p : Pos} {k : Nat} {C : Addr} {R : Spec} {ns : List Str} {xs : List D} {f : Addr} {pins : List (Addr × Obj)} {σ : L2.St} {H : Hp} {s : Shared} {us : List Value} {vs : List V} {Q : VK}
/-- .. two levels down -/
theorem runG2 (F : FnG X.prog X.w X.K X.mg X.base k f [] R) (hr : Room (k + 2) X.A) (gd : X.A.guards = some []) (I : Inv X pins σ H s) (r : Vals vs us) (h : spT R vs H Q E0) :
    wpAny (model X.prog X.w) X.A.in1.in1 (call (.ref f) us) (EP X pins σ Q) X.xe s := by
  refine wpAny_call (codeAny_mono (F.run X.A.in1.in1 X.stack s H us [] vs [] Q hr.in1.in1 gd I.env0.in1.in1 r .nil rfl (by rw [List.append_nil]; exact h)) fun rr s' hq => ?_)
  cases rr with
  | error e => exact False.elim hq
  | ok fl =>
    cases fl with
    | ret u => exact I.after hq
    | next => exact False.elim hq
    | brk => exact False.elim hq
    | cont => exact False.elim hq
/-- the words for repr(x), str(x), bool(x), x of the class -/
def rOwn1 (C : Addr) (R : Spec) (ok : V → Prop) : List V → Hp → VK → Prop := fun xs H Q => ∃ a dx fs, xs = [.ref a] ∧ H a = some (.ins C dx fs) ∧ spT R [.ref a] H (fun v H' => ok v ∧ Q v H') E0
def isS (v : V) : Prop := ∃ y, v = .str y
def isB (v : V) : Prop := ∃ y, v = .bl y
theorem ca_own1 {ok : V → Prop} (hok : ∀ M H v, Rep M H d v → ok v) (hR : R [.im (.ins C ns xs)] (.im d) [.im (.ins C ns xs)]) : CaT (rOwn1 C R ok) [.ins C ns xs] d := fun M W H us Q g r q => by
  obtain ⟨v, rfl, r1⟩ := reps1 r
  have r0 := r1
  obtain ⟨a, dx, vs, rfl, m, h1, h2⟩ := r1
  exact ⟨a, dx, _, rfl, h1, sp_args (ds := [.ins C ns xs]) g ⟨_, _, rfl, r0, rfl⟩ hR fun w H' e' r' => ⟨hok _ _ _ r', q w H' e' r'⟩⟩
theorem call_reprO (G : OwnF X.prog X.w X.K X.mg X.base C "__repr__" k R) (hr : Room (k + 1) X.A) (gd : X.A.guards = some []) : CallR X (.builtin "repr") (rOwn1 C R isS) := by
  intro pins s σ H xs us Q I r h
  obtain ⟨a, dx, fs, rfl, ha, hsp⟩ := h
  obtain ⟨f, hs, hf, F⟩ := G.ex
  obtain ⟨mA, J, _⟩ := ins_get I.hok ha
  obtain ⟨od, J, _⟩ := J.look
  obtain ⟨m, hF⟩ := I.fr
  cases r with
  | cons r1 r2 =>
    cases r2
    cases r1
    refine PySem.W.repr_K (by have := hr.in1.un; omega) hF I.ok.mod.kin J hs hf (wpAny_mono (runG1 (vs := [V.ref a]) F hr gd I (.cons rfl .nil) hsp) (fun u s' hq => ?_) fun _ _ z => z)
    obtain ⟨v, H', I', rv, ⟨y, rfl⟩, q⟩ := hq
    obtain ⟨t, rfl⟩ := rv
    exact ⟨.str y, H', I', ⟨t, rfl⟩, q⟩
theorem call_strO (G : OwnF X.prog X.w X.K X.mg X.base C "__str__" k R) (hr : Room (k + 2) X.A) (gd : X.A.guards = some []) : CallR X (.type "str") (rOwn1 C R isS) := by
  intro pins s σ H xs us Q I r h
  obtain ⟨a, dx, fs, rfl, ha, hsp⟩ := h
  obtain ⟨f, hs, hf, F⟩ := G.ex
  obtain ⟨mA, J, _⟩ := ins_get I.hok ha
  obtain ⟨od, J, _⟩ := J.look
  cases r with
  | cons r1 r2 =>
    cases r2
    cases r1
    refine PySem.W.kso_call (by have := hr.in1.in1.un; omega) I.kIn J hs hf (wpAny_mono (runG2 (vs := [V.ref a]) F hr gd I (.cons rfl .nil) hsp) (fun u s' hq => ?_) fun _ _ z => z)
    obtain ⟨v, H', I', rv, ⟨y, rfl⟩, q⟩ := hq
    obtain ⟨t, rfl⟩ := rv
    exact ⟨.str y, H', I', ⟨t, rfl⟩, q⟩
end
end TL
set_option Elab.async false
set_option linter.all false
set_option maxRecDepth 100000
set_option autoImplicit false
set_option maxHeartbeats 1000000
/-! TL16: bool(x) by the class's own __bool__. -/
namespace TL
open PySem PySem.Spec PyProof.Rows L2
theorem bool_tree (v : Value) : Builtin.«bool.__new__» ⟨[.type "bool", v], []⟩ = (do
    if !(← isSubtype (.type "bool") (.type "bool")) then
      rule "bool.__new__.no-subtype"; raiseError "TypeError" s!"bool.__new__({← typeName (.type "bool")}): {← typeName (.type "bool")} is not a subtype of bool"
    PySem.ret (.bool (← truthy v))) := by rfl
theorem bool_own {prog : Program} {w : World} {A : Around} {E : Value → Shared → Prop} {s : Shared} {K : PySem.W.Frag} {h₀ : Heap} {L x C f : Addr} {m : Str → Option Value} {ox : Obj} {od : Option Obj} {Q : Value → Shared → Prop}
    (F : Fr h₀ L s.heap m) (X₀ : K.In h₀) (I : PySem.W.InstAt s.heap x ox C od) (hs : PySem.W.findIn K (.ref C) "__bool__" = some (some (.ref f))) (hf : PySem.W.isFn K (.ref f) = true)
    (h : wpAny (model prog w) A.in1.in1 (call (.ref f) [.ref x]) (PySem.W.BoolBack fun b s₁ => Q (.bool b) s₁) E s) : wpAny (model prog w) A (call (.type "bool") [.ref x]) Q E s := by
  refine callType_codes (T := "bool") (Bi := Builtin.«object.__init__») (Q₁ := fun r s₁ => ∃ b, r = .bool b ∧ Q r s₁) PySem.F.called_bool (PySem.F.typeCall_bool_1 _) PySem.F.entry_object_init ?_ ?_
  · refine codeAny_of_tree ?_
    show wpAny _ A.in1.in1 (do checkBuiltinCall "bool.__new__" ⟨[.type "bool", .ref x], []⟩; again (.builtin "bool.__new__" ⟨[.type "bool", .ref x], []⟩)) _ _ s
    refine wpAny_bind (wpAny_of_eq (PySem.F.newCall_bool_1 _) (wpAny_pure ⟨plainId_quiet (by decide +kernel) _, codeAny_builtin PySem.F.entry_bool_new ?_⟩))
    rw [Around.under_plainId (by decide +kernel) _]
    rw [bool_tree]
    refine wpAny_bind (wpAny_of_eq PySem.F.conv_sub_bool ?_)
    refine wpAny_bind (wpAny_mono (PySem.W.truthy_K F X₀ I hs hf (wpAny_mono h (fun r s' hr => ?_) fun _ _ y => y)) (fun b s₁ hb => wpAny_pure ⟨b, rfl, hb⟩) fun _ _ y => y)
    exact hr
  · rintro obj s₁ ⟨b, rfl, hq⟩
    exact ⟨PySem.typeIs_bool _ _, PySem.F.args_object_init_2 _ _, object_init_meets PySem.F.called_bool.init.lookup PySem.F.called_bool.made (by decide) prog w A.in1 _ s₁ ⟨PySem.typeIs_bool _ _, rfl, hq⟩⟩
section
variable {X : Cx} {k : Nat} {C : Addr} {R : Spec}
theorem call_boolO (G : OwnF X.prog X.w X.K X.mg X.base C "__bool__" k R) (hr : Room (k + 2) X.A) (gd : X.A.guards = some []) : CallR X (.type "bool") (rOwn1 C R isB) := by
  intro pins s σ H xs us Q I r h
  obtain ⟨a, dx, fs, rfl, ha, hsp⟩ := h
  obtain ⟨f, hs, hf, F⟩ := G.ex
  obtain ⟨mA, J, _⟩ := ins_get I.hok ha
  obtain ⟨od, J, _⟩ := J.look
  obtain ⟨m, hF⟩ := I.fr
  cases r with
  | cons r1 r2 =>
    cases r2
    cases r1
    refine bool_own hF I.ok.mod.kin J hs hf (wpAny_mono (runG2 (vs := [V.ref a]) F hr gd I (.cons rfl .nil) hsp) (fun u s' hq => ?_) fun _ _ z => z)
    obtain ⟨v, H', I', rv, ⟨y, rfl⟩, q⟩ := hq
    obtain rfl := rv
    exact ⟨.bl y, H', I', rfl, q⟩
end
end TL
set_option Elab.async false
set_option linter.all false
set_option maxRecDepth 100000
set_option autoImplicit false
set_option maxHeartbeats 1000000
/-! TL17: repr of a list whose items have an own __repr__ (or are plain). -/
namespace TL
open PySem PySem.Spec PyProof.Rows L2
/-- the surroundings of X, some levels of C deeper -/
structure Lik (X : Cx) (A : Around) (n : Nat) : Prop where
  fr : A.frames = X.A.frames
  hd : A.handled = X.A.handled
  dp : A.depth ≤ X.A.depth + 2
  un : A.units ≤ X.A.units + n
theorem Lik.room {X : Cx} {A : Around} {n k : Nat} (l : Lik X A n) (r : Room (k + 1) X.A) (h : n ≤ 16) : Room k A := ⟨l.hd.trans r.hd, by have := r.dp; have := l.dp; omega, by have := r.un; have := l.un; omega⟩
theorem Lik.env0 {X : Cx} {A : Around} {n : Nat} {pins : List (Addr × Obj)} {σ : L2.St} {H : Hp} {s : Shared} (l : Lik X A n) (I : Inv X pins σ H s) : Env0 X.prog X.w X.K X.mg X.base A X.stack s H := by
  have e := I.env0
  exact ⟨l.fr.trans e.frames, e.mod, e.bs, e.bsz, e.funs, e.frf, e.hok, e.bare⟩
/-- what stands at a def that does not ask for the guards -/
structure FnGN (P : Program) (w : World) (K : PySem.W.Frag) (mg : Str → Option Value) (base : Heap) (k : Nat) (f : Addr) (R : Spec) : Prop where
  run : ∀ (A : Around) (outer : List PySem.Env) (s : Shared) (H : Hp) (us : List Value) (vs : List V) (Q : VK), Room k A → Env0 P w K mg base A outer s H → Vals vs us →
    spT R vs H Q E0 → codeAny (model P w) A (.call (.ref f) ⟨us, []⟩) (CR CX0 outer P w H s Q E0) s
theorem FnN.pos {P : Program} {w : World} {K : PySem.W.Frag} {mg : Str → Option Value} {base : Heap} {k : Nat} {f : Addr} {fd : FuncData} {ps : List Str} {R : Spec} (F : FnN P w K mg base k f fd ps R) (b : Binds K fd ps []) (hl : ∀ ss r ss', R ss r ss' → ss.length = ps.length) : FnGN P w K mg base k f R := by
  refine ⟨fun A outer s H us vs Q hr e0 rv h => ?_⟩
  have hk : K.In s.heap := e0.mod.kin.keeps fun b o e => (e0.bs b o e).1
  have hvl : vs.length = ps.length := by
    obtain ⟨M, W, ss, ss', r, hR, g, Ev, q⟩ := h
    have := Ev.len
    simp at this
    rw [this]
    exact hl _ _ _ hR
  have hb := b s us hk (by rw [List.append_nil, ← rv.length]; exact hvl)
  rw [List.append_nil] at hb
  exact F.run A outer s H ⟨us, []⟩ us vs Q hr e0 hb rv hvl h
structure OwnN (P : Program) (w : World) (K : PySem.W.Frag) (mg : Str → Option Value) (base : Heap) (C : Addr) (nm : Str) (k : Nat) (R : Spec) : Prop where
  ex : ∃ f : Addr, PySem.W.findIn K (.ref C) nm = some (some (.ref f)) ∧ PySem.W.isFn K (.ref f) = true ∧ FnGN P w K mg base k f R
section
variable {X : Cx} {A : Around} {k n : Nat} {C : Addr} {R : Spec} {ns : List Str} {xs : List D} {f : Addr} {pins : List (Addr × Obj)} {σ : L2.St} {H : Hp} {s : Shared} {us : List Value} {vs : List V} {Q : VK}
theorem runN {E : Value → Shared → Prop} (F : FnGN X.prog X.w X.K X.mg X.base k f R) (l : Lik X A n) (hr : Room k A) (I : Inv X pins σ H s) (r : Vals vs us) (h : spT R vs H Q E0) :
    wpAny (model X.prog X.w) A (call (.ref f) us) (EP X pins σ Q) E s := by
  refine wpAny_call (codeAny_mono (F.run A X.stack s H us vs Q hr (l.env0 I) r h) fun rr s' hq => ?_)
  cases rr with
  | error e => exact False.elim hq
  | ok fl =>
    cases fl with
    | ret u => exact I.after hq
    | next => exact False.elim hq
    | brk => exact False.elim hq
    | cont => exact False.elim hq
/-- d is shown as t, wherever it stands -/
def ShT (X : Cx) (d : D) (t : Str) : Prop := ∀ (A : Around) (M W : Addr → Prop) (pins : List (Addr × Obj)) (σ : L2.St) (H : Hp) (s : Shared) (v : V) (u : Value) (base : Nat) (E : Value → Shared → Prop) (Q : Str → Shared → Prop),
  Lik X A 10 → Good M W H → Inv X pins σ H s → Rep M H d v → RelV v u → base + t.length ≤ sizeLine →
  (∀ s' H', Inv X pins σ H' s' → (∀ a o, H a = some o → H' a = some o) → Q t s') → wpAny (model X.prog X.w) A (pyReprUnder base u) Q E s
theorem shT_is {d : D} {t : Str} (h : ∀ M H v u, Rep M H d v → RelV v u → ReprIs X.prog X.w u t) : ShT X d t := fun A M W pins σ H s v u base E Q l g I r rv hz q =>
  h M H v u r rv base hz A E s Q fun tk => q _ H (I.tok tk) fun _ _ e => e
theorem shT_int {i : Int} (hi : i.natAbs.log2 < 1920) : ShT X (.int i) (toString i) := shT_is fun M H v u r rv => by
  obtain rfl : v = .int i := r
  obtain ⟨t, rfl⟩ := rv
  exact ReprIs.int t hi
theorem ifBoundBy {K : PySem.W.Frag} {M : Model} {E : Value → Shared → Prop} {x f : Addr} {ox : Obj} {od : Option Obj} {name : Str} {last : Value → List Value → Sem Value} {Q : Option Value → Shared → Prop} (X : K.In s.heap) (I : PySem.W.InstAt s.heap x ox C od) (hs : PySem.W.findIn K (.ref C) name = some (some (.ref f))) (hf : PySem.W.isFn K (.ref f) = true)
    (h : wpAny M A (last (.ref f) [.ref x]) (fun v => Q (some v)) E s) : wpAny M A (callSpecialIfBoundBy? last (.ref x) name) Q E s := by
  simp only [callSpecialIfBoundBy?, bindSpecialIfBound?]
  refine wpAny_holding (wpAny_bind (wpAny_bind (wpAny_bind (I.type.here ((PySem.W.looks_findIn X hs).here ?_)))))
  refine wpAny_bind (wpAny_askSetting (wpAny_ite ?_))
  have fin : wpAny M A (last (.ref f) [.ref x] >>= fun v => pure (some v)) Q E s := wpAny_bind (wpAny_mono h (fun v s' h' => wpAny_pure h') fun _ _ h' => h')
  split
  · exact wpAny_bind ((PySem.W.bind_fn X _ (beq_iff_eq.mp hf)).here (wpAny_pure (by exact fin)))
  · exact wpAny_tryCatch (wpAny_bind ((PySem.W.bind_fn X _ (beq_iff_eq.mp hf)).here (wpAny_pure (by exact fin))))
/-- an instance with its own __repr__ -/
theorem shT_own {t : Str} (G : OwnN X.prog X.w X.K X.mg X.base C "__repr__" k R) (hr : Room (k + 1) X.A) (hR : R [.im (.ins C ns xs)] (.im (.str t)) [.im (.ins C ns xs)]) : ShT X (.ins C ns xs) t := fun A M W pins σ H s v u base E Q l g I r rv hz q => by
  have r0 := r
  obtain ⟨a, dx, vs, rfl, m, ha, r2⟩ := r
  cases rv
  obtain ⟨f, hs, hf, F⟩ := G.ex
  obtain ⟨mA, J, _⟩ := ins_get I.hok ha
  obtain ⟨od, J, _⟩ := J.look
  have hu : A.units < cLine := by have := hr.un; have := l.un; omega
  refine wpAny_pyReprUnder_ref (by omega) ?_
  unfold pyReprObjUnder pyReprObjBy
  refine wpAny_bind (m := cRoomFor _ _) (wpAny_cRoomFor hu ?_)
  refine wpAny_bind (wpAny_bind (J.type.here ((PySem.W.looks_findIn I.kIn hs).here ?_)))
  show wpAny _ _ (if (some (Value.ref f)).isNone = true then _ else _) _ _ _
  rw [if_neg (by simp)]
  refine wpAny_bind (ifBoundBy (name := Str.ofString "__repr__") I.kIn J hs hf ?_)
  show wpAny _ _ (call (.ref f) ([.ref a] ++ [])) _ _ _
  refine wpAny_mono (runN (vs := [V.ref a]) (Q := fun v H' => v = .str t ∧ ∀ a o, H a = some o → H' a = some o) F l (l.room hr (by decide)) I (.cons rfl .nil) ?_) (fun w s' hq => ?_) fun _ _ z => z
  · exact sp_args (ds := [.ins C ns xs]) g ⟨_, _, rfl, r0, rfl⟩ hR fun w H' e' r' => ⟨r', e'⟩
  · obtain ⟨v, H', I', rv', rfl, he⟩ := hq
    obtain ⟨tk, rfl⟩ := rv'
    refine wpAny_bind (wpAny_isInstance (typeIs_str _ _ _) isSubtype_str_str ?_)
    exact wpAny_pure ⟨t, tk, rfl, q s' H' I' he⟩
end
end TL
set_option Elab.async false
set_option linter.all false
set_option maxRecDepth 100000
set_option autoImplicit false
set_option maxHeartbeats 1000000
/-! TL18: repr([..]) of items with an own __repr__: the machine's loop. -/
namespace TL
open PySem PySem.Spec PyProof.Rows L2 Builtin
section
variable {X : Cx} {A : Around} {k n : Nat} {pins : List (Addr × Obj)} {σ : L2.St}
theorem reprLoop {R : Result → Shared → Prop} {ds : List D} {ts : List Str} {M W : Addr → Prop} {a P : Addr} {vs : List V} {base : Nat} (hA : ∀ args, Lik X (A.under (.builtin "list.__repr__.loop" args)) 10) (hlen : ts.length = ds.length)
    (hS : ∀ (i : Nat) (d : D) (t : Str), ds[i]? = some d → ts[i]? = some t → ShT X d t) (hsz : base + (listText ts).length ≤ sizeLine)
    (hPs : X.s_0.heap.objs.size ≤ P) (hPL : P ≠ X.env.locals) (hPc : ∀ x c, X.env.cells.lookup x = some c → c ≠ P) (hPp : ∀ p ∈ X.pn ++ pins, p.1 ≠ P) :
    ∀ (k i : Nat) (s : Shared) (H : Hp) (acc : Array Value) (c : Nat) (done : List (Str × Tok)), ds.length - i = k → i ≤ ds.length → Good M W H →
    Inv X ((P, { cls := .type "list", dict := none, data := .seq acc c, slots := #[] }) :: pins) σ H s → H a = some (.lst vs) → Reps M H ds vs → acc.toList = strValues done → done.map (·.1) = ts.take i →
    (∀ s' H' u, Inv X pins σ H' s' → (∀ b o, H b = some o → H' b = some o) → R (.ok (.ret (.str (listText ts) u))) s') →
    codeAny (model X.prog X.w) A (.builtin "list.__repr__.loop" ⟨[.ref a, rawInt i, .ref P, rawInt ((base + piled (ts.take i) : Nat) : Int)], []⟩) R s := by
  have hX : (listText ts).length = (textFrom 0 "[" ts).length + 1 := by
    show (textFrom 0 "[" ts ++ "]").length = _
    rw [strLen_append]; rfl
  have hL := textFrom_len ts 0 "["
  have hsz1 : ds.length ≤ sizeLine := by
    have h1 := hL.1
    rw [if_neg (Nat.lt_irrefl 0)] at h1
    omega
  have hsz2 : ∀ t ∈ ts, t.length ≤ sizeLine := fun t ht => by
    have h2 := hL.2.1 t ht
    omega
  have hsz3 : (listText ts).length ≤ sizeLine := by omega
  have hp3 := piled_le_listText ts
  have dropP : ∀ {H : Hp} {s : Shared} {o : Obj}, Inv X ((P, o) :: pins) σ H s → Inv X pins σ H s := fun I => I.pins_of fun p hp => I.pin p (List.mem_append_right _ (List.mem_cons_of_mem _ hp))
  intro k
  induction k with
  | zero =>
    intro i s H acc c done hk hi g I ha r hacc hdone hR
    obtain ⟨its, rv, ⟨o, n', ho, hc, hdd, hd⟩, _⟩ := I.list (SqL.of ha)
    have hin : i = ds.length := by omega
    have hil : its.length = ds.length := by rw [← rv.length, r.len]
    obtain ⟨hP, hPn, _, _, _⟩ := I.pin _ (List.mem_append_right _ (.head _))
    refine codeAny_builtin F.entry_list_repr_loop ?_
    show wpAny _ _ («list.__repr__.loop» ⟨[.ref a, .int i 0, .ref P, .int ((base + piled (ts.take i) : Nat) : Int) 0], []⟩) _ _ s
    rw [repr_loop_tree]
    refine wpAny_bind (wpAny_listItems ho hd ?_)
    have hnone : its.toArray[(i : Int).toNat]? = none := by simp [hin, hil]
    simp only [hnone]
    unfold reprEnd
    refine wpAny_bind (wpAny_listItems hP rfl ?_)
    rw [hacc, repr_fold]
    refine wpAny_bind (wpAny_pure ?_)
    have hall : done.map (·.1) = ts := by rw [hdone, hin, ← hlen, List.take_length]
    rw [hall]
    refine wpAny_bind (wpAny_mkStr (wpAny_pure ?_) hsz3)
    exact hR _ H _ ((dropP I).tok _) (fun _ _ e => e)
  | succ k ih =>
    intro i s H acc c done hk hi g I ha r hacc hdone hR
    obtain ⟨its, rv, ⟨o, n', ho, hc, hdd, hd⟩, _⟩ := I.list (SqL.of ha)
    have hlt : i < ds.length := by omega
    have hil : its.length = ds.length := by rw [← rv.length, r.len]
    obtain ⟨v, hv, rd⟩ := r.get (List.getElem?_eq_getElem hlt)
    obtain ⟨u, hu, ru⟩ := rv.get hv
    obtain ⟨t, ht⟩ : ∃ t, ts[i]? = some t := ⟨_, List.getElem?_eq_getElem (by omega)⟩
    have hp1 := piled_take_succ ht
    have hp2 := piled_take_le ts (i + 1)
    refine codeAny_builtin F.entry_list_repr_loop ?_
    show wpAny _ _ («list.__repr__.loop» ⟨[.ref a, .int i 0, .ref P, .int ((base + piled (ts.take i) : Nat) : Int) 0], []⟩) _ _ s
    rw [repr_loop_tree]
    refine wpAny_bind (wpAny_listItems ho hd ?_)
    have hsome : its.toArray[(i : Int).toNat]? = some u := by simpa using hu
    simp only [hsome]
    rw [Int.toNat_natCast]
    refine wpAny_bind (wpAny_holding (hS i _ _ (List.getElem?_eq_getElem hlt) ht _ M W _ σ H s v u (base + piled (ts.take i) + 1) _ _ (hA _) g I rd ru (by omega) fun s' H' I' he => ?_))
    refine wpAny_bind (wpAny_mkStr ?_ (hsz2 _ (List.mem_of_getElem? ht)))
    refine wpAny_bind ?_
    show wpAny _ _ (updateSeq P _) _ _ _
    obtain ⟨hP, hPn, _, hPf, _⟩ := I'.pin _ (List.mem_append_right _ (.head _))
    have hasz : acc.size ≤ sizeLine := by
      have e1 : acc.toList.length = acc.size := by simp
      have e2 : (strValues done).length = done.length := by simp [strValues]
      have e3 : done.length = (ts.take i).length := by rw [← hdone, List.length_map]
      have e4 : (ts.take i).length ≤ i := by rw [List.length_take]; omega
      rw [hacc] at e1; omega
    refine wpAny_updateSeq hP rfl (wpAny_pure ⟨F.quiet_list_repr_loop _, ?_⟩) hasz
    have e1 : ((i : Int) + 1) = ((i + 1 : Nat) : Int) := by omega
    have e2 : base + piled (ts.take i) + (t.length + 2) = base + piled (ts.take (i + 1)) := by omega
    rw [e1, e2]
    refine ih (i + 1) _ H' (acc.push (.str t s'.toks)) (if (acc.push (.str t s'.toks)).size == acc.size then c else c + 1) (done ++ [(t, s'.toks)]) (by omega) hlt (g.ext he) ?_ (he _ _ ha) (Reps.ex (Xt.of he) ds r) (by simp [hacc, strValues]) (by simp [List.take_add_one, ht, hdone]) fun s'' H'' u'' I'' he'' => hR s'' H'' u'' I'' fun b o e => he'' b o (he b o e)
    refine (Inv.turned (it := P) (dropP I') (fun b o nb e => (Heap.get?_update_other _ _ (fun h : P = b => nb h.symm)).trans e) hPn hPL (.inr hPs) hPc hPp).pins_of fun p hp => ?_
    rcases List.mem_cons.mp hp with rfl | hp
    · exact ⟨Heap.get?_update_self _ hP rfl, hPn, hPL, hPf, fun _ z => nomatch z⟩
    · obtain ⟨q1, q2⟩ := I'.pin p (List.mem_append_right _ (List.mem_cons_of_mem _ hp))
      exact ⟨(Heap.get?_update_other _ _ (fun h : P = p.1 => hPp p (List.mem_append_right _ hp) h.symm)).trans q1, q2⟩
end
end TL
set_option Elab.async false
set_option linter.all false
set_option maxRecDepth 100000
set_option autoImplicit false
set_option maxHeartbeats 1000000
/-! TL19: repr([..]) of items with an own __repr__: the call. -/
namespace TL
open PySem PySem.Spec PyProof.Rows L2 Builtin
theorem depth_loop (A : Around) (args : Args) : (A.under (.builtin "list.__repr__.loop" args)).depth = A.depth + 1 := by
  have e : (Code.builtin "list.__repr__.loop" args).weight = 1 := by
    unfold Code.weight
    rw [if_pos (isGuard_list_loop args)]
    rfl
  simp [Around.under, e]
section
variable {X : Cx}
def rReprL (ds : List D) (ts : List Str) : List V → Hp → VK → Prop := fun xs H Q => ∃ (M W : Addr → Prop) (p : Addr) (vs : List V), xs = [.ref p] ∧ Good M W H ∧ H p = some (.lst vs) ∧ Reps M H ds vs ∧ ∀ H', (∀ b o, H b = some o → H' b = some o) → Q (.str (listText ts)) H'
theorem call_reprL {ds : List D} {ts : List Str} (gd : X.A.guards = some []) (hu : X.A.units + 64 < cLine) (hne : ds ≠ []) (hlen : ts.length = ds.length)
    (hS : ∀ (i : Nat) (d : D) (t : Str), ds[i]? = some d → ts[i]? = some t → ShT X d t) (hsz : (listText ts).length ≤ sizeLine) : CallR X (.builtin "repr") (rReprL ds ts) := by
  intro pins s σ H xs us Q I r h
  obtain ⟨M, W, p, vs, rfl, g, hp, rs, q⟩ := h
  cases r with
  | cons r1 r2 =>
    cases r2
    cases r1
    obtain ⟨its, rv, ⟨o, n', ho, hc, hdd, hd⟩, _⟩ := I.list (SqL.of hp)
    have hil : its.length = ds.length := by rw [← rv.length, rs.len]
    obtain ⟨x, l, rfl⟩ : ∃ x l, its = x :: l := by
      cases its with
      | nil => exact absurd (List.length_eq_zero_iff.mp hil.symm) hne
      | cons x l => exact ⟨x, l, rfl⟩
    refine call_repr_slot (by omega) ⟨o, ho, hc⟩ F.slot_list_repr.toG ?_
    refine wpAny_call (codeAny_call_builtin F.slot_list_repr.plain F.entry_list_repr (F.slot_list_repr.check _ _ _ _ _ _ _ _ ⟨o, ho, hc⟩ (F.args_list_repr_1 _) ?_))
    refine wpAny_list_repr_head (A := X.A.in1.in1) (g := []) gd (fun v rest kw hm => nomatch hm) ho hd ?_
    refine wpAny_bind (m := newList []) (wpAny_newObj_type ?_)
    refine wpAny_pure ⟨F.quiet_list_repr_loop _, ?_⟩
    have I1 := I.kept (h' := s.heap.push { cls := .type "list", dict := none, data := .seq #[] 0, slots := #[] }) (t' := s.toks) fun b u e => Heap.get?_push_of_some _ e
    refine reprLoop (X := X) (A := X.A.in1) (pins := pins) (σ := σ) (ds := ds) (ts := ts) (M := M) (W := W) (P := s.heap.objs.size) (base := 0) (fun args => ⟨rfl, rfl, by rw [depth_loop]; show X.A.depth + 1 ≤ _; omega, by rw [units_under_list_loop]; show X.A.units + 1 + 1 ≤ _; omega⟩) hlen hS (by omega) I.sz (Nat.ne_of_gt I.lt)
      (fun y c e z => ?_) (fun p hp z => ?_) _ 0 _ H #[] 0 [] rfl (Nat.zero_le _) g (I1.pins_of fun p hp => ?_) hp rs rfl (by simp) (fun s' H' u I' he => ?_)
    · obtain ⟨v, hv⟩ := I.cell y c e
      obtain ⟨ob, h1, _⟩ := hv
      exact absurd (Heap.lt_size h1) (by rw [z]; exact Nat.lt_irrefl _)
    · have := (I.pin p hp).1
      exact absurd (Heap.lt_size this) (by rw [z]; exact Nat.lt_irrefl _)
    · rcases List.mem_cons.mp hp with rfl | hp
      · exact ⟨Heap.get?_push_size _ rfl, I.hok.fresh (Nat.le_refl _), Nat.ne_of_gt I.lt, I.nofs (Nat.le_refl _), fun _ z => nomatch z⟩
      · obtain ⟨q1, q2⟩ := I.pin p (List.mem_append_right _ hp)
        exact ⟨Heap.get?_push_of_some _ q1, q2⟩
    · exact ⟨_, _, rfl, .str (listText ts), H', I', ⟨u, rfl⟩, q H' he⟩
end
end TL
set_option Elab.async false
set_option linter.all false
set_option maxRecDepth 100000
set_option autoImplicit false
set_option maxHeartbeats 1000000
/-! TL20: small data: what repr and == ask of it, at one stroke. -/
namespace TL
open PySem L2
mutual
/-- ints of less than 600 binary digits, texts of real signs -/
def D.Ok : D → Prop
  | .int i => i.natAbs.log2 < 600
  | .str x => PyData.strOk x = true
  | .non => True
  | .bl _ => True
  | .lst xs => D.Oks xs
  | .tup xs => D.Oks xs
  | _ => False
def D.Oks : List D → Prop
  | [] => True
  | x :: xs => D.Ok x ∧ D.Oks xs
end
mutual
def D.wt : D → Nat
  | .int _ => 700
  | .str x => x.length
  | .lst xs => D.wts xs
  | .tup xs => D.wts xs
  | _ => 0
def D.wts : List D → Nat
  | [] => 0
  | x :: xs => D.wt x + 1 + D.wts xs
end
mutual
theorem D.Ok.data : ∀ (d : D), d.Ok → d.isData = true
  | .int _, _ | .str _, _ | .non, _ | .bl _, _ => rfl
  | .lst xs, h => D.Oks.data xs h
  | .tup xs, h => D.Oks.data xs h
  | .scr _ _ _, h | .ins _ _ _, h | .vl _, h => False.elim h
theorem D.Oks.data : ∀ (xs : List D), D.Oks xs → D.areData xs = true
  | [], _ => rfl
  | x :: xs, h => by
    show (x.isData && D.areData xs) = true
    rw [D.Ok.data x h.1, D.Oks.data xs h.2]; rfl
end
mutual
theorem D.Ok.show : ∀ (d : D), d.Ok → d.py.showable = true
  | .int i, h => decide_eq_true (Nat.lt_of_lt_of_le h (by decide))
  | .str _, _ | .non, _ | .bl _, _ => rfl
  | .lst xs, h => D.Oks.show xs h
  | .tup xs, h => D.Oks.show xs h
  | .scr _ _ _, h | .ins _ _ _, h | .vl _, h => False.elim h
theorem D.Oks.show : ∀ (xs : List D), D.Oks xs → PyData.showableAll (D.pys xs) = true
  | [], _ => rfl
  | x :: xs, h => by
    show (x.py.showable && PyData.showableAll (D.pys xs)) = true
    rw [D.Ok.show x h.1, D.Oks.show xs h.2]; rfl
end
mutual
theorem D.Ok.nod : ∀ (d : D), d.Ok → d.py.hasDict = false
  | .int _, _ | .str _, _ | .non, _ | .bl _, _ => rfl
  | .lst xs, h => D.Oks.nod xs h
  | .tup xs, h => D.Oks.nod xs h
  | .scr _ _ _, h | .ins _ _ _, h | .vl _, h => False.elim h
theorem D.Oks.nod : ∀ (xs : List D), D.Oks xs → PyData.hasDictAll (D.pys xs) = false
  | [], _ => rfl
  | x :: xs, h => by
    show (x.py.hasDict || PyData.hasDictAll (D.pys xs)) = false
    rw [D.Ok.nod x h.1, D.Oks.nod xs h.2]; rfl
end
mutual
theorem D.Ok.lay : ∀ (d : D), d.Ok → d.py.canLay0 = true
  | .str _, h => h
  | .int _, _ | .non, _ | .bl _, _ => rfl
  | .lst xs, h => D.Oks.lay xs h
  | .tup xs, h => D.Oks.lay xs h
  | .scr _ _ _, h | .ins _ _ _, h | .vl _, h => False.elim h
theorem D.Oks.lay : ∀ (xs : List D), D.Oks xs → PyData.canLayAll0 (D.pys xs) = true
  | [], _ => rfl
  | x :: xs, h => by
    show (x.py.canLay0 && PyData.canLayAll0 (D.pys xs)) = true
    rw [D.Ok.lay x h.1, D.Oks.lay xs h.2]; rfl
end
theorem short_str {x : Str} (h : PyData.strOk x = true) : (x.cps.toList.all fun c => decide (c < 16 ^ 8)) = true := by
  rw [List.all_eq_true]
  intro c hc
  unfold PyData.strOk at h
  rw [Array.all_eq_true_iff_forall_mem] at h
  have := of_decide_eq_true (h c (by simpa using hc))
  exact decide_eq_true (by omega)
mutual
theorem D.Ok.leaves : ∀ (d : D), d.Ok → d.py.leavesShort 700 = true
  | .int i, h => by
    show decide ((Str.ofString (toString i)).length ≤ 700) = true
    have h1 := int_text_length_le (a := i) (k := 600) (by decide) h
    refine decide_eq_true ?_
    have e : (Str.ofString (toString i)).length = (toString i).length := by
      rw [Str.ofString_eq_toList]
      simp only [Str.length, List.size_toArray, List.length_map]
      exact String.length_toList
    omega
  | .str _, h => short_str h
  | .non, _ | .bl _, _ => rfl
  | .lst xs, h => D.Oks.leaves xs h
  | .tup xs, h => D.Oks.leaves xs h
  | .scr _ _ _, h | .ins _ _ _, h | .vl _, h => False.elim h
theorem D.Oks.leaves : ∀ (xs : List D), D.Oks xs → PyData.leavesShortAll 700 (D.pys xs) = true
  | [], _ => rfl
  | x :: xs, h => by
    show (x.py.leavesShort 700 && PyData.leavesShortAll 700 (D.pys xs)) = true
    rw [D.Ok.leaves x h.1, D.Oks.leaves xs h.2]; rfl
end
mutual
theorem D.Ok.weight : ∀ (d : D), d.Ok → d.py.weight ≤ d.wt
  | .int i, h => by
    show (if i == 0 then 0 else i.natAbs.log2 + 1) ≤ 700
    have h' : i.natAbs.log2 < 600 := h
    split <;> omega
  | .str x, _ => Nat.le_refl _
  | .non, _ | .bl _, _ => Nat.zero_le _
  | .lst xs, h => D.Oks.weight xs h
  | .tup xs, h => D.Oks.weight xs h
  | .scr _ _ _, h | .ins _ _ _, h | .vl _, h => False.elim h
theorem D.Oks.weight : ∀ (xs : List D), D.Oks xs → PyData.weightAll (D.pys xs) ≤ D.wts xs
  | [], _ => Nat.le_refl _
  | x :: xs, h => by
    have h1 := D.Ok.weight x h.1
    have h2 := D.Oks.weight xs h.2
    show x.py.weight + 1 + PyData.weightAll (D.pys xs) ≤ D.wt x + 1 + D.wts xs
    omega
end
theorem D.Ok.len {d : D} (h : d.Ok) (hw : d.wt ≤ 20000) : d.py.shown.length ≤ sizeLine := by
  have h1 := PyData.shown_le 700 (by decide) d.py (D.Ok.leaves d h)
  have h2 := D.Ok.weight d h
  rw [sizeLine_eq]
  have h3 : (700 + 2) * d.py.weight ≤ (700 + 2) * 20000 := Nat.mul_le_mul_left _ (Nat.le_trans h2 hw)
  omega
theorem D.Ok.shaped {d : D} (h : d.Ok) (hd : d.py.depth ≤ 64) : SeqAt.shaped d.py = true := by
  show (d.py.canLay0 && decide (d.py.depth ≤ 64)) = true
  rw [D.Ok.lay d h, decide_eq_true hd]; rfl
section
variable {X : Cx} {e a b : Expr} {δ δ1 δ2 : TL.Env} {d x y : D} {pos p : Pos}
/-- repr(e) of small data -/
theorem tr_reprD (hm : X.mg "repr" = none) (gd : X.A.guards = some []) (hu : X.A.units + 64 < cLine) (h : TR X e δ d δ1) (ok : d.Ok) (hw : d.wt ≤ 20000) (hl : (∃ xs, d = .lst xs) ∨ ∃ xs, d = .tup xs) (hd : d.py.depth ≤ 60) (hg : Gl X "repr" := by rfl)
    (hs : starEach [e] X.env = (false, eval e X.env) :: starEach [] X.env := by rfl) : TR X (.Call (.Name "repr" p) [e] [] pos) δ (.str d.py.shown) δ1 :=
  tr_callB (call_reprD gd hu) hm (by decide +kernel) (ta_cons h ta_nil hs) (ca_repr (D.Ok.data d ok) hl (D.Ok.show d ok) (D.Ok.nod d ok) hd (ok.len hw)) hg (by decide) (by decide) hs rfl
/-- a == b of small data -/
theorem tr_eqOk (ha : TR X a δ x δ1) (hb : TR X b δ1 y δ2) (hu : X.A.units + 64 < cLine) (hx : x.Ok) (hy : y.Ok) (dx : x.py.depth ≤ 64) (dy : y.py.depth ≤ 64) : TR X (.Compare a [.Eq] [b] pos) δ (.bl (PyData.eqv x.py y.py)) δ2 :=
  tr_eqD ha hb hu (D.Ok.data x hx) (D.Ok.data y hy) (hx.shaped dx) (hy.shaped dy)
end
end TL
set_option Elab.async false
set_option linter.all false
set_option maxRecDepth 100000
set_option autoImplicit false
set_option maxHeartbeats 1000000
/-! REa: a program's text without places (E, C), what it does over trees (ee, evC, Tn). -/
namespace RE
open PySem L2 TL
open Classical

/-- an exception: its class, its fields -/
structure Xn where
  C : Addr
  ns : List Str
  ds : List D
/-- what an expression gives: data, a new list, an exception -/
inductive Rz where
  | im (d : D) | fr (xs : List D) | ex (x : Xn)
/-- gk: it is known that no repr is under way; calm: no exception is handled -/
structure Md where
  gk : Bool
  calm : Bool
inductive Bt where
  | abs | int | len | str | repr | bool | all | any | max | min
inductive Ty where
  | int | bool | str | tuple | list
/-- what a for stores into: a name, a tuple of names -/
inductive Tg where
  | one (i : Nat) | tup (is : List Nat)
/-- what is walked: a list, tuple or text; range(..); zip(a, b); enumerate(a) -/
inductive Ik where
  | seq | rng | zip | enu
inductive E where
  | var (i : Nat) | glo (n : Str) | int (i : Int) | str (s : Str) | bl (b : Bool) | non
  | bin (op : Operator) (a b : E) | neg (a : E) | nt (a : E) | bop (isAnd : Bool) (es : List E)
  | ifx (c a b : E) | cmp (op : CmpOp) (a b : E)
  | call (f : Str) (as : List E) (kn : List Str) (kv : List E)
  | callO (f : Str) (i : Nat) (as : List E) | callF (f : Str) (a : E) (as : List E)
  | blt (b : Bt) (as : List E) | isT (a : E) (t : Ty) | isC (a : E) (c : Str)
  | meth (o : E) (m : Str) (as : List E) (kn : List Str) (kv : List E)
  | att (o : E) (f : Str) | attO (i : Nat) (f : Str)
  | sub (o i : E) | subO (n : Nat) (i : E) | slL (o a : E) | slH (o a : E)
  | lst (es : List E) | tup (es : List E)
  | lc (g : Tg) (k : Ik) (its ifs : List E) (elt : E)
  | fst (es : List E) | fmt (e : E)
inductive C where
  | ret (e : E) | retN | exp (e : E) | set (i : Nat) (e : E) | par (is : List Nat) (es : List E)
  | sto (n : Nat) (i e : E) | fld (n : Nat) (f : Str) (e : E)
  | ifs (c : E) (a b : List C) | whl (c : E) (b : List C)
  | for_ (g : Tg) (k : Ik) (its : List E) (b : List C) | pass | bad
/-- a def's text: its parameters, all its names, whether all parameters may be given by place -/
structure Fc where
  ps : List Str
  N : List Str
  po : Bool
  body : List C

/-! ### what is known of the program -/
inductive Gk where
  | fn (q : Str) | cls (A : Addr) (q : Str) | val (d : D)
def isCal : Option Gk → Bool
  | some (.fn _) => true
  | some (.cls _ _) => true
  | _ => false
/-- which parameter gets which argument, or which default -/
abbrev Pat := List (Sum Nat D)
structure Gx where
  K : PySem.W.Frag
  fns : Str → Option Fc
  glo : Str → Option Gk
  pat : Str → Nat → List Str → Option Pat
  prop : Addr → Str → Option Str
  meth : Addr → Str → Option Str
  own : Addr → Str → Option Str
  ri : Addr → Operator → Bool
  fld : Addr → Str → Bool
  isT : Addr → Ty → Option Bool
  isC : Addr → Addr → Option Bool
  nf : Addr → D → Bool
abbrev Tb := Md → Str → List S → Option (Rz × List S)
noncomputable def req {α : Type} (p : Prop) (x : Option α) : Option α := if p then x else none
theorem req_pos {α : Type} {p : Prop} {x : Option α} (h : p) : req p x = x := if_pos h
theorem req_some {α : Type} {p : Prop} {x : Option α} {y : α} (h : req p x = some y) : p ∧ x = some y := by
  unfold req at h
  split at h
  · exact ⟨by assumption, h⟩
  · cases h
def Rz.d : Rz → Option D
  | .im d => some d
  | .fr xs => some (.lst xs)
  | .ex _ => none
def argsOf : Pat → List D → Option (List D)
  | [], _ => some []
  | .inl i :: p, ds => (ds[i]?).bind fun d => (argsOf p ds).map (d :: ·)
  | .inr d :: p, ds => (argsOf p ds).map (d :: ·)
/-- the pattern behind self -/
def behind : Pat → Option Pat
  | [] => some []
  | .inl 0 :: _ => none
  | .inl (i + 1) :: p => (behind p).map (.inl i :: ·)
  | .inr d :: p => (behind p).map (.inr d :: ·)
section
variable (G : Gx) (T : Tb) (md : Md)
/-- a def called with data -/
def callD (q : Str) (ds : List D) : Option Rz := (G.fns q).bind fun f => if f.po = true then (T md q (ds.map S.im)).map (·.1) else none
noncomputable def eqD (x y : D) : Option Bool :=
  match x with
  | .ins A ns ds => match G.own A "__eq__" with
    | some q => req (G.nf A y = true) (match callD G T md q [.ins A ns ds, y] with
      | some (.im (.bl b)) => some b
      | _ => none)
    | none => none
  | .int i => match y with
    | .int j => some (decide (i = j))
    | _ => none
  | .str i => match y with
    | .str j => some (decide (i = j))
    | _ => none
  | x => req (x.Ok ∧ y.Ok ∧ x.py.depth ≤ 64 ∧ y.py.depth ≤ 64) (some (PyData.eqv x.py y.py))
def nonD : D → Option Bool
  | .non => some true
  | .vl _ => none
  | _ => some false
noncomputable def cmpD (op : CmpOp) (x y : D) : Option Bool :=
  match op with
  | .Eq => eqD G T md x y
  | .NotEq => (eqD G T md x y).map (!·)
  | .Lt => match x, y with
    | .int i, .int j => some (decide (i < j))
    | _, _ => none
  | .LtE => match x, y with
    | .int i, .int j => some (decide (i ≤ j))
    | _, _ => none
  | .Gt => match x, y with
    | .int i, .int j => some (decide (j < i))
    | _, _ => none
  | .GtE => match x, y with
    | .int i, .int j => some (decide (j ≤ i))
    | _, _ => none
  | .Is => match y with
    | .non => nonD x
    | _ => none
  | .IsNot => match y with
    | .non => (nonD x).map (!·)
    | _ => none
  | _ => none
def CDiv (j : Int) : Prop := j ≠ 0 ∧ j.natAbs.log2 < 9000
def CPow (i j : Int) : Prop := 0 ≤ j ∧ j ≤ 1000000 ∧ i.natAbs < 2 ^ 64
noncomputable def intOp (op : Operator) (i j : Int) : Option D :=
  match op with
  | .Add => some (.int (i + j))
  | .Sub => some (.int (i - j))
  | .Mult => req (CMulW i j) (some (.int (i * j)))
  | .FloorDiv => req (CDiv j) (some (.int (i.fdiv j)))
  | .Mod => req (0 < j) (some (.int (i % j)))
  | .Pow => req (CPow i j) (some (.int (i ^ j.toNat)))
  | _ => none
def isClsD (A : Addr) : D → Bool
  | .ins B _ _ => decide (B = A)
  | _ => false
def isIntD : D → Bool
  | .int _ => true
  | _ => false
noncomputable def binD (op : Operator) (x y : D) : Option Rz :=
  match x with
  | .int i => match y with
    | .int j => (intOp op i j).map .im
    | _ => none
  | .str a => match op, y with
    | .Add, .str b => req (a.length + b.length ≤ sizeLine) (some (.im (.str (a ++ b))))
    | _, _ => none
  | .lst xs => match op, y with
    | .Add, .lst ys => req (xs.length + ys.length ≤ 100000) (some (.fr (xs ++ ys)))
    | _, _ => none
  | .ins A ns ds => match G.own A (PySem.dunder op.info.2) with
    | some q => req (isClsD A y = true ∨ (isIntD y = true ∧ G.ri A op = true)) (callD G T md q [.ins A ns ds, y])
    | none => none
  | _ => none
def negD (x : D) : Option Rz :=
  match x with
  | .int i => some (.im (.int (-i)))
  | .ins A ns ds => match G.own A "__neg__" with
    | some q => callD G T md q [.ins A ns ds]
    | none => none
  | _ => none
/-- the truth of data -/
def truD (x : D) : Option Bool :=
  match x with
  | .bl b => some b
  | .lst xs => some (!xs.isEmpty)
  | _ => none
def isTD (t : Ty) (x : D) : Option Bool :=
  match x with
  | .ins A _ _ => G.isT A t
  | .non => some false
  | .int _ => some (match t with | .int => true | _ => false)
  | .bl _ => some (match t with | .int => true | .bool => true | _ => false)
  | .str _ => some (match t with | .str => true | _ => false)
  | .lst _ => some (match t with | .list => true | _ => false)
  | .tup _ => some (match t with | .tuple => true | _ => false)
  | _ => none
def isCD (B : Addr) (x : D) : Option Bool :=
  match x with
  | .ins A _ _ => G.isC A B
  | .non => some false
  | .int _ => some false
  | .bl _ => some false
  | .str _ => some false
  | .lst _ => some false
  | .tup _ => some false
  | _ => none
def bools : List D → Option (List Bool)
  | [] => some []
  | .bl b :: r => (bools r).map (b :: ·)
  | _ => none
/-- an item's text within a repr -/
noncomputable def shD (x : D) : Option Str :=
  match x with
  | .int i => req (i.natAbs.log2 < 1920) (some (toString i))
  | .ins A ns ds => match G.own A "__repr__" with
    | some q => match callD G T ⟨false, md.calm⟩ q [.ins A ns ds] with
      | some (.im (.str t)) => some t
      | _ => none
    | none => none
  | _ => none
noncomputable def reprD (x : D) : Option Str :=
  match x with
  | .ins A ns ds => match G.own A "__repr__" with
    | some q => match callD G T md q [.ins A ns ds] with
      | some (.im (.str t)) => some t
      | _ => none
    | none => none
  | .lst xs => if D.Ok (.lst xs) ∧ D.wt (.lst xs) ≤ 20000 ∧ (D.lst xs).py.depth ≤ 60 then some (D.lst xs).py.shown else
      match xs.mapM (shD G T md) with
      | some ts => req (xs ≠ [] ∧ (listText ts).length ≤ sizeLine) (some (listText ts))
      | none => none
  | .tup xs => req (D.Ok (.tup xs) ∧ D.wt (.tup xs) ≤ 20000 ∧ (D.tup xs).py.depth ≤ 60) (some (D.tup xs).py.shown)
  | _ => none
noncomputable def bltD (b : Bt) (ds : List D) : Option Rz :=
  match b, ds with
  | .abs, [.int i] => some (.im (.int (if i < 0 then -i else i)))
  | .int, [.int i] => some (.im (.int i))
  | .len, [.lst xs] => some (.im (.int xs.length))
  | .len, [.tup xs] => some (.im (.int xs.length))
  | .len, [.scr K _ ns] => req (K = G.K) (some (.im (.int ns.length)))
  | .max, [.int i, .int j] => some (.im (.int (if j > i then j else i)))
  | .min, [.int i, .int j] => some (.im (.int (if j < i then j else i)))
  | .all, [.lst xs] => (bools xs).map fun bs => .im (.bl (bs.all id))
  | .any, [.lst xs] => (bools xs).map fun bs => .im (.bl (bs.any id))
  | .str, [.int i] => req (i.natAbs.log2 < 1920) (some (.im (.str (toString i))))
  | .str, [.ins A ns xs] => match G.own A "__str__" with
    | some q => match callD G T md q [.ins A ns xs] with
      | some (.im (.str t)) => some (.im (.str t))
      | _ => none
    | none => none
  | .bool, [.ins A ns xs] => match G.own A "__bool__" with
    | some q => match callD G T md q [.ins A ns xs] with
      | some (.im (.bl t)) => some (.im (.bl t))
      | _ => none
    | none => none
  | .repr, [x] => req (md.gk = true) ((reprD G T md x).map fun t => .im (.str t))
  | .bool, [.int i] => some (.im (.bl (i != 0)))
  | _, _ => none
def subD (x i : D) : Option D :=
  match x, i with
  | .lst xs, .int j => atI xs j
  | .tup xs, .int j => atI xs j
  | _, _ => none
/-- a new instance -/
def makeD (A : Addr) (q : Str) (ds : List D) : Option Rz :=
  match T md q (.own (.ins A [] []) :: ds.map S.im) with
  | some (.im .non, .own (.ins B ns ys) :: _) => if B = A then some (.im (.ins A ns ys)) else none
  | some (.ex x, _) => some (.ex x)
  | _ => none
def attD (x : D) (f : Str) : Option Rz :=
  match x with
  | .ins A ns ds => match G.prop A f with
    | some q => (callD G T ⟨false, md.calm⟩ q [.ins A ns ds]).bind fun r => r.d.map .im
    | none => if G.fld A f = true then ((ns.zip ds).lookup f).map .im else none
  | _ => none
end

/-! ### expressions -/
/-- what goes on with the data that a part gives -/
def bR {α : Type} (o : Option (Rz × TL.Env)) (kx : Xn → TL.Env → Option α) (k : D → TL.Env → Option α) : Option α :=
  match o with
  | none => none
  | some (.ex x, δ) => kx x δ
  | some (.im d, δ) => k d δ
  | some (.fr xs, δ) => k (.lst xs) δ
abbrev xR (x : Xn) (δ : TL.Env) : Option (Rz × TL.Env) := some (.ex x, δ)
def bA (o : Option (Sum (List D) Xn × TL.Env)) (k : List D → TL.Env → Option (Rz × TL.Env)) : Option (Rz × TL.Env) :=
  match o with
  | none => none
  | some (.inr x, δ) => some (.ex x, δ)
  | some (.inl ds, δ) => k ds δ
/-- .. that have to be truths -/
def bB (o : Option (Rz × TL.Env)) (k : Bool → TL.Env → Option (Rz × TL.Env)) : Option (Rz × TL.Env) :=
  match o with
  | some (.ex x, δ) => some (.ex x, δ)
  | some (.im (.bl b), δ) => k b δ
  | _ => none
/-- a value goes to a target -/
def setAll (δ : TL.Env) : List Nat → List D → TL.Env
  | i :: is, d :: ds => setAll (δ.set i (some (.im d))) is ds
  | _, _ => δ
def isOwn (δ : TL.Env) (i : Nat) : Bool :=
  match δ[i]? with
  | some (some (.own _)) => true
  | _ => false
def Tg.is : Tg → List Nat
  | .one i => [i]
  | .tup is => is
def setTg (δ : TL.Env) (g : Tg) (d : D) : Option TL.Env :=
  match g with
  | .one i => if isOwn δ i = true then none else some (δ.set i (some (.im d)))
  | .tup is => match d with
    | .tup ds => if is.length = ds.length ∧ is.any (isOwn δ) = false then some (setAll δ is ds) else none
    | _ => none
/-- the slots are blank -/
def blank (δ : TL.Env) (is : List Nat) : Bool := is.all fun i => match δ[i]? with
  | some none => true
  | _ => false
def wipeT (δ : TL.Env) : List Nat → TL.Env
  | [] => δ
  | i :: is => (wipeT δ is).set i none
/-- the tests of a comprehension -/
def tsts (fs : List (TL.Env → Option (Rz × TL.Env))) (δ : TL.Env) : Option (Bool × TL.Env) :=
  match fs with
  | [] => some (true, δ)
  | [f] => match f δ with
    | some (.im (.bl b), δ1) => some (b, δ1)
    | _ => none
  | _ => none
/-- [e for g in xs if ..] -/
noncomputable def lcGo (f : TL.Env → Option (Rz × TL.Env)) (t : TL.Env → Option (Bool × TL.Env)) (g : Tg) : List D → TL.Env → Option (List D × TL.Env)
  | [], δ => some ([], δ)
  | x :: xs, δ => match setTg δ g x with
    | none => none
    | some δ0 => match t δ0 with
      | none => none
      | some (b, δt) => match b with
        | false => lcGo f t g xs (wipeT δt g.is)
        | true => bR (f δt) (fun _ _ => none) fun y δ1 => match lcGo f t g xs (wipeT δ1 g.is) with
          | some (ys, δ2) => some (y :: ys, δ2)
          | none => none
noncomputable def lcD (f : TL.Env → Option (Rz × TL.Env)) (t : TL.Env → Option (Bool × TL.Env)) (g : Tg) (xs : List D) (δ : TL.Env) : Option (Rz × TL.Env) :=
  req (blank δ g.is = true ∧ xs.length ≤ 100000) ((lcGo f t g xs δ).map fun p => (.fr p.1, p.2))
def sgn (x : Str) : List D := x.cps.toList.map fun c => .str ⟨#[c]⟩
noncomputable def seqD (KK : PySem.W.Frag) : D → Option (List D)
  | .scr K _ ns => req (K = KK) (some (ns.map D.int))
  | .lst xs => some xs
  | .tup xs => some xs
  | .str x => some (sgn x)
  | _ => none
def rngD (a b : Int) : List D := (List.range (b - a).toNat).map fun (j : Nat) => D.int (a + j)
/-- what is walked -/
noncomputable def itD (KK : PySem.W.Frag) : Ik → List D → Option (List D)
  | .seq, [d] => seqD KK d
  | .rng, [.int b] => req (-(2 ^ 62) ≤ b ∧ b < 2 ^ 62) (some (rngD 0 b))
  | .rng, [.int a, .int b] => req (-(2 ^ 62) ≤ a ∧ a < 2 ^ 62 ∧ -(2 ^ 62) ≤ b ∧ b < 2 ^ 62) (some (rngD a b))
  | _, _ => none
def cat (l : List Str) : Str := l.foldl (· ++ ·) Str.empty
def strD : List D → Option (List Str)
  | [] => some []
  | .str t :: r => (strD r).map (t :: ·)
  | _ => none
/-- each sum of the first ones is a text of bounded length -/
def catOk (acc : Str) : List Str → Prop
  | [] => True
  | t :: r => (acc ++ t).length ≤ sizeLine ∧ catOk (acc ++ t) r
/-- as a value, as a test -/
def fin (tst : Bool) (o : Option (Rz × TL.Env)) : Option (Rz × TL.Env) :=
  match tst with
  | false => o
  | true => bR o xR fun d δ => (truD d).map fun b => (.im (.bl b), δ)
def ownCall (o : Option (Rz × List S)) (i : Nat) (δ : TL.Env) : Option (Rz × TL.Env) :=
  match o with
  | some (.im d, .own oc2 :: _) => some (.im d, δ.set i (some (.own oc2)))
  | some (.fr xs, .own oc2 :: _) => some (.im (.lst xs), δ.set i (some (.own oc2)))
  | some (.ex x, .own oc2 :: _) => some (.ex x, δ.set i (some (.own oc2)))
  | _ => none
def frCall (o : Option (Rz × List S)) (δ : TL.Env) : Option (Rz × TL.Env) :=
  match o with
  | some (.im d, .own _ :: _) => some (.im d, δ)
  | some (.fr xs, .own _ :: _) => some (.im (.lst xs), δ)
  | some (.ex x, .own _ :: _) => some (.ex x, δ)
  | _ => none
section
variable (G : Gx) (T : Tb) (md : Md)
/-- a name of the module called with data -/
def gloCall (f : Str) (n : Nat) (kn : List Str) (ds : List D) : Option Rz :=
  match G.glo f with
  | some (.fn q) => (G.pat q n kn).bind fun p => (argsOf p ds).bind fun zs => (T md q (zs.map S.im)).map (·.1)
  | some (.cls A q) => (G.pat q (n + 1) kn).bind fun p => match p with
    | .inl 0 :: p => (behind p).bind fun p => (argsOf p ds).bind fun zs => makeD T md A q zs
    | _ => none
  | _ => none
noncomputable def methCall (x : D) (m : Str) (n : Nat) (kn : List Str) (ds : List D) : Option Rz :=
  match x with
  | .ins A ns xs => (G.meth A m).bind fun q => (G.pat q (n + 1) kn).bind fun p => req ((ns.zip xs).lookup m = none) ((argsOf p (.ins A ns xs :: ds)).bind fun zs => (T md q (zs.map S.im)).map (·.1))
  | _ => none
end
mutual
noncomputable def ee (G : Gx) (T : Tb) (md : Md) : Bool → E → TL.Env → Option (Rz × TL.Env)
  | tst, .var i, δ => fin tst (match δ[i]? with
    | some (some (.im d)) => some (.im d, δ)
    | _ => none)
  | tst, .glo n, δ => fin tst (match G.glo n with
    | some (.val d) => some (.im d, δ)
    | _ => none)
  | tst, .int i, δ => fin tst (some (.im (.int i), δ))
  | tst, .str s, δ => fin tst (some (.im (.str s), δ))
  | tst, .bl b, δ => fin tst (some (.im (.bl b), δ))
  | tst, .non, δ => fin tst (some (.im .non, δ))
  | tst, .bin op a b, δ => fin tst (bR (ee G T md false a δ) xR fun x δ1 => bR (ee G T md false b δ1) xR fun y δ2 => (binD G T md op x y).map (·, δ2))
  | tst, .neg a, δ => fin tst (bR (ee G T md false a δ) xR fun x δ1 => (negD G T md x).map (·, δ1))
  | tst, .nt a, δ => bB (ee G T md tst a δ) fun b δ1 => some (.im (.bl (!b)), δ1)
  | tst, .bop isAnd es, δ => ebs G T md tst isAnd es δ
  | tst, .ifx c a b, δ => match tst with
    | true => none
    | false => bB (ee G T md true c δ) fun k δ1 => if k then ee G T md false a δ1 else ee G T md false b δ1
  | tst, .cmp op a b, δ => fin tst (bR (ee G T md false a δ) xR fun x δ1 => bR (ee G T md false b δ1) xR fun y δ2 => (cmpD G T md op x y).map fun b => (.im (.bl b), δ2))
  | tst, .call f as kn kv, δ => fin tst (if isCal (G.glo f) = true then bA (evs G T md as δ) fun ds δ1 => bA (evs G T md kv δ1) fun es δ2 => (gloCall G T md f as.length kn (ds ++ es)).map (·, δ2) else none)
  | tst, .callO f i as, δ => fin tst (if isOwn δ i = true ∧ isCal (G.glo f) = true then bA (evs G T md as δ) fun ds δ1 => match δ1[i]?, G.glo f with
    | some (some (.own oc)), some (.fn q) => (G.fns q).bind fun f => if f.po = true then ownCall (T md q (.own oc :: ds.map S.im)) i δ1 else none
    | _, _ => none else none)
  | tst, .callF f a as, δ => fin tst (if isCal (G.glo f) = true then match ee G T md false a δ with
    | some (.ex x, δ1) => some (.ex x, δ1)
    | some (.fr xs, δ1) => bA (evs G T md as δ1) fun ds δ2 => match G.glo f with
      | some (.fn q) => (G.fns q).bind fun f => if f.po = true then frCall (T md q (.own (.lst xs) :: ds.map S.im)) δ2 else none
      | _ => none
    | _ => none else none)
  | tst, .blt b as, δ => fin tst (bA (evs G T md as δ) fun ds δ1 => (bltD G T md b ds).map (·, δ1))
  | tst, .isT a t, δ => fin tst (bR (ee G T md false a δ) xR fun x δ1 => (isTD G t x).map fun b => (.im (.bl b), δ1))
  | tst, .isC a c, δ => fin tst (bR (ee G T md false a δ) xR fun x δ1 => match G.glo c with
    | some (.cls B _) => (isCD G B x).map fun b => (.im (.bl b), δ1)
    | _ => none)
  | tst, .meth o m as kn kv, δ => fin tst (bR (ee G T md false o δ) xR fun x δ0 => bA (evs G T md as δ0) fun ds δ1 => bA (evs G T md kv δ1) fun es δ2 => (methCall G T md x m as.length kn (ds ++ es)).map (·, δ2))
  | tst, .att o f, δ => fin tst (bR (ee G T md false o δ) xR fun x δ1 => (attD G T md x f).map (·, δ1))
  | tst, .attO n f, δ => fin tst (match δ[n]? with
    | some (some (.own (.ins A ns ds))) => if G.fld A f = true then ((ns.zip ds).lookup f).map fun d => (.im d, δ) else none
    | _ => none)
  | tst, .sub o i, δ => fin tst (bR (ee G T md false o δ) xR fun x δ1 => bR (ee G T md false i δ1) xR fun y δ2 => (subD x y).map fun d => (.im d, δ2))
  | tst, .subO n i, δ => fin tst (if isOwn δ n = true then bR (ee G T md false i δ) xR fun y δ1 => match y, δ1[n]? with
    | .int j, some (some (.own (.lst xs))) => (atI xs j).map fun d => (.im d, δ1)
    | _, _ => none else none)
  | tst, .slL o a, δ => fin tst (match ee G T md false o δ with
    | some (r1, δ1) => match r1.d with
      | some x => match ee G T md false a δ1 with
        | some (r2, δ2) => match x, r2.d with
          | .scr K q ns, some (.int i) => req (K = G.K) (some (.fr ((ns.drop (HT.sIx ns.length 0 (some i))).map D.int), δ2))
          | _, _ => none
        | none => none
      | none => none
    | none => none)
  | tst, .slH o a, δ => fin tst (match ee G T md false o δ with
    | some (r1, δ1) => match r1.d with
      | some x => match ee G T md false a δ1 with
        | some (r2, δ2) => match x, r2.d with
          | .scr K q ns, some (.int i) => req (K = G.K) (some (.fr ((ns.take (HT.sIx ns.length ns.length (some i))).map D.int), δ2))
          | _, _ => none
        | none => none
      | none => none
    | none => none)
  | tst, .lst es, δ => fin tst (bA (evs G T md es δ) fun ds δ1 => req (ds.length ≤ 100000) (some (.fr ds, δ1)))
  | tst, .tup es, δ => fin tst (bA (evs G T md es δ) fun ds δ1 => req (ds.length ≤ 100000) (some (.im (.tup ds), δ1)))
  | tst, .lc g k its ifs elt, δ => fin tst (match evs G T md its δ with
    | some (.inl ds, δ1) => (itD G.K k ds).bind fun xs => lcD (ee G T md false elt) (tsts (ets G T md ifs)) g xs δ1
    | _ => none)
  | tst, .fst es, δ => fin tst (match evs G T md es δ with
    | some (.inl ds, δ1) => (strD ds).bind fun ts => req (catOk Str.empty ts) (some (.im (.str (cat ts)), δ1))
    | _ => none)
  | tst, .fmt e, δ => fin tst (bR (ee G T md false e δ) xR fun x δ1 => match x with
    | .int i => req (i.natAbs.log2 < 1920) (some (.im (.str (toString i)), δ1))
    | .str t => req (t.length ≤ sizeLine) (some (.im (.str t), δ1))
    | _ => none)
termination_by structural _ e => e
noncomputable def evs (G : Gx) (T : Tb) (md : Md) : List E → TL.Env → Option (Sum (List D) Xn × TL.Env)
  | [], δ => some (.inl [], δ)
  | e :: es, δ => bR (ee G T md false e δ) (fun x δ1 => some (.inr x, δ1)) fun d δ1 => match evs G T md es δ1 with
    | some (.inr x, δ2) => some (.inr x, δ2)
    | some (.inl ds, δ2) => some (.inl (d :: ds), δ2)
    | none => none
termination_by structural es => es
/-- tests, one by one -/
noncomputable def ets (G : Gx) (T : Tb) (md : Md) : List E → List (TL.Env → Option (Rz × TL.Env))
  | [] => []
  | e :: es => ee G T md true e :: ets G T md es
termination_by structural es => es
/-- a and b and .., a or b or .. -/
noncomputable def ebs (G : Gx) (T : Tb) (md : Md) : Bool → Bool → List E → TL.Env → Option (Rz × TL.Env)
  | _, _, [], _ => none
  | tst, isAnd, e :: es, δ => match es with
    | [] => bB (ee G T md tst e δ) fun k δ1 => some (.im (.bl k), δ1)
    | _ :: _ => bB (ee G T md tst e δ) fun k δ1 => if k = isAnd then ebs G T md tst isAnd es δ1 else some (.im (.bl (!isAnd)), δ1)
termination_by structural _ _ es => es
end

/-! ### statements -/
inductive Ou where
  | nx (δ : TL.Env) | rt (r : Rz) (δ : TL.Env) | bk (δ : TL.Env) | ct (δ : TL.Env) | xc (x : Xn) (δ : TL.Env)
noncomputable def whlGo (c : TL.Env → Option (Rz × TL.Env)) (b : TL.Env → Option Ou) : Nat → TL.Env → Option Ou
  | 0, _ => none
  | n + 1, δ => match c δ with
    | some (.ex x, δ1) => some (.xc x δ1)
    | some (.im (.bl true), δ1) => match b δ1 with
      | some (.nx δ2) => whlGo c b n δ2
      | some (.ct δ2) => whlGo c b n δ2
      | some (.bk δ2) => some (.nx δ2)
      | o => o
    | some (.im (.bl false), δ1) => some (.nx δ1)
    | _ => none
noncomputable def forGo (b : TL.Env → Option Ou) (g : Tg) : List D → TL.Env → Option Ou
  | [], δ => some (.nx δ)
  | x :: xs, δ => match setTg δ g x with
    | none => none
    | some δ0 => match b δ0 with
      | some (.nx δ2) => forGo b g xs δ2
      | some (.ct δ2) => forGo b g xs δ2
      | some (.bk δ2) => some (.nx δ2)
      | o => o
/-- turns enough for every loop -/
@[irreducible] def turns : Nat := 2 ^ 100000
mutual
noncomputable def evC (G : Gx) (T : Tb) (md : Md) : C → TL.Env → Option Ou
  | .ret e, δ => match ee G T md false e δ with
    | some (.ex x, δ1) => some (.xc x δ1)
    | some (r, δ1) => some (.rt r δ1)
    | none => none
  | .retN, δ => some (.rt (.im .non) δ)
  | .exp e, δ => bR (ee G T md false e δ) (fun x δ1 => some (.xc x δ1)) fun _ δ1 => some (.nx δ1)
  | .set i e, δ => bR (ee G T md false e δ) (fun x δ1 => some (.xc x δ1)) fun d δ1 => if isOwn δ1 i = true then none else some (.nx (δ1.set i (some (.im d))))
  | .par is es, δ => match evs G T md es δ with
    | some (.inr x, δ1) => some (.xc x δ1)
    | some (.inl ds, δ1) => if is.any (isOwn δ1) = true then none else some (.nx (setAll δ1 is ds))
    | none => none
  | .sto n i e, δ => bR (ee G T md false e δ) (fun x δ1 => some (.xc x δ1)) fun d δ1 => if isOwn δ1 n = true then bR (ee G T md false i δ1) (fun x δ2 => some (.xc x δ2)) fun j δ2 => match j, δ2[n]? with
    | .int j, some (some (.own (.lst xs))) => (ixN xs.length j).map fun k => .nx (δ2.set n (some (.own (.lst (xs.set k d)))))
    | _, _ => none else none
  | .fld n f e, δ => bR (ee G T md false e δ) (fun x δ1 => some (.xc x δ1)) fun d δ1 => match δ1[n]? with
    | some (some (.own (.ins A ns ds))) => req (G.fld A f = true ∧ ns.length < 100) (some (.nx (δ1.set n (some (.own (.ins A (putN f ns) (putD f d ns ds)))))))
    | _ => none
  | .ifs c a b, δ => match ee G T md true c δ with
    | some (.ex x, δ1) => some (.xc x δ1)
    | some (.im (.bl true), δ1) => evB G T md a δ1
    | some (.im (.bl false), δ1) => evB G T md b δ1
    | _ => none
  | .whl c b, δ => whlGo (ee G T md true c) (evB G T md b) turns δ
  | .for_ g k its b, δ => match evs G T md its δ with
    | some (.inr _, _) => none
    | some (.inl ds, δ1) => (itD G.K k ds).bind fun xs => forGo (evB G T md b) g xs δ1
    | none => none
  | .pass, δ => some (.nx δ)
  | .bad, _ => none
termination_by structural c => c
noncomputable def evB (G : Gx) (T : Tb) (md : Md) : List C → TL.Env → Option Ou
  | [], δ => some (.nx δ)
  | c :: cs, δ => match evC G T md c δ with
    | some (.nx δ1) => evB G T md cs δ1
    | o => o
termination_by structural cs => cs
end
/-- the own lists and instances among the arguments, behind the body -/
def backS : List S → TL.Env → Option (List S)
  | [], _ => some []
  | .im d :: r, _ :: δ => (backS r δ).map (.im d :: ·)
  | .own _ :: r, some (.own oc) :: δ => (backS r δ).map (.own oc :: ·)
  | _, _ => none
noncomputable def runF (G : Gx) (T : Tb) (md : Md) (f : Fc) (ss : List S) : Option (Rz × List S) :=
  req (ss.length = f.ps.length) (match evB G T md f.body (env0 f.N ss) with
    | some (.rt (.ex _) _) => none
    | some (.rt r δ) => (backS ss δ).map (r, ·)
    | some (.nx δ) => (backS ss δ).map (.im .non, ·)
    | some (.xc x δ) => (backS ss δ).map (.ex x, ·)
    | _ => none)
/-- the defs, k calls deep -/
noncomputable def Tn (G : Gx) : Nat → Tb
  | 0 => fun _ _ _ => none
  | k + 1 => fun md q ss => (G.fns q).bind fun f => runF G (Tn G k) md f ss
end RE
set_option Elab.async false
set_option linter.all false
set_option maxRecDepth 100000
set_option autoImplicit false
set_option maxHeartbeats 1000000
/-! REb: whether a text without places is that of the machine's text. -/
namespace RE
open PySem L2 TL
def Bt.nm : Bt → Str
  | .abs => "abs" | .int => "int" | .len => "len" | .str => "str" | .repr => "repr" | .bool => "bool" | .all => "all" | .any => "any" | .max => "max" | .min => "min"
def Ty.nm : Ty → Str
  | .int => "int" | .bool => "bool" | .str => "str" | .tuple => "tuple" | .list => "list"
def visB (sc : Scope) (n : Str) : Bool := decide (sc.names.lookup n = some .local) || (decide (sc.names.lookup n = some .cell) || decide (sc.names.lookup n = some .free))
def locB (sc : Scope) (n : Str) : Bool := decide (sc.names.lookup n = some .local)
def glB (sc : Scope) (n : Str) : Bool := decide (sc.names.lookup n = some .globalImplicit) && !(n == ("__debug__" : Str))
def nmB (n : Str) : Bool := !(n == ("__debug__" : Str)) && !(n == ("__classdict__" : Str))
def varB (N : List Str) (sc : Scope) (i : Nat) (n : Str) : Bool := decide (N[i]? = some n) && (visB sc n && nmB n)
def kwB : List Str → List Keyword → Bool
  | [], [] => true
  | k :: ks, w :: ws => decide (w.arg = some k) && kwB ks ws
  | _, _ => false
/-- the names of a for's target, and their slots -/
def tgB (N : List Str) (sc : Scope) : List Nat → List Expr → Bool
  | [], [] => true
  | i :: is, x :: xs => (match x with
    | .Name n _ => decide (N[i]? = some n) && locB sc n
    | _ => false) && tgB N sc is xs
  | _, _ => false
def tgtB (N : List Str) (sc : Scope) (g : Tg) (x : Expr) : Bool :=
  match g with
  | .one i => tgB N sc [i] [x]
  | .tup is => match x with
    | .Tuple xs _ _ => false && tgB N sc is xs
    | _ => false
/-- the names of a target, with their slots -/
def ownOf : List Nat → List Expr → List (Str × Nat)
  | i :: is, .Name n _ :: xs => (n, i) :: ownOf is xs
  | _, _ => []
def ownT (g : Tg) (x : Expr) : List (Str × Nat) :=
  match g with
  | .one i => ownOf [i] [x]
  | .tup is => match x with
    | .Tuple xs _ _ => ownOf is xs
    | _ => []
/-- no f() -/
def notC0 : Expr → Bool
  | .Call (.Name _ _) [] [] _ => false
  | _ => true
def isSetE : Expr → Bool
  | .Set _ _ _ => true
  | _ => false
/-- a comprehension's scope, as it stands in a def's -/
def rel (scope sc : Scope) : Scope := relabel scope { (default : PySem.Env) with scope := sc }
/-- what is walked: its parts, and whether it is so written -/
def itXs : Ik → Expr → List Expr
  | .seq, x => [x]
  | _, .Call _ ys _ _ => ys
  | _, _ => []
def ikN : Ik → Str
  | .seq => "" | .rng => "range" | .zip => "zip" | .enu => "enumerate"
def itB (sc : Scope) (k : Ik) (x : Expr) : Bool :=
  match k with
  | .seq => !isSetE x
  | k => match x with
    | .Call (.Name g _) _ [] _ => decide (g = ikN k) && glB sc (ikN k)
    | _ => false
mutual
def okE (N : List Str) : Scope → E → Expr → Bool
  | sc, .var i, x => match x with
    | .Name n _ => varB N sc i n
    | _ => false
  | sc, .glo n, x => match x with
    | .Name m _ => decide (n = m) && glB sc n
    | _ => false
  | _, .int i, x => match x with
    | .Constant (.int j) _ _ => decide (i = j)
    | _ => false
  | _, .str i, x => match x with
    | .Constant (.str j) _ _ => decide (i = j)
    | _ => false
  | _, .bl i, x => match x with
    | .Constant (.bool j) _ _ => decide (i = j)
    | _ => false
  | _, .non, x => match x with
    | .Constant .none _ _ => true
    | _ => false
  | sc, .bin op a b, x => match x with
    | .BinOp y o z _ => decide (op = o) && (okE N sc a y && okE N sc b z)
    | _ => false
  | sc, .neg a, x => match x with
    | .UnaryOp .USub y _ => okE N sc a y
    | _ => false
  | sc, .nt a, x => match x with
    | .UnaryOp .Not y _ => okE N sc a y
    | _ => false
  | sc, .bop isAnd es, x => match x with
    | .BoolOp .And ys _ => isAnd && okEs N sc es ys
    | .BoolOp .Or ys _ => !isAnd && okEs N sc es ys
    | _ => false
  | sc, .ifx c a b, x => match x with
    | .IfExp y z w _ => okE N sc c y && (okE N sc a z && okE N sc b w)
    | _ => false
  | sc, .cmp op a b, x => match x with
    | .Compare y [o] [z] _ => decide (op = o) && (okE N sc a y && okE N sc b z)
    | _ => false
  | sc, .call f as kn kv, x => match x with
    | .Call (.Name g _) ys ws _ => decide (f = g) && (glB sc f && (okEs N sc as ys && (kwB kn ws && okEs N sc kv (ws.map (·.value)))))
    | _ => false
  | sc, .callO f i as, x => match x with
    | .Call (.Name g _) (.Name n _ :: ys) [] _ => decide (f = g) && (glB sc f && (varB N sc i n && okEs N sc as ys))
    | _ => false
  | sc, .callF f a as, x => match x with
    | .Call (.Name g _) (y :: ys) [] _ => decide (f = g) && (glB sc f && (okE N sc a y && okEs N sc as ys))
    | _ => false
  | sc, .blt b as, x => match x with
    | .Call (.Name g _) ys [] _ => decide (b.nm = g) && (glB sc b.nm && okEs N sc as ys)
    | _ => false
  | sc, .isT a t, x => match x with
    | .Call (.Name g _) [y, .Name m _] [] _ => decide (g = "isinstance") && (glB sc "isinstance" && (okE N sc a y && (decide (m = t.nm) && glB sc t.nm)))
    | _ => false
  | sc, .isC a c, x => match x with
    | .Call (.Name g _) [y, .Name m _] [] _ => decide (g = "isinstance") && (glB sc "isinstance" && (okE N sc a y && (decide (m = c) && glB sc c)))
    | _ => false
  | sc, .meth o m as kn kv, x => match x with
    | .Call (.Attribute y n _) ys ws _ => false && (decide (m = n) && okE N sc o y && (notC0 y && (okEs N sc as ys && (kwB kn ws && okEs N sc kv (ws.map (·.value))))))
    | _ => false
  | sc, .att o f, x => match x with
    | .Attribute y n _ => decide (f = n) && (okE N sc o y && notC0 y)
    | _ => false
  | sc, .attO i f, x => match x with
    | .Attribute (.Name n _) m _ => decide (f = m) && varB N sc i n
    | _ => false
  | sc, .sub o i, x => match x with
    | .Subscript y z _ => okE N sc o y && okE N sc i z
    | _ => false
  | sc, .subO k i, x => match x with
    | .Subscript (.Name n _) z _ => varB N sc k n && okE N sc i z
    | _ => false
  | sc, .slL o a, x => match x with
    | .Subscript y (.Slice (some z) none none _) _ => okE N sc o y && okE N sc a z
    | _ => false
  | sc, .slH o a, x => match x with
    | .Subscript y (.Slice none (some z) none _) _ => okE N sc o y && okE N sc a z
    | _ => false
  | sc, .lst es, x => match x with
    | .List ys _ => okEs N sc es ys
    | _ => false
  | sc, .tup es, x => match x with
    | .Tuple ys _ _ => okEs N sc es ys
    | _ => false
  | sc, .lc g k its ifs elt, x => match x with
    | .ListComp y [⟨t, it, fs, z⟩] scope _ => (decide (z = 0) && decide (fs.length ≤ 1)) && (tgtB N (rel scope sc) g t && (blkC N sc scope (ownT g t) && (itB sc k it && (okEs N sc its (itXs k it) && (okEs N (rel scope sc) ifs fs && okE N (rel scope sc) elt y)))))
    | _ => false
  | sc, .fst es, x => match x with
    | .JoinedStr ys _ => okEs N sc es ys && decide (1 ≤ ys.length)
    | _ => false
  | sc, .fmt e, x => match x with
    | .FormattedValue y c none _ => decide (c = -1) && okE N sc e y
    | _ => false
termination_by structural _ e => e
def okEs (N : List Str) : Scope → List E → List Expr → Bool
  | _, [], ys => match ys with
    | [] => true
    | _ :: _ => false
  | sc, e :: es, ys => match ys with
    | [] => false
    | y :: r => okE N sc e y && okEs N sc es r
termination_by structural _ es => es
end
/-! ### statements -/
def isLc : Expr → Bool
  | .ListComp _ _ _ _ => true
  | .SetComp _ _ _ _ => true
  | .DictComp _ _ _ _ _ => true
  | _ => false
def parB (N : List Str) (sc : Scope) : List Nat → List Expr → Nat → Bool
  | [], [], _ => true
  | i :: is, x :: xs, l => (match x with
    | .Name n p => decide (N[i]? = some n) && (locB sc n && decide (p.line = l))
    | _ => false) && parB N sc is xs l
  | _, _, _ => false
mutual
def okC (N : List Str) (sc : Scope) : C → Stmt → Bool
  | .ret e, x => match x with
    | .Return (some y) _ => okE N sc e y
    | _ => false
  | .retN, x => match x with
    | .Return none _ => true
    | _ => false
  | .exp e, x => match x with
    | .Expr y _ => okE N sc e y && !isLc y
    | _ => false
  | .set i e, x => match x with
    | .Assign [.Name n p] y _ => decide (N[i]? = some n) && ((locB sc n || decide (sc.names.lookup n = some .cell)) && (okE N sc e y && (match y with
      | .ListComp _ _ s q => locB sc n && (decide (sc.kind = .function) && ((p.line == q.line) && !(s.names.any fun (m, k) => m == n && (k == .local || k == .cell))))
      | _ => !isLc y)))
    | _ => false
  | .par is es, x => match x with
    | .Assign [.Tuple xs _ _] (.Tuple ys _ _) _ => parB N sc is xs ((xs.head?.map (·.pos.line)).getD 0) && (okEs N sc es ys && (decide (ys.length = xs.length) && ((decide (xs.length = 2) || decide (xs.length = 3)) && (decide is.Nodup && (!ys.all (foldedForSure 8) && !ys.all (constantsAlone 8))))))
    | _ => false
  | .sto k i e, x => match x with
    | .Assign [.Subscript (.Name n _) z _] y _ => varB N sc k n && (okE N sc i z && (okE N sc e y && !isLc y))
    | _ => false
  | .fld k f e, x => match x with
    | .Assign [.Attribute (.Name n _) m _] y _ => varB N sc k n && (decide (f = m) && (okE N sc e y && !isLc y))
    | _ => false
  | .ifs c a b, x => match x with
    | .If y s t _ => okE N sc c y && (okB N sc a s && okB N sc b t)
    | _ => false
  | .whl c b, x => match x with
    | .While y s [] _ => okE N sc c y && okB N sc b s
    | _ => false
  | .for_ g k its b, x => match x with
    | .For t it s [] _ => tgtB N sc g t && (itB sc k it && (okEs N sc its (itXs k it) && okB N sc b s))
    | _ => false
  | .pass, x => match x with
    | .Pass _ => true
    | _ => false
  | .bad, _ => true
termination_by structural c => c
def okB (N : List Str) (sc : Scope) : List C → List Stmt → Bool
  | [], ys => match ys with
    | [] => true
    | _ :: _ => false
  | c :: cs, ys => match ys with
    | [] => false
    | y :: r => okC N sc c y && okB N sc cs r
termination_by structural cs => cs
end
end RE
set_option Elab.async false
set_option linter.all false
set_option maxRecDepth 100000
set_option autoImplicit false
set_option maxHeartbeats 1000000
/-! REc: judgements that know exceptions; a def's promise; a def's body run; what is known of the world. -/
namespace RE
open PySem PySem.Spec PyProof.Rows L2 TL
/-- an exception's fields stand in its dict -/
def RepX (M : Addr → Prop) (H : Hp) (x : Xn) (dx : Addr) : Prop := ∃ vs, ¬ M dx ∧ H dx = some (.xd (x.ns.zip vs)) ∧ Reps M H x.ds vs
/-- what is wanted where x is raised -/
def Kx (X : Cx) (M W : Addr → Prop) (σ : L2.St) (H : Hp) (δ' : TL.Env) (x : Xn) : Prop :=
  ∃ Wx : WX, Takes X Wx ∧ ∀ dx H', Stp M W σ δ' H H' → RepX M H' x dx → Wx (.ref x.C) (some dx) σ H'
def JX (X : Cx) (e : Expr) (δ : TL.Env) (x : Xn) (δ' : TL.Env) : Prop := ∀ (M W : Addr → Prop) (σ : L2.St) (H : Hp) (Q : VK), Good M W H → EnvR M W H σ δ → Kx X M W σ H δ' x → wE X e σ H Q
def JXT (X : Cx) (e : Expr) (δ : TL.Env) (x : Xn) (δ' : TL.Env) : Prop := ∀ (M W : Addr → Prop) (σ : L2.St) (H : Hp) (Q : Bool → Hp → Prop), Good M W H → EnvR M W H σ δ → Kx X M W σ H δ' x → wT X e σ H Q
def JXA (X : Cx) (es : List Expr) (δ : TL.Env) (x : Xn) (δ' : TL.Env) : Prop := ∀ (M W : Addr → Prop) (σ : L2.St) (H : Hp) (Q : List V → Hp → Prop), Good M W H → EnvR M W H σ δ → Kx X M W σ H δ' x → wA X es σ H Q
def JXK (X : Cx) (es : List Keyword) (δ : TL.Env) (x : Xn) (δ' : TL.Env) : Prop := ∀ (M W : Addr → Prop) (σ : L2.St) (H : Hp) (Q : List V → Hp → Prop), Good M W H → EnvR M W H σ δ → Kx X M W σ H δ' x → wK X es σ H Q
def JE (X : Cx) (e : Expr) (δ : TL.Env) : Rz → TL.Env → Prop
  | .im d, δ' => TR X e δ d δ'
  | .fr xs, δ' => TF X e δ xs δ'
  | .ex x, δ' => JX X e δ x δ'
def JA (X : Cx) (es : List Expr) (δ : TL.Env) : Sum (List D) Xn → TL.Env → Prop
  | .inl ds, δ' => TA X es δ ds δ'
  | .inr x, δ' => JXA X es δ x δ'
def JK (X : Cx) (es : List Keyword) (δ : TL.Env) : Sum (List D) Xn → TL.Env → Prop
  | .inl ds, δ' => TK X es δ ds δ'
  | .inr x, δ' => JXK X es δ x δ'
def JT (X : Cx) (e : Expr) (δ : TL.Env) : Rz → TL.Env → Prop
  | .im (.bl b), δ' => TT X e δ b δ'
  | .ex x, δ' => JXT X e δ x δ'
  | _, _ => True
section
variable {X : Cx} {M W : Addr → Prop} {σ : L2.St} {H H1 : Hp} {δ δ1 δ' : TL.Env} {x : Xn} {e : Expr} {r : Rz} {d : D}
theorem Kx.step (s : Stp M W σ δ1 H H1) (k : Kx X M W σ H δ' x) : Kx X M W σ H1 δ' x := by
  obtain ⟨Wx, tk, h⟩ := k
  exact ⟨Wx, tk, fun dx H' s' r => h dx H' (s.trans s') r⟩
/-- data, new or not -/
theorem JE.tr (h : JE X e δ r δ1) (hd : r.d = some d) : TR X e δ d δ1 := by
  cases r with
  | im d' => cases hd; exact h
  | fr xs => cases hd; exact tr_fr h
  | ex x => cases hd
/-! ### what a part's answer may be -/
theorem bR_some {α : Type} {o : Option (Rz × TL.Env)} {kx : Xn → TL.Env → Option α} {k : D → TL.Env → Option α} {z : α} (h : bR o kx k = some z) :
    (∃ x δ, o = some (.ex x, δ) ∧ kx x δ = some z) ∨ ∃ r d δ, o = some (r, δ) ∧ r.d = some d ∧ k d δ = some z := by
  unfold bR at h
  split at h
  · cases h
  · exact .inl ⟨_, _, rfl, h⟩
  · exact .inr ⟨_, _, _, rfl, rfl, h⟩
  · exact .inr ⟨_, _, _, rfl, rfl, h⟩
theorem bA_some {o : Option (Sum (List D) Xn × TL.Env)} {k : List D → TL.Env → Option (Rz × TL.Env)} {z : Rz × TL.Env} (h : bA o k = some z) :
    (∃ x δ, o = some (.inr x, δ) ∧ z = (.ex x, δ)) ∨ ∃ ds δ, o = some (.inl ds, δ) ∧ k ds δ = some z := by
  unfold bA at h
  split at h
  · cases h
  · cases h; exact .inl ⟨_, _, rfl, rfl⟩
  · exact .inr ⟨_, _, rfl, h⟩
theorem bB_some {o : Option (Rz × TL.Env)} {k : Bool → TL.Env → Option (Rz × TL.Env)} {z : Rz × TL.Env} (h : bB o k = some z) :
    (∃ x δ, o = some (.ex x, δ) ∧ z = (.ex x, δ)) ∨ ∃ b δ, o = some (.im (.bl b), δ) ∧ k b δ = some z := by
  unfold bB at h
  split at h
  · cases h; exact .inl ⟨_, _, rfl, rfl⟩
  · exact .inr ⟨_, _, rfl, h⟩
  · cases h
end

/-! ### a def's promise -/
def PostX (M W : Addr → Prop) (vs : List V) (H : Hp) (ss' : List S) (Q : VK) (Ex : XK) : Rz → Prop
  | .im d => ∀ v H', Xt W H H' → Good M W H' → EnvR M W H' (vs.map some) (ss'.map some) → Rep M H' d v → Q v H'
  | .fr xs => ∀ v H', Xt W H H' → Good M W H' → EnvR M W H' (vs.map some) (ss'.map some) → RepR M H H' (.fr xs) v → Q v H'
  | .ex x => ∀ dx H', Xt W H H' → Good M W H' → EnvR M W H' (vs.map some) (ss'.map some) → RepX M H' x dx → Ex (.ref x.C) (some dx) H'
def spX (T : Tb) (md : Md) (q : Str) (vs : List V) (H : Hp) (Q : VK) (Ex : XK) : Prop := ∃ (M W : Addr → Prop) (ss ss' : List S) (r : Rz), T md q ss = some (r, ss') ∧ Good M W H ∧ EnvR M W H (vs.map some) (ss.map some) ∧ PostX M W vs H ss' Q Ex r
structure FnX (P : Program) (w : World) (K : PySem.W.Frag) (mg : Str → Option Value) (base : Heap) (T : Tb) (k : Nat) (q : Str) (f : Addr) (fd : FuncData) (ps : List Str) : Prop where
  run : ∀ (md : Md) (A : Around) (outer : List PySem.Env) (s : Shared) (H : Hp) (args : Args) (us : List Value) (vs : List V) (Q : VK) (Ex : XK), Room k A → md.calm = true → (md.gk = true → A.guards = some []) → Env0 P w K mg base A outer s H → BindsTo s fd args (ps.zip us) → Vals vs us →
    vs.length = ps.length → spX T md q vs H Q Ex → codeAny (model P w) A (.call (.ref f) args) (CR (CX P w) outer P w H s Q Ex) s

/-! ### statements -/
/-- the state at the def's entry -/
structure Bs where
  M : Addr → Prop
  W : Addr → Prop
  H : Hp
  σ : L2.St
  δ : TL.Env
structure Sv (B : Bs) (M W : Addr → Prop) (σ : L2.St) (H : Hp) (δ : TL.Env) : Prop where
  good : Good M W H
  env : EnvR M W H σ δ
  mm : ∀ a, B.M a → M a
  mn : ∀ a, M a → B.M a ∨ B.H a = none
  ww : ∀ a, B.W a → W a
  wn : ∀ a, W a → B.W a ∨ B.H a = none
  xt : Xt B.W B.H H
  kp : Kp B.δ B.σ δ σ
def PoS (X : Cx) (B : Bs) (Dn : Ends) : Ou → Prop
  | .nx δ => ∀ M W σ H, Sv B M W σ H δ → Dn.nx σ H
  | .bk δ => ∀ M W σ H, Sv B M W σ H δ → Dn.bk σ H
  | .ct δ => ∀ M W σ H, Sv B M W σ H δ → Dn.ct σ H
  | .rt (.im d) δ => ∀ M W σ H v, Sv B M W σ H δ → Rep M H d v → Dn.rt v H
  | .rt (.fr xs) δ => ∀ M W σ H p vs, Sv B (Mp M p) W σ H δ → ¬ B.M p → B.H p = none → H p = some (.lst vs) → Reps (Mp M p) H xs vs → Dn.rt (.ref p) H
  | .rt (.ex _) _ => True
  | .xc x δ => ∃ Wx : WX, Takes X Wx ∧ ∀ M W σ H dx, Sv B M W σ H δ → RepX M H x dx → Wx (.ref x.C) (some dx) σ H
def JS (X : Cx) (st : Stmt) (δ : TL.Env) (o : Ou) : Prop := ∀ (B : Bs) (M W : Addr → Prop) (σ : L2.St) (H : Hp) (Dn : Ends), Sv B M W σ H δ → PoS X B Dn o → wS X st Dn σ H
def JB (X : Cx) (sts : List Stmt) (δ : TL.Env) (o : Ou) : Prop := ∀ (B : Bs) (M W : Addr → Prop) (σ : L2.St) (H : Hp) (Dn : Ends), Sv B M W σ H δ → PoS X B Dn o → wB X sts Dn σ H
section
variable {B : Bs} {M W : Addr → Prop} {σ : L2.St} {H H1 : Hp} {δ δ1 : TL.Env} {p : Addr} {X : Cx} {x : Xn}
theorem Sv.back (v : Sv B M W σ H δ) (h : H p = none) : B.H p = none := by
  cases q : B.H p with
  | none => rfl
  | some o =>
    exfalso
    by_cases hw : B.W p
    · exact v.good.mt p (v.good.wm p (v.ww p hw)) h
    · rw [v.xt p o hw q] at h; cases h
theorem Sv.xt' (v : Sv B M W σ H δ) (x : Xt W H H1) : Xt B.W B.H H1 := fun a o nw h => x a o (fun w => (v.wn a w).elim nw (fun z => by rw [z] at h; cases h)) (v.xt a o nw h)
theorem Sv.kp' (v : Sv B M W σ H δ) (sh : Sh δ δ1) : Kp B.δ B.σ δ1 σ := fun i xs h => by
  obtain ⟨ys, h1, h2⟩ := v.kp i xs h
  obtain ⟨zs, h3⟩ := sh i ys h1
  exact ⟨zs, h3, h2⟩
theorem Sv.step (v : Sv B M W σ H δ) (s : Stp M W σ δ1 H H1) (sh : Sh δ δ1) : Sv B M W σ H1 δ1 := ⟨s.good, s.env, v.mm, v.mn, v.ww, v.wn, v.xt' s.xt, v.kp' sh⟩
theorem Sv.stepF (v : Sv B M W σ H δ) (s : Stp (Mp M p) W σ δ1 H H1) (n : H p = none) (sh : Sh δ δ1) : Sv B (Mp M p) W σ H1 δ1 :=
  ⟨s.good, s.env, fun a m => .inl (v.mm a m), fun a m => m.elim (v.mn a) (fun e => .inr (by rw [e]; exact v.back n)), v.ww, v.wn, v.xt' s.xt, v.kp' sh⟩
theorem Sv.nB (v : Sv B M W σ H δ) (n : H p = none) : ¬ B.M p := fun m => v.good.mt p (v.mm p m) n
theorem Sv.kx {Wx : WX} (v : Sv B M W σ H δ) (sh : Sh δ δ1) (tk : Takes X Wx) (h : ∀ M W σ H dx, Sv B M W σ H δ1 → RepX M H x dx → Wx (.ref x.C) (some dx) σ H) : Kx X M W σ H δ1 x :=
  ⟨Wx, tk, fun dx H' s r => h M W σ H' dx (v.step s sh) r⟩
theorem Sv.refl (g : Good M W H) (e : EnvR M W H σ δ) : Sv ⟨M, W, H, σ, δ⟩ M W σ H δ := ⟨g, e, fun _ h => h, fun _ h => .inl h, fun _ h => h, fun _ h => .inl h, Xt.refl H, Kp.refl⟩
theorem Sv.trans {M1 W1 : Addr → Prop} {σ1 : L2.St} (v : Sv B M W σ H δ) (u : Sv ⟨M, W, H, σ, δ⟩ M1 W1 σ1 H1 δ1) : Sv B M1 W1 σ1 H1 δ1 := by
  refine ⟨u.good, u.env, fun a m => u.mm a (v.mm a m), fun a m => ?_, fun a m => u.ww a (v.ww a m), fun a m => ?_, v.xt' u.xt, fun i xs h => ?_⟩
  · rcases u.mn a m with m | m
    · exact v.mn a m
    · exact .inr (v.back m)
  · rcases u.wn a m with m | m
    · exact v.wn a m
    · exact .inr (v.back m)
  · obtain ⟨ys, h1, e1⟩ := v.kp i xs h
    obtain ⟨zs, h2, e2⟩ := u.kp i ys h1
    exact ⟨zs, h2, e2.trans e1⟩
/-- data that stood stands -/
theorem Sv.rep {M1 W1 : Addr → Prop} {σ1 : L2.St} (g : Good M W H) (u : Sv ⟨M, W, H, σ, δ⟩ M1 W1 σ1 H1 δ1) {d : D} {w : V} (r : Rep M H d w) : Rep M1 H1 d w :=
  Rep.ex (fun a o n h => u.xt a o (fun z => n (u.mm a (g.wm a z))) h) d (Rep.gr u.mn d r)
theorem Sv.reps {M1 W1 : Addr → Prop} {σ1 : L2.St} (g : Good M W H) (u : Sv ⟨M, W, H, σ, δ⟩ M1 W1 σ1 H1 δ1) {d : List D} {w : List V} (r : Reps M H d w) : Reps M1 H1 d w :=
  Reps.ex (fun a o n h => u.xt a o (fun z => n (u.mm a (g.wm a z))) h) d (Reps.gr u.mn d r)
end

/-! ### a def's body, run -/
section
variable {P : Program} {w : World} {K : PySem.W.Frag} {mg : Str → Option Value} {base : Heap}
theorem backS_len : ∀ {ss : List S} {δ : TL.Env} {ss' : List S}, backS ss δ = some ss' → ss'.length = ss.length
  | [], _, _, h => by cases h; rfl
  | .im d :: r, [], _, h => by cases h
  | .im d :: r, _ :: δ, _, h => by
    simp only [backS, Option.map_eq_some_iff] at h
    obtain ⟨t, h1, rfl⟩ := h
    simp [backS_len h1]
  | .own _ :: r, [], _, h => by cases h
  | .own _ :: r, none :: δ, _, h => by cases h
  | .own _ :: r, some (.im _) :: δ, _, h => by cases h
  | .own _ :: r, some (.own oc) :: δ, _, h => by
    simp only [backS, Option.map_eq_some_iff] at h
    obtain ⟨t, h1, rfl⟩ := h
    simp [backS_len h1]
theorem backS_at : ∀ {ss : List S} {δ : TL.Env} {ss' : List S}, backS ss δ = some ss' → ∀ (i : Nat) (s : S), ss[i]? = some s → match s with
    | .im d => ss'[i]? = some (.im d)
    | .own _ => ∃ ys, ss'[i]? = some (.own ys) ∧ δ[i]? = some (some (.own ys))
  | [], _, _, h, i, s, hs => by simp at hs
  | .im d :: r, [], _, h, _, _, _ => by cases h
  | .im d :: r, _ :: δ, _, h, i, s, hs => by
    simp only [backS, Option.map_eq_some_iff] at h
    obtain ⟨t, h1, rfl⟩ := h
    cases i with
    | zero => cases hs; rfl
    | succ i => exact backS_at h1 i s (by simpa using hs)
  | .own _ :: r, [], _, h, _, _, _ => by cases h
  | .own _ :: r, none :: δ, _, h, _, _, _ => by cases h
  | .own _ :: r, some (.im _) :: δ, _, h, _, _, _ => by cases h
  | .own _ :: r, some (.own oc) :: δ, _, h, i, s, hs => by
    simp only [backS, Option.map_eq_some_iff] at h
    obtain ⟨t, h1, rfl⟩ := h
    cases i with
    | zero => cases hs; exact ⟨oc, rfl, rfl⟩
    | succ i => exact backS_at h1 i s (by simpa using hs)
theorem fin_of {ss : List S} {δ : TL.Env} {ss' : List S} (h : backS ss δ = some ss') : FinA ss δ ss' := ⟨backS_len h, fun i s hs => by
  have := backS_at h i s hs
  cases s <;> exact this⟩
/-- the arguments behind the body -/
theorem args_end {M W M' W' : Addr → Prop} {N : List Str} {vs : List V} {ss ss' : List S} {δ' : TL.Env} {σ' : L2.St} {H H' : Hp} (Ev : EnvR M W H (vs.map some) (ss.map some)) (g : Good M W H) (fin : FinA ss δ' ss')
    (v : Sv ⟨M, W, H, start N vs, env0 N ss⟩ M' W' σ' H' δ') : Xt W H H' ∧ Good M W H' ∧ EnvR M W H' (vs.map some) (ss'.map some) := by
  have A : Aft M W M' W' (env0 N ss) (start N vs) H δ' σ' H' := ⟨⟨v.mm, v.mn, v.ww, v.wn⟩, v.xt, v.good, v.env, v.kp⟩
  exact fn_end (r := .im .non) (v := .non) (Q := fun _ H' => Xt W H H' ∧ Good M W H' ∧ EnvR M W H' (vs.map some) (ss'.map some)) g Ev fin A rfl fun _ _ a b c _ => ⟨a, b, c⟩
theorem fn_runX {k : Nat} {f : Addr} {name qual : Str} {params : Arguments} {body : List Stmt} {scope : Scope} {dV kV doc pm cdv ct oc : Value} {an od : Option Addr} {osl : Array (Option Value)} {N ps : List Str} {T : Tb} {q : Str}
    (lk : K.lookup f = some ⟨oc, od, .func (PySem.W.fnOf name qual params body scope dV kV doc pm an cdv ct), osl⟩) (hcd : PySem.W.codeIn K cdv qual = true) (S : FnScope N ps scope)
    (hb : ∀ (md : Md) (A : Around) (outer : List PySem.Env) (s : Shared) (H : Hp) (Ex : XK) (ss : List TL.S) (r : Rz) (ss' : List TL.S), Room k (A.deeper (PyProof.Rows.envOfC qual scope s.heap.objs.size f cdv)) → md.calm = true → (md.gk = true → A.guards = some []) → T md q ss = some (r, ss') → ss.length = ps.length →
      ∃ o δ', JB (cxOf (CX P w) P w K mg base N qual scope f cdv A outer s H Ex) body (env0 N ss) o ∧ FinA ss δ' ss' ∧ ((o = .rt r δ' ∧ ∀ x, r ≠ .ex x) ∨ (o = .nx δ' ∧ r = .im .non) ∨ ∃ x, o = .xc x δ' ∧ r = .ex x)) :
    FnX P w K mg base T (k + 1) q f (PySem.W.fnOf name qual params body scope dV kV doc pm an cdv ct) ps := by
  refine ⟨fun md A outer s H args us vs Q Ex hr hcm hg e0 hbd rv hl hsp => ?_⟩
  obtain ⟨M, W, ss, ss', r, hR, g, Ev, post⟩ := hsp
  have hsl : ss.length = ps.length := by have := Ev.len; simp at this; omega
  have hk : K.In s.heap := e0.mod.kin.keeps fun b o e => (e0.bs b o e).1
  have hnl : s.heap.NoLimit := e0.mod.nolimit.keeps fun b o e => (e0.bs b o e).1
  have kinds : ∀ y ∈ ps.zip us, scope.names.lookup y.1 = some .local ∨ (scope.names.lookup y.1 = some .cell ∧ ((cellsFrom (s.heap.objs.size + 1) scope.names []).lookup y.1).isSome = true) := by
    rintro ⟨n, v⟩ hy
    rcases S.par n (List.of_mem_zip hy).1 with z | z
    · exact .inl z
    · exact .inr ⟨z, PySem.W.cellsFrom_some _ _ _ (.inl z)⟩
  refine PySem.codeAny_call_function hr.depth (hk _ _ lk) rfl S.co S.gen rfl (PySem.W.codeRec_of hk hcd) (hbd _ _ _ _ ?_)
  refine wpAny_newFunctionEnv_cells S.kind kinds fun env he s1 x => ?_
  subst he
  refine ⟨hnl.keeps x.toInCall.keep, codeAny_func ?_⟩
  obtain ⟨o, δ', jb, fin, ho⟩ := hb md A outer s H Ex ss r ss' (hr.deeper _) hcm hg hR hsl
  have I : Inv (cxOf (CX P w) P w K mg base N qual scope f cdv A outer s H Ex) [] (start N vs) H s1 := inv_start S hr.hd e0 hl rv x
  have v0 : Sv ⟨M, W, H, start N vs, env0 N ss⟩ M W (start N vs) H (env0 N ss) := Sv.refl g (env_start Ev)
  have body_ok : wB (cxOf (CX P w) P w K mg base N qual scope f cdv A outer s H Ex) body { nx := fun _ H' => Q .non H', rt := Q } (start N vs) H := by
    refine jb _ M W _ H _ v0 ?_
    rcases ho with ⟨rfl, hnx⟩ | ⟨rfl, rfl⟩ | ⟨y, rfl, rfl⟩
    · cases r with
      | im d => exact fun M' W' σ' H' v sv rr => let ⟨a, b, c⟩ := args_end Ev g fin sv; post v H' a b c (Rep.anti sv.mm d rr)
      | fr xs => exact fun M' W' σ' H' p us sv np hp h1 rr => let ⟨a, b, c⟩ := args_end Ev g fin sv; post _ H' a b c ⟨p, us, rfl, hp, h1, Reps.anti (fun a z => z.elim (fun m => sv.mm a m) (fun e => .inr e)) xs rr⟩
      | ex y => exact absurd rfl (hnx y)
    · exact fun M' W' σ' H' sv => let ⟨a, b, c⟩ := args_end Ev g fin sv; post .non H' a b c rfl
    · refine ⟨fun cls d _ H => Ex cls d H, takes_of rfl rfl rfl rfl, fun M' W' σ' H' dx sv rx => ?_⟩
      let ⟨a, b, c⟩ := args_end Ev g fin sv
      obtain ⟨ws, n1, n2, n3⟩ := rx
      exact post dx H' a b c ⟨ws, fun m => n1 (sv.mm _ m), n2, Reps.anti sv.mm _ n3⟩
  refine wpAny_mono (body_ok.run [] s1 I) (fun fl s' hs => ?_) fun e s' hs => hs
  cases fl with
  | ret u =>
    obtain ⟨v, σ', H', J, rw', q'⟩ := hs
    exact ⟨v, H', J.os, J.bare, J.base, J.hok, rw', q'⟩
  | next =>
    obtain ⟨σ', H', J, q'⟩ := hs
    exact ⟨V.non, H', J.os, J.bare, J.base, J.hok, rfl, q'⟩
  | brk => obtain ⟨_, _, _, q'⟩ := hs; exact q'.elim
  | cont => obtain ⟨_, _, _, q'⟩ := hs; exact q'.elim
end

/-! ### what is known of the world -/
inductive PatV : Pat → List (Sum Nat Value) → Prop where
  | nil : PatV [] []
  | inl (i : Nat) {p : Pat} {q : List (Sum Nat Value)} (h : PatV p q) : PatV (.inl i :: p) (.inl i :: q)
  | inr {d : D} {v : V} {u : Value} {p : Pat} {q : List (Sum Nat Value)} (hd : ∀ M H, Rep M H d v) (r : RelV v u) (h : PatV p q) : PatV (.inr d :: p) (.inr u :: q)
def pickV : List (Sum Nat Value) → List Value → Option (List Value)
  | [], _ => some []
  | .inl i :: p, us => (us[i]?).bind fun u => (pickV p us).map (u :: ·)
  | .inr u :: p, us => (pickV p us).map (u :: ·)
/-- a call with n values and the keywords kn binds the parameters by the pattern p -/
def Bnd (K : PySem.W.Frag) (fd : FuncData) (ps : List Str) (n : Nat) (kn : List Str) (p : Pat) : Prop := ∃ q, PatV p q ∧ ps.length = p.length ∧
  ∀ (s : Shared) (us ws zs : List Value), K.In s.heap → us.length = n → ws.length = kn.length → pickV q (us ++ ws) = some zs → BindsTo s fd ⟨us, kn.zip ws⟩ (ps.zip zs)
def BndP (K : PySem.W.Frag) (fd : FuncData) (ps : List Str) : Prop := ∀ (s : Shared) (us : List Value), K.In s.heap → us.length = ps.length → BindsTo s fd ⟨us, []⟩ (ps.zip us)
theorem pick_of {M : Addr → Prop} {H : Hp} : ∀ {p : Pat} {q : List (Sum Nat Value)} {ds zs : List D} {vs : List V} {us : List Value}, PatV p q → argsOf p ds = some zs → Reps M H ds vs → Vals vs us → ∃ ys ws, pickV q us = some ws ∧ Vals ys ws ∧ Reps M H zs ys
  | _, _, ds, zs, vs, us, .nil, h, _, _ => by cases h; exact ⟨[], [], rfl, .nil, rfl⟩
  | _, _, ds, zs, vs, us, .inl i (p := p) (q := q) hp, h, r, rv => by
    simp only [argsOf, Option.bind_eq_some_iff, Option.map_eq_some_iff] at h
    obtain ⟨d, hd, z, hz, rfl⟩ := h
    obtain ⟨v, hv, rd⟩ := r.get hd
    obtain ⟨u, hu, ru⟩ := rv.get hv
    obtain ⟨ys, ws, e1, e2, e3⟩ := pick_of hp hz r rv
    exact ⟨v :: ys, u :: ws, by simp [pickV, hu, e1], .cons ru e2, v, ys, rfl, rd, e3⟩
  | _, _, ds, zs, vs, us, .inr (d := d) (v := v) (u := u) (p := p) (q := q) hd ru hp, h, r, rv => by
    simp only [argsOf, Option.map_eq_some_iff] at h
    obtain ⟨z, hz, rfl⟩ := h
    obtain ⟨ys, ws, e1, e2, e3⟩ := pick_of hp hz r rv
    exact ⟨v :: ys, u :: ws, by simp [pickV, e1], .cons ru e2, v, ys, rfl, hd M H, e3⟩
theorem args_len : ∀ {p : Pat} {ds zs : List D}, argsOf p ds = some zs → zs.length = p.length
  | [], _, _, h => by cases h; rfl
  | .inl i :: p, ds, zs, h => by
    simp only [argsOf, Option.bind_eq_some_iff, Option.map_eq_some_iff] at h
    obtain ⟨d, hd, z, hz, rfl⟩ := h
    simp [args_len hz]
  | .inr d :: p, ds, zs, h => by
    simp only [argsOf, Option.map_eq_some_iff] at h
    obtain ⟨z, hz, rfl⟩ := h
    simp [args_len hz]
/-- behind self -/
theorem pick_behind : ∀ {p p' : Pat} {q : List (Sum Nat Value)}, PatV p q → behind p = some p' → ∃ q', PatV p' q' ∧ ∀ (u : Value) (us ws : List Value), pickV q' us = some ws → pickV q (u :: us) = some ws
  | _, _, _, .nil, h => by cases h; exact ⟨[], .nil, fun _ _ _ h => h⟩
  | _, _, _, .inl i (p := p) (q := q) hp, h => by
    cases i with
    | zero => cases h
    | succ i =>
      simp only [behind, Option.map_eq_some_iff] at h
      obtain ⟨z, hz, rfl⟩ := h
      obtain ⟨q', h1, h2⟩ := pick_behind hp hz
      refine ⟨.inl i :: q', .inl i h1, fun u us ws h => ?_⟩
      simp only [pickV, Option.bind_eq_some_iff, Option.map_eq_some_iff] at h
      obtain ⟨a, ha, b, hb, rfl⟩ := h
      simp [pickV, ha, h2 u us b hb]
  | _, _, _, .inr (d := d) (u := u) (p := p) (q := q) hd ru hp, h => by
    simp only [behind, Option.map_eq_some_iff] at h
    obtain ⟨z, hz, rfl⟩ := h
    obtain ⟨q', h1, h2⟩ := pick_behind hp hz
    refine ⟨.inr u :: q', .inr hd ru h1, fun u' us ws h => ?_⟩
    simp only [pickV, Option.map_eq_some_iff] at h
    obtain ⟨b, hb, rfl⟩ := h
    simp [pickV, h2 u' us b hb]
end RE
set_option Elab.async false
set_option linter.all false
set_option maxRecDepth 100000
set_option autoImplicit false
set_option maxHeartbeats 1000000
/-! REd: the world; callees run; arguments. -/
namespace RE
open PySem PySem.Spec PyProof.Rows L2 TL
structure Sd where
  G : Gx
  P : Program
  w : World
  K : PySem.W.Frag
  mg : Str → Option Value
  base : Heap
  ad : Str → Addr
  fd : Str → FuncData
def tyS : Ty → String
  | .int => "int" | .bool => "bool" | .str => "str" | .tuple => "tuple" | .list => "list"
structure Wd (U : Sd) (T : Tb) (lv : Nat) : Prop where
  kk : U.G.K = U.K
  fnx : ∀ q f, U.G.fns q = some f → FnX U.P U.w U.K U.mg U.base T lv q (U.ad q) (U.fd q) f.ps
  len : ∀ (md : Md) (q : Str) (f : Fc) (ss ss' : List S) (r : Rz), U.G.fns q = some f → T md q ss = some (r, ss') → ss.length = f.ps.length
  im : ∀ (md : Md) (q : Str) (f : Fc) (ss ss' : List S) (r : Rz), U.G.fns q = some f → T md q ss = some (r, ss') → (∀ s ∈ ss, ∃ d, s = .im d) → ss' = ss
  bp : ∀ q f, U.G.fns q = some f → f.po = true → BndP U.K (U.fd q) f.ps
  bn : ∀ q n kn p, U.G.pat q n kn = some p → ∃ f, U.G.fns q = some f ∧ Bnd U.K (U.fd q) f.ps n kn p
  gf : ∀ f q, U.G.glo f = some (.fn q) → U.mg f = some (.ref (U.ad q)) ∧ PySem.W.keepIn U.K (.ref (U.ad q)) = true
  gc : ∀ f A q, U.G.glo f = some (.cls A q) → U.mg f = some (.ref A) ∧ Mk U.K A (U.ad q)
  gv : ∀ n d, U.G.glo n = some (.val d) → ∃ v u, U.mg n = some u ∧ RelV v u ∧ ∀ M H, Rep M H d v
  nb : ∀ b : Bt, U.mg b.nm = none
  nt : ∀ t : Ty, U.mg t.nm = none
  ni : U.mg "isinstance" = none
  nk : U.mg "range" = none ∧ U.mg "zip" = none ∧ U.mg "enumerate" = none
  prop : ∀ A f q, U.G.prop A f = some q → Cls U.K A ∧ ∃ p, PropOf U.K A f p (U.ad q)
  fld : ∀ A f, U.G.fld A f = true → Cls U.K A ∧ NoAttr U.K A f
  meth : ∀ A m q, U.G.meth A m = some q → Cls U.K A ∧ Meth U.K A m (U.ad q)
  own : ∀ A m q, U.G.own A m = some q → ClsO U.K A ∧ PySem.W.findIn U.K (.ref A) m = some (some (.ref (U.ad q))) ∧ PySem.W.isFn U.K (.ref (U.ad q)) = true
  one : ∀ A q, U.G.own A "__eq__" = some q → PySem.W.findIn U.K (.ref A) "__ne__" = some (some (.builtin "object.__ne__"))
  ri : ∀ A op, U.G.ri A op = true → PySem.W.findIn U.K (.ref A) (dunderR op.info.2) = some none ∧ PySem.W.subIn U.K (.type "int") (.ref A) = some false ∧
    ∃ fo ro, PySem.W.findIn U.K (.type "int") (PySem.dunder op.info.2) = some fo ∧ PySem.W.findIn U.K (.type "int") (dunderR op.info.2) = some ro
  isT : ∀ A t b, U.G.isT A t = some b → ClsO U.K A ∧ PySem.W.kitOne U.K (.ref A) (.type (tyS t)) = some b
  isC : ∀ A B b, U.G.isC A B = some b → ClsO U.K A ∧ PySem.W.kitOne U.K (.ref A) (.ref B) = some b
  kT : ∀ t : Ty, PySem.W.kitOne U.K (.type "NoneType") (.type (tyS t)) = some false ∧ PySem.W.kitOne U.K (.type "int") (.type (tyS t)) = some (match t with | .int => true | _ => false) ∧
    PySem.W.kitOne U.K (.type "bool") (.type (tyS t)) = some (match t with | .int => true | .bool => true | _ => false) ∧ PySem.W.kitOne U.K (.type "str") (.type (tyS t)) = some (match t with | .str => true | _ => false) ∧
    PySem.W.kitOne U.K (.type "list") (.type (tyS t)) = some (match t with | .list => true | _ => false) ∧ PySem.W.kitOne U.K (.type "tuple") (.type (tyS t)) = some (match t with | .tuple => true | _ => false)
  kC : ∀ f B q, U.G.glo f = some (.cls B q) → ∀ s : String, s ∈ ["NoneType", "int", "bool", "str", "list", "tuple"] → PySem.W.kitOne U.K (.type s) (.ref B) = some false
  nf : ∀ A d, U.G.nf A d = true → ∃ t, TyD U.K d t ∧ PySem.W.notFirst U.K A t = true
/-- the context of a part of a def's body -/
structure XOk (U : Sd) (T : Tb) (lv : Nat) (md : Md) (X : Cx) : Prop where
  wd : Wd U T lv
  prog : X.prog = U.P
  w : X.w = U.w
  K : X.K = U.K
  mg : X.mg = U.mg
  base : X.base = U.base
  nd : X.N.Nodup
  room : Room (lv + 4) X.A
  mc : md.calm = true
  calm : X.calm = true
  gd : md.gk = true → X.A.guards = some []
  pass : PassesOwn (model X.prog X.w) X.A X.env X.xe
section
variable {U : Sd} {T : Tb} {lv : Nat} {md : Md} {X : Cx} {q : Str} {f : Fc}
theorem XOk.fnx (ok : XOk U T lv md X) (h : U.G.fns q = some f) : FnX X.prog X.w X.K X.mg X.base T lv q (U.ad q) (U.fd q) f.ps := by
  rw [ok.prog, ok.w, ok.K, ok.mg, ok.base]; exact ok.wd.fnx q f h
theorem XOk.hu (ok : XOk U T lv md X) : X.A.units + 64 < cLine := ok.room.units
end

/-! ### results without exceptions: the tree layer's promises -/
def zR : Res → Rz
  | .im d => .im d
  | .fr xs => .fr xs
def RX (T : Tb) (md : Md) (q : Str) : TL.Spec := fun ss r ss' => T md q ss = some (zR r, ss')
section
variable {P : Program} {w : World} {K : PySem.W.Frag} {mg : Str → Option Value} {base : Heap} {T : Tb} {k : Nat} {q : Str} {f : Addr} {fd : FuncData} {ps : List Str} {md : Md}
theorem sp_of {vs : List V} {H : Hp} {Q : VK} (h : spT (RX T md q) vs H Q E0) : spX T md q vs H Q E0 := by
  obtain ⟨M, W, ss, ss', r, hR, g, Ev, p⟩ := h
  refine ⟨M, W, ss, ss', zR r, hR, g, Ev, ?_⟩
  cases r with
  | im d => exact p
  | fr xs => exact p
theorem cr_of {outer : List PySem.Env} {H : Hp} {s s' : Shared} {Q : VK} {r : Result} (h : CR (CX P w) outer P w H s Q E0 r s') : CR CX0 outer P w H s Q E0 r s' := by
  cases r with
  | ok fl => cases fl <;> exact h
  | error e => obtain ⟨_, _, _, _, _, _, _, _, _, _, _, _, z⟩ := h; exact z.elim
theorem FnX.toK (F : FnX P w K mg base T k q f fd ps) (hc : md.calm = true) : FnK P w K mg base k f fd ps (RX T md q) :=
  ⟨fun A outer s H args us vs Q hr hg e0 hb rv hl h => codeAny_mono (F.run md A outer s H args us vs Q E0 hr hc (fun _ => hg) e0 hb rv hl (sp_of h)) fun r s' h => cr_of h⟩
theorem FnX.toN (F : FnX P w K mg base T k q f fd ps) (hc : md.calm = true) (hg : md.gk = false) : FnN P w K mg base k f fd ps (RX T md q) :=
  ⟨fun A outer s H args us vs Q hr e0 hb rv hl h => codeAny_mono (F.run md A outer s H args us vs Q E0 hr hc (fun z => by rw [hg] at z; cases z) e0 hb rv hl (sp_of h)) fun r s' h => cr_of h⟩
theorem BndP.binds (b : BndP K fd ps) : Binds K fd ps [] := fun s us hk hl => by
  rw [List.append_nil] at hl ⊢
  exact b s us hk hl
end

/-! ### a callee runs, whatever it gives -/
def spK (X : Cx) (T : Tb) (md : Md) (q : Str) (σ : L2.St) (vs : List V) (H : Hp) (Q : VK) : Prop := ∃ Ex : XK, Takes X (fun cls d σ' H' => σ' = σ ∧ Ex cls d H') ∧ spX T md q vs H Q Ex
theorem takes_no {X : Cx} {Wx : WX} (h : ∀ c d σ H, ¬ Wx c d σ H) : Takes X Wx := fun u s' ⟨_, _, _, _, _, _, _, _, _, _, _, _, _, _, _, _, w⟩ => (h _ _ _ _ w).elim
section
variable {X : Cx} {T : Tb} {k : Nat} {f : Addr} {fd : FuncData} {ps : List Str} {q : Str} {md : Md} {pins : List (Addr × Obj)} {σ : L2.St} {H : Hp} {s : Shared} {Q : VK} {us ws zs : List Value} {vs ys : List V} {kn : List Str}
theorem run_end {r : Result} {s' : Shared} {Ex : XK} (tk : Takes X (fun cls d σ' H' => σ' = σ ∧ Ex cls d H')) (I : Inv X pins σ H s) (hq : CR (CX X.prog X.w) X.stack X.prog X.w H s Q Ex r s') :
    match r with
    | .error e => X.xe e s'
    | .ok (.ret u) => EP X pins σ Q u s'
    | .ok _ => False := by
  cases r with
  | error e => exact tk e s' (XE.of_call I (fun cls d H' h => ⟨rfl, h⟩) hq)
  | ok fl =>
    cases fl with
    | ret u => exact I.after hq
    | next => exact hq
    | brk => exact hq
    | cont => exact hq
theorem runX (F : FnX X.prog X.w X.K X.mg X.base T k q f fd ps) (hr : Room k X.A) (hc : md.calm = true) (hg : md.gk = true → X.A.guards = some []) (I : Inv X pins σ H s) (hb : BindsTo s fd ⟨us, kn.zip ws⟩ (ps.zip zs)) (hl : ys.length = ps.length) (r : Vals ys zs) (h : spK X T md q σ ys H Q) :
    wpAny (model X.prog X.w) X.A (call (.ref f) us (kn.zip ws)) (EP X pins σ Q) X.xe s := by
  obtain ⟨Ex, tk, h⟩ := h
  refine wpAny_call (codeAny_mono (F.run md X.A X.stack s H _ zs ys Q Ex hr hc hg I.env0 hb r hl h) fun rr s' hq => ?_)
  have e := run_end tk I hq
  cases rr with
  | error e' => exact e
  | ok fl => cases fl <;> first | exact e | exact e.elim
end

/-! ### arguments -/
def isStar : Expr → Bool
  | .Starred _ _ => true
  | _ => false
theorem okE_star {N : List Str} {sc : Scope} {e : E} {x : Expr} (h : okE N sc e x = true) : isStar x = false := by
  cases x <;> first
    | rfl
    | (exfalso; cases e <;> cases h)
theorem okEs_star {N : List Str} {sc : Scope} : ∀ {es : List E} {xs : List Expr}, okEs N sc es xs = true → ∀ x ∈ xs, isStar x = false
  | [], [], _, _, h => by cases h
  | [], _ :: _, h, _, _ => by simp [okEs] at h
  | _ :: _, [], h, _, _ => by simp [okEs] at h
  | e :: es, x :: xs, h, y, hy => by
    simp only [okEs, Bool.and_eq_true] at h
    rcases List.mem_cons.mp hy with rfl | hy
    · exact okE_star h.1
    · exact okEs_star h.2 y hy
theorem star_cons {env : PySem.Env} {x : Expr} {xs : List Expr} (h : isStar x = false) : starEach (x :: xs) env = (false, eval x env) :: starEach xs env := by
  cases x <;> first | rfl | cases h
theorem star_plain {env : PySem.Env} {pos : Pos} : ∀ {xs : List Expr}, (∀ x ∈ xs, isStar x = false) → (backTo pos (starEach xs env)).any (·.1) = false
  | [], _ => rfl
  | x :: xs, h => by
    rw [star_cons (h x (List.mem_cons_self ..))]
    have := star_plain (env := env) (pos := pos) (xs := xs) fun y hy => h y (List.mem_cons_of_mem _ hy)
    unfold backTo at this ⊢
    simpa using this
theorem kw_all {env : PySem.Env} {pos : Pos} : ∀ {kn : List Str} {ws : List Keyword}, kwB kn ws = true → (backToKw pos (keywordEach ws env)).all (·.1.isSome) = true ∧ (backToKw pos (keywordEach ws env)).filterMap (·.1) = kn ∧ (backToKw pos (keywordEach ws env)).any (·.1.isNone) = false
  | [], [], _ => ⟨rfl, rfl, rfl⟩
  | [], _ :: _, h => by cases h
  | _ :: _, [], h => by cases h
  | k :: kn, ⟨a, v, p⟩ :: ws, h => by
    simp only [kwB, Bool.and_eq_true, decide_eq_true_eq] at h
    obtain ⟨rfl, h⟩ := h
    obtain ⟨a1, a2, a3⟩ := kw_all (env := env) (pos := pos) h
    unfold backToKw at a1 a2 a3 ⊢
    simp only [keywordEach, List.map_cons, List.all_cons, List.filterMap_cons, List.any_cons, Option.isSome_some, Option.isNone_some, Bool.true_and, Bool.false_or]
    exact ⟨a1, by rw [a2], a3⟩
theorem kw_len : ∀ {kn : List Str} {ws : List Keyword}, kwB kn ws = true → ws.length = kn.length
  | [], [], _ => rfl
  | [], _ :: _, h => by cases h
  | _ :: _, [], h => by cases h
  | k :: kn, w :: ws, h => by
    simp only [kwB, Bool.and_eq_true] at h
    simp [kw_len h.2]
/-- what the call of a known value asks, once its arguments stand -/
structure CK (X : Cx) (fv : Value) (first : List Value) (kn : List Str) (σ : L2.St) (vs zs : List V) (H : Hp) (Q : VK) : Prop where
  run : ∀ (pins : List (Addr × Obj)) (s : Shared) (us ws : List Value), Inv X pins σ H s → Vals vs us → Vals zs ws → wpAny (model X.prog X.w) X.A (call fv (first ++ us) (kn.zip ws)) (EP X pins σ Q) X.xe s
theorem callW {X : Cx} {fv : Value} {first : List Value} {kn : List Str} {σ : L2.St} {H : Hp} {Q : VK} {pins : List (Addr × Obj)} {s : Shared} {xs : List Expr} {kws : List Keyword} {pos : Pos} (hk : PySem.W.keepIn X.K fv = true) (hs : ∀ x ∈ xs, isStar x = false) (hw : kwB kn kws = true)
    (I : Inv X pins σ H s) (h : wA X xs σ H fun vs H1 => wK X kws σ H1 fun zs H2 => CK X fv first kn σ vs zs H2 Q) :
    wpAny (model X.prog X.w) X.A (callWith pos fv first (backTo pos (starEach xs X.env)) (backToKw pos (keywordEach kws X.env))) (EP X pins σ Q) X.xe s := by
  obtain ⟨a1, a2, a3⟩ := kw_all (env := X.env) (pos := pos) hw
  have a4 := star_plain (env := X.env) (pos := pos) hs
  have a5 : ((backTo pos (starEach xs X.env)).any (·.1) || (backToKw pos (keywordEach kws X.env)).any (·.1.isNone)) = false := by rw [a4, a3]; rfl
  cases xs with
  | cons x xs =>
    refine PySem.W.callWith_KW (h₀ := X.base) I.ok.mod.kin hk a1 (thn (h.run pos pins s I) fun us s1 ⟨vs, H1, I1, r, q⟩ => ?_) a5 (star_cons (hs x (List.mem_cons_self ..)))
    refine thn (q.run pos pins s1 I1) fun ws s2 ⟨zs, H2, I2, rz, q2⟩ => ⟨I2.kIn, ?_⟩
    rw [a2]
    exact q2.run pins s2 us ws I2 r rz
  | nil =>
    refine PySem.W.callWith_KW0 (h₀ := X.base) I.ok.mod.kin hk a1 ?_ a5
    have e0 : spliced (backTo pos (starEach [] X.env)) = pure [] := by rfl
    refine fun Γ p hΓ => ?_
    have h2 := h.run pos pins s I
    rw [e0] at h2
    have h3 : AP X pins σ (fun vs H1 => wK X kws σ H1 fun zs H2 => CK X fv first kn σ vs zs H2 Q) [] s := h2 Γ p hΓ
    obtain ⟨vs, H1, I1, r, q⟩ := h3
    cases r
    have h4 := thn (Q' := fun ks s₂ => X.K.In s₂.heap ∧ wpAny (model X.prog X.w) X.A (call fv (first ++ []) (((backToKw pos (keywordEach kws X.env)).filterMap (·.1)).zip ks)) (EP X pins σ Q) X.xe s₂) (q.run pos pins s I1) fun ws s2 ⟨zs, H2, I2, rz, q2⟩ => ⟨I2.kIn, by
      rw [a2]
      exact q2.run pins s2 [] ws I2 .nil rz⟩
    exact h4 Γ p hΓ
end RE
set_option Elab.async false
set_option linter.all false
set_option maxRecDepth 100000
set_option autoImplicit false
set_option maxHeartbeats 1000000
/-! REe: calls of defs, classes, methods, own operators, whatever they give. -/
namespace RE
open PySem PySem.Spec PyProof.Rows L2 TL
/-- what is wanted of an expression's answer -/
def KE (X : Cx) (M W : Addr → Prop) (σ : L2.St) (H : Hp) (Q : VK) (r : Rz) (δ' : TL.Env) : Prop :=
  match r with
  | .im d => ∀ v H', Stp M W σ δ' H H' → Rep M H' d v → Q v H'
  | .fr xs => ∀ p vs H', Stp (Mp M p) W σ δ' H H' → H p = none → H' p = some (.lst vs) → Reps (Mp M p) H' xs vs → Q (.ref p) H'
  | .ex x => Kx X M W σ H δ' x
/-- .. where the heap only grows -/
def PC (X : Cx) (M : Addr → Prop) (σ : L2.St) (H : Hp) (Q : VK) (r : Rz) : Prop :=
  match r with
  | .im d => ∀ v H', (∀ a o, H a = some o → H' a = some o) → Rep M H' d v → Q v H'
  | .fr xs => ∀ p vs H', (∀ a o, H a = some o → H' a = some o) → H p = none → H' p = some (.lst vs) → Reps (Mp M p) H' xs vs → Q (.ref p) H'
  | .ex x => ∃ Wx : WX, Takes X Wx ∧ ∀ dx H', (∀ a o, H a = some o → H' a = some o) → RepX M H' x dx → Wx (.ref x.C) (some dx) σ H'
section
variable {X : Cx} {e : Expr} {δ δ1 δ' : TL.Env} {r : Rz} {M W : Addr → Prop} {σ : L2.St} {H H1 : Hp} {Q : VK} {T : Tb} {md : Md} {q : Str} {ds : List D} {vs : List V} {ss' : List S}
theorem je_of (h : ∀ (M W : Addr → Prop) (σ : L2.St) (H : Hp) (Q : VK), Good M W H → EnvR M W H σ δ → KE X M W σ H Q r δ' → wE X e σ H Q) : JE X e δ r δ' := by
  cases r with
  | im d => exact h
  | fr xs => exact h
  | ex x => exact h
theorem JE.ke (h : JE X e δ r δ') : ∀ (M W : Addr → Prop) (σ : L2.St) (H : Hp) (Q : VK), Good M W H → EnvR M W H σ δ → KE X M W σ H Q r δ' → wE X e σ H Q := by
  cases r with
  | im d => exact h
  | fr xs => exact h
  | ex x => exact h
theorem KE.pc (s : Stp M W σ δ' H H1) (g : Good M W H) (k : KE X M W σ H Q r δ') : PC X M σ H1 Q r := by
  cases r with
  | im d => exact fun v H' ex rp => k v H' (s.ext ex) rp
  | fr xs =>
    refine fun p vs H' ex n hp rr => k p vs H' ⟨s.xt.trans (Xt.of ex), ⟨fun a w => .inl (g.wm a w), fun a m z => ?_⟩, (s.env.gr (mp_gr n)).ext ex⟩ (s.none g n) hp rr
    rcases m with m | m
    · exact (s.good.ext ex).mt a m z
    · rw [m, hp] at z; cases z
  | ex x =>
    obtain ⟨Wx, tk, h⟩ := k
    exact ⟨Wx, tk, fun dx H' ex rx => h dx H' (s.ext ex) rx⟩
theorem KE.step (s : Stp M W σ δ1 H H1) (g : Good M W H) (k : KE X M W σ H Q r δ') : KE X M W σ H1 Q r δ' := by
  cases r with
  | im d => exact fun v H' s' rp => k v H' (s.trans s') rp
  | fr xs => exact fun p vs H' s' n hp rr => k p vs H' ⟨s.xt.trans s'.xt, s'.good, s'.env⟩ (s.none g n) hp rr
  | ex x => exact Kx.step s k
/-- a def called with data -/
theorem spK_of (hT : T md q (ds.map S.im) = some (r, ss')) (g : Good M W H) (rr : Reps M H ds vs) (pc : PC X M σ H Q r) : spK X T md q σ vs H Q := by
  cases r with
  | im d => exact ⟨E0, takes_no fun _ _ _ _ z => z.2, M, fun _ => False, _, _, _, hT, good0 g, envR_args rr, fun v H' xt _ _ rp => pc v H' (fun a o h => xt a o (fun z => z) h) rp⟩
  | fr xs => exact ⟨E0, takes_no fun _ _ _ _ z => z.2, M, fun _ => False, _, _, _, hT, good0 g, envR_args rr, fun v H' xt _ _ ⟨p, us, e, n, hp, r'⟩ => e ▸ pc p us H' (fun a o h => xt a o (fun z => z) h) n hp r'⟩
  | ex x =>
    obtain ⟨Wx, tk, h⟩ := pc
    exact ⟨fun cls d H' => Wx cls d σ H', tk.imp fun c d σ' H' ⟨e, z⟩ => e ▸ z, M, fun _ => False, _, _, _, hT, good0 g, envR_args rr, fun dx H' xt _ _ rx => h dx H' (fun a o h => xt a o (fun z => z) h) rx⟩
end
section
variable {U : Sd} {T : Tb} {lv : Nat} {md : Md} {X : Cx} {q : Str} {f : Fc} {pins : List (Addr × Obj)} {σ : L2.St} {H : Hp} {s : Shared} {Q : VK} {us ws zs : List Value} {vs ys : List V} {kn : List Str}
/-- the callee runs at A, which is X's but for some levels -/
theorem runXA {A : Around} {k : Nat} {fa : Addr} {fd : FuncData} {ps : List Str} (F : FnX X.prog X.w X.K X.mg X.base T k q fa fd ps) (hA : A.frames = X.A.frames) (hr : Room k A) (hc : md.calm = true) (hg : md.gk = true → A.guards = some []) (I : Inv X pins σ H s)
    (hb : BindsTo s fd ⟨us, kn.zip ws⟩ (ps.zip zs)) (hl : ys.length = ps.length) (r : Vals ys zs) (h : spK X T md q σ ys H Q) : wpAny (model X.prog X.w) A (call (.ref fa) us (kn.zip ws)) (EP X pins σ Q) X.xe s := by
  obtain ⟨Ex, tk, h⟩ := h
  have e := I.env0
  refine wpAny_call (codeAny_mono (F.run md A X.stack s H _ zs ys Q Ex hr hc hg ⟨hA.trans e.frames, e.mod, e.bs, e.bsz, e.funs, e.frf, e.hok, e.bare⟩ hb r hl h) fun rr s' hq => ?_)
  have e := run_end tk I hq
  cases rr with
  | error e' => exact e
  | ok fl => cases fl <;> first | exact e | exact e.elim
theorem len_of {ss' : List S} {r : Rz} {ss : List S} {k : Nat} (h : Tn U.G k md q ss = some (r, ss')) (hf : U.G.fns q = some f) : ss.length = f.ps.length := by
  cases k with
  | zero => cases h
  | succ k =>
    simp only [Tn, hf, Option.bind_some] at h
    exact (req_some h).1
end
end RE
set_option Elab.async false
set_option linter.all false
set_option maxRecDepth 100000
set_option autoImplicit false
set_option maxHeartbeats 1000000
/-! REf: calls by name: defs, classes, own first arguments. -/
namespace RE
open PySem PySem.Spec PyProof.Rows L2 TL
theorem attr_base {x : Expr} {a : Str} {env : PySem.Env} {w : Sem Value} (h : notC0 x = true) : attributeBase x a env w = w := by
  unfold attributeBase
  split
  · cases h
  · rfl
section
variable {U : Sd} {T : Tb} {lv : Nat} {md : Md} {X : Cx} {q : Str} {f : Fc} {pins : List (Addr × Obj)} {σ : L2.St} {H : Hp} {s : Shared} {Q : VK} {us ws zs : List Value} {vs ys : List V} {kn : List Str} {ds es : List D} {M W : Addr → Prop} {r : Rz} {ss' : List S}
theorem Reps.un : ∀ {ds es : List D} {zs : List V}, Reps M H (ds ++ es) zs → ∃ vs ws, zs = vs ++ ws ∧ Reps M H ds vs ∧ Reps M H es ws
  | [], es, zs, h => ⟨[], zs, rfl, rfl, h⟩
  | d :: ds, es, zs, ⟨v, r, e, a, b⟩ => by
    obtain ⟨vs, ws, e2, h1, h2⟩ := Reps.un b
    exact ⟨v :: vs, ws, by rw [e, e2]; rfl, ⟨v, vs, rfl, a, h1⟩, h2⟩
/-- positional data -/
theorem run_data (ok : XOk U T lv md X) {A : Around} (hA : A.frames = X.A.frames) (hr : Room lv A) {m : Md} (hc : m.calm = true) (hg : m.gk = true → A.guards = some []) (hf : U.G.fns q = some f) (hp : f.po = true) (hT : T m q (ds.map S.im) = some (r, ss')) (g : Good M W H) (rr : Reps M H ds vs) (pc : PC X M σ H Q r)
    (I : Inv X pins σ H s) (rv : Vals vs us) : wpAny (model X.prog X.w) A (call (.ref (U.ad q)) us) (EP X pins σ Q) X.xe s := by
  have hl := ok.wd.len m q f _ _ _ hf hT
  rw [List.length_map] at hl
  have hl2 : vs.length = f.ps.length := by rw [rr.len]; exact hl
  have hb := ok.wd.bp q f hf hp s us (by rw [← ok.K]; exact I.kIn) (by rw [← rv.length]; exact hl2)
  exact runXA (kn := []) (ws := []) (ok.fnx hf) hA hr hc hg I hb hl2 rv (spK_of hT g rr pc)
/-- a def called by its name with data -/
theorem ck_fn (ok : XOk U T lv md X) {n : Nat} {p : Pat} {zd : List D} (hp : U.G.pat q n kn = some p) (ha : argsOf p (ds ++ es) = some zd) (hT : T md q (zd.map S.im) = some (r, ss')) (hn : ds.length = n) (hk : es.length = kn.length) (g : Good M W H) (r1 : Reps M H ds vs) (r2 : Reps M H es ys) (pc : PC X M σ H Q r) :
    CK X (.ref (U.ad q)) [] kn σ vs ys H Q := ⟨fun pins s us ws I rv rz => by
  obtain ⟨f, hf, qv, pv, hpl, hb⟩ := ok.wd.bn q n kn p hp
  obtain ⟨zv, zu, e1, e2, e3⟩ := pick_of pv ha (Reps.app r1 r2) (rv.append rz)
  have hb' := hb s us ws zu (by rw [← ok.K]; exact I.kIn) (by rw [← rv.length, r1.len]; exact hn) (by rw [← rz.length, r2.len]; exact hk) e1
  exact runX (ok.fnx hf) (ok.room.mono (by omega)) ok.mc ok.gd I hb' (by rw [e3.len, args_len ha, hpl]) e2 (spK_of hT g e3 pc)⟩
/-! ### C(..) -/
theorem make_sp {A : Addr} (g : Good M W H) (r1 : Reps M H ds vs) (hT : makeD T md A q ds = some r) (pc : PC X M σ H Q r) : ∃ Ex : XK, Takes X (fun cls d σ' H' => σ' = σ ∧ Ex cls d H') ∧ ∀ x dx, H x = none → H dx = none → dx ≠ x →
    spX T md q (V.ref x :: vs) (upd (upd H dx (.own x)) x (.ins A dx [])) (fun v H2 => v = .non ∧ Q (.ref x) H2) Ex := by
  have base : ∀ (Ex : XK) (r' : Rz) (ss' : List S), T md q (.own (.ins A [] []) :: ds.map S.im) = some (r', ss') → (∀ x dx, H x = none → H dx = none → dx ≠ x → (∀ a o, H a = some o → (upd (upd H dx (.own x)) x (.ins A dx [])) a = some o) →
      PostX (Mp M x) (fun a => a = x) (V.ref x :: vs) (upd (upd H dx (.own x)) x (.ins A dx [])) ss' (fun v H2 => v = .non ∧ Q (.ref x) H2) Ex r') → ∀ x dx, H x = none → H dx = none → dx ≠ x → spX T md q (V.ref x :: vs) (upd (upd H dx (.own x)) x (.ins A dx [])) (fun v H2 => v = .non ∧ Q (.ref x) H2) Ex := by
    intro Ex r' ss' hT' post x dx hx hd hne
    have hx1 : (upd H dx (.own x)) x = none := by rw [upd_ne (fun z => hne z.symm)]; exact hx
    have ex1 : ∀ a o, H a = some o → (upd (upd H dx (.own x)) x (.ins A dx [])) a = some o := fun a o h => ext_new hx1 a o (ext_new hd a o h)
    refine ⟨Mp M x, fun a => a = x, _, ss', r', hT', ⟨fun a z => .inr z, fun a m z => ?_⟩, envR_own (xs := .ins A [] []) upd_same ⟨dx, [], rfl, rfl, rfl⟩ (Reps.ex (Xt.of ex1) ds (Reps.gr (mp_gr hx) ds r1)), post x dx hx hd hne ex1⟩
    rcases m with m | m
    · exact (g.ext ex1).mt a m z
    · rw [m, upd_same] at z; cases z
  have keep : ∀ {x dx : Addr} {H2 : Hp}, H x = none → (∀ a o, H a = some o → (upd (upd H dx (.own x)) x (.ins A dx [])) a = some o) → Xt (fun a => a = x) (upd (upd H dx (.own x)) x (.ins A dx [])) H2 → ∀ a o, H a = some o → H2 a = some o :=
    fun hx ex1 xt a o h => xt a o (fun z => by rw [z, hx] at h; cases h) (ex1 a o h)
  unfold makeD at hT
  split at hT
  · rename_i B ns zs rest heq
    split at hT
    · rename_i hB
      subst hB
      cases hT
      refine ⟨E0, takes_no fun _ _ _ _ z => z.2, base E0 _ _ heq fun x dx hx hd hne ex1 v H2 xt g2 E2 rp => ⟨rp, ?_⟩⟩
      obtain ⟨u, hu, p2, h2, rfl, _, hp2, dx2, vs2, rfl, hle2, r2⟩ := E2.at_ 0 _ rfl
      have : p2 = x := by simpa using hu.symm
      subst this
      exact pc _ H2 (keep hx ex1 xt) ⟨p2, dx2, vs2, rfl, g.notM hx, hp2, Reps.anti (fun _ m => .inl m) zs r2⟩
    · cases hT
  · rename_i x rest heq
    cases hT
    obtain ⟨Wx, tk, h⟩ := pc
    refine ⟨fun cls d H' => Wx cls d σ H', tk.imp fun c d σ' H' ⟨e, z⟩ => e ▸ z, base _ _ _ heq fun y dx hx hd hne ex1 dd H2 xt g2 E2 ⟨ws, n1, n2, n3⟩ => ?_⟩
    exact h dd H2 (keep hx ex1 xt) ⟨ws, fun m => n1 (.inl m), n2, Reps.anti (fun _ m => .inl m) _ n3⟩
  · cases hT
theorem ck_make (ok : XOk U T lv md X) {A : Addr} {p p' : Pat} {n : Nat} {zd : List D} (hm : Mk X.K A (U.ad q)) (hp : U.G.pat q (n + 1) kn = some (.inl 0 :: p)) (hb : behind p = some p') (ha : argsOf p' (ds ++ es) = some zd) (hT : makeD T md A q zd = some r) (hn : ds.length = n) (hk : es.length = kn.length)
    (g : Good M W H) (r1 : Reps M H ds vs) (r2 : Reps M H es ys) (pc : PC X M σ H Q r) : CK X (.ref A) [] kn σ vs ys H Q := ⟨fun pins s us ws I rv rz => by
  obtain ⟨f, hf, qv, pv, hpl, hbd⟩ := ok.wd.bn q (n + 1) kn _ hp
  cases pv with
  | inl _ pv =>
    rename_i qv
    obtain ⟨q', pv', hpick⟩ := pick_behind pv hb
    obtain ⟨zv, zu, e1, e2, e3⟩ := pick_of pv' ha (Reps.app r1 r2) (rv.append rz)
    obtain ⟨Ex, tk, hsp⟩ := make_sp g e3 hT pc
    have hx := I.hok.fresh (Nat.le_succ s.heap.objs.size)
    have hd := I.hok.fresh (Nat.le_refl s.heap.objs.size)
    have hq := hsp (s.heap.objs.size + 1) s.heap.objs.size hx hd (Nat.ne_of_lt (Nat.lt_succ_self _))
    have I2 := Inv.made (C := A) I
    have gd2 : md.gk = true → (X.A.under (.builtin "type.__call__" ⟨.ref A :: us, kn.zip ws⟩)).guards = some [] := fun z => by
      have gd := ok.gd z
      first | exact gd | (simpa [Around.under, Code.guards, Code.isGuard, pushGuards, guardIds] using gd)
    have hpk : pickV (.inl 0 :: qv) (Value.ref (s.heap.objs.size + 1) :: (us ++ ws)) = some (Value.ref (s.heap.objs.size + 1) :: zu) := by
      simp [pickV, hpick _ _ _ e1]
    have hbind := hbd { s with heap := (s.heap.push PySem.W.emptyDict).push (PySem.W.instObj A s.heap.objs.size) } (Value.ref (s.heap.objs.size + 1) :: us) ws _ (by rw [← ok.K]; exact I2.kIn) (by rw [List.length_cons, ← rv.length, r1.len, hn]) (by rw [← rz.length, r2.len]; exact hk) hpk
    have hl : (V.ref (s.heap.objs.size + 1) :: zv).length = f.ps.length := by
      rw [List.length_cons, e3.len, args_len ha, hpl, List.length_cons]
      have : ∀ {p p' : Pat}, behind p = some p' → p'.length = p.length := by
        intro p
        induction p with
        | nil => intro p' h; cases h; rfl
        | cons a p ih =>
          intro p' h
          cases a with
          | inl i =>
            cases i with
            | zero => cases h
            | succ i => simp only [behind, Option.map_eq_some_iff] at h; obtain ⟨z, hz, rfl⟩ := h; simp [ih hz]
          | inr d => simp only [behind, Option.map_eq_some_iff] at h; obtain ⟨z, hz, rfl⟩ := h; simp [ih hz]
      rw [this hb]
    refine wpAny_call (make_map (f := U.ad q) I.kIn hm.makes hm.init (beq_iff_eq.mp hm.fn) (codeAny_mono ((ok.fnx hf).run md _ X.stack _ _ _ (Value.ref (s.heap.objs.size + 1) :: zu) (V.ref (s.heap.objs.size + 1) :: zv) _ Ex ((ok.room.mono (by omega) : Room (lv + 1) X.A).make A us (kn.zip ws)) ok.mc gd2 (I2.env0.make A us (kn.zip ws)) hbind (.cons rfl e2) hl hq) fun rr s' hq' => ?_))
    cases rr with
    | error e => exact tk e s' (XE.of_call I2 (fun cls d H' h => ⟨rfl, h⟩) hq')
    | ok fl =>
      cases fl with
      | ret u =>
        obtain ⟨v, H', I3, rv', ev, q3⟩ := I2.after hq'
        subst ev
        exact ⟨rv', ⟨V.ref (s.heap.objs.size + 1), H', I3, rfl, q3⟩⟩
      | next => exact hq'.elim
      | brk => exact hq'.elim
      | cont => exact hq'.elim⟩
end
end RE
set_option Elab.async false
set_option linter.all false
set_option maxRecDepth 100000
set_option autoImplicit false
set_option maxHeartbeats 1000000
/-! REg: operators, comparisons, attributes. -/
namespace RE
open PySem PySem.Spec PyProof.Rows L2 TL
def JEt (X : Cx) (tst : Bool) (x : Expr) (δ : TL.Env) (r : Rz) (δ' : TL.Env) : Prop :=
  match tst with
  | false => JE X x δ r δ'
  | true => JT X x δ r δ'
section
variable {X : Cx} {a b e : Expr} {δ δ1 δ2 δ' : TL.Env} {r : Rz} {pos p : Pos} {x y : D} {xn : Xn}
theorem op_no {f : Value → Value → Sem Value} : OpR X f (fun _ _ _ _ => False) := fun _ _ _ _ _ _ _ _ _ _ _ _ h => h.elim
theorem un_no {f : Value → Sem Value} : UnR X f (fun _ _ _ => False) := fun _ _ _ _ _ _ _ _ _ h => h.elim
theorem ca_no {f : Value} : CallR X f (fun _ _ _ => False) := fun _ _ _ _ _ _ _ _ _ h => h.elim
/-- as a test: the value's truth -/
theorem s_fin {tst : Bool} {o : Option (Rz × TL.Env)} (hv : ∀ r δ', o = some (r, δ') → JE X e δ r δ') (he : ∀ whole, isTrue e X.env whole = (do let v ← whole; standAt e.pos; holding [v] (truthy v))) (h : fin tst o = some (r, δ')) : JEt X tst e δ r δ' := by
  cases tst with
  | false => exact hv r δ' h
  | true =>
    rcases bR_some h with ⟨x, δ1, h1, h2⟩ | ⟨r1, d1, δ1, h1, hd, h2⟩
    · cases h2
      have j := hv _ _ h1
      exact fun M W σ H Q g E k => wT_of (pt_val pe_w he) (j M W σ H _ g E k)
    · have j := (hv _ _ h1).tr hd
      obtain ⟨k, hk, e⟩ := Option.map_eq_some_iff.mp h2
      cases e
      cases d1 <;> first | (cases hk; done) | skip
      · cases hk; exact tt_bl j he
      · cases hk; exact tt_lst j he
end
/-! ### own operators -/
def OpS (X : Cx) (f : Value → Value → Sem Value) (r : L2.St → R2) : Prop :=
  ∀ (pins : List (Addr × Obj)) (s : Shared) (σ : L2.St) (H : Hp) (x y : V) (v u : Value) (Q : VK), Inv X pins σ H s → RelV x v → RelV y u → r σ x y H Q → wpAny (model X.prog X.w) X.A (f v u) (EP X pins σ Q) X.xe s
section
variable {X : Cx} {a b : Expr} {pos : Pos} {σ : L2.St} {H : Hp} {Q : VK} {r : L2.St → R2}
theorem we_opS {op : Operator} (ho : OpS X (binaryOp op) r) (h : wE X a σ H fun x H1 => wE X b σ H1 fun y H2 => r σ x y H2 Q) : wE X (.BinOp a op b pos) σ H Q :=
  ⟨fun pins s I => wpAny_BinOp (binT pe_w pe_w I h fun v u s2 x y H2 I2 rx ry q => ho pins s2 σ H2 x y v u Q I2 rx ry q)⟩
theorem we_cmpS {op : CmpOp} (ho : OpS X (compareOp op) r) (hm : behindInMarks op b = false) (h : wE X a σ H fun x H1 => wE X b σ H1 fun y H2 => r σ x y H2 Q) : wE X (.Compare a [op] [b] pos) σ H Q :=
  ⟨fun pins s I => wpAny_Compare1 (binT pe_w pe_w I h fun v u s2 x y H2 I2 rx ry q => ho pins s2 σ H2 x y v u Q I2 rx ry q) hm⟩
theorem wt_cmpS {op : CmpOp} {Qt : Bool → Hp → Prop} (ho : OpS X (compareOp op) r) (hm : behindInMarks op b = false) (h : wE X a σ H fun x H1 => wE X b σ H1 fun y H2 => r σ x y H2 fun z H' => ∃ k, z = .bl k ∧ Qt k H') : wT X (.Compare a [op] [b] pos) σ H Qt :=
  ⟨fun pins s I => wpAny_isTrue_Compare1 (binT pe_w pe_w I h fun v u s2 x y H2 I2 rx ry q => thn (ho pins s2 σ H2 x y v u _ I2 rx ry q) fun c s3 ⟨z, H3, I3, r3, k, e, q3⟩ => by
    subst e
    cases r3
    exact wpAny_truthy_bool ⟨H3, I3, q3⟩) hm⟩
end
section
variable {U : Sd} {T : Tb} {lv : Nat} {md : Md} {X : Cx} {q : Str} {A : Addr} {a b e : Expr} {δ δ1 δ2 δ' : TL.Env} {r : Rz} {pos p : Pos} {x y : D} {ns : List Str} {ds : List D}
theorem call_inv {ds : List D} {r : Rz} {m : Md} (h : callD U.G T m q ds = some r) : ∃ f ss', U.G.fns q = some f ∧ f.po = true ∧ T m q (ds.map S.im) = some (r, ss') := by
  unfold callD at h
  obtain ⟨f, hf, h⟩ := Option.bind_eq_some_iff.mp h
  split at h
  · rename_i hp
    obtain ⟨⟨r', ss'⟩, h1, h2⟩ := Option.map_eq_some_iff.mp h
    cases h2
    exact ⟨f, ss', hf, hp, h1⟩
  · cases h
/-- the answer of an own operator's def -/
def rOp (T : Tb) (md : Md) (q : Str) (X : Cx) (A : Addr) (ty : V → Hp → Prop) : L2.St → R2 := fun σ x y H Q => ∃ a dx fs, x = .ref a ∧ H a = some (.ins A dx fs) ∧ ty y H ∧ ∃ (M W : Addr → Prop) (ds : List D) (r : Rz) (ss' : List S), T md q (ds.map S.im) = some (r, ss') ∧ Good M W H ∧ Reps M H ds [x, y] ∧ PC X M σ H Q r
theorem ops_ownC (ok : XOk U T lv md X) {op : Operator} {f : Fc} (ho : U.G.own A (PySem.dunder op.info.2) = some q) (hf : U.G.fns q = some f) (hp : f.po = true) : OpS X (binaryOp op) (rOp T md q X A fun y H => ∃ b dy fs, y = .ref b ∧ H b = some (.ins A dy fs)) := by
  intro pins s σ H x y v u Q I rx ry h
  obtain ⟨a, dx, fs, rfl, ha, ⟨b, dy, fs', rfl, hb⟩, M, W, ds, r, ss', hT, g, rr, pc⟩ := h
  cases rx
  cases ry
  obtain ⟨c, hs, hfn⟩ := ok.wd.own A _ q ho
  rw [← ok.K] at c hs hfn
  obtain ⟨mA, J, _⟩ := ins_get I.hok ha
  obtain ⟨mB, J', _⟩ := ins_get I.hok hb
  obtain ⟨od, J, _⟩ := J.look
  obtain ⟨od', J', _⟩ := J'.look
  obtain ⟨m, hF⟩ := I.fr
  refine PySem.W.binop_K hF I.ok.mod.kin J J'.type c.sf hs hfn (wpAny_mono (run_data ok rfl (ok.room.mono (by omega)) ok.mc ok.gd hf hp hT g rr pc I (.cons rfl (.cons rfl .nil))) (fun r s' hq => ?_) fun _ _ z => z)
  exact SlX.cmpback (z := hq.choose) hq.choose_spec.choose_spec.2.1 hq
theorem ops_ownI (ok : XOk U T lv md X) {op : Operator} {f : Fc} (ho : U.G.own A (PySem.dunder op.info.2) = some q) (hri : U.G.ri A op = true) (hf : U.G.fns q = some f) (hp : f.po = true) : OpS X (binaryOp op) (rOp T md q X A fun y _ => ∃ i, y = .int i) := by
  intro pins s σ H x y v u Q I rx ry h
  obtain ⟨a, dx, fs, rfl, ha, ⟨i, rfl⟩, M, W, ds, r, ss', hT, g, rr, pc⟩ := h
  cases rx
  obtain ⟨t, rfl⟩ := ry
  obtain ⟨c, hs, hfn⟩ := ok.wd.own A _ q ho
  obtain ⟨hrr, hsub, fo, ro, h1, h2⟩ := ok.wd.ri A op hri
  rw [← ok.K] at c hs hfn hrr hsub h1 h2
  obtain ⟨mA, J, _⟩ := ins_get I.hok ha
  obtain ⟨od, J, _⟩ := J.look
  obtain ⟨m, hF⟩ := I.fr
  refine PySem.W.ksp_binT hF I.ok.mod.kin J rfl c.sf hs hfn hrr (.inl rfl) h1 h2 hsub (wpAny_mono (run_data ok rfl (ok.room.mono (by omega)) ok.mc ok.gd hf hp hT g rr pc I (.cons rfl (.cons ⟨t, rfl⟩ .nil))) (fun r s' hq => ?_) fun _ _ z => z)
  exact SlX.cmpback (z := hq.choose) hq.choose_spec.choose_spec.2.1 hq
theorem own_je (ok : XOk U T lv md X) {op : Operator} (ha : TR X a δ (.ins A ns ds) δ1) (hb : TR X b δ1 y δ2) (ho : U.G.own A (PySem.dunder op.info.2) = some q) (hc : isClsD A y = true ∨ (isIntD y = true ∧ U.G.ri A op = true)) (h : callD U.G T md q [.ins A ns ds, y] = some r) :
    JE X (.BinOp a op b pos) δ r δ2 := je_of fun M W σ H Q g E k => by
  obtain ⟨f, ss', hf, hp, hT⟩ := call_inv h
  rcases hc with hc | ⟨hi, hri⟩
  · refine we_opS (ops_ownC ok ho hf hp) (ha M W σ H _ g E fun u H1 s1 r1 => hb M W σ H1 _ s1.good s1.env fun v H2 s2 r2 => ?_)
    have r1' := s2.rep r1
    obtain ⟨p1, dx, vs, rfl, m1, h1, rr1⟩ := id r1'
    cases y <;> first | (cases hc; done) | skip
    rename_i B ns' ds'
    have hB : B = A := by simpa [isClsD] using hc
    subst hB
    obtain ⟨p2, dy, vs', rfl, m2, h2, rr2⟩ := id r2
    exact ⟨p1, dx, _, rfl, h1, ⟨p2, dy, _, rfl, h2⟩, M, W, _, r, ss', hT, s2.good, ⟨_, _, rfl, r1', _, _, rfl, r2, rfl⟩, KE.pc (s1.trans s2) g k⟩
  · refine we_opS (ops_ownI ok ho hri hf hp) (ha M W σ H _ g E fun u H1 s1 r1 => hb M W σ H1 _ s1.good s1.env fun v H2 s2 r2 => ?_)
    have r1' := s2.rep r1
    obtain ⟨p1, dx, vs, rfl, m1, h1, rr1⟩ := id r1'
    cases y <;> first | (cases hi; done) | skip
    exact ⟨p1, dx, _, rfl, h1, ⟨_, r2⟩, M, W, _, r, ss', hT, s2.good, ⟨_, _, rfl, r1', _, _, rfl, r2, rfl⟩, KE.pc (s1.trans s2) g k⟩
theorem bin_je (ok : XOk U T lv md X) {op : Operator} (ha : TR X a δ x δ1) (hb : TR X b δ1 y δ2) (h : binD U.G T md op x y = some r) : JE X (.BinOp a op b pos) δ r δ2 := by
  unfold binD at h
  split at h
  · split at h
    · obtain ⟨d, hd, e⟩ := Option.map_eq_some_iff.mp h
      cases e
      cases op <;> simp only [intOp] at hd <;> first | (cases hd; done) | skip
      · cases hd; exact tr_add ha hb
      · cases hd; exact tr_sub ha hb
      · obtain ⟨hc, e⟩ := req_some hd; cases e; exact tr_mul ha hb hc
      · obtain ⟨hc, e⟩ := req_some hd; cases e; exact tr_mod ha hb hc
      · obtain ⟨hc, e⟩ := req_some hd; cases e; exact tr_pow ha hb hc
      · obtain ⟨hc, e⟩ := req_some hd; cases e; exact tr_fdiv ha hb hc
    · cases h
  · split at h
    · obtain ⟨hc, e⟩ := req_some h; cases e; exact tr_addS ha hb hc
    · cases h
  · split at h
    · obtain ⟨hc, e⟩ := req_some h; cases e; exact tf_cat ha hb hc
    · cases h
  · split at h
    · rename_i q hq
      obtain ⟨hc, e⟩ := req_some h
      exact own_je ok ha hb hq hc e
    · cases h
  · cases h
/-! -a -/
theorem neg_je (ok : XOk U T lv md X) (ha : TR X a δ x δ1) (h : negD U.G T md x = some r) : JE X (.UnaryOp .USub a pos) δ r δ1 := by
  unfold negD at h
  split at h
  · cases h; exact tr_neg ha
  · split at h
    · rename_i A ns ds _ q hq
      obtain ⟨f, ss', hf, hp, hT⟩ := call_inv h
      refine je_of fun M W σ H Q g E k => ⟨fun pins s I => ?_⟩
      refine UnaryOp_ (thn ((ha M W σ H (fun u H1 => Stp M W σ δ1 H H1 ∧ Rep M H1 (.ins A ns ds) u) g E fun u H1 s1 r1 => ⟨s1, r1⟩).run pins s I) fun v s1 ⟨u, H1, I1, ru, st, r1⟩ => ?_)
      obtain ⟨p1, dx, vs, rfl, m1, h1, rr1⟩ := id r1
      cases ru
      obtain ⟨c, hs, hfn⟩ := ok.wd.own A _ q hq
      rw [← ok.K] at hs hfn
      obtain ⟨mA, J, _⟩ := ins_get I1.hok h1
      obtain ⟨od, J, _⟩ := J.look
      obtain ⟨m, hF⟩ := I1.fr
      exact PySem.W.ksp_neg hF I1.ok.mod.kin J hs hfn (run_data ok rfl (ok.room.mono (by omega)) ok.mc ok.gd hf hp hT st.good ⟨_, _, rfl, r1, rfl⟩ (KE.pc st g k) I1 (vs := [V.ref p1]) (.cons rfl .nil))
    · cases h
  · cases h
end
end RE
set_option Elab.async false
set_option linter.all false
set_option maxRecDepth 100000
set_option autoImplicit false
set_option maxHeartbeats 1000000
/-! REh: comparisons, attributes, built-ins. -/
namespace RE
open PySem PySem.Spec PyProof.Rows L2 TL
theorem mark_no {op : CmpOp} {x : Expr} (h : isSetE x = false) : behindInMarks op x = false := by
  cases x <;> first | rfl | cases h
theorem okE_set {N : List Str} {sc : Scope} {e : E} {x : Expr} (h : okE N sc e x = true) : isSetE x = false := by
  cases x <;> first
    | rfl
    | (exfalso; cases e <;> cases h)
section
variable {U : Sd} {T : Tb} {lv : Nat} {md : Md} {X : Cx} {q : Str} {A : Addr} {a b e : Expr} {es : List Expr} {δ δ1 δ2 δ' : TL.Env} {r : Rz} {pos p : Pos} {x y d : D} {ns : List Str} {ds : List D} {k : Bool}
/-- both readings of a comparison -/
def Cm (X : Cx) (op : CmpOp) (a b : Expr) (pos : Pos) (δ : TL.Env) (k : Bool) (δ' : TL.Env) : Prop := TR X (.Compare a [op] [b] pos) δ (.bl k) δ' ∧ TT X (.Compare a [op] [b] pos) δ k δ'
theorem cm_op {op : CmpOp} {r2 : R2} (ho : OpR X (compareOp op) r2) (ha : TR X a δ x δ1) (hb : TR X b δ1 y δ2) (hr : OpT r2 x y (.bl k)) (hm : behindInMarks op b = false) : Cm X op a b pos δ k δ2 := ⟨tr_cmp ho ha hb hr hm, tt_cmp ho ha hb hr hm⟩
def rCm (T : Tb) (md : Md) (q : Str) (X : Cx) (A : Addr) (neg : Bool) : L2.St → R2 := fun σ x y H Q => ∃ a dx fs t, x = .ref a ∧ H a = some (.ins A dx fs) ∧ TyX X.K H y t ∧ PySem.W.notFirst X.K A t = true ∧ ∃ (M W : Addr → Prop) (ds : List D) (k : Bool) (ss' : List S), T md q (ds.map S.im) = some (.im (.bl k), ss') ∧ Good M W H ∧ Reps M H ds [x, y] ∧
  ∀ H', (∀ a o, H a = some o → H' a = some o) → Q (.bl (if neg then !k else k)) H'
theorem ops_eq (ok : XOk U T lv md X) {f : Fc} (ho : U.G.own A "__eq__" = some q) (hf : U.G.fns q = some f) (hp : f.po = true) : OpS X (compareOp .Eq) (rCm T md q X A false) := by
  intro pins s σ H x y v u Q I rx ry h
  obtain ⟨a, dx, fs, t, rfl, ha, ty, hn, M, W, ds, k, ss', hT, g, rr, pc⟩ := h
  cases rx
  obtain ⟨c, hs, hfn⟩ := ok.wd.own A _ q ho
  rw [← ok.K] at hs hfn
  obtain ⟨mA, J, _⟩ := ins_get I.hok ha
  obtain ⟨od, J, _⟩ := J.look
  obtain ⟨m, hF⟩ := I.fr
  refine PySem.W.cmp_K (op := .Eq) ok.room.units0 hF I.ok.mod.kin J (looks_ty I ry ty) hn hs hfn (wpAny_mono (run_data (Q := fun z H' => z = .bl k ∧ Q (.bl k) H') ok rfl (ok.room.mono (by omega)) ok.mc ok.gd hf hp hT g rr (show PC X M σ H _ (.im (.bl k)) from fun z H' ex rz => ⟨rz, pc H' ex⟩) I (.cons rfl (.cons ry .nil))) (fun r s' hq => ?_) fun _ _ z => z)
  obtain ⟨z, H', I', rz, rfl, hq⟩ := hq
  cases rz
  exact ⟨.bl k, H', I', rfl, hq⟩
theorem ops_ne (ok : XOk U T lv md X) {f : Fc} (ho : U.G.own A "__eq__" = some q) (hf : U.G.fns q = some f) (hp : f.po = true) : OpS X (compareOp .NotEq) (rCm T md q X A true) := by
  intro pins s σ H x y v u Q I rx ry h
  obtain ⟨a, dx, fs, t, rfl, ha, ty, hn, M, W, ds, k, ss', hT, g, rr, pc⟩ := h
  cases rx
  obtain ⟨c, hs, hfn⟩ := ok.wd.own A _ q ho
  have hne := ok.wd.one A q ho
  rw [← ok.K] at c hs hfn hne
  obtain ⟨mA, J, _⟩ := ins_get I.hok ha
  obtain ⟨od, J, _⟩ := J.look
  obtain ⟨m, hF⟩ := I.fr
  refine ne_own (by have := ok.room.units; omega) hF I.ok.mod.kin J (looks_ty I ry ty) hn c.cm hne hs hfn (wpAny_mono (run_data (A := X.A.in1) (Q := fun z H' => z = .bl k ∧ Q (.bl (!k)) H') ok rfl ((ok.room.mono (by omega) : Room (lv + 1) X.A).in1) ok.mc ok.gd hf hp hT g rr (show PC X M σ H _ (.im (.bl k)) from fun z H' ex rz => ⟨rz, pc H' ex⟩) I (.cons rfl (.cons ry .nil))) (fun r s' hq => ?_) fun _ _ z => z)
  obtain ⟨z, H', I', rz, rfl, hq⟩ := hq
  cases rz
  exact ⟨k, rfl, .bl (!k), H', I', rfl, hq⟩
theorem cm_own (ok : XOk U T lv md X) {op : CmpOp} {neg : Bool} {f : Fc} (ho : OpS X (compareOp op) (rCm T md q X A neg)) (ha : TR X a δ (.ins A ns ds) δ1) (hb : TR X b δ1 y δ2) (hn : U.G.nf A y = true) {ss' : List S} (hT : T md q ([.ins A ns ds, y].map S.im) = some (.im (.bl k), ss')) (hm : behindInMarks op b = false) : Cm X op a b pos δ (if neg then !k else k) δ2 := by
  obtain ⟨t, ty, hnf⟩ := ok.wd.nf A y hn
  rw [← ok.K] at ty hnf
  have key : ∀ (M W : Addr → Prop) (σ : L2.St) (H : Hp) (Q : VK), Good M W H → EnvR M W H σ δ → (∀ H', Stp M W σ δ2 H H' → Q (.bl (if neg then !k else k)) H') → wE X a σ H fun x H1 => wE X b σ H1 fun y H2 => rCm T md q X A neg σ x y H2 Q := fun M W σ H Q g E kk =>
    ha M W σ H _ g E fun u H1 s1 r1 => hb M W σ H1 _ s1.good s1.env fun v H2 s2 r2 => by
      have r1' := s2.rep r1
      obtain ⟨p1, dx, vs, rfl, m1, h1, rr1⟩ := id r1'
      exact ⟨p1, dx, _, t, rfl, h1, ty.x r2, hnf, M, W, _, k, ss', hT, s2.good, ⟨_, _, rfl, r1', _, _, rfl, r2, rfl⟩, fun H' ex => kk H' ((s1.trans s2).ext ex)⟩
  exact ⟨fun M W σ H Q g E kk => we_cmpS ho hm (key M W σ H Q g E fun H' st => kk _ H' st rfl), fun M W σ H Q g E kk => wt_cmpS ho hm (key M W σ H _ g E fun H' st => ⟨_, rfl, kk H' st⟩)⟩
theorem eq_inv (h : eqD U.G T md x y = some k) : (∃ A ns ds q f ss', x = .ins A ns ds ∧ U.G.own A "__eq__" = some q ∧ U.G.nf A y = true ∧ U.G.fns q = some f ∧ f.po = true ∧ T md q ([x, y].map S.im) = some (.im (.bl k), ss')) ∨ (∃ i j, x = .int i ∧ y = .int j ∧ k = decide (i = j)) ∨ (∃ i j, x = .str i ∧ y = .str j ∧ k = decide (i = j)) ∨
    (x.Ok ∧ y.Ok ∧ x.py.depth ≤ 64 ∧ y.py.depth ≤ 64 ∧ k = PyData.eqv x.py y.py) := by
  unfold eqD at h
  split at h
  · split at h
    · rename_i q hq
      obtain ⟨hn, h⟩ := req_some h
      split at h
      · rename_i b hb
        cases h
        obtain ⟨f, ss', hf, hp, hT⟩ := call_inv hb
        exact .inl ⟨_, _, _, q, f, ss', rfl, hq, hn, hf, hp, hT⟩
      · cases h
    · cases h
  · split at h
    · cases h; exact .inr (.inl ⟨_, _, rfl, rfl, rfl⟩)
    · cases h
  · split at h
    · cases h; exact .inr (.inr (.inl ⟨_, _, rfl, rfl, rfl⟩))
    · cases h
  · obtain ⟨⟨h1, h2, h3, h4⟩, e⟩ := req_some h
    cases e
    exact .inr (.inr (.inr ⟨h1, h2, h3, h4, rfl⟩))
theorem non_rep {M : Addr → Prop} {H : Hp} {v : V} (h : nonD x = some k) (r : Rep M H x v) : decide (v = V.non) = k := by
  cases x <;> cases h
  · obtain rfl : v = .non := r; rfl
  all_goals first
    | (obtain rfl : v = V.bl _ := r; rfl)
    | (obtain rfl : v = V.int _ := r; rfl)
    | (obtain rfl : v = V.str _ := r; rfl)
    | (obtain ⟨_, _, rfl, _⟩ := r; rfl)
    | (obtain ⟨_, _, _, rfl, _⟩ := r; rfl)
    | (obtain ⟨rfl, _⟩ := r; rfl)
theorem cmp_je (ok : XOk U T lv md X) {op : CmpOp} (ha : TR X a δ x δ1) (hb : TR X b δ1 y δ2) (h : cmpD U.G T md op x y = some k) (hm : behindInMarks op b = false) : Cm X op a b pos δ k δ2 := by
  unfold cmpD at h
  split at h
  · rcases eq_inv h with ⟨A, ns, ds, q, f, ss', rfl, hq, hn, hf, hp, hT⟩ | ⟨i, j, rfl, rfl, rfl⟩ | ⟨i, j, rfl, rfl, rfl⟩ | ⟨h1, h2, h3, h4, rfl⟩
    · exact cm_own (f := f) ok (ops_eq ok hq hf hp) ha hb hn hT hm
    · exact cm_op op_eq ha hb ot_eqI hm
    · exact cm_op op_eq ha hb ot_eqS hm
    · exact cm_op (op_eqD ok.hu) ha hb (ot_eqD (D.Ok.data x h1) (D.Ok.data y h2) (h1.shaped h3) (h2.shaped h4)) hm
  · obtain ⟨k', hk, rfl⟩ := Option.map_eq_some_iff.mp h
    rcases eq_inv hk with ⟨A, ns, ds, q, f, ss', rfl, hq, hn, hf, hp, hT⟩ | ⟨i, j, rfl, rfl, rfl⟩ | ⟨i, j, rfl, rfl, rfl⟩ | ⟨h1, h2, h3, h4, rfl⟩
    · exact cm_own (f := f) ok (ops_ne ok hq hf hp) ha hb hn hT hm
    · exact cm_op op_ne ha hb ot_neI hm
    · exact cm_op op_ne ha hb ot_neS hm
    · exact cm_op (op_neD ok.hu) ha hb (ot_neD (D.Ok.data x h1) (D.Ok.data y h2) (h1.shaped h3) (h2.shaped h4)) hm
  · split at h
    · cases h; exact cm_op op_lt ha hb (ot_I0 fun _ _ => rfl) hm
    · cases h
  · split at h
    · cases h; exact cm_op op_le ha hb (ot_I0 fun _ _ => rfl) hm
    · cases h
  · split at h
    · cases h; exact cm_op op_gt ha hb (ot_I0 fun _ _ => rfl) hm
    · cases h
  · split at h
    · cases h; exact cm_op op_ge ha hb (ot_I0 fun _ _ => rfl) hm
    · cases h
  · split at h
    · exact cm_op op_isN ha hb (fun M W H u v Q _ ru rv kk => ⟨rv, kk _ H (fun _ _ e => e) (by rw [non_rep h ru]; exact rfl)⟩) hm
    · cases h
  · split at h
    · obtain ⟨k', hk, rfl⟩ := Option.map_eq_some_iff.mp h
      exact cm_op op_notN ha hb (fun M W H u v Q _ ru rv kk => ⟨rv, kk _ H (fun _ _ e => e) (by rw [non_rep hk ru]; exact rfl)⟩) hm
    · cases h
  · cases h
/-! ### attributes -/
theorem att_je (ok : XOk U T lv md X) {f : Str} (ha : TR X a δ x δ1) (h : attD U.G T md x f = some r) (hb : notC0 a = true) : JE X (.Attribute a f pos) δ r δ1 := by
  unfold attD at h
  split at h
  · split at h
    · rename_i A ns ds _ q hq
      obtain ⟨r', h1, h2⟩ := Option.bind_eq_some_iff.mp h
      obtain ⟨d, hd, e⟩ := Option.map_eq_some_iff.mp h2
      cases e
      obtain ⟨fc, ss', hf, hp, hT⟩ := call_inv h1
      obtain ⟨c, pp, hpr⟩ := ok.wd.prop A f q hq
      rw [← ok.K] at c hpr
      have hl := ok.wd.len _ q fc _ _ _ hf hT
      have F := (ok.fnx hf).toN (md := ⟨false, md.calm⟩) ok.mc rfl
      have hbp := (ok.wd.bp q fc hf hp).binds
      rw [← ok.K] at hbp
      have Fo : FnOk X.prog X.w X.K X.mg X.base CX0 lv (U.ad q) (U.fd q) fc.ps (fun vs H Q _ => vs.length = fc.ps.length ∧ spT (RX T ⟨false, md.calm⟩ q) vs H Q E0) :=
        ⟨fun _ _ _ _ z => z.1, fun A outer s H args us vs Q Ex hr e0 hb rv z => codeAny_mono (F.run A outer s H args us vs Q hr e0 hb rv z.1 z.2) fun r s' hq => by
          cases r with
          | ok fl => cases fl <;> exact hq
          | error e => exact hq.elim⟩
      have main : ∀ (res : Res), r' = zR res → TR X (.Attribute a f pos) δ d δ1 := fun res hres M W σ H Q g E k => by
        refine wE_of (pe_prop (dvs := []) (E := E0) pe_w c hpr Fo (ok.room.mono (by omega)) hbp .nil (fun _ _ _ _ _ _ _ z => z.elim) (attr_base hb)) (ha M W σ H _ g E fun v H1 s1 r1 => ?_)
        obtain ⟨p1, dx, vs, rfl, m1, h1', rr1⟩ := id r1
        refine ⟨p1, dx, _, rfl, h1', by simpa using hl, M, fun _ => False, [.im (.ins A ns ds)], ss', res, by show T _ q _ = some (zR res, ss'); rw [← hres]; exact hT, good0 s1.good, envR_args (ds := [.ins A ns ds]) ⟨_, _, rfl, r1, rfl⟩, fun v H2 xt g2 _ rr => ?_⟩
        have ex : ∀ a o, H1 a = some o → H2 a = some o := fun a o h => xt a o (fun z => z) h
        cases res with
        | im d' => subst hres; cases hd; exact k v H2 (s1.ext ex) rr
        | fr xs =>
          subst hres; cases hd
          obtain ⟨p', us, rfl, n', hp', r2⟩ := rr
          exact k _ H2 (s1.ext ex) ⟨p', us, rfl, s1.good.notM n', hp', Reps.anti (fun _ m => .inl m) xs r2⟩
      cases r' with
      | im d' => exact main (.im d') rfl
      | fr xs => exact main (.fr xs) rfl
      | ex x => cases hd
    · rename_i A ns ds _ hq
      split at h
      · rename_i hfl
        obtain ⟨d, hd, e⟩ := Option.map_eq_some_iff.mp h
        cases e
        obtain ⟨c, na⟩ := ok.wd.fld A f hfl
        rw [← ok.K] at c na
        exact tr_fld c na ha hd (attr_base hb)
      · cases h
  · cases h
end
end RE
set_option Elab.async false
set_option linter.all false
set_option maxRecDepth 100000
set_option autoImplicit false
set_option maxHeartbeats 1000000
/-! REi: built-ins, isinstance, subscripts. -/
namespace RE
open PySem PySem.Spec PyProof.Rows L2 TL
/-- what a built-in's name stands for -/
def Bt.id : Bt → Value
  | .abs => .builtin "abs" | .int => .type "int" | .len => .builtin "len" | .str => .type "str" | .repr => .builtin "repr" | .bool => .type "bool" | .all => .builtin "all" | .any => .builtin "any" | .max => .builtin "max" | .min => .builtin "min"
theorem boot_bt (b : Bt) : bootBuiltins b.nm = some b.id := by cases b <;> decide +kernel
theorem bt_name (b : Bt) : b.nm ≠ "__name__" := by cases b <;> decide
theorem bt_debug (b : Bt) : (b.nm == ("__debug__" : Str)) = false := by cases b <;> decide
theorem ty_boot (t : Ty) : bootBuiltins t.nm = some (.type (tyS t)) := by cases t <;> decide +kernel
theorem ty_name (t : Ty) : t.nm ≠ "__name__" := by cases t <;> decide
theorem ty_debug (t : Ty) : (t.nm == ("__debug__" : Str)) = false := by cases t <;> decide
theorem gl_of {X : Cx} {sc : Scope} {n : Str} (h : glB sc n = true) (hs : X.env.scope = sc) : Gl X n ∧ (n == ("__debug__" : Str)) = false := by
  simp only [glB, Bool.and_eq_true, decide_eq_true_eq, Bool.not_eq_true'] at h
  exact ⟨by show X.env.scope.names.lookup n = _; rw [hs]; exact h.1, h.2⟩
section
variable {U : Sd} {T : Tb} {lv : Nat} {md : Md} {X : Cx} {q : Str} {A : Addr} {a b e : Expr} {es : List Expr} {δ δ1 δ2 δ' : TL.Env} {r : Rz} {pos p : Pos} {x y d : D} {ns : List Str} {ds xs : List D} {k : Bool}
/-- a built-in called -/
theorem we_blt {bt : Bt} {rc : List V → Hp → VK → Prop} {σ : L2.St} {H : Hp} {Q : VK} (ok : XOk U T lv md X) (hc : CallR X bt.id rc) (hg : Gl X bt.nm) (hs : ∀ x ∈ e :: es, isStar x = false) (h : wA X (e :: es) σ H fun vs H1 => rc vs H1 Q) : wE X (.Call (.Name bt.nm p) (e :: es) [] pos) σ H Q := by
  have hm : X.mg bt.nm = none := by rw [ok.mg]; exact ok.wd.nb bt
  have he : starEach (e :: es) X.env = (false, eval e X.env) :: starEach es X.env := star_cons (hs e (List.mem_cons_self ..))
  have hpl : (backTo pos (starEach es X.env)).any (·.1) = false := star_plain fun y hy => hs y (List.mem_cons_of_mem _ hy)
  have hv := boot_bt bt
  cases bt with
  | abs => exact wE_of (pe_callB hc hg hm hv pa_w (bt_name _) (bt_debug _) he hpl) h
  | int => exact wE_of (pe_callTy hc hg hm hv pa_w (bt_name _) (bt_debug _) he hpl) h
  | len => exact wE_of (pe_callB hc hg hm hv pa_w (bt_name _) (bt_debug _) he hpl) h
  | str => exact wE_of (pe_callTy hc hg hm hv pa_w (bt_name _) (bt_debug _) he hpl) h
  | repr => exact wE_of (pe_callB hc hg hm hv pa_w (bt_name _) (bt_debug _) he hpl) h
  | bool => exact wE_of (pe_callTy hc hg hm hv pa_w (bt_name _) (bt_debug _) he hpl) h
  | all => exact wE_of (pe_callB hc hg hm hv pa_w (bt_name _) (bt_debug _) he hpl) h
  | any => exact wE_of (pe_callB hc hg hm hv pa_w (bt_name _) (bt_debug _) he hpl) h
  | max => exact wE_of (pe_callB hc hg hm hv pa_w (bt_name _) (bt_debug _) he hpl) h
  | min => exact wE_of (pe_callB hc hg hm hv pa_w (bt_name _) (bt_debug _) he hpl) h
theorem blt_tr {bt : Bt} {rc : List V → Hp → VK → Prop} (ok : XOk U T lv md X) (hc : CallR X bt.id rc) (hg : Gl X bt.nm) (hs : ∀ x ∈ es, isStar x = false) (ha : TA X es δ ds δ1) (hl : es ≠ []) (hr : CaT rc ds d) : TR X (.Call (.Name bt.nm p) es [] pos) δ d δ1 := fun M W σ H Q g E kk => by
  cases es with
  | nil => exact absurd rfl hl
  | cons e es => exact we_blt ok hc hg hs (ha M W σ H _ g E fun vs H1 s1 r1 => hr M W H1 vs Q s1.good r1 fun w H2 e2 r2 => kk w H2 (s1.ext e2) r2)
/-! own __repr__, __str__, __bool__ -/
def rO1 (T : Tb) (m : Md) (q : Str) (A : Addr) (d : D) : List V → Hp → VK → Prop := fun xs H Q => ∃ a dx fs, xs = [.ref a] ∧ H a = some (.ins A dx fs) ∧ ∃ (M W : Addr → Prop) (x : D) (ss' : List S), T m q [.im x] = some (.im d, ss') ∧ Good M W H ∧ Rep M H x (.ref a) ∧
  ∀ v H', (∀ a o, H a = some o → H' a = some o) → Rep M H' d v → Q v H'
theorem ca_o1 {ss' : List S} (hT : T md q [.im (.ins A ns xs)] = some (.im d, ss')) : CaT (rO1 T md q A d) [.ins A ns xs] d := fun M W H us Q g r kk => by
  obtain ⟨v, rfl, r1⟩ := reps1 r
  obtain ⟨a, dx, vs, rfl, m, h1, h2⟩ := id r1
  exact ⟨a, dx, _, rfl, h1, M, W, _, ss', hT, g, r1, kk⟩
theorem call_repr (ok : XOk U T lv md X) {f : Fc} {t : Str} (ho : U.G.own A "__repr__" = some q) (hf : U.G.fns q = some f) (hp : f.po = true) : CallR X (.builtin "repr") (rO1 T md q A (.str t)) := by
  intro pins s σ H xs us Q I r h
  obtain ⟨a, dx, fs, rfl, ha, M, W, x, ss', hT, g, rx, pc⟩ := h
  obtain ⟨c, hs, hfn⟩ := ok.wd.own A _ q ho
  rw [← ok.K] at hs hfn
  obtain ⟨mA, J, _⟩ := ins_get I.hok ha
  obtain ⟨od, J, _⟩ := J.look
  obtain ⟨m, hF⟩ := I.fr
  cases r with
  | cons r1 r2 =>
    cases r2
    cases r1
    have r1 : Room (lv + 1) X.A := ok.room.mono (by omega)
    refine PySem.W.repr_K (by have := r1.in1.un; omega) hF I.ok.mod.kin J hs hfn (wpAny_mono (run_data (A := X.A.in1) (ds := [x]) (Q := fun z H' => z = .str t ∧ Q (.str t) H') ok rfl ((ok.room.mono (by omega) : Room (lv + 1) X.A).in1) ok.mc ok.gd hf hp hT g ⟨_, _, rfl, rx, rfl⟩ (show PC X M σ H _ (.im (.str t)) from fun z H' ex rz => ⟨rz, pc _ H' ex rfl⟩) I (vs := [V.ref a]) (.cons rfl .nil)) (fun u s' hq => ?_) fun _ _ z => z)
    obtain ⟨v, H', I', rv, rfl, q'⟩ := hq
    obtain ⟨tk, rfl⟩ := rv
    exact ⟨.str t, H', I', ⟨tk, rfl⟩, q'⟩
theorem call_str (ok : XOk U T lv md X) {f : Fc} {t : Str} (ho : U.G.own A "__str__" = some q) (hf : U.G.fns q = some f) (hp : f.po = true) : CallR X (.type "str") (rO1 T md q A (.str t)) := by
  intro pins s σ H xs us Q I r h
  obtain ⟨a, dx, fs, rfl, ha, M, W, x, ss', hT, g, rx, pc⟩ := h
  obtain ⟨c, hs, hfn⟩ := ok.wd.own A _ q ho
  rw [← ok.K] at hs hfn
  obtain ⟨mA, J, _⟩ := ins_get I.hok ha
  obtain ⟨od, J, _⟩ := J.look
  cases r with
  | cons r1 r2 =>
    cases r2
    cases r1
    have r2 : Room (lv + 2) X.A := ok.room.mono (by omega)
    refine PySem.W.kso_call (by have := r2.in1.in1.un; omega) I.kIn J hs hfn (wpAny_mono (run_data (A := X.A.in1.in1) (ds := [x]) (Q := fun z H' => z = .str t ∧ Q (.str t) H') ok rfl r2.in1.in1 ok.mc ok.gd hf hp hT g ⟨_, _, rfl, rx, rfl⟩ (show PC X M σ H _ (.im (.str t)) from fun z H' ex rz => ⟨rz, pc _ H' ex rfl⟩) I (vs := [V.ref a]) (.cons rfl .nil)) (fun u s' hq => ?_) fun _ _ z => z)
    obtain ⟨v, H', I', rv, rfl, q'⟩ := hq
    obtain ⟨tk, rfl⟩ := rv
    exact ⟨.str t, H', I', ⟨tk, rfl⟩, q'⟩
theorem call_bool (ok : XOk U T lv md X) {f : Fc} {t : Bool} (ho : U.G.own A "__bool__" = some q) (hf : U.G.fns q = some f) (hp : f.po = true) : CallR X (.type "bool") (rO1 T md q A (.bl t)) := by
  intro pins s σ H xs us Q I r h
  obtain ⟨a, dx, fs, rfl, ha, M, W, x, ss', hT, g, rx, pc⟩ := h
  obtain ⟨c, hs, hfn⟩ := ok.wd.own A _ q ho
  rw [← ok.K] at hs hfn
  obtain ⟨mA, J, _⟩ := ins_get I.hok ha
  obtain ⟨od, J, _⟩ := J.look
  obtain ⟨m, hF⟩ := I.fr
  cases r with
  | cons r1 r2 =>
    cases r2
    cases r1
    have r2 : Room (lv + 2) X.A := ok.room.mono (by omega)
    refine bool_own hF I.ok.mod.kin J hs hfn (wpAny_mono (run_data (A := X.A.in1.in1) (ds := [x]) (Q := fun z H' => z = .bl t ∧ Q (.bl t) H') ok rfl r2.in1.in1 ok.mc ok.gd hf hp hT g ⟨_, _, rfl, rx, rfl⟩ (show PC X M σ H _ (.im (.bl t)) from fun z H' ex rz => ⟨rz, pc _ H' ex rfl⟩) I (vs := [V.ref a]) (.cons rfl .nil)) (fun u s' hq => ?_) fun _ _ z => z)
    obtain ⟨v, H', I', rv, rfl, q'⟩ := hq
    cases rv
    exact ⟨.bl t, H', I', rfl, q'⟩
/-- an item's text within a list's repr -/
theorem shT_of (ok : XOk U T lv md X) {t : Str} (h : shD U.G T md x = some t) : ShT X x t := by
  unfold shD at h
  split at h
  · obtain ⟨hi, e⟩ := req_some h; cases e; exact shT_int hi
  · split at h
    · rename_i A ns ds _ q hq
      split at h
      · rename_i t' ht
        cases h
        obtain ⟨f, ss', hf, hp, hT⟩ := call_inv ht
        obtain ⟨c, hs, hfn⟩ := ok.wd.own A _ q hq
        rw [← ok.K] at hs hfn
        have hl : ∀ ss r ss', RX T ⟨false, md.calm⟩ q ss r ss' → ss.length = f.ps.length := fun ss r ss' h => ok.wd.len _ q f _ _ _ hf h
        have hbp := (ok.wd.bp q f hf hp).binds
        rw [← ok.K] at hbp
        have ss_eq : ss' = [.im (.ins A ns ds)] := ok.wd.im _ q f _ _ _ hf hT (by simp)
        subst ss_eq
        exact shT_own (R := RX T ⟨false, md.calm⟩ q) ⟨_, hs, hfn, FnN.pos ((ok.fnx hf).toN ok.mc rfl) hbp hl⟩ (ok.room.mono (by omega)) hT
      · cases h
    · cases h
  · cases h
end
end RE
set_option Elab.async false
set_option linter.all false
set_option maxRecDepth 100000
set_option autoImplicit false
set_option maxHeartbeats 1000000
/-! REj: built-ins by their data, isinstance, subscripts, displays, f-strings. -/
namespace RE
open PySem PySem.Spec PyProof.Rows L2 TL
theorem bools_map : ∀ {xs : List D} {bs : List Bool}, bools xs = some bs → xs = bs.map D.bl
  | [], _, h => by cases h; rfl
  | .bl b :: r, bs, h => by
    simp only [bools, Option.map_eq_some_iff] at h
    obtain ⟨t, ht, rfl⟩ := h
    rw [bools_map ht]; rfl
  | .non :: _, _, h | .int _ :: _, _, h | .str _ :: _, _, h | .lst _ :: _, _, h | .scr _ _ _ :: _, _, h | .tup _ :: _, _, h | .ins _ _ _ :: _, _, h | .vl _ :: _, _, h => by cases h
theorem mapM_at {f : D → Option Str} : ∀ {xs : List D} {ts : List Str}, xs.mapM f = some ts → ts.length = xs.length ∧ ∀ (i : Nat) (d : D) (t : Str), xs[i]? = some d → ts[i]? = some t → f d = some t
  | [], ts, h => by
    simp at h
    subst h
    exact ⟨rfl, fun i d t h => by simp at h⟩
  | x :: xs, ts, h => by
    simp only [List.mapM_cons, Option.pure_def, Option.bind_eq_bind, Option.bind_eq_some_iff] at h
    obtain ⟨t, ht, us, hu, e⟩ := h
    cases e
    obtain ⟨h1, h2⟩ := mapM_at hu
    refine ⟨by simp [h1], fun i d t' hd ht' => ?_⟩
    cases i with
    | zero => cases hd; cases ht'; exact ht
    | succ i => exact h2 i d t' (by simpa using hd) (by simpa using ht')
section
variable {U : Sd} {T : Tb} {lv : Nat} {md : Md} {X : Cx} {q : Str} {A : Addr} {a b e : Expr} {es : List Expr} {δ δ1 δ2 δ' : TL.Env} {r : Rz} {pos p : Pos} {x y d : D} {ns : List Str} {ds xs : List D} {k : Bool}
theorem repr_je (ok : XOk U T lv md X) (hg : Gl X Bt.repr.nm) (hs : ∀ x ∈ es, isStar x = false) (ha : TA X es δ [x] δ1) (hl : es ≠ []) (gk : md.gk = true) {t : Str} (h : reprD U.G T md x = some t) : TR X (.Call (.Name Bt.repr.nm p) es [] pos) δ (.str t) δ1 := by
  have gd := ok.gd gk
  unfold reprD at h
  split at h
  · split at h
    · rename_i A ns ds _ q hq
      split at h
      · rename_i t' ht
        cases h
        obtain ⟨f, ss', hf, hp, hT⟩ := call_inv ht
        exact blt_tr ok (call_repr ok hq hf hp) hg hs ha hl (ca_o1 hT)
      · cases h
    · cases h
  · split at h
    · rename_i hc
      cases h
      exact blt_tr (bt := .repr) ok (call_reprD gd ok.hu) hg hs ha hl (ca_repr (D.Ok.data _ hc.1) (.inl ⟨_, rfl⟩) (D.Ok.show _ hc.1) (D.Ok.nod _ hc.1) hc.2.2 (hc.1.len hc.2.1))
    · split at h
      · rename_i xs _ ts hts
        obtain ⟨⟨hne, hz⟩, e⟩ := req_some h
        cases e
        obtain ⟨h1, h2⟩ := mapM_at hts
        refine blt_tr (bt := .repr) ok (call_reprL gd ok.hu hne h1 (fun i d t hd ht => shT_of ok (h2 i d t hd ht)) hz) hg hs ha hl fun M W H us Q g r kk => ?_
        obtain ⟨v, rfl, pp, vs, rfl, m, hp, rr⟩ := reps1 r
        exact ⟨M, W, pp, vs, rfl, g, hp, rr, fun H' ex => kk _ H' ex rfl⟩
      · cases h
  · obtain ⟨hc, e⟩ := req_some h
    cases e
    exact blt_tr (bt := .repr) ok (call_reprD gd ok.hu) hg hs ha hl (ca_repr (D.Ok.data _ hc.1) (.inr ⟨_, rfl⟩) (D.Ok.show _ hc.1) (D.Ok.nod _ hc.1) hc.2.2 (hc.1.len hc.2.1))
  · cases h
theorem blt_je (ok : XOk U T lv md X) {bt : Bt} (hg : Gl X bt.nm) (hs : ∀ x ∈ es, isStar x = false) (ha : TA X es δ ds δ1) (hl : es.length = ds.length) (h : bltD U.G T md bt ds = some r) : JE X (.Call (.Name bt.nm p) es [] pos) δ r δ1 := by
  have hne : ds ≠ [] → es ≠ [] := fun z w => by subst w; exact z (List.length_eq_zero_iff.mp hl.symm)
  unfold bltD at h
  split at h
  · cases h; exact blt_tr (bt := .abs) ok call_abs hg hs ha (hne (by simp)) ca_abs
  · cases h; exact blt_tr (bt := .int) ok call_int1 hg hs ha (hne (by simp)) ca_int
  · cases h; exact blt_tr (bt := .len) ok call_len_seq hg hs ha (hne (by simp)) ca_lenL
  · cases h; exact blt_tr (bt := .len) ok call_len_seq hg hs ha (hne (by simp)) ca_lenT
  · rename_i K a ns
    obtain ⟨e, h⟩ := req_some h
    cases h
    have e' : K = X.K := by rw [e, ok.K, ok.wd.kk]
    subst e'
    exact blt_tr (bt := .len) ok call_len_seq hg hs ha (hne (by simp)) ca_lenS
  · cases h; exact blt_tr (bt := .max) ok (call_max2 ok.calm) hg hs ha (hne (by simp)) ca_max2
  · cases h; exact blt_tr (bt := .min) ok (call_min2 ok.calm) hg hs ha (hne (by simp)) ca_min2
  · obtain ⟨bs, hb, e⟩ := Option.map_eq_some_iff.mp h
    cases e
    rw [bools_map hb] at ha
    exact blt_tr (bt := .all) ok (cr_all ok.calm) hg hs ha (hne (by simp)) ca_all
  · obtain ⟨bs, hb, e⟩ := Option.map_eq_some_iff.mp h
    cases e
    rw [bools_map hb] at ha
    exact blt_tr (bt := .any) ok (cr_any ok.calm) hg hs ha (hne (by simp)) ca_any
  · obtain ⟨hc, e⟩ := req_some h
    cases e
    exact blt_tr (bt := .str) ok call_str_int hg hs ha (hne (by simp)) (ca_strI hc)
  · split at h
    · rename_i A ns xs _ q hq
      split at h
      · rename_i t ht
        cases h
        obtain ⟨f, ss', hf, hp, hT⟩ := call_inv ht
        exact blt_tr (bt := .str) ok (call_str ok hq hf hp) hg hs ha (hne (by simp)) (ca_o1 hT)
      · cases h
    · cases h
  · split at h
    · rename_i A ns xs _ q hq
      split at h
      · rename_i t ht
        cases h
        obtain ⟨f, ss', hf, hp, hT⟩ := call_inv ht
        exact blt_tr (bt := .bool) ok (call_bool ok hq hf hp) hg hs ha (hne (by simp)) (ca_o1 hT)
      · cases h
    · cases h
  · obtain ⟨gk, h⟩ := req_some h
    obtain ⟨t, ht, e⟩ := Option.map_eq_some_iff.mp h
    cases e
    exact repr_je ok hg hs ha (hne (by simp)) gk ht
  · cases h; exact blt_tr (bt := .bool) ok call_bool1 hg hs ha (hne (by simp)) fun M W H us Q g r kk => by
      obtain ⟨v, e, h⟩ := reps1 r
      exact .inl ⟨_, by rw [e, show v = V.int _ from h], kk _ H (fun _ _ e => e) rfl⟩
  · cases h
/-! ### isinstance -/
theorem isi_tr (ok : XOk U T lv md X) {cv : V} {t u : Value} {m : Str} {p2 : Pos} (hg : Gl X "isinstance") (hs : isStar a = false) (ha : TR X a δ x δ1) (hc : TR X (.Name m p2) δ1 (.vl cv) δ1) (ht : TyD X.K x t) (hcv : ClsV cv u) (hk : PySem.W.kitOne X.K t u = some k) :
    TR X (.Call (.Name "isinstance" p) [a, .Name m p2] [] pos) δ (.bl k) δ1 :=
  tr_callB call_isi (by rw [ok.mg]; exact ok.wd.ni) (by decide +kernel) (ta_cons ha (ta_cons hc ta_nil rfl) (star_cons hs)) (ca_isi ht hcv hk) hg (by decide) (by decide) (star_cons hs) rfl
theorem isT_tr (ok : XOk U T lv md X) {t : Ty} {p2 : Pos} (hg : Gl X "isinstance") (hg2 : Gl X t.nm) (hs : isStar a = false) (ha : TR X a δ x δ1) (h : isTD U.G t x = some k) : TR X (.Call (.Name "isinstance" p) [a, .Name t.nm p2] [] pos) δ (.bl k) δ1 := by
  have hc : TR X (.Name t.nm p2) δ1 (.vl (.ty (tyS t))) δ1 := tr_blt (u := .type (tyS t)) (by rw [ok.mg]; exact ok.wd.nt t) (ty_boot t) rfl hg2 (ty_name t) (ty_debug t)
  obtain ⟨k1, k2, k3, k4, k5, k6⟩ := ok.wd.kT t
  rw [← ok.K] at k1 k2 k3 k4 k5 k6
  unfold isTD at h
  split at h
  · obtain ⟨c, hk⟩ := ok.wd.isT _ t k h
    rw [← ok.K] at c hk
    exact isi_tr ok hg hs ha hc (.ins c _ _) (.ty _) hk
  · cases h; exact isi_tr ok hg hs ha hc .non (.ty _) k1
  · cases h; exact isi_tr ok hg hs ha hc (.int _) (.ty _) k2
  · cases h; exact isi_tr ok hg hs ha hc (.bl _) (.ty _) k3
  · cases h; exact isi_tr ok hg hs ha hc (.str _) (.ty _) k4
  · cases h; exact isi_tr ok hg hs ha hc (.lst _) (.ty _) k5
  · cases h; exact isi_tr ok hg hs ha hc (.tup _) (.ty _) k6
  · cases h
theorem isC_tr (ok : XOk U T lv md X) {c q : Str} {B : Addr} {p2 : Pos} (hg : Gl X "isinstance") (hg2 : Gl X c) (hd : (c == ("__debug__" : Str)) = false) (hs : isStar a = false) (ha : TR X a δ x δ1) (hB : U.G.glo c = some (.cls B q)) (h : isCD U.G B x = some k) : TR X (.Call (.Name "isinstance" p) [a, .Name c p2] [] pos) δ (.bl k) δ1 := by
  have hm : X.mg c = some (.ref B) := by rw [ok.mg]; exact (ok.wd.gc c B q hB).1
  have hc : TR X (.Name c p2) δ1 (.vl (.ref B)) δ1 := tr_glob (u := .ref B) hm rfl hg2 hd
  have kk := ok.wd.kC c B q hB
  rw [← ok.K] at kk
  unfold isCD at h
  split at h
  · obtain ⟨c, hk⟩ := ok.wd.isC _ B k h
    rw [← ok.K] at c hk
    exact isi_tr ok hg hs ha hc (.ins c _ _) (.own _) hk
  · cases h; exact isi_tr ok hg hs ha hc .non (.own _) (kk _ (by simp))
  · cases h; exact isi_tr ok hg hs ha hc (.int _) (.own _) (kk _ (by simp))
  · cases h; exact isi_tr ok hg hs ha hc (.bl _) (.own _) (kk _ (by simp))
  · cases h; exact isi_tr ok hg hs ha hc (.str _) (.own _) (kk _ (by simp))
  · cases h; exact isi_tr ok hg hs ha hc (.lst _) (.own _) (kk _ (by simp))
  · cases h; exact isi_tr ok hg hs ha hc (.tup _) (.own _) (kk _ (by simp))
  · cases h
end
end RE
set_option Elab.async false
set_option linter.all false
set_option maxRecDepth 100000
set_option autoImplicit false
set_option maxHeartbeats 1000000
/-! REk: the parts of an expression, one by one. -/
namespace RE
open PySem PySem.Spec PyProof.Rows L2 TL
inductive A2 {α β : Type} (R : α → β → Prop) : List α → List β → Prop where
  | nil : A2 R [] []
  | cons {a : α} {b : β} {as : List α} {bs : List β} (h : R a b) (t : A2 R as bs) : A2 R (a :: as) (b :: bs)
theorem A2.len {α β : Type} {R : α → β → Prop} : ∀ {as : List α} {bs : List β}, A2 R as bs → as.length = bs.length
  | _, _, .nil => rfl
  | _, _, .cons _ t => by simp [A2.len t]
section
variable (U : Sd) (T : Tb) (lv : Nat) (md : Md) (N : List Str)
/-- what a part's text does is what the machine does, in any context of a scope -/
structure SE (sc : Scope) (e : E) (x : Expr) : Prop where
  ok : okE N sc e x = true
  run : ∀ (X : Cx), XOk U T lv md X → X.N = N → X.env.scope = sc → ∀ (tst : Bool) (δ : TL.Env) (r : Rz) (δ' : TL.Env), ee U.G T md tst e δ = some (r, δ') → JEt X tst x δ r δ'
end
section
variable {U : Sd} {T : Tb} {lv : Nat} {md : Md} {N : List Str} {sc : Scope} {X : Cx} {e a b c : E} {x y z w : Expr} {es as : List E} {xs ys : List Expr} {pos p : Pos} {δ δ' : TL.Env}
theorem SE.je (h : SE U T lv md N sc e x) (ok : XOk U T lv md X) (hN : X.N = N) (hs : X.env.scope = sc) {r : Rz} (he : ee U.G T md false e δ = some (r, δ')) : JE X x δ r δ' := h.run X ok hN hs false δ r δ' he
theorem SE.jt (h : SE U T lv md N sc e x) (ok : XOk U T lv md X) (hN : X.N = N) (hs : X.env.scope = sc) {r : Rz} (he : ee U.G T md true e δ = some (r, δ')) : JT X x δ r δ' := h.run X ok hN hs true δ r δ' he
/-! ### lists of parts -/
theorem evs_len : ∀ {es : List E} {δ δ' : TL.Env} {ds : List D}, evs U.G T md es δ = some (.inl ds, δ') → ds.length = es.length
  | [], _, _, _, h => by cases h; rfl
  | e :: es, δ, δ', ds, h => by
    simp only [evs] at h
    rcases bR_some h with ⟨x, δ1, h1, h2⟩ | ⟨r, d, δ1, h1, hd, h2⟩
    · cases h2
    · split at h2
      · cases h2
      · rename_i h3; cases h2; simp [evs_len h3]
      · cases h2
theorem s_args (ok : XOk U T lv md X) (hN : X.N = N) (hs : X.env.scope = sc) : ∀ {es : List E} {xs : List Expr}, A2 (SE U T lv md N sc) es xs → ∀ {δ δ' : TL.Env} {r : Sum (List D) Xn}, evs U.G T md es δ = some (r, δ') → JA X xs δ r δ'
  | _, _, .nil, δ, δ', r, h => by cases h; exact ta_nil
  | _, _, .cons (a := e) (b := x) (as := es) (bs := xs) he hes, δ, δ', r, h => by
    simp only [evs] at h
    have hst := star_cons (env := X.env) (xs := xs) (okE_star he.ok)
    rcases bR_some h with ⟨y, δ1, h1, h2⟩ | ⟨r1, d, δ1, h1, hd, h2⟩
    · cases h2
      have j : JX X x δ y δ' := he.je ok hN hs h1
      exact fun M W σ H Q g E k => wA_of (pa_cons pe_w pa_w hst) (j M W σ H _ g E k)
    · have ta := (he.je ok hN hs h1).tr hd
      split at h2
      · rename_i y δ2 h3
        cases h2
        have j : JXA X xs δ1 y δ' := s_args ok hN hs hes h3
        exact fun M W σ H Q g E k => wA_of (pa_cons pe_w pa_w hst) (ta M W σ H _ g E fun u H1 s1 r1 => j M W σ H1 _ s1.good s1.env (k.step s1))
      · rename_i ds δ2 h3
        cases h2
        exact ta_cons ta (s_args ok hN hs hes h3) hst
      · cases h2
theorem s_kws (ok : XOk U T lv md X) (hN : X.N = N) (hs : X.env.scope = sc) : ∀ {es : List E} {ws : List Keyword}, A2 (SE U T lv md N sc) es (ws.map (·.value)) → ∀ {δ δ' : TL.Env} {r : Sum (List D) Xn}, evs U.G T md es δ = some (r, δ') → JK X ws δ r δ'
  | _, [], .nil, δ, δ', r, h => by cases h; exact tk_nil
  | _, ⟨kn, x, kp⟩ :: ws, .cons (a := e) (as := es) he hes, δ, δ', r, h => by
    simp only [evs] at h
    rcases bR_some h with ⟨y, δ1, h1, h2⟩ | ⟨r1, d, δ1, h1, hd, h2⟩
    · cases h2
      have j : JX X x δ y δ' := he.je ok hN hs h1
      exact fun M W σ H Q g E k => wK_of (pk_cons pe_w pk_w) (j M W σ H _ g E k)
    · have ta : TR X x δ d δ1 := (he.je ok hN hs h1).tr hd
      split at h2
      · rename_i y δ2 h3
        cases h2
        have j : JXK X ws δ1 y δ' := s_kws ok hN hs hes h3
        exact fun M W σ H Q g E k => wK_of (pk_cons pe_w pk_w) (ta M W σ H _ g E fun u H1 s1 r1 => j M W σ H1 _ s1.good s1.env (k.step s1))
      · rename_i ds δ2 h3
        cases h2
        exact tk_cons ta (s_kws ok hN hs hes h3)
      · cases h2
theorem var_of {i : Nat} {n : Str} (h : varB N sc i n = true) (hN : X.N = N) (hs : X.env.scope = sc) : X.N[i]? = some n ∧ Vis X.env.scope n ∧ (n == ("__debug__" : Str)) = false ∧ (n == ("__classdict__" : Str)) = false := by
  simp only [varB, visB, nmB, Bool.and_eq_true, Bool.or_eq_true, decide_eq_true_eq, Bool.not_eq_true'] at h
  rw [hN, hs]
  exact ⟨h.1, h.2.1, h.2.2.1, h.2.2.2⟩
/-! ### names, constants -/
theorem s_var {i : Nat} {n : Str} (h : okE N sc (.var i) (.Name n pos) = true) : SE U T lv md N sc (.var i) (.Name n pos) := ⟨h, fun X ok hN hs tst δ r δ' he => by
  obtain ⟨v1, v2, v3, v4⟩ := var_of h hN hs
  refine s_fin (fun r δ' h => ?_) (fun _ => rfl) he
  split at h
  · rename_i d hd; cases h; exact tr_var (i := i) hd v1 v2 v3 v4
  · cases h⟩
theorem s_glo {n m : Str} (h : okE N sc (.glo n) (.Name m pos) = true) : SE U T lv md N sc (.glo n) (.Name m pos) := ⟨h, fun X ok hN hs tst δ r δ' he => by
  have h' : (decide (n = m) && glB sc n) = true := h
  simp only [Bool.and_eq_true, decide_eq_true_eq] at h'
  obtain ⟨rfl, hg⟩ := h'
  obtain ⟨g1, g2⟩ := gl_of hg hs
  refine s_fin (fun r δ' h => ?_) (fun _ => rfl) he
  split at h
  · rename_i d hd
    cases h
    obtain ⟨v, u, hm, rv, hr⟩ := ok.wd.gv n d hd
    exact tr_c (pe_glob g1 (by rw [ok.mg]; exact hm) rv g2) hr
  · cases h⟩
theorem s_int {i j : Int} {k : Nat} (h : okE N sc (.int i) (.Constant (.int j) k pos) = true) : SE U T lv md N sc (.int i) (.Constant (.int j) k pos) := ⟨h, fun X ok hN hs tst δ r δ' he => by
  obtain rfl : i = j := of_decide_eq_true h
  exact s_fin (fun r δ' h => by cases h; exact tr_int) (fun _ => rfl) he⟩
theorem s_str {i j : Str} {k : Nat} (h : okE N sc (.str i) (.Constant (.str j) k pos) = true) : SE U T lv md N sc (.str i) (.Constant (.str j) k pos) := ⟨h, fun X ok hN hs tst δ r δ' he => by
  obtain rfl : i = j := of_decide_eq_true h
  exact s_fin (fun r δ' h => by cases h; exact tr_str) (fun _ => rfl) he⟩
theorem s_bl {i j : Bool} {k : Nat} (h : okE N sc (.bl i) (.Constant (.bool j) k pos) = true) : SE U T lv md N sc (.bl i) (.Constant (.bool j) k pos) := ⟨h, fun X ok hN hs tst δ r δ' he => by
  obtain rfl : i = j := of_decide_eq_true h
  exact s_fin (fun r δ' h => by cases h; exact tr_bl) (fun _ => rfl) he⟩
theorem s_non {k : Nat} : SE U T lv md N sc .non (.Constant .none k pos) := ⟨rfl, fun X ok hN hs tst δ r δ' he => s_fin (fun r δ' h => by cases h; exact tr_non) (fun _ => rfl) he⟩
/-! ### operators -/
theorem s_bin {op : Operator} (h : okE N sc (.bin op a b) (.BinOp x op y pos) = true) (ha : SE U T lv md N sc a x) (hb : SE U T lv md N sc b y) : SE U T lv md N sc (.bin op a b) (.BinOp x op y pos) := ⟨h, fun X ok hN hs tst δ r δ' he => by
  refine s_fin (fun r δ' h => ?_) (fun _ => rfl) he
  rcases bR_some h with ⟨v, δ1, h1, h2⟩ | ⟨r1, d1, δ1, h1, hd1, h2⟩
  · cases h2
    have j : JX X x δ v δ' := ha.je ok hN hs h1
    exact fun M W σ H Q g E k => wE_of (pe_op op_no pe_w pe_w) (j M W σ H _ g E k)
  · have ta := (ha.je ok hN hs h1).tr hd1
    rcases bR_some h2 with ⟨v, δ2, h3, h4⟩ | ⟨r2, d2, δ2, h3, hd2, h4⟩
    · cases h4
      have j : JX X y δ1 v δ' := hb.je ok hN hs h3
      exact fun M W σ H Q g E k => wE_of (pe_op op_no pe_w pe_w) (ta M W σ H _ g E fun u H1 s1 r1 => j M W σ H1 _ s1.good s1.env (k.step s1))
    · obtain ⟨z, hz, e⟩ := Option.map_eq_some_iff.mp h4
      cases e
      exact bin_je ok ta ((hb.je ok hN hs h3).tr hd2) hz⟩
theorem s_neg (h : okE N sc (.neg a) (.UnaryOp .USub x pos) = true) (ha : SE U T lv md N sc a x) : SE U T lv md N sc (.neg a) (.UnaryOp .USub x pos) := ⟨h, fun X ok hN hs tst δ r δ' he => by
  refine s_fin (fun r δ' h => ?_) (fun _ => rfl) he
  rcases bR_some h with ⟨v, δ1, h1, h2⟩ | ⟨r1, d1, δ1, h1, hd1, h2⟩
  · cases h2
    have j : JX X x δ v δ' := ha.je ok hN hs h1
    exact fun M W σ H Q g E k => wE_of (pe_un un_no pe_w) (j M W σ H _ g E k)
  · obtain ⟨z, hz, e⟩ := Option.map_eq_some_iff.mp h2
    cases e
    exact neg_je ok ((ha.je ok hN hs h1).tr hd1) hz⟩
theorem s_nt (h : okE N sc (.nt a) (.UnaryOp .Not x pos) = true) (ha : SE U T lv md N sc a x) : SE U T lv md N sc (.nt a) (.UnaryOp .Not x pos) := ⟨h, fun X ok hN hs tst δ r δ' he => by
  rcases bB_some he with ⟨v, δ1, h1, h2⟩ | ⟨k, δ1, h1, h2⟩
  · cases h2
    cases tst with
    | false =>
      have j : JX X x δ v δ' := ha.je ok hN hs h1
      exact fun M W σ H Q g E k => wE_of (pe_not pe_w) (j M W σ H _ g E k)
    | true =>
      have j : JXT X x δ v δ' := ha.jt ok hN hs h1
      exact fun M W σ H Q g E k => wT_of (pt_not pt_w) (j M W σ H _ g E k)
  · cases h2
    cases tst with
    | false => exact tr_not (ha.je ok hN hs h1)
    | true => exact tt_not (ha.jt ok hN hs h1)⟩
theorem s_ifx (h : okE N sc (.ifx c a b) (.IfExp z x y pos) = true) (hc : SE U T lv md N sc c z) (ha : SE U T lv md N sc a x) (hb : SE U T lv md N sc b y) : SE U T lv md N sc (.ifx c a b) (.IfExp z x y pos) := ⟨h, fun X ok hN hs tst δ r δ' he => by
  cases tst with
  | true => cases he
  | false =>
    rcases bB_some (show bB (ee U.G T md true c δ) _ = _ from he) with ⟨v, δ1, h1, h2⟩ | ⟨k, δ1, h1, h2⟩
    · cases h2
      have j : JXT X z δ v δ' := hc.jt ok hN hs h1
      exact fun M W σ H Q g E k => wE_of (pe_ifExp pt_w pe_w pe_w) (j M W σ H _ g E k)
    · have tc : TT X z δ k δ1 := hc.jt ok hN hs h1
      refine je_of fun M W σ H Q g E kk => wE_of (pe_ifExp pt_w pe_w pe_w) (tc M W σ H _ g E fun H1 s1 => ?_)
      cases k with
      | true =>
        rw [if_pos rfl]
        exact (ha.je ok hN hs (by simpa using h2)).ke M W σ H1 Q s1.good s1.env (KE.step s1 g kk)
      | false =>
        rw [if_neg Bool.false_ne_true]
        exact (hb.je ok hN hs (by simpa using h2)).ke M W σ H1 Q s1.good s1.env (KE.step s1 g kk)⟩
theorem s_cmp {op : CmpOp} (h : okE N sc (.cmp op a b) (.Compare x [op] [y] pos) = true) (ha : SE U T lv md N sc a x) (hb : SE U T lv md N sc b y) : SE U T lv md N sc (.cmp op a b) (.Compare x [op] [y] pos) := ⟨h, fun X ok hN hs tst δ r δ' he => by
  have hm := mark_no (op := op) (okE_set hb.ok)
  have main : ∀ {o : Option (Rz × TL.Env)}, o = bR (ee U.G T md false a δ) xR (fun u δ1 => bR (ee U.G T md false b δ1) xR fun v δ2 => (cmpD U.G T md op u v).map fun b => (.im (.bl b), δ2)) → ∀ r δ', o = some (r, δ') → (∃ v, r = .ex v ∧ JX X (.Compare x [op] [y] pos) δ v δ' ∧ JXT X (.Compare x [op] [y] pos) δ v δ') ∨ ∃ k, r = .im (.bl k) ∧ Cm X op x y pos δ k δ' := by
    intro o ho r δ' h
    rw [ho] at h
    rcases bR_some h with ⟨v, δ1, h1, h2⟩ | ⟨r1, d1, δ1, h1, hd1, h2⟩
    · cases h2
      have j : JX X x δ v δ' := ha.je ok hN hs h1
      exact .inl ⟨v, rfl, fun M W σ H Q g E k => wE_of (pe_cmpR op_no pe_w pe_w hm) (j M W σ H _ g E k), fun M W σ H Q g E k => wT_of (pt_cmpR op_no pe_w pe_w hm) (j M W σ H _ g E k)⟩
    · have ta := (ha.je ok hN hs h1).tr hd1
      rcases bR_some h2 with ⟨v, δ2, h3, h4⟩ | ⟨r2, d2, δ2, h3, hd2, h4⟩
      · cases h4
        have j : JX X y δ1 v δ' := hb.je ok hN hs h3
        exact .inl ⟨v, rfl, fun M W σ H Q g E k => wE_of (pe_cmpR op_no pe_w pe_w hm) (ta M W σ H _ g E fun u H1 s1 r1 => j M W σ H1 _ s1.good s1.env (k.step s1)), fun M W σ H Q g E k => wT_of (pt_cmpR op_no pe_w pe_w hm) (ta M W σ H _ g E fun u H1 s1 r1 => j M W σ H1 _ s1.good s1.env (k.step s1))⟩
      · obtain ⟨k, hk, e⟩ := Option.map_eq_some_iff.mp h4
        cases e
        exact .inr ⟨k, rfl, cmp_je ok ta ((hb.je ok hN hs h3).tr hd2) hk hm⟩
  cases tst with
  | false =>
    rcases main rfl r δ' he with ⟨v, rfl, j, _⟩ | ⟨k, rfl, j⟩
    · exact j
    · exact j.1
  | true =>
    rcases bR_some he with ⟨v, δ1, h1, h2⟩ | ⟨r1, d1, δ1, h1, hd1, h2⟩
    · cases h2
      rcases main rfl _ _ h1 with ⟨v', e, _, j⟩ | ⟨k, e, _⟩
      · cases e; exact j
      · cases e
    · rcases main rfl _ _ h1 with ⟨v', e, _, j⟩ | ⟨k, e, j⟩
      · subst e; cases hd1
      · subst e; cases hd1; cases h2; exact j.2⟩
end
end RE
set_option Elab.async false
set_option linter.all false
set_option maxRecDepth 100000
set_option autoImplicit false
set_option maxHeartbeats 1000000
/-! REl: calls, subscripts, displays, f-strings. -/
namespace RE
open PySem PySem.Spec PyProof.Rows L2 TL
/-- a new list, seen as data -/
def lstR : Rz → Rz
  | .fr xs => .im (.lst xs)
  | .im d => .im d
  | .ex x => .ex x
section
variable {U : Sd} {T : Tb} {lv : Nat} {md : Md} {N : List Str} {sc : Scope} {X : Cx} {e a b c : E} {x y z w : Expr} {es as kv : List E} {xs ys : List Expr} {pos p p2 : Pos} {δ δ' : TL.Env} {f g : Str} {kn : List Str} {kws : List Keyword}
theorem okEs_of (h : A2 (SE U T lv md N sc) es xs) : ∀ x ∈ xs, isStar x = false := by
  induction h with
  | nil => intro x hx; cases hx
  | cons h t ih =>
    intro x hx
    rcases List.mem_cons.mp hx with rfl | hx
    · exact okE_star h.ok
    · exact ih x hx
/-- f(..), f a name of the module -/
theorem we_callN {fv : Value} {σ : L2.St} {H : Hp} {Q : VK} (hg : Gl X f) (hm : X.mg f = some fv) (hd : (f == ("__debug__" : Str)) = false) (hk : PySem.W.keepIn X.K fv = true) (hs : ∀ x ∈ xs, isStar x = false) (hw : kwB kn kws = true)
    (h : wA X xs σ H fun vs H1 => wK X kws σ H1 fun zs H2 => CK X fv [] kn σ vs zs H2 Q) : wE X (.Call (.Name f p) xs kws pos) σ H Q :=
  ⟨fun pins s I => wpAny_Call_Name_kw (ld_glob I hg hm (callW hk hs hw I h) hd)⟩
theorem call_keep (ok : XOk U T lv md X) (h : isCal (U.G.glo f) = true) : ∃ fv, X.mg f = some fv ∧ PySem.W.keepIn X.K fv = true := by
  unfold isCal at h
  split at h
  · rename_i q hq
    obtain ⟨h1, h2⟩ := ok.wd.gf f q hq
    exact ⟨_, by rw [ok.mg]; exact h1, by rw [ok.K]; exact h2⟩
  · rename_i A q hq
    obtain ⟨h1, h2⟩ := ok.wd.gc f A q hq
    exact ⟨_, by rw [ok.mg]; exact h1, by rw [ok.K]; exact h2.kp⟩
  · cases h
theorem call_ck (ok : XOk U T lv md X) {n : Nat} {ds es : List D} {r : Rz} {M W : Addr → Prop} {σ : L2.St} {H : Hp} {Q : VK} {vs zs : List V} {fv : Value} (h : gloCall U.G T md f n kn (ds ++ es) = some r) (hm : X.mg f = some fv) (hn : ds.length = n) (hk : es.length = kn.length) (gd : Good M W H) (r1 : Reps M H ds vs) (r2 : Reps M H es zs) (pc : PC X M σ H Q r) :
    CK X fv [] kn σ vs zs H Q := by
  unfold gloCall at h
  split at h
  · rename_i q hq
    obtain ⟨h1, h2⟩ := ok.wd.gf f q hq
    rw [ok.mg, h1] at hm
    cases hm
    obtain ⟨p, hp, h⟩ := Option.bind_eq_some_iff.mp h
    obtain ⟨zd, hz, h⟩ := Option.bind_eq_some_iff.mp h
    obtain ⟨⟨r', ss'⟩, hT, e⟩ := Option.map_eq_some_iff.mp h
    cases e
    exact ck_fn ok hp hz hT hn hk gd r1 r2 pc
  · rename_i A q hq
    obtain ⟨h1, h2⟩ := ok.wd.gc f A q hq
    rw [ok.mg, h1] at hm
    cases hm
    rw [← ok.K] at h2
    obtain ⟨p, hp, h⟩ := Option.bind_eq_some_iff.mp h
    split at h
    · obtain ⟨p', hp', h⟩ := Option.bind_eq_some_iff.mp h
      obtain ⟨zd, hz, h⟩ := Option.bind_eq_some_iff.mp h
      exact ck_make ok h2 hp hp' hz h hn hk gd r1 r2 pc
    · cases h
  · cases h
theorem s_call (h : okE N sc (.call f as kn kv) (.Call (.Name g p) xs kws pos) = true) (ha : A2 (SE U T lv md N sc) as xs) (hk : A2 (SE U T lv md N sc) kv (kws.map (·.value))) : SE U T lv md N sc (.call f as kn kv) (.Call (.Name g p) xs kws pos) := ⟨h, fun X ok hN hs tst δ r δ' he => by
  have h' : (decide (f = g) && (glB sc f && (okEs N sc as xs && (kwB kn kws && okEs N sc kv (kws.map (·.value)))))) = true := h
  simp only [Bool.and_eq_true, decide_eq_true_eq] at h'
  obtain ⟨rfl, hg, _, hw, _⟩ := h'
  obtain ⟨g1, g2⟩ := gl_of hg hs
  have hst := okEs_of ha
  refine s_fin (fun r δ' h => ?_) (fun _ => rfl) he
  split at h
  · rename_i hcal
    obtain ⟨fv, hm, hkp⟩ := call_keep ok hcal
    rcases bA_some h with ⟨v, δ1, h1, h2⟩ | ⟨ds, δ1, h1, h2⟩
    · cases h2
      have j : JXA X xs δ v δ' := s_args ok hN hs ha h1
      exact fun M W σ H Q g E k => we_callN g1 hm g2 hkp hst hw (j M W σ H _ g E k)
    · have ta : TA X xs δ ds δ1 := s_args ok hN hs ha h1
      rcases bA_some h2 with ⟨v, δ2, h3, h4⟩ | ⟨ks, δ2, h3, h4⟩
      · cases h4
        have j : JXK X kws δ1 v δ' := s_kws ok hN hs hk h3
        exact fun M W σ H Q g E k => we_callN g1 hm g2 hkp hst hw (ta M W σ H _ g E fun vs H1 s1 r1 => j M W σ H1 _ s1.good s1.env (k.step s1))
      · have tk : TK X kws δ1 ks δ2 := s_kws ok hN hs hk h3
        obtain ⟨r', hr, e⟩ := Option.map_eq_some_iff.mp h4
        cases e
        refine je_of fun M W σ H Q g E k => we_callN g1 hm g2 hkp hst hw (ta M W σ H _ g E fun vs H1 s1 r1 => tk M W σ H1 _ s1.good s1.env fun zs H2 s2 r2 => ?_)
        exact call_ck ok hr hm (evs_len h1) (by rw [evs_len h3, hk.len, List.length_map, kw_len hw]) s2.good (s2.reps r1) r2 (KE.pc (s1.trans s2) g k)
  · cases h⟩
/-! ### f(q, ..), q a list or an instance of its own -/
theorem own_after {M W : Addr → Prop} {H1 H2 : Hp} {σ : L2.St} {δ1 : TL.Env} {i : Nat} {oc oc2 : OC} {a0 : Addr} {vs : List V} {rest : List S} (E : EnvR M W H1 σ δ1) (g1 : Good M W H1) (h0 : δ1[i]? = some (some (.own oc))) (hs : σ[i]? = some (some (.ref a0))) (hw : W a0) (xt : Xt (fun a => a = a0) H1 H2)
    (E2 : EnvR M (fun a => a = a0) H2 ((V.ref a0 :: vs).map some) ((S.own oc2 :: rest).map some)) : EnvR M W H2 σ (δ1.set i (some (.own oc2))) := by
  obtain ⟨u, hu, p2, us2, rfl, _, hp2, ru2⟩ := E2.at_ 0 (.own oc2) rfl
  have : p2 = a0 := by simpa using hu.symm
  subst this
  have xm : Xt M H1 H2 := fun a o m h => xt a o (fun z => m (by rw [z]; exact g1.wm p2 hw)) h
  have il : i < δ1.length := (List.getElem?_eq_some_iff.mp h0).1
  refine ⟨by rw [List.length_set]; exact E.len, fun j s hj => ?_, fun k j a ws zs h1 h2 h3 h4 => ?_⟩
  · by_cases hn : i = j
    · subst hn
      rw [List.getElem?_set_self il] at hj
      cases hj
      exact ⟨_, hs, p2, us2, rfl, hw, hp2, ru2⟩
    · rw [List.getElem?_set_ne hn] at hj
      obtain ⟨u, a1, b1⟩ := E.at_ j s hj
      refine ⟨u, a1, ?_⟩
      cases s with
      | im d => exact Rep.ex xm d b1
      | own ws =>
        obtain ⟨p', vs', rfl, w', hp', r'⟩ := b1
        exact ⟨p', vs', rfl, w', xt p' _ (fun z => hn (E.ap i j p2 oc ws h0 hj hs (by rw [← z]; exact a1))) hp', RepO.ex xm ws r'⟩
  · have key : ∀ (j : Nat) (zs : OC), (δ1.set i (some (.own oc2)))[j]? = some (some (.own zs)) → ∃ zs', δ1[j]? = some (some (.own zs')) := fun j zs q => by
      by_cases hj : i = j
      · subst hj; exact ⟨oc, h0⟩
      · rw [List.getElem?_set_ne hj] at q; exact ⟨zs, q⟩
    obtain ⟨z1, a1⟩ := key k ws h1
    obtain ⟨z2, a2⟩ := key j zs h2
    exact E.ap k j a z1 z2 a1 a2 h3 h4
theorem ck_own (ok : XOk U T lv md X) {q : Str} {fc : Fc} {i : Nat} {oc oc2 : OC} {ds : List D} {r r' : Rz} {rest : List S} {M W : Addr → Prop} {σ : L2.St} {H H1 : Hp} {Q : VK} {vs : List V} {a0 : Addr} {δ1 : TL.Env} (hf : U.G.fns q = some fc) (hp : fc.po = true) (hT : T md q (.own oc :: ds.map S.im) = some (r, .own oc2 :: rest))
    (hr : r' = lstR r) (g : Good M W H) (s1 : Stp M W σ δ1 H H1) (h0 : δ1[i]? = some (some (.own oc))) (hs : σ[i]? = some (some (.ref a0))) (r1 : Reps M H1 ds vs) (k : KE X M W σ H Q r' (δ1.set i (some (.own oc2)))) :
    CK X (.ref (U.ad q)) [] [] σ (V.ref a0 :: vs) [] H1 Q := ⟨fun pins s us ws I rv rz => by
  cases rz
  obtain ⟨p0, o0, e0, hw, hp0, ru0⟩ := s1.env.getO h0
  rw [hs] at e0
  cases e0
  have hl := ok.wd.len md q fc _ _ _ hf hT
  have hl2 : (V.ref a0 :: vs).length = fc.ps.length := by rw [List.length_cons, r1.len]; simpa using hl
  have hb := ok.wd.bp q fc hf hp s us (by rw [← ok.K]; exact I.kIn) (by rw [← rv.length]; exact hl2)
  have st : ∀ {H2 : Hp}, Xt (fun a => a = a0) H1 H2 → Good M (fun a => a = a0) H2 → EnvR M (fun a => a = a0) H2 ((V.ref a0 :: vs).map some) ((S.own oc2 :: rest).map some) → Stp M W σ (δ1.set i (some (.own oc2))) H H2 := fun xt g2 E2 =>
    ⟨s1.xt.trans (Xt.mono (fun a z => by rw [z]; exact hw) xt), ⟨g.wm, g2.mt⟩, own_after s1.env s1.good h0 hs hw xt E2⟩
  have g0 : Good M (fun a => a = a0) H1 := ⟨fun a z => by rw [z]; exact g.wm a0 hw, s1.good.mt⟩
  refine runX (kn := []) (ws := []) (ok.fnx hf) (ok.room.mono (by omega)) ok.mc ok.gd I hb hl2 rv ?_
  cases r with
  | im d =>
    subst hr
    exact ⟨E0, takes_no fun _ _ _ _ z => z.2, M, fun a => a = a0, _, _, _, hT, g0, envR_own hp0 ru0 r1, fun v H2 xt g2 E2 rr => k v H2 (st xt g2 E2) rr⟩
  | fr xs =>
    subst hr
    exact ⟨E0, takes_no fun _ _ _ _ z => z.2, M, fun a => a = a0, _, _, _, hT, g0, envR_own hp0 ru0 r1, fun v H2 xt g2 E2 ⟨p', us', e, n, hp', r2⟩ => by
      subst e
      exact k _ H2 (st xt g2 E2) ⟨p', us', rfl, g0.notM n, hp', Reps.anti (fun _ m => .inl m) xs r2⟩⟩
  | ex x =>
    subst hr
    obtain ⟨Wx, tk, h⟩ := k
    exact ⟨fun cls d H' => Wx cls d σ H', tk.imp fun c d σ' H' ⟨e, z⟩ => e ▸ z, M, fun a => a = a0, _, _, _, hT, g0, envR_own hp0 ru0 r1, fun dx H2 xt g2 E2 rx => h dx H2 (st xt g2 E2) rx⟩⟩
theorem s_callO {i : Nat} {n : Str} (h : okE N sc (.callO f i as) (.Call (.Name g p) (.Name n p2 :: xs) [] pos) = true) (ha : A2 (SE U T lv md N sc) as xs) : SE U T lv md N sc (.callO f i as) (.Call (.Name g p) (.Name n p2 :: xs) [] pos) := ⟨h, fun X ok hN hs tst δ r δ' he => by
  have h' : (decide (f = g) && (glB sc f && (varB N sc i n && okEs N sc as xs))) = true := h
  simp only [Bool.and_eq_true, decide_eq_true_eq] at h'
  obtain ⟨rfl, hg, hv, _⟩ := h'
  obtain ⟨g1, g2⟩ := gl_of hg hs
  obtain ⟨v1, v2, v3, v4⟩ := var_of hv hN hs
  have hst : ∀ x ∈ Expr.Name n p2 :: xs, isStar x = false := fun x hx => by
    rcases List.mem_cons.mp hx with rfl | hx
    · rfl
    · exact okEs_of ha x hx
  have hst1 : starEach (.Name n p2 :: xs) X.env = (false, eval (.Name n p2) X.env) :: starEach xs X.env := star_cons rfl
  refine s_fin (fun r δ' h => ?_) (fun _ => rfl) he
  split at h
  · rename_i hcal
    obtain ⟨fv, hm, hkp⟩ := call_keep ok hcal.2
    have ho : ∃ oc, δ[i]? = some (some (.own oc)) := by
      have := hcal.1
      unfold isOwn at this
      split at this
      · rename_i oc e; exact ⟨oc, e⟩
      · cases this
    obtain ⟨oc0, ho⟩ := ho
    rcases bA_some h with ⟨v, δ1, h1, h2⟩ | ⟨ds, δ1, h1, h2⟩
    · cases h2
      have j : JXA X xs δ v δ' := s_args ok hN hs ha h1
      exact fun M W σ H Q g E k => by
        obtain ⟨a0, us0, hs0, hw0, hp0, ru0⟩ := E.getO ho
        exact we_callN (kn := []) g1 hm g2 hkp hst rfl (wA_of (pa_cons (pe_var v1 v2 v3 v4) pa_w hst1) ⟨_, hs0, j M W σ H _ g E k⟩)
    · have ta : TA X xs δ ds δ1 := s_args ok hN hs ha h1
      split at h2
      · rename_i oc q hoc hq
        obtain ⟨fc, hf, h2⟩ := Option.bind_eq_some_iff.mp h2
        split at h2
        · rename_i hpo
          obtain ⟨m1, m2⟩ := ok.wd.gf f q hq
          rw [ok.mg, m1] at hm
          cases hm
          have m1' : X.mg f = some (.ref (U.ad q)) := by rw [ok.mg]; exact m1
          have fin : ∀ (r1 r2 : Rz) (oc2 : OC) (rest : List S), T md q (.own oc :: ds.map S.im) = some (r1, .own oc2 :: rest) → r2 = lstR r1 → JE X (.Call (.Name f p) (.Name n p2 :: xs) [] pos) δ r2 (δ1.set i (some (.own oc2))) := fun r1 r2 oc2 rest hT hr => je_of fun M W σ H Q g E k => by
            obtain ⟨a0, us0, hs0, hw0, hp0, ru0⟩ := E.getO ho
            refine we_callN (kn := []) g1 m1' g2 hkp hst rfl (wA_of (pa_cons (pe_var v1 v2 v3 v4) pa_w hst1) ⟨_, hs0, ta M W σ H _ g E fun vs H1 s1 r1 => wK_of pk_nil ?_⟩)
            exact ck_own ok hf hpo hT hr g s1 hoc hs0 r1 k
          unfold ownCall at h2
          split at h2
          · rename_i hT; cases h2; exact fin _ _ _ _ hT rfl
          · rename_i hT; cases h2; exact fin _ _ _ _ hT rfl
          · rename_i hT; cases h2; exact fin _ _ _ _ hT rfl
          · cases h2
        · cases h2
      · cases h2
  · cases h⟩
end
end RE
set_option Elab.async false
set_option linter.all false
set_option maxRecDepth 100000
set_option autoImplicit false
set_option maxHeartbeats 1000000
/-! REm: calls with a new list, built-ins, attributes, subscripts, displays, f-strings, and, or. -/
namespace RE
open PySem PySem.Spec PyProof.Rows L2 TL
theorem plainIx {N : List Str} {sc : Scope} {e : E} {x : Expr} (h : okE N sc e x = true) : PlainIx x := by
  cases x <;> first
    | exact fun _ _ => rfl
    | (exfalso; cases e <;> cases h)
theorem str_empty_app (t : Str) : Str.empty ++ t = t := by
  show Str.append Str.empty t = t
  unfold Str.append Str.empty
  simp
section
variable {U : Sd} {T : Tb} {lv : Nat} {md : Md} {N : List Str} {sc : Scope} {X : Cx} {e a b c : E} {x y z w : Expr} {es as kv : List E} {xs ys : List Expr} {pos p p2 p3 : Pos} {δ δ' : TL.Env} {f g m : Str} {kn : List Str} {kws : List Keyword}
/-! ### f(e, ..), e makes a new list, which f may change -/
theorem ck_fresh (ok : XOk U T lv md X) {q : Str} {fc : Fc} {oc2 : OC} {ls ds : List D} {r : Rz} {rest : List S} {M W : Addr → Prop} {σ : L2.St} {H H1 H2 : Hp} {Q : VK} {us vs : List V} {p' : Addr} {δ1 δ2 : TL.Env} (hf : U.G.fns q = some fc) (hp : fc.po = true) (hT : T md q (.own (.lst ls) :: ds.map S.im) = some (r, .own oc2 :: rest))
    (g : Good M W H) (s1 : Stp (Mp M p') W σ δ1 H H1) (n : H p' = none) (hp1 : H1 p' = some (.lst us)) (r1 : Reps (Mp M p') H1 ls us) (s2 : Stp (Mp M p') W σ δ2 H1 H2) (r2 : Reps (Mp M p') H2 ds vs) (k : KE X M W σ H Q (lstR r) δ2) :
    CK X (.ref (U.ad q)) [] [] σ (V.ref p' :: vs) [] H2 Q := ⟨fun pins s us' ws I rv rz => by
  cases rz
  have np : ¬ M p' := g.notM n
  have nW : ¬ W p' := fun w => np (g.wm p' w)
  have hp2 : H2 p' = some (.lst us) := s2.xt p' _ nW hp1
  have hl := ok.wd.len md q fc _ _ _ hf hT
  have hl2 : (V.ref p' :: vs).length = fc.ps.length := by rw [List.length_cons, r2.len]; simpa using hl
  have hb := ok.wd.bp q fc hf hp s us' (by rw [← ok.K]; exact I.kIn) (by rw [← rv.length]; exact hl2)
  have g0 : Good (Mp M p') (fun a => a = p') H2 := ⟨fun a z => .inr z, s2.good.mt⟩
  have r1' : Reps (Mp M p') H2 ls us := s2.reps r1
  have E0' := envR_own (xs := .lst ls) hp2 ⟨us, rfl, r1'⟩ r2
  have st : ∀ {H3 : Hp}, Xt (fun a => a = p') H2 H3 → Good (Mp M p') (fun a => a = p') H3 → Stp M W σ δ2 H H3 := fun {H3} xt g2 => by
    have xm : Xt (Mp M p') H2 H3 := Xt.mono (fun a z => .inr z) xt
    refine ⟨fun a o w h => xt a o (fun z => by rw [z, n] at h; cases h) (s2.xt a o w (s1.xt a o w h)), ⟨g.wm, fun a m => g2.mt a (.inl m)⟩, ⟨s2.env.len, fun i s hs => ?_, s2.env.ap⟩⟩
    obtain ⟨u, a1, b1⟩ := s2.env.at_ i s hs
    refine ⟨u, a1, ?_⟩
    cases s with
    | im d => exact Rep.anti (fun _ m => .inl m) d (Rep.ex xm d b1)
    | own ws =>
      obtain ⟨p2, vs2, rfl, w2, hp2', r2'⟩ := b1
      exact ⟨p2, vs2, rfl, w2, xt p2 _ (fun z => nW (by rw [← z]; exact w2)) hp2', RepO.anti (fun _ m => .inl m) ws (RepO.ex xm ws r2')⟩
  refine runX (kn := []) (ws := []) (ok.fnx hf) (ok.room.mono (by omega)) ok.mc ok.gd I hb hl2 rv ?_
  cases r with
  | im d => exact ⟨E0, takes_no fun _ _ _ _ z => z.2, Mp M p', fun a => a = p', _, _, _, hT, g0, E0', fun v H3 xt g2 E2 rr => k v H3 (st xt g2) (Rep.anti (fun _ m => .inl m) d rr)⟩
  | fr xs =>
    exact ⟨E0, takes_no fun _ _ _ _ z => z.2, Mp M p', fun a => a = p', _, _, _, hT, g0, E0', fun v H3 xt g2 E2 ⟨p3, us3, e, n3, hp3, r3⟩ => by
      subst e
      exact k _ H3 (st xt g2) ⟨p3, us3, rfl, fun m => g0.notM n3 (.inl m), hp3, Reps.anti (fun _ m => .inl (.inl m)) xs r3⟩⟩
  | ex x =>
    obtain ⟨Wx, tk, h⟩ := k
    exact ⟨fun cls d H' => Wx cls d σ H', tk.imp fun c d σ' H' ⟨e, z⟩ => e ▸ z, Mp M p', fun a => a = p', _, _, _, hT, g0, E0', fun dx H3 xt g2 E2 ⟨ws, n1, n2, n3⟩ => h dx H3 (st xt g2) ⟨ws, fun m => n1 (.inl m), n2, Reps.anti (fun _ m => .inl m) _ n3⟩⟩⟩
theorem s_callF (h : okE N sc (.callF f a as) (.Call (.Name g p) (x :: xs) [] pos) = true) (ha : SE U T lv md N sc a x) (hr : A2 (SE U T lv md N sc) as xs) : SE U T lv md N sc (.callF f a as) (.Call (.Name g p) (x :: xs) [] pos) := ⟨h, fun X ok hN hs tst δ r δ' he => by
  have h' : (decide (f = g) && (glB sc f && (okE N sc a x && okEs N sc as xs))) = true := h
  simp only [Bool.and_eq_true, decide_eq_true_eq] at h'
  obtain ⟨rfl, hg, _, _⟩ := h'
  obtain ⟨g1, g2⟩ := gl_of hg hs
  have hst : ∀ y ∈ x :: xs, isStar y = false := fun y hy => by
    rcases List.mem_cons.mp hy with rfl | hy
    · exact okE_star ha.ok
    · exact okEs_of hr y hy
  have hst1 := star_cons (env := X.env) (xs := xs) (okE_star ha.ok)
  refine s_fin (fun r δ' h => ?_) (fun _ => rfl) he
  split at h
  · rename_i hcal
    obtain ⟨fv, hm, hkp⟩ := call_keep ok hcal
    split at h
    · rename_i v δ1 h1
      cases h
      have j : JX X x δ v δ' := ha.je ok hN hs h1
      exact fun M W σ H Q g E k => we_callN (kn := []) g1 hm g2 hkp hst rfl (wA_of (pa_cons pe_w pa_w hst1) (j M W σ H _ g E k))
    · rename_i ls δ1 h1
      have tf : TF X x δ ls δ1 := ha.je ok hN hs h1
      rcases bA_some h with ⟨v, δ2, h3, h4⟩ | ⟨ds, δ2, h3, h4⟩
      · cases h4
        have j : JXA X xs δ1 v δ' := s_args ok hN hs hr h3
        exact fun M W σ H Q g E k => we_callN (kn := []) g1 hm g2 hkp hst rfl (wA_of (pa_cons pe_w pa_w hst1) (tr_fr tf M W σ H _ g E fun u H1 s1 r1 => j M W σ H1 _ s1.good s1.env (k.step s1)))
      · have ta : TA X xs δ1 ds δ2 := s_args ok hN hs hr h3
        split at h4
        · rename_i q hq
          obtain ⟨fc, hf, h4⟩ := Option.bind_eq_some_iff.mp h4
          split at h4
          · rename_i hpo
            obtain ⟨m1, m2⟩ := ok.wd.gf f q hq
            have m1' : X.mg f = some (.ref (U.ad q)) := by rw [ok.mg]; exact m1
            rw [← ok.K] at m2
            have fin : ∀ (r1 : Rz) (oc2 : OC) (rest : List S), T md q (.own (.lst ls) :: ds.map S.im) = some (r1, .own oc2 :: rest) → JE X (.Call (.Name f p) (x :: xs) [] pos) δ (lstR r1) δ2 := fun r1 oc2 rest hT => je_of fun M W σ H Q g E k =>
              we_callN (kn := []) g1 m1' g2 m2 hst rfl (wA_of (pa_cons pe_w pa_w hst1) (tf M W σ H _ g E fun p' us H1 s1 n hp1 r1 => ta (Mp M p') W σ H1 _ s1.good s1.env fun vs H2 s2 r2 => wK_of pk_nil (ck_fresh ok hf hpo hT g s1 n hp1 r1 s2 r2 k)))
            unfold frCall at h4
            split at h4
            · rename_i hT; cases h4; exact fin _ _ _ hT
            · rename_i hT; cases h4; exact fin _ _ _ hT
            · rename_i hT; cases h4; exact fin _ _ _ hT
            · cases h4
          · cases h4
        · cases h4
    · cases h
  · cases h⟩
/-! ### built-ins -/
theorem s_blt {bt : Bt} (h : okE N sc (.blt bt as) (.Call (.Name g p) xs [] pos) = true) (ha : A2 (SE U T lv md N sc) as xs) : SE U T lv md N sc (.blt bt as) (.Call (.Name g p) xs [] pos) := ⟨h, fun X ok hN hs tst δ r δ' he => by
  have h' : (decide (bt.nm = g) && (glB sc bt.nm && okEs N sc as xs)) = true := h
  simp only [Bool.and_eq_true, decide_eq_true_eq] at h'
  obtain ⟨rfl, hg, _⟩ := h'
  obtain ⟨g1, g2⟩ := gl_of hg hs
  have hst := okEs_of ha
  refine s_fin (fun r δ' h => ?_) (fun _ => rfl) he
  rcases bA_some h with ⟨v, δ1, h1, h2⟩ | ⟨ds, δ1, h1, h2⟩
  · cases h2
    have j : JXA X xs δ v δ' := s_args ok hN hs ha h1
    cases ha with
    | nil => cases h1
    | cons hd tl => exact fun M W σ H Q g E k => we_blt ok ca_no g1 hst (j M W σ H _ g E k)
  · obtain ⟨r', hr, e⟩ := Option.map_eq_some_iff.mp h2
    cases e
    exact blt_je ok g1 hst (s_args ok hN hs ha h1) (by rw [evs_len h1, ha.len]) hr⟩
theorem s_isT {t : Ty} (h : okE N sc (.isT a t) (.Call (.Name g p) [x, .Name m p2] [] pos) = true) (ha : SE U T lv md N sc a x) : SE U T lv md N sc (.isT a t) (.Call (.Name g p) [x, .Name m p2] [] pos) := ⟨h, fun X ok hN hs tst δ r δ' he => by
  have h' : (decide (g = "isinstance") && (glB sc "isinstance" && (okE N sc a x && (decide (m = t.nm) && glB sc t.nm)))) = true := h
  simp only [Bool.and_eq_true, decide_eq_true_eq] at h'
  obtain ⟨rfl, hg, _, rfl, hg2⟩ := h'
  have hst := okE_star ha.ok
  refine s_fin (fun r δ' h => ?_) (fun _ => rfl) he
  rcases bR_some h with ⟨v, δ1, h1, h2⟩ | ⟨r1, d1, δ1, h1, hd1, h2⟩
  · cases h2
    have j : JX X x δ v δ' := ha.je ok hN hs h1
    exact fun M W σ H Q g E k => wE_of (pe_callB (id := "isinstance") ca_no (gl_of hg hs).1 (by rw [ok.mg]; exact ok.wd.ni) (by decide +kernel) pa_w (by decide) (by decide) (star_cons hst) rfl) (wA_of (pa_cons pe_w pa_w (star_cons hst)) (j M W σ H _ g E k))
  · obtain ⟨k, hk, e⟩ := Option.map_eq_some_iff.mp h2
    cases e
    exact isT_tr ok (gl_of hg hs).1 (gl_of hg2 hs).1 hst ((ha.je ok hN hs h1).tr hd1) hk⟩
theorem s_isC {c : Str} (h : okE N sc (.isC a c) (.Call (.Name g p) [x, .Name m p2] [] pos) = true) (ha : SE U T lv md N sc a x) : SE U T lv md N sc (.isC a c) (.Call (.Name g p) [x, .Name m p2] [] pos) := ⟨h, fun X ok hN hs tst δ r δ' he => by
  have h' : (decide (g = "isinstance") && (glB sc "isinstance" && (okE N sc a x && (decide (m = c) && glB sc c)))) = true := h
  simp only [Bool.and_eq_true, decide_eq_true_eq] at h'
  obtain ⟨rfl, hg, _, rfl, hg2⟩ := h'
  have hst := okE_star ha.ok
  refine s_fin (fun r δ' h => ?_) (fun _ => rfl) he
  rcases bR_some h with ⟨v, δ1, h1, h2⟩ | ⟨r1, d1, δ1, h1, hd1, h2⟩
  · cases h2
    have j : JX X x δ v δ' := ha.je ok hN hs h1
    exact fun M W σ H Q g E k => wE_of (pe_callB (id := "isinstance") ca_no (gl_of hg hs).1 (by rw [ok.mg]; exact ok.wd.ni) (by decide +kernel) pa_w (by decide) (by decide) (star_cons hst) rfl) (wA_of (pa_cons pe_w pa_w (star_cons hst)) (j M W σ H _ g E k))
  · split at h2
    · rename_i B q hB
      obtain ⟨k, hk, e⟩ := Option.map_eq_some_iff.mp h2
      cases e
      exact isC_tr ok (gl_of hg hs).1 (gl_of hg2 hs).1 (gl_of hg2 hs).2 hst ((ha.je ok hN hs h1).tr hd1) hB hk
    · cases h2⟩
/-! ### attributes -/
theorem we_attX {σ : L2.St} {H : Hp} {Q : VK} (hb : notC0 x = true) (h : wE X x σ H fun _ _ => False) : wE X (.Attribute x f pos) σ H Q :=
  wE_of (pe_fld pe_w (attr_base hb)) (⟨fun pins s I => wpAny_mono (h.run pins s I) (fun u s' ⟨_, _, _, _, z⟩ => z.elim) fun _ _ z => z⟩)
theorem s_att (h : okE N sc (.att a f) (.Attribute x g pos) = true) (ha : SE U T lv md N sc a x) : SE U T lv md N sc (.att a f) (.Attribute x g pos) := ⟨h, fun X ok hN hs tst δ r δ' he => by
  have h' : (decide (f = g) && (okE N sc a x && notC0 x)) = true := h
  simp only [Bool.and_eq_true, decide_eq_true_eq] at h'
  obtain ⟨rfl, _, hb⟩ := h'
  refine s_fin (fun r δ' h => ?_) (fun _ => rfl) he
  rcases bR_some h with ⟨v, δ1, h1, h2⟩ | ⟨r1, d1, δ1, h1, hd1, h2⟩
  · cases h2
    have j : JX X x δ v δ' := ha.je ok hN hs h1
    exact fun M W σ H Q g E k => we_attX hb (j M W σ H _ g E k)
  · obtain ⟨r', hr, e⟩ := Option.map_eq_some_iff.mp h2
    cases e
    exact att_je ok ((ha.je ok hN hs h1).tr hd1) hr hb⟩
theorem s_attO {i : Nat} {n : Str} (h : okE N sc (.attO i f) (.Attribute (.Name n p) g pos) = true) : SE U T lv md N sc (.attO i f) (.Attribute (.Name n p) g pos) := ⟨h, fun X ok hN hs tst δ r δ' he => by
  have h' : (decide (f = g) && varB N sc i n) = true := h
  simp only [Bool.and_eq_true, decide_eq_true_eq] at h'
  obtain ⟨rfl, hv⟩ := h'
  obtain ⟨v1, v2, v3, v4⟩ := var_of hv hN hs
  refine s_fin (fun r δ' h => ?_) (fun _ => rfl) he
  split at h
  · split at h
    · rename_i A ns ds ho hfl
      obtain ⟨d, hd, e⟩ := Option.map_eq_some_iff.mp h
      cases e
      obtain ⟨c, na⟩ := ok.wd.fld A f hfl
      rw [← ok.K] at c na
      exact tr_fldO c na ho hd v1 v2 v3 v4 (attr_base rfl)
    · cases h
  · cases h⟩
/-! ### subscripts -/
theorem we_subX {σ : L2.St} {H : Hp} {Q : VK} (hi : PlainIx y) (h : wE X x σ H fun _ H1 => wE X y σ H1 fun _ _ => False) : wE X (.Subscript x y pos) σ H Q :=
  wE_of (pe_ix ix_list pe_w pe_w hi) ⟨fun pins s I => wpAny_mono (h.run pins s I) (fun u s' ⟨v, H1, I1, rv, z⟩ => ⟨v, H1, I1, rv, ⟨fun pins s I => wpAny_mono (z.run pins s I) (fun u s' ⟨_, _, _, _, z⟩ => z.elim) fun _ _ z => z⟩⟩) fun _ _ z => z⟩
theorem s_sub (h : okE N sc (.sub a b) (.Subscript x y pos) = true) (ha : SE U T lv md N sc a x) (hb : SE U T lv md N sc b y) : SE U T lv md N sc (.sub a b) (.Subscript x y pos) := ⟨h, fun X ok hN hs tst δ r δ' he => by
  have hi := plainIx hb.ok
  refine s_fin (fun r δ' h => ?_) (fun _ => rfl) he
  rcases bR_some h with ⟨v, δ1, h1, h2⟩ | ⟨r1, d1, δ1, h1, hd1, h2⟩
  · cases h2
    have j : JX X x δ v δ' := ha.je ok hN hs h1
    exact fun M W σ H Q g E k => we_subX hi (j M W σ H _ g E k)
  · have ta := (ha.je ok hN hs h1).tr hd1
    rcases bR_some h2 with ⟨v, δ2, h3, h4⟩ | ⟨r2, d2, δ2, h3, hd2, h4⟩
    · cases h4
      have j : JX X y δ1 v δ' := hb.je ok hN hs h3
      exact fun M W σ H Q g E k => we_subX hi (ta M W σ H _ g E fun u H1 s1 r1 => j M W σ H1 _ s1.good s1.env (k.step s1))
    · obtain ⟨d, hd, e⟩ := Option.map_eq_some_iff.mp h4
      cases e
      have tb := (hb.je ok hN hs h3).tr hd2
      unfold subD at hd
      split at hd
      · exact tr_ixL ta tb hd hi
      · exact tr_ixT ta tb hd hi
      · cases hd⟩
theorem s_subO {i : Nat} {n : Str} (h : okE N sc (.subO i b) (.Subscript (.Name n p) y pos) = true) (hb : SE U T lv md N sc b y) : SE U T lv md N sc (.subO i b) (.Subscript (.Name n p) y pos) := ⟨h, fun X ok hN hs tst δ r δ' he => by
  have h' : (varB N sc i n && okE N sc b y) = true := h
  simp only [Bool.and_eq_true] at h'
  obtain ⟨v1, v2, v3, v4⟩ := var_of h'.1 hN hs
  have hi := plainIx hb.ok
  refine s_fin (fun r δ' h => ?_) (fun _ => rfl) he
  split at h
  · rename_i ho
    have ho : ∃ oc, δ[i]? = some (some (.own oc)) := by
      unfold isOwn at ho
      split at ho
      · rename_i oc e; exact ⟨oc, e⟩
      · cases ho
    obtain ⟨oc0, ho⟩ := ho
    rcases bR_some h with ⟨v, δ1, h1, h2⟩ | ⟨r1, d1, δ1, h1, hd1, h2⟩
    · cases h2
      have j : JX X y δ v δ' := hb.je ok hN hs h1
      exact fun M W σ H Q g E k => by
        obtain ⟨a0, us0, hs0, hw0, hp0, ru0⟩ := E.getO ho
        refine wE_of (pe_ix ix_list (pe_var v1 v2 v3 v4) pe_w hi) ⟨_, hs0, ?_⟩
        exact j M W σ H _ g E k
    · have tb := (hb.je ok hN hs h1).tr hd1
      split at h2
      · rename_i jx xs hx
        obtain ⟨d, hd, e⟩ := Option.map_eq_some_iff.mp h2
        cases e
        refine fun M W σ H Q g E k => ?_
        obtain ⟨a0, us0, hs0, hw0, hp0, ru0⟩ := E.getO ho
        refine wE_of (pe_ix ix_list (pe_var v1 v2 v3 v4) pe_w hi) ⟨_, hs0, tb M W σ H _ g E fun u H1 s1 r1 => ?_⟩
        obtain ⟨a1, us1, hs1, hw1, hp1, vs', rfl, r'⟩ := s1.env.getO hx
        rw [hs0] at hs1
        cases hs1
        obtain ⟨w', hw2, rw2⟩ := atI_map r' hd
        exact ⟨a0, vs', jx, w', rfl, r1, SqL.of hp1, hw2, k w' H1 s1 rw2⟩
      · cases h2
  · cases h⟩
theorem s_slL (h : okE N sc (.slL a b) (.Subscript x (.Slice (some y) none none p) pos) = true) (ha : SE U T lv md N sc a x) (hb : SE U T lv md N sc b y) : SE U T lv md N sc (.slL a b) (.Subscript x (.Slice (some y) none none p) pos) := ⟨h, fun X ok hN hs tst δ r δ' he => by
  refine s_fin (fun r δ' h => ?_) (fun _ => rfl) he
  split at h
  · rename_i r1 δ1 h1
    split at h
    · rename_i d1 hd1
      split at h
      · rename_i r2 δ2 h3
        split at h
        · rename_i K q ns i hd2
          obtain ⟨e, h⟩ := req_some h
          cases h
          have e' : K = X.K := by rw [e, ok.K, ok.wd.kk]
          subst e'
          exact tf_slLo ((ha.je ok hN hs h1).tr hd1) ((hb.je ok hN hs h3).tr hd2)
        · cases h
      · cases h
    · cases h
  · cases h⟩
theorem s_slH (h : okE N sc (.slH a b) (.Subscript x (.Slice none (some y) none p) pos) = true) (ha : SE U T lv md N sc a x) (hb : SE U T lv md N sc b y) : SE U T lv md N sc (.slH a b) (.Subscript x (.Slice none (some y) none p) pos) := ⟨h, fun X ok hN hs tst δ r δ' he => by
  refine s_fin (fun r δ' h => ?_) (fun _ => rfl) he
  split at h
  · rename_i r1 δ1 h1
    split at h
    · rename_i d1 hd1
      split at h
      · rename_i r2 δ2 h3
        split at h
        · rename_i K q ns i hd2
          obtain ⟨e, h⟩ := req_some h
          cases h
          have e' : K = X.K := by rw [e, ok.K, ok.wd.kk]
          subst e'
          exact tf_slHi ((ha.je ok hN hs h1).tr hd1) ((hb.je ok hN hs h3).tr hd2)
        · cases h
      · cases h
    · cases h
  · cases h⟩
/-! ### displays -/
theorem s_lst (h : okE N sc (.lst es) (.List xs pos) = true) (ha : A2 (SE U T lv md N sc) es xs) : SE U T lv md N sc (.lst es) (.List xs pos) := ⟨h, fun X ok hN hs tst δ r δ' he => by
  refine s_fin (fun r δ' h => ?_) (fun _ => rfl) he
  rcases bA_some h with ⟨v, δ1, h1, h2⟩ | ⟨ds, δ1, h1, h2⟩
  · cases h2
    have j : JXA X xs δ v δ' := s_args ok hN hs ha h1
    exact fun M W σ H Q g E k => wE_of (pe_lst pa_w) (j M W σ H _ g E k)
  · obtain ⟨hl, e⟩ := req_some h2
    cases e
    exact tf_lst (s_args ok hN hs ha h1) hl⟩
theorem s_tup {k : Nat} (h : okE N sc (.tup es) (.Tuple xs k pos) = true) (ha : A2 (SE U T lv md N sc) es xs) : SE U T lv md N sc (.tup es) (.Tuple xs k pos) := ⟨h, fun X ok hN hs tst δ r δ' he => by
  refine s_fin (fun r δ' h => ?_) (fun _ => rfl) he
  rcases bA_some h with ⟨v, δ1, h1, h2⟩ | ⟨ds, δ1, h1, h2⟩
  · cases h2
    have j : JXA X xs δ v δ' := s_args ok hN hs ha h1
    exact fun M W σ H Q g E k => wE_of (pe_tup pa_w) (j M W σ H _ g E k)
  · obtain ⟨hl, e⟩ := req_some h2
    cases e
    exact tr_tup (s_args ok hN hs ha h1) hl⟩
/-! ### f-strings -/
theorem s_tj (ok : XOk U T lv md X) (hN : X.N = N) (hs : X.env.scope = sc) : ∀ {es : List E} {xs : List Expr}, A2 (SE U T lv md N sc) es xs → ∀ {δ δ' : TL.Env} {ds : List D} {ts : List Str} {acc : Str}, evs U.G T md es δ = some (.inl ds, δ') → strD ds = some ts → catOk acc ts → TJ X xs acc δ (ts.foldl (· ++ ·) acc) δ'
  | _, _, .nil, δ, δ', ds, ts, acc, h, h1, h2 => by cases h; cases h1; exact tj_nil
  | _, _, .cons (a := e) (b := x) (as := es) (bs := xs) he hes, δ, δ', ds, ts, acc, h, h1, h2 => by
    simp only [evs] at h
    rcases bR_some h with ⟨y, δ1, h3, h4⟩ | ⟨r1, d, δ1, h3, hd, h4⟩
    · cases h4
    · have ta := (he.je ok hN hs h3).tr hd
      split at h4
      · cases h4
      · rename_i ds' δ2 h5
        cases h4
        cases d <;> first | (cases h1; done) | skip
        simp only [strD, Option.map_eq_some_iff] at h1
        obtain ⟨ts', h6, rfl⟩ := h1
        exact tj_cons ta h2.1 (s_tj ok hN hs hes h5 h6 h2.2)
      · cases h4
theorem s_fst (h : okE N sc (.fst es) (.JoinedStr xs pos) = true) (ha : A2 (SE U T lv md N sc) es xs) : SE U T lv md N sc (.fst es) (.JoinedStr xs pos) := ⟨h, fun X ok hN hs tst δ r δ' he => by
  refine s_fin (fun r δ' h' => ?_) (fun _ => rfl) he
  split at h'
  · rename_i ds δ1 h1
    obtain ⟨ts, ht, h'⟩ := Option.bind_eq_some_iff.mp h'
    obtain ⟨hc, e⟩ := req_some h'
    cases e
    have tj := s_tj ok hN hs ha h1 ht hc
    cases ha with
    | nil =>
      have : (okEs N sc ([] : List E) [] && decide (1 ≤ ([] : List Expr).length)) = true := h
      simp at this
    | cons hx hr =>
      cases hr with
      | nil =>
        simp only [evs] at h1
        rcases bR_some h1 with ⟨y, δ2, h3, h4⟩ | ⟨r1, d, δ2, h3, hd, h4⟩
        · cases h4
        · have ta := (hx.je ok hN hs h3).tr hd
          cases h4
          cases d <;> first | (cases ht; done) | skip
          cases ht
          show TR X _ δ (.str (Str.empty ++ _)) _
          rw [str_empty_app]
          exact tr_js1 ta
      | cons hy hr => exact tr_js tj
  · cases h'⟩
theorem s_fmt (h : okE N sc (.fmt a) (.FormattedValue x (-1) none pos) = true) (ha : SE U T lv md N sc a x) : SE U T lv md N sc (.fmt a) (.FormattedValue x (-1) none pos) := ⟨h, fun X ok hN hs tst δ r δ' he => by
  refine s_fin (fun r δ' h => ?_) (fun _ => rfl) he
  rcases bR_some h with ⟨v, δ1, h1, h2⟩ | ⟨r1, d1, δ1, h1, hd1, h2⟩
  · cases h2
    have j : JX X x δ v δ' := ha.je ok hN hs h1
    exact fun M W σ H Q g E k => wE_of (pe_fmt pe_w) (j M W σ H _ g E k)
  · have ta := (ha.je ok hN hs h1).tr hd1
    split at h2
    · obtain ⟨hc, e⟩ := req_some h2; cases e; exact tr_fmt ta hc
    · obtain ⟨hc, e⟩ := req_some h2; cases e; exact tr_fmtS ta hc
    · cases h2⟩
end
end RE
set_option Elab.async false
set_option linter.all false
set_option maxRecDepth 100000
set_option autoImplicit false
set_option maxHeartbeats 1000000
/-! REn: and, or; what is walked; comprehensions. -/
namespace RE
open PySem PySem.Spec PyProof.Rows L2 TL
/-! ### and, or -/
/-- what is wanted of a test's answer -/
def KT (X : Cx) (M W : Addr → Prop) (σ : L2.St) (H : Hp) (Q : Bool → Hp → Prop) (r : Rz) (δ' : TL.Env) : Prop :=
  match r with
  | .im (.bl b) => ∀ H', Stp M W σ δ' H H' → Q b H'
  | .ex x => Kx X M W σ H δ' x
  | _ => True
def bo : Bool → BoolOp
  | true => .And
  | false => .Or
def JW (X : Cx) (e : Expr) (δ : TL.Env) : Rz → TL.Env → Prop
  | .im (.bl b), δ' => TW X e δ b δ'
  | .ex x, δ' => ∀ (M W : Addr → Prop) (σ : L2.St) (H : Hp) (Q : Bool → Hp → Prop), Good M W H → EnvR M W H σ δ → Kx X M W σ H δ' x → wW X e σ H Q
  | _, _ => True
theorem JW.jt {X : Cx} {e : Expr} {δ : TL.Env} {r : Rz} {δ' : TL.Env} (h : JW X e δ r δ') : JT X e δ r δ' := by
  cases r with
  | im d => cases d <;> first | exact trivial | exact tt_w h
  | fr xs => exact trivial
  | ex x => exact fun M W σ H Q g E k => wT_of (PW.pt pw_w) (h M W σ H Q g E k)
section
variable {U : Sd} {T : Tb} {lv : Nat} {md : Md} {N : List Str} {sc : Scope} {X : Cx} {e a b c : E} {x y z w : Expr} {es as kv : List E} {xs ys : List Expr} {pos p p2 p3 : Pos} {δ δ' : TL.Env} {f g m : Str} {kn : List Str} {kws : List Keyword}
theorem s_bopV (ok : XOk U T lv md X) (hN : X.N = N) (hs : X.env.scope = sc) {isAnd : Bool} : ∀ {es : List E} {xs : List Expr}, A2 (SE U T lv md N sc) es xs → ∀ {δ δ' : TL.Env} {r : Rz}, ebs U.G T md false isAnd es δ = some (r, δ') → JE X (.BoolOp (bo isAnd) xs pos) δ r δ'
  | _, _, .nil, δ, δ', r, h => by cases h
  | _, _, .cons (a := e) (b := x) (as := es) (bs := xs) he hes, δ, δ', r, h => by
    cases hes with
    | nil =>
      rcases bB_some (show bB (ee U.G T md false e δ) _ = _ from h) with ⟨v, δ1, h1, h2⟩ | ⟨k, δ1, h1, h2⟩
      · cases h2
        have j : JX X x δ v δ' := he.je ok hN hs h1
        exact fun M W σ H Q g E k => wE_of (pe_one pe_w) (j M W σ H Q g E k)
      · cases h2
        exact tr_one (he.je ok hN hs h1)
    | cons he2 hes2 =>
      rename_i e2 y es2 ys
      rcases bB_some (show bB (ee U.G T md false e δ) _ = _ from h) with ⟨v, δ1, h1, h2⟩ | ⟨k, δ1, h1, h2⟩
      · cases h2
        have j : JX X x δ v δ' := he.je ok hN hs h1
        cases isAnd with
        | true => exact fun M W σ H Q g E k => wE_of (pe_and pe_w pe_w) (j M W σ H _ g E k)
        | false => exact fun M W σ H Q g E k => wE_of (pe_or pe_w pe_w) (j M W σ H _ g E k)
      · have ta : TR X x δ (.bl k) δ1 := he.je ok hN hs h1
        refine je_of fun M W σ H Q g E kk => ?_
        cases isAnd with
        | true =>
          refine wE_of (pe_and pe_w pe_w) (ta M W σ H _ g E fun u H1 s1 r1 => ⟨k, r1, ?_⟩)
          cases k with
          | true =>
            rw [if_pos rfl] at h2 ⊢
            exact (s_bopV ok hN hs (isAnd := true) (.cons he2 hes2) h2).ke M W σ H1 Q s1.good s1.env (KE.step s1 g kk)
          | false =>
            rw [if_neg Bool.false_ne_true]
            cases h2
            exact kk _ H1 s1 rfl
        | false =>
          refine wE_of (pe_or pe_w pe_w) (ta M W σ H _ g E fun u H1 s1 r1 => ⟨k, r1, ?_⟩)
          cases k with
          | true =>
            rw [if_pos rfl]
            cases h2
            exact kk _ H1 s1 rfl
          | false =>
            rw [if_neg Bool.false_ne_true]
            rw [if_pos rfl] at h2
            exact (s_bopV ok hN hs (isAnd := false) (.cons he2 hes2) h2).ke M W σ H1 Q s1.good s1.env (KE.step s1 g kk)
theorem s_bopT (ok : XOk U T lv md X) (hN : X.N = N) (hs : X.env.scope = sc) {isAnd : Bool} : ∀ {es : List E} {xs : List Expr}, A2 (SE U T lv md N sc) es xs → ∀ {δ δ' : TL.Env} {r : Rz}, ebs U.G T md true isAnd es δ = some (r, δ') → ∀ (M W : Addr → Prop) (σ : L2.St) (H : Hp) (Q : Bool → Hp → Prop), Good M W H → EnvR M W H σ δ →
    KT X M W σ H Q r δ' → (∃ b, r = .im (.bl b)) ∨ (∃ v, r = .ex v) → wW X (.BoolOp (bo isAnd) xs pos) σ H Q
  | _, _, .nil, δ, δ', r, h => by cases h
  | _, _, .cons (a := e) (b := x) (as := es) (bs := xs) he hes, δ, δ', r, h => by
    intro M W σ H Q g E kk hr
    cases hes with
    | nil =>
      rcases bB_some (show bB (ee U.G T md true e δ) _ = _ from h) with ⟨v, δ1, h1, h2⟩ | ⟨k, δ1, h1, h2⟩
      · cases h2
        have j : JXT X x δ v δ' := he.jt ok hN hs h1
        cases isAnd with
        | true => exact wW_of (pw_and1 pt_w) (j M W σ H Q g E kk)
        | false => exact wW_of (pw_or1 pt_w) (j M W σ H Q g E kk)
      · cases h2
        have j : TT X x δ k δ' := he.jt ok hN hs h1
        cases isAnd with
        | true => exact wW_of (pw_and1 pt_w) (j M W σ H Q g E kk)
        | false => exact wW_of (pw_or1 pt_w) (j M W σ H Q g E kk)
    | cons he2 hes2 =>
      rename_i e2 y es2 ys
      have stp : ∀ {δ1 : TL.Env} {H1 : Hp}, Stp M W σ δ1 H H1 → KT X M W σ H1 Q r δ' := fun s1 => by
        rcases hr with ⟨b, rfl⟩ | ⟨v, rfl⟩
        · exact fun H' s' => kk H' (s1.trans s')
        · exact Kx.step s1 kk
      rcases bB_some (show bB (ee U.G T md true e δ) _ = _ from h) with ⟨v, δ1, h1, h2⟩ | ⟨k, δ1, h1, h2⟩
      · cases h2
        have j : JXT X x δ v δ' := he.jt ok hN hs h1
        cases isAnd with
        | true => exact wW_of (pw_and pt_w pw_w) (j M W σ H _ g E kk)
        | false => exact wW_of (pw_or pt_w pw_w) (j M W σ H _ g E kk)
      · have ta : TT X x δ k δ1 := he.jt ok hN hs h1
        cases isAnd with
        | true =>
          refine wW_of (pw_and pt_w pw_w) (ta M W σ H _ g E fun H1 s1 => ?_)
          cases k with
          | true =>
            rw [if_pos rfl] at h2 ⊢
            exact s_bopT ok hN hs (isAnd := true) (.cons he2 hes2) h2 M W σ H1 Q s1.good s1.env (stp s1) hr
          | false =>
            rw [if_neg Bool.false_ne_true]
            cases h2
            exact kk H1 s1
        | false =>
          refine wW_of (pw_or pt_w pw_w) (ta M W σ H _ g E fun H1 s1 => ?_)
          cases k with
          | true =>
            rw [if_pos rfl]
            cases h2
            exact kk H1 s1
          | false =>
            rw [if_neg Bool.false_ne_true]
            rw [if_pos rfl] at h2
            exact s_bopT ok hN hs (isAnd := false) (.cons he2 hes2) h2 M W σ H1 Q s1.good s1.env (stp s1) hr
theorem s_bop {isAnd : Bool} (h : okE N sc (.bop isAnd es) (.BoolOp (bo isAnd) xs pos) = true) (ha : A2 (SE U T lv md N sc) es xs) : SE U T lv md N sc (.bop isAnd es) (.BoolOp (bo isAnd) xs pos) := ⟨h, fun X ok hN hs tst δ r δ' he => by
  cases tst with
  | false => exact s_bopV ok hN hs ha he
  | true =>
    refine JW.jt ?_
    have key := s_bopT (pos := pos) ok hN hs ha (show ebs U.G T md true isAnd es δ = some (r, δ') from he)
    cases r with
    | im d => cases d <;> first | exact trivial | (exact fun M W σ H Q g E k => key M W σ H Q g E k (.inl ⟨_, rfl⟩))
    | fr xs => exact trivial
    | ex v => exact fun M W σ H Q g E k => key M W σ H Q g E k (.inr ⟨v, rfl⟩)⟩

/-! ### what is walked -/
structure Wk (ds : List D) (vs : List V) (xs : List D) (J : It) : Prop where
  go : ∀ (M W : Addr → Prop) (H : Hp) (i : Nat) (d : D), Good M W H → Reps M H ds vs → xs[i]? = some d → J.go i H ∧ ∀ x H', J.yld i H x H' → (∀ a o, H a = some o → H' a = some o) ∧ Rep M H' d x
  stop : ∀ (M W : Addr → Prop) (H : Hp), Good M W H → Reps M H ds vs → J.stop xs.length H
def JI (X : Cx) (tg it : Expr) (δ : TL.Env) (ds xs : List D) (δ1 : TL.Env) : Prop := ∃ wi : TI, PI X tg it wi ∧ ∀ (M W : Addr → Prop) (σ : L2.St) (H : Hp) (R : It → Hp → Prop), Good M W H → EnvR M W H σ δ →
  (∀ J vs H1, Stp M W σ δ1 H H1 → Reps M H1 ds vs → Wk ds vs xs J → R J H1) → wi σ H R
def JXI (X : Cx) (tg it : Expr) (δ : TL.Env) (v : Xn) (δ1 : TL.Env) : Prop := ∃ wi : TI, PI X tg it wi ∧ ∀ (M W : Addr → Prop) (σ : L2.St) (H : Hp) (R : It → Hp → Prop), Good M W H → EnvR M W H σ δ → Kx X M W σ H δ1 v → wi σ H R
theorem wk_list {K : PySem.W.Frag} {a : Addr} {d : D} {ys : List D} (h : ∀ (M : Addr → Prop) (H : Hp), Rep M H d (.ref a) → ∃ us, SqL K H a us ∧ Reps M H ys us) : Wk [d] [.ref a] ys (Itl K a) := by
  refine ⟨fun M W H i e g r hi => ?_, fun M W H g r => ?_⟩
  · obtain ⟨v, e1, r1⟩ := reps1 r
    cases e1
    obtain ⟨us, hs, rs⟩ := h M H r1
    obtain ⟨w, hw, rw'⟩ := rs.get hi
    refine ⟨⟨us, w, hs, hw⟩, fun x H' ⟨e2, hx⟩ => ?_⟩
    subst e2
    have := hx us hs
    rw [hw] at this
    cases this
    exact ⟨fun _ _ z => z, rw'⟩
  · obtain ⟨v, e1, r1⟩ := reps1 r
    cases e1
    obtain ⟨us, hs, rs⟩ := h M H r1
    exact ⟨us, hs, by rw [rs.len]; exact Nat.le_refl _⟩
theorem wk_tup {K : PySem.W.Frag} {a : Addr} {ys : List D} : Wk [.tup ys] [.ref a] ys (Itt K a) := by
  refine ⟨fun M W H i e g r hi => ?_, fun M W H g r => ?_⟩
  · obtain ⟨v, e1, p', us, e2, m, hs, rs⟩ := reps1 r
    cases e1
    cases e2
    obtain ⟨w, hw, rw'⟩ := rs.get hi
    refine ⟨⟨us, w, .inl hs, hw⟩, fun x H' ⟨e2, hx⟩ => ?_⟩
    subst e2
    have := hx us (.inl hs)
    rw [hw] at this
    cases this
    exact ⟨fun _ _ z => z, rw'⟩
  · obtain ⟨v, e1, p', us, e2, m, hs, rs⟩ := reps1 r
    cases e1
    cases e2
    exact ⟨us, .inl hs, by rw [rs.len]; exact Nat.le_refl _⟩
theorem wk_rng {ds : List D} {vs : List V} {lo hi : Int} : Wk ds vs (rngD lo hi) (Itr lo (hi - lo).toNat) := by
  refine ⟨fun M W H i e g r he => ?_, fun M W H g r => ?_⟩
  · unfold rngD at he
    rw [List.getElem?_map] at he
    cases hz : (List.range (hi - lo).toNat)[i]? with
    | none => rw [hz] at he; cases he
    | some j =>
      rw [hz] at he
      cases he
      obtain ⟨h1, h2⟩ := List.getElem?_eq_some_iff.mp hz
      rw [List.length_range] at h1
      rw [List.getElem_range] at h2
      subst h2
      refine ⟨h1, fun x H' ⟨e2, hx⟩ => ?_⟩
      subst e2
      exact ⟨fun _ _ z => z, hx⟩
  · show _ ≤ (rngD lo hi).length
    simp [rngD]
theorem wk_str {x : Str} : Wk [.str x] [.str x] (sgn x) (Its x) := by
  refine ⟨fun M W H i e g r he => ?_, fun M W H g r => ?_⟩
  · unfold sgn at he
    rw [List.getElem?_map] at he
    cases hz : x.cps.toList[i]? with
    | none => rw [hz] at he; cases he
    | some c =>
      rw [hz] at he
      cases he
      obtain ⟨h1, h2⟩ := List.getElem?_eq_some_iff.mp hz
      refine ⟨(by simpa using h1 : i < x.cps.size), fun v H' ⟨e2, c', hc, hv⟩ => ?_⟩
      subst e2
      refine ⟨fun _ _ z => z, ?_⟩
      have : x.cps.toList[i]? = some c' := by simpa using hc
      rw [hz] at this
      cases this
      exact hv
  · show x.cps.size ≤ (sgn x).length
    simp [sgn]
theorem two_of {α : Type} : ∀ {l : List α}, l.length = 2 → ∃ a b, l = [a, b]
  | [a, b], _ => ⟨a, b, rfl⟩
  | [], h => by cases h
  | [_], h => by cases h
  | _ :: _ :: _ :: _, h => by simp at h
theorem itB_call {k : Ik} {it : Expr} (hk : k ≠ .seq) (h : itB sc k it = true) : ∃ p xs pos, it = .Call (.Name (ikN k) p) xs [] pos ∧ glB sc (ikN k) = true := by
  cases k with
  | seq => exact absurd rfl hk
  | rng | zip | enu =>
    unfold itB at h
    dsimp only at h
    split at h
    · simp only [Bool.and_eq_true, decide_eq_true_eq] at h
      obtain ⟨rfl, hg⟩ := h
      exact ⟨_, _, _, rfl, hg⟩
    · cases h
theorem itD_rng {KK : PySem.W.Frag} {ds ls : List D} (h : itD KK .rng ds = some ls) : (∃ b, ds = [.int b] ∧ -(2 ^ 62) ≤ b ∧ b < 2 ^ 62 ∧ ls = rngD 0 b) ∨ ∃ a b, ds = [.int a, .int b] ∧ (-(2 ^ 62) ≤ a ∧ a < 2 ^ 62 ∧ -(2 ^ 62) ≤ b ∧ b < 2 ^ 62) ∧ ls = rngD a b := by
  unfold itD at h
  split at h
  · contradiction
  · obtain ⟨hc, e⟩ := req_some h; cases e; exact .inl ⟨_, rfl, hc.1, hc.2, rfl⟩
  · obtain ⟨hc, e⟩ := req_some h; cases e; exact .inr ⟨_, _, rfl, hc, rfl⟩
  · cases h
theorem s_it (ok : XOk U T lv md X) (hN : X.N = N) (hs : X.env.scope = sc) {k : Ik} {tg it : Expr} (hb : itB sc k it = true) (ha : A2 (SE U T lv md N sc) es (itXs k it)) {ds ls : List D} {δ1 : TL.Env} (h : evs U.G T md es δ = some (.inl ds, δ1)) (hi : itD U.G.K k ds = some ls) : JI X tg it δ ds ls δ1 := by
  have ta : TA X (itXs k it) δ ds δ1 := s_args ok hN hs ha h
  have hst := okEs_of ha
  cases k with
  | seq =>
    cases ha with
    | cons hx hr =>
      cases hr
      simp only [evs] at h
      rcases bR_some h with ⟨y, δ2, h3, h4⟩ | ⟨r1, d, δ2, h3, hd, h4⟩
      · cases h4
      · have tr := (hx.je ok hN hs h3).tr hd
        cases h4
        have hi : seqD U.G.K d = some ls := hi
        unfold seqD at hi
        split at hi
        · rename_i K a ns _
          obtain ⟨e, hi⟩ := req_some hi
          cases hi
          have e' : K = X.K := by rw [e, ok.K, ok.wd.kk]
          subst e'
          refine ⟨_, pi_list pe_w, fun M W σ H R g E kk => tr M W σ H _ g E fun v H1 s1 r1 => ?_⟩
          obtain ⟨e1, e2⟩ := scr_sql r1
          subst e1
          refine ⟨a, rfl, ⟨_, e2⟩, kk _ [.ref a] H1 s1 ⟨_, _, rfl, r1, rfl⟩ ?_⟩
          refine ⟨fun M W H i e g r hi => ?_, fun M W H g r => ?_⟩
          · obtain ⟨v, e1, r1⟩ := reps1 r
            cases e1
            have hs := (scr_sql r1).2
            rw [List.getElem?_map] at hi
            cases hz : ns[i]? with
            | none => rw [hz] at hi; cases hi
            | some z =>
              rw [hz] at hi
              cases hi
              refine ⟨⟨_, .int z, hs, by rw [List.getElem?_map, hz]; rfl⟩, fun x H' ⟨e2, hx⟩ => ?_⟩
              subst e2
              have := hx _ hs
              rw [List.getElem?_map, hz] at this
              cases this
              exact ⟨fun _ _ z => z, rfl⟩
          · obtain ⟨v, e1, r1⟩ := reps1 r
            cases e1
            exact ⟨_, (scr_sql r1).2, by simp⟩
        · cases hi
          refine ⟨_, pi_list pe_w, fun M W σ H R g E kk => tr M W σ H _ g E fun v H1 s1 r1 => ?_⟩
          obtain ⟨a, us, rfl, m, ha', ra⟩ := id r1
          refine ⟨a, rfl, ⟨us, SqL.of ha'⟩, kk _ [.ref a] H1 s1 ⟨_, _, rfl, r1, rfl⟩ (wk_list fun M H r => ?_)⟩
          obtain ⟨a', us, e, m, ha', ra⟩ := r
          cases e
          exact ⟨us, SqL.of ha', ra⟩
        · cases hi
          refine ⟨_, pi_tup pe_w, fun M W σ H R g E kk => tr M W σ H _ g E fun v H1 s1 r1 => ?_⟩
          obtain ⟨a, us, rfl, m, ha', ra⟩ := id r1
          exact ⟨a, rfl, ⟨us, .inl ha'⟩, kk _ [.ref a] H1 s1 ⟨_, _, rfl, r1, rfl⟩ wk_tup⟩
        · cases hi
          refine ⟨_, pi_str pe_w, fun M W σ H R g E kk => tr M W σ H _ g E fun v H1 s1 r1 => ?_⟩
          obtain rfl : v = .str _ := r1
          exact ⟨_, rfl, kk _ [.str _] H1 s1 ⟨_, _, rfl, rfl, rfl⟩ wk_str⟩
        · cases hi
  | rng =>
    obtain ⟨p', xs', pos', rfl, hg⟩ := itB_call (by intro z; cases z) hb
    have hm : X.mg "range" = none := by rw [ok.mg]; exact ok.wd.nk.1
    have hgl := (gl_of hg hs).1
    have hl : ds.length = xs'.length := by have h1 := evs_len h; have h2 := ha.len; rw [h1, h2]; rfl
    rcases itD_rng hi with ⟨b, rfl, h1, h2, rfl⟩ | ⟨a, b, rfl, hc, rfl⟩
    · obtain ⟨x1, rfl⟩ := List.length_eq_one_iff.mp hl.symm
      refine ⟨_, pi_range1 hgl hm pa_w (star_cons (hst x1 (by simp [itXs]))), fun M W σ H R g E kk => ta M W σ H _ g E fun vs H1 s1 r1 => ?_⟩
      obtain ⟨v, e1, e2⟩ := reps1 r1
      refine ⟨b, by rw [e1, show v = V.int _ from e2], h1, h2, ?_⟩
      have := kk (Itr 0 (b - 0).toNat) vs H1 s1 r1 wk_rng
      rw [Int.sub_zero] at this
      exact this
    · obtain ⟨x1, x2, rfl⟩ := two_of hl.symm
      refine ⟨_, pi_range2 hgl hm pa_w (by rw [star_cons (hst x1 (by simp [itXs])), star_cons (hst x2 (by simp [itXs]))]; rfl) (star_cons (hst x2 (by simp [itXs]))), fun M W σ H R g E kk => ta M W σ H _ g E fun vs H1 s1 r1 => ?_⟩
      obtain ⟨v, w, e1, e2, e3⟩ := reps2 r1
      exact ⟨a, b, by rw [e1, show v = V.int _ from e2, show w = V.int _ from e3], hc, kk _ vs H1 s1 r1 wk_rng⟩
  | zip => unfold itD at hi; split at hi <;> first | contradiction | (cases hi; done)
  | enu => unfold itD at hi; split at hi <;> first | contradiction | (cases hi; done)
end
end RE
set_option Elab.async false
set_option linter.all false
set_option maxRecDepth 100000
set_option autoImplicit false
set_option maxHeartbeats 1000000
/-! REo: comprehensions; every expression. -/
namespace RE
open PySem PySem.Spec PyProof.Rows L2 TL
theorem EnvR.forget {M W : Addr → Prop} {H : Hp} {σ : L2.St} {δ : TL.Env} {i : Nat} (e : EnvR M W H σ δ) : EnvR M W H σ (δ.set i none) := by
  have key : ∀ (j : Nat) (s : S), (δ.set i none)[j]? = some (some s) → δ[j]? = some (some s) := fun j s h => by
    by_cases hj : i = j
    · subst hj
      by_cases hl : i < δ.length
      · rw [List.getElem?_set_self hl] at h; cases h
      · rw [List.getElem?_eq_none (by rw [List.length_set]; omega)] at h; cases h
    · rw [List.getElem?_set_ne hj] at h; exact h
  exact ⟨by rw [List.length_set]; exact e.len, fun j s h => e.at_ j s (key j s h), fun j k p xs ys h1 h2 h3 h4 => e.ap j k p xs ys (key j _ h1) (key k _ h2) h3 h4⟩
section
variable {U : Sd} {T : Tb} {lv : Nat} {md : Md} {N : List Str} {sc scope : Scope} {X : Cx} {e a b c : E} {x y z w elt : Expr} {es as kv : List E} {xs ys fs : List Expr} {pos p p2 p3 : Pos} {δ δ1 δ' : TL.Env}
theorem rel_env {s : Shared} {H : Hp} {C : Addr} {cl : List (Str × Addr)} {fp : List Addr} (hs : X.env.scope = sc) : (X.blk s H scope (compEnvC scope cl C X.env) fp).env.scope = rel scope sc := by
  subst hs
  rfl
theorem XOk.blk (ok : XOk U T lv md X) (s : Shared) (H : Hp) (C : Addr) (cl : List (Str × Addr)) (fp : List Addr) : XOk U T lv md (X.blk s H scope (compEnvC scope cl C X.env) fp) :=
  ⟨ok.wd, ok.prog, ok.w, ok.K, ok.mg, ok.base, ok.nd, ok.room, ok.mc, ok.calm, ok.gd, PassesOwn.never⟩
def wTb (X : Cx) (scope : Scope) (e : Expr) : L2.TT := fun σ H Q => ∀ (s : Shared) (H0 : Hp) (C : Addr) (cl : List (Str × Addr)) (fp : List Addr), wT (X.blk s H0 scope (compEnvC scope cl C X.env) fp) e σ H Q
theorem pt_wb (s : Shared) (H0 : Hp) (C : Addr) (cl : List (Str × Addr)) (fp : List Addr) : PT (X.blk s H0 scope (compEnvC scope cl C X.env) fp) x (wTb X scope x) := ⟨fun pins s' _ _ _ I h => (h s H0 C cl fp).run pins s' I⟩
/-- the tests' reading -/
def tTs (X : Cx) (scope : Scope) : List Expr → L2.TT
  | [f] => wTb X scope f
  | _ => tYes
theorem pts_wb (hl : fs.length ≤ 1) (s : Shared) (H0 : Hp) (C : Addr) (cl : List (Str × Addr)) (fp : List Addr) : PTs (X.blk s H0 scope (compEnvC scope cl C X.env) fp) fs (tTs X scope fs) := by
  match fs, hl with
  | [], _ => exact pts_nil
  | [f], _ => exact pts_one (pt_wb s H0 C cl fp)
/-- what holds between two turns -/
structure Lc (f : TL.Env → Option (Rz × TL.Env)) (t : TL.Env → Option (Bool × TL.Env)) (M W : Addr → Prop) (σ : L2.St) (H1 : Hp) (Dl : Addr) (i : Nat) (ls ys : List D) (δE : TL.Env) (k : Nat) (H : Hp) : Prop where
  ex : ∃ (δk : TL.Env) (dn rest : List D) (acc : List V), Stp (Mp M Dl) W σ δk H1 H ∧ δk[i]? = some none ∧ H Dl = some (.lst acc) ∧ Reps (Mp M Dl) H dn acc ∧ lcGo f t (.one i) (ls.drop k) δk = some (rest, δE) ∧ dn ++ rest = ys ∧ dn.length ≤ k
theorem lc_read (ok : XOk U T lv md X) (hN : X.N = N) (hs : X.env.scope = sc) {i : Nat} {it : Expr} {wi : TI} {ds ls rs : List D} {δE : TL.Env} (he : SE U T lv md N (rel scope sc) e elt) (hf : A2 (SE U T lv md N (rel scope sc)) es fs)
    {M W : Addr → Prop} {σ : L2.St} {H : Hp} {Q : VK} (g : Good M W H) (hwi : ∀ (R : It → Hp → Prop), (∀ J vs H1, Stp M W σ δ1 H H1 → Reps M H1 ds vs → Wk ds vs ls J → R J H1) → wi σ H R) (hb : δ1[i]? = some none) (hlen : ls.length ≤ 100000)
    (hgo : lcGo (ee U.G T md false e) (tsts (ets U.G T md es)) (.one i) ls δ1 = some (rs, δE))
    (kk : ∀ p vs H', Stp (Mp M p) W σ δE H H' → H p = none → H' p = some (.lst vs) → Reps (Mp M p) H' rs vs → Q (.ref p) H') : tLc wi (gName i) (tTs X scope fs) (wEb X scope elt) [i] σ H Q := by
  refine hwi _ fun J vs H1 s1 r1 wk Dl hD => ?_
  have nW : ¬ W Dl := fun w => s1.good.mt Dl (s1.good.wm Dl w) hD
  refine ⟨fun k m H' => m = ls.length - k ∧ k ≤ ls.length ∧ Lc (ee U.G T md false e) (tsts (ets U.G T md es)) M W σ H1 Dl i ls rs δE k H', ⟨ls.length, by simp, Nat.zero_le _, δ1, [], rs, [], (Stp.refl s1.good s1.env).fresh hD, hb, upd_same, rfl, by rw [List.drop_zero]; exact hgo, rfl, Nat.le_refl _⟩, ?_⟩
  rintro k m H' ⟨rfl, hk, ⟨δk, dn, rest, acc, st, hbk, hacc, racc, hgk, heq, hdl⟩⟩
  have rds : Reps (Mp M Dl) H' ds vs := Reps.ex (Xt.mono (fun _ w => .inl (g.wm _ w)) st.xt) ds (Reps.gr (mp_gr hD) ds r1)
  by_cases hlt : k < ls.length
  · obtain ⟨d, hd⟩ : ∃ d, ls[k]? = some d := ⟨_, List.getElem?_eq_getElem hlt⟩
    obtain ⟨j1, j2⟩ := wk.go (Mp M Dl) W H' k d st.good rds hd
    have hdrop : ls.drop k = d :: ls.drop (k + 1) := by
      obtain ⟨h1, h2⟩ := List.getElem?_eq_some_iff.mp hd
      rw [← h2]; exact List.drop_eq_getElem_cons h1
    rw [hdrop] at hgk
    have hset : setTg δk (.one i) d = some (δk.set i (some (.im d))) := by
      unfold setTg isOwn
      simp only [hbk]
      rfl
    simp only [lcGo, hset] at hgk
    refine .inr ⟨j1, Lc (ee U.G T md false e) (tsts (ets U.G T md es)) M W σ H1 Dl i ls rs δE (k + 1), fun H2 p2 => ⟨ls.length - (k + 1), by omega, rfl, hlt, p2⟩, fun v H2 hy => ?_⟩
    obtain ⟨ex, rv⟩ := j2 v H2 hy
    have st2 := st.ext ex
    have il : i < δk.length := (List.getElem?_eq_some_iff.mp hbk).1
    have E2 : EnvR (Mp M Dl) W H2 ((wipe σ [i]).set i (some v)) (δk.set i (some (.im d))) := (st2.env.blank hbk none).set rv
    refine ⟨?_, ?_⟩
    · show (((σ.set i none).set i (some v)).set i none) = σ.set i none
      rw [List.set_set, List.set_set]
    -- the test
    have back : ∀ {H3 : Hp} {δ3 : TL.Env}, Stp (Mp M Dl) W ((wipe σ [i]).set i (some v)) δ3 H2 H3 → Stp (Mp M Dl) W σ (δ3.set i none) H1 H3 ∧ (δ3.set i none)[i]? = some none := fun {H3 δ3} s3 => by
      have l3 : i < δ3.length := by
        have e1 := s3.env.len
        have e2 := st2.env.len
        rw [List.length_set] at e1
        have e3 : (wipe σ [i]).length = σ.length := wipe_length σ [i]
        omega
      have hb3 : (δ3.set i none)[i]? = some none := List.getElem?_set_self l3
      refine ⟨⟨st2.xt.trans s3.xt, s3.good, ?_⟩, hb3⟩
      have z1 := (EnvR.forget (i := i) s3.env).unblank hb3
      exact EnvR.unblank (o := none) z1 hb3
    have body : ∀ {H3 : Hp} {δ3 : TL.Env}, Stp (Mp M Dl) W ((wipe σ [i]).set i (some v)) δ3 H2 H3 → (bR (ee U.G T md false e δ3) (fun _ _ => (none : Option (List D × TL.Env))) fun y δ4 => match lcGo (ee U.G T md false e) (tsts (ets U.G T md es)) (.one i) (ls.drop (k + 1)) (wipeT δ4 (Tg.one i).is) with
        | some (ys, δ2) => some (y :: ys, δ2)
        | none => none) = some (rest, δE) → wEb X scope elt ((wipe σ [i]).set i (some v)) H3 fun u H4 => ∃ acc, H4 Dl = some (.lst acc) ∧ acc.length < sizeLine ∧ Lc (ee U.G T md false e) (tsts (ets U.G T md es)) M W σ H1 Dl i ls rs δE (k + 1) (upd H4 Dl (.lst (acc ++ [u]))) := fun {H3 δ3} s3 hgo s' H0 C cl fp => by
      rcases bR_some hgo with ⟨_, _, _, z⟩ | ⟨r4, d4, δ4, h4, hd4, hrest⟩
      · cases z
      split at hrest
      · rename_i ys' δ2 h5
        cases hrest
        have tr := (he.je (X := X.blk s' H0 scope (compEnvC scope cl C X.env) fp) (ok.blk _ _ _ _ _) hN (rel_env hs) h4).tr hd4
        refine tr (Mp M Dl) W _ H3 _ s3.good s3.env fun u H4 s4 r4' => ?_
        have s34 := s3.trans s4
        obtain ⟨sb, hb4⟩ := back s34
        have h4D : H4 Dl = some (.lst acc) := s34.xt Dl _ nW (ex Dl _ hacc)
        refine ⟨acc, h4D, ?_, ⟨δ4.set i none, dn ++ [d4], ys', acc ++ [u], ⟨fun a o w h => ?_, sb.good.put, sb.env.upd (.inr rfl) nW⟩, hb4, upd_same, ?_, h5, by rw [← heq, List.append_assoc]; rfl, by rw [List.length_append]; simp; omega⟩⟩
        · have := racc.len
          exact Nat.lt_of_lt_of_le (by omega : acc.length < 100000) (by decide)
        · rw [upd_ne (ne_of_none h hD)]
          exact sb.xt a o w h
        · have Xm : Xt (Mp M Dl) H4 (upd H4 Dl (.lst (acc ++ [u]))) := fun a o n q => by rw [upd_ne (fun z => n (.inr z))]; exact q
          exact Reps.app (Reps.ex Xm _ (s34.reps (Reps.ex (Xt.of ex) dn racc))) ⟨u, [], rfl, Rep.ex Xm d4 r4', rfl⟩
      · cases hrest
    cases hf with
    | nil =>
      unfold tTs tYes
      dsimp only
      rw [if_pos rfl]
      exact body (Stp.refl st2.good E2) hgk
    | cons hf1 hf2 =>
      cases hf2 with
      | nil =>
        rename_i e1 f1
        show wTb X scope f1 _ H2 _
        intro s' H0 C cl fp
        simp only [ets, tsts] at hgk
        split at hgk
        · cases hgk
        · rename_i b δt ht
          split at ht
          · rename_i b' δt' ht'
            cases ht
            have tt : TT (X.blk s' H0 scope (compEnvC scope cl C X.env) fp) f1 (δk.set i (some (.im d))) b δt := hf1.jt (X := X.blk s' H0 scope (compEnvC scope cl C X.env) fp) (ok.blk _ _ _ _ _) hN (rel_env hs) ht'
            refine tt (Mp M Dl) W _ H2 _ st2.good E2 fun H3 s3 => ?_
            cases b with
            | true =>
              rw [if_pos rfl]
              exact body s3 hgk
            | false =>
              rw [if_neg Bool.false_ne_true]
              obtain ⟨sb, hb3⟩ := back s3
              exact ⟨δt.set i none, dn, rest, acc, sb, hb3, s3.xt Dl _ nW (ex Dl _ hacc), s3.reps (Reps.ex (Xt.of ex) dn racc), hgk, heq, by omega⟩
          · cases ht
      | cons _ _ =>
        simp only [ets, tsts] at hgk
        cases hgk
  · have hke : k = ls.length := by omega
    subst hke
    refine .inl ⟨wk.stop (Mp M Dl) W H' st.good rds, ?_⟩
    rw [List.drop_length] at hgk
    simp only [lcGo] at hgk
    cases hgk
    rw [List.append_nil] at heq
    subst heq
    exact kk Dl acc H' ⟨s1.xt.trans st.xt, st.good, st.env⟩ (s1.none g hD) hacc racc
theorem blank_one {i : Nat} (h : blank δ (Tg.one i).is = true) : δ[i]? = some none := by
  unfold blank Tg.is at h
  simp only [List.all_cons, List.all_nil, Bool.and_true] at h
  split at h
  · assumption
  · cases h
/-- what the matcher says of a comprehension's text -/
theorem lc_ok {i : Nat} {k : Ik} {its ifs : List E} {t it : Expr} {zz : Int} (h : okE N sc (.lc (.one i) k its ifs e) (.ListComp elt [⟨t, it, fs, zz⟩] scope pos) = true) : ∃ nm np, t = .Name nm np ∧ N[i]? = some nm ∧ (rel scope sc).names.lookup nm = some .local ∧ BlkOk N sc scope [(nm, i)] ∧ itB sc k it = true ∧ zz = 0 ∧ fs.length ≤ 1 := by
  have h' : ((decide (zz = 0) && decide (fs.length ≤ 1)) && (tgtB N (rel scope sc) (.one i) t && (blkC N sc scope (ownT (.one i) t) && (itB sc k it && (okEs N sc its (itXs k it) && (okEs N (rel scope sc) ifs fs && okE N (rel scope sc) e elt)))))) = true := h
  simp only [Bool.and_eq_true, decide_eq_true_eq] at h'
  obtain ⟨⟨h0, h9⟩, h1, h2, h3, _⟩ := h'
  unfold tgtB at h1
  simp only [tgB, Bool.and_true] at h1
  split at h1
  · rename_i nm np
    simp only [Bool.and_eq_true, decide_eq_true_eq, locB] at h1
    exact ⟨nm, np, rfl, h1.1, h1.2, blkOk_by h2, h3, h0, h9⟩
  · cases h1
theorem fold_set {it : Expr} {env : PySem.Env} (h : isSetE it = false) : ∀ v, foldedSetIterable it env v = pure v := by
  intro v
  cases it <;> first | rfl | cases h
theorem it_set {k : Ik} {it : Expr} {its : List E} (hb : itB sc k it = true) : isSetE it = false := by
  cases k with
  | seq =>
    have : (!isSetE it) = true := hb
    simpa using this
  | rng | zip | enu =>
    obtain ⟨_, _, _, rfl, _⟩ := itB_call (by intro z; cases z) hb
    rfl
theorem lc_inv {g : Tg} {f : TL.Env → Option (Rz × TL.Env)} {t : TL.Env → Option (Bool × TL.Env)} {ls : List D} {r : Rz} (h : lcD f t g ls δ1 = some (r, δ')) : ∃ rs, r = .fr rs ∧ blank δ1 g.is = true ∧ ls.length ≤ 100000 ∧ lcGo f t g ls δ1 = some (rs, δ') := by
  obtain ⟨⟨h1, h2⟩, h3⟩ := req_some h
  obtain ⟨⟨rs, δE⟩, h4, e⟩ := Option.map_eq_some_iff.mp h3
  cases e
  exact ⟨rs, rfl, h1, h2, h4⟩
theorem s_lc {i : Nat} {k : Ik} {its ifs : List E} {t it : Expr} {zz : Int} (h : okE N sc (.lc (.one i) k its ifs e) (.ListComp elt [⟨t, it, fs, zz⟩] scope pos) = true) (hi : A2 (SE U T lv md N sc) its (itXs k it)) (hf : A2 (SE U T lv md N (rel scope sc)) ifs fs) (he : SE U T lv md N (rel scope sc) e elt) : SE U T lv md N sc (.lc (.one i) k its ifs e) (.ListComp elt [⟨t, it, fs, zz⟩] scope pos) := ⟨h, fun X ok hN hs tst δ r δ' hev => by
  obtain ⟨nm, np, rfl, hn, hloc, blk, hib, rfl, hfl⟩ := lc_ok h
  refine s_fin (fun r δ' h => ?_) (fun _ => rfl) hev
  split at h
  · rename_i ds δ1 h1
    obtain ⟨ls, hls, h2⟩ := Option.bind_eq_some_iff.mp h
    obtain ⟨rs, rfl, hb, hl, hgo⟩ := lc_inv h2
    obtain ⟨wi, pi, hwi⟩ := s_it (tg := .Name nm np) ok hN hs hib hi h1 hls
    have hN' : X.N[i]? = some nm := by rw [hN]; exact hn
    have blk' : BlkOk X.N X.env.scope scope [(nm, i)] := by rw [hN, hs]; exact blk
    refine fun M W σ H Q g E kk => wE_of (pe_lc (own := [(nm, i)]) (g := gName i) ok.calm ok.nd pi blk' (fun _ _ _ _ _ => pg_name ok.nd hN' (.inl (by rw [rel_env hs]; exact hloc)) (.inr (by rw [rel_env hs]; exact hloc))) (pts_wb hfl) pe_wb (fold_set (it_set (its := its) hib))) ?_
    exact lc_read ok hN hs (it := it) he hf g (fun R hR => hwi M W σ H R g E hR) (blank_one hb) hl hgo kk
  · cases h⟩
/-! ### every expression -/
theorem bo_and : bo true = .And := rfl
mutual
theorem sE : ∀ (e : E) {sc : Scope} {x : Expr}, okE N sc e x = true → SE U T lv md N sc e x
  | .var i, sc, x, h => by
    cases x <;> first | (cases h; done) | exact s_var h
  | .glo n, sc, x, h => by
    cases x <;> first | (cases h; done) | exact s_glo h
  | .int i, sc, x, h => by
    cases x <;> first | (cases h; done) | (rename_i c _ _; cases c <;> first | (cases h; done) | exact s_int h)
  | .str i, sc, x, h => by
    cases x <;> first | (cases h; done) | (rename_i c _ _; cases c <;> first | (cases h; done) | exact s_str h)
  | .bl i, sc, x, h => by
    cases x <;> first | (cases h; done) | (rename_i c _ _; cases c <;> first | (cases h; done) | exact s_bl h)
  | .non, sc, x, h => by
    cases x <;> first | (cases h; done) | (rename_i c _ _; cases c <;> first | (cases h; done) | exact s_non)
  | .bin op a b, sc, x, h => by
    cases x <;> first | (cases h; done) | skip
    rename_i y o z pos
    have h' : (decide (op = o) && (okE N sc a y && okE N sc b z)) = true := h
    simp only [Bool.and_eq_true, decide_eq_true_eq] at h'
    obtain ⟨rfl, h1, h2⟩ := h'
    exact s_bin h (sE a h1) (sE b h2)
  | .neg a, sc, x, h => by
    cases x <;> first | (cases h; done) | skip
    rename_i o y pos
    cases o <;> first | (cases h; done) | exact s_neg h (sE a h)
  | .nt a, sc, x, h => by
    cases x <;> first | (cases h; done) | skip
    rename_i o y pos
    cases o <;> first | (cases h; done) | exact s_nt h (sE a h)
  | .bop isAnd es, sc, x, h => by
    cases x <;> first | (cases h; done) | skip
    rename_i o ys pos
    cases o with
    | And =>
      have h' : (isAnd && okEs N sc es ys) = true := h
      simp only [Bool.and_eq_true] at h'
      obtain ⟨rfl, h2⟩ := h'
      exact s_bop (isAnd := true) h (sEs es h2)
    | Or =>
      have h' : (!isAnd && okEs N sc es ys) = true := h
      simp only [Bool.and_eq_true, Bool.not_eq_true'] at h'
      obtain ⟨rfl, h2⟩ := h'
      exact s_bop (isAnd := false) h (sEs es h2)
  | .ifx c a b, sc, x, h => by
    cases x <;> first | (cases h; done) | skip
    rename_i y z w pos
    have h' : (okE N sc c y && (okE N sc a z && okE N sc b w)) = true := h
    simp only [Bool.and_eq_true] at h'
    exact s_ifx h (sE c h'.1) (sE a h'.2.1) (sE b h'.2.2)
  | .cmp op a b, sc, x, h => by
    cases x <;> first | (cases h; done) | skip
    rename_i y ops zs pos
    match ops, zs with
    | [o], [z] =>
      have h' : (decide (op = o) && (okE N sc a y && okE N sc b z)) = true := h
      simp only [Bool.and_eq_true, decide_eq_true_eq] at h'
      obtain ⟨rfl, h1, h2⟩ := h'
      exact s_cmp h (sE a h1) (sE b h2)
    | [], _ => cases h
    | _ :: _ :: _, _ => cases h
    | [_], [] => cases h
    | [_], _ :: _ :: _ => cases h
  | .call f as kn kv, sc, x, h => by
    cases x <;> first | (cases h; done) | skip
    rename_i fn ys ws pos
    cases fn <;> first | (cases h; done) | skip
    rename_i g p
    have h' : (decide (f = g) && (glB sc f && (okEs N sc as ys && (kwB kn ws && okEs N sc kv (ws.map (·.value)))))) = true := h
    simp only [Bool.and_eq_true] at h'
    exact s_call h (sEs as h'.2.2.1) (sEs kv h'.2.2.2.2)
  | .callO f i as, sc, x, h => by
    cases x <;> first | (cases h; done) | skip
    rename_i fn ys ws pos
    cases fn <;> first | (cases h; done) | skip
    cases ys <;> first | (cases h; done) | skip
    rename_i g p y ys
    cases y <;> first | (cases h; done) | skip
    rename_i n p2
    cases ws <;> first | (cases h; done) | skip
    have h' : (decide (f = g) && (glB sc f && (varB N sc i n && okEs N sc as ys))) = true := h
    simp only [Bool.and_eq_true] at h'
    exact s_callO h (sEs as h'.2.2.2)
  | .callF f a as, sc, x, h => by
    cases x <;> first | (cases h; done) | skip
    rename_i fn ys ws pos
    cases fn <;> first | (cases h; done) | skip
    cases ys <;> first | (cases h; done) | skip
    rename_i g p y ys
    cases ws <;> first | (cases h; done) | skip
    have h' : (decide (f = g) && (glB sc f && (okE N sc a y && okEs N sc as ys))) = true := h
    simp only [Bool.and_eq_true] at h'
    exact s_callF h (sE a h'.2.2.1) (sEs as h'.2.2.2)
  | .blt b as, sc, x, h => by
    cases x <;> first | (cases h; done) | skip
    rename_i fn ys ws pos
    cases fn <;> first | (cases h; done) | skip
    rename_i g p
    cases ws <;> first | (cases h; done) | skip
    have h' : (decide (b.nm = g) && (glB sc b.nm && okEs N sc as ys)) = true := h
    simp only [Bool.and_eq_true] at h'
    exact s_blt h (sEs as h'.2.2)
  | .isT a t, sc, x, h => by
    have h' := h
    unfold okE at h'
    split at h'
    · simp only [Bool.and_eq_true] at h'
      exact s_isT h (sE a h'.2.2.1)
    · cases h'
  | .isC a c, sc, x, h => by
    have h' := h
    unfold okE at h'
    split at h'
    · simp only [Bool.and_eq_true] at h'
      exact s_isC h (sE a h'.2.2.1)
    · cases h'
  | .meth o m as kn kv, sc, x, h => by
    cases x <;> first | (cases h; done) | skip
    rename_i fn ys ws pos
    cases fn <;> first | (cases h; done) | skip
  | .att o f, sc, x, h => by
    cases x <;> first | (cases h; done) | skip
    rename_i y g pos
    have h' : (decide (f = g) && (okE N sc o y && notC0 y)) = true := h
    simp only [Bool.and_eq_true] at h'
    exact s_att h (sE o h'.2.1)
  | .attO i f, sc, x, h => by
    cases x <;> first | (cases h; done) | skip
    rename_i y g pos
    cases y <;> first | (cases h; done) | exact s_attO h
  | .sub o i, sc, x, h => by
    cases x <;> first | (cases h; done) | skip
    rename_i y z pos
    have h' : (okE N sc o y && okE N sc i z) = true := h
    simp only [Bool.and_eq_true] at h'
    exact s_sub h (sE o h'.1) (sE i h'.2)
  | .subO k i, sc, x, h => by
    cases x <;> first | (cases h; done) | skip
    rename_i y z pos
    cases y <;> first | (cases h; done) | skip
    rename_i n p
    have h' : (varB N sc k n && okE N sc i z) = true := h
    simp only [Bool.and_eq_true] at h'
    exact s_subO h (sE i h'.2)
  | .slL o a, sc, x, h => by
    have h' := h
    unfold okE at h'
    split at h'
    · simp only [Bool.and_eq_true] at h'
      exact s_slL h (sE o h'.1) (sE a h'.2)
    · cases h'
  | .slH o a, sc, x, h => by
    have h' := h
    unfold okE at h'
    split at h'
    · simp only [Bool.and_eq_true] at h'
      exact s_slH h (sE o h'.1) (sE a h'.2)
    · cases h'
  | .lst es, sc, x, h => by
    cases x <;> first | (cases h; done) | exact s_lst h (sEs es h)
  | .tup es, sc, x, h => by
    cases x <;> first | (cases h; done) | exact s_tup h (sEs es h)
  | .lc g k its ifs elt, sc, x, h => by
    have h' := h
    unfold okE at h'
    split at h'
    · simp only [Bool.and_eq_true] at h'
      cases g with
      | one i => exact s_lc h (sEs its h'.2.2.2.2.1) (sEs ifs h'.2.2.2.2.2.1) (sE elt h'.2.2.2.2.2.2)
      | tup is =>
        have z := h'.2.1
        unfold tgtB at z
        dsimp only at z
        split at z <;> cases z
    · cases h'
  | .fst es, sc, x, h => by
    cases x <;> first | (cases h; done) | skip
    rename_i ys pos
    have h' : (okEs N sc es ys && decide (1 ≤ ys.length)) = true := h
    simp only [Bool.and_eq_true] at h'
    exact s_fst h (sEs es h'.1)
  | .fmt e, sc, x, h => by
    cases x <;> first | (cases h; done) | skip
    rename_i y c s pos
    cases s <;> first | (cases h; done) | skip
    have h' : (decide (c = -1) && okE N sc e y) = true := h
    simp only [Bool.and_eq_true, decide_eq_true_eq] at h'
    obtain ⟨rfl, h2⟩ := h'
    exact s_fmt h (sE e h2)
theorem sEs : ∀ (es : List E) {sc : Scope} {xs : List Expr}, okEs N sc es xs = true → A2 (SE U T lv md N sc) es xs
  | [], sc, xs, h => by
    cases xs with
    | nil => exact .nil
    | cons _ _ => cases h
  | e :: es, sc, xs, h => by
    cases xs with
    | nil => cases h
    | cons y ys =>
      have h' : (okE N sc e y && okEs N sc es ys) = true := h
      simp only [Bool.and_eq_true] at h'
      exact .cons (sE e h'.1) (sEs es h'.2)
end
end
end RE
set_option Elab.async false
set_option linter.all false
set_option maxRecDepth 100000
set_option autoImplicit false
set_option maxHeartbeats 1000000
/-! REp: what is its own stays its own through an expression. -/
namespace RE
open PySem PySem.Spec PyProof.Rows L2 TL
theorem _root_.TL.Sh.trans {a b c : TL.Env} (h : Sh a b) (k : Sh b c) : Sh a c := fun i xs e => let ⟨ys, e1⟩ := h i xs e; k i ys e1
section
variable {G : Gx} {T : Tb} {md : Md} {δ δ' δ1 : TL.Env}
def NoOwn (δ : TL.Env) (is : List Nat) : Prop := ∀ i ∈ is, ∀ oc, δ[i]? ≠ some (some (.own oc))
theorem get_setAll_ne : ∀ {is : List Nat} {ds : List D} {δ : TL.Env} {j : Nat}, j ∉ is → (setAll δ is ds)[j]? = δ[j]?
  | [], _, _, _, _ => by simp [setAll]
  | _ :: _, [], _, _, _ => by simp [setAll]
  | i :: is, d :: ds, δ, j, h => by
    simp only [List.mem_cons, not_or] at h
    rw [setAll, get_setAll_ne h.2, List.getElem?_set_ne (fun z => h.1 z.symm)]
theorem get_wipe_ne : ∀ {is : List Nat} {δ : TL.Env} {j : Nat}, j ∉ is → (wipeT δ is)[j]? = δ[j]?
  | [], _, _, _ => rfl
  | i :: is, δ, j, h => by
    simp only [List.mem_cons, not_or] at h
    rw [wipeT, List.getElem?_set_ne (fun z => h.1 z.symm), get_wipe_ne h.2]
theorem wipe_noOwn : ∀ (is : List Nat) (δ : TL.Env), NoOwn (wipeT δ is) is
  | [], _, i, h, _ => by cases h
  | k :: is, δ, i, h, oc => by
    rw [wipeT]
    by_cases hk : k = i
    · subst hk
      by_cases hl : k < (wipeT δ is).length
      · rw [List.getElem?_set_self hl]; exact fun z => nomatch z
      · rw [List.getElem?_eq_none (by rw [List.length_set]; omega)]; exact fun z => nomatch z
    · rw [List.getElem?_set_ne hk]
      rcases List.mem_cons.mp h with z | z
      · exact absurd z.symm hk
      · exact wipe_noOwn is δ i z oc
theorem setTg_sh {g : Tg} {d : D} (h : setTg δ g d = some δ') : Sh δ δ' ∧ ∀ j, j ∉ g.is → δ'[j]? = δ[j]? := by
  unfold setTg at h
  split at h
  · rename_i i
    split at h
    · cases h
    · rename_i hn
      cases h
      refine ⟨fun j xs e => ?_, fun j hj => by rw [List.getElem?_set_ne]; intro z; exact hj (by rw [z]; simp [Tg.is])⟩
      by_cases hj : i = j
      · subst hj; exact absurd (by unfold isOwn; rw [e]) hn
      · exact ⟨xs, by rw [List.getElem?_set_ne hj]; exact e⟩
  · split at h
    · rename_i is _ ds
      split at h
      · rename_i hc
        cases h
        refine ⟨fun j xs e => ?_, fun j hj => get_setAll_ne hj⟩
        have : j ∉ is := fun hm => by
          have := hc.2
          rw [List.any_eq_false] at this
          exact this j hm (by unfold isOwn; rw [e])
        exact ⟨xs, by rw [get_setAll_ne this]; exact e⟩
      · cases h
    · cases h
theorem wipe_sh {is : List Nat} (hn : NoOwn δ is) (h : Sh δ δ1) : Sh δ (wipeT δ1 is) := fun j xs e => by
  have hj : j ∉ is := fun hm => hn j hm xs e
  obtain ⟨ys, e1⟩ := h j xs e
  exact ⟨ys, by rw [get_wipe_ne hj]; exact e1⟩
theorem lcGo_sh {f : TL.Env → Option (Rz × TL.Env)} {t : TL.Env → Option (Bool × TL.Env)} {g : Tg} (hf : ∀ δ r δ', f δ = some (r, δ') → Sh δ δ') (ht : ∀ δ b δ', t δ = some (b, δ') → Sh δ δ') : ∀ {ls : List D} {δ δ' : TL.Env} {ys : List D}, NoOwn δ g.is → lcGo f t g ls δ = some (ys, δ') → Sh δ δ'
  | [], δ, δ', ys, _, h => by cases h; exact Sh.refl
  | x :: ls, δ, δ', ys, hn, h => by
    simp only [lcGo] at h
    split at h
    · cases h
    · rename_i δ0 h0
      obtain ⟨s0, _⟩ := setTg_sh h0
      split at h
      · cases h
      · rename_i b δt h1
        have s1 := s0.trans (ht _ _ _ h1)
        cases b with
        | false => exact (wipe_sh hn s1).trans (lcGo_sh hf ht (wipe_noOwn _ _) h)
        | true =>
          rcases bR_some h with ⟨_, _, _, z⟩ | ⟨r4, d4, δ4, h4, _, h5⟩
          · cases z
          · have s2 := s1.trans (hf _ _ _ h4)
            split at h5
            · rename_i h6
              cases h5
              exact (wipe_sh hn s2).trans (lcGo_sh hf ht (wipe_noOwn _ _) h6)
            · cases h5
theorem fin_sh {tst : Bool} {o : Option (Rz × TL.Env)} {r : Rz} (hv : ∀ r δ', o = some (r, δ') → Sh δ δ') (h : fin tst o = some (r, δ')) : Sh δ δ' := by
  cases tst with
  | false => exact hv _ _ h
  | true =>
    rcases bR_some h with ⟨x, δ1, h1, h2⟩ | ⟨r1, d1, δ1, h1, _, h2⟩
    · cases h2; exact hv _ _ h1
    · obtain ⟨k, _, e⟩ := Option.map_eq_some_iff.mp h2
      cases e; exact hv _ _ h1
theorem own_sh {o : Option (Rz × List S)} {i : Nat} {r : Rz} (ho : ∃ oc, δ1[i]? = some (some (.own oc))) (h : ownCall o i δ1 = some (r, δ')) : Sh δ1 δ' := by
  have key : ∀ oc2 : OC, Sh δ1 (δ1.set i (some (.own oc2))) := fun oc2 j xs e => by
    by_cases hj : i = j
    · subst hj; exact ⟨oc2, List.getElem?_set_self (List.getElem?_eq_some_iff.mp e).1⟩
    · exact ⟨xs, by rw [List.getElem?_set_ne hj]; exact e⟩
  unfold ownCall at h
  split at h <;> first | (cases h; exact key _) | (cases h; done)
theorem fr_sh {o : Option (Rz × List S)} {r : Rz} (h : frCall o δ1 = some (r, δ')) : Sh δ1 δ' := by
  unfold frCall at h
  split at h <;> first | (cases h; exact Sh.refl) | (cases h; done)
theorem sh1 {o : Option (Rz × TL.Env)} {k : D → TL.Env → Option (Rz × TL.Env)} {r : Rz} (h1 : ∀ r δ', o = some (r, δ') → Sh δ δ') (h2 : ∀ d δ1 r δ', k d δ1 = some (r, δ') → Sh δ1 δ') (h : bR o xR k = some (r, δ')) : Sh δ δ' := by
  rcases bR_some h with ⟨x, δ1, e1, e2⟩ | ⟨r1, d1, δ1, e1, _, e2⟩
  · cases e2; exact h1 _ _ e1
  · exact (h1 _ _ e1).trans (h2 _ _ _ _ e2)
theorem shA {o : Option (Sum (List D) Xn × TL.Env)} {k : List D → TL.Env → Option (Rz × TL.Env)} {r : Rz} (h1 : ∀ r δ', o = some (r, δ') → Sh δ δ') (h2 : ∀ d δ1 r δ', k d δ1 = some (r, δ') → Sh δ1 δ') (h : bA o k = some (r, δ')) : Sh δ δ' := by
  rcases bA_some h with ⟨x, δ1, e1, e2⟩ | ⟨ds, δ1, e1, e2⟩
  · cases e2; exact h1 _ _ e1
  · exact (h1 _ _ e1).trans (h2 _ _ _ _ e2)
theorem shB {o : Option (Rz × TL.Env)} {k : Bool → TL.Env → Option (Rz × TL.Env)} {r : Rz} (h1 : ∀ r δ', o = some (r, δ') → Sh δ δ') (h2 : ∀ d δ1 r δ', k d δ1 = some (r, δ') → Sh δ1 δ') (h : bB o k = some (r, δ')) : Sh δ δ' := by
  rcases bB_some h with ⟨x, δ1, e1, e2⟩ | ⟨ds, δ1, e1, e2⟩
  · cases e2; exact h1 _ _ e1
  · exact (h1 _ _ e1).trans (h2 _ _ _ _ e2)
theorem shM {α : Type} {o : Option α} {f : α → Rz} {r : Rz} (h : o.map (fun z => (f z, δ1)) = some (r, δ')) : Sh δ1 δ' := by
  obtain ⟨z, _, e⟩ := Option.map_eq_some_iff.mp h
  cases e; exact Sh.refl
theorem tsts_sh {fs : List (TL.Env → Option (Rz × TL.Env))} {b : Bool} (h : ∀ f ∈ fs, ∀ (δ : TL.Env) (r : Rz) (δ' : TL.Env), f δ = some (r, δ') → Sh δ δ') (ht : tsts fs δ = some (b, δ')) : Sh δ δ' := by
  unfold tsts at ht
  split at ht
  · cases ht; exact Sh.refl
  · split at ht
    · rename_i h2; cases ht; exact h _ (List.mem_singleton.mpr rfl) _ _ _ h2
    · cases ht
  · cases ht
mutual
theorem ee_sh : ∀ (e : E) (tst : Bool) {δ δ' : TL.Env} {r : Rz}, ee G T md tst e δ = some (r, δ') → Sh δ δ'
  | .var i, tst, δ, δ', r, h => fin_sh (fun r δ' h => by split at h <;> first | (cases h; exact Sh.refl) | (cases h; done)) h
  | .glo n, tst, δ, δ', r, h => fin_sh (fun r δ' h => by split at h <;> first | (cases h; exact Sh.refl) | (cases h; done)) h
  | .int i, tst, δ, δ', r, h => fin_sh (fun r δ' h => by cases h; exact Sh.refl) h
  | .str i, tst, δ, δ', r, h => fin_sh (fun r δ' h => by cases h; exact Sh.refl) h
  | .bl i, tst, δ, δ', r, h => fin_sh (fun r δ' h => by cases h; exact Sh.refl) h
  | .non, tst, δ, δ', r, h => fin_sh (fun r δ' h => by cases h; exact Sh.refl) h
  | .bin op a b, tst, δ, δ', r, h => fin_sh (fun r δ' h => sh1 (fun _ _ => ee_sh a false) (fun _ _ _ _ h => sh1 (fun _ _ => ee_sh b false) (fun _ _ _ _ h => shM h) h) h) h
  | .neg a, tst, δ, δ', r, h => fin_sh (fun r δ' h => sh1 (fun _ _ => ee_sh a false) (fun _ _ _ _ h => shM h) h) h
  | .nt a, tst, δ, δ', r, h => shB (fun _ _ => ee_sh a tst) (fun _ _ _ _ h => by cases h; exact Sh.refl) h
  | .bop isAnd es, tst, δ, δ', r, h => ebs_sh es tst isAnd h
  | .ifx c a b, tst, δ, δ', r, h => by
    cases tst with
    | true => cases h
    | false =>
      refine shB (fun _ _ => ee_sh c true) (fun k δ1 r δ' h => ?_) (show bB (ee G T md true c δ) _ = _ from h)
      cases k with
      | true => exact ee_sh a false (by simpa using h)
      | false => exact ee_sh b false (by simpa using h)
  | .cmp op a b, tst, δ, δ', r, h => fin_sh (fun r δ' h => sh1 (fun _ _ => ee_sh a false) (fun _ _ _ _ h => sh1 (fun _ _ => ee_sh b false) (fun _ _ _ _ h => shM h) h) h) h
  | .call f as kn kv, tst, δ, δ', r, h => fin_sh (fun r δ' h => by
      split at h
      · exact shA (fun _ _ => evs_sh as) (fun _ _ _ _ h => shA (fun _ _ => evs_sh kv) (fun _ _ _ _ h => shM h) h) h
      · cases h) h
  | .callO f i as, tst, δ, δ', r, h => fin_sh (fun r δ' h => by
      split at h
      · refine shA (fun _ _ => evs_sh as) (fun ds δ1 r δ' h => ?_) h
        split at h
        · rename_i ho _
          obtain ⟨fc, _, h⟩ := Option.bind_eq_some_iff.mp h
          split at h
          · exact own_sh ⟨_, ho⟩ h
          · cases h
        · cases h
      · cases h) h
  | .callF f a as, tst, δ, δ', r, h => fin_sh (fun r δ' h => by
      split at h
      · split at h
        · rename_i h1; cases h; exact ee_sh a false h1
        · rename_i h1
          refine (ee_sh a false h1).trans (shA (fun _ _ => evs_sh as) (fun ds δ1 r δ' h => ?_) h)
          split at h
          · obtain ⟨fc, _, h⟩ := Option.bind_eq_some_iff.mp h
            split at h
            · exact fr_sh h
            · cases h
          · cases h
        · cases h
      · cases h) h
  | .blt b as, tst, δ, δ', r, h => fin_sh (fun r δ' h => shA (fun _ _ => evs_sh as) (fun _ _ _ _ h => shM h) h) h
  | .isT a t, tst, δ, δ', r, h => fin_sh (fun r δ' h => sh1 (fun _ _ => ee_sh a false) (fun _ _ _ _ h => shM h) h) h
  | .isC a c, tst, δ, δ', r, h => fin_sh (fun r δ' h => sh1 (fun _ _ => ee_sh a false) (fun _ _ _ _ h => by split at h <;> first | exact shM h | (cases h; done)) h) h
  | .meth o m as kn kv, tst, δ, δ', r, h => fin_sh (fun r δ' h => sh1 (fun _ _ => ee_sh o false) (fun _ _ _ _ h => shA (fun _ _ => evs_sh as) (fun _ _ _ _ h => shA (fun _ _ => evs_sh kv) (fun _ _ _ _ h => shM h) h) h) h) h
  | .att o f, tst, δ, δ', r, h => fin_sh (fun r δ' h => sh1 (fun _ _ => ee_sh o false) (fun _ _ _ _ h => shM h) h) h
  | .attO i f, tst, δ, δ', r, h => fin_sh (fun r δ' h => by
      split at h
      · split at h
        · exact shM h
        · cases h
      · cases h) h
  | .sub o i, tst, δ, δ', r, h => fin_sh (fun r δ' h => sh1 (fun _ _ => ee_sh o false) (fun _ _ _ _ h => sh1 (fun _ _ => ee_sh i false) (fun _ _ _ _ h => shM h) h) h) h
  | .subO n i, tst, δ, δ', r, h => fin_sh (fun r δ' h => by
      split at h
      · exact sh1 (fun _ _ => ee_sh i false) (fun _ _ _ _ h => by split at h <;> first | exact shM h | (cases h; done)) h
      · cases h) h
  | .slL o a, tst, δ, δ', r, h => fin_sh (fun r δ' h => by
      split at h
      · rename_i h1
        split at h
        · split at h
          · rename_i h2
            split at h
            · obtain ⟨_, h⟩ := req_some h; cases h; exact (ee_sh o false h1).trans (ee_sh a false h2)
            · cases h
          · cases h
        · cases h
      · cases h) h
  | .slH o a, tst, δ, δ', r, h => fin_sh (fun r δ' h => by
      split at h
      · rename_i h1
        split at h
        · split at h
          · rename_i h2
            split at h
            · obtain ⟨_, h⟩ := req_some h; cases h; exact (ee_sh o false h1).trans (ee_sh a false h2)
            · cases h
          · cases h
        · cases h
      · cases h) h
  | .lst es, tst, δ, δ', r, h => fin_sh (fun r δ' h => shA (fun _ _ => evs_sh es) (fun _ _ _ _ h => by obtain ⟨_, h⟩ := req_some h; cases h; exact Sh.refl) h) h
  | .tup es, tst, δ, δ', r, h => fin_sh (fun r δ' h => shA (fun _ _ => evs_sh es) (fun _ _ _ _ h => by obtain ⟨_, h⟩ := req_some h; cases h; exact Sh.refl) h) h
  | .lc g k its ifs elt, tst, δ, δ', r, h => fin_sh (fun r δ' h => by
      split at h
      · rename_i h1
        obtain ⟨ls, _, h⟩ := Option.bind_eq_some_iff.mp h
        obtain ⟨rs, rfl, hb, _, hgo⟩ := lc_inv h
        refine (evs_sh its h1).trans (lcGo_sh (fun _ _ _ => ee_sh elt false) (fun δ b δ' ht => ?_) (fun i hi oc z => ?_) hgo)
        · exact tsts_sh (ets_sh ifs) ht
        · have := List.all_eq_true.mp hb i hi
          rw [z] at this
          cases this
      · cases h) h
  | .fst es, tst, δ, δ', r, h => fin_sh (fun r δ' h => by
      split at h
      · rename_i h1
        obtain ⟨ts, _, h⟩ := Option.bind_eq_some_iff.mp h
        obtain ⟨_, h⟩ := req_some h
        cases h; exact evs_sh es h1
      · cases h) h
  | .fmt e, tst, δ, δ', r, h => fin_sh (fun r δ' h => sh1 (fun _ _ => ee_sh e false) (fun _ _ _ _ h => by split at h <;> first | (obtain ⟨_, h⟩ := req_some h; cases h; exact Sh.refl) | (cases h; done)) h) h
theorem evs_sh : ∀ (es : List E) {δ δ' : TL.Env} {r : Sum (List D) Xn}, evs G T md es δ = some (r, δ') → Sh δ δ'
  | [], δ, δ', r, h => by cases h; exact Sh.refl
  | e :: es, δ, δ', r, h => by
    simp only [evs] at h
    rcases bR_some h with ⟨x, δ1, h1, h2⟩ | ⟨r1, d1, δ1, h1, _, h2⟩
    · cases h2; exact ee_sh e false h1
    · split at h2
      · rename_i h3; cases h2; exact (ee_sh e false h1).trans (evs_sh es h3)
      · rename_i h3; cases h2; exact (ee_sh e false h1).trans (evs_sh es h3)
      · cases h2
theorem ets_sh : ∀ (es : List E), ∀ f ∈ ets G T md es, ∀ (δ : TL.Env) (r : Rz) (δ' : TL.Env), f δ = some (r, δ') → Sh δ δ'
  | [], f, hm => by cases hm
  | e :: es, f, hm => by
    rcases List.mem_cons.mp (show f ∈ ee G T md true e :: ets G T md es from hm) with rfl | hm
    · exact fun δ r δ' h => ee_sh e true h
    · exact ets_sh es f hm
theorem ebs_sh : ∀ (es : List E) (tst isAnd : Bool) {δ δ' : TL.Env} {r : Rz}, ebs G T md tst isAnd es δ = some (r, δ') → Sh δ δ'
  | [], tst, isAnd, δ, δ', r, h => by cases h
  | [e], tst, isAnd, δ, δ', r, h => shB (fun _ _ => ee_sh e tst) (fun _ _ _ _ h => by cases h; exact Sh.refl) h
  | e :: e2 :: es, tst, isAnd, δ, δ', r, h => by
    refine shB (fun _ _ => ee_sh e tst) (fun k δ1 r δ' h => ?_) (show bB (ee G T md tst e δ) _ = _ from h)
    split at h
    · exact ebs_sh (e2 :: es) tst isAnd h
    · cases h; exact Sh.refl
end
end
end RE
set_option Elab.async false
set_option linter.all false
set_option maxRecDepth 100000
set_option autoImplicit false
set_option maxHeartbeats 1000000
/-! REq: statements. -/
namespace RE
open PySem PySem.Spec PyProof.Rows L2 TL
theorem not_own {δ : TL.Env} {i : Nat} (h : ¬ isOwn δ i = true) : ∀ oc, δ[i]? ≠ some (some (.own oc)) := fun oc z => h (by unfold isOwn; rw [z])
theorem swap_no {x : Expr} {t : Option Expr} {l : Nat} {env : PySem.Env} (h : isLc x = false) : swapsWith x t l env = pure false := by
  cases x <;> first | rfl | cases h
theorem assign_sub {N : List Str} {sc : Scope} {b : E} {y : Expr} {o : Expr} {pos : Pos} {env : PySem.Env} (h : okE N sc b y = true) : ∀ v, assign (.Subscript o y pos) env v = (do
    let ov ← holding [v] (eval o env)
    let iv ← holding [v, ov] (eval y env)
    standAt pos
    holding [v, ov, iv] (setItem ov iv v)
    release [v, ov, iv] []) := by
  intro v
  cases y <;> first
    | rfl
    | (exfalso; cases b <;> cases h)
section
variable {B : Bs} {M W : Addr → Prop} {σ : L2.St} {H H1 : Hp} {δ δ1 : TL.Env} {p : Addr} {X : Cx} {x : Xn} {Dn : Ends} {o : Ou}
theorem Sv.setD (v : Sv B M W σ H δ) {i : Nat} {d : D} {u : V} (hno : ∀ oc, δ[i]? ≠ some (some (.own oc))) (r : Rep M H d u) : Sv B M W (σ.set i (some u)) H (δ.set i (some (.im d))) := by
  refine ⟨v.good, v.env.set r, v.mm, v.mn, v.ww, v.wn, v.xt, fun j xs q => ?_⟩
  obtain ⟨ys, z1, z2⟩ := v.kp j xs q
  have hj : i ≠ j := fun e => by subst e; exact hno ys z1
  exact ⟨ys, by rw [List.getElem?_set_ne hj]; exact z1, by rw [List.getElem?_set_ne hj]; exact z2⟩
theorem PoS.sub (v : Sv B M W σ H δ) (k : PoS X B Dn o) : PoS X ⟨M, W, H, σ, δ⟩ Dn o := by
  cases o with
  | nx δ' => exact fun M' W' σ' H' u => k M' W' σ' H' (v.trans u)
  | bk δ' => exact fun M' W' σ' H' u => k M' W' σ' H' (v.trans u)
  | ct δ' => exact fun M' W' σ' H' u => k M' W' σ' H' (v.trans u)
  | rt r δ' =>
    cases r with
    | im d => exact fun M' W' σ' H' w u => k M' W' σ' H' w (v.trans u)
    | fr xs => exact fun M' W' σ' H' p vs u n1 n2 => k M' W' σ' H' p vs (v.trans u) (fun m => n1 (v.mm p m)) (v.back n2)
    | ex _ => trivial
  | xc y δ' =>
    obtain ⟨Wx, tk, h⟩ := k
    exact ⟨Wx, tk, fun M' W' σ' H' dx u r => h M' W' σ' H' dx (v.trans u) r⟩
end
section
variable (U : Sd) (T : Tb) (lv : Nat) (md : Md) (N : List Str)
def SC (sc : Scope) (c : C) (st : Stmt) : Prop := ∀ (X : Cx), XOk U T lv md X → (∀ n, X.fn n = true) → X.N = N → X.env.scope = sc → ∀ (δ : TL.Env) (o : Ou), evC U.G T md c δ = some o → JS X st δ o
def SB (sc : Scope) (cs : List C) (sts : List Stmt) : Prop := ∀ (X : Cx), XOk U T lv md X → (∀ n, X.fn n = true) → X.N = N → X.env.scope = sc → ∀ (δ : TL.Env) (o : Ou), evB U.G T md cs δ = some o → JB X sts δ o
end
section
variable {U : Sd} {T : Tb} {lv : Nat} {md : Md} {N : List Str} {sc scope : Scope} {X : Cx} {e a b c : E} {x y z w elt : Expr} {es as kv : List E} {xs ys fs : List Expr} {pos p p2 p3 : Pos} {δ δ1 δ' : TL.Env} {cs ct : List C} {ss st : List Stmt}
theorem c_ret (he : SE U T lv md N sc e x) : SC U T lv md N sc (.ret e) (.Return (some x) pos) := fun X ok hfn hN hs δ o h B M W σ H Dn sv po => by
  refine wS_of (ps_ret pe_w) ?_
  simp only [evC] at h
  split at h
  · rename_i v δ1 h1
    cases h
    obtain ⟨Wx, tk, k⟩ := po
    exact (he.je ok hN hs h1).ke M W σ H _ sv.good sv.env (sv.kx (ee_sh e false h1) tk k)
  · rename_i r δ1 hnx h1
    cases h
    have sh := ee_sh e false h1
    cases r with
    | im d => exact (he.je ok hN hs h1).ke M W σ H _ sv.good sv.env fun v H' s r => po M W σ H' v (sv.step s sh) r
    | fr ls => exact (he.je ok hN hs h1).ke M W σ H _ sv.good sv.env fun p vs H' s n hp rr => po M W σ H' p vs (sv.stepF s n sh) (sv.nB n) (sv.back n) hp rr
    | ex v => exact absurd rfl (hnx v)
  · cases h
theorem c_retN : SC U T lv md N sc .retN (.Return none pos) := fun X ok hfn hN hs δ o h B M W σ H Dn sv po => by
  cases h
  exact wS_of ps_retN (po M W σ H .non sv rfl)
theorem c_pass : SC U T lv md N sc .pass (.Pass pos) := fun X ok hfn hN hs δ o h B M W σ H Dn sv po => by
  cases h
  exact wS_of ps_pass (po M W σ H sv)
/-- an expression ahead of something -/
theorem ex_case (ok : XOk U T lv md X) (hN : X.N = N) (hs : X.env.scope = sc) (he : SE U T lv md N sc e x) {B : Bs} {M W : Addr → Prop} {σ : L2.St} {H : Hp} {Dn : Ends} {Q : VK} {o : Ou} {k : D → TL.Env → Option Ou} (sv : Sv B M W σ H δ) (po : PoS X B Dn o) (h : bR (ee U.G T md false e δ) (fun x δ1 => some (.xc x δ1)) k = some o)
    (hk : ∀ d δ1 v H1, Sv B M W σ H1 δ1 → Rep M H1 d v → k d δ1 = some o → Stp M W σ δ1 H H1 → Q v H1) : wE X x σ H Q := by
  rcases bR_some h with ⟨v, δ1, h1, h2⟩ | ⟨r1, d1, δ1, h1, hd, h2⟩
  · cases h2
    obtain ⟨Wx, tk, k⟩ := po
    exact (he.je ok hN hs h1).ke M W σ H _ sv.good sv.env (sv.kx (ee_sh e false h1) tk k)
  · exact (he.je ok hN hs h1).tr hd M W σ H _ sv.good sv.env fun v H1 s1 r1 => hk d1 δ1 v H1 (sv.step s1 (ee_sh e false h1)) r1 h2 s1
theorem c_exp (he : SE U T lv md N sc e x) (hl : isLc x = false) : SC U T lv md N sc (.exp e) (.Expr x pos) := fun X ok hfn hN hs δ o h B M W σ H Dn sv po => by
  refine wS_of (ps_expr pe_w (swap_no hl)) (ex_case ok hN hs he sv po h fun d δ1 v H1 s1 r1 hk _ => ?_)
  cases hk
  exact po M W σ H1 s1
theorem c_set {i : Nat} {n : Str} (h1 : N[i]? = some n) (h2 : sc.names.lookup n = some .local ∨ sc.names.lookup n = some .cell) (hl : isLc x = false) (he : SE U T lv md N sc e x) : SC U T lv md N sc (.set i e) (.Assign [.Name n p] x pos) := fun X ok hfn hN hs δ o h B M W σ H Dn sv po => by
  refine wS_of (ps_set ok.nd (by rw [hN]; exact h1) (by rw [hs]; exact h2) pe_w (swap_no hl) (.inl (hfn n))) (ex_case ok hN hs he sv po h fun d δ1 v H1 s1 r1 hk _ => ?_)
  split at hk
  · cases hk
  · rename_i hno
    cases hk
    exact po M W _ H1 (s1.setD (not_own hno) r1)
theorem c_setLc {i j : Nat} {n nm : Str} {k : Ik} {its ifs : List E} {t it : Expr} {zz : Int} (h0 : okC N sc (.set j (.lc (.one i) k its ifs e)) (.Assign [.Name n p] (.ListComp elt [⟨t, it, fs, zz⟩] scope p2) pos) = true) (hi : A2 (SE U T lv md N sc) its (itXs k it)) (hf : A2 (SE U T lv md N (rel scope sc)) ifs fs) (he : SE U T lv md N (rel scope sc) e elt) :
    SC U T lv md N sc (.set j (.lc (.one i) k its ifs e)) (.Assign [.Name n p] (.ListComp elt [⟨t, it, fs, zz⟩] scope p2) pos) := fun X ok hfn hN hs δ o h B M W σ H Dn sv po => by
  have h' : (decide (N[j]? = some n) && ((locB sc n || decide (sc.names.lookup n = some .cell)) && (okE N sc (.lc (.one i) k its ifs e) (.ListComp elt [⟨t, it, fs, zz⟩] scope p2) && (locB sc n && (decide (sc.kind = .function) && ((p.line == p2.line) && !(scope.names.any fun (m, k) => m == n && (k == .local || k == .cell)))))))) = true := h0
  rw [Bool.and_eq_true, Bool.and_eq_true, Bool.and_eq_true, Bool.and_eq_true, Bool.and_eq_true, Bool.and_eq_true] at h'
  obtain ⟨h1, _, h2, h3, h4, h5, h6⟩ := h'
  have h1 := of_decide_eq_true h1
  have h3 : sc.names.lookup n = some .local := of_decide_eq_true h3
  have h4 := of_decide_eq_true h4
  have h6 : (scope.names.any fun (m, k) => m == n && (k == .local || k == .cell)) = false := by simpa using h6
  obtain ⟨nm, np, rfl, hn, hloc, blk, hib, rfl, hfl⟩ := lc_ok h2
  have hN' : X.N[i]? = some nm := by rw [hN]; exact hn
  have blk' : BlkOk X.N X.env.scope scope [(nm, i)] := by rw [hN, hs]; exact blk
  rcases bR_some h with ⟨v, δ1, h7, h8⟩ | ⟨r1, d1, δ1, h7, hd, h8⟩
  · exfalso
    have h7 : (match evs U.G T md its δ with | some (.inl ds, δ1) => (itD U.G.K k ds).bind fun xs => lcD (ee U.G T md false e) (tsts (ets U.G T md ifs)) (.one i) xs δ1 | _ => none) = some (.ex v, δ1) := h7
    split at h7
    · obtain ⟨ls, hls, h9⟩ := Option.bind_eq_some_iff.mp h7
      obtain ⟨rs, e9, _⟩ := lc_inv h9
      cases e9
    · cases h7
  · have sh := ee_sh (.lc (.one i) k its ifs e) false h7
    have h7 : (match evs U.G T md its δ with | some (.inl ds, δ1) => (itD U.G.K k ds).bind fun xs => lcD (ee U.G T md false e) (tsts (ets U.G T md ifs)) (.one i) xs δ1 | _ => none) = some (r1, δ1) := h7
    split at h7
    · rename_i ds δ2 h9
      obtain ⟨ls, hls, h10⟩ := Option.bind_eq_some_iff.mp h7
      obtain ⟨rs, rfl, hb, hl, hgo⟩ := lc_inv h10
      cases hd
      split at h8
      · cases h8
      · rename_i hno
        cases h8
        obtain ⟨wi, pi, hwi⟩ := s_it (tg := .Name nm np) ok hN hs hib hi h9 hls
        refine wS_of (ps_setLc (own := [(nm, i)]) (g := gName i) ok.calm ok.nd (by rw [hN]; exact h1) (by rw [hs]; exact h3) (sw_true (by rw [hs]; exact h4) (by rw [hs]; exact h3) h5 h6) pi blk' (fun _ _ _ _ _ => pg_name ok.nd hN' (.inl (by rw [rel_env hs]; exact hloc)) (.inr (by rw [rel_env hs]; exact hloc))) (pts_wb hfl) pe_wb (fold_set (it_set (its := its) hib))) ?_
        refine lc_read (Q := fun v H1 => gName j v σ H1 Dn.nx) ok hN hs (it := it) he hf sv.good (fun R hR => hwi M W σ H R sv.good sv.env hR) (blank_one hb) hl hgo fun p' vs H' s n hp rr => ?_
        have sv' : Sv B M W σ H' δ1 := sv.step (s.anti sv.good.wm) sh
        exact po M W _ H' (sv'.setD (not_own hno) ⟨p', vs, rfl, sv.good.notM n, hp, Reps.anti (fun _ m => .inl m) rs rr⟩)
    · cases h7
theorem c_sto {i : Nat} {n : Str} (h0 : okC N sc (.sto i b e) (.Assign [.Subscript (.Name n p) y p2] x pos) = true) (hb : SE U T lv md N sc b y) (he : SE U T lv md N sc e x) : SC U T lv md N sc (.sto i b e) (.Assign [.Subscript (.Name n p) y p2] x pos) := fun X ok hfn hN hs δ o h B M W σ H Dn sv po => by
  have h' : (varB N sc i n && (okE N sc b y && (okE N sc e x && !isLc x))) = true := h0
  simp only [Bool.and_eq_true, Bool.not_eq_true'] at h'
  obtain ⟨hv, _, _, hl⟩ := h'
  obtain ⟨v1, v2, v3, v4⟩ := var_of hv hN hs
  refine wS_of (ps_asg pe_w (pg_sub (pe_var v1 v2 v3 v4) pe_w set_list (assign_sub hb.ok)) (by unfold swapsWithSole; exact swap_no hl) (by cases x <;> rfl) rfl) (ex_case ok hN hs he sv po h fun d δ1 v H1 s1 r1 hk st1 => ?_)
  split at hk
  · rename_i ho
    have ho : ∃ oc, δ1[i]? = some (some (.own oc)) := by
      unfold isOwn at ho
      split at ho
      · rename_i oc e; exact ⟨oc, e⟩
      · cases ho
    obtain ⟨oc0, ho⟩ := ho
    obtain ⟨a0, us0, hs0, hw0, hp0, ru0⟩ := s1.env.getO ho
    refine ⟨_, hs0, ?_⟩
    refine ex_case ok hN hs hb s1 po hk fun d2 δ2 v2 H2 s2 r2 hk2 st2 => ?_
    split at hk2
    · rename_i jx ls hls
      obtain ⟨k, hk3, e⟩ := Option.map_eq_some_iff.mp hk2
      cases e
      obtain ⟨a1, us1, hs1, hw1, hp1, vs', rfl, r'⟩ := s2.env.getO hls
      rw [hs0] at hs1
      cases hs1
      refine ⟨a0, vs', jx, k, rfl, r2, hp1, by rw [r'.len]; exact hk3, po M W σ _ ⟨s2.good.put, s2.env.put s2.good.wm hls hs0 hw0 ⟨_, rfl, Reps.set r' (st2.rep r1)⟩, s2.mm, s2.mn, s2.ww, s2.wn, s2.xt' (Xt.put hw0), fun l zs z => ?_⟩⟩
      obtain ⟨ys, z1, z2⟩ := s2.kp l zs z
      by_cases hl : i = l
      · subst hl
        exact ⟨_, List.getElem?_set_self (List.getElem?_eq_some_iff.mp hls).1, z2⟩
      · exact ⟨ys, by rw [List.getElem?_set_ne hl]; exact z1, z2⟩
    · cases hk2
  · cases hk
theorem c_fld {i : Nat} {n f g : Str} (h0 : okC N sc (.fld i f e) (.Assign [.Attribute (.Name n p) g p2] x pos) = true) (he : SE U T lv md N sc e x) : SC U T lv md N sc (.fld i f e) (.Assign [.Attribute (.Name n p) g p2] x pos) := fun X ok hfn hN hs δ o h B M W σ H Dn sv po => by
  have h' : (varB N sc i n && (decide (f = g) && (okE N sc e x && !isLc x))) = true := h0
  simp only [Bool.and_eq_true, Bool.not_eq_true', decide_eq_true_eq] at h'
  obtain ⟨hv, rfl, _, hl⟩ := h'
  obtain ⟨v1, v2, v3, v4⟩ := var_of hv hN hs
  refine wS_of (ps_fld (pe_var v1 v2 v3 v4) pe_w (swap_no hl)) (ex_case ok hN hs he sv po h fun d δ1 v H1 s1 r1 hk st1 => ?_)
  split at hk
  · rename_i A ns ds hA
    obtain ⟨⟨hfl, hlen⟩, e⟩ := req_some hk
    cases e
    obtain ⟨c, na⟩ := ok.wd.fld A f hfl
    rw [← ok.K] at c na
    obtain ⟨a0, ob, hs0, hW, hh, dx, vs, rfl, hle, r⟩ := s1.env.getO hA
    refine ⟨_, hs0, a0, A, dx, _, rfl, hh, c, na, ?_, ?_⟩
    · rw [List.length_zip]; omega
    obtain ⟨vs', e1, e2⟩ := putF_zip (fl := f) r1 hle r
    rw [e1]
    refine po M W σ _ ⟨s1.good.put, s1.env.put s1.good.wm hA hs0 hW ⟨dx, vs', rfl, putN_len hle, e2⟩, s1.mm, s1.mn, s1.ww, s1.wn, s1.xt' (Xt.put hW), fun l zs z => ?_⟩
    obtain ⟨ys, z1, z2⟩ := s1.kp l zs z
    by_cases hl : i = l
    · subst hl
      exact ⟨_, List.getElem?_set_self (List.getElem?_eq_some_iff.mp hA).1, z2⟩
    · exact ⟨ys, by rw [List.getElem?_set_ne hl]; exact z1, z2⟩
  · cases hk
end
end RE
set_option Elab.async false
set_option linter.all false
set_option maxRecDepth 100000
set_option autoImplicit false
set_option maxHeartbeats 1000000
/-! REr: several names at once, branches, loops, blocks. -/
namespace RE
open PySem PySem.Spec PyProof.Rows L2 TL
section
variable {U : Sd} {T : Tb} {lv : Nat} {md : Md} {N : List Str} {sc scope : Scope} {X : Cx} {e a b c : E} {x y z w elt : Expr} {es as kv : List E} {xs ys fs : List Expr} {pos p p2 p3 : Pos} {δ δ1 δ' : TL.Env} {cs ct cb : List C} {ss st sb : List Stmt}
/-! ### blocks -/
theorem b_nil : SB U T lv md N sc [] [] := fun X ok hfn hN hs δ o h B M W σ H Dn sv po => by
  cases h
  exact wB_of pss_nil (po M W σ H sv)
theorem b_cons {d : C} {s : Stmt} (h1 : SC U T lv md N sc d s) (h2 : SB U T lv md N sc cs ss) : SB U T lv md N sc (d :: cs) (s :: ss) := fun X ok hfn hN hs δ o h B M W σ H Dn sv po => by
  refine wB_of (pss_cons ps_w pss_w) ?_
  simp only [evB] at h
  split at h
  · rename_i δ1 h3
    exact h1 X ok hfn hN hs δ _ h3 B M W σ H _ sv fun M' W' σ' H' sv' => h2 X ok hfn hN hs δ1 o h B M' W' σ' H' Dn sv' po
  · rename_i hnx
    refine h1 X ok hfn hN hs δ o h B M W σ H _ sv ?_
    cases o with
    | nx δ1 => exact absurd h (hnx δ1)
    | bk δ1 => exact po
    | ct δ1 => exact po
    | rt r δ1 => cases r <;> exact po
    | xc v δ1 => exact po
/-! ### branches -/
theorem c_ifs (hc : SE U T lv md N sc c x) (h1 : SB U T lv md N sc cs ss) (h2 : SB U T lv md N sc ct st) : SC U T lv md N sc (.ifs c cs ct) (.If x ss st pos) := fun X ok hfn hN hs δ o h B M W σ H Dn sv po => by
  refine wS_of (ps_if pt_w pss_w pss_w) ?_
  simp only [evC] at h
  split at h
  · rename_i v δ1 h3
    cases h
    obtain ⟨Wx, tk, k⟩ := po
    have j : JXT X x δ v δ1 := hc.jt ok hN hs h3
    exact j M W σ H _ sv.good sv.env (sv.kx (ee_sh c true h3) tk k)
  · rename_i δ1 h3
    have j : TT X x δ true δ1 := hc.jt ok hN hs h3
    refine j M W σ H _ sv.good sv.env fun H1 s1 => ?_
    rw [if_pos rfl]
    exact h1 X ok hfn hN hs δ1 o h B M W σ H1 Dn (sv.step s1 (ee_sh c true h3)) po
  · rename_i δ1 h3
    have j : TT X x δ false δ1 := hc.jt ok hN hs h3
    refine j M W σ H _ sv.good sv.env fun H1 s1 => ?_
    rw [if_neg Bool.false_ne_true]
    exact h2 X ok hfn hN hs δ1 o h B M W σ H1 Dn (sv.step s1 (ee_sh c true h3)) po
  · cases h
/-! ### while -/
theorem c_whl (hc : SE U T lv md N sc c x) (h1 : SB U T lv md N sc cs ss) : SC U T lv md N sc (.whl c cs) (.While x ss [] pos) := fun X ok hfn hN hs δ o h B M W σ H Dn sv po => by
  refine wS_of (ps_while ok.pass pt_w pss_w) ⟨fun m σ' H' => ∃ M' W' δk, Sv B M' W' σ' H' δk ∧ whlGo (ee U.G T md true c) (evB U.G T md cs) m δk = some o, ⟨_, M, W, δ, sv, h⟩, ?_⟩
  rintro m σ' H' ⟨M', W', δk, sk, hk⟩
  cases m with
  | zero => cases hk
  | succ m =>
    simp only [whlGo] at hk
    split at hk
    · rename_i v δ2 h3
      cases hk
      obtain ⟨Wx, tk, k⟩ := po
      have j : JXT X x δk v δ2 := hc.jt ok hN hs h3
      exact j M' W' σ' H' _ sk.good sk.env (sk.kx (ee_sh c true h3) tk k)
    · rename_i δ2 h3
      have j : TT X x δk true δ2 := hc.jt ok hN hs h3
      refine j M' W' σ' H' _ sk.good sk.env fun H1 s1 => ?_
      rw [if_pos rfl]
      have s2 := sk.step s1 (ee_sh c true h3)
      refine ⟨fun σ2 H2 => ∃ M2 W2 δ3, Sv B M2 W2 σ2 H2 δ3 ∧ whlGo (ee U.G T md true c) (evB U.G T md cs) m δ3 = some o, fun σ2 H2 n => ⟨m, Nat.lt_succ_self m, n⟩, ?_⟩
      have key : ∀ ob, evB U.G T md cs δ2 = some ob → PoS X B { nx := fun σ2 H2 => ∃ M2 W2 δ3, Sv B M2 W2 σ2 H2 δ3 ∧ whlGo (ee U.G T md true c) (evB U.G T md cs) m δ3 = some o, rt := Dn.rt, bk := Dn.nx, ct := fun σ2 H2 => ∃ M2 W2 δ3, Sv B M2 W2 σ2 H2 δ3 ∧ whlGo (ee U.G T md true c) (evB U.G T md cs) m δ3 = some o } ob → wB X ss { Dn with nx := fun σ2 H2 => ∃ M2 W2 δ3, Sv B M2 W2 σ2 H2 δ3 ∧ whlGo (ee U.G T md true c) (evB U.G T md cs) m δ3 = some o, ct := fun σ2 H2 => ∃ M2 W2 δ3, Sv B M2 W2 σ2 H2 δ3 ∧ whlGo (ee U.G T md true c) (evB U.G T md cs) m δ3 = some o, bk := Dn.nx } σ' H1 := fun ob hob pob => h1 X ok hfn hN hs δ2 ob hob B M' W' σ' H1 _ s2 pob
      split at hk
      · rename_i δ3 h4; exact key _ h4 fun M2 W2 σ2 H2 sv2 => ⟨M2, W2, δ3, sv2, hk⟩
      · rename_i δ3 h4; exact key _ h4 fun M2 W2 σ2 H2 sv2 => ⟨M2, W2, δ3, sv2, hk⟩
      · rename_i δ3 h4; cases hk; exact key _ h4 po
      · rename_i n1 n2 n3
        refine key o hk ?_
        cases o with
        | nx δ3 => exact absurd hk (n1 δ3)
        | ct δ3 => exact absurd hk (n2 δ3)
        | bk δ3 => exact absurd hk (n3 δ3)
        | rt r δ3 => cases r <;> exact po
        | xc v δ3 => exact po
    · rename_i δ2 h3
      cases hk
      have j : TT X x δk false δ2 := hc.jt ok hN hs h3
      refine j M' W' σ' H' _ sk.good sk.env fun H1 s1 => ?_
      rw [if_neg Bool.false_ne_true]
      exact po M' W' σ' H1 (sk.step s1 (ee_sh c true h3))
    · cases hk
/-! ### for -/
theorem c_for {i : Nat} {n : Str} {k : Ik} {it : Expr} (hn : N[i]? = some n) (hloc : sc.names.lookup n = some .local) (hib : itB sc k it = true) (hi : A2 (SE U T lv md N sc) es (itXs k it)) (h1 : SB U T lv md N sc cs ss) : SC U T lv md N sc (.for_ (.one i) k es cs) (.For (.Name n p) it ss [] pos) := fun X ok hfn hN hs δ o h B M W σ H Dn sv po => by
  have hf := fold_set (env := X.env) (it_set (its := es) hib)
  have pg : PG X (.Name n p) (gName i) := pg_name ok.nd (by rw [hN]; exact hn) (.inl (by rw [hs]; exact hloc)) (.inl (hfn n))
  simp only [evC] at h
  split at h
  · cases h
  · rename_i ds δ1 h2
    obtain ⟨ls, hls, h⟩ := Option.bind_eq_some_iff.mp h
    obtain ⟨wi, pi, hwi⟩ := s_it (tg := .Name n p) ok hN hs hib hi h2 hls
    refine wS_of (ps_for ok.pass ok.calm pi pg pss_w hf) (hwi M W σ H _ sv.good sv.env fun J vs H1 s1 r1 wk => ?_)
    refine ⟨fun q m σ' H' => m = ls.length - q ∧ q ≤ ls.length ∧ ∃ M' W' δk, Sv B M' W' σ' H' δk ∧ Reps M' H' ds vs ∧ forGo (evB U.G T md cs) (.one i) (ls.drop q) δk = some o, ⟨ls.length, by simp, Nat.zero_le _, M, W, δ1, sv.step s1 (evs_sh es h2), r1, by rw [List.drop_zero]; exact h⟩, ?_⟩
    rintro q m σ' H' ⟨rfl, hq, M', W', δk, sk, rds, hk⟩
    by_cases hlt : q < ls.length
    · obtain ⟨d, hd⟩ : ∃ d, ls[q]? = some d := ⟨_, List.getElem?_eq_getElem hlt⟩
      obtain ⟨j1, j2⟩ := wk.go M' W' H' q d sk.good rds hd
      have hdrop : ls.drop q = d :: ls.drop (q + 1) := by
        obtain ⟨h1, h2⟩ := List.getElem?_eq_some_iff.mp hd
        rw [← h2]; exact List.drop_eq_getElem_cons h1
      rw [hdrop] at hk
      simp only [forGo] at hk
      split at hk
      · cases hk
      · rename_i δ0 h0
        have h0 : (if isOwn δk i = true then none else some (δk.set i (some (.im d)))) = some δ0 := h0
        split at h0
        · cases h0
        · rename_i hno
          cases h0
          refine .inr ⟨j1, fun σ2 H2 => ∃ M' W' δk, Sv B M' W' σ2 H2 δk ∧ Reps M' H2 ds vs ∧ forGo (evB U.G T md cs) (.one i) (ls.drop (q + 1)) δk = some o, fun σ2 H2 p2 => ⟨ls.length - (q + 1), by omega, rfl, hlt, p2⟩, fun v H2 hy => ?_⟩
          obtain ⟨ex, rv⟩ := j2 v H2 hy
          have sk2 : Sv B M' W' σ' H2 δk := ⟨sk.good.ext ex, sk.env.ext ex, sk.mm, sk.mn, sk.ww, sk.wn, sk.xt' (Xt.of ex), sk.kp⟩
          have sk3 := sk2.setD (not_own hno) rv
          have rds2 : Reps M' H2 ds vs := Reps.ex (Xt.of ex) ds rds
          show wB X ss _ (σ'.set i (some v)) H2
          have key : ∀ ob, evB U.G T md cs (δk.set i (some (.im d))) = some ob → PoS X ⟨M', W', H2, σ'.set i (some v), δk.set i (some (.im d))⟩ { nx := fun σ2 H2 => ∃ M' W' δk, Sv B M' W' σ2 H2 δk ∧ Reps M' H2 ds vs ∧ forGo (evB U.G T md cs) (.one i) (ls.drop (q + 1)) δk = some o, rt := Dn.rt, bk := Dn.nx, ct := fun σ2 H2 => ∃ M' W' δk, Sv B M' W' σ2 H2 δk ∧ Reps M' H2 ds vs ∧ forGo (evB U.G T md cs) (.one i) (ls.drop (q + 1)) δk = some o } ob →
              wB X ss { Dn with nx := fun σ2 H2 => ∃ M' W' δk, Sv B M' W' σ2 H2 δk ∧ Reps M' H2 ds vs ∧ forGo (evB U.G T md cs) (.one i) (ls.drop (q + 1)) δk = some o, ct := fun σ2 H2 => ∃ M' W' δk, Sv B M' W' σ2 H2 δk ∧ Reps M' H2 ds vs ∧ forGo (evB U.G T md cs) (.one i) (ls.drop (q + 1)) δk = some o, bk := Dn.nx } (σ'.set i (some v)) H2 := fun ob hob pob => h1 X ok hfn hN hs _ ob hob _ M' W' _ H2 _ (Sv.refl sk3.good sk3.env) pob
          split at hk
          · rename_i δ3 h4; exact key _ h4 fun M2 W2 σ2 H3 sv2 => ⟨M2, W2, δ3, sk3.trans sv2, Sv.reps sk3.good sv2 rds2, hk⟩
          · rename_i δ3 h4; exact key _ h4 fun M2 W2 σ2 H3 sv2 => ⟨M2, W2, δ3, sk3.trans sv2, Sv.reps sk3.good sv2 rds2, hk⟩
          · rename_i δ3 h4; cases hk; exact key _ h4 fun M2 W2 σ2 H3 sv2 => po M2 W2 σ2 H3 (sk3.trans sv2)
          · rename_i n1 n2 n3
            refine key o hk ?_
            have po' := PoS.sub sk3 po
            cases o with
            | nx δ3 => exact absurd hk (n1 δ3)
            | ct δ3 => exact absurd hk (n2 δ3)
            | bk δ3 => exact absurd hk (n3 δ3)
            | rt r δ3 => cases r <;> exact po'
            | xc v δ3 => exact po'
    · have hke : q = ls.length := by omega
      subst hke
      rw [List.drop_length] at hk
      simp only [forGo] at hk
      cases hk
      exact .inl ⟨wk.stop M' W' H' sk.good rds, po M' W' σ' H' sk⟩
  · cases h
end
end RE
set_option Elab.async false
set_option linter.all false
set_option maxRecDepth 100000
set_option autoImplicit false
set_option maxHeartbeats 1000000
/-! REs: a, b = e1, e2; every statement; a def's body. -/
namespace RE
open PySem PySem.Spec PyProof.Rows L2 TL
theorem three_of {α : Type} : ∀ {l : List α}, l.length = 3 → ∃ a b c, l = [a, b, c]
  | [a, b, c], _ => ⟨a, b, c, rfl⟩
  | [], h => by cases h
  | [_], h => by cases h
  | [_, _], h => by cases h
  | _ :: _ :: _ :: _ :: _, h => by simp at h
theorem swapped2 {x y : Str} {px py pt : Pos} {kt k2 : Nat} {pt2 : Pos} {a b : Expr} {env : PySem.Env} (hk : env.scope.kind = .function) (hx : env.scope.names.lookup x = some .local) (hy : env.scope.names.lookup y = some .local) (hl : py.line = px.line) (hne : x ≠ y) (sa : isStar a = false) (sb : isStar b = false)
    (h1 : [a, b].all (foldedForSure 8) = false) (h2 : [a, b].all (constantsAlone 8) = false) : swappedStores [.Tuple [.Name x px, .Name y py] kt pt] (.Tuple [a, b] k2 pt2) env = pure (some [x, y]) := by
  have kx : env.kindOf x = some .local := hx
  have ky : env.kindOf y = some .local := hy
  have hb : env.blockKind = .function := by unfold Env.blockKind; rw [hk]; rfl
  have n1 : (y == x) = false := by rw [beq_eq_false_iff_ne]; exact fun z => hne z.symm
  have n2 : (x == y) = false := by rw [beq_eq_false_iff_ne]; exact hne
  unfold swappedStores
  simp only [hb, kx, ky, h1, h2, hl, Expr.pos, List.head?_cons, Option.map_some, Option.getD_some, List.filterMap_cons, List.filterMap_nil, beq_self_eq_true, Bool.and_self, if_true, List.eraseDups_cons, List.length_cons, List.length_nil, List.filter_cons, List.filter_nil, n1, n2, Bool.not_false, bne_self_eq_false]
  rw [if_neg (by decide), if_neg (by
    rw [Bool.not_eq_true, List.any_eq_false]
    intro e he
    have hs : isStar e = false := by
      rcases List.mem_cons.mp he with rfl | he
      · exact sa
      · rw [List.mem_singleton.mp he]; exact sb
    cases e <;> first | (intro z; cases z; done) | (cases hs; done)), if_neg (by decide), if_neg (by decide), if_neg (by decide)]
theorem swapped3 {x y w : Str} {px py pw pt : Pos} {kt k2 : Nat} {pt2 : Pos} {a b c : Expr} {env : PySem.Env} (hk : env.scope.kind = .function) (hx : env.scope.names.lookup x = some .local) (hy : env.scope.names.lookup y = some .local) (hw : env.scope.names.lookup w = some .local) (hl : py.line = px.line) (hl2 : pw.line = px.line) (hxy : x ≠ y) (hxw : x ≠ w) (hyw : y ≠ w) (sa : isStar a = false) (sb : isStar b = false) (sc : isStar c = false)
    (h1 : [a, b, c].all (foldedForSure 8) = false) (h2 : [a, b, c].all (constantsAlone 8) = false) : swappedStores [.Tuple [.Name x px, .Name y py, .Name w pw] kt pt] (.Tuple [a, b, c] k2 pt2) env = pure (some [x, y, w]) := by
  have kx : env.kindOf x = some .local := hx
  have ky : env.kindOf y = some .local := hy
  have kw : env.kindOf w = some .local := hw
  have hb : env.blockKind = .function := by unfold Env.blockKind; rw [hk]; rfl
  have ne : ∀ {p q : Str}, p ≠ q → (p == q) = false := fun h => by rw [beq_eq_false_iff_ne]; exact h
  have n1 := ne hxy
  have n2 := ne hxw
  have n3 := ne hyw
  have n4 := ne hxy.symm
  have n5 := ne hxw.symm
  have n6 := ne hyw.symm
  unfold swappedStores
  simp only [hb, kx, ky, kw, h1, h2, hl, hl2, Expr.pos, List.head?_cons, Option.map_some, Option.getD_some, List.filterMap_cons, List.filterMap_nil, beq_self_eq_true, Bool.and_self, if_true, List.eraseDups_cons, List.length_cons, List.length_nil, List.filter_cons, List.filter_nil, n1, n2, n3, n4, n5, n6, Bool.not_false, bne_self_eq_false]
  rw [if_neg (by decide), if_neg (by
    rw [Bool.not_eq_true, List.any_eq_false]
    intro e he
    have hs : isStar e = false := by
      rcases List.mem_cons.mp he with rfl | he
      · exact sa
      · rcases List.mem_cons.mp he with rfl | he
        · exact sb
        · rw [List.mem_singleton.mp he]; exact sc
    cases e <;> first | (intro z; cases z; done) | (cases hs; done)), if_neg (by decide), if_neg (by decide), if_neg (by decide)]
section
variable {U : Sd} {T : Tb} {lv : Nat} {md : Md} {N : List Str} {sc scope : Scope} {X : Cx} {e a b c : E} {x y z w elt : Expr} {es as kv : List E} {xs ys fs : List Expr} {pos p p2 p3 : Pos} {δ δ1 δ' : TL.Env} {cs ct cb : List C} {ss st sb : List Stmt}
theorem nm_ne {i j : Nat} {n m : Str} (hn : N[i]? = some n) (hm : N[j]? = some m) (hd : N.Nodup) (hij : i ≠ j) : n ≠ m := fun z => by
  subst z
  exact hij (nodup_ix hd hn hm)
theorem parB_len : ∀ {is : List Nat} {xs : List Expr} {l : Nat}, parB N sc is xs l = true → is.length = xs.length
  | [], [], _, _ => rfl
  | [], _ :: _, _, h => by cases h
  | _ :: _, [], _, h => by cases h
  | i :: is, x :: xs, l, h => by
    have h' := h
    unfold parB at h'
    rw [Bool.and_eq_true] at h'
    simp [parB_len h'.2]
theorem c_par {is : List Nat} {kt k2 : Nat} {pt pt2 : Pos} (hk : sc.kind = .function) (h0 : okC N sc (.par is es) (.Assign [.Tuple xs kt pt] (.Tuple ys k2 pt2) pos) = true) (ha : A2 (SE U T lv md N sc) es ys) : SC U T lv md N sc (.par is es) (.Assign [.Tuple xs kt pt] (.Tuple ys k2 pt2) pos) := fun X ok hfn hN hs δ o h B M W σ H Dn sv po => by
  have h' : (parB N sc is xs ((xs.head?.map (·.pos.line)).getD 0) && (okEs N sc es ys && (decide (ys.length = xs.length) && ((decide (xs.length = 2) || decide (xs.length = 3)) && (decide is.Nodup && (!ys.all (foldedForSure 8) && !ys.all (constantsAlone 8))))))) = true := h0
  simp only [Bool.and_eq_true, Bool.or_eq_true, decide_eq_true_eq, Bool.not_eq_true'] at h'
  obtain ⟨h1, _, h2, h3, h4, h5, h6⟩ := h'
  have hst := okEs_of ha
  have hnd := ok.nd
  rw [hN] at hnd
  have hev : (∃ v δ1, evs U.G T md es δ = some (.inr v, δ1) ∧ o = .xc v δ1) ∨ ∃ ds δ1, evs U.G T md es δ = some (.inl ds, δ1) ∧ is.any (isOwn δ1) = false ∧ o = .nx (setAll δ1 is ds) := by
    simp only [evC] at h
    split at h
    · rename_i v δ1 hv; cases h; exact .inl ⟨v, δ1, hv, rfl⟩
    · rename_i ds δ1 hv
      split at h
      · cases h
      · rename_i hno; cases h; exact .inr ⟨ds, δ1, hv, by simpa using hno, rfl⟩
    · cases h
  have nown : ∀ {δ1 : TL.Env} {i : Nat}, is.any (isOwn δ1) = false → i ∈ is → ∀ oc, δ1[i]? ≠ some (some (.own oc)) := fun hno hi => not_own (List.any_eq_false.mp hno _ hi)
  have setne : ∀ {δ1 : TL.Env} {i j : Nat} {d : D}, i ≠ j → (∀ oc, δ1[j]? ≠ some (some (.own oc))) → ∀ oc, (δ1.set i (some (.im d)))[j]? ≠ some (some (.own oc)) := fun hij hn oc => by
    rw [List.getElem?_set_ne hij]; exact hn oc
  rcases h3 with h3 | h3
  · obtain ⟨x1, x2, rfl⟩ := two_of h3
    obtain ⟨y1, y2, rfl⟩ := two_of (h2.trans h3)
    obtain ⟨i, j, rfl⟩ := two_of ((parB_len h1).trans h3)
    · skip
      simp only [parB, Bool.and_true, Bool.and_eq_true] at h1
      obtain ⟨q1, q2⟩ := h1
      cases x1 <;> first | (cases q1; done) | skip
      cases x2 <;> first | (cases q2; done) | skip
      rename_i n1 p1 n2 p2
      simp only [Bool.and_eq_true, decide_eq_true_eq, locB, List.head?_cons, Option.map_some, Option.getD_some, Expr.pos] at q1 q2
      have hij : i ≠ j := by
        intro z; subst z; simp at h4
      have hw := swapped2 (px := p1) (py := p2) (pt := pt) (kt := kt) (k2 := k2) (pt2 := pt2) (env := X.env) (by rw [hs]; exact hk) (by rw [hs]; exact q1.2.1) (by rw [hs]; exact q2.2.1) (of_decide_eq_true q2.2.2) (nm_ne q1.1 q2.1 hnd hij) (hst y1 (by simp)) (hst y2 (by simp)) h5 h6
      refine wS_of (ps_par ok.calm ok.nd (by rw [hN]; exact q1.1) (by rw [hN]; exact q2.1) hij (by rw [hs]; exact q1.2.1) (by rw [hs]; exact q2.2.1) pa_w hw (by unfold swapsWithSole; rfl)) ?_
      rcases hev with ⟨v, δ1, hv, rfl⟩ | ⟨ds, δ1, hv, hno, rfl⟩
      · obtain ⟨Wx, tk, k⟩ := po
        have j : JXA X [y1, y2] δ v δ1 := s_args ok hN hs ha hv
        exact j M W σ H _ sv.good sv.env (sv.kx (evs_sh es hv) tk k)
      · have ta : TA X [y1, y2] δ ds δ1 := s_args ok hN hs ha hv
        have hl : ds.length = 2 := by rw [evs_len hv, ha.len]; rfl
        obtain ⟨d1, d2, rfl⟩ := two_of hl
        refine ta M W σ H _ sv.good sv.env fun vs H1 s1 r1 => ?_
        obtain ⟨u1, u2, rfl, r1, r2⟩ := reps2 r1
        refine ⟨u1, u2, rfl, po M W _ H1 ?_⟩
        have s2 := sv.step s1 (evs_sh es hv)
        exact (s2.setD (nown hno (by simp)) r1).setD (setne hij (nown hno (by simp))) r2
  · obtain ⟨x1, x2, x3, rfl⟩ := three_of h3
    obtain ⟨y1, y2, y3, rfl⟩ := three_of (h2.trans h3)
    obtain ⟨i, j, l, rfl⟩ := three_of ((parB_len h1).trans h3)
    · skip
      simp only [parB, Bool.and_true, Bool.and_eq_true] at h1
      obtain ⟨q1, q2, q3⟩ := h1
      cases x1 <;> first | (cases q1; done) | skip
      cases x2 <;> first | (cases q2; done) | skip
      cases x3 <;> first | (cases q3; done) | skip
      rename_i n1 p1 n2 p2 n3 p3
      simp only [Bool.and_eq_true, decide_eq_true_eq, locB, List.head?_cons, Option.map_some, Option.getD_some, Expr.pos] at q1 q2 q3
      have hij : i ≠ j := by intro z; subst z; simp at h4
      have hil : i ≠ l := by intro z; subst z; simp at h4
      have hjl : j ≠ l := by intro z; subst z; simp at h4
      have hw := swapped3 (px := p1) (py := p2) (pw := p3) (pt := pt) (kt := kt) (k2 := k2) (pt2 := pt2) (env := X.env) (by rw [hs]; exact hk) (by rw [hs]; exact q1.2.1) (by rw [hs]; exact q2.2.1) (by rw [hs]; exact q3.2.1) (of_decide_eq_true q2.2.2) (of_decide_eq_true q3.2.2) (nm_ne q1.1 q2.1 hnd hij) (nm_ne q1.1 q3.1 hnd hil) (nm_ne q2.1 q3.1 hnd hjl) (hst y1 (by simp)) (hst y2 (by simp)) (hst y3 (by simp)) h5 h6
      refine wS_of (ps_par3 ok.calm ok.nd (by rw [hN]; exact q1.1) (by rw [hN]; exact q2.1) (by rw [hN]; exact q3.1) hij hil hjl (by rw [hs]; exact q1.2.1) (by rw [hs]; exact q2.2.1) (by rw [hs]; exact q3.2.1) pa_w hw (by unfold swapsWithSole; rfl)) ?_
      rcases hev with ⟨v, δ1, hv, rfl⟩ | ⟨ds, δ1, hv, hno, rfl⟩
      · obtain ⟨Wx, tk, k⟩ := po
        have j : JXA X [y1, y2, y3] δ v δ1 := s_args ok hN hs ha hv
        exact j M W σ H _ sv.good sv.env (sv.kx (evs_sh es hv) tk k)
      · have ta : TA X [y1, y2, y3] δ ds δ1 := s_args ok hN hs ha hv
        have hl : ds.length = 3 := by rw [evs_len hv, ha.len]; rfl
        obtain ⟨d1, d2, d3, rfl⟩ := three_of hl
        refine ta M W σ H _ sv.good sv.env fun vs H1 s1 r1 => ?_
        obtain ⟨u1, r, rfl, r1, u2, r', rfl, r2, u3, r'', rfl, r3, e⟩ := r1
        have e : r'' = [] := e
        subst e
        refine ⟨u1, u2, u3, rfl, po M W _ H1 ?_⟩
        have s2 := sv.step s1 (evs_sh es hv)
        exact ((s2.setD (nown hno (by simp)) r1).setD (setne hij (nown hno (by simp))) r2).setD (setne hjl (setne hil (nown hno (by simp)))) r3
end
end RE
set_option Elab.async false
set_option linter.all false
set_option maxRecDepth 100000
set_option autoImplicit false
set_option maxHeartbeats 1000000
/-! REt: every statement; every def; the law's end. -/
namespace RE
open PySem PySem.Spec PyProof.Rows L2 TL
section
variable {U : Sd} {T : Tb} {lv : Nat} {md : Md} {N : List Str} {sc : Scope}
mutual
theorem sC (hk : sc.kind = .function) : ∀ (c : C) {st : Stmt}, okC N sc c st = true → SC U T lv md N sc c st
  | .ret e, st, h => by
    have h' := h
    unfold okC at h'
    split at h'
    · exact c_ret (sE e h')
    · cases h'
  | .retN, st, h => by
    have h' := h
    unfold okC at h'
    split at h'
    · exact c_retN
    · cases h'
  | .exp e, st, h => by
    have h' := h
    unfold okC at h'
    split at h'
    · simp only [Bool.and_eq_true, Bool.not_eq_true'] at h'
      exact c_exp (sE e h'.1) h'.2
    · cases h'
  | .set i e, st, h => by
    have h' := h
    unfold okC at h'
    split at h'
    · rename_i n p y pos
      rw [Bool.and_eq_true, Bool.and_eq_true, Bool.and_eq_true, Bool.or_eq_true] at h'
      obtain ⟨h1, h2, h3, h4⟩ := h'
      have h1 := of_decide_eq_true h1
      have h2 : sc.names.lookup n = some .local ∨ sc.names.lookup n = some .cell := h2.elim (fun z => .inl (of_decide_eq_true z)) (fun z => .inr (of_decide_eq_true z))
      by_cases hl : isLc y = false
      · exact c_set h1 h2 hl (sE e h3)
      · cases y <;> first | (exact absurd rfl hl) | (cases h4; done) | skip
        rename_i elt gens s q
        cases e <;> first | (cases h3; done) | skip
        rename_i g k its ifs e'
        have h3' := h3
        unfold okE at h3'
        split at h3'
        · rename_i elt' t it fs' zz scope' pos' heq
          cases heq
          simp only [Bool.and_eq_true] at h3'
          cases g with
          | one i' => exact c_setLc (nm := n) h (sEs its h3'.2.2.2.2.1) (sEs ifs h3'.2.2.2.2.2.1) (sE e' h3'.2.2.2.2.2.2)
          | tup is =>
            have z := h3'.2.1
            unfold tgtB at z
            dsimp only at z
            split at z <;> cases z
        · cases h3'
    · cases h'
  | .par is es, st, h => by
    have h' := h
    unfold okC at h'
    split at h'
    · rw [Bool.and_eq_true, Bool.and_eq_true] at h'
      exact c_par hk h (sEs es h'.2.1)
    · cases h'
  | .sto k i e, st, h => by
    have h' := h
    unfold okC at h'
    split at h'
    · simp only [Bool.and_eq_true] at h'
      exact c_sto h (sE i h'.2.1) (sE e h'.2.2.1)
    · cases h'
  | .fld k f e, st, h => by
    have h' := h
    unfold okC at h'
    split at h'
    · simp only [Bool.and_eq_true] at h'
      exact c_fld h (sE e h'.2.2.1)
    · cases h'
  | .ifs c a b, st, h => by
    have h' := h
    unfold okC at h'
    split at h'
    · simp only [Bool.and_eq_true] at h'
      exact c_ifs (sE c h'.1) (sB hk a h'.2.1) (sB hk b h'.2.2)
    · cases h'
  | .whl c b, st, h => by
    have h' := h
    unfold okC at h'
    split at h'
    · simp only [Bool.and_eq_true] at h'
      exact c_whl (sE c h'.1) (sB hk b h'.2)
    · cases h'
  | .for_ g k its b, st, h => by
    have h' := h
    unfold okC at h'
    split at h'
    · simp only [Bool.and_eq_true] at h'
      obtain ⟨h1, h2, h3, h4⟩ := h'
      cases g with
      | one i =>
        unfold tgtB at h1
        simp only [tgB, Bool.and_true] at h1
        split at h1
        · simp only [Bool.and_eq_true, decide_eq_true_eq, locB] at h1
          exact c_for h1.1 h1.2 h2 (sEs its h3) (sB hk b h4)
        · cases h1
      | tup is =>
        unfold tgtB at h1
        dsimp only at h1
        split at h1 <;> cases h1
    · cases h'
  | .pass, st, h => by
    have h' := h
    unfold okC at h'
    split at h'
    · exact c_pass
    · cases h'
  | .bad, st, h => fun X ok hfn hN hs δ o h => by cases h
theorem sB (hk : sc.kind = .function) : ∀ (cs : List C) {sts : List Stmt}, okB N sc cs sts = true → SB U T lv md N sc cs sts
  | [], sts, h => by
    cases sts with
    | nil => exact b_nil
    | cons _ _ => cases h
  | c :: cs, sts, h => by
    cases sts with
    | nil => cases h
    | cons s ss =>
      have h' : (okC N sc c s && okB N sc cs ss) = true := h
      simp only [Bool.and_eq_true] at h'
      exact b_cons (sC hk c h'.1) (sB hk cs h'.2)
end
end
/-! ### defs -/
structure Df (U : Sd) (q : Str) (f : Fc) : Prop where
  ex : ∃ (name qual : Str) (params : Arguments) (body : List Stmt) (scope : Scope) (dV kV doc pm cdv ct oc : Value) (an od : Option Addr) (osl : Array (Option Value)), U.fd q = PySem.W.fnOf name qual params body scope dV kV doc pm an cdv ct ∧ U.K.lookup (U.ad q) = some ⟨oc, od, .func (U.fd q), osl⟩ ∧
    PySem.W.codeIn U.K cdv qual = true ∧ FnScope f.N f.ps scope ∧ okB f.N scope f.body body = true
structure Ws (U : Sd) : Prop where
  kk : U.G.K = U.K
  df : ∀ q f, U.G.fns q = some f → Df U q f
  bp : ∀ q f, U.G.fns q = some f → f.po = true → BndP U.K (U.fd q) f.ps
  bn : ∀ q n kn p, U.G.pat q n kn = some p → ∃ f, U.G.fns q = some f ∧ Bnd U.K (U.fd q) f.ps n kn p
  gf : ∀ f q, U.G.glo f = some (.fn q) → U.mg f = some (.ref (U.ad q)) ∧ PySem.W.keepIn U.K (.ref (U.ad q)) = true
  gc : ∀ f A q, U.G.glo f = some (.cls A q) → U.mg f = some (.ref A) ∧ Mk U.K A (U.ad q)
  gv : ∀ n d, U.G.glo n = some (.val d) → ∃ v u, U.mg n = some u ∧ RelV v u ∧ ∀ M H, Rep M H d v
  nb : ∀ b : Bt, U.mg b.nm = none
  nt : ∀ t : Ty, U.mg t.nm = none
  ni : U.mg "isinstance" = none
  nk : U.mg "range" = none ∧ U.mg "zip" = none ∧ U.mg "enumerate" = none
  prop : ∀ A f q, U.G.prop A f = some q → Cls U.K A ∧ ∃ p, PropOf U.K A f p (U.ad q)
  fld : ∀ A f, U.G.fld A f = true → Cls U.K A ∧ NoAttr U.K A f
  meth : ∀ A m q, U.G.meth A m = some q → Cls U.K A ∧ Meth U.K A m (U.ad q)
  own : ∀ A m q, U.G.own A m = some q → ClsO U.K A ∧ PySem.W.findIn U.K (.ref A) m = some (some (.ref (U.ad q))) ∧ PySem.W.isFn U.K (.ref (U.ad q)) = true
  one : ∀ A q, U.G.own A "__eq__" = some q → PySem.W.findIn U.K (.ref A) "__ne__" = some (some (.builtin "object.__ne__"))
  ri : ∀ A op, U.G.ri A op = true → PySem.W.findIn U.K (.ref A) (dunderR op.info.2) = some none ∧ PySem.W.subIn U.K (.type "int") (.ref A) = some false ∧
    ∃ fo ro, PySem.W.findIn U.K (.type "int") (PySem.dunder op.info.2) = some fo ∧ PySem.W.findIn U.K (.type "int") (dunderR op.info.2) = some ro
  isT : ∀ A t b, U.G.isT A t = some b → ClsO U.K A ∧ PySem.W.kitOne U.K (.ref A) (.type (tyS t)) = some b
  isC : ∀ A B b, U.G.isC A B = some b → ClsO U.K A ∧ PySem.W.kitOne U.K (.ref A) (.ref B) = some b
  kT : ∀ t : Ty, PySem.W.kitOne U.K (.type "NoneType") (.type (tyS t)) = some false ∧ PySem.W.kitOne U.K (.type "int") (.type (tyS t)) = some (match t with | .int => true | _ => false) ∧
    PySem.W.kitOne U.K (.type "bool") (.type (tyS t)) = some (match t with | .int => true | .bool => true | _ => false) ∧ PySem.W.kitOne U.K (.type "str") (.type (tyS t)) = some (match t with | .str => true | _ => false) ∧
    PySem.W.kitOne U.K (.type "list") (.type (tyS t)) = some (match t with | .list => true | _ => false) ∧ PySem.W.kitOne U.K (.type "tuple") (.type (tyS t)) = some (match t with | .tuple => true | _ => false)
  kC : ∀ f B q, U.G.glo f = some (.cls B q) → ∀ s : String, s ∈ ["NoneType", "int", "bool", "str", "list", "tuple"] → PySem.W.kitOne U.K (.type s) (.ref B) = some false
  nf : ∀ A d, U.G.nf A d = true → ∃ t, TyD U.K d t ∧ PySem.W.notFirst U.K A t = true
theorem back_im : ∀ {ss : List S} {δ : TL.Env} {ss' : List S}, (∀ s ∈ ss, ∃ d, s = .im d) → backS ss δ = some ss' → ss' = ss
  | [], _, _, _, h => by cases h; rfl
  | s :: r, δ, ss', hi, h => by
    obtain ⟨d, rfl⟩ := hi s (List.mem_cons_self ..)
    cases δ with
    | nil => cases h
    | cons a δ =>
      simp only [backS, Option.map_eq_some_iff] at h
      obtain ⟨t, h1, rfl⟩ := h
      rw [back_im (fun s hs => hi s (List.mem_cons_of_mem _ hs)) h1]
theorem run_inv {G : Gx} {T : Tb} {md : Md} {f : Fc} {ss ss' : List S} {r : Rz} (h : runF G T md f ss = some (r, ss')) : ss.length = f.ps.length ∧ ∃ o δ', evB G T md f.body (env0 f.N ss) = some o ∧ backS ss δ' = some ss' ∧ ((o = .rt r δ' ∧ ∀ x, r ≠ .ex x) ∨ (o = .nx δ' ∧ r = .im .non) ∨ ∃ x, o = .xc x δ' ∧ r = .ex x) := by
  obtain ⟨h1, h2⟩ := req_some h
  refine ⟨h1, ?_⟩
  split at h2
  · cases h2
  · rename_i r' δ hnx h3
    obtain ⟨t, h4, e⟩ := Option.map_eq_some_iff.mp h2
    cases e
    exact ⟨_, δ, h3, h4, .inl ⟨rfl, fun x z => hnx x (by rw [z])⟩⟩
  · rename_i δ h3
    obtain ⟨t, h4, e⟩ := Option.map_eq_some_iff.mp h2
    cases e
    exact ⟨_, δ, h3, h4, .inr (.inl ⟨rfl, rfl⟩)⟩
  · rename_i x δ h3
    obtain ⟨t, h4, e⟩ := Option.map_eq_some_iff.mp h2
    cases e
    exact ⟨_, δ, h3, h4, .inr (.inr ⟨x, rfl, rfl⟩)⟩
  · cases h2
theorem tn_inv {G : Gx} {k : Nat} {md : Md} {q : Str} {f : Fc} {ss ss' : List S} {r : Rz} (hf : G.fns q = some f) (h : Tn G (k + 1) md q ss = some (r, ss')) : runF G (Tn G k) md f ss = some (r, ss') := by
  simp only [Tn, hf, Option.bind_some] at h
  exact h
theorem Wd.of {U : Sd} (s : Ws U) (k : Nat) (h : ∀ q f, U.G.fns q = some f → FnX U.P U.w U.K U.mg U.base (Tn U.G k) (6 * k) q (U.ad q) (U.fd q) f.ps) : Wd U (Tn U.G k) (6 * k) := by
  refine ⟨s.kk, h, fun md q f ss ss' r hf hT => ?_, fun md q f ss ss' r hf hT hi => ?_, s.bp, s.bn, s.gf, s.gc, s.gv, s.nb, s.nt, s.ni, s.nk, s.prop, s.fld, s.meth, s.own, s.one, s.ri, s.isT, s.isC, s.kT, s.kC, s.nf⟩
  · cases k with
    | zero => cases hT
    | succ k => exact (run_inv (tn_inv hf hT)).1
  · cases k with
    | zero => cases hT
    | succ k =>
      obtain ⟨_, o, δ', _, hb, _⟩ := run_inv (tn_inv hf hT)
      exact back_im hi hb
theorem wd_all {U : Sd} (s : Ws U) : ∀ k, Wd U (Tn U.G k) (6 * k)
  | 0 => Wd.of s 0 fun q f hf => ⟨fun md A outer s H args us vs Q Ex _ _ _ _ _ _ _ ⟨_, _, _, _, _, z, _⟩ => by cases z⟩
  | k + 1 => Wd.of s (k + 1) fun q f hf => by
    have ih := wd_all s k
    obtain ⟨name, qual, params, body, scope, dV, kV, doc, pm, cdv, ct, oc, an, od, osl, e1, e2, e3, e4, e5⟩ := (s.df q f hf).ex
    rw [e1] at e2 ⊢
    refine fn_runX (k := 6 * k + 5) e2 e3 e4 fun md A outer sh H Ex ss r ss' hr hcm hg hT hl => ?_
    obtain ⟨_, o, δ', h1, h2, h3⟩ := run_inv (tn_inv hf hT)
    refine ⟨o, δ', ?_, fin_of h2, h3⟩
    exact sB e4.kind f.body e5 _ ⟨ih, rfl, rfl, rfl, rfl, rfl, e4.nd, hr.mono (by omega), hcm, rfl, hg, passes_of rfl⟩ (fun _ => rfl) rfl rfl _ o h1
/-- the law keeps its promise -/
theorem law_K {U : Sd} (s : Ws U) (k : Nat) {f : Fc} (hf : U.G.fns "law" = some f) : FnK U.P U.w U.K U.mg U.base (6 * k) (U.ad "law") (U.fd "law") f.ps (RX (Tn U.G k) ⟨true, true⟩ "law") :=
  ((wd_all s k).fnx "law" f hf).toK rfl
end RE
set_option Elab.async false
set_option linter.all false
set_option autoImplicit false
set_option maxHeartbeats 4000000
/-! MA: the plain mathematics of fractions in lowest terms, and of the purse. -/
namespace MA
theorem gcd_step {x y : Int} (hx : 0 ≤ x) (hy : 0 < y) : Int.gcd y (x % y) = Int.gcd x y := by
  obtain ⟨m, rfl⟩ := Int.eq_ofNat_of_zero_le hx
  obtain ⟨n, rfl⟩ := Int.eq_ofNat_of_zero_le (Int.le_of_lt hy)
  show Nat.gcd (Int.natAbs (n : Int)) (Int.natAbs ((m : Int) % (n : Int))) = Nat.gcd (Int.natAbs (m : Int)) (Int.natAbs (n : Int))
  rw [← Int.natCast_emod, Int.natAbs_natCast, Int.natAbs_natCast, Int.natAbs_natCast, Nat.gcd_comm n, ← Nat.gcd_rec, Nat.gcd_comm]
/-- the common divisor, with the sign of the bottom -/
def sh (t b : Int) : Int := if b > 0 then (Int.gcd t b : Int) else -(Int.gcd t b : Int)
def lN (t b : Int) : Int := t.fdiv (sh t b)
def lD (t b : Int) : Int := b.fdiv (sh t b)
theorem gcd_pos {t b : Int} (hb : b ≠ 0) : 0 < (Int.gcd t b : Int) := by
  have : Int.gcd t b ≠ 0 := fun h => hb (Int.gcd_eq_zero_iff.mp h).2
  omega
theorem sh_ne {t b : Int} (hb : b ≠ 0) : sh t b ≠ 0 := by
  have := gcd_pos (t := t) hb
  unfold sh
  split <;> omega
theorem sh_dvd_t (t b : Int) : sh t b ∣ t := by
  unfold sh
  split
  · exact Int.gcd_dvd_left ..
  · exact Int.neg_dvd.mpr (Int.gcd_dvd_left ..)
theorem sh_dvd_b (t b : Int) : sh t b ∣ b := by
  unfold sh
  split
  · exact Int.gcd_dvd_right ..
  · exact Int.neg_dvd.mpr (Int.gcd_dvd_right ..)
theorem lN_mul {t b : Int} : lN t b * sh t b = t := by
  unfold lN
  exact Int.fdiv_mul_cancel (sh_dvd_t t b)
theorem lD_mul {t b : Int} : lD t b * sh t b = b := by
  unfold lD
  exact Int.fdiv_mul_cancel (sh_dvd_b t b)
theorem lD_pos {t b : Int} (hb : b ≠ 0) : 0 < lD t b := by
  have h := lD_mul (t := t) (b := b)
  have hg := gcd_pos (t := t) hb
  unfold sh at h
  split at h
  · rename_i h0
    rcases Int.lt_trichotomy (lD t b) 0 with z | z | z
    · have : lD t b * (Int.gcd t b : Int) < 0 := Int.mul_neg_of_neg_of_pos z hg
      omega
    · rw [z] at h; omega
    · exact z
  · rename_i h0
    rcases Int.lt_trichotomy (lD t b) 0 with z | z | z
    · have : 0 < lD t b * -(Int.gcd t b : Int) := Int.mul_pos_of_neg_of_neg z (by omega)
      omega
    · rw [z] at h; omega
    · exact z
theorem l_cross {t b : Int} : lN t b * b = t * lD t b := by
  have h1 := lN_mul (t := t) (b := b)
  have h2 := lD_mul (t := t) (b := b)
  generalize sh t b = s at *
  rw [← h1, ← h2]
  grind
theorem natAbs_sh (t b : Int) : (sh t b).natAbs = Int.gcd t b := by
  unfold sh
  split <;> simp
theorem l_coprime {t b : Int} (hb : b ≠ 0) : Int.gcd (lN t b) (lD t b) = 1 := by
  have h1 := lN_mul (t := t) (b := b)
  have h2 := lD_mul (t := t) (b := b)
  have hg := gcd_pos (t := t) hb
  have : Int.gcd (lN t b * sh t b) (lD t b * sh t b) = Int.gcd (lN t b) (lD t b) * (sh t b).natAbs := Int.gcd_mul_right ..
  rw [h1, h2, natAbs_sh] at this
  have h3 : 0 < Int.gcd t b := by omega
  have h4 : 1 * Int.gcd t b = Int.gcd (lN t b) (lD t b) * Int.gcd t b := by rw [Nat.one_mul]; exact this
  exact (Nat.eq_of_mul_eq_mul_right h3 h4).symm
/-- fractions that are equal have one lowest form -/
theorem cop_uniq {n d m e : Int} (hd : 0 < d) (he : 0 < e) (h1 : Int.gcd n d = 1) (h2 : Int.gcd m e = 1) (h : n * e = m * d) : n = m ∧ d = e := by
  have a1 : d ∣ n * e := ⟨m, by rw [h]; exact Int.mul_comm ..⟩
  have a2 : e ∣ m * d := ⟨n, by rw [← h]; exact Int.mul_comm ..⟩
  have b1 : d ∣ e := by
    refine Int.natAbs_dvd_natAbs.mp (Nat.Coprime.dvd_of_dvd_mul_left (m := n.natAbs) ?_ ?_)
    · rw [Nat.coprime_comm]; exact h1
    · rw [← Int.natAbs_mul]; exact Int.natAbs_dvd_natAbs.mpr a1
  have b2 : e ∣ d := by
    refine Int.natAbs_dvd_natAbs.mp (Nat.Coprime.dvd_of_dvd_mul_left (m := m.natAbs) ?_ ?_)
    · rw [Nat.coprime_comm]; exact h2
    · rw [← Int.natAbs_mul]; exact Int.natAbs_dvd_natAbs.mpr a2
  have hde : d = e := Int.dvd_antisymm (Int.le_of_lt hd) (Int.le_of_lt he) b1 b2
  subst hde
  exact ⟨Int.eq_of_mul_eq_mul_right (Int.ne_of_gt hd) h, rfl⟩
theorem l_eq {t b u c : Int} (hb : b ≠ 0) (hc : c ≠ 0) (h : t * c = u * b) : lN t b = lN u c ∧ lD t b = lD u c := by
  refine cop_uniq (lD_pos hb) (lD_pos hc) (l_coprime hb) (l_coprime hc) ?_
  have h1 := lN_mul (t := t) (b := b)
  have h2 := lD_mul (t := t) (b := b)
  have h3 := lN_mul (t := u) (b := c)
  have h4 := lD_mul (t := u) (b := c)
  have hs := sh_ne (t := t) hb
  have hs' := sh_ne (t := u) hc
  generalize sh t b = s at *
  generalize sh u c = s' at *
  rw [← h1, ← h2, ← h3, ← h4] at h
  have : (lN t b * lD u c) * (s * s') = (lN u c * lD t b) * (s * s') := by grind
  exact Int.eq_of_mul_eq_mul_right (Int.mul_ne_zero hs hs') this
/-- what is in lowest terms stays -/
theorem l_self {n d : Int} (hd : 0 < d) (h : Int.gcd n d = 1) : lN n d = n ∧ lD n d = d := by
  have : sh n d = 1 := by unfold sh; rw [if_pos hd, h]; rfl
  unfold lN lD
  rw [this]
  simp
theorem l_int (n : Int) : lN n 1 = n ∧ lD n 1 = 1 := l_self (by decide) (by simp)
theorem fdiv_abs_le (a b : Int) (h : b ∣ a) : (a.fdiv b).natAbs ≤ a.natAbs := by
  by_cases hb : b = 0
  · subst hb; simp
  · have h1 := Int.fdiv_mul_cancel h
    have h2 : (a.fdiv b).natAbs * b.natAbs = a.natAbs := by rw [← Int.natAbs_mul, h1]
    have h3 : 1 ≤ b.natAbs := by omega
    calc (a.fdiv b).natAbs = (a.fdiv b).natAbs * 1 := by omega
      _ ≤ (a.fdiv b).natAbs * b.natAbs := Nat.mul_le_mul_left _ h3
      _ = a.natAbs := h2
theorem lN_le (t b : Int) : (lN t b).natAbs ≤ t.natAbs := fdiv_abs_le _ _ (sh_dvd_t t b)
theorem lD_le (t b : Int) : (lD t b).natAbs ≤ b.natAbs := fdiv_abs_le _ _ (sh_dvd_b t b)
theorem sh_le {t b : Int} (hb : b ≠ 0) : (sh t b).natAbs ≤ b.natAbs := by
  rw [natAbs_sh]
  exact Nat.le_of_dvd (by omega) (by have := Int.natAbs_dvd_natAbs.mpr (Int.gcd_dvd_right t b); simpa using this)
end MA
set_option Elab.async false
set_option linter.all false
set_option autoImplicit false
set_option maxHeartbeats 4000000
/-! PU: the purse, in plain Lean. -/
namespace PU
structure Pu where
  cells : List Int
  i : Int
  r : Int
  t : Int
def primes : List Int := [1000003, 1299709, 2750159, 3497861, 4256233, 5800079, 6700417, 7368787, 8460041, 9576901, 15485863]
def cs (p : Pu) : List Int := if p.cells = [] then [0] else p.cells
def ix (p : Pu) : Nat := (p.i % ((cs p).length : Int)).toNat
def cell (p : Pu) : Int := (cs p).getD (ix p) 0
def pr (t : Int) : Int := primes.getD (t % 11).toNat 1
def b1 (c t : Int) : Int := ((c + 1) * 48271 + (t + 1) * (t + 7) * 69621) % pr t
def b2 (c t : Int) : Int := (b1 c t ^ 3 + t * 40503) % 2147483647
def draw (p : Pu) (m : Int) : Int × Pu :=
  if 0 < p.r then (p.r % m, { p with r := p.r / m })
  else if (10 : Int) ^ 18 ≤ cell p then (cell p % m, { p with i := p.i + 1, r := cell p / m })
  else (b2 (cell p) p.t / 32 % m, { p with i := p.i + 1, t := p.t + 1 })
structure Ok (n : Nat) (p : Pu) : Prop where
  i0 : 0 ≤ p.i
  t0 : 0 ≤ p.t
  tn : p.t ≤ n
  c0 : ∀ c ∈ p.cells, 0 ≤ c
theorem cs_pos (p : Pu) : 0 < (cs p).length := by
  unfold cs
  split
  · decide
  · rename_i h; exact List.length_pos_iff.mpr h
theorem ix_lt (p : Pu) : ix p < (cs p).length := by
  have h := cs_pos p
  unfold ix
  have h1 := Int.emod_lt_of_pos p.i (b := ((cs p).length : Int)) (by omega)
  have h2 := Int.emod_nonneg p.i (b := ((cs p).length : Int)) (by omega)
  omega
theorem ix_eq (p : Pu) : ((ix p : Nat) : Int) = p.i % ((cs p).length : Int) := by
  have h := cs_pos p
  have h2 := Int.emod_nonneg p.i (b := ((cs p).length : Int)) (by omega)
  unfold ix
  omega
theorem cell_get (p : Pu) : (cs p)[ix p]? = some (cell p) := by
  have h := ix_lt p
  unfold cell
  rw [List.getD_eq_getElem?_getD, List.getElem?_eq_getElem h]
  rfl
theorem Ok.cell {n : Nat} {p : Pu} (h : Ok n p) : 0 ≤ cell p := by
  have := List.mem_of_getElem? (cell_get p)
  unfold cs at this
  split at this
  · simp at this; omega
  · exact h.c0 _ this
theorem pr_get {t : Int} (h : 0 ≤ t) : primes[(t % 11).toNat]? = some (pr t) := by
  have h1 := Int.emod_lt_of_pos t (b := 11) (by decide)
  have h2 := Int.emod_nonneg t (b := 11) (by decide)
  have hl : (t % 11).toNat < primes.length := by show _ < 11; omega
  unfold pr
  rw [List.getD_eq_getElem?_getD, List.getElem?_eq_getElem hl]
  rfl
theorem pr_pos {t : Int} (h : 0 ≤ t) : 0 < pr t ∧ pr t < 2 ^ 24 := by
  have hm := List.mem_of_getElem? (pr_get h)
  have : ∀ x ∈ primes, 0 < x ∧ x < 2 ^ 24 := by decide
  exact this _ hm
theorem b1_bd {c t : Int} (h : 0 ≤ t) : 0 ≤ b1 c t ∧ b1 c t < 2 ^ 24 := by
  have := pr_pos h
  unfold b1
  have h1 := Int.emod_nonneg ((c + 1) * 48271 + (t + 1) * (t + 7) * 69621) (b := pr t) (by omega)
  have h2 := Int.emod_lt_of_pos ((c + 1) * 48271 + (t + 1) * (t + 7) * 69621) (b := pr t) (by omega)
  omega
theorem b2_bd (c t : Int) : 0 ≤ b2 c t ∧ b2 c t < 2147483647 := by
  unfold b2
  have h1 := Int.emod_nonneg (b1 c t ^ 3 + t * 40503) (b := 2147483647) (by omega)
  have h2 := Int.emod_lt_of_pos (b1 c t ^ 3 + t * 40503) (b := 2147483647) (by omega)
  omega
theorem draw_ok {n : Nat} {p : Pu} {m : Int} (h : Ok n p) : Ok (n + 1) (draw p m).2 := by
  unfold draw
  have h1 := h.i0
  have h2 := h.t0
  have h3 := h.tn
  split
  · exact ⟨h1, h2, by show p.t ≤ _; omega, h.c0⟩
  · split
    · exact ⟨by show 0 ≤ p.i + 1; omega, h2, by show p.t ≤ _; omega, h.c0⟩
    · exact ⟨by show 0 ≤ p.i + 1; omega, by show 0 ≤ p.t + 1; omega, by show p.t + 1 ≤ _; omega, h.c0⟩
theorem draw_bd {p : Pu} {m : Int} (hm : 0 < m) : 0 ≤ (draw p m).1 ∧ (draw p m).1 < m := by
  unfold draw
  split
  · exact ⟨Int.emod_nonneg _ (by omega), Int.emod_lt_of_pos _ hm⟩
  · split
    · exact ⟨Int.emod_nonneg _ (by omega), Int.emod_lt_of_pos _ hm⟩
    · exact ⟨Int.emod_nonneg _ (by omega), Int.emod_lt_of_pos _ hm⟩
end PU
set_option Elab.async false
set_option linter.all false
set_option maxRecDepth 100000
set_option autoImplicit false
set_option maxHeartbeats 1000000
/-! RA: class Ratio and its helpers, read. -/
namespace RE
open PySem L2 TL MA
def cIsInteger : Fc := { ps := ["value"], N := ["value"], po := true, body := [.ret (.bop true [.isT (.var 0) .int, .nt (.isT (.var 0) .bool)])] }
def cCommon : Fc := { ps := ["one", "two"], N := ["one", "two", "high", "low"], po := true, body := [.par [2, 3] [.blt .abs [.var 0], .blt .abs [.var 1]],
    .whl (.cmp .Gt (.var 3) (.int 0)) [.par [2, 3] [.var 3, .bin .Mod (.var 2) (.var 3)]],
    .ret (.var 2)] }
def cRatioInit : Fc := { ps := ["self", "top", "bottom"], N := ["self", "top", "bottom", "shared"], po := true, body := [.ifs (.nt (.call "is_integer" [.var 1] [] [])) [.bad] [],
    .ifs (.bop false [.nt (.call "is_integer" [.var 2] [] []), .cmp .Eq (.var 2) (.int 0)]) [.bad] [],
    .set 3 (.ifx (.cmp .Gt (.var 2) (.int 0)) (.call "common" [.var 1, .var 2] [] []) (.neg (.call "common" [.var 1, .var 2] [] []))),
    .fld 0 "numerator_here" (.bin .FloorDiv (.var 1) (.var 3)),
    .fld 0 "denominator_here" (.bin .FloorDiv (.var 2) (.var 3))] }
def cRatioTop : Fc := { ps := ["self"], N := ["self"], po := true, body := [.ret (.att (.var 0) "numerator_here")] }
def cRatioBottom : Fc := { ps := ["self"], N := ["self"], po := true, body := [.ret (.att (.var 0) "denominator_here")] }
def cRatioEq : Fc := { ps := ["self", "other"], N := ["self", "other"], po := true, body := [.ret (.bop true [.isC (.var 1) "Ratio", .cmp .Eq (.att (.var 0) "top") (.att (.var 1) "top"), .cmp .Eq (.att (.var 0) "bottom") (.att (.var 1) "bottom")])] }
def cRatioBool : Fc := { ps := ["self"], N := ["self"], po := true, body := [.ret (.blt .bool [.att (.var 0) "top"])] }
def cRatioStr : Fc := { ps := ["self"], N := ["self"], po := true, body := [.ifs (.cmp .Eq (.att (.var 0) "bottom") (.int 1)) [.ret (.fst [.fmt (.att (.var 0) "top")])] [],
    .ret (.fst [.fmt (.att (.var 0) "top"), .str "/", .fmt (.att (.var 0) "bottom")])] }
def cRatioRepr : Fc := { ps := ["self"], N := ["self"], po := true, body := [.ret (.fst [.str "Ratio(", .fmt (.att (.var 0) "top"), .str ", ", .fmt (.att (.var 0) "bottom"), .str ")"])] }
/-- a def run -/
theorem tn_run {G : Gx} {k : Nat} {md : Md} {q : Str} {f : Fc} {ss : List S} (hf : G.fns q = some f) (hl : ss.length = f.ps.length) : Tn G (k + 1) md q ss = match evB G (Tn G k) md f.body (env0 f.N ss) with
    | some (.rt (.ex _) _) => none
    | some (.rt r δ) => (backS ss δ).map (r, ·)
    | some (.nx δ) => (backS ss δ).map (.im .non, ·)
    | some (.xc x δ) => (backS ss δ).map (.ex x, ·)
    | _ => none := by
  show (G.fns q).bind (fun f => runF G (Tn G k) md f ss) = _
  rw [hf]
  exact req_pos hl
theorem whl_nat {c : TL.Env → Option (Rz × TL.Env)} {b : TL.Env → Option Ou} {α : Type} (I : α → TL.Env) (J : α → Prop) (μ : α → Nat) (fin : α → TL.Env)
    (hs : ∀ x, J x → (c (I x) = some (.im (.bl false), I x) ∧ fin x = I x) ∨ ∃ y, c (I x) = some (.im (.bl true), I x) ∧ b (I x) = some (.nx (I y)) ∧ J y ∧ μ y < μ x ∧ fin x = fin y) : ∀ (n : Nat) (x : α), J x → μ x < n → whlGo c b n (I x) = some (.nx (fin x))
  | 0, x, _, h => by omega
  | n + 1, x, j, h => by
    rcases hs x j with ⟨h1, h2⟩ | ⟨y, h1, h2, jy, hm, hf⟩
    · simp only [whlGo, h1, h2]
    · simp only [whlGo, h1, h2, hf]
      exact whl_nat I J μ fin hs n y jy (by omega)
theorem evB_nx {G : Gx} {T : Tb} {md : Md} {c : C} {cs : List C} {δ δ1 : TL.Env} (h : evC G T md c δ = some (.nx δ1)) : evB G T md (c :: cs) δ = evB G T md cs δ1 := by
  simp only [evB, h]
theorem evB_rt {G : Gx} {T : Tb} {md : Md} {c : C} {cs : List C} {δ δ1 : TL.Env} {r : Rz} (h : evC G T md c δ = some (.rt r δ1)) : evB G T md (c :: cs) δ = some (.rt r δ1) := by
  simp only [evB, h]
theorem turns_big {b : Nat} (h : b < 2 ^ 9000) : b < turns := by
  unfold turns
  exact Nat.lt_of_lt_of_le h (Nat.pow_le_pow_right (by omega) (by omega))
theorem evC_whl {G : Gx} {T : Tb} {md : Md} {c : E} {b : List C} {δ : TL.Env} : evC G T md (.whl c b) δ = whlGo (ee G T md true c) (evB G T md b) turns δ := by simp only [evC]
theorem isInt_ok {G : Gx} (hf : G.fns "is_integer" = some cIsInteger) (k : Nat) (md : Md) (i : Int) : Tn G (k + 1) md "is_integer" [.im (.int i)] = some (.im (.bl true), [.im (.int i)]) := by
  rw [tn_run hf rfl]
  simp [cIsInteger, env0, evB, evC, ee, ebs, isTD, bB, bR, fin, backS, Rz.d]
/-- both loops for the greatest common divisor -/
theorem gcd_loop {G : Gx} {T : Tb} {md : Md} {e : E} (he : ∀ (δ : TL.Env) (a b : Int), 0 < b → δ[2]? = some (some (.im (.int a))) → δ[3]? = some (some (.im (.int b))) → ee G T md false e δ = some (.im (.int (a % b)), δ)) (x y : S) (a b : Nat) (hb : b < 2 ^ 9000) :
    whlGo (ee G T md true (.cmp .Gt (.var 3) (.int 0))) (evB G T md [.par [2, 3] [.var 3, e]]) turns [some x, some y, some (.im (.int (a : Int))), some (.im (.int (b : Int)))] = some (.nx [some x, some y, some (.im (.int (Nat.gcd a b : Int))), some (.im (.int 0))]) := by
  refine whl_nat (α := Nat × Nat) (fun z => [some x, some y, some (.im (.int (z.1 : Int))), some (.im (.int (z.2 : Int)))]) (fun _ => True) (fun z => z.2) (fun z => [some x, some y, some (.im (.int (Nat.gcd z.1 z.2 : Int))), some (.im (.int 0))]) (fun z _ => ?_) turns (a, b) trivial (turns_big hb)
  obtain ⟨a, b⟩ := z
  by_cases hb : b = 0
  · subst hb
    left
    simp [ee, cmpD, bR, fin, truD]
  · right
    have hb' : 0 < b := by omega
    refine ⟨(b, a % b), ?_, ?_, trivial, Nat.mod_lt _ hb', ?_⟩
    · simp [ee, cmpD, bR, fin, truD, hb']
    · have h1 := he [some x, some y, some (.im (.int (a : Int))), some (.im (.int (b : Int)))] a b (by omega) rfl rfl
      have h2 : ee G T md false (.var 3) [some x, some y, some (.im (.int (a : Int))), some (.im (.int (b : Int)))] = some (.im (.int b), [some x, some y, some (.im (.int (a : Int))), some (.im (.int (b : Int)))]) := rfl
      simp only [evB, evC, evs, h2, h1, bR]
      simp [isOwn, setAll]
    · have : Nat.gcd b (a % b) = Nat.gcd a b := by rw [Nat.gcd_comm b, ← Nat.gcd_rec, Nat.gcd_comm]
      simp only [this]
theorem abs_if (i : Int) : (if i < 0 then -i else i) = (i.natAbs : Int) := by split <;> omega
theorem common_ok {G : Gx} (hf : G.fns "common" = some cCommon) (k : Nat) (md : Md) (i j : Int) (hj : j.natAbs < 2 ^ 9000) : Tn G (k + 1) md "common" [.im (.int i), .im (.int j)] = some (.im (.int (Int.gcd i j : Int)), [.im (.int i), .im (.int j)]) := by
  rw [tn_run hf rfl]
  have key := gcd_loop (G := G) (T := Tn G k) (md := md) (e := .bin .Mod (.var 2) (.var 3)) (fun δ a b hb h2 h3 => by simp [ee, h2, h3, binD, intOp, bR, fin, req_pos hb]) (.im (.int i)) (.im (.int j)) i.natAbs j.natAbs hj
  have s1 : evC G (Tn G k) md (.par [2, 3] [.blt .abs [.var 0], .blt .abs [.var 1]]) (env0 ["one", "two", "high", "low"] [.im (.int i), .im (.int j)]) = some (.nx [some (.im (.int i)), some (.im (.int j)), some (.im (.int (i.natAbs : Int))), some (.im (.int (j.natAbs : Int)))]) := by
    simp [env0, evC, evs, ee, bltD, bR, bA, fin, isOwn, setAll, abs_if]
  unfold cCommon
  dsimp only
  rw [evB_nx s1, evB_nx (evC_whl.trans key)]
  simp [evB, evC, ee, fin, backS, Int.gcd]
end RE
set_option Elab.async false
set_option linter.all false
set_option maxRecDepth 100000
set_option autoImplicit false
set_option maxHeartbeats 1000000
set_option exponentiation.threshold 20000
/-! RB: class Ratio, read. -/
namespace RE
open PySem L2 TL MA
abbrev nmN : Str := "numerator_here"
abbrev nmD : Str := "denominator_here"
def rat (A : Addr) (n d : Int) : D := .ins A ["numerator_here", "denominator_here"] [.int n, .int d]
structure HRat (G : Gx) (A : Addr) : Prop where
  fII : G.fns "is_integer" = some cIsInteger
  fCO : G.fns "common" = some cCommon
  fIT : G.fns "Ratio.__init__" = some cRatioInit
  fTP : G.fns "Ratio.top" = some cRatioTop
  fBT : G.fns "Ratio.bottom" = some cRatioBottom
  fEQ : G.fns "Ratio.__eq__" = some cRatioEq
  fBO : G.fns "Ratio.__bool__" = some cRatioBool
  fST : G.fns "Ratio.__str__" = some cRatioStr
  fRE : G.fns "Ratio.__repr__" = some cRatioRepr
  gII : G.glo "is_integer" = some (.fn "is_integer")
  gCO : G.glo "common" = some (.fn "common")
  gRA : G.glo "Ratio" = some (.cls A "Ratio.__init__")
  pII : G.pat "is_integer" 1 [] = some [.inl 0]
  pCO : G.pat "common" 2 [] = some [.inl 0, .inl 1]
  rTP : G.prop A "top" = some "Ratio.top"
  rBT : G.prop A "bottom" = some "Ratio.bottom"
  rN : G.prop A "numerator_here" = none
  rD : G.prop A "denominator_here" = none
  flN : G.fld A "numerator_here" = true
  flD : G.fld A "denominator_here" = true
  isC : G.isC A A = some true
  oEQ : G.own A "__eq__" = some "Ratio.__eq__"
  oBO : G.own A "__bool__" = some "Ratio.__bool__"
  oST : G.own A "__str__" = some "Ratio.__str__"
  oRE : G.own A "__repr__" = some "Ratio.__repr__"
theorem bNN : (Str.ofString "numerator_here" == Str.ofString "numerator_here") = true := by decide
theorem bDN : (Str.ofString "denominator_here" == Str.ofString "numerator_here") = false := by decide
theorem bND : (Str.ofString "numerator_here" == Str.ofString "denominator_here") = false := by decide
theorem bDD : (Str.ofString "denominator_here" == Str.ofString "denominator_here") = true := by decide
theorem eND : (Str.ofString "numerator_here" = Str.ofString "denominator_here") = False := by decide
theorem eDN : (Str.ofString "denominator_here" = Str.ofString "numerator_here") = False := by decide
section
variable {G : Gx} {A : Addr} (h : HRat G A) (k : Nat) (md : Md)
include h
theorem log_lt {n : Nat} (hn : n < 2 ^ 9000) : n.log2 < 9000 := by
  by_cases h0 : n = 0
  · subst h0; decide
  · exact (Nat.log2_lt h0).mpr hn
theorem init_ok (t b : Int) (hb : b ≠ 0) (hz : b.natAbs < 2 ^ 9000) : Tn G (k + 2) md "Ratio.__init__" [.own (.ins A [] []), .im (.int t), .im (.int b)] = some (.im .non, [.own (.ins A ["numerator_here", "denominator_here"] [.int (lN t b), .int (lD t b)]), .im (.int t), .im (.int b)]) := by
  have hs : CDiv (sh t b) := ⟨sh_ne hb, log_lt h (Nat.lt_of_le_of_lt (sh_le hb) hz)⟩
  rw [tn_run h.fIT rfl]
  have hco := common_ok h.fCO k md t b hz
  have e1 := isInt_ok h.fII k md t
  have e2 := isInt_ok h.fII k md b
  have e3 : (if 0 < b then some (Rz.im (D.int (Int.gcd t b : Int))) else some (Rz.im (D.int (-(Int.gcd t b : Int))))) = some (Rz.im (D.int (sh t b))) := by
    unfold sh; split <;> rfl
  by_cases hp : 0 < b
  · have hsh : (Int.gcd t b : Int) = sh t b := by unfold sh; rw [if_pos hp]
    simp [cRatioInit, env0, evB, evC, ee, evs, ebs, bB, bR, bA, fin, isCal, gloCall, h.gII, h.gCO, h.pII, h.pCO, argsOf, e1, e2, hco, cmpD, eqD, hb, hp, binD, intOp, hsh, hs, isOwn, truD, negD, req, h.flN, h.flD, putN, putD, eND, eDN, backS, lN, lD]
  · have hsh : -(Int.gcd t b : Int) = sh t b := by unfold sh; rw [if_neg hp]
    simp [cRatioInit, env0, evB, evC, ee, evs, ebs, bB, bR, bA, fin, isCal, gloCall, h.gII, h.gCO, h.pII, h.pCO, argsOf, e1, e2, hco, cmpD, eqD, hb, hp, binD, intOp, hsh, hs, isOwn, truD, negD, req, h.flN, h.flD, putN, putD, eND, eDN, backS, lN, lD]
theorem make_ok (t b : Int) (hb : b ≠ 0) (hz : b.natAbs < 2 ^ 9000) : makeD (Tn G (k + 2)) md A "Ratio.__init__" [.int t, .int b] = some (.im (rat A (lN t b) (lD t b))) := by
  unfold makeD
  simp only [List.map_cons, List.map_nil]
  rw [init_ok h k md t b hb hz]
  simp [rat]
theorem top_ok (n d : Int) : Tn G (k + 1) md "Ratio.top" [.im (rat A n d)] = some (.im (.int n), [.im (rat A n d)]) := by
  rw [tn_run h.fTP rfl]
  simp [cRatioTop, env0, evB, evC, ee, bR, fin, attD, rat, h.rN, h.flN, bNN, backS, List.lookup]
theorem bottom_ok (n d : Int) : Tn G (k + 1) md "Ratio.bottom" [.im (rat A n d)] = some (.im (.int d), [.im (rat A n d)]) := by
  rw [tn_run h.fBT rfl]
  simp [cRatioBottom, env0, evB, evC, ee, bR, fin, attD, rat, h.rD, h.flD, bDN, bDD, backS, List.lookup]
theorem att_top (n d : Int) : attD G (Tn G (k + 1)) md (rat A n d) "top" = some (.im (.int n)) := by
  have := top_ok h k ⟨false, md.calm⟩ n d
  unfold rat at *
  simp [attD, h.rTP, callD, h.fTP, this, Rz.d]
  rfl
theorem att_bottom (n d : Int) : attD G (Tn G (k + 1)) md (rat A n d) "bottom" = some (.im (.int d)) := by
  have := bottom_ok h k ⟨false, md.calm⟩ n d
  unfold rat at *
  simp [attD, h.rBT, callD, h.fBT, this, Rz.d]
  rfl
end
end RE
set_option Elab.async false
set_option linter.all false
set_option maxRecDepth 100000
set_option autoImplicit false
set_option maxHeartbeats 1000000
set_option exponentiation.threshold 20000
/-! RC: Ratio's ==, bool, str, repr. -/
namespace RE
open PySem L2 TL MA
/-- the texts of a fraction -/
def ratStr (n d : Int) : Str := if d = 1 then toString n else Str.ofString (toString n) ++ "/" ++ toString d
def ratRepr (n d : Int) : Str := "Ratio(" ++ Str.ofString (toString n) ++ ", " ++ toString d ++ ")"
/-- neither a fraction nor unknown -/
def plainD : D → Bool
  | .non | .bl _ | .int _ | .str _ | .lst _ | .tup _ => true
  | _ => false
theorem int_len {n : Int} (h : n.natAbs.log2 < 1000) : (Str.ofString (toString n)).length ≤ 1001 := by
  have h1 := int_text_length_le (a := n) (k := 1000) (by decide) h
  have e : (Str.ofString (toString n)).length = (toString n).length := by
    rw [Str.ofString_eq_toList]
    simp only [Str.length, List.size_toArray, List.length_map]
    exact String.length_toList
  omega
theorem app_len (a b : Str) : (a ++ b).length = a.length + b.length := by
  show (a.cps ++ b.cps).size = _
  simp [Str.length]
theorem catOk_of : ∀ {ts : List Str} {acc : Str}, acc.length + (ts.map Str.length).sum ≤ sizeLine → catOk acc ts
  | [], _, _ => trivial
  | t :: ts, acc, h => by
    simp only [List.map_cons, List.sum_cons] at h
    have e := app_len acc t
    exact ⟨by omega, catOk_of (by omega)⟩
section
variable {G : Gx} {A : Addr} (h : HRat G A) (k : Nat) (md : Md)
include h
theorem eq_ok (n d m e : Int) : Tn G (k + 2) md "Ratio.__eq__" [.im (rat A n d), .im (rat A m e)] = some (.im (.bl (decide (n = m ∧ d = e))), [.im (rat A n d), .im (rat A m e)]) := by
  rw [tn_run h.fEQ rfl]
  have a1 := att_top h k md n d
  have a2 := att_bottom h k md n d
  have a3 := att_top h k md m e
  have a4 := att_bottom h k md m e
  have a5 : isCD G A (rat A m e) = some true := h.isC
  rw [Bool.decide_and]
  cases hA : decide (n = m) <;> cases hB : decide (d = e) <;>
    simp only [cRatioEq, env0, evB, evC, ee, ebs, bB, bR, fin, h.gRA, a1, a2, a3, a4, a5, cmpD, eqD, backS, hA, hB, List.map_cons, List.map_nil, List.length_cons, List.length_nil, List.replicate, List.append_nil, List.cons_append, List.nil_append, List.getElem?_cons_zero, List.getElem?_cons_succ, Option.map_some, if_true, if_false, Bool.false_eq_true, reduceIte, Nat.sub_self, Bool.and_true, Bool.and_false, Bool.not_true] <;> rfl
theorem eq_other (n d : Int) (y : D) (hy : plainD y = true) : Tn G (k + 2) md "Ratio.__eq__" [.im (rat A n d), .im y] = some (.im (.bl false), [.im (rat A n d), .im y]) := by
  rw [tn_run h.fEQ rfl]
  have a5 : isCD G A y = some false := by cases y <;> first | rfl | cases hy
  simp [cRatioEq, env0, evB, evC, ee, ebs, bB, bR, fin, h.gRA, a5, backS]
theorem bool_ok (n d : Int) : Tn G (k + 2) md "Ratio.__bool__" [.im (rat A n d)] = some (.im (.bl (n != 0)), [.im (rat A n d)]) := by
  rw [tn_run h.fBO rfl]
  have a1 := att_top h k md n d
  simp [cRatioBool, env0, evB, evC, ee, evs, bR, bA, fin, a1, bltD, backS]
theorem str_ok (n d : Int) (hn : n.natAbs.log2 < 1000) (hd : d.natAbs.log2 < 1000) : Tn G (k + 2) md "Ratio.__str__" [.im (rat A n d)] = some (.im (.str (ratStr n d)), [.im (rat A n d)]) := by
  rw [tn_run h.fST rfl]
  have a1 := att_top h k md n d
  have a2 := att_bottom h k md n d
  have c1 : n.natAbs.log2 < 1920 := by omega
  have c2 : d.natAbs.log2 < 1920 := by omega
  have l1 := int_len hn
  have l2 := int_len hd
  cases h1 : decide (d = 1)
  · have hc : catOk Str.empty [Str.ofString (toString n), Str.ofString "/", Str.ofString (toString d)] := catOk_of (by
      rw [sizeLine_eq]; simp only [List.map_cons, List.map_nil, List.sum_cons, List.sum_nil]
      have : (Str.ofString "/").length = 1 := by decide
      have : Str.empty.length = 0 := rfl
      omega)
    have hs : ratStr n d = cat [Str.ofString (toString n), Str.ofString "/", Str.ofString (toString d)] := by
      unfold ratStr cat
      rw [if_neg (of_decide_eq_false h1)]
      simp only [List.foldl_cons, List.foldl_nil, str_empty_app]
    simp only [cRatioStr, env0, evB, evC, ee, evs, ebs, ets, fin, bR, bA, bB, truD, backS, Rz.d, isOwn, setAll, isCal, gloCall, argsOf, cmpD, eqD, negD, binD, intOp, bltD, List.map_cons, List.map_nil, List.length_cons, List.length_nil, List.replicate_succ, List.replicate_zero, List.append_nil, List.cons_append, List.nil_append, List.getElem?_cons_zero, List.getElem?_cons_succ, List.set_cons_zero, List.set_cons_succ, Option.map_some, Option.map_none, Option.bind_some, Option.bind_none, if_true, if_false, reduceIte, Bool.false_eq_true, Bool.not_true, Bool.not_false, Nat.reduceAdd, Nat.reduceSub, Nat.sub_self, List.any_cons, List.any_nil, Bool.or_false, Bool.false_or, Bool.or_self, Bool.and_true, Bool.and_self, Bool.and_false, Bool.false_and, Bool.true_and, Nat.reduceLeDiff, Nat.reduceEqDiff, decide_true, decide_false, Bool.true_eq_false, reduceCtorEq, and_self, and_true, true_and, ne_eq, not_true_eq_false, not_false_eq_true, a1, a2, h1, req_pos c1, req_pos c2, strD, req_pos hc, hs]
  · have hc : catOk Str.empty [Str.ofString (toString n)] := catOk_of (by
      rw [sizeLine_eq]; simp only [List.map_cons, List.map_nil, List.sum_cons, List.sum_nil]
      have : Str.empty.length = 0 := rfl
      omega)
    have hs : ratStr n d = cat [Str.ofString (toString n)] := by
      unfold ratStr cat
      rw [if_pos (of_decide_eq_true h1)]
      simp only [List.foldl_cons, List.foldl_nil, str_empty_app]
    simp only [cRatioStr, env0, evB, evC, ee, evs, ebs, ets, fin, bR, bA, bB, truD, backS, Rz.d, isOwn, setAll, isCal, gloCall, argsOf, cmpD, eqD, negD, binD, intOp, bltD, List.map_cons, List.map_nil, List.length_cons, List.length_nil, List.replicate_succ, List.replicate_zero, List.append_nil, List.cons_append, List.nil_append, List.getElem?_cons_zero, List.getElem?_cons_succ, List.set_cons_zero, List.set_cons_succ, Option.map_some, Option.map_none, Option.bind_some, Option.bind_none, if_true, if_false, reduceIte, Bool.false_eq_true, Bool.not_true, Bool.not_false, Nat.reduceAdd, Nat.reduceSub, Nat.sub_self, List.any_cons, List.any_nil, Bool.or_false, Bool.false_or, Bool.or_self, Bool.and_true, Bool.and_self, Bool.and_false, Bool.false_and, Bool.true_and, Nat.reduceLeDiff, Nat.reduceEqDiff, decide_true, decide_false, Bool.true_eq_false, reduceCtorEq, and_self, and_true, true_and, ne_eq, not_true_eq_false, not_false_eq_true, a1, a2, h1, req_pos c1, req_pos c2, strD, req_pos hc, hs]
theorem repr_ok (n d : Int) (hn : n.natAbs.log2 < 1000) (hd : d.natAbs.log2 < 1000) : Tn G (k + 2) md "Ratio.__repr__" [.im (rat A n d)] = some (.im (.str (ratRepr n d)), [.im (rat A n d)]) := by
  rw [tn_run h.fRE rfl]
  have a1 := att_top h k md n d
  have a2 := att_bottom h k md n d
  have c1 : n.natAbs.log2 < 1920 := by omega
  have c2 : d.natAbs.log2 < 1920 := by omega
  have l1 := int_len hn
  have l2 := int_len hd
  have hc : catOk Str.empty [Str.ofString "Ratio(", Str.ofString (toString n), Str.ofString ", ", Str.ofString (toString d), Str.ofString ")"] := catOk_of (by
    rw [sizeLine_eq]; simp only [List.map_cons, List.map_nil, List.sum_cons, List.sum_nil]
    have : (Str.ofString "Ratio(").length = 6 := by decide
    have : (Str.ofString ", ").length = 2 := by decide
    have : (Str.ofString ")").length = 1 := by decide
    have : Str.empty.length = 0 := rfl
    omega)
  have hs : ratRepr n d = cat [Str.ofString "Ratio(", Str.ofString (toString n), Str.ofString ", ", Str.ofString (toString d), Str.ofString ")"] := by
    unfold ratRepr cat
    simp only [List.foldl_cons, List.foldl_nil, str_empty_app]
  simp only [cRatioRepr, env0, evB, evC, ee, evs, ebs, ets, fin, bR, bA, bB, truD, backS, Rz.d, isOwn, setAll, isCal, gloCall, argsOf, cmpD, eqD, negD, binD, intOp, bltD, List.map_cons, List.map_nil, List.length_cons, List.length_nil, List.replicate_succ, List.replicate_zero, List.append_nil, List.cons_append, List.nil_append, List.getElem?_cons_zero, List.getElem?_cons_succ, List.set_cons_zero, List.set_cons_succ, Option.map_some, Option.map_none, Option.bind_some, Option.bind_none, if_true, if_false, reduceIte, Bool.false_eq_true, Bool.not_true, Bool.not_false, Nat.reduceAdd, Nat.reduceSub, Nat.sub_self, List.any_cons, List.any_nil, Bool.or_false, Bool.false_or, Bool.or_self, Bool.and_true, Bool.and_self, Bool.and_false, Bool.false_and, Bool.true_and, Nat.reduceLeDiff, Nat.reduceEqDiff, decide_true, decide_false, Bool.true_eq_false, reduceCtorEq, and_self, and_true, true_and, ne_eq, not_true_eq_false, not_false_eq_true, a1, a2, req_pos c1, req_pos c2, strD, req_pos hc, hs]
end
end RE
set_option Elab.async false
set_option linter.all false
set_option maxRecDepth 100000
set_option autoImplicit false
set_option maxHeartbeats 1000000
set_option exponentiation.threshold 20000
/-! RD: the purse, read. -/
namespace RE
open PySem L2 TL MA
def cLawPurse : Fc := { ps := ["_law_script"], N := ["_law_script", "_law_cell"], po := true, body := [.ret (.lst [.lc (.one 1) .seq [.var 0] [] (.bin .Mod (.blt .int [.var 1]) (.bin .Mult (.bin .Pow (.int 10) (.int 60)) (.bin .Pow (.int 10) (.int 60)))), .int 0, .int 0, .int 0])] }
def cLawDraw : Fc := { ps := ["_law_q", "_law_many"], N := ["_law_q", "_law_many", "_law_digit", "_law_cells", "_law_cell", "_law_turn", "_law_primes", "_law_blend"], po := true, body := [.ifs (.cmp .Gt (.subO 0 (.int 2)) (.int 0)) [.set 2 (.bin .Mod (.blt .int [.subO 0 (.int 2)]) (.var 1)), .sto 0 (.int 2) (.bin .FloorDiv (.subO 0 (.int 2)) (.var 1)), .ret (.var 2)] [],
    .set 3 (.ifx (.subO 0 (.int 0)) (.subO 0 (.int 0)) (.lst [.int 0])),
    .set 4 (.sub (.var 3) (.bin .Mod (.blt .int [.subO 0 (.int 1)]) (.blt .len [.var 3]))),
    .sto 0 (.int 1) (.bin .Add (.subO 0 (.int 1)) (.int 1)),
    .ifs (.cmp .GtE (.var 4) (.bin .Pow (.int 10) (.int 18))) [.sto 0 (.int 2) (.bin .FloorDiv (.var 4) (.var 1)), .ret (.bin .Mod (.blt .int [.var 4]) (.var 1))] [],
    .set 5 (.subO 0 (.int 3)),
    .sto 0 (.int 3) (.bin .Add (.var 5) (.int 1)),
    .set 6 (.lst [.int 1000003, .int 1299709, .int 2750159, .int 3497861, .int 4256233, .int 5800079, .int 6700417, .int 7368787, .int 8460041, .int 9576901, .int 15485863]),
    .set 7 (.bin .Mod (.blt .int [.bin .Add (.bin .Mult (.bin .Add (.var 4) (.int 1)) (.int 48271)) (.bin .Mult (.bin .Mult (.bin .Add (.var 5) (.int 1)) (.bin .Add (.var 5) (.int 7))) (.int 69621))]) (.sub (.var 6) (.bin .Mod (.blt .int [.var 5]) (.int 11)))),
    .set 7 (.bin .Mod (.blt .int [.bin .Add (.bin .Pow (.var 7) (.int 3)) (.bin .Mult (.var 5) (.int 40503))]) (.int 2147483647)),
    .ret (.bin .Mod (.blt .int [.bin .FloorDiv (.var 7) (.int 32)]) (.var 1))] }
def cLawFrom : Fc := { ps := ["_law_script", "_law_k"], N := ["_law_script", "_law_k"], po := true, body := [.ret (.call "_law_purse" [.bin .Add (.slL (.var 0) (.var 1)) (.slH (.var 0) (.var 1))] [] [])] }
/-- a purse as an object -/
def puD (p : PU.Pu) : OC := .lst [.lst (p.cells.map D.int), .int p.i, .int p.r, .int p.t]
def big : Int := 10 ^ 60 * 10 ^ 60
theorem cm_small {i j : Int} (h1 : i.natAbs < 2 ^ 100) (h2 : j.natAbs < 2 ^ 100) : CMulW i j := wide_mul h1 h2 (by decide) (by decide) (by decide)
theorem cdiv_small {j : Int} (h0 : 0 < j) (h : j < 1073741824) : CDiv j := ⟨by omega, by
  have : j.natAbs < 2 ^ 30 := by omega
  have := (Nat.log2_lt (n := j.natAbs) (k := 30) (by omega)).mpr this
  omega⟩
theorem fdiv_pos {i j : Int} (h : 0 < j) : i.fdiv j = i / j := Int.fdiv_eq_ediv_of_nonneg i (by omega)
theorem req_true {α : Type} {x : Option α} : req True x = x := req_pos trivial
theorem sub_l {xs : List D} {j : Int} : subD (.lst xs) (.int j) = atI xs j := rfl
theorem at0 {a b c d : D} : atI [a, b, c, d] 0 = some a := rfl
theorem at1 {a b c d : D} : atI [a, b, c, d] 1 = some b := rfl
theorem at2 {a b c d : D} : atI [a, b, c, d] 2 = some c := rfl
theorem at3 {a b c d : D} : atI [a, b, c, d] 3 = some d := rfl
theorem ix1 : ixN 4 1 = some 1 := rfl
theorem ix2 : ixN 4 2 = some 2 := rfl
theorem ix3 : ixN 4 3 = some 3 := rfl
section
variable {G : Gx} (hf : G.fns "_law_draw" = some cLawDraw) (k : Nat) (md : Md)
include hf
theorem draw_ok (p : PU.Pu) (m : Int) (n : Nat) (hok : PU.Ok n p) (hn : n ≤ 1000000) (hm0 : 0 < m) (hm1 : m < 1073741824) : Tn G (k + 1) md "_law_draw" [.own (puD p), .im (.int m)] = some (.im (.int (PU.draw p m).1), [.own (puD (PU.draw p m).2), .im (.int m)]) := by
  rw [tn_run hf rfl]
  have cd := cdiv_small hm0 hm1
  unfold cLawDraw
  dsimp only
  by_cases h0 : 0 < p.r
  · have hd : PU.draw p m = (p.r % m, { p with r := p.r / m }) := by unfold PU.draw; rw [if_pos h0]
    rw [hd]
    simp only [env0, evB, evC, ee, evs, ebs, ets, fin, bR, bA, bB, truD, backS, Rz.d, isOwn, setAll, isCal, gloCall, argsOf, cmpD, eqD, negD, binD, intOp, bltD, List.map_cons, List.map_nil, List.length_cons, List.length_nil, List.replicate_succ, List.replicate_zero, List.append_nil, List.cons_append, List.nil_append, List.getElem?_cons_zero, List.getElem?_cons_succ, List.set_cons_zero, List.set_cons_succ, Option.map_some, Option.map_none, Option.bind_some, Option.bind_none, if_true, if_false, reduceIte, Bool.false_eq_true, Bool.not_true, Bool.not_false, Nat.reduceAdd, Nat.reduceSub, Nat.sub_self, List.any_cons, List.any_nil, Bool.or_false, Bool.false_or, Bool.or_self, Bool.and_true, Bool.and_self, Bool.and_false, Bool.false_and, Bool.true_and, Nat.reduceLeDiff, Nat.reduceEqDiff, decide_true, decide_false, Bool.true_eq_false, reduceCtorEq, and_self, and_true, true_and, ne_eq, not_true_eq_false, not_false_eq_true, req_true, sub_l, puD, at0, at1, at2, at3, ix1, ix2, ix3, h0, req_pos hm0, req_pos cd, fdiv_pos hm0]
  · have c0 := hok.cell
    have t0 := hok.t0
    have tn := hok.tn
    have hix : atI ((PU.cs p).map D.int) (p.i % (((PU.cs p).map D.int).length : Int)) = some (.int (PU.cell p)) := by
      rw [List.length_map, ← PU.ix_eq]
      exact atI_nat (by rw [List.getElem?_map, PU.cell_get]; rfl)
    have hlen : (0 : Int) < (((PU.cs p).map D.int).length : Int) := by rw [List.length_map]; have := PU.cs_pos p; omega
    rw [evB_nx (δ1 := [some (.own (puD p)), some (.im (.int m)), none, none, none, none, none, none]) ?h]
    case h => simp only [env0, evB, evC, ee, evs, ebs, ets, fin, bR, bA, bB, truD, backS, Rz.d, isOwn, setAll, isCal, gloCall, argsOf, cmpD, eqD, negD, binD, intOp, bltD, List.map_cons, List.map_nil, List.length_cons, List.length_nil, List.replicate_succ, List.replicate_zero, List.append_nil, List.cons_append, List.nil_append, List.getElem?_cons_zero, List.getElem?_cons_succ, List.set_cons_zero, List.set_cons_succ, Option.map_some, Option.map_none, Option.bind_some, Option.bind_none, if_true, if_false, reduceIte, Bool.false_eq_true, Bool.not_true, Bool.not_false, Nat.reduceAdd, Nat.reduceSub, Nat.sub_self, List.any_cons, List.any_nil, Bool.or_false, Bool.false_or, Bool.or_self, Bool.and_true, Bool.and_self, Bool.and_false, Bool.false_and, Bool.true_and, Nat.reduceLeDiff, Nat.reduceEqDiff, decide_true, decide_false, Bool.true_eq_false, reduceCtorEq, and_self, and_true, true_and, ne_eq, not_true_eq_false, not_false_eq_true, req_true, sub_l, puD, at0, at1, at2, at3, ix1, ix2, ix3, h0]
    rw [evB_nx (δ1 := [some (.own (puD p)), some (.im (.int m)), none, some (.im (.lst ((PU.cs p).map D.int))), none, none, none, none]) ?h]
    case h =>
      cases hc : p.cells with
      | nil =>
        have hcs : PU.cs p = [0] := by unfold PU.cs; rw [if_pos hc]
        rw [hcs]
        simp only [env0, evB, evC, ee, evs, ebs, ets, fin, bR, bA, bB, truD, backS, Rz.d, isOwn, setAll, isCal, gloCall, argsOf, cmpD, eqD, negD, binD, intOp, bltD, List.map_cons, List.map_nil, List.length_cons, List.length_nil, List.replicate_succ, List.replicate_zero, List.append_nil, List.cons_append, List.nil_append, List.getElem?_cons_zero, List.getElem?_cons_succ, List.set_cons_zero, List.set_cons_succ, Option.map_some, Option.map_none, Option.bind_some, Option.bind_none, if_true, if_false, reduceIte, Bool.false_eq_true, Bool.not_true, Bool.not_false, Nat.reduceAdd, Nat.reduceSub, Nat.sub_self, List.any_cons, List.any_nil, Bool.or_false, Bool.false_or, Bool.or_self, Bool.and_true, Bool.and_self, Bool.and_false, Bool.false_and, Bool.true_and, Nat.reduceLeDiff, Nat.reduceEqDiff, decide_true, decide_false, Bool.true_eq_false, reduceCtorEq, and_self, and_true, true_and, ne_eq, not_true_eq_false, not_false_eq_true, req_true, sub_l, puD, hc, at0, at1, at2, at3, ix1, ix2, ix3, h0, List.isEmpty_nil]
      | cons x xs =>
        have hcs : PU.cs p = x :: xs := by unfold PU.cs; rw [hc]; rfl
        rw [hcs]
        simp only [env0, evB, evC, ee, evs, ebs, ets, fin, bR, bA, bB, truD, backS, Rz.d, isOwn, setAll, isCal, gloCall, argsOf, cmpD, eqD, negD, binD, intOp, bltD, List.map_cons, List.map_nil, List.length_cons, List.length_nil, List.replicate_succ, List.replicate_zero, List.append_nil, List.cons_append, List.nil_append, List.getElem?_cons_zero, List.getElem?_cons_succ, List.set_cons_zero, List.set_cons_succ, Option.map_some, Option.map_none, Option.bind_some, Option.bind_none, if_true, if_false, reduceIte, Bool.false_eq_true, Bool.not_true, Bool.not_false, Nat.reduceAdd, Nat.reduceSub, Nat.sub_self, List.any_cons, List.any_nil, Bool.or_false, Bool.false_or, Bool.or_self, Bool.and_true, Bool.and_self, Bool.and_false, Bool.false_and, Bool.true_and, Nat.reduceLeDiff, Nat.reduceEqDiff, decide_true, decide_false, Bool.true_eq_false, reduceCtorEq, and_self, and_true, true_and, ne_eq, not_true_eq_false, not_false_eq_true, req_true, sub_l, puD, hc, at0, at1, at2, at3, ix1, ix2, ix3, h0, List.isEmpty_cons]
    rw [evB_nx (δ1 := [some (.own (puD p)), some (.im (.int m)), none, some (.im (.lst ((PU.cs p).map D.int))), some (.im (.int (PU.cell p))), none, none, none]) ?h]
    case h =>
      simp only [env0, evB, evC, ee, evs, ebs, ets, fin, bR, bA, bB, truD, backS, Rz.d, isOwn, setAll, isCal, gloCall, argsOf, cmpD, eqD, negD, binD, intOp, bltD, List.map_cons, List.map_nil, List.length_cons, List.length_nil, List.replicate_succ, List.replicate_zero, List.append_nil, List.cons_append, List.nil_append, List.getElem?_cons_zero, List.getElem?_cons_succ, List.set_cons_zero, List.set_cons_succ, Option.map_some, Option.map_none, Option.bind_some, Option.bind_none, if_true, if_false, reduceIte, Bool.false_eq_true, Bool.not_true, Bool.not_false, Nat.reduceAdd, Nat.reduceSub, Nat.sub_self, List.any_cons, List.any_nil, Bool.or_false, Bool.false_or, Bool.or_self, Bool.and_true, Bool.and_self, Bool.and_false, Bool.false_and, Bool.true_and, Nat.reduceLeDiff, Nat.reduceEqDiff, decide_true, decide_false, Bool.true_eq_false, reduceCtorEq, and_self, and_true, true_and, ne_eq, not_true_eq_false, not_false_eq_true, req_true, sub_l, puD, at0, at1, at2, at3, ix1, ix2, ix3, req_pos hlen, hix]
    rw [evB_nx (δ1 := [some (.own (puD { p with i := p.i + 1 })), some (.im (.int m)), none, some (.im (.lst ((PU.cs p).map D.int))), some (.im (.int (PU.cell p))), none, none, none]) ?h]
    case h =>
      simp only [env0, evB, evC, ee, evs, ebs, ets, fin, bR, bA, bB, truD, backS, Rz.d, isOwn, setAll, isCal, gloCall, argsOf, cmpD, eqD, negD, binD, intOp, bltD, List.map_cons, List.map_nil, List.length_cons, List.length_nil, List.replicate_succ, List.replicate_zero, List.append_nil, List.cons_append, List.nil_append, List.getElem?_cons_zero, List.getElem?_cons_succ, List.set_cons_zero, List.set_cons_succ, Option.map_some, Option.map_none, Option.bind_some, Option.bind_none, if_true, if_false, reduceIte, Bool.false_eq_true, Bool.not_true, Bool.not_false, Nat.reduceAdd, Nat.reduceSub, Nat.sub_self, List.any_cons, List.any_nil, Bool.or_false, Bool.false_or, Bool.or_self, Bool.and_true, Bool.and_self, Bool.and_false, Bool.false_and, Bool.true_and, Nat.reduceLeDiff, Nat.reduceEqDiff, decide_true, decide_false, Bool.true_eq_false, reduceCtorEq, and_self, and_true, true_and, ne_eq, not_true_eq_false, not_false_eq_true, req_true, sub_l, puD, at0, at1, at2, at3, ix1, ix2, ix3]
    have p18 : CPow 10 18 := ⟨by decide, by decide, by decide +kernel⟩
    have e18 : (10 : Int) ^ (18 : Int).toNat = 10 ^ 18 := rfl
    by_cases h1 : (10 : Int) ^ 18 ≤ PU.cell p
    · have hd : PU.draw p m = (PU.cell p % m, { p with i := p.i + 1, r := PU.cell p / m }) := by unfold PU.draw; rw [if_neg h0, if_pos h1]
      rw [hd]
      simp only [env0, evB, evC, ee, evs, ebs, ets, fin, bR, bA, bB, truD, backS, Rz.d, isOwn, setAll, isCal, gloCall, argsOf, cmpD, eqD, negD, binD, intOp, bltD, List.map_cons, List.map_nil, List.length_cons, List.length_nil, List.replicate_succ, List.replicate_zero, List.append_nil, List.cons_append, List.nil_append, List.getElem?_cons_zero, List.getElem?_cons_succ, List.set_cons_zero, List.set_cons_succ, Option.map_some, Option.map_none, Option.bind_some, Option.bind_none, if_true, if_false, reduceIte, Bool.false_eq_true, Bool.not_true, Bool.not_false, Nat.reduceAdd, Nat.reduceSub, Nat.sub_self, List.any_cons, List.any_nil, Bool.or_false, Bool.false_or, Bool.or_self, Bool.and_true, Bool.and_self, Bool.and_false, Bool.false_and, Bool.true_and, Nat.reduceLeDiff, Nat.reduceEqDiff, decide_true, decide_false, Bool.true_eq_false, reduceCtorEq, and_self, and_true, true_and, ne_eq, not_true_eq_false, not_false_eq_true, req_true, sub_l, puD, at0, at1, at2, at3, ix1, ix2, ix3, req_pos p18, e18, ge_iff_le, h1, req_pos hm0, req_pos cd, fdiv_pos hm0]
    · have hd : PU.draw p m = (PU.b2 (PU.cell p) p.t / 32 % m, { p with i := p.i + 1, t := p.t + 1 }) := by unfold PU.draw; rw [if_neg h0, if_neg h1]
      rw [hd]
      have c1 : PU.cell p < 10 ^ 18 := Int.not_le.mp h1
      have pb := PU.pr_pos t0
      have bb := PU.b1_bd (c := PU.cell p) t0
      rw [evB_nx (δ1 := [some (.own (puD { p with i := p.i + 1 })), some (.im (.int m)), none, some (.im (.lst ((PU.cs p).map D.int))), some (.im (.int (PU.cell p))), none, none, none]) ?h]
      case h => simp only [env0, evB, evC, ee, evs, ebs, ets, fin, bR, bA, bB, truD, backS, Rz.d, isOwn, setAll, isCal, gloCall, argsOf, cmpD, eqD, negD, binD, intOp, bltD, List.map_cons, List.map_nil, List.length_cons, List.length_nil, List.replicate_succ, List.replicate_zero, List.append_nil, List.cons_append, List.nil_append, List.getElem?_cons_zero, List.getElem?_cons_succ, List.set_cons_zero, List.set_cons_succ, Option.map_some, Option.map_none, Option.bind_some, Option.bind_none, if_true, if_false, reduceIte, Bool.false_eq_true, Bool.not_true, Bool.not_false, Nat.reduceAdd, Nat.reduceSub, Nat.sub_self, List.any_cons, List.any_nil, Bool.or_false, Bool.false_or, Bool.or_self, Bool.and_true, Bool.and_self, Bool.and_false, Bool.false_and, Bool.true_and, Nat.reduceLeDiff, Nat.reduceEqDiff, decide_true, decide_false, Bool.true_eq_false, reduceCtorEq, and_self, and_true, true_and, ne_eq, not_true_eq_false, not_false_eq_true, req_true, sub_l, puD, at0, at1, at2, at3, ix1, ix2, ix3, req_pos p18, e18, ge_iff_le, h1]
      rw [evB_nx (δ1 := [some (.own (puD { p with i := p.i + 1 })), some (.im (.int m)), none, some (.im (.lst ((PU.cs p).map D.int))), some (.im (.int (PU.cell p))), some (.im (.int p.t)), none, none]) ?h]
      case h => simp only [env0, evB, evC, ee, evs, ebs, ets, fin, bR, bA, bB, truD, backS, Rz.d, isOwn, setAll, isCal, gloCall, argsOf, cmpD, eqD, negD, binD, intOp, bltD, List.map_cons, List.map_nil, List.length_cons, List.length_nil, List.replicate_succ, List.replicate_zero, List.append_nil, List.cons_append, List.nil_append, List.getElem?_cons_zero, List.getElem?_cons_succ, List.set_cons_zero, List.set_cons_succ, Option.map_some, Option.map_none, Option.bind_some, Option.bind_none, if_true, if_false, reduceIte, Bool.false_eq_true, Bool.not_true, Bool.not_false, Nat.reduceAdd, Nat.reduceSub, Nat.sub_self, List.any_cons, List.any_nil, Bool.or_false, Bool.false_or, Bool.or_self, Bool.and_true, Bool.and_self, Bool.and_false, Bool.false_and, Bool.true_and, Nat.reduceLeDiff, Nat.reduceEqDiff, decide_true, decide_false, Bool.true_eq_false, reduceCtorEq, and_self, and_true, true_and, ne_eq, not_true_eq_false, not_false_eq_true, req_true, sub_l, puD, at0, at1, at2, at3, ix1, ix2, ix3]
      rw [evB_nx (δ1 := [some (.own (puD { p with i := p.i + 1, t := p.t + 1 })), some (.im (.int m)), none, some (.im (.lst ((PU.cs p).map D.int))), some (.im (.int (PU.cell p))), some (.im (.int p.t)), none, none]) ?h]
      case h => simp only [env0, evB, evC, ee, evs, ebs, ets, fin, bR, bA, bB, truD, backS, Rz.d, isOwn, setAll, isCal, gloCall, argsOf, cmpD, eqD, negD, binD, intOp, bltD, List.map_cons, List.map_nil, List.length_cons, List.length_nil, List.replicate_succ, List.replicate_zero, List.append_nil, List.cons_append, List.nil_append, List.getElem?_cons_zero, List.getElem?_cons_succ, List.set_cons_zero, List.set_cons_succ, Option.map_some, Option.map_none, Option.bind_some, Option.bind_none, if_true, if_false, reduceIte, Bool.false_eq_true, Bool.not_true, Bool.not_false, Nat.reduceAdd, Nat.reduceSub, Nat.sub_self, List.any_cons, List.any_nil, Bool.or_false, Bool.false_or, Bool.or_self, Bool.and_true, Bool.and_self, Bool.and_false, Bool.false_and, Bool.true_and, Nat.reduceLeDiff, Nat.reduceEqDiff, decide_true, decide_false, Bool.true_eq_false, reduceCtorEq, and_self, and_true, true_and, ne_eq, not_true_eq_false, not_false_eq_true, req_true, sub_l, puD, at0, at1, at2, at3, ix1, ix2, ix3]
      rw [evB_nx (δ1 := [some (.own (puD { p with i := p.i + 1, t := p.t + 1 })), some (.im (.int m)), none, some (.im (.lst ((PU.cs p).map D.int))), some (.im (.int (PU.cell p))), some (.im (.int p.t)), some (.im (.lst (PU.primes.map D.int))), none]) ?h]
      case h => simp only [env0, evB, evC, ee, evs, ebs, ets, fin, bR, bA, bB, truD, backS, Rz.d, isOwn, setAll, isCal, gloCall, argsOf, cmpD, eqD, negD, binD, intOp, bltD, List.map_cons, List.map_nil, List.length_cons, List.length_nil, List.replicate_succ, List.replicate_zero, List.append_nil, List.cons_append, List.nil_append, List.getElem?_cons_zero, List.getElem?_cons_succ, List.set_cons_zero, List.set_cons_succ, Option.map_some, Option.map_none, Option.bind_some, Option.bind_none, if_true, if_false, reduceIte, Bool.false_eq_true, Bool.not_true, Bool.not_false, Nat.reduceAdd, Nat.reduceSub, Nat.sub_self, List.any_cons, List.any_nil, Bool.or_false, Bool.false_or, Bool.or_self, Bool.and_true, Bool.and_self, Bool.and_false, Bool.false_and, Bool.true_and, Nat.reduceLeDiff, Nat.reduceEqDiff, decide_true, decide_false, Bool.true_eq_false, reduceCtorEq, and_self, and_true, true_and, ne_eq, not_true_eq_false, not_false_eq_true, req_true, sub_l, PU.primes, List.map_cons, List.map_nil]
      have m1 : CMulW (PU.cell p + 1) 48271 := cm_small (by omega) (by decide +kernel)
      have m2 : CMulW (p.t + 1) (p.t + 7) := cm_small (by omega) (by omega)
      have m3 : CMulW ((p.t + 1) * (p.t + 7)) 69621 := cm_small (by
        have e1 : (p.t + 1).natAbs ≤ 2 ^ 40 := by omega
        have e2 : (p.t + 7).natAbs ≤ 2 ^ 40 := by omega
        rw [Int.natAbs_mul]
        exact Nat.lt_of_le_of_lt (Nat.mul_le_mul e1 e2) (by decide +kernel)) (by decide +kernel)
      have h11 : (0 : Int) < 11 := by decide
      have hpr : atI (PU.primes.map D.int) (p.t % 11) = some (.int (PU.pr p.t)) := by
        have : p.t % 11 = ((p.t % 11).toNat : Int) := by have := Int.emod_nonneg p.t (b := 11) (by decide); omega
        rw [this]
        exact atI_nat (by rw [List.getElem?_map, PU.pr_get t0]; rfl)
      rw [evB_nx (δ1 := [some (.own (puD { p with i := p.i + 1, t := p.t + 1 })), some (.im (.int m)), none, some (.im (.lst ((PU.cs p).map D.int))), some (.im (.int (PU.cell p))), some (.im (.int p.t)), some (.im (.lst (PU.primes.map D.int))), some (.im (.int (PU.b1 (PU.cell p) p.t)))]) ?h]
      case h => simp only [env0, evB, evC, ee, evs, ebs, ets, fin, bR, bA, bB, truD, backS, Rz.d, isOwn, setAll, isCal, gloCall, argsOf, cmpD, eqD, negD, binD, intOp, bltD, List.map_cons, List.map_nil, List.length_cons, List.length_nil, List.replicate_succ, List.replicate_zero, List.append_nil, List.cons_append, List.nil_append, List.getElem?_cons_zero, List.getElem?_cons_succ, List.set_cons_zero, List.set_cons_succ, Option.map_some, Option.map_none, Option.bind_some, Option.bind_none, if_true, if_false, reduceIte, Bool.false_eq_true, Bool.not_true, Bool.not_false, Nat.reduceAdd, Nat.reduceSub, Nat.sub_self, List.any_cons, List.any_nil, Bool.or_false, Bool.false_or, Bool.or_self, Bool.and_true, Bool.and_self, Bool.and_false, Bool.false_and, Bool.true_and, Nat.reduceLeDiff, Nat.reduceEqDiff, decide_true, decide_false, Bool.true_eq_false, reduceCtorEq, and_self, and_true, true_and, ne_eq, not_true_eq_false, not_false_eq_true, req_true, sub_l, req_pos m1, req_pos m2, req_pos m3, req_pos h11, hpr, req_pos pb.1, PU.b1]
      have p3 : CPow (PU.b1 (PU.cell p) p.t) 3 := ⟨by decide, by decide, by omega⟩
      have e3 : ∀ x : Int, x ^ (3 : Int).toNat = x ^ 3 := fun x => rfl
      have m4 : CMulW p.t 40503 := cm_small (by omega) (by decide +kernel)
      have hM : (0 : Int) < 2147483647 := by decide
      rw [evB_nx (δ1 := [some (.own (puD { p with i := p.i + 1, t := p.t + 1 })), some (.im (.int m)), none, some (.im (.lst ((PU.cs p).map D.int))), some (.im (.int (PU.cell p))), some (.im (.int p.t)), some (.im (.lst (PU.primes.map D.int))), some (.im (.int (PU.b2 (PU.cell p) p.t)))]) ?h]
      case h => simp only [env0, evB, evC, ee, evs, ebs, ets, fin, bR, bA, bB, truD, backS, Rz.d, isOwn, setAll, isCal, gloCall, argsOf, cmpD, eqD, negD, binD, intOp, bltD, List.map_cons, List.map_nil, List.length_cons, List.length_nil, List.replicate_succ, List.replicate_zero, List.append_nil, List.cons_append, List.nil_append, List.getElem?_cons_zero, List.getElem?_cons_succ, List.set_cons_zero, List.set_cons_succ, Option.map_some, Option.map_none, Option.bind_some, Option.bind_none, if_true, if_false, reduceIte, Bool.false_eq_true, Bool.not_true, Bool.not_false, Nat.reduceAdd, Nat.reduceSub, Nat.sub_self, List.any_cons, List.any_nil, Bool.or_false, Bool.false_or, Bool.or_self, Bool.and_true, Bool.and_self, Bool.and_false, Bool.false_and, Bool.true_and, Nat.reduceLeDiff, Nat.reduceEqDiff, decide_true, decide_false, Bool.true_eq_false, reduceCtorEq, and_self, and_true, true_and, ne_eq, not_true_eq_false, not_false_eq_true, req_true, sub_l, req_pos p3, e3, req_pos m4, req_pos hM, PU.b2]
      have cd32 : CDiv 32 := cdiv_small (by decide) (by decide)
      have e32 : ∀ x : Int, x.fdiv 32 = x / 32 := fun x => fdiv_pos (by decide)
      simp only [env0, evB, evC, ee, evs, ebs, ets, fin, bR, bA, bB, truD, backS, Rz.d, isOwn, setAll, isCal, gloCall, argsOf, cmpD, eqD, negD, binD, intOp, bltD, List.map_cons, List.map_nil, List.length_cons, List.length_nil, List.replicate_succ, List.replicate_zero, List.append_nil, List.cons_append, List.nil_append, List.getElem?_cons_zero, List.getElem?_cons_succ, List.set_cons_zero, List.set_cons_succ, Option.map_some, Option.map_none, Option.bind_some, Option.bind_none, if_true, if_false, reduceIte, Bool.false_eq_true, Bool.not_true, Bool.not_false, Nat.reduceAdd, Nat.reduceSub, Nat.sub_self, List.any_cons, List.any_nil, Bool.or_false, Bool.false_or, Bool.or_self, Bool.and_true, Bool.and_self, Bool.and_false, Bool.false_and, Bool.true_and, Nat.reduceLeDiff, Nat.reduceEqDiff, decide_true, decide_false, Bool.true_eq_false, reduceCtorEq, and_self, and_true, true_and, ne_eq, not_true_eq_false, not_false_eq_true, req_true, sub_l, puD, req_pos cd32, e32, req_pos hm0]
end
end RE
set_option Elab.async false
set_option linter.all false
set_option maxRecDepth 100000
set_option autoImplicit false
set_option maxHeartbeats 1000000
set_option exponentiation.threshold 20000
/-! RF: the purse's birth, read. -/
namespace RE
open PySem L2 TL MA
theorem set_back {δ : TL.Env} {i : Nat} {x : Option S} (h : δ[i]? = some none) : (δ.set i x).set i none = δ := by
  rw [List.set_set]
  apply List.ext_getElem?
  intro j
  rw [List.getElem?_set]
  split
  · rename_i e
    subst e
    have : i < δ.length := by
      cases hh : decide (i < δ.length) with
      | true => exact of_decide_eq_true hh
      | false => rw [List.getElem?_eq_none (Nat.le_of_not_lt (of_decide_eq_false hh))] at h; cases h
    rw [if_pos this, h]
  · rfl
theorem lc_map {f : TL.Env → Option (Rz × TL.Env)} {i : Nat} {δ : TL.Env} (hb : δ[i]? = some none) (g : D → D) : ∀ {xs : List D}, (∀ x ∈ xs, f (δ.set i (some (.im x))) = some (.im (g x), δ.set i (some (.im x)))) → lcGo f (tsts []) (.one i) xs δ = some (xs.map g, δ)
  | [], _ => rfl
  | x :: xs, h => by
    have hw : isOwn δ i = false := by unfold isOwn; rw [hb]
    have h1 := h x (List.mem_cons_self ..)
    have h2 := lc_map hb g (xs := xs) (fun y hy => h y (List.mem_cons_of_mem _ hy))
    simp only [lcGo, setTg, hw, Bool.false_eq_true, if_false, tsts, h1, bR, Tg.is, wipeT, set_back hb, h2, List.map_cons]
theorem ee_lc {G : Gx} {T : Tb} {md : Md} {g : Tg} {kd : Ik} {its ifs : List E} {elt : E} {δ δ1 δ2 : TL.Env} {ds xs ys : List D} (h1 : evs G T md its δ = some (.inl ds, δ1)) (h2 : itD G.K kd ds = some xs) (hb : blank δ1 g.is = true) (hl : xs.length ≤ 100000) (h3 : lcGo (ee G T md false elt) (tsts (ets G T md ifs)) g xs δ1 = some (ys, δ2)) : ee G T md false (.lc g kd its ifs elt) δ = some (.fr ys, δ2) := by
  simp only [ee, fin, h1, h2, Option.bind_some, lcD, req_pos (And.intro hb hl), h3, Option.map_some]
/-- the cells of a script -/
def cellsOf (ns : List Int) : List Int := ns.map fun c => c % big
def puOf (ns : List Int) : PU.Pu := ⟨cellsOf ns, 0, 0, 0⟩
theorem puOf_ok (ns : List Int) : PU.Ok 0 (puOf ns) := ⟨Int.le_refl _, Int.le_refl _, Int.le_refl _, fun c hc => by
  obtain ⟨x, _, rfl⟩ := List.mem_map.mp hc
  exact Int.emod_nonneg _ (by unfold big; decide +kernel)⟩
section
variable {G : Gx} (k : Nat) (md : Md)
theorem purse_ok (hf : G.fns "_law_purse" = some cLawPurse) (ns : List Int) (hn : ns.length ≤ 100000) : Tn G (k + 1) md "_law_purse" [.im (.lst (ns.map D.int))] = some (.fr [.lst ((cellsOf ns).map D.int), .int 0, .int 0, .int 0], [.im (.lst (ns.map D.int))]) := by
  rw [tn_run hf rfl]
  unfold cLawPurse
  dsimp only
  have p60 : CPow 10 60 := ⟨by decide, by decide, by decide +kernel⟩
  have e60 : (10 : Int) ^ (60 : Int).toNat = 10 ^ 60 := rfl
  have m60 : CMulW (10 ^ 60) (10 ^ 60) := wide_mul (a := 250) (b := 250) (by decide +kernel) (by decide +kernel) (by decide) (by decide) (by decide)
  have b0 : (0 : Int) < 10 ^ 60 * 10 ^ 60 := by decide +kernel
  have hl : (ns.map D.int).length ≤ 100000 := by rw [List.length_map]; exact hn
  have hg := lc_map (f := ee G (Tn G k) md false (.bin .Mod (.blt .int [.var 1]) (.bin .Mult (.bin .Pow (.int 10) (.int 60)) (.bin .Pow (.int 10) (.int 60))))) (i := 1) (δ := [some (.im (.lst (ns.map D.int))), none]) rfl (fun x => match x with
    | .int c => .int (c % big)
    | x => x) (xs := ns.map D.int) (fun x hx => by
      obtain ⟨c, _, rfl⟩ := List.mem_map.mp hx
      simp only [env0, evB, evC, ee, evs, ebs, ets, fin, bR, bA, bB, truD, backS, Rz.d, isOwn, setAll, isCal, gloCall, argsOf, cmpD, eqD, negD, binD, intOp, bltD, List.map_cons, List.map_nil, List.length_cons, List.length_nil, List.replicate_succ, List.replicate_zero, List.append_nil, List.cons_append, List.nil_append, List.getElem?_cons_zero, List.getElem?_cons_succ, List.set_cons_zero, List.set_cons_succ, Option.map_some, Option.map_none, Option.bind_some, Option.bind_none, if_true, if_false, reduceIte, Bool.false_eq_true, Bool.not_true, Bool.not_false, Nat.reduceAdd, Nat.reduceSub, Nat.sub_self, List.any_cons, List.any_nil, Bool.or_false, Bool.false_or, Bool.or_self, Bool.and_true, Bool.and_self, Bool.and_false, Bool.false_and, Bool.true_and, Nat.reduceLeDiff, Nat.reduceEqDiff, decide_true, decide_false, Bool.true_eq_false, reduceCtorEq, and_self, and_true, true_and, ne_eq, not_true_eq_false, not_false_eq_true, req_pos p60, e60, req_pos m60, req_pos b0, big])
  have e : (cellsOf ns).map D.int = (ns.map D.int).map (fun x => match x with
    | .int c => .int (c % big)
    | x => x) := by
    unfold cellsOf
    rw [List.map_map, List.map_map]
    rfl
  rw [e]
  have hlc := ee_lc (G := G) (T := Tn G k) (md := md) (g := .one 1) (kd := .seq) (its := [.var 0]) (ifs := []) (ds := [.lst (ns.map D.int)]) (δ := [some (.im (.lst (ns.map D.int))), none]) (δ1 := [some (.im (.lst (ns.map D.int))), none]) (by simp only [env0, evB, evC, ee, evs, ebs, ets, fin, bR, bA, bB, truD, backS, Rz.d, isOwn, setAll, isCal, gloCall, argsOf, cmpD, eqD, negD, binD, intOp, bltD, List.map_cons, List.map_nil, List.length_cons, List.length_nil, List.replicate_succ, List.replicate_zero, List.append_nil, List.cons_append, List.nil_append, List.getElem?_cons_zero, List.getElem?_cons_succ, List.set_cons_zero, List.set_cons_succ, Option.map_some, Option.map_none, Option.bind_some, Option.bind_none, if_true, if_false, reduceIte, Bool.false_eq_true, Bool.not_true, Bool.not_false, Nat.reduceAdd, Nat.reduceSub, Nat.sub_self, List.any_cons, List.any_nil, Bool.or_false, Bool.false_or, Bool.or_self, Bool.and_true, Bool.and_self, Bool.and_false, Bool.false_and, Bool.true_and, Nat.reduceLeDiff, Nat.reduceEqDiff, decide_true, decide_false, Bool.true_eq_false, reduceCtorEq, and_self, and_true, true_and, ne_eq, not_true_eq_false, not_false_eq_true]) rfl rfl hl hg
  rw [show env0 ["_law_script", "_law_cell"] [S.im (.lst (ns.map D.int))] = [some (.im (.lst (ns.map D.int))), none] from rfl]
  simp only [env0, evB, evC, ee, evs, ebs, ets, fin, bR, bA, bB, truD, backS, Rz.d, isOwn, setAll, isCal, gloCall, argsOf, cmpD, eqD, negD, binD, intOp, bltD, List.map_cons, List.map_nil, List.length_cons, List.length_nil, List.replicate_succ, List.replicate_zero, List.append_nil, List.cons_append, List.nil_append, List.getElem?_cons_zero, List.getElem?_cons_succ, List.set_cons_zero, List.set_cons_succ, Option.map_some, Option.map_none, Option.bind_some, Option.bind_none, if_true, if_false, reduceIte, Bool.false_eq_true, Bool.not_true, Bool.not_false, Nat.reduceAdd, Nat.reduceSub, Nat.sub_self, List.any_cons, List.any_nil, Bool.or_false, Bool.false_or, Bool.or_self, Bool.and_true, Bool.and_self, Bool.and_false, Bool.false_and, Bool.true_and, Nat.reduceLeDiff, Nat.reduceEqDiff, decide_true, decide_false, Bool.true_eq_false, reduceCtorEq, and_self, and_true, true_and, ne_eq, not_true_eq_false, not_false_eq_true, req_true, ↓hlc]
theorem from_ok (hf : G.fns "_law_from" = some cLawFrom) (hp : G.fns "_law_purse" = some cLawPurse) (gp : G.glo "_law_purse" = some (.fn "_law_purse")) (pp : G.pat "_law_purse" 1 [] = some [.inl 0]) (a : Addr) (ns : List Int) (j : Int) (hn : ns.length ≤ 63) :
    ∃ ms : List Int, Tn G (k + 2) md "_law_from" [.im (.scr G.K a ns), .im (.int j)] = some (.fr [.lst ((cellsOf ms).map D.int), .int 0, .int 0, .int 0], [.im (.scr G.K a ns), .im (.int j)]) := by
  refine ⟨ns.drop (HT.sIx ns.length 0 (some j)) ++ ns.take (HT.sIx ns.length ns.length (some j)), ?_⟩
  have hl : (ns.drop (HT.sIx ns.length 0 (some j)) ++ ns.take (HT.sIx ns.length ns.length (some j))).length ≤ 100000 := by
    rw [List.length_append, List.length_drop, List.length_take]
    omega
  have hpo := purse_ok (G := G) k md hp _ hl
  rw [tn_run hf rfl]
  unfold cLawFrom
  dsimp only
  have hl2 := hl
  rw [List.length_append] at hl2
  rw [List.map_append] at hpo
  simp only [env0, evB, evC, ee, evs, ebs, ets, fin, bR, bA, bB, truD, backS, Rz.d, isOwn, setAll, isCal, gloCall, argsOf, cmpD, eqD, negD, binD, intOp, bltD, List.map_cons, List.map_nil, List.length_cons, List.length_nil, List.replicate_succ, List.replicate_zero, List.append_nil, List.cons_append, List.nil_append, List.getElem?_cons_zero, List.getElem?_cons_succ, List.set_cons_zero, List.set_cons_succ, Option.map_some, Option.map_none, Option.bind_some, Option.bind_none, if_true, if_false, reduceIte, Bool.false_eq_true, Bool.not_true, Bool.not_false, Nat.reduceAdd, Nat.reduceSub, Nat.sub_self, List.any_cons, List.any_nil, Bool.or_false, Bool.false_or, Bool.or_self, Bool.and_true, Bool.and_self, Bool.and_false, Bool.false_and, Bool.true_and, Nat.reduceLeDiff, Nat.reduceEqDiff, decide_true, decide_false, Bool.true_eq_false, reduceCtorEq, and_self, and_true, true_and, ne_eq, not_true_eq_false, not_false_eq_true, req_true, gp, pp, List.length_map, req_pos hl2, hpo]
end
end RE
set_option Elab.async false
set_option linter.all false
set_option maxRecDepth 100000
set_option autoImplicit false
set_option maxHeartbeats 1000000
set_option exponentiation.threshold 20000
/-! RG: the law's own helpers for fractions, read. -/
namespace RE
open PySem L2 TL MA
def cLawCommon : Fc := { ps := ["_law_one", "_law_two"], N := ["_law_one", "_law_two", "_law_high", "_law_low"], po := true, body := [.par [2, 3] [.blt .abs [.var 0], .blt .abs [.var 1]],
    .whl (.cmp .Gt (.var 3) (.int 0)) [.par [2, 3] [.var 3, .bin .Mod (.blt .int [.var 2]) (.var 3)]],
    .ret (.var 2)] }
def cLawLowest : Fc := { ps := ["_law_high", "_law_under"], N := ["_law_high", "_law_under", "_law_both"], po := true, body := [.set 2 (.ifx (.cmp .Gt (.var 1) (.int 0)) (.call "_law_common" [.var 0, .var 1] [] []) (.neg (.call "_law_common" [.var 0, .var 1] [] []))),
    .ret (.tup [.bin .FloorDiv (.var 0) (.var 2), .bin .FloorDiv (.var 1) (.var 2)])] }
def cLawDigits : Fc := { ps := ["_law_pair"], N := ["_law_pair"], po := true, body := [.ret (.ifx (.cmp .Eq (.sub (.var 0) (.int 1)) (.int 1)) (.blt .str [.sub (.var 0) (.int 0)]) (.bin .Add (.bin .Add (.blt .str [.sub (.var 0) (.int 0)]) (.str "/")) (.blt .str [.sub (.var 0) (.int 1)])))] }
def cLawSmall : Fc := { ps := ["_law_q", "_law_most"], N := ["_law_q", "_law_most", "_law_far"], po := true, body := [.set 2 (.sub (.lst [.int 3, .int 10, .int 60, .bin .Pow (.int 10) (.int 6), .var 1]) (.callO "_law_draw" 0 [.int 5])),
    .ret (.bin .Mult (.sub (.lst [.int 1, .neg (.int 1)]) (.callO "_law_draw" 0 [.int 2])) (.bin .Add (.bin .Mult (.callO "_law_draw" 0 [.int 60]) (.bin .Add (.bin .FloorDiv (.var 2) (.int 60)) (.int 1))) (.callO "_law_draw" 0 [.int 60])))] }
structure HLw (G : Gx) : Prop where
  fDR : G.fns "_law_draw" = some cLawDraw
  fCM : G.fns "_law_common" = some cLawCommon
  fLO : G.fns "_law_lowest" = some cLawLowest
  fDI : G.fns "_law_digits" = some cLawDigits
  fSM : G.fns "_law_small" = some cLawSmall
  gDR : G.glo "_law_draw" = some (.fn "_law_draw")
  gCM : G.glo "_law_common" = some (.fn "_law_common")
  gLO : G.glo "_law_lowest" = some (.fn "_law_lowest")
  gDI : G.glo "_law_digits" = some (.fn "_law_digits")
  gSM : G.glo "_law_small" = some (.fn "_law_small")
  pCM : G.pat "_law_common" 2 [] = some [.inl 0, .inl 1]
  pLO : G.pat "_law_lowest" 2 [] = some [.inl 0, .inl 1]
  pDI : G.pat "_law_digits" 1 [] = some [.inl 0]
theorem logL {n : Nat} (hn : n < 2 ^ 9000) : n.log2 < 9000 := by
  by_cases h0 : n = 0
  · subst h0; decide
  · exact (Nat.log2_lt h0).mpr hn
section
variable {G : Gx} (h : HLw G) (k : Nat) (md : Md)
include h
theorem lcommon_ok (i j : Int) (hj : j.natAbs < 2 ^ 9000) : Tn G (k + 1) md "_law_common" [.im (.int i), .im (.int j)] = some (.im (.int (Int.gcd i j : Int)), [.im (.int i), .im (.int j)]) := by
  rw [tn_run h.fCM rfl]
  have key := gcd_loop (G := G) (T := Tn G k) (md := md) (e := .bin .Mod (.blt .int [.var 2]) (.var 3)) (fun δ a b hb h2 h3 => by simp [ee, evs, h2, h3, binD, intOp, bltD, bR, bA, fin, req_pos hb]) (.im (.int i)) (.im (.int j)) i.natAbs j.natAbs hj
  have s1 : evC G (Tn G k) md (.par [2, 3] [.blt .abs [.var 0], .blt .abs [.var 1]]) (env0 ["_law_one", "_law_two", "_law_high", "_law_low"] [.im (.int i), .im (.int j)]) = some (.nx [some (.im (.int i)), some (.im (.int j)), some (.im (.int (i.natAbs : Int))), some (.im (.int (j.natAbs : Int)))]) := by
    simp [env0, evC, evs, ee, bltD, bR, bA, fin, isOwn, setAll, abs_if]
  unfold cLawCommon
  dsimp only
  rw [evB_nx s1, evB_nx (evC_whl.trans key)]
  simp [evB, evC, ee, fin, backS, Int.gcd]
theorem lowest_ok (t b : Int) (hb : b ≠ 0) (hz : b.natAbs < 2 ^ 9000) : Tn G (k + 2) md "_law_lowest" [.im (.int t), .im (.int b)] = some (.im (.tup [.int (lN t b), .int (lD t b)]), [.im (.int t), .im (.int b)]) := by
  have hs : CDiv (sh t b) := ⟨sh_ne hb, logL (Nat.lt_of_le_of_lt (sh_le hb) hz)⟩
  rw [tn_run h.fLO rfl]
  have hco := lcommon_ok h k md t b hz
  unfold cLawLowest
  dsimp only
  by_cases hp : 0 < b
  · have hsh : (Int.gcd t b : Int) = sh t b := by unfold sh; rw [if_pos hp]
    simp only [env0, evB, evC, ee, evs, ebs, ets, fin, bR, bA, bB, truD, backS, Rz.d, isOwn, setAll, isCal, gloCall, argsOf, cmpD, eqD, negD, binD, intOp, bltD, List.map_cons, List.map_nil, List.length_cons, List.length_nil, List.replicate_succ, List.replicate_zero, List.append_nil, List.cons_append, List.nil_append, List.getElem?_cons_zero, List.getElem?_cons_succ, List.set_cons_zero, List.set_cons_succ, Option.map_some, Option.map_none, Option.bind_some, Option.bind_none, if_true, if_false, reduceIte, Bool.false_eq_true, Bool.not_true, Bool.not_false, Nat.reduceAdd, Nat.reduceSub, Nat.sub_self, List.any_cons, List.any_nil, Bool.or_false, Bool.false_or, Bool.or_self, Bool.and_true, Bool.and_self, Bool.and_false, Bool.false_and, Bool.true_and, Nat.reduceLeDiff, Nat.reduceEqDiff, decide_true, decide_false, Bool.true_eq_false, reduceCtorEq, and_self, and_true, true_and, ne_eq, not_true_eq_false, not_false_eq_true, req_true, hp, h.gCM, h.pCM, hco, hsh, req_pos hs, lN, lD]
  · have hsh : -(Int.gcd t b : Int) = sh t b := by unfold sh; rw [if_neg hp]
    simp only [env0, evB, evC, ee, evs, ebs, ets, fin, bR, bA, bB, truD, backS, Rz.d, isOwn, setAll, isCal, gloCall, argsOf, cmpD, eqD, negD, binD, intOp, bltD, List.map_cons, List.map_nil, List.length_cons, List.length_nil, List.replicate_succ, List.replicate_zero, List.append_nil, List.cons_append, List.nil_append, List.getElem?_cons_zero, List.getElem?_cons_succ, List.set_cons_zero, List.set_cons_succ, Option.map_some, Option.map_none, Option.bind_some, Option.bind_none, if_true, if_false, reduceIte, Bool.false_eq_true, Bool.not_true, Bool.not_false, Nat.reduceAdd, Nat.reduceSub, Nat.sub_self, List.any_cons, List.any_nil, Bool.or_false, Bool.false_or, Bool.or_self, Bool.and_true, Bool.and_self, Bool.and_false, Bool.false_and, Bool.true_and, Nat.reduceLeDiff, Nat.reduceEqDiff, decide_true, decide_false, Bool.true_eq_false, reduceCtorEq, and_self, and_true, true_and, ne_eq, not_true_eq_false, not_false_eq_true, req_true, hp, h.gCM, h.pCM, hco, hsh, req_pos hs, lN, lD]
theorem digits_ok (n d : Int) (hn : n.natAbs.log2 < 1000) (hd : d.natAbs.log2 < 1000) : Tn G (k + 1) md "_law_digits" [.im (.tup [.int n, .int d])] = some (.im (.str (ratStr n d)), [.im (.tup [.int n, .int d])]) := by
  have ln := int_len hn
  have ld := int_len hd
  have l1 : (Str.ofString (toString n)).length + (Str.ofString "/").length ≤ sizeLine := by
    have : (Str.ofString "/").length = 1 := rfl
    have : 5000 ≤ sizeLine := by decide
    omega
  have l2 : (Str.ofString (toString n) ++ Str.ofString "/").length + (Str.ofString (toString d)).length ≤ sizeLine := by
    rw [app_len]
    have : (Str.ofString "/").length = 1 := rfl
    have : 5000 ≤ sizeLine := by decide
    omega
  have wn : n.natAbs.log2 < 1920 := by omega
  have wd : d.natAbs.log2 < 1920 := by omega
  have a0 : subD (.tup [.int n, .int d]) (.int 0) = some (.int n) := rfl
  have a1 : subD (.tup [.int n, .int d]) (.int 1) = some (.int d) := rfl
  rw [tn_run h.fDI rfl]
  unfold cLawDigits
  dsimp only
  by_cases hp : d = 1
  · subst hp
    simp only [env0, evB, evC, ee, evs, ebs, ets, fin, bR, bA, bB, truD, backS, Rz.d, isOwn, setAll, isCal, gloCall, argsOf, cmpD, eqD, negD, binD, intOp, bltD, List.map_cons, List.map_nil, List.length_cons, List.length_nil, List.replicate_succ, List.replicate_zero, List.append_nil, List.cons_append, List.nil_append, List.getElem?_cons_zero, List.getElem?_cons_succ, List.set_cons_zero, List.set_cons_succ, Option.map_some, Option.map_none, Option.bind_some, Option.bind_none, if_true, if_false, reduceIte, Bool.false_eq_true, Bool.not_true, Bool.not_false, Nat.reduceAdd, Nat.reduceSub, Nat.sub_self, List.any_cons, List.any_nil, Bool.or_false, Bool.false_or, Bool.or_self, Bool.and_true, Bool.and_self, Bool.and_false, Bool.false_and, Bool.true_and, Nat.reduceLeDiff, Nat.reduceEqDiff, decide_true, decide_false, Bool.true_eq_false, reduceCtorEq, and_self, and_true, true_and, ne_eq, not_true_eq_false, not_false_eq_true, a0, a1, req_pos wn, ratStr]
  · simp only [env0, evB, evC, ee, evs, ebs, ets, fin, bR, bA, bB, truD, backS, Rz.d, isOwn, setAll, isCal, gloCall, argsOf, cmpD, eqD, negD, binD, intOp, bltD, List.map_cons, List.map_nil, List.length_cons, List.length_nil, List.replicate_succ, List.replicate_zero, List.append_nil, List.cons_append, List.nil_append, List.getElem?_cons_zero, List.getElem?_cons_succ, List.set_cons_zero, List.set_cons_succ, Option.map_some, Option.map_none, Option.bind_some, Option.bind_none, if_true, if_false, reduceIte, Bool.false_eq_true, Bool.not_true, Bool.not_false, Nat.reduceAdd, Nat.reduceSub, Nat.sub_self, List.any_cons, List.any_nil, Bool.or_false, Bool.false_or, Bool.or_self, Bool.and_true, Bool.and_self, Bool.and_false, Bool.false_and, Bool.true_and, Nat.reduceLeDiff, Nat.reduceEqDiff, decide_true, decide_false, Bool.true_eq_false, reduceCtorEq, and_self, and_true, true_and, ne_eq, not_true_eq_false, not_false_eq_true, a0, a1, hp, req_pos wn, req_pos wd, req_pos l1, req_pos l2, ratStr]
theorem small_ok (p : PU.Pu) (n : Nat) (hok : PU.Ok n p) (hn : n ≤ 900000) (M : Int) (h0 : 0 ≤ M) (h1 : M ≤ 10 ^ 20) : ∃ v p', Tn G (k + 2) md "_law_small" [.own (puD p), .im (.int M)] = some (.im (.int v), [.own (puD p'), .im (.int M)]) ∧ PU.Ok (n + 4) p' ∧ v.natAbs ≤ 2 * 10 ^ 21 := by
  have d1 := draw_ok h.fDR k md p 5 n hok (by omega) (by decide) (by decide)
  have k1 := PU.draw_ok (m := 5) hok
  have r1 := PU.draw_bd (p := p) (m := 5) (by decide)
  generalize PU.draw p 5 = z1 at *
  obtain ⟨x1, p1⟩ := z1
  have d2 := draw_ok h.fDR k md p1 2 _ k1 (by omega) (by decide) (by decide)
  have k2 := PU.draw_ok (m := 2) k1
  have r2 := PU.draw_bd (p := p1) (m := 2) (by decide)
  dsimp only at *
  generalize PU.draw p1 2 = z2 at *
  obtain ⟨x2, p2⟩ := z2
  have d3 := draw_ok h.fDR k md p2 60 _ k2 (by omega) (by decide) (by decide)
  have k3 := PU.draw_ok (m := 60) k2
  have r3 := PU.draw_bd (p := p2) (m := 60) (by decide)
  dsimp only at *
  generalize PU.draw p2 60 = z3 at *
  obtain ⟨x3, p3⟩ := z3
  have d4 := draw_ok h.fDR k md p3 60 _ k3 (by omega) (by decide) (by decide)
  have k4 := PU.draw_ok (m := 60) k3
  have r4 := PU.draw_bd (p := p3) (m := 60) (by decide)
  dsimp only at *
  generalize PU.draw p3 60 = z4 at *
  obtain ⟨x4, p4⟩ := z4
  dsimp only at *
  have p6 : CPow 10 6 := ⟨by decide, by decide, by decide +kernel⟩
  have e6 : (10 : Int) ^ (6 : Int).toNat = 10 ^ 6 := rfl
  have cd60 : CDiv 60 := cdiv_small (by decide) (by decide)
  have e60 : ∀ x : Int, x.fdiv 60 = x / 60 := fun x => fdiv_pos (by decide)
  obtain ⟨f, hf, f0, f1⟩ : ∃ f : Int, atI [D.int 3, .int 10, .int 60, .int (10 ^ 6), .int M] x1 = some (.int f) ∧ 0 ≤ f ∧ f ≤ 10 ^ 20 := by
    have : x1 = 0 ∨ x1 = 1 ∨ x1 = 2 ∨ x1 = 3 ∨ x1 = 4 := by omega
    rcases this with rfl | rfl | rfl | rfl | rfl
    · exact ⟨3, rfl, by decide, by decide⟩
    · exact ⟨10, rfl, by decide, by decide⟩
    · exact ⟨60, rfl, by decide, by decide⟩
    · exact ⟨10 ^ 6, rfl, by decide, by decide⟩
    · exact ⟨M, rfl, h0, h1⟩
  obtain ⟨s, hs, s1⟩ : ∃ s : Int, atI [D.int 1, .int (-1)] x2 = some (.int s) ∧ (s = 1 ∨ s = -1) := by
    have : x2 = 0 ∨ x2 = 1 := by omega
    rcases this with rfl | rfl
    · exact ⟨1, rfl, .inl rfl⟩
    · exact ⟨-1, rfl, .inr rfl⟩
  have q0 : 0 ≤ f / 60 + 1 ∧ f / 60 + 1 ≤ 10 ^ 19 := by omega
  have m1 : CMulW x3 (f / 60 + 1) := cm_small (by omega) (by omega)
  have b0 : 0 ≤ x3 * (f / 60 + 1) := Int.mul_nonneg r3.1 q0.1
  have b1 : x3 * (f / 60 + 1) ≤ 60 * 10 ^ 19 := Int.mul_le_mul (by omega) q0.2 q0.1 (by decide)
  have m2 : CMulW s (x3 * (f / 60 + 1) + x4) := cm_small (by omega) (by omega)
  refine ⟨s * (x3 * (f / 60 + 1) + x4), p4, ?_, k4, ?_⟩
  · rw [tn_run h.fSM rfl]
    unfold cLawSmall
    dsimp only
    simp only [env0, evB, evC, ee, evs, ebs, ets, fin, bR, bA, bB, truD, backS, Rz.d, isOwn, setAll, isCal, gloCall, argsOf, cmpD, eqD, negD, binD, intOp, bltD, List.map_cons, List.map_nil, List.length_cons, List.length_nil, List.replicate_succ, List.replicate_zero, List.append_nil, List.cons_append, List.nil_append, List.getElem?_cons_zero, List.getElem?_cons_succ, List.set_cons_zero, List.set_cons_succ, Option.map_some, Option.map_none, Option.bind_some, Option.bind_none, if_true, if_false, reduceIte, Bool.false_eq_true, Bool.not_true, Bool.not_false, Nat.reduceAdd, Nat.reduceSub, Nat.sub_self, List.any_cons, List.any_nil, Bool.or_false, Bool.false_or, Bool.or_self, Bool.and_true, Bool.and_self, Bool.and_false, Bool.false_and, Bool.true_and, Nat.reduceLeDiff, Nat.reduceEqDiff, decide_true, decide_false, Bool.true_eq_false, reduceCtorEq, and_self, and_true, true_and, ne_eq, not_true_eq_false, not_false_eq_true, req_true, sub_l, h.gDR, h.fDR, cLawDraw, ownCall, d1, d2, d3, d4, req_pos p6, e6, hf, hs, req_pos cd60, e60, req_pos m1, req_pos m2]
  · rcases s1 with rfl | rfl <;> omega
end
end RE
set_option Elab.async false
set_option linter.all false
set_option maxRecDepth 100000
set_option autoImplicit false
set_option maxHeartbeats 1000000
set_option exponentiation.threshold 20000
/-! RH: the law's comparison of a fraction with its pair, read. -/
namespace RE
open PySem L2 TL MA
def cLawFits : Fc := { ps := ["_law_one", "_law_pair"], N := ["_law_one", "_law_pair", "_law_told", "_law_due"], po := true, body := [.set 2 (.lst [.att (.var 0) "top", .att (.var 0) "bottom", .att (.var 0) "top", .blt .str [.var 0], .blt .repr [.var 0], .blt .bool [.var 0]]),
    .set 3 (.lst [.sub (.var 1) (.int 0), .sub (.var 1) (.int 1), .sub (.var 1) (.int 0), .call "_law_digits" [.var 1] [] [], .bin .Add (.bin .Add (.bin .Add (.bin .Add (.str "Ratio(") (.blt .str [.sub (.var 1) (.int 0)])) (.str ", ")) (.blt .str [.sub (.var 1) (.int 1)])) (.str ")")]),
    .ret (.cmp .Eq (.blt .repr [.var 2]) (.blt .repr [.bin .Add (.var 3) (.lst [.cmp .NotEq (.sub (.var 1) (.int 0)) (.int 0)])]))] }
theorem ok_ofS (s : String) : PyData.strOk (Str.ofString s) = true := by
  unfold PyData.strOk
  rw [Str.ofString_eq_toList]
  simp only [List.all_toArray, List.all_map, List.all_eq_true]
  intro c _
  refine decide_eq_true ?_
  show c.val.toNat < 0x110000
  have h : (c.val.toNat).isValidChar := c.valid
  unfold Nat.isValidChar at h
  omega
theorem ok_app (a b : Str) (h1 : PyData.strOk a = true) (h2 : PyData.strOk b = true) : PyData.strOk (a ++ b) = true := by
  unfold PyData.strOk at *
  rw [Str.cps_append, Array.all_append, h1, h2]
  rfl
section
variable {G : Gx} {A : Addr} (h : HRat G A) (l : HLw G) (k : Nat) (md : Md)
include h
theorem blt_str (n d : Int) (hn : n.natAbs.log2 < 1000) (hd : d.natAbs.log2 < 1000) : bltD G (Tn G (k + 2)) md .str [rat A n d] = some (.im (.str (ratStr n d))) := by
  have := str_ok h k md n d hn hd
  unfold rat at *
  simp only [bltD, (show G.own A "__str__" = some (Str.ofString "Ratio.__str__") from h.oST), callD, h.fST, Option.bind_some, cRatioStr, if_true, List.map_cons, List.map_nil, this, Option.map_some]
theorem blt_bool (n d : Int) : bltD G (Tn G (k + 2)) md .bool [rat A n d] = some (.im (.bl (n != 0))) := by
  have := bool_ok h k md n d
  unfold rat at *
  simp only [bltD, (show G.own A "__bool__" = some (Str.ofString "Ratio.__bool__") from h.oBO), callD, h.fBO, Option.bind_some, cRatioBool, if_true, List.map_cons, List.map_nil, this, Option.map_some]
theorem rep_ok (n d : Int) (hn : n.natAbs.log2 < 1000) (hd : d.natAbs.log2 < 1000) : reprD G (Tn G (k + 2)) md (rat A n d) = some (ratRepr n d) := by
  have := repr_ok h k md n d hn hd
  unfold rat at *
  simp only [reprD, (show G.own A "__repr__" = some (Str.ofString "Ratio.__repr__") from h.oRE), callD, h.fRE, Option.bind_some, cRatioRepr, if_true, List.map_cons, List.map_nil, this, Option.map_some]
theorem blt_repr (hk : md.gk = true) (n d : Int) (hn : n.natAbs.log2 < 1000) (hd : d.natAbs.log2 < 1000) : bltD G (Tn G (k + 2)) md .repr [rat A n d] = some (.im (.str (ratRepr n d))) := by
  have := rep_ok h k md n d hn hd
  unfold rat at *
  simp only [bltD, this, req_pos hk, Option.map_some]
omit h in
theorem rep_data {T : Tb} {xs : List D} (h1 : D.Ok (.lst xs)) (h2 : D.wt (.lst xs) ≤ 20000) (h3 : (D.lst xs).py.depth ≤ 60) (hk : md.gk = true) : bltD G T md .repr [.lst xs] = some (.im (.str (D.lst xs).py.shown)) := by
  simp only [bltD, reprD, req_pos hk, h1, h2, h3, and_self, if_true, Option.map_some]
theorem len_str {n d : Int} (hn : n.natAbs.log2 < 1000) (hd : d.natAbs.log2 < 1000) : (ratStr n d).length ≤ 2003 := by
  have ln := int_len hn
  have ld := int_len hd
  unfold ratStr
  split
  · exact Nat.le_trans ln (by decide)
  · rw [app_len, app_len]
    have : (Str.ofString "/").length = 1 := rfl
    omega
theorem len_repr {n d : Int} (hn : n.natAbs.log2 < 1000) (hd : d.natAbs.log2 < 1000) : (ratRepr n d).length ≤ 2011 := by
  have ln := int_len hn
  have ld := int_len hd
  unfold ratRepr
  rw [app_len, app_len, app_len, app_len]
  have : (Str.ofString "Ratio(").length = 6 := rfl
  have : (Str.ofString ", ").length = 2 := rfl
  have : (Str.ofString ")").length = 1 := rfl
  omega
theorem okStr (n d : Int) : PyData.strOk (ratStr n d) = true := by
  unfold ratStr
  split
  · exact ok_ofS _
  · exact ok_app _ _ (ok_app _ _ (ok_ofS _) (ok_ofS _)) (ok_ofS _)
theorem okRepr (n d : Int) : PyData.strOk (ratRepr n d) = true := by
  unfold ratRepr
  exact ok_app _ _ (ok_app _ _ (ok_app _ _ (ok_app _ _ (ok_ofS _) (ok_ofS _)) (ok_ofS _)) (ok_ofS _)) (ok_ofS _)
include l
theorem fits_ok (hf : G.fns "_law_fits" = some cLawFits) (hk : md.gk = true) (n d : Int) (hn : n.natAbs.log2 < 500) (hd : d.natAbs.log2 < 500) : Tn G (k + 3) md "_law_fits" [.im (rat A n d), .im (.tup [.int n, .int d])] = some (.im (.bl true), [.im (rat A n d), .im (.tup [.int n, .int d])]) := by
  have hn' : n.natAbs.log2 < 1000 := by omega
  have hd' : d.natAbs.log2 < 1000 := by omega
  have wn : n.natAbs.log2 < 1920 := by omega
  have wd : d.natAbs.log2 < 1920 := by omega
  have ln := int_len hn'
  have ld := int_len hd'
  have ls := len_str h hn' hd'
  have lr := len_repr h hn' hd'
  have z1 : (Str.ofString "Ratio(").length = 6 := rfl
  have z2 : (Str.ofString ", ").length = 2 := rfl
  have z3 : (Str.ofString ")").length = 1 := rfl
  have z : 5000 ≤ sizeLine := by decide
  have l1 : (Str.ofString "Ratio(").length + (Str.ofString (toString n)).length ≤ sizeLine := by omega
  have l2 : (Str.ofString "Ratio(" ++ Str.ofString (toString n)).length + (Str.ofString ", ").length ≤ sizeLine := by rw [app_len]; omega
  have l3 : (Str.ofString "Ratio(" ++ Str.ofString (toString n) ++ Str.ofString ", ").length + (Str.ofString (toString d)).length ≤ sizeLine := by rw [app_len, app_len]; omega
  have l4 : (Str.ofString "Ratio(" ++ Str.ofString (toString n) ++ Str.ofString ", " ++ Str.ofString (toString d)).length + (Str.ofString ")").length ≤ sizeLine := by rw [app_len, app_len, app_len]; omega
  have hr : Str.ofString "Ratio(" ++ Str.ofString (toString n) ++ Str.ofString ", " ++ Str.ofString (toString d) ++ Str.ofString ")" = ratRepr n d := rfl
  have a0 : subD (.tup [.int n, .int d]) (.int 0) = some (.int n) := rfl
  have a1 : subD (.tup [.int n, .int d]) (.int 1) = some (.int d) := rfl
  have t1 := att_top h (k + 1) md n d
  have t2 := att_bottom h (k + 1) md n d
  have t3 := blt_str h k md n d hn' hd'
  have t4 := blt_repr h k md hk n d hn' hd'
  have t5 := blt_bool h k md n d
  have dg := digits_ok l (k + 1) md n d hn' hd'
  have rp := rep_data (G := G) (T := Tn G (k + 2)) (md := md) (xs := [.int n, .int d, .int n, .str (ratStr n d), .str (ratRepr n d), .bl (n != 0)]) ⟨by show _ < 600; omega, by show _ < 600; omega, by show _ < 600; omega, okStr h n d, okRepr h n d, trivial, trivial⟩ (by
    show 700 + 1 + (700 + 1 + (700 + 1 + ((ratStr n d).length + 1 + ((ratRepr n d).length + 1 + (0 + 1 + 0))))) ≤ 20000
    omega) (Nat.le_of_ble_eq_true rfl) hk
  have e0 : (!decide (n = 0)) = (n != 0) := by
    by_cases hh : n = 0 <;> simp [hh]
  rw [tn_run hf rfl]
  unfold cLawFits
  dsimp only
  rw [evB_nx (δ1 := [some (.im (rat A n d)), some (.im (.tup [.int n, .int d])), some (.im (.lst [.int n, .int d, .int n, .str (ratStr n d), .str (ratRepr n d), .bl (n != 0)])), none]) ?h]
  case h => simp only [env0, evB, evC, ee, evs, ebs, ets, fin, bR, bA, bB, truD, backS, Rz.d, isOwn, setAll, isCal, gloCall, argsOf, cmpD, eqD, negD, binD, intOp, bltD, List.map_cons, List.map_nil, List.length_cons, List.length_nil, List.replicate_succ, List.replicate_zero, List.append_nil, List.cons_append, List.nil_append, List.getElem?_cons_zero, List.getElem?_cons_succ, List.set_cons_zero, List.set_cons_succ, Option.map_some, Option.map_none, Option.bind_some, Option.bind_none, if_true, if_false, reduceIte, Bool.false_eq_true, Bool.not_true, Bool.not_false, Nat.reduceAdd, Nat.reduceSub, Nat.sub_self, List.any_cons, List.any_nil, Bool.or_false, Bool.false_or, Bool.or_self, Bool.and_true, Bool.and_self, Bool.and_false, Bool.false_and, Bool.true_and, Nat.reduceLeDiff, Nat.reduceEqDiff, decide_true, decide_false, Bool.true_eq_false, reduceCtorEq, and_self, and_true, true_and, ne_eq, not_true_eq_false, not_false_eq_true, req_true, t1, t2, ↓t3, ↓t4, ↓t5]
  rw [evB_nx (δ1 := [some (.im (rat A n d)), some (.im (.tup [.int n, .int d])), some (.im (.lst [.int n, .int d, .int n, .str (ratStr n d), .str (ratRepr n d), .bl (n != 0)])), some (.im (.lst [.int n, .int d, .int n, .str (ratStr n d), .str (ratRepr n d)]))]) ?h]
  case h => simp only [env0, evB, evC, ee, evs, ebs, ets, fin, bR, bA, bB, truD, backS, Rz.d, isOwn, setAll, isCal, gloCall, argsOf, cmpD, eqD, negD, binD, intOp, bltD, List.map_cons, List.map_nil, List.length_cons, List.length_nil, List.replicate_succ, List.replicate_zero, List.append_nil, List.cons_append, List.nil_append, List.getElem?_cons_zero, List.getElem?_cons_succ, List.set_cons_zero, List.set_cons_succ, Option.map_some, Option.map_none, Option.bind_some, Option.bind_none, if_true, if_false, reduceIte, Bool.false_eq_true, Bool.not_true, Bool.not_false, Nat.reduceAdd, Nat.reduceSub, Nat.sub_self, List.any_cons, List.any_nil, Bool.or_false, Bool.false_or, Bool.or_self, Bool.and_true, Bool.and_self, Bool.and_false, Bool.false_and, Bool.true_and, Nat.reduceLeDiff, Nat.reduceEqDiff, decide_true, decide_false, Bool.true_eq_false, reduceCtorEq, and_self, and_true, true_and, ne_eq, not_true_eq_false, not_false_eq_true, req_true, a0, a1, req_pos wn, req_pos wd, l.gDI, l.pDI, dg, req_pos l1, req_pos l2, req_pos l3, req_pos l4, hr]
  simp only [env0, evB, evC, ee, evs, ebs, ets, fin, bR, bA, bB, truD, backS, Rz.d, isOwn, setAll, isCal, gloCall, argsOf, cmpD, eqD, negD, binD, intOp, bltD, List.map_cons, List.map_nil, List.length_cons, List.length_nil, List.replicate_succ, List.replicate_zero, List.append_nil, List.cons_append, List.nil_append, List.getElem?_cons_zero, List.getElem?_cons_succ, List.set_cons_zero, List.set_cons_succ, Option.map_some, Option.map_none, Option.bind_some, Option.bind_none, if_true, if_false, reduceIte, Bool.false_eq_true, Bool.not_true, Bool.not_false, Nat.reduceAdd, Nat.reduceSub, Nat.sub_self, List.any_cons, List.any_nil, Bool.or_false, Bool.false_or, Bool.or_self, Bool.and_true, Bool.and_self, Bool.and_false, Bool.false_and, Bool.true_and, Nat.reduceLeDiff, Nat.reduceEqDiff, decide_true, decide_false, Bool.true_eq_false, reduceCtorEq, and_self, and_true, true_and, ne_eq, not_true_eq_false, not_false_eq_true, req_true, a0, a1, e0, ↓rp]
end
end RE
set_option Elab.async false
set_option linter.all false
set_option maxRecDepth 100000
set_option autoImplicit false
set_option maxHeartbeats 1000000
set_option exponentiation.threshold 20000
/-! RI: fractions made and compared, as the law asks for them. -/
namespace RE
open PySem L2 TL MA
structure HMk (G : Gx) (A : Addr) : Prop where
  p3 : G.pat "Ratio.__init__" 3 [] = some [.inl 0, .inl 1, .inl 2]
  p2 : G.pat "Ratio.__init__" 2 [] = some [.inl 0, .inl 1, .inr (.int 1)]
  pTB : G.pat "Ratio.__init__" 1 ["top", "bottom"] = some [.inl 0, .inl 1, .inl 2]
  pBT : G.pat "Ratio.__init__" 1 ["bottom", "top"] = some [.inl 0, .inl 2, .inl 1]
  pT : G.pat "Ratio.__init__" 1 ["top"] = some [.inl 0, .inl 1, .inr (.int 1)]
  nfP : ∀ y, plainD y = true → G.nf A y = true
  nfR : ∀ n d, G.nf A (rat A n d) = true
section
variable {G : Gx} {A : Addr} (h : HRat G A) (m : HMk G A) (k : Nat) (md : Md)
include h
theorem cal_ratio : isCal (G.glo "Ratio") = true := by rw [h.gRA]; rfl
include m
theorem mk2 (t b : Int) (hb : b ≠ 0) (hz : b.natAbs < 2 ^ 9000) : gloCall G (Tn G (k + 2)) md "Ratio" 2 [] [.int t, .int b] = some (.im (rat A (lN t b) (lD t b))) := by
  have := make_ok h k md t b hb hz
  simp only [gloCall, h.gRA, m.p3, Option.bind_some, behind, Option.map_some, argsOf, List.getElem?_cons_zero, List.getElem?_cons_succ, this]
theorem mkTB (t b : Int) (hb : b ≠ 0) (hz : b.natAbs < 2 ^ 9000) : gloCall G (Tn G (k + 2)) md "Ratio" 0 ["top", "bottom"] [.int t, .int b] = some (.im (rat A (lN t b) (lD t b))) := by
  have := make_ok h k md t b hb hz
  simp only [gloCall, h.gRA, Nat.zero_add, m.pTB, Option.bind_some, behind, Option.map_some, argsOf, List.getElem?_cons_zero, List.getElem?_cons_succ, this]
theorem mkBT (t b : Int) (hb : b ≠ 0) (hz : b.natAbs < 2 ^ 9000) : gloCall G (Tn G (k + 2)) md "Ratio" 0 ["bottom", "top"] [.int b, .int t] = some (.im (rat A (lN t b) (lD t b))) := by
  have := make_ok h k md t b hb hz
  simp only [gloCall, h.gRA, Nat.zero_add, m.pBT, Option.bind_some, behind, Option.map_some, argsOf, List.getElem?_cons_zero, List.getElem?_cons_succ, this]
theorem mk1 (t : Int) : gloCall G (Tn G (k + 2)) md "Ratio" 1 [] [.int t] = some (.im (rat A t 1)) := by
  have := make_ok h k md t 1 (by decide) (Nat.lt_of_lt_of_le (by decide : (1 : Int).natAbs < 2 ^ 1) (Nat.pow_le_pow_right (by decide) (by decide)))
  rw [(l_int t).1, (l_int t).2] at this
  simp only [gloCall, h.gRA, Nat.reduceAdd, m.p2, Option.bind_some, behind, Option.map_some, argsOf, List.getElem?_cons_zero, List.getElem?_cons_succ, this]
theorem mkT (t : Int) : gloCall G (Tn G (k + 2)) md "Ratio" 0 ["top"] [.int t] = some (.im (rat A t 1)) := by
  have := make_ok h k md t 1 (by decide) (Nat.lt_of_lt_of_le (by decide : (1 : Int).natAbs < 2 ^ 1) (Nat.pow_le_pow_right (by decide) (by decide)))
  rw [(l_int t).1, (l_int t).2] at this
  simp only [gloCall, h.gRA, Nat.zero_add, m.pT, Option.bind_some, behind, Option.map_some, argsOf, List.getElem?_cons_zero, List.getElem?_cons_succ, this]
theorem eqRR (n d n' d' : Int) : eqD G (Tn G (k + 2)) md (rat A n d) (rat A n' d') = some (decide (n = n' ∧ d = d')) := by
  have := eq_ok h k md n d n' d'
  have e := m.nfR n' d'
  unfold rat at *
  simp only [eqD, (show G.own A "__eq__" = some (Str.ofString "Ratio.__eq__") from h.oEQ), req_pos e, callD, h.fEQ, Option.bind_some, cRatioEq, if_true, List.map_cons, List.map_nil, this, Option.map_some]
theorem eqRP (n d : Int) (y : D) (hy : plainD y = true) : eqD G (Tn G (k + 2)) md (rat A n d) y = some false := by
  have := eq_other h k md n d y hy
  have e := m.nfP y hy
  unfold rat at *
  simp only [eqD, (show G.own A "__eq__" = some (Str.ofString "Ratio.__eq__") from h.oEQ), req_pos e, callD, h.fEQ, Option.bind_some, cRatioEq, if_true, List.map_cons, List.map_nil, this, Option.map_some]
end
theorem eqTT {G : Gx} {T : Tb} {md : Md} {a b c d : Int} (ha : a.natAbs.log2 < 600) (hb : b.natAbs.log2 < 600) (hc : c.natAbs.log2 < 600) (hd : d.natAbs.log2 < 600) : eqD G T md (.tup [.int a, .int b]) (.tup [.int c, .int d]) = some (decide (a = c ∧ b = d)) := by
  have hx : (D.tup [.int a, .int b]).Ok ∧ (D.tup [.int c, .int d]).Ok ∧ (D.tup [.int a, .int b]).py.depth ≤ 64 ∧ (D.tup [.int c, .int d]).py.depth ≤ 64 := ⟨⟨ha, hb, trivial⟩, ⟨hc, hd, trivial⟩, Nat.le_of_ble_eq_true rfl, Nat.le_of_ble_eq_true rfl⟩
  have e : PyData.eqv (D.tup [.int a, .int b]).py (D.tup [.int c, .int d]).py = decide (a = c ∧ b = d) := by
    show PyData.eqv (.tuple [.int a, .int b]) (.tuple [.int c, .int d]) = _
    by_cases h1 : a = c <;> by_cases h2 : b = d <;> simp [PyData.eqv, PyData.eqvAll, h1, h2]
  simp only [eqD, req_pos hx, e]
end RE
set_option Elab.async false
set_option linter.all false
set_option maxRecDepth 100000
set_option autoImplicit false
set_option maxHeartbeats 1000000
set_option exponentiation.threshold 20000
/-! RJ: the loops of k02, read. -/
namespace RE
open PySem L2 TL MA
def bodyP : List C := [.ifs (.cmp .NotEq (.sub (.var 9) (.int 1)) (.int 0)) [.set 10 (.cmp .Eq (.call "_law_lowest" [.sub (.var 9) (.int 0), .sub (.var 9) (.int 1)] [] []) (.var 4)), .set 11 (.call "Ratio" [.sub (.var 9) (.int 0), .sub (.var 9) (.int 1)] [] []), .set 12 (.lst [.cmp .Eq (.sub (.var 5) (.int 0)) (.var 11), .cmp .Eq (.var 11) (.sub (.var 5) (.int 0)), .cmp .NotEq (.sub (.var 5) (.int 0)) (.var 11)]), .ifs (.cmp .NotEq (.blt .repr [.var 12]) (.blt .repr [.lst [.var 10, .var 10, .nt (.var 10)]])) [.ret (.bl false)] []] []]
def bodyQ : List C := [.ifs (.bop false [.nt (.call "_law_fits" [.var 6, .var 4] [] []), .nt (.cmp .Eq (.var 6) (.sub (.var 5) (.int 0))), .cmp .NotEq (.var 6) (.sub (.var 5) (.int 0))]) [.ret (.bl false)] []]
theorem at_hd {x : D} {t : List D} : subD (.lst (x :: t)) (.int 0) = some x := show atI (x :: t) ((0 : Nat) : Int) = some x from atI_nat rfl
theorem forGo_nx {b : TL.Env → Option Ou} {g : Tg} {x : D} {xs : List D} {δ δ0 δ2 : TL.Env} (hs : setTg δ g x = some δ0) (hb : b δ0 = some (.nx δ2)) : forGo b g (x :: xs) δ = forGo b g xs δ2 := by
  simp only [forGo, hs, hb]
structure HRi (G : Gx) : Prop where
  fFI : G.fns "_law_fits" = some cLawFits
  gFI : G.glo "_law_fits" = some (.fn "_law_fits")
  pFI : G.pat "_law_fits" 2 [] = some [.inl 0, .inl 1]
theorem log_of {n : Nat} {j : Nat} (hj : 0 < j) (hn : n < 2 ^ j) : n.log2 < j := by
  by_cases h0 : n = 0
  · subst h0; exact hj
  · exact (Nat.log2_lt h0).mpr hn
theorem lt9000 {n : Nat} (h : n < 2 ^ 400) : n < 2 ^ 9000 := Nat.lt_of_lt_of_le h (Nat.pow_le_pow_right (by decide) (by decide))
section
variable {G : Gx} {A : Addr} (h : HRat G A) (m : HMk G A) (l : HLw G) (r : HRi G) (k : Nat) (md : Md)
include h m l r
theorem bodyP_ok (hk : md.gk = true) (s0 s1 s2 s3 s6 s7 s8 s13 s14 : Option S) (N E x y : Int) (t : List D) (hN : N.natAbs < 2 ^ 400) (hE : E.natAbs < 2 ^ 400) (hx : x.natAbs < 2 ^ 400) (hy : y.natAbs < 2 ^ 400) (c : Option (D × D × D)) :
    ∃ c' : Option (D × D × D), evB G (Tn G (k + 3)) md bodyP [s0, s1, s2, s3, some (.im (.tup [.int N, .int E])), some (.im (.lst (rat A N E :: t))), s6, s7, s8, some (.im (.tup [.int x, .int y])), c.map fun z => .im z.1, c.map fun z => .im z.2.1, c.map fun z => .im z.2.2, s13, s14] = some (.nx [s0, s1, s2, s3, some (.im (.tup [.int N, .int E])), some (.im (.lst (rat A N E :: t))), s6, s7, s8, some (.im (.tup [.int x, .int y])), c'.map fun z => .im z.1, c'.map fun z => .im z.2.1, c'.map fun z => .im z.2.2, s13, s14]) := by
  have a0 : subD (.tup [.int x, .int y]) (.int 0) = some (.int x) := rfl
  have a1 : subD (.tup [.int x, .int y]) (.int 1) = some (.int y) := rfl
  have a2 : subD (.lst (rat A N E :: t)) (.int 0) = some (rat A N E) := at_hd
  by_cases h0 : y = 0
  · subst h0
    refine ⟨c, ?_⟩
    unfold bodyP
    simp only [env0, evB, evC, ee, evs, ebs, ets, fin, bR, bA, bB, truD, backS, Rz.d, isOwn, setAll, isCal, gloCall, argsOf, cmpD, eqD, negD, binD, intOp, bltD, List.map_cons, List.map_nil, List.length_cons, List.length_nil, List.replicate_succ, List.replicate_zero, List.append_nil, List.cons_append, List.nil_append, List.getElem?_cons_zero, List.getElem?_cons_succ, List.set_cons_zero, List.set_cons_succ, Option.map_some, Option.map_none, Option.bind_some, Option.bind_none, if_true, if_false, reduceIte, Bool.false_eq_true, Bool.not_true, Bool.not_false, Nat.reduceAdd, Nat.reduceSub, Nat.sub_self, List.any_cons, List.any_nil, Bool.or_false, Bool.false_or, Bool.or_self, Bool.and_true, Bool.and_self, Bool.and_false, Bool.false_and, Bool.true_and, Nat.reduceLeDiff, Nat.reduceEqDiff, decide_true, decide_false, Bool.true_eq_false, reduceCtorEq, and_self, and_true, true_and, ne_eq, not_true_eq_false, not_false_eq_true, a0, a1]
  · have lo := lowest_ok l (k + 1) md x y h0 (lt9000 hy)
    have mk := make_ok h (k + 1) md x y h0 (lt9000 hy)
    have bx := lN_le x y
    have by' := lD_le x y
    generalize lN x y = n at *
    generalize lD x y = d at *
    have e1 : eqD G (Tn G (k + 3)) md (.tup [.int n, .int d]) (.tup [.int N, .int E]) = some (decide (n = N ∧ d = E)) := eqTT (log_of (by decide) (Nat.lt_of_lt_of_le (by omega : n.natAbs < 2 ^ 400) (Nat.pow_le_pow_right (by decide) (by decide)))) (log_of (by decide) (Nat.lt_of_lt_of_le (by omega : d.natAbs < 2 ^ 400) (Nat.pow_le_pow_right (by decide) (by decide)))) (log_of (by decide) (Nat.lt_of_lt_of_le hN (Nat.pow_le_pow_right (by decide) (by decide)))) (log_of (by decide) (Nat.lt_of_lt_of_le hE (Nat.pow_le_pow_right (by decide) (by decide))))
    have e2 := eqRR h m (k + 1) md N E n d
    have e3 := eqRR h m (k + 1) md n d N E
    have e4 : decide (N = n ∧ E = d) = decide (n = N ∧ d = E) := by
      apply decide_eq_decide.mpr
      constructor <;> rintro ⟨rfl, rfl⟩ <;> exact ⟨rfl, rfl⟩
    rw [e4] at e2
    generalize decide (n = N ∧ d = E) = b at *
    have rp := rep_data (G := G) (T := Tn G (k + 3)) (md := md) (xs := [.bl b, .bl b, .bl (!b)]) ⟨trivial, trivial, trivial, trivial⟩ (Nat.le_of_ble_eq_true rfl) (Nat.le_of_ble_eq_true rfl) hk
    refine ⟨some (.bl b, rat A n d, .lst [.bl b, .bl b, .bl (!b)]), ?_⟩
    unfold bodyP
    rcases c with _ | ⟨c1, c2, c3⟩
    · simp only [Option.map_none, Option.map_some]
      simp only [env0, evB, evC, ee, evs, ebs, ets, fin, bR, bA, bB, truD, backS, Rz.d, isOwn, setAll, isCal, gloCall, argsOf, cmpD, eqD, negD, binD, intOp, bltD, List.map_cons, List.map_nil, List.length_cons, List.length_nil, List.replicate_succ, List.replicate_zero, List.append_nil, List.cons_append, List.nil_append, List.getElem?_cons_zero, List.getElem?_cons_succ, List.set_cons_zero, List.set_cons_succ, Option.map_some, Option.map_none, Option.bind_some, Option.bind_none, if_true, if_false, reduceIte, Bool.false_eq_true, Bool.not_true, Bool.not_false, Nat.reduceAdd, Nat.reduceSub, Nat.sub_self, List.any_cons, List.any_nil, Bool.or_false, Bool.false_or, Bool.or_self, Bool.and_true, Bool.and_self, Bool.and_false, Bool.false_and, Bool.true_and, Nat.reduceLeDiff, Nat.reduceEqDiff, decide_true, decide_false, Bool.true_eq_false, reduceCtorEq, and_self, and_true, true_and, ne_eq, not_true_eq_false, not_false_eq_true, req_true, a0, a1, a2, h0, l.gLO, l.pLO, lo, h.gRA, m.p3, behind, mk, ↓e1, ↓e2, ↓e3, ↓rp]
    · simp only [Option.map_none, Option.map_some]
      simp only [env0, evB, evC, ee, evs, ebs, ets, fin, bR, bA, bB, truD, backS, Rz.d, isOwn, setAll, isCal, gloCall, argsOf, cmpD, eqD, negD, binD, intOp, bltD, List.map_cons, List.map_nil, List.length_cons, List.length_nil, List.replicate_succ, List.replicate_zero, List.append_nil, List.cons_append, List.nil_append, List.getElem?_cons_zero, List.getElem?_cons_succ, List.set_cons_zero, List.set_cons_succ, Option.map_some, Option.map_none, Option.bind_some, Option.bind_none, if_true, if_false, reduceIte, Bool.false_eq_true, Bool.not_true, Bool.not_false, Nat.reduceAdd, Nat.reduceSub, Nat.sub_self, List.any_cons, List.any_nil, Bool.or_false, Bool.false_or, Bool.or_self, Bool.and_true, Bool.and_self, Bool.and_false, Bool.false_and, Bool.true_and, Nat.reduceLeDiff, Nat.reduceEqDiff, decide_true, decide_false, Bool.true_eq_false, reduceCtorEq, and_self, and_true, true_and, ne_eq, not_true_eq_false, not_false_eq_true, req_true, a0, a1, a2, h0, l.gLO, l.pLO, lo, h.gRA, m.p3, behind, mk, ↓e1, ↓e2, ↓e3, ↓rp]
theorem bodyQ_ok (hk : md.gk = true) (s0 s1 s2 s3 s7 s8 s9 s10 s11 s12 s13 s14 : Option S) (N E : Int) (t : List D) (hN : N.natAbs < 2 ^ 400) (hE : E.natAbs < 2 ^ 400) :
    evB G (Tn G (k + 3)) md bodyQ [s0, s1, s2, s3, some (.im (.tup [.int N, .int E])), some (.im (.lst (rat A N E :: t))), some (.im (rat A N E)), s7, s8, s9, s10, s11, s12, s13, s14] = some (.nx [s0, s1, s2, s3, some (.im (.tup [.int N, .int E])), some (.im (.lst (rat A N E :: t))), some (.im (rat A N E)), s7, s8, s9, s10, s11, s12, s13, s14]) := by
  have a2 : subD (.lst (rat A N E :: t)) (.int 0) = some (rat A N E) := at_hd
  have hn : N.natAbs.log2 < 500 := log_of (by decide) (Nat.lt_of_lt_of_le hN (Nat.pow_le_pow_right (by decide) (by decide)))
  have he : E.natAbs.log2 < 500 := log_of (by decide) (Nat.lt_of_lt_of_le hE (Nat.pow_le_pow_right (by decide) (by decide)))
  have fi := fits_ok h l k md r.fFI hk N E hn he
  have e2 := eqRR h m (k + 1) md N E N E
  rw [decide_eq_true (⟨rfl, rfl⟩ : N = N ∧ E = E)] at e2
  unfold bodyQ
  simp only [env0, evB, evC, ee, evs, ebs, ets, fin, bR, bA, bB, truD, backS, Rz.d, isOwn, setAll, isCal, gloCall, argsOf, cmpD, eqD, negD, binD, intOp, bltD, List.map_cons, List.map_nil, List.length_cons, List.length_nil, List.replicate_succ, List.replicate_zero, List.append_nil, List.cons_append, List.nil_append, List.getElem?_cons_zero, List.getElem?_cons_succ, List.set_cons_zero, List.set_cons_succ, Option.map_some, Option.map_none, Option.bind_some, Option.bind_none, if_true, if_false, reduceIte, Bool.false_eq_true, Bool.not_true, Bool.not_false, Nat.reduceAdd, Nat.reduceSub, Nat.sub_self, List.any_cons, List.any_nil, Bool.or_false, Bool.false_or, Bool.or_self, Bool.and_true, Bool.and_self, Bool.and_false, Bool.false_and, Bool.true_and, Nat.reduceLeDiff, Nat.reduceEqDiff, decide_true, decide_false, Bool.true_eq_false, reduceCtorEq, and_self, and_true, true_and, ne_eq, not_true_eq_false, not_false_eq_true, req_true, a2, r.gFI, r.pFI, fi, ↓e2]
theorem pairs_ok (hk : md.gk = true) (s0 s1 s2 s3 s6 s7 s8 s13 s14 : Option S) (N E : Int) (t : List D) (hN : N.natAbs < 2 ^ 400) (hE : E.natAbs < 2 ^ 400) : ∀ (zs : List (Int × Int)), (∀ z ∈ zs, z.1.natAbs < 2 ^ 400 ∧ z.2.natAbs < 2 ^ 400) → ∀ (a : Option D) (c : Option (D × D × D)),
    ∃ (a' : Option D) (c' : Option (D × D × D)), forGo (evB G (Tn G (k + 3)) md bodyP) (.one 9) (zs.map fun z => .tup [.int z.1, .int z.2]) [s0, s1, s2, s3, some (.im (.tup [.int N, .int E])), some (.im (.lst (rat A N E :: t))), s6, s7, s8, a.map S.im, c.map fun z => .im z.1, c.map fun z => .im z.2.1, c.map fun z => .im z.2.2, s13, s14] = some (.nx [s0, s1, s2, s3, some (.im (.tup [.int N, .int E])), some (.im (.lst (rat A N E :: t))), s6, s7, s8, a'.map S.im, c'.map fun z => .im z.1, c'.map fun z => .im z.2.1, c'.map fun z => .im z.2.2, s13, s14])
  | [], _, a, c => ⟨a, c, rfl⟩
  | z :: zs, hz, a, c => by
    obtain ⟨h1, h2⟩ := hz z (List.mem_cons_self ..)
    obtain ⟨c1, e1⟩ := bodyP_ok h m l r k md hk s0 s1 s2 s3 s6 s7 s8 s13 s14 N E z.1 z.2 t hN hE h1 h2 c
    obtain ⟨a', c', e2⟩ := pairs_ok hk s0 s1 s2 s3 s6 s7 s8 s13 s14 N E t hN hE zs (fun y hy => hz y (List.mem_cons_of_mem _ hy)) (some (.tup [.int z.1, .int z.2])) c1
    refine ⟨a', c', ?_⟩
    rw [← e2]
    rw [List.map_cons]
    have hs : setTg [s0, s1, s2, s3, some (.im (.tup [.int N, .int E])), some (.im (.lst (rat A N E :: t))), s6, s7, s8, a.map S.im, c.map fun z => .im z.1, c.map fun z => .im z.2.1, c.map fun z => .im z.2.2, s13, s14] (.one 9) (.tup [.int z.1, .int z.2]) = some [s0, s1, s2, s3, some (.im (.tup [.int N, .int E])), some (.im (.lst (rat A N E :: t))), s6, s7, s8, some (.im (.tup [.int z.1, .int z.2])), c.map fun z => .im z.1, c.map fun z => .im z.2.1, c.map fun z => .im z.2.2, s13, s14] := by
      cases a <;> rfl
    exact forGo_nx hs e1
end
end RE
set_option Elab.async false
set_option linter.all false
set_option maxRecDepth 100000
set_option autoImplicit false
set_option maxHeartbeats 1000000
set_option exponentiation.threshold 20000
/-! RK: the law's main test of k02, read. -/
namespace RE
open PySem L2 TL MA
def cLawRight : Fc := { ps := ["_law_q"], N := ["_law_q", "_law_high", "_law_low", "_law_more", "_law_pair", "_law_told", "_law_one", "_law_whole", "_law_others", "_law_other", "_law_are_equal", "_law_second", "_law_asked", "_law_strange", "_law_thing"], po := true, body := [.par [1, 2] [.callO "_law_small" 0 [.bin .Pow (.int 10) (.int 20)], .callO "_law_small" 0 [.bin .Pow (.int 10) (.int 20)]],
    .set 2 (.ifx (.cmp .NotEq (.var 2) (.int 0)) (.var 2) (.bin .Add (.int 1) (.callO "_law_draw" 0 [.int 9]))),
    .set 3 (.callO "_law_small" 0 [.bin .Pow (.int 10) (.int 13)]),
    .set 3 (.ifx (.cmp .NotEq (.var 3) (.int 0)) (.var 3) (.neg (.int 1))),
    .set 4 (.call "_law_lowest" [.var 1, .var 2] [] []),
    .set 5 (.lst [.call "Ratio" [.var 1, .var 2] [] [], .call "Ratio" [] ["top", "bottom"] [.var 1, .var 2], .call "Ratio" [] ["bottom", "top"] [.var 2, .var 1], .call "Ratio" [.bin .Mult (.var 1) (.var 3), .bin .Mult (.var 2) (.var 3)] [] []]),
    .for_ (.one 6) .seq [.var 5] [.ifs (.bop false [.nt (.call "_law_fits" [.var 6, .var 4] [] []), .nt (.cmp .Eq (.var 6) (.sub (.var 5) (.int 0))), .cmp .NotEq (.var 6) (.sub (.var 5) (.int 0))]) [.ret (.bl false)] []],
    .set 7 (.call "Ratio" [.var 1] [] []),
    .ifs (.bop false [.nt (.call "_law_fits" [.var 7, .tup [.var 1, .int 1]] [] []), .nt (.call "_law_fits" [.call "Ratio" [] ["top"] [.var 1], .tup [.var 1, .int 1]] [] [])]) [.ret (.bl false)] [],
    .set 8 (.lst [.tup [.bin .Add (.var 1) (.int 1), .var 2], .tup [.var 1, .bin .Add (.var 2) (.var 3)], .tup [.var 2, .var 1], .tup [.neg (.var 1), .var 2], .tup [.var 1, .int 1], .tup [.int 1, .var 2], .tup [.int 0, .var 2]]),
    .for_ (.one 9) .seq [.var 8] [.ifs (.cmp .NotEq (.sub (.var 9) (.int 1)) (.int 0)) [.set 10 (.cmp .Eq (.call "_law_lowest" [.sub (.var 9) (.int 0), .sub (.var 9) (.int 1)] [] []) (.var 4)), .set 11 (.call "Ratio" [.sub (.var 9) (.int 0), .sub (.var 9) (.int 1)] [] []), .set 12 (.lst [.cmp .Eq (.sub (.var 5) (.int 0)) (.var 11), .cmp .Eq (.var 11) (.sub (.var 5) (.int 0)), .cmp .NotEq (.sub (.var 5) (.int 0)) (.var 11)]), .ifs (.cmp .NotEq (.blt .repr [.var 12]) (.blt .repr [.lst [.var 10, .var 10, .nt (.var 10)]])) [.ret (.bl false)] []] []],
    .set 13 (.lst [.var 1, .non, .blt .str [.var 7], .tup [.var 1, .int 1], .lst [.var 1], .bl true]),
    .ifs (.bop false [.blt .any [.lc (.one 14) .seq [.var 13] [] (.cmp .Eq (.var 7) (.var 14))], .nt (.blt .all [.lc (.one 14) .seq [.var 13] [] (.cmp .NotEq (.var 7) (.var 14))])]) [.ret (.bl false)] [],
    .ret (.call "_law_fits" [.sub (.var 5) (.int 0), .var 4] [] [])] }
theorem evC_for {G : Gx} {T : Tb} {md : Md} {g : Tg} {kd : Ik} {its : List E} {b : List C} {δ δ1 : TL.Env} {ds xs : List D} {o : Ou} (h1 : evs G T md its δ = some (.inl ds, δ1)) (h2 : itD G.K kd ds = some xs) (h3 : forGo (evB G T md b) g xs δ1 = some o) : evC G T md (.for_ g kd its b) δ = some o := by
  simp only [evC, h1, h2, Option.bind_some, h3]
section
variable {G : Gx} {A : Addr} (h : HRat G A) (m : HMk G A) (l : HLw G) (r : HRi G) (k : Nat) (md : Md)
include h m l r
theorem right_ok (hf : G.fns "_law_right" = some cLawRight) (hk : md.gk = true) (p : PU.Pu) (n : Nat) (hok : PU.Ok n p) (hn : n ≤ 1000) : ∃ q, Tn G (k + 4) md "_law_right" [.own (puD p)] = some (.im (.bl true), [.own (puD q)]) := by
  have p20 : CPow 10 20 := ⟨by decide, by decide, by decide +kernel⟩
  have e20 : (10 : Int) ^ (20 : Int).toNat = 10 ^ 20 := rfl
  have p13 : CPow 10 13 := ⟨by decide, by decide, by decide +kernel⟩
  have e13 : (10 : Int) ^ (13 : Int).toNat = 10 ^ 13 := rfl
  obtain ⟨v1, q1, s1, k1, b1⟩ := small_ok l (k + 1) md p n hok (by omega) (10 ^ 20) (by decide) (by decide)
  obtain ⟨v2, q2, s2, k2, b2⟩ := small_ok l (k + 1) md q1 _ k1 (by omega) (10 ^ 20) (by decide) (by decide)
  rw [tn_run hf rfl]
  unfold cLawRight
  dsimp only
  rw [evB_nx (δ1 := [some (.own (puD q2)), some (.im (.int v1)), some (.im (.int v2)), none, none, none, none, none, none, none, none, none, none, none, none]) ?h]
  case h => simp only [env0, evB, evC, ee, evs, ebs, ets, fin, bR, bA, bB, truD, backS, Rz.d, isOwn, setAll, isCal, gloCall, argsOf, cmpD, eqD, negD, binD, intOp, bltD, List.map_cons, List.map_nil, List.length_cons, List.length_nil, List.replicate_succ, List.replicate_zero, List.append_nil, List.cons_append, List.nil_append, List.getElem?_cons_zero, List.getElem?_cons_succ, List.set_cons_zero, List.set_cons_succ, Option.map_some, Option.map_none, Option.bind_some, Option.bind_none, if_true, if_false, reduceIte, Bool.false_eq_true, Bool.not_true, Bool.not_false, Nat.reduceAdd, Nat.reduceSub, Nat.sub_self, List.any_cons, List.any_nil, Bool.or_false, Bool.false_or, Bool.or_self, Bool.and_true, Bool.and_self, Bool.and_false, Bool.false_and, Bool.true_and, Nat.reduceLeDiff, Nat.reduceEqDiff, decide_true, decide_false, Bool.true_eq_false, reduceCtorEq, and_self, and_true, true_and, ne_eq, not_true_eq_false, not_false_eq_true, req_true, l.gSM, l.fSM, cLawSmall, ownCall, req_pos p20, e20, s1, s2]
  obtain ⟨lo, q3, n3, k3, n3b, lo0, blo, st⟩ : ∃ (lo : Int) (q3 : PU.Pu) (n3 : Nat) (k3 : PU.Ok n3 q3), n3 ≤ 1100 ∧ lo ≠ 0 ∧ lo.natAbs ≤ 2 * 10 ^ 21 ∧ evC G (Tn G (k + 3)) md (.set 2 (.ifx (.cmp .NotEq (.var 2) (.int 0)) (.var 2) (.bin .Add (.int 1) (.callO "_law_draw" 0 [.int 9])))) [some (.own (puD q2)), some (.im (.int v1)), some (.im (.int v2)), none, none, none, none, none, none, none, none, none, none, none, none] = some (.nx [some (.own (puD q3)), some (.im (.int v1)), some (.im (.int lo)), none, none, none, none, none, none, none, none, none, none, none, none]) := by
    by_cases h0 : v2 = 0
    · subst h0
      have d1 := draw_ok l.fDR (k + 2) md q2 9 _ k2 (by omega) (by decide) (by decide)
      have kk := PU.draw_ok (m := 9) k2
      have rr := PU.draw_bd (p := q2) (m := 9) (by decide)
      refine ⟨1 + (PU.draw q2 9).1, (PU.draw q2 9).2, _, kk, by omega, by omega, by omega, ?_⟩
      simp only [env0, evB, evC, ee, evs, ebs, ets, fin, bR, bA, bB, truD, backS, Rz.d, isOwn, setAll, isCal, gloCall, argsOf, cmpD, eqD, negD, binD, intOp, bltD, List.map_cons, List.map_nil, List.length_cons, List.length_nil, List.replicate_succ, List.replicate_zero, List.append_nil, List.cons_append, List.nil_append, List.getElem?_cons_zero, List.getElem?_cons_succ, List.set_cons_zero, List.set_cons_succ, Option.map_some, Option.map_none, Option.bind_some, Option.bind_none, if_true, if_false, reduceIte, Bool.false_eq_true, Bool.not_true, Bool.not_false, Nat.reduceAdd, Nat.reduceSub, Nat.sub_self, List.any_cons, List.any_nil, Bool.or_false, Bool.false_or, Bool.or_self, Bool.and_true, Bool.and_self, Bool.and_false, Bool.false_and, Bool.true_and, Nat.reduceLeDiff, Nat.reduceEqDiff, decide_true, decide_false, Bool.true_eq_false, reduceCtorEq, and_self, and_true, true_and, ne_eq, not_true_eq_false, not_false_eq_true, req_true, l.gDR, l.fDR, cLawDraw, ownCall, d1]
    · refine ⟨v2, q2, _, k2, by omega, h0, b2, ?_⟩
      simp only [env0, evB, evC, ee, evs, ebs, ets, fin, bR, bA, bB, truD, backS, Rz.d, isOwn, setAll, isCal, gloCall, argsOf, cmpD, eqD, negD, binD, intOp, bltD, List.map_cons, List.map_nil, List.length_cons, List.length_nil, List.replicate_succ, List.replicate_zero, List.append_nil, List.cons_append, List.nil_append, List.getElem?_cons_zero, List.getElem?_cons_succ, List.set_cons_zero, List.set_cons_succ, Option.map_some, Option.map_none, Option.bind_some, Option.bind_none, if_true, if_false, reduceIte, Bool.false_eq_true, Bool.not_true, Bool.not_false, Nat.reduceAdd, Nat.reduceSub, Nat.sub_self, List.any_cons, List.any_nil, Bool.or_false, Bool.false_or, Bool.or_self, Bool.and_true, Bool.and_self, Bool.and_false, Bool.false_and, Bool.true_and, Nat.reduceLeDiff, Nat.reduceEqDiff, decide_true, decide_false, Bool.true_eq_false, reduceCtorEq, and_self, and_true, true_and, ne_eq, not_true_eq_false, not_false_eq_true, h0]
  rw [evB_nx st]
  obtain ⟨v3, q4, s4, k4, b4⟩ := small_ok l (k + 1) md q3 _ k3 (by omega) (10 ^ 13) (by decide) (by decide)
  rw [evB_nx (δ1 := [some (.own (puD q4)), some (.im (.int v1)), some (.im (.int lo)), some (.im (.int v3)), none, none, none, none, none, none, none, none, none, none, none]) ?h]
  case h => simp only [env0, evB, evC, ee, evs, ebs, ets, fin, bR, bA, bB, truD, backS, Rz.d, isOwn, setAll, isCal, gloCall, argsOf, cmpD, eqD, negD, binD, intOp, bltD, List.map_cons, List.map_nil, List.length_cons, List.length_nil, List.replicate_succ, List.replicate_zero, List.append_nil, List.cons_append, List.nil_append, List.getElem?_cons_zero, List.getElem?_cons_succ, List.set_cons_zero, List.set_cons_succ, Option.map_some, Option.map_none, Option.bind_some, Option.bind_none, if_true, if_false, reduceIte, Bool.false_eq_true, Bool.not_true, Bool.not_false, Nat.reduceAdd, Nat.reduceSub, Nat.sub_self, List.any_cons, List.any_nil, Bool.or_false, Bool.false_or, Bool.or_self, Bool.and_true, Bool.and_self, Bool.and_false, Bool.false_and, Bool.true_and, Nat.reduceLeDiff, Nat.reduceEqDiff, decide_true, decide_false, Bool.true_eq_false, reduceCtorEq, and_self, and_true, true_and, ne_eq, not_true_eq_false, not_false_eq_true, req_true, l.gSM, l.fSM, cLawSmall, ownCall, req_pos p13, e13, s4]
  obtain ⟨mo, mo0, bmo, st⟩ : ∃ (mo : Int), mo ≠ 0 ∧ mo.natAbs ≤ 2 * 10 ^ 21 ∧ evC G (Tn G (k + 3)) md (.set 3 (.ifx (.cmp .NotEq (.var 3) (.int 0)) (.var 3) (.neg (.int 1)))) [some (.own (puD q4)), some (.im (.int v1)), some (.im (.int lo)), some (.im (.int v3)), none, none, none, none, none, none, none, none, none, none, none] = some (.nx [some (.own (puD q4)), some (.im (.int v1)), some (.im (.int lo)), some (.im (.int mo)), none, none, none, none, none, none, none, none, none, none, none]) := by
    by_cases h0 : v3 = 0
    · subst h0
      refine ⟨-1, by decide, by decide, ?_⟩
      simp only [env0, evB, evC, ee, evs, ebs, ets, fin, bR, bA, bB, truD, backS, Rz.d, isOwn, setAll, isCal, gloCall, argsOf, cmpD, eqD, negD, binD, intOp, bltD, List.map_cons, List.map_nil, List.length_cons, List.length_nil, List.replicate_succ, List.replicate_zero, List.append_nil, List.cons_append, List.nil_append, List.getElem?_cons_zero, List.getElem?_cons_succ, List.set_cons_zero, List.set_cons_succ, Option.map_some, Option.map_none, Option.bind_some, Option.bind_none, if_true, if_false, reduceIte, Bool.false_eq_true, Bool.not_true, Bool.not_false, Nat.reduceAdd, Nat.reduceSub, Nat.sub_self, List.any_cons, List.any_nil, Bool.or_false, Bool.false_or, Bool.or_self, Bool.and_true, Bool.and_self, Bool.and_false, Bool.false_and, Bool.true_and, Nat.reduceLeDiff, Nat.reduceEqDiff, decide_true, decide_false, Bool.true_eq_false, reduceCtorEq, and_self, and_true, true_and, ne_eq, not_true_eq_false, not_false_eq_true]
    · refine ⟨v3, h0, b4, ?_⟩
      simp only [env0, evB, evC, ee, evs, ebs, ets, fin, bR, bA, bB, truD, backS, Rz.d, isOwn, setAll, isCal, gloCall, argsOf, cmpD, eqD, negD, binD, intOp, bltD, List.map_cons, List.map_nil, List.length_cons, List.length_nil, List.replicate_succ, List.replicate_zero, List.append_nil, List.cons_append, List.nil_append, List.getElem?_cons_zero, List.getElem?_cons_succ, List.set_cons_zero, List.set_cons_succ, Option.map_some, Option.map_none, Option.bind_some, Option.bind_none, if_true, if_false, reduceIte, Bool.false_eq_true, Bool.not_true, Bool.not_false, Nat.reduceAdd, Nat.reduceSub, Nat.sub_self, List.any_cons, List.any_nil, Bool.or_false, Bool.false_or, Bool.or_self, Bool.and_true, Bool.and_self, Bool.and_false, Bool.false_and, Bool.true_and, Nat.reduceLeDiff, Nat.reduceEqDiff, decide_true, decide_false, Bool.true_eq_false, reduceCtorEq, and_self, and_true, true_and, ne_eq, not_true_eq_false, not_false_eq_true, h0]
  rw [evB_nx st]
  clear st s1 s2 s4
  have wlo : lo.natAbs < 2 ^ 400 := Nat.lt_of_le_of_lt blo (by decide +kernel)
  have w1 : v1.natAbs < 2 ^ 400 := Nat.lt_of_le_of_lt b1 (by decide +kernel)
  have low := lowest_ok l (k + 1) md v1 lo lo0 (lt9000 wlo)
  have mk1 := make_ok h (k + 1) md v1 lo lo0 (lt9000 wlo)
  have mm1 : CMulW v1 mo := cm_small (Nat.lt_of_le_of_lt b1 (by decide +kernel)) (Nat.lt_of_le_of_lt bmo (by decide +kernel))
  have mm2 : CMulW lo mo := cm_small (Nat.lt_of_le_of_lt blo (by decide +kernel)) (Nat.lt_of_le_of_lt bmo (by decide +kernel))
  have lm0 : lo * mo ≠ 0 := Int.mul_ne_zero lo0 mo0
  have wlm : (lo * mo).natAbs < 2 ^ 400 := by
    rw [Int.natAbs_mul]
    exact Nat.lt_of_le_of_lt (Nat.mul_le_mul blo bmo) (by decide +kernel)
  have mk2' := make_ok h (k + 1) md (v1 * mo) (lo * mo) lm0 (lt9000 wlm)
  have le := l_eq (t := v1 * mo) (b := lo * mo) (u := v1) (c := lo) lm0 lo0 (by rw [Int.mul_assoc, Int.mul_comm mo lo])
  rw [le.1, le.2] at mk2'
  have mk3 := make_ok h (k + 1) md v1 1 (by decide) (lt9000 (Nat.lt_of_lt_of_le (by decide : (1 : Int).natAbs < 2 ^ 1) (Nat.pow_le_pow_right (by decide) (by decide))))
  rw [(l_int v1).1, (l_int v1).2] at mk3
  have bN : (lN v1 lo).natAbs < 2 ^ 400 := Nat.lt_of_le_of_lt (lN_le v1 lo) w1
  have bE : (lD v1 lo).natAbs < 2 ^ 400 := Nat.lt_of_le_of_lt (lD_le v1 lo) wlo
  generalize lN v1 lo = N at *
  generalize lD v1 lo = E at *
  rw [evB_nx (δ1 := [some (.own (puD q4)), some (.im (.int v1)), some (.im (.int lo)), some (.im (.int mo)), some (.im (.tup [.int N, .int E])), none, none, none, none, none, none, none, none, none, none]) ?h]
  case h => simp only [env0, evB, evC, ee, evs, ebs, ets, fin, bR, bA, bB, truD, backS, Rz.d, isOwn, setAll, isCal, gloCall, argsOf, cmpD, eqD, negD, binD, intOp, bltD, List.map_cons, List.map_nil, List.length_cons, List.length_nil, List.replicate_succ, List.replicate_zero, List.append_nil, List.cons_append, List.nil_append, List.getElem?_cons_zero, List.getElem?_cons_succ, List.set_cons_zero, List.set_cons_succ, Option.map_some, Option.map_none, Option.bind_some, Option.bind_none, if_true, if_false, reduceIte, Bool.false_eq_true, Bool.not_true, Bool.not_false, Nat.reduceAdd, Nat.reduceSub, Nat.sub_self, List.any_cons, List.any_nil, Bool.or_false, Bool.false_or, Bool.or_self, Bool.and_true, Bool.and_self, Bool.and_false, Bool.false_and, Bool.true_and, Nat.reduceLeDiff, Nat.reduceEqDiff, decide_true, decide_false, Bool.true_eq_false, reduceCtorEq, and_self, and_true, true_and, ne_eq, not_true_eq_false, not_false_eq_true, l.gLO, l.pLO, low]
  rw [evB_nx (δ1 := [some (.own (puD q4)), some (.im (.int v1)), some (.im (.int lo)), some (.im (.int mo)), some (.im (.tup [.int N, .int E])), some (.im (.lst [rat A N E, rat A N E, rat A N E, rat A N E])), none, none, none, none, none, none, none, none, none]) ?h]
  case h => simp only [env0, evB, evC, ee, evs, ebs, ets, fin, bR, bA, bB, truD, backS, Rz.d, isOwn, setAll, isCal, gloCall, argsOf, cmpD, eqD, negD, binD, intOp, bltD, List.map_cons, List.map_nil, List.length_cons, List.length_nil, List.replicate_succ, List.replicate_zero, List.append_nil, List.cons_append, List.nil_append, List.getElem?_cons_zero, List.getElem?_cons_succ, List.set_cons_zero, List.set_cons_succ, Option.map_some, Option.map_none, Option.bind_some, Option.bind_none, if_true, if_false, reduceIte, Bool.false_eq_true, Bool.not_true, Bool.not_false, Nat.reduceAdd, Nat.reduceSub, Nat.sub_self, List.any_cons, List.any_nil, Bool.or_false, Bool.false_or, Bool.or_self, Bool.and_true, Bool.and_self, Bool.and_false, Bool.false_and, Bool.true_and, Nat.reduceLeDiff, Nat.reduceEqDiff, decide_true, decide_false, Bool.true_eq_false, reduceCtorEq, and_self, and_true, true_and, ne_eq, not_true_eq_false, not_false_eq_true, req_true, h.gRA, m.p3, m.pTB, m.pBT, behind, mk1, req_pos mm1, req_pos mm2, mk2']
  have bq := bodyQ_ok h m l r k md hk (some (.own (puD q4))) (some (.im (.int v1))) (some (.im (.int lo))) (some (.im (.int mo))) none none none none none none none none N E [rat A N E, rat A N E, rat A N E] bN bE
  rw [evB_nx (δ1 := [some (.own (puD q4)), some (.im (.int v1)), some (.im (.int lo)), some (.im (.int mo)), some (.im (.tup [.int N, .int E])), some (.im (.lst [rat A N E, rat A N E, rat A N E, rat A N E])), some (.im (rat A N E)), none, none, none, none, none, none, none, none]) ?h]
  case h =>
    refine evC_for (ds := [.lst [rat A N E, rat A N E, rat A N E, rat A N E]]) (xs := [rat A N E, rat A N E, rat A N E, rat A N E]) (δ1 := [some (.own (puD q4)), some (.im (.int v1)), some (.im (.int lo)), some (.im (.int mo)), some (.im (.tup [.int N, .int E])), some (.im (.lst [rat A N E, rat A N E, rat A N E, rat A N E])), none, none, none, none, none, none, none, none, none]) (by simp only [env0, evB, evC, ee, evs, ebs, ets, fin, bR, bA, bB, truD, backS, Rz.d, isOwn, setAll, isCal, gloCall, argsOf, cmpD, eqD, negD, binD, intOp, bltD, List.map_cons, List.map_nil, List.length_cons, List.length_nil, List.replicate_succ, List.replicate_zero, List.append_nil, List.cons_append, List.nil_append, List.getElem?_cons_zero, List.getElem?_cons_succ, List.set_cons_zero, List.set_cons_succ, Option.map_some, Option.map_none, Option.bind_some, Option.bind_none, if_true, if_false, reduceIte, Bool.false_eq_true, Bool.not_true, Bool.not_false, Nat.reduceAdd, Nat.reduceSub, Nat.sub_self, List.any_cons, List.any_nil, Bool.or_false, Bool.false_or, Bool.or_self, Bool.and_true, Bool.and_self, Bool.and_false, Bool.false_and, Bool.true_and, Nat.reduceLeDiff, Nat.reduceEqDiff, decide_true, decide_false, Bool.true_eq_false, reduceCtorEq, and_self, and_true, true_and, ne_eq, not_true_eq_false, not_false_eq_true]) rfl ?_
    exact (forGo_nx rfl bq).trans ((forGo_nx rfl bq).trans ((forGo_nx rfl bq).trans ((forGo_nx rfl bq).trans rfl)))
  rw [evB_nx (δ1 := [some (.own (puD q4)), some (.im (.int v1)), some (.im (.int lo)), some (.im (.int mo)), some (.im (.tup [.int N, .int E])), some (.im (.lst [rat A N E, rat A N E, rat A N E, rat A N E])), some (.im (rat A N E)), some (.im (rat A v1 1)), none, none, none, none, none, none, none]) ?h]
  case h => simp only [env0, evB, evC, ee, evs, ebs, ets, fin, bR, bA, bB, truD, backS, Rz.d, isOwn, setAll, isCal, gloCall, argsOf, cmpD, eqD, negD, binD, intOp, bltD, List.map_cons, List.map_nil, List.length_cons, List.length_nil, List.replicate_succ, List.replicate_zero, List.append_nil, List.cons_append, List.nil_append, List.getElem?_cons_zero, List.getElem?_cons_succ, List.set_cons_zero, List.set_cons_succ, Option.map_some, Option.map_none, Option.bind_some, Option.bind_none, if_true, if_false, reduceIte, Bool.false_eq_true, Bool.not_true, Bool.not_false, Nat.reduceAdd, Nat.reduceSub, Nat.sub_self, List.any_cons, List.any_nil, Bool.or_false, Bool.false_or, Bool.or_self, Bool.and_true, Bool.and_self, Bool.and_false, Bool.false_and, Bool.true_and, Nat.reduceLeDiff, Nat.reduceEqDiff, decide_true, decide_false, Bool.true_eq_false, reduceCtorEq, and_self, and_true, true_and, ne_eq, not_true_eq_false, not_false_eq_true, req_true, h.gRA, m.p2, behind, mk3]
  have l1 : v1.natAbs.log2 < 500 := log_of (by decide) (Nat.lt_of_lt_of_le w1 (Nat.pow_le_pow_right (by decide) (by decide)))
  have o1 : (1 : Int).natAbs.log2 < 500 := by decide
  have fi := fits_ok h l k md r.fFI hk v1 1 l1 o1
  rw [evB_nx (δ1 := [some (.own (puD q4)), some (.im (.int v1)), some (.im (.int lo)), some (.im (.int mo)), some (.im (.tup [.int N, .int E])), some (.im (.lst [rat A N E, rat A N E, rat A N E, rat A N E])), some (.im (rat A N E)), some (.im (rat A v1 1)), none, none, none, none, none, none, none]) ?h]
  case h => simp only [env0, evB, evC, ee, evs, ebs, ets, fin, bR, bA, bB, truD, backS, Rz.d, isOwn, setAll, isCal, gloCall, argsOf, cmpD, eqD, negD, binD, intOp, bltD, List.map_cons, List.map_nil, List.length_cons, List.length_nil, List.replicate_succ, List.replicate_zero, List.append_nil, List.cons_append, List.nil_append, List.getElem?_cons_zero, List.getElem?_cons_succ, List.set_cons_zero, List.set_cons_succ, Option.map_some, Option.map_none, Option.bind_some, Option.bind_none, if_true, if_false, reduceIte, Bool.false_eq_true, Bool.not_true, Bool.not_false, Nat.reduceAdd, Nat.reduceSub, Nat.sub_self, List.any_cons, List.any_nil, Bool.or_false, Bool.false_or, Bool.or_self, Bool.and_true, Bool.and_self, Bool.and_false, Bool.false_and, Bool.true_and, Nat.reduceLeDiff, Nat.reduceEqDiff, decide_true, decide_false, Bool.true_eq_false, reduceCtorEq, and_self, and_true, true_and, ne_eq, not_true_eq_false, not_false_eq_true, req_true, h.gRA, m.pT, behind, mk3, r.gFI, r.pFI, fi]
  rw [evB_nx (δ1 := [some (.own (puD q4)), some (.im (.int v1)), some (.im (.int lo)), some (.im (.int mo)), some (.im (.tup [.int N, .int E])), some (.im (.lst [rat A N E, rat A N E, rat A N E, rat A N E])), some (.im (rat A N E)), some (.im (rat A v1 1)), some (.im (.lst [.tup [.int (v1 + 1), .int lo], .tup [.int v1, .int (lo + mo)], .tup [.int lo, .int v1], .tup [.int (-v1), .int lo], .tup [.int v1, .int 1], .tup [.int 1, .int lo], .tup [.int 0, .int lo]])), none, none, none, none, none, none]) ?h]
  case h => simp only [env0, evB, evC, ee, evs, ebs, ets, fin, bR, bA, bB, truD, backS, Rz.d, isOwn, setAll, isCal, gloCall, argsOf, cmpD, eqD, negD, binD, intOp, bltD, List.map_cons, List.map_nil, List.length_cons, List.length_nil, List.replicate_succ, List.replicate_zero, List.append_nil, List.cons_append, List.nil_append, List.getElem?_cons_zero, List.getElem?_cons_succ, List.set_cons_zero, List.set_cons_succ, Option.map_some, Option.map_none, Option.bind_some, Option.bind_none, if_true, if_false, reduceIte, Bool.false_eq_true, Bool.not_true, Bool.not_false, Nat.reduceAdd, Nat.reduceSub, Nat.sub_self, List.any_cons, List.any_nil, Bool.or_false, Bool.false_or, Bool.or_self, Bool.and_true, Bool.and_self, Bool.and_false, Bool.false_and, Bool.true_and, Nat.reduceLeDiff, Nat.reduceEqDiff, decide_true, decide_false, Bool.true_eq_false, reduceCtorEq, and_self, and_true, true_and, ne_eq, not_true_eq_false, not_false_eq_true, req_true]
  obtain ⟨a', c', pp⟩ := pairs_ok h m l r k md hk (some (.own (puD q4))) (some (.im (.int v1))) (some (.im (.int lo))) (some (.im (.int mo))) (some (.im (rat A N E))) (some (.im (rat A v1 1))) (some (.im (.lst [.tup [.int (v1 + 1), .int lo], .tup [.int v1, .int (lo + mo)], .tup [.int lo, .int v1], .tup [.int (-v1), .int lo], .tup [.int v1, .int 1], .tup [.int 1, .int lo], .tup [.int 0, .int lo]]))) none none N E [rat A N E, rat A N E, rat A N E] bN bE [(v1 + 1, lo), (v1, lo + mo), (lo, v1), (-v1, lo), (v1, 1), (1, lo), (0, lo)] (by
    have z : 10 ^ 25 < 2 ^ 400 := by decide +kernel
    intro y hy
    simp only [List.mem_cons, List.not_mem_nil, or_false] at hy
    generalize 2 ^ 400 = Z at *
    rcases hy with rfl | rfl | rfl | rfl | rfl | rfl | rfl <;> constructor <;> dsimp only <;> omega) none none
  rw [evB_nx (δ1 := [some (.own (puD q4)), some (.im (.int v1)), some (.im (.int lo)), some (.im (.int mo)), some (.im (.tup [.int N, .int E])), some (.im (.lst [rat A N E, rat A N E, rat A N E, rat A N E])), some (.im (rat A N E)), some (.im (rat A v1 1)), some (.im (.lst [.tup [.int (v1 + 1), .int lo], .tup [.int v1, .int (lo + mo)], .tup [.int lo, .int v1], .tup [.int (-v1), .int lo], .tup [.int v1, .int 1], .tup [.int 1, .int lo], .tup [.int 0, .int lo]])), a'.map S.im, c'.map fun z => S.im z.1, c'.map fun z => S.im z.2.1, c'.map fun z => S.im z.2.2, none, none]) ?h]
  case h =>
    exact evC_for (ds := [.lst [.tup [.int (v1 + 1), .int lo], .tup [.int v1, .int (lo + mo)], .tup [.int lo, .int v1], .tup [.int (-v1), .int lo], .tup [.int v1, .int 1], .tup [.int 1, .int lo], .tup [.int 0, .int lo]]]) (δ1 := [some (.own (puD q4)), some (.im (.int v1)), some (.im (.int lo)), some (.im (.int mo)), some (.im (.tup [.int N, .int E])), some (.im (.lst [rat A N E, rat A N E, rat A N E, rat A N E])), some (.im (rat A N E)), some (.im (rat A v1 1)), some (.im (.lst [.tup [.int (v1 + 1), .int lo], .tup [.int v1, .int (lo + mo)], .tup [.int lo, .int v1], .tup [.int (-v1), .int lo], .tup [.int v1, .int 1], .tup [.int 1, .int lo], .tup [.int 0, .int lo]])), none, none, none, none, none, none]) (by simp only [env0, evB, evC, ee, evs, ebs, ets, fin, bR, bA, bB, truD, backS, Rz.d, isOwn, setAll, isCal, gloCall, argsOf, cmpD, eqD, negD, binD, intOp, bltD, List.map_cons, List.map_nil, List.length_cons, List.length_nil, List.replicate_succ, List.replicate_zero, List.append_nil, List.cons_append, List.nil_append, List.getElem?_cons_zero, List.getElem?_cons_succ, List.set_cons_zero, List.set_cons_succ, Option.map_some, Option.map_none, Option.bind_some, Option.bind_none, if_true, if_false, reduceIte, Bool.false_eq_true, Bool.not_true, Bool.not_false, Nat.reduceAdd, Nat.reduceSub, Nat.sub_self, List.any_cons, List.any_nil, Bool.or_false, Bool.false_or, Bool.or_self, Bool.and_true, Bool.and_self, Bool.and_false, Bool.false_and, Bool.true_and, Nat.reduceLeDiff, Nat.reduceEqDiff, decide_true, decide_false, Bool.true_eq_false, reduceCtorEq, and_self, and_true, true_and, ne_eq, not_true_eq_false, not_false_eq_true]) rfl pp
  generalize a'.map S.im = s9 at *
  generalize (c'.map fun z => S.im z.1) = s10 at *
  generalize (c'.map fun z => S.im z.2.1) = s11 at *
  generalize (c'.map fun z => S.im z.2.2) = s12 at *
  have l1' : v1.natAbs.log2 < 1000 := by omega
  have ts := blt_str h (k + 1) md v1 1 l1' (by decide)
  rw [evB_nx (δ1 := [some (.own (puD q4)), some (.im (.int v1)), some (.im (.int lo)), some (.im (.int mo)), some (.im (.tup [.int N, .int E])), some (.im (.lst [rat A N E, rat A N E, rat A N E, rat A N E])), some (.im (rat A N E)), some (.im (rat A v1 1)), some (.im (.lst [.tup [.int (v1 + 1), .int lo], .tup [.int v1, .int (lo + mo)], .tup [.int lo, .int v1], .tup [.int (-v1), .int lo], .tup [.int v1, .int 1], .tup [.int 1, .int lo], .tup [.int 0, .int lo]])), s9, s10, s11, s12, some (.im (.lst [.int v1, .non, .str (ratStr v1 1), .tup [.int v1, .int 1], .lst [.int v1], .bl true])), none]) ?h]
  case h => simp only [env0, evB, evC, ee, evs, ebs, ets, fin, bR, bA, bB, truD, backS, Rz.d, isOwn, setAll, isCal, gloCall, argsOf, cmpD, eqD, negD, binD, intOp, bltD, List.map_cons, List.map_nil, List.length_cons, List.length_nil, List.replicate_succ, List.replicate_zero, List.append_nil, List.cons_append, List.nil_append, List.getElem?_cons_zero, List.getElem?_cons_succ, List.set_cons_zero, List.set_cons_succ, Option.map_some, Option.map_none, Option.bind_some, Option.bind_none, if_true, if_false, reduceIte, Bool.false_eq_true, Bool.not_true, Bool.not_false, Nat.reduceAdd, Nat.reduceSub, Nat.sub_self, List.any_cons, List.any_nil, Bool.or_false, Bool.false_or, Bool.or_self, Bool.and_true, Bool.and_self, Bool.and_false, Bool.false_and, Bool.true_and, Nat.reduceLeDiff, Nat.reduceEqDiff, decide_true, decide_false, Bool.true_eq_false, reduceCtorEq, and_self, and_true, true_and, ne_eq, not_true_eq_false, not_false_eq_true, req_true, ↓ts]
  have hp : ∀ x ∈ ([.int v1, .non, .str (ratStr v1 1), .tup [.int v1, .int 1], .lst [.int v1], .bl true] : List D), plainD x = true := by
    intro x hx
    simp only [List.mem_cons, List.not_mem_nil, or_false] at hx
    rcases hx with rfl | rfl | rfl | rfl | rfl | rfl <;> rfl
  have c1 := ee_lc (G := G) (T := Tn G (k + 3)) (md := md) (g := .one 14) (kd := .seq) (its := [.var 13]) (ifs := []) (elt := .cmp .Eq (.var 7) (.var 14)) (ds := [.lst [.int v1, .non, .str (ratStr v1 1), .tup [.int v1, .int 1], .lst [.int v1], .bl true]]) (δ := [some (.own (puD q4)), some (.im (.int v1)), some (.im (.int lo)), some (.im (.int mo)), some (.im (.tup [.int N, .int E])), some (.im (.lst [rat A N E, rat A N E, rat A N E, rat A N E])), some (.im (rat A N E)), some (.im (rat A v1 1)), some (.im (.lst [.tup [.int (v1 + 1), .int lo], .tup [.int v1, .int (lo + mo)], .tup [.int lo, .int v1], .tup [.int (-v1), .int lo], .tup [.int v1, .int 1], .tup [.int 1, .int lo], .tup [.int 0, .int lo]])), s9, s10, s11, s12, some (.im (.lst [.int v1, .non, .str (ratStr v1 1), .tup [.int v1, .int 1], .lst [.int v1], .bl true])), none]) (δ1 := [some (.own (puD q4)), some (.im (.int v1)), some (.im (.int lo)), some (.im (.int mo)), some (.im (.tup [.int N, .int E])), some (.im (.lst [rat A N E, rat A N E, rat A N E, rat A N E])), some (.im (rat A N E)), some (.im (rat A v1 1)), some (.im (.lst [.tup [.int (v1 + 1), .int lo], .tup [.int v1, .int (lo + mo)], .tup [.int lo, .int v1], .tup [.int (-v1), .int lo], .tup [.int v1, .int 1], .tup [.int 1, .int lo], .tup [.int 0, .int lo]])), s9, s10, s11, s12, some (.im (.lst [.int v1, .non, .str (ratStr v1 1), .tup [.int v1, .int 1], .lst [.int v1], .bl true])), none]) (by simp only [env0, evB, evC, ee, evs, ebs, ets, fin, bR, bA, bB, truD, backS, Rz.d, isOwn, setAll, isCal, gloCall, argsOf, cmpD, eqD, negD, binD, intOp, bltD, List.map_cons, List.map_nil, List.length_cons, List.length_nil, List.replicate_succ, List.replicate_zero, List.append_nil, List.cons_append, List.nil_append, List.getElem?_cons_zero, List.getElem?_cons_succ, List.set_cons_zero, List.set_cons_succ, Option.map_some, Option.map_none, Option.bind_some, Option.bind_none, if_true, if_false, reduceIte, Bool.false_eq_true, Bool.not_true, Bool.not_false, Nat.reduceAdd, Nat.reduceSub, Nat.sub_self, List.any_cons, List.any_nil, Bool.or_false, Bool.false_or, Bool.or_self, Bool.and_true, Bool.and_self, Bool.and_false, Bool.false_and, Bool.true_and, Nat.reduceLeDiff, Nat.reduceEqDiff, decide_true, decide_false, Bool.true_eq_false, reduceCtorEq, and_self, and_true, true_and, ne_eq, not_true_eq_false, not_false_eq_true]) rfl rfl (Nat.le_of_ble_eq_true rfl) (lc_map rfl (fun _ => .bl false) (fun x hx => by
    have e := eqRP h m (k + 1) md v1 1 x (hp x hx)
    simp only [env0, evB, evC, ee, evs, ebs, ets, fin, bR, bA, bB, truD, backS, Rz.d, isOwn, setAll, isCal, gloCall, argsOf, cmpD, eqD, negD, binD, intOp, bltD, List.map_cons, List.map_nil, List.length_cons, List.length_nil, List.replicate_succ, List.replicate_zero, List.append_nil, List.cons_append, List.nil_append, List.getElem?_cons_zero, List.getElem?_cons_succ, List.set_cons_zero, List.set_cons_succ, Option.map_some, Option.map_none, Option.bind_some, Option.bind_none, if_true, if_false, reduceIte, Bool.false_eq_true, Bool.not_true, Bool.not_false, Nat.reduceAdd, Nat.reduceSub, Nat.sub_self, List.any_cons, List.any_nil, Bool.or_false, Bool.false_or, Bool.or_self, Bool.and_true, Bool.and_self, Bool.and_false, Bool.false_and, Bool.true_and, Nat.reduceLeDiff, Nat.reduceEqDiff, decide_true, decide_false, Bool.true_eq_false, reduceCtorEq, and_self, and_true, true_and, ne_eq, not_true_eq_false, not_false_eq_true, ↓e]))
  have c2 := ee_lc (G := G) (T := Tn G (k + 3)) (md := md) (g := .one 14) (kd := .seq) (its := [.var 13]) (ifs := []) (elt := .cmp .NotEq (.var 7) (.var 14)) (ds := [.lst [.int v1, .non, .str (ratStr v1 1), .tup [.int v1, .int 1], .lst [.int v1], .bl true]]) (δ := [some (.own (puD q4)), some (.im (.int v1)), some (.im (.int lo)), some (.im (.int mo)), some (.im (.tup [.int N, .int E])), some (.im (.lst [rat A N E, rat A N E, rat A N E, rat A N E])), some (.im (rat A N E)), some (.im (rat A v1 1)), some (.im (.lst [.tup [.int (v1 + 1), .int lo], .tup [.int v1, .int (lo + mo)], .tup [.int lo, .int v1], .tup [.int (-v1), .int lo], .tup [.int v1, .int 1], .tup [.int 1, .int lo], .tup [.int 0, .int lo]])), s9, s10, s11, s12, some (.im (.lst [.int v1, .non, .str (ratStr v1 1), .tup [.int v1, .int 1], .lst [.int v1], .bl true])), none]) (δ1 := [some (.own (puD q4)), some (.im (.int v1)), some (.im (.int lo)), some (.im (.int mo)), some (.im (.tup [.int N, .int E])), some (.im (.lst [rat A N E, rat A N E, rat A N E, rat A N E])), some (.im (rat A N E)), some (.im (rat A v1 1)), some (.im (.lst [.tup [.int (v1 + 1), .int lo], .tup [.int v1, .int (lo + mo)], .tup [.int lo, .int v1], .tup [.int (-v1), .int lo], .tup [.int v1, .int 1], .tup [.int 1, .int lo], .tup [.int 0, .int lo]])), s9, s10, s11, s12, some (.im (.lst [.int v1, .non, .str (ratStr v1 1), .tup [.int v1, .int 1], .lst [.int v1], .bl true])), none]) (by simp only [env0, evB, evC, ee, evs, ebs, ets, fin, bR, bA, bB, truD, backS, Rz.d, isOwn, setAll, isCal, gloCall, argsOf, cmpD, eqD, negD, binD, intOp, bltD, List.map_cons, List.map_nil, List.length_cons, List.length_nil, List.replicate_succ, List.replicate_zero, List.append_nil, List.cons_append, List.nil_append, List.getElem?_cons_zero, List.getElem?_cons_succ, List.set_cons_zero, List.set_cons_succ, Option.map_some, Option.map_none, Option.bind_some, Option.bind_none, if_true, if_false, reduceIte, Bool.false_eq_true, Bool.not_true, Bool.not_false, Nat.reduceAdd, Nat.reduceSub, Nat.sub_self, List.any_cons, List.any_nil, Bool.or_false, Bool.false_or, Bool.or_self, Bool.and_true, Bool.and_self, Bool.and_false, Bool.false_and, Bool.true_and, Nat.reduceLeDiff, Nat.reduceEqDiff, decide_true, decide_false, Bool.true_eq_false, reduceCtorEq, and_self, and_true, true_and, ne_eq, not_true_eq_false, not_false_eq_true]) rfl rfl (Nat.le_of_ble_eq_true rfl) (lc_map rfl (fun _ => .bl true) (fun x hx => by
    have e := eqRP h m (k + 1) md v1 1 x (hp x hx)
    simp only [env0, evB, evC, ee, evs, ebs, ets, fin, bR, bA, bB, truD, backS, Rz.d, isOwn, setAll, isCal, gloCall, argsOf, cmpD, eqD, negD, binD, intOp, bltD, List.map_cons, List.map_nil, List.length_cons, List.length_nil, List.replicate_succ, List.replicate_zero, List.append_nil, List.cons_append, List.nil_append, List.getElem?_cons_zero, List.getElem?_cons_succ, List.set_cons_zero, List.set_cons_succ, Option.map_some, Option.map_none, Option.bind_some, Option.bind_none, if_true, if_false, reduceIte, Bool.false_eq_true, Bool.not_true, Bool.not_false, Nat.reduceAdd, Nat.reduceSub, Nat.sub_self, List.any_cons, List.any_nil, Bool.or_false, Bool.false_or, Bool.or_self, Bool.and_true, Bool.and_self, Bool.and_false, Bool.false_and, Bool.true_and, Nat.reduceLeDiff, Nat.reduceEqDiff, decide_true, decide_false, Bool.true_eq_false, reduceCtorEq, and_self, and_true, true_and, ne_eq, not_true_eq_false, not_false_eq_true, ↓e]))
  rw [evB_nx (δ1 := [some (.own (puD q4)), some (.im (.int v1)), some (.im (.int lo)), some (.im (.int mo)), some (.im (.tup [.int N, .int E])), some (.im (.lst [rat A N E, rat A N E, rat A N E, rat A N E])), some (.im (rat A N E)), some (.im (rat A v1 1)), some (.im (.lst [.tup [.int (v1 + 1), .int lo], .tup [.int v1, .int (lo + mo)], .tup [.int lo, .int v1], .tup [.int (-v1), .int lo], .tup [.int v1, .int 1], .tup [.int 1, .int lo], .tup [.int 0, .int lo]])), s9, s10, s11, s12, some (.im (.lst [.int v1, .non, .str (ratStr v1 1), .tup [.int v1, .int 1], .lst [.int v1], .bl true])), none]) ?h]
  case h => simp only [env0, evB, evC, ee, evs, ebs, ets, fin, bR, bA, bB, truD, backS, Rz.d, isOwn, setAll, isCal, gloCall, argsOf, cmpD, eqD, negD, binD, intOp, bltD, List.map_cons, List.map_nil, List.length_cons, List.length_nil, List.replicate_succ, List.replicate_zero, List.append_nil, List.cons_append, List.nil_append, List.getElem?_cons_zero, List.getElem?_cons_succ, List.set_cons_zero, List.set_cons_succ, Option.map_some, Option.map_none, Option.bind_some, Option.bind_none, if_true, if_false, reduceIte, Bool.false_eq_true, Bool.not_true, Bool.not_false, Nat.reduceAdd, Nat.reduceSub, Nat.sub_self, List.any_cons, List.any_nil, Bool.or_false, Bool.false_or, Bool.or_self, Bool.and_true, Bool.and_self, Bool.and_false, Bool.false_and, Bool.true_and, Nat.reduceLeDiff, Nat.reduceEqDiff, decide_true, decide_false, Bool.true_eq_false, reduceCtorEq, and_self, and_true, true_and, ne_eq, not_true_eq_false, not_false_eq_true, ↓c1, ↓c2, bools, List.all_cons, List.all_nil, id_eq]
  have a2 : subD (.lst [rat A N E, rat A N E, rat A N E, rat A N E]) (.int 0) = some (rat A N E) := rfl
  have fj := fits_ok h l k md r.fFI hk N E (log_of (by decide) (Nat.lt_of_lt_of_le bN (Nat.pow_le_pow_right (by decide) (by decide)))) (log_of (by decide) (Nat.lt_of_lt_of_le bE (Nat.pow_le_pow_right (by decide) (by decide))))
  refine ⟨q4, ?_⟩
  simp only [env0, evB, evC, ee, evs, ebs, ets, fin, bR, bA, bB, truD, backS, Rz.d, isOwn, setAll, isCal, gloCall, argsOf, cmpD, eqD, negD, binD, intOp, bltD, List.map_cons, List.map_nil, List.length_cons, List.length_nil, List.replicate_succ, List.replicate_zero, List.append_nil, List.cons_append, List.nil_append, List.getElem?_cons_zero, List.getElem?_cons_succ, List.set_cons_zero, List.set_cons_succ, Option.map_some, Option.map_none, Option.bind_some, Option.bind_none, if_true, if_false, reduceIte, Bool.false_eq_true, Bool.not_true, Bool.not_false, Nat.reduceAdd, Nat.reduceSub, Nat.sub_self, List.any_cons, List.any_nil, Bool.or_false, Bool.false_or, Bool.or_self, Bool.and_true, Bool.and_self, Bool.and_false, Bool.false_and, Bool.true_and, Nat.reduceLeDiff, Nat.reduceEqDiff, decide_true, decide_false, Bool.true_eq_false, reduceCtorEq, and_self, and_true, true_and, ne_eq, not_true_eq_false, not_false_eq_true, a2, r.gFI, r.pFI, fj]
end
end RE
set_option Elab.async false
set_option linter.all false
set_option maxRecDepth 100000
set_option autoImplicit false
set_option maxHeartbeats 1000000
set_option exponentiation.threshold 20000
/-! RL: the law k02, read. -/
namespace RE
open PySem L2 TL MA
def cLaw : Fc := { ps := ["_law_script"], N := ["_law_script", "_law_k"], po := true, body := [.ifs (.cmp .NotEq (.blt .repr [.lst [.call "Ratio" [.int 0, .neg (.int 7)] [] [], .call "Ratio" [.int 6, .neg (.int 4)] [] [], .call "Ratio" [.neg (.int 3)] [] [], .call "Ratio" [.bin .Pow (.int 10) (.int 39), .bin .Pow (.int 10) (.int 38)] [] []]]) (.str "[Ratio(0, 1), Ratio(-3, 2), Ratio(-3, 1), Ratio(10, 1)]")) [.ret (.bl false)] [],
    .ret (.blt .all [.lc (.one 1) .rng [.blt .max [.int 1, .blt .min [.blt .len [.var 0], .int 6]]] [] (.callF "_law_right" (.call "_law_from" [.var 0, .var 1] [] []) [])])] }
theorem all_bl : ∀ {xs : List D}, (∀ x ∈ xs, x = .bl true) → bools xs = some (xs.map fun _ => true)
  | [], _ => rfl
  | x :: xs, h => by
    rw [h x (List.mem_cons_self ..)]
    simp only [bools, all_bl (xs := xs) (fun y hy => h y (List.mem_cons_of_mem _ hy)), Option.map_some, List.map_cons]
section
variable {G : Gx} {A : Addr} (h : HRat G A) (m : HMk G A) (l : HLw G) (r : HRi G) (k : Nat) (md : Md)
include h
theorem sh_ok (n d : Int) (hn : n.natAbs.log2 < 1000) (hd : d.natAbs.log2 < 1000) : shD G (Tn G (k + 2)) md (rat A n d) = some (ratRepr n d) := by
  have := repr_ok h k ⟨false, md.calm⟩ n d hn hd
  unfold rat at *
  simp only [shD, (show G.own A "__repr__" = some (Str.ofString "Ratio.__repr__") from h.oRE), callD, h.fRE, Option.bind_some, cRatioRepr, if_true, List.map_cons, List.map_nil, this, Option.map_some]
include m
theorem first_ok (hk : md.gk = true) : bltD G (Tn G (k + 2)) md .repr [.lst [rat A 0 1, rat A (-3) 2, rat A (-3) 1, rat A 10 1]] = some (.im (.str "[Ratio(0, 1), Ratio(-3, 2), Ratio(-3, 1), Ratio(10, 1)]")) := by
  have s1 := sh_ok h k md 0 1 (by decide) (by decide)
  have s2 := sh_ok h k md (-3) 2 (by decide) (by decide)
  have s3 := sh_ok h k md (-3) 1 (by decide) (by decide)
  have s4 := sh_ok h k md 10 1 (by decide) (by decide)
  have hm : [rat A 0 1, rat A (-3) 2, rat A (-3) 1, rat A 10 1].mapM (shD G (Tn G (k + 2)) md) = some [ratRepr 0 1, ratRepr (-3) 2, ratRepr (-3) 1, ratRepr 10 1] := by
    simp only [List.mapM_cons, List.mapM_nil, s1, s2, s3, s4]
    rfl
  have ht : listText [ratRepr 0 1, ratRepr (-3) 2, ratRepr (-3) 1, ratRepr 10 1] = Str.ofString "[Ratio(0, 1), Ratio(-3, 2), Ratio(-3, 1), Ratio(10, 1)]" := by decide +kernel
  have no : ¬ (D.Ok (.lst [rat A 0 1, rat A (-3) 2, rat A (-3) 1, rat A 10 1]) ∧ D.wt (.lst [rat A 0 1, rat A (-3) 2, rat A (-3) 1, rat A 10 1]) ≤ 20000 ∧ (D.lst [rat A 0 1, rat A (-3) 2, rat A (-3) 1, rat A 10 1]).py.depth ≤ 60) := fun z => z.1.1
  have hq : ([rat A 0 1, rat A (-3) 2, rat A (-3) 1, rat A 10 1] ≠ [] ∧ (Str.ofString "[Ratio(0, 1), Ratio(-3, 2), Ratio(-3, 1), Ratio(10, 1)]").length ≤ sizeLine) := ⟨List.cons_ne_nil _ _, by decide +kernel⟩
  simp only [bltD, reprD, req_pos hk, if_neg no, hm, ht, req_pos hq, Option.map_some]
include l r
theorem law_ok (hf : G.fns "law" = some cLaw) (hr : G.fns "_law_right" = some cLawRight) (gr : G.glo "_law_right" = some (.fn "_law_right")) (hF : G.fns "_law_from" = some cLawFrom) (gF : G.glo "_law_from" = some (.fn "_law_from")) (pF : G.pat "_law_from" 2 [] = some [.inl 0, .inl 1]) (hp : G.fns "_law_purse" = some cLawPurse) (gp : G.glo "_law_purse" = some (.fn "_law_purse")) (pp : G.pat "_law_purse" 1 [] = some [.inl 0]) (hk : md.gk = true) (a : Addr) (ns : List Int) (hn : ns.length ≤ 63) :
    Tn G (k + 5) md "law" [.im (.scr G.K a ns)] = some (.im (.bl true), [.im (.scr G.K a ns)]) := by
  have m1 := make_ok h (k + 2) md 0 (-7) (by decide) (lt9000 (Nat.lt_of_lt_of_le (by decide : (-7 : Int).natAbs < 2 ^ 3) (Nat.pow_le_pow_right (by decide) (by decide))))
  have m2 := make_ok h (k + 2) md 6 (-4) (by decide) (lt9000 (Nat.lt_of_lt_of_le (by decide : (-4 : Int).natAbs < 2 ^ 3) (Nat.pow_le_pow_right (by decide) (by decide))))
  have m3 := make_ok h (k + 2) md (-3) 1 (by decide) (lt9000 (Nat.lt_of_lt_of_le (by decide : (1 : Int).natAbs < 2 ^ 3) (Nat.pow_le_pow_right (by decide) (by decide))))
  have m4 := make_ok h (k + 2) md (10 ^ 39) (10 ^ 38) (by decide +kernel) (lt9000 (Nat.lt_of_lt_of_le (by decide +kernel : ((10 : Int) ^ 38).natAbs < 2 ^ 200) (Nat.pow_le_pow_right (by decide) (by decide))))
  rw [show lN 0 (-7) = 0 by decide +kernel, show lD 0 (-7) = 1 by decide +kernel] at m1
  rw [show lN 6 (-4) = -3 by decide +kernel, show lD 6 (-4) = 2 by decide +kernel] at m2
  rw [(l_int _).1, (l_int _).2] at m3
  rw [show lN (10 ^ 39) (10 ^ 38) = 10 by decide +kernel, show lD (10 ^ 39) (10 ^ 38) = 1 by decide +kernel] at m4
  have p39 : CPow 10 39 := ⟨by decide, by decide, by decide +kernel⟩
  have e39 : (10 : Int) ^ (39 : Int).toNat = 10 ^ 39 := rfl
  have p38 : CPow 10 38 := ⟨by decide, by decide, by decide +kernel⟩
  have e38 : (10 : Int) ^ (38 : Int).toNat = 10 ^ 38 := rfl
  have fo := first_ok h m (k + 2) md hk
  rw [tn_run hf rfl]
  unfold cLaw
  dsimp only
  rw [evB_nx (δ1 := [some (.im (.scr G.K a ns)), none]) ?h]
  case h => simp only [env0, evB, evC, ee, evs, ebs, ets, fin, bR, bA, bB, truD, backS, Rz.d, isOwn, setAll, isCal, gloCall, argsOf, cmpD, eqD, negD, binD, intOp, bltD, List.map_cons, List.map_nil, List.length_cons, List.length_nil, List.replicate_succ, List.replicate_zero, List.append_nil, List.cons_append, List.nil_append, List.getElem?_cons_zero, List.getElem?_cons_succ, List.set_cons_zero, List.set_cons_succ, Option.map_some, Option.map_none, Option.bind_some, Option.bind_none, if_true, if_false, reduceIte, Bool.false_eq_true, Bool.not_true, Bool.not_false, Nat.reduceAdd, Nat.reduceSub, Nat.sub_self, List.any_cons, List.any_nil, Bool.or_false, Bool.false_or, Bool.or_self, Bool.and_true, Bool.and_self, Bool.and_false, Bool.false_and, Bool.true_and, Nat.reduceLeDiff, Nat.reduceEqDiff, decide_true, decide_false, Bool.true_eq_false, reduceCtorEq, and_self, and_true, true_and, ne_eq, not_true_eq_false, not_false_eq_true, req_true, h.gRA, m.p3, m.p2, behind, m1, m2, m3, m4, req_pos p39, e39, req_pos p38, e38, ↓fo]
  obtain ⟨c, hc0, hc1, hc⟩ : ∃ c : Int, 0 ≤ c ∧ c ≤ 6 ∧ evs G (Tn G (k + 4)) md [.blt .max [.int 1, .blt .min [.blt .len [.var 0], .int 6]]] [some (.im (.scr G.K a ns)), none] = some (.inl [.int c], [some (.im (.scr G.K a ns)), none]) := by
    refine ⟨if (if (6 : Int) < (ns.length : Int) then 6 else (ns.length : Int)) > 1 then (if (6 : Int) < (ns.length : Int) then 6 else (ns.length : Int)) else 1, ?_, ?_, ?_⟩
    · split <;> split <;> omega
    · split <;> split <;> omega
    · simp only [env0, evB, evC, ee, evs, ebs, ets, fin, bR, bA, bB, truD, backS, Rz.d, isOwn, setAll, isCal, gloCall, argsOf, cmpD, eqD, negD, binD, intOp, bltD, List.map_cons, List.map_nil, List.length_cons, List.length_nil, List.replicate_succ, List.replicate_zero, List.append_nil, List.cons_append, List.nil_append, List.getElem?_cons_zero, List.getElem?_cons_succ, List.set_cons_zero, List.set_cons_succ, Option.map_some, Option.map_none, Option.bind_some, Option.bind_none, if_true, if_false, reduceIte, Bool.false_eq_true, Bool.not_true, Bool.not_false, Nat.reduceAdd, Nat.reduceSub, Nat.sub_self, List.any_cons, List.any_nil, Bool.or_false, Bool.false_or, Bool.or_self, Bool.and_true, Bool.and_self, Bool.and_false, Bool.false_and, Bool.true_and, Nat.reduceLeDiff, Nat.reduceEqDiff, decide_true, decide_false, Bool.true_eq_false, reduceCtorEq, and_self, and_true, true_and, ne_eq, not_true_eq_false, not_false_eq_true, req_true]
  have hi : itD G.K .rng [.int c] = some (rngD 0 c) := by
    have : -(2 ^ 62) ≤ c ∧ c < 2 ^ 62 := by omega
    simp only [itD, req_pos this]
  have hb := lc_map (f := ee G (Tn G (k + 4)) md false (.callF "_law_right" (.call "_law_from" [.var 0, .var 1] [] []) [])) (i := 1) (δ := [some (.im (.scr G.K a ns)), none]) rfl (fun _ => .bl true) (xs := rngD 0 c) (fun x hx => by
    obtain ⟨j, _, rfl⟩ := List.mem_map.mp hx
    obtain ⟨ms, fr⟩ := from_ok (k + 2) md hF hp gp pp a ns (0 + (j : Int)) hn
    obtain ⟨q, ro⟩ := right_ok h m l r k md hr hk (puOf ms) 0 (puOf_ok ms) (by decide)
    unfold puOf puD at ro
    simp only [env0, evB, evC, ee, evs, ebs, ets, fin, bR, bA, bB, truD, backS, Rz.d, isOwn, setAll, isCal, gloCall, argsOf, cmpD, eqD, negD, binD, intOp, bltD, List.map_cons, List.map_nil, List.length_cons, List.length_nil, List.replicate_succ, List.replicate_zero, List.append_nil, List.cons_append, List.nil_append, List.getElem?_cons_zero, List.getElem?_cons_succ, List.set_cons_zero, List.set_cons_succ, Option.map_some, Option.map_none, Option.bind_some, Option.bind_none, if_true, if_false, reduceIte, Bool.false_eq_true, Bool.not_true, Bool.not_false, Nat.reduceAdd, Nat.reduceSub, Nat.sub_self, List.any_cons, List.any_nil, Bool.or_false, Bool.false_or, Bool.or_self, Bool.and_true, Bool.and_self, Bool.and_false, Bool.false_and, Bool.true_and, Nat.reduceLeDiff, Nat.reduceEqDiff, decide_true, decide_false, Bool.true_eq_false, reduceCtorEq, and_self, and_true, true_and, ne_eq, not_true_eq_false, not_false_eq_true, req_true, gr, hr, gF, pF, fr, frCall, cLawRight] at ro ⊢
    simp only [ro])
  have hl := ee_lc (G := G) (T := Tn G (k + 4)) (md := md) (g := .one 1) (kd := .rng) (ifs := []) hc hi rfl (by unfold rngD; rw [List.length_map, List.length_range]; omega) hb
  have hbs : bools ((rngD 0 c).map fun _ => D.bl true) = some (((rngD 0 c).map fun _ => D.bl true).map fun _ => true) := all_bl (fun x hx => by obtain ⟨_, _, rfl⟩ := List.mem_map.mp hx; rfl)
  have hal : (((rngD 0 c).map fun _ => D.bl true).map fun _ => true).all id = true := by
    rw [List.all_eq_true]
    intro x hx
    obtain ⟨_, _, rfl⟩ := List.mem_map.mp hx
    rfl
  simp only [env0, evB, evC, ee, evs, ebs, ets, fin, bR, bA, bB, truD, backS, Rz.d, isOwn, setAll, isCal, gloCall, argsOf, cmpD, eqD, negD, binD, intOp, bltD, List.map_cons, List.map_nil, List.length_cons, List.length_nil, List.replicate_succ, List.replicate_zero, List.append_nil, List.cons_append, List.nil_append, List.getElem?_cons_zero, List.getElem?_cons_succ, List.set_cons_zero, List.set_cons_succ, Option.map_some, Option.map_none, Option.bind_some, Option.bind_none, if_true, if_false, reduceIte, Bool.false_eq_true, Bool.not_true, Bool.not_false, Nat.reduceAdd, Nat.reduceSub, Nat.sub_self, List.any_cons, List.any_nil, Bool.or_false, Bool.false_or, Bool.or_self, Bool.and_true, Bool.and_self, Bool.and_false, Bool.false_and, Bool.true_and, Nat.reduceLeDiff, Nat.reduceEqDiff, decide_true, decide_false, Bool.true_eq_false, reduceCtorEq, and_self, and_true, true_and, ne_eq, not_true_eq_false, not_false_eq_true, ↓hl, ↓hbs, ↓hal]
end
end RE
set_option Elab.async false
set_option linter.all false
set_option maxRecDepth 100000
set_option autoImplicit false
set_option maxHeartbeats 1000000
/-! RM: the static world, from tables. -/
namespace RE
open PySem L2 TL
/-- one def: its name, whether the module holds it by that name, its code, where it lies, the calls' patterns -/
structure Row where
  q : Str
  m : Bool
  f : Fc
  a : Addr
  d : FuncData
  ps : List ((Nat × List Str) × Pat)
/-- one class -/
structure CRow where
  n : Str
  A : Addr
  q : Str
  prop : List (Str × Str)
  fld : List Str
  meth : List (Str × Str)
  own : List (Str × Str)
  ri : List Operator
  isT : Ty → Option Bool
  isC : List (Addr × Bool)
  nf : D → Bool
def rowOf (L : List Row) (q : Str) : Option Row := L.find? fun r => r.q == q
def clsOf (C : List CRow) (A : Addr) : Option CRow := C.find? fun c => c.A == A
def namOf (C : List CRow) (n : Str) : Option CRow := C.find? fun c => c.n == n
def opL (os : List Operator) (op : Operator) : Bool := os.any fun o => decide (o = op)
noncomputable def mkG (K : PySem.W.Frag) (L : List Row) (C : List CRow) (V : List (Str × D)) : Gx where
  K := K
  fns q := (rowOf L q).map (·.f)
  glo n := match rowOf L n with
    | some r => if r.m = true then some (.fn n) else none
    | none => match namOf C n with
      | some c => some (.cls c.A c.q)
      | none => (V.lookup n).map .val
  pat q n kn := (rowOf L q).bind fun r => r.ps.lookup (n, kn)
  prop A f := (clsOf C A).bind fun c => c.prop.lookup f
  meth A f := (clsOf C A).bind fun c => c.meth.lookup f
  own A f := (clsOf C A).bind fun c => c.own.lookup f
  ri A op := match clsOf C A with
    | some c => opL c.ri op
    | none => false
  fld A f := match clsOf C A with
    | some c => c.fld.any (· == f)
    | none => false
  isT A t := (clsOf C A).bind fun c => c.isT t
  isC A B := (clsOf C A).bind fun c => c.isC.lookup B
  nf A d := match clsOf C A with
    | some c => c.nf d
    | none => false
def adL (L : List Row) (q : Str) : Addr := match rowOf L q with
  | some r => r.a
  | none => 0
def fdL (L : List Row) (z : FuncData) (q : Str) : FuncData := match rowOf L q with
  | some r => r.d
  | none => z
noncomputable def mkU (P : Program) (w : World) (K : PySem.W.Frag) (mg : Str → Option Value) (base : Heap) (L : List Row) (C : List CRow) (V : List (Str × D)) (z : FuncData) : Sd :=
  ⟨mkG K L C V, P, w, K, mg, base, adL L, fdL L z⟩
theorem row_mem {L : List Row} {q : Str} {r : Row} (h : rowOf L q = some r) : r ∈ L ∧ r.q = q :=
  ⟨List.mem_of_find?_eq_some h, by have z := List.find?_some (p := fun r : Row => r.q == q) h; exact eq_of_beq z⟩
theorem cls_mem {C : List CRow} {A : Addr} {c : CRow} (h : clsOf C A = some c) : c ∈ C ∧ c.A = A :=
  ⟨List.mem_of_find?_eq_some h, by have z := List.find?_some (p := fun c : CRow => c.A == A) h; exact eq_of_beq z⟩
theorem nam_mem {C : List CRow} {n : Str} {c : CRow} (h : namOf C n = some c) : c ∈ C ∧ c.n = n :=
  ⟨List.mem_of_find?_eq_some h, by have z := List.find?_some (p := fun c : CRow => c.n == n) h; exact eq_of_beq z⟩
theorem lookup_mem {α β : Type} [BEq α] [LawfulBEq α] : ∀ {l : List (α × β)} {x : α} {y : β}, l.lookup x = some y → (x, y) ∈ l
  | [], _, _, h => by cases h
  | (a, b) :: r, x, y, h => by
    rw [List.lookup_cons] at h
    split at h
    · rename_i e
      cases h
      have e' := eq_of_beq e
      subst e'
      exact List.mem_cons_self ..
    · exact List.mem_cons_of_mem _ (lookup_mem h)
/-- what one def's row must bring -/
structure RowOk (K : PySem.W.Frag) (mg : Str → Option Value) (r : Row) : Prop where
  df : ∃ (name qual : Str) (params : Arguments) (body : List Stmt) (scope : Scope) (dV kV doc pm cdv ct oc : Value) (an od : Option Addr) (osl : Array (Option Value)), r.d = PySem.W.fnOf name qual params body scope dV kV doc pm an cdv ct ∧ K.lookup r.a = some ⟨oc, od, .func r.d, osl⟩ ∧
    PySem.W.codeIn K cdv qual = true ∧ FnScope r.f.N r.f.ps scope ∧ okB r.f.N scope r.f.body body = true
  bp : r.f.po = true → BndP K r.d r.f.ps
  bn : ∀ z ∈ r.ps, Bnd K r.d r.f.ps z.1.1 z.1.2 z.2
  gf : r.m = true → mg r.q = some (.ref r.a) ∧ PySem.W.keepIn K (.ref r.a) = true
structure CRowOk (K : PySem.W.Frag) (mg : Str → Option Value) (L : List Row) (c : CRow) : Prop where
  gc : mg c.n = some (.ref c.A) ∧ Mk K c.A (adL L c.q)
  co : ClsO K c.A
  prop : ∀ z ∈ c.prop, ∃ p, PropOf K c.A z.1 p (adL L z.2)
  fld : ∀ f ∈ c.fld, NoAttr K c.A f
  meth : ∀ z ∈ c.meth, Meth K c.A z.1 (adL L z.2)
  own : ∀ z ∈ c.own, PySem.W.findIn K (.ref c.A) z.1 = some (some (.ref (adL L z.2))) ∧ PySem.W.isFn K (.ref (adL L z.2)) = true
  one : ∀ q, c.own.lookup (Str.ofString "__eq__") = some q → PySem.W.findIn K (.ref c.A) "__ne__" = some (some (.builtin "object.__ne__"))
  ri : ∀ op ∈ c.ri, PySem.W.findIn K (.ref c.A) (dunderR op.info.2) = some none ∧ PySem.W.subIn K (.type "int") (.ref c.A) = some false ∧
    ∃ fo ro, PySem.W.findIn K (.type "int") (PySem.dunder op.info.2) = some fo ∧ PySem.W.findIn K (.type "int") (dunderR op.info.2) = some ro
  isT : ∀ t b, c.isT t = some b → PySem.W.kitOne K (.ref c.A) (.type (tyS t)) = some b
  isC : ∀ z ∈ c.isC, PySem.W.kitOne K (.ref c.A) (.ref z.1) = some z.2
  kC : ∀ s : String, s ∈ ["NoneType", "int", "bool", "str", "list", "tuple"] → PySem.W.kitOne K (.type s) (.ref c.A) = some false
  nf : ∀ d, c.nf d = true → ∃ t, TyD K d t ∧ PySem.W.notFirst K c.A t = true
structure WorldOk (K : PySem.W.Frag) (mg : Str → Option Value) (V : List (Str × D)) : Prop where
  gv : ∀ z ∈ V, ∃ v u, mg z.1 = some u ∧ RelV v u ∧ ∀ M H, Rep M H z.2 v
  nb : ∀ b : Bt, mg b.nm = none
  nt : ∀ t : Ty, mg t.nm = none
  ni : mg "isinstance" = none
  nk : mg "range" = none ∧ mg "zip" = none ∧ mg "enumerate" = none
  kT : ∀ t : Ty, PySem.W.kitOne K (.type "NoneType") (.type (tyS t)) = some false ∧ PySem.W.kitOne K (.type "int") (.type (tyS t)) = some (match t with | .int => true | _ => false) ∧
    PySem.W.kitOne K (.type "bool") (.type (tyS t)) = some (match t with | .int => true | .bool => true | _ => false) ∧ PySem.W.kitOne K (.type "str") (.type (tyS t)) = some (match t with | .str => true | _ => false) ∧
    PySem.W.kitOne K (.type "list") (.type (tyS t)) = some (match t with | .list => true | _ => false) ∧ PySem.W.kitOne K (.type "tuple") (.type (tyS t)) = some (match t with | .tuple => true | _ => false)
section
variable {P : Program} {w : World} {K : PySem.W.Frag} {mg : Str → Option Value} {base : Heap} {L : List Row} {C : List CRow} {V : List (Str × D)} {z : FuncData}
theorem fns_row {q : Str} {f : Fc} (h : (mkG K L C V).fns q = some f) : ∃ r ∈ L, r.q = q ∧ r.f = f ∧ rowOf L q = some r ∧ adL L q = r.a ∧ fdL L z q = r.d := by
  obtain ⟨r, h1, h2⟩ := Option.map_eq_some_iff.mp h
  obtain ⟨h3, h4⟩ := row_mem h1
  exact ⟨r, h3, h4, h2, h1, by unfold adL; rw [h1], by unfold fdL; rw [h1]⟩
theorem glo_cases {n : Str} {g : Gk} (h : (mkG K L C V).glo n = some g) : (∃ r ∈ L, r.q = n ∧ r.m = true ∧ g = .fn n ∧ adL L n = r.a) ∨ (∃ c ∈ C, c.n = n ∧ g = .cls c.A c.q) ∨ ∃ d, (n, d) ∈ V ∧ g = .val d := by
  change (match rowOf L n with
    | some r => if r.m = true then some (.fn n) else none
    | none => match namOf C n with
      | some c => some (.cls c.A c.q)
      | none => (V.lookup n).map .val) = some g at h
  split at h
  · rename_i r hr
    split at h
    · rename_i hm
      cases h
      obtain ⟨h3, h4⟩ := row_mem hr
      exact .inl ⟨r, h3, h4, hm, rfl, by unfold adL; rw [hr]⟩
    · cases h
  · split at h
    · rename_i c hc
      cases h
      obtain ⟨h3, h4⟩ := nam_mem hc
      exact .inr (.inl ⟨c, h3, h4, rfl⟩)
    · obtain ⟨d, h1, rfl⟩ := Option.map_eq_some_iff.mp h
      exact .inr (.inr ⟨d, lookup_mem h1, rfl⟩)
theorem ws_of (hr : ∀ r ∈ L, RowOk K mg r) (hc : ∀ c ∈ C, CRowOk K mg L c) (hw : WorldOk K mg V) : Ws (mkU P w K mg base L C V z) where
  kk := rfl
  df q f h := by
    obtain ⟨r, hm, rfl, rfl, e, ha, hd⟩ := fns_row (z := z) h
    refine ⟨?_⟩
    show ∃ (name qual : Str) (params : Arguments) (body : List Stmt) (scope : Scope) (dV kV doc pm cdv ct oc : Value) (an od : Option Addr) (osl : Array (Option Value)), fdL L z r.q = PySem.W.fnOf name qual params body scope dV kV doc pm an cdv ct ∧ K.lookup (adL L r.q) = some ⟨oc, od, .func (fdL L z r.q), osl⟩ ∧ PySem.W.codeIn K cdv qual = true ∧ FnScope r.f.N r.f.ps scope ∧ okB r.f.N scope r.f.body body = true
    rw [ha, hd]
    exact (hr r hm).df
  bp q f h hp := by
    obtain ⟨r, hm, rfl, rfl, e, ha, hd⟩ := fns_row (z := z) h
    show BndP K (fdL L z r.q) r.f.ps
    rw [hd]
    exact (hr r hm).bp hp
  bn q n kn p h := by
    obtain ⟨r, h1, h2⟩ := Option.bind_eq_some_iff.mp (show (rowOf L q).bind (fun r => r.ps.lookup (n, kn)) = some p from h)
    obtain ⟨hm, rfl⟩ := row_mem h1
    refine ⟨r.f, by show (rowOf L r.q).map (·.f) = some r.f; rw [h1]; rfl, ?_⟩
    show Bnd K (fdL L z r.q) r.f.ps n kn p
    rw [show fdL L z r.q = r.d by unfold fdL; rw [h1]]
    exact (hr r hm).bn ((n, kn), p) (lookup_mem h2)
  gf n q h := by
    rcases glo_cases h with ⟨r, hm, rfl, h1, e, ha⟩ | ⟨c, hm, rfl, e⟩ | ⟨d, hm, e⟩
    · cases e
      show mg r.q = some (.ref (adL L r.q)) ∧ PySem.W.keepIn K (.ref (adL L r.q)) = true
      rw [ha]
      exact (hr r hm).gf h1
    · cases e
    · cases e
  gc n A q h := by
    rcases glo_cases h with ⟨r, hm, rfl, h1, e, ha⟩ | ⟨c, hm, rfl, e⟩ | ⟨d, hm, e⟩
    · cases e
    · cases e
      exact (hc c hm).gc
    · cases e
  gv n d h := by
    rcases glo_cases h with ⟨r, hm, rfl, h1, e, ha⟩ | ⟨c, hm, rfl, e⟩ | ⟨d, hm, e⟩
    · cases e
    · cases e
    · cases e
      exact hw.gv (n, d) hm
  nb := hw.nb
  nt := hw.nt
  ni := hw.ni
  nk := hw.nk
  prop A f q h := by
    obtain ⟨c, h1, h2⟩ := Option.bind_eq_some_iff.mp (show (clsOf C A).bind (fun c => c.prop.lookup f) = some q from h)
    obtain ⟨hm, rfl⟩ := cls_mem h1
    exact ⟨(hc c hm).co.cl, (hc c hm).prop (f, q) (lookup_mem h2)⟩
  fld A f h := by
    have h' : (match clsOf C A with
      | some c => c.fld.any (· == f)
      | none => false) = true := h
    split at h'
    · rename_i c h1
      obtain ⟨hm, rfl⟩ := cls_mem h1
      obtain ⟨x, hx, e⟩ := List.any_eq_true.mp h'
      rw [← eq_of_beq e]
      exact ⟨(hc c hm).co.cl, (hc c hm).fld x hx⟩
    · cases h'
  meth A f q h := by
    obtain ⟨c, h1, h2⟩ := Option.bind_eq_some_iff.mp (show (clsOf C A).bind (fun c => c.meth.lookup f) = some q from h)
    obtain ⟨hm, rfl⟩ := cls_mem h1
    exact ⟨(hc c hm).co.cl, (hc c hm).meth (f, q) (lookup_mem h2)⟩
  own A f q h := by
    obtain ⟨c, h1, h2⟩ := Option.bind_eq_some_iff.mp (show (clsOf C A).bind (fun c => c.own.lookup f) = some q from h)
    obtain ⟨hm, rfl⟩ := cls_mem h1
    exact ⟨(hc c hm).co, (hc c hm).own (f, q) (lookup_mem h2)⟩
  one A q h := by
    obtain ⟨c, h1, h2⟩ := Option.bind_eq_some_iff.mp (show (clsOf C A).bind (fun c => c.own.lookup (Str.ofString "__eq__")) = some q from h)
    obtain ⟨hm, rfl⟩ := cls_mem h1
    exact (hc c hm).one q h2
  ri A op h := by
    have h' : (match clsOf C A with
      | some c => opL c.ri op
      | none => false) = true := h
    split at h'
    · rename_i c h1
      obtain ⟨hm, rfl⟩ := cls_mem h1
      obtain ⟨x, hx, e⟩ := List.any_eq_true.mp h'
      have e' := of_decide_eq_true e
      subst e'
      exact (hc c hm).ri x hx
    · cases h'
  isT A t b h := by
    obtain ⟨c, h1, h2⟩ := Option.bind_eq_some_iff.mp (show (clsOf C A).bind (fun c => c.isT t) = some b from h)
    obtain ⟨hm, rfl⟩ := cls_mem h1
    exact ⟨(hc c hm).co, (hc c hm).isT t b h2⟩
  isC A B b h := by
    obtain ⟨c, h1, h2⟩ := Option.bind_eq_some_iff.mp (show (clsOf C A).bind (fun c => c.isC.lookup B) = some b from h)
    obtain ⟨hm, rfl⟩ := cls_mem h1
    exact ⟨(hc c hm).co, (hc c hm).isC (B, b) (lookup_mem h2)⟩
  kT := hw.kT
  kC n B q h s hs := by
    rcases glo_cases h with ⟨r, hm, rfl, h1, e, ha⟩ | ⟨c, hm, rfl, e⟩ | ⟨d, hm, e⟩
    · cases e
    · cases e
      exact (hc c hm).kC s hs
    · cases e
  nf A d h := by
    have h' : (match clsOf C A with
      | some c => c.nf d
      | none => false) = true := h
    split at h'
    · rename_i c h1
      obtain ⟨hm, rfl⟩ := cls_mem h1
      exact (hc c hm).nf d h'
    · cases h'
end
end RE
set_option Elab.async false
set_option linter.all false
set_option maxRecDepth 100000
set_option autoImplicit false
set_option maxHeartbeats 1000000
/-! RN: rows of the tables, made. -/
namespace RE
open PySem L2 TL
section
variable {K : PySem.W.Frag} {fd : FuncData} {x y z : Str}
theorem bnd0 (b : BndP K fd []) : Bnd K fd [] 0 [] [] := ⟨[], .nil, rfl, fun s us ws zs hk hu hw hp => by
  match us, ws, hu, hw with
  | [], [], _, _ => cases hp; exact b s [] hk rfl⟩
theorem bnd1 (b : BndP K fd [x]) : Bnd K fd [x] 1 [] [.inl 0] := ⟨[.inl 0], .inl 0 .nil, rfl, fun s us ws zs hk hu hw hp => by
  match us, ws, hu, hw with
  | [u], [], _, _ => cases hp; exact b s [u] hk rfl⟩
theorem bnd2 (b : BndP K fd [x, y]) : Bnd K fd [x, y] 2 [] [.inl 0, .inl 1] := ⟨[.inl 0, .inl 1], .inl 0 (.inl 1 .nil), rfl, fun s us ws zs hk hu hw hp => by
  match us, ws, hu, hw with
  | [u, v], [], _, _ => cases hp; exact b s [u, v] hk rfl⟩
theorem bnd3 (b : BndP K fd [x, y, z]) : Bnd K fd [x, y, z] 3 [] [.inl 0, .inl 1, .inl 2] := ⟨[.inl 0, .inl 1, .inl 2], .inl 0 (.inl 1 (.inl 2 .nil)), rfl, fun s us ws zs hk hu hw hp => by
  match us, ws, hu, hw with
  | [u, v, t], [], _, _ => cases hp; exact b s [u, v, t] hk rfl⟩
/-- a default behind -/
theorem bndD2 {v : V} {d : D} {ds : List Value} (hv : Vals [v] ds) (hd : ∀ M H, Rep M H d v) (b : Binds K fd [x, y, z] ds) : Bnd K fd [x, y, z] 2 [] [.inl 0, .inl 1, .inr d] := by
  cases hv with
  | cons r t =>
    cases t
    refine ⟨[.inl 0, .inl 1, .inr _], .inl 0 (.inl 1 (.inr hd r .nil)), rfl, fun s us ws zs hk hu hw hp => ?_⟩
    match us, ws, hu, hw with
    | [u, v], [], _, _ => cases hp; exact b s [u, v] hk rfl
/-- a def with a tuple of defaults -/
theorem bnd_def {T : Addr} {o : Obj} {its : List Value} {nT : Nat} {ps : List Str} {n : Nat} {kn : List Str} {p : Pat} {q : List (Sum Nat Value)} (lT : K.lookup T = some o) (oT : o.data = .seq its.toArray nT) (hq : PatV p q) (hl : ps.length = p.length)
    (h : ∀ us ws : List Value, us.length = n → ws.length = kn.length → ∃ k, bindArgs fd ⟨us, kn.zip ws⟩ = seqItems? (.ref T) >>= k ∧ ∀ zs, pickV q (us ++ ws) = some zs → k (some its.toArray) = pure (ps.zip zs)) : Bnd K fd ps n kn p :=
  ⟨q, hq, hl, fun s us ws zs X hu hw hp => by
    obtain ⟨k, e1, e2⟩ := h us ws hu hw
    refine BindsTo.of_looks fun M => ?_
    rw [e1]
    exact looks_items X lT oT (.of_pure (e2 zs hp))⟩
theorem bndP_def {T : Addr} {o : Obj} {its : List Value} {nT : Nat} {ps : List Str} (lT : K.lookup T = some o) (oT : o.data = .seq its.toArray nT)
    (h : ∀ us : List Value, us.length = ps.length → ∃ k, bindArgs fd ⟨us, []⟩ = seqItems? (.ref T) >>= k ∧ k (some its.toArray) = pure (ps.zip us)) : BndP K fd ps :=
  fun s us X hu => by
    obtain ⟨k, e1, e2⟩ := h us hu
    refine BindsTo.of_looks fun M => ?_
    rw [e1]
    exact looks_items X lT oT (.of_pure e2)
end
end RE
set_option Elab.async false
set_option linter.all false
set_option maxRecDepth 100000
set_option autoImplicit false
set_option maxHeartbeats 1000000
/-! RO: isinstance among the built-in types. -/
namespace RE
open PySem L2 TL
theorem kT_all (K : PySem.W.Frag) (t : Ty) : PySem.W.kitOne K (.type "NoneType") (.type (tyS t)) = some false ∧ PySem.W.kitOne K (.type "int") (.type (tyS t)) = some (match t with | .int => true | _ => false) ∧
    PySem.W.kitOne K (.type "bool") (.type (tyS t)) = some (match t with | .int => true | .bool => true | _ => false) ∧ PySem.W.kitOne K (.type "str") (.type (tyS t)) = some (match t with | .str => true | _ => false) ∧
    PySem.W.kitOne K (.type "list") (.type (tyS t)) = some (match t with | .list => true | _ => false) ∧ PySem.W.kitOne K (.type "tuple") (.type (tyS t)) = some (match t with | .tuple => true | _ => false) := by
  cases t <;> exact ⟨rfl, rfl, rfl, rfl, rfl, rfl⟩
end RE
set_option Elab.async false
set_option linter.all false
set_option autoImplicit false
/-! RP: a row found by its name. -/
namespace RE
open PySem L2 TL
theorem row_hit {r : Row} {L : List Row} {q : Str} (h : (r.q == q) = true) : rowOf (r :: L) q = some r := by
  unfold rowOf
  rw [List.find?_cons, h]
theorem row_miss {r : Row} {L : List Row} {q : Str} (h : (r.q == q) = false) : rowOf (r :: L) q = rowOf L q := by
  unfold rowOf
  rw [List.find?_cons, h]
theorem cls_one {c : CRow} : clsOf [c] c.A = some c := by
  unfold clsOf
  rw [List.find?_cons, beq_self_eq_true]
end RE
set_option Elab.async false
set_option linter.all false
set_option maxRecDepth 100000
set_option autoImplicit false
set_option maxHeartbeats 1000000
/-! RQ: the tables' answers, by index. -/
namespace RE
open PySem L2 TL
theorem row_at {L : List Row} {r : Row} {i : Nat} (hnd : (L.map (·.q)).Nodup) (h : L[i]? = some r) : rowOf L r.q = some r := by
  induction L generalizing i with
  | nil => simp at h
  | cons a L ih =>
    have hn := List.nodup_cons.mp (show (_ :: _ : List _).Nodup from hnd)
    cases i with
    | zero => cases h; exact row_hit (by simp)
    | succ i =>
      have hi : L[i]? = some r := by simpa using h
      rw [row_miss, ih hn.2 hi]
      refine beq_eq_false_iff_ne.mpr fun e => hn.1 ?_
      dsimp only
      rw [e]
      exact List.mem_map.mpr ⟨r, List.mem_of_getElem? hi, rfl⟩
theorem row_none {L : List Row} {n : Str} (h : n ∉ L.map (·.q)) : rowOf L n = none := by
  unfold rowOf
  rw [List.find?_eq_none]
  intro r hr e
  exact h (List.mem_map.mpr ⟨r, hr, eq_of_beq e⟩)
theorem nam_at {C : List CRow} {c : CRow} {i : Nat} (hnd : (C.map (·.n)).Nodup) (h : C[i]? = some c) : namOf C c.n = some c := by
  unfold namOf
  induction C generalizing i with
  | nil => simp at h
  | cons a L ih =>
    have hn := List.nodup_cons.mp (show (_ :: _ : List _).Nodup from hnd)
    cases i with
    | zero => cases h; rw [List.find?_cons]; simp
    | succ i =>
      have hi : L[i]? = some c := by simpa using h
      have e : (a.n == c.n) = false := by
        refine beq_eq_false_iff_ne.mpr fun e => hn.1 ?_
        dsimp only
        rw [e]
        exact List.mem_map.mpr ⟨c, List.mem_of_getElem? hi, rfl⟩
      rw [List.find?_cons, e]
      exact ih hn.2 hi
theorem cls_at {C : List CRow} {c : CRow} {i : Nat} (hnd : (C.map (·.A)).Nodup) (h : C[i]? = some c) : clsOf C c.A = some c := by
  unfold clsOf
  induction C generalizing i with
  | nil => simp at h
  | cons a L ih =>
    have hn := List.nodup_cons.mp (show (_ :: _ : List _).Nodup from hnd)
    cases i with
    | zero => cases h; rw [List.find?_cons]; simp
    | succ i =>
      have hi : L[i]? = some c := by simpa using h
      have e : (a.A == c.A) = false := by
        refine beq_eq_false_iff_ne.mpr fun e => hn.1 ?_
        dsimp only
        rw [e]
        exact List.mem_map.mpr ⟨c, List.mem_of_getElem? hi, rfl⟩
      rw [List.find?_cons, e]
      exact ih hn.2 hi
section
variable {K : PySem.W.Frag} {L : List Row} {C : List CRow} {V : List (Str × D)} {r : Row} {c : CRow} {i : Nat}
theorem fns_at {q : Str} {f : Fc} (h : rowOf L q = some r) (hf : r.f = f) : (mkG K L C V).fns q = some f := by
  show (rowOf L q).map (·.f) = _
  rw [h, Option.map_some, hf]
theorem glo_at {q : Str} (h : rowOf L q = some r) (hm : r.m = true) : (mkG K L C V).glo q = some (.fn q) := by
  show (match rowOf L q with
    | some r => if r.m = true then some (Gk.fn q) else none
    | none => _) = _
  rw [h]
  exact if_pos hm
theorem pat_at {q : Str} {n : Nat} {kn : List Str} {p : Pat} (h : rowOf L q = some r) (hp : r.ps.lookup (n, kn) = some p) : (mkG K L C V).pat q n kn = some p := by
  show (rowOf L q).bind (fun r => r.ps.lookup (n, kn)) = _
  rw [h]
  exact hp
theorem ad_at {q : Str} {a : Addr} (h : rowOf L q = some r) (ha : r.a = a) : adL L q = a := by
  unfold adL
  rw [h]
  exact ha
theorem fd_at {q : Str} {z d : FuncData} (h : rowOf L q = some r) (hd : r.d = d) : fdL L z q = d := by
  unfold fdL
  rw [h]
  exact hd
theorem glo_cls {n : Str} {A : Addr} {q : Str} (hn : rowOf L n = none) (h : namOf C n = some c) (hA : c.A = A) (hq : c.q = q) : (mkG K L C V).glo n = some (.cls A q) := by
  show (match rowOf L n with
    | some r => if r.m = true then some (Gk.fn n) else none
    | none => match namOf C n with
      | some c => some (.cls c.A c.q)
      | none => (V.lookup n).map .val) = _
  rw [hn, h, ← hA, ← hq]
theorem glo_val {n : Str} {d : D} (hn : rowOf L n = none) (h : namOf C n = none) (hv : V.lookup n = some d) : (mkG K L C V).glo n = some (.val d) := by
  show (match rowOf L n with
    | some r => if r.m = true then some (Gk.fn n) else none
    | none => match namOf C n with
      | some c => some (.cls c.A c.q)
      | none => (V.lookup n).map .val) = _
  rw [hn, h, hv]
  rfl
theorem prop_at {A : Addr} {f : Str} {o : Option Str} (h : clsOf C A = some c) (hp : c.prop.lookup f = o) : (mkG K L C V).prop A f = o := by
  show (clsOf C A).bind (fun c => c.prop.lookup f) = _
  rw [h]
  exact hp
theorem meth_at {A : Addr} {f : Str} {o : Option Str} (h : clsOf C A = some c) (hp : c.meth.lookup f = o) : (mkG K L C V).meth A f = o := by
  show (clsOf C A).bind (fun c => c.meth.lookup f) = _
  rw [h]
  exact hp
theorem own_at {A : Addr} {f : Str} {o : Option Str} (h : clsOf C A = some c) (hp : c.own.lookup f = o) : (mkG K L C V).own A f = o := by
  show (clsOf C A).bind (fun c => c.own.lookup f) = _
  rw [h]
  exact hp
theorem fld_at {A : Addr} {f : Str} (h : clsOf C A = some c) (hp : c.fld.any (· == f) = true) : (mkG K L C V).fld A f = true := by
  show (match clsOf C A with
    | some c => c.fld.any (· == f)
    | none => false) = _
  rw [h]
  exact hp
theorem isC_at {A B : Addr} {o : Option Bool} (h : clsOf C A = some c) (hp : c.isC.lookup B = o) : (mkG K L C V).isC A B = o := by
  show (clsOf C A).bind (fun c => c.isC.lookup B) = _
  rw [h]
  exact hp
theorem isT_at {A : Addr} {t : Ty} {o : Option Bool} (h : clsOf C A = some c) (hp : c.isT t = o) : (mkG K L C V).isT A t = o := by
  show (clsOf C A).bind (fun c => c.isT t) = _
  rw [h]
  exact hp
theorem nf_at {A : Addr} {d : D} (h : clsOf C A = some c) (hp : c.nf d = true) : (mkG K L C V).nf A d = true := by
  show (match clsOf C A with
    | some c => c.nf d
    | none => false) = _
  rw [h]
  exact hp
end
theorem kit_rt {K : PySem.W.Frag} {C : Addr} {T : String} {b : Bool} (h1 : PySem.W.kitMeta T = true) (h2 : PySem.W.mroIn K C (.type T) = some b) : PySem.W.kitOne K (.ref C) (.type T) = some b := by
  show (if PySem.W.kitMeta T = true then PySem.W.subIn K (.ref C) (.type T) else none) = some b
  rw [if_pos h1]
  exact h2
theorem kit_tr {K : PySem.W.Frag} {C : Addr} {T : String} {b : Bool} {cd : ClassData} (h1 : PySem.W.clsIn K C = some cd) (h2 : PySem.W.typeIn K (.ref C) = some (.type "type")) (h3 : PySem.W.subIn K (.type T) (.ref C) = some b) : PySem.W.kitOne K (.type T) (.ref C) = some b := by
  show (if ((PySem.W.clsIn K C).isSome && PySem.W.typeIn K (.ref C) == some (.type "type")) = true then PySem.W.subIn K (.type T) (.ref C) else none) = some b
  rw [h1, h2, if_pos (by show (true && (some (Value.type "type") == some (Value.type "type"))) = true; decide)]
  exact h3
theorem kit_self {K : PySem.W.Frag} {C : Addr} : PySem.W.kitOne K (.ref C) (.ref C) = some true := by
  unfold PySem.W.kitOne
  rw [if_pos (by simp)]
theorem row_ex {K : PySem.W.Frag} {mg : Str → Option Value} {q : Str} {m : Bool} {c : Fc} {f : Addr} {d : FuncData} {ps : List ((Nat × List Str) × Pat)} (h : RowOk K mg ⟨q, m, c, f, d, ps⟩) : ∃ r : Row, RowOk K mg r ∧ r.q = q ∧ r.m = m ∧ r.f = c ∧ r.a = f ∧ r.d = d ∧ r.ps = ps := ⟨_, h, rfl, rfl, rfl, rfl, rfl, rfl⟩
theorem row_at' {L : List Row} {r : Row} {q : Str} {i : Nat} (hnd : (L.map (·.q)).Nodup) (h : L[i]? = some r) (hq : r.q = q) : rowOf L q = some r := hq ▸ row_at hnd h
theorem pat_at' {K : PySem.W.Frag} {L : List Row} {C : List CRow} {V : List (Str × D)} {r : Row} {q : Str} {n : Nat} {kn : List Str} {p : Pat} {ps : List ((Nat × List Str) × Pat)} (h : rowOf L q = some r) (hs : r.ps = ps) (hp : ps.lookup (n, kn) = some p) : (mkG K L C V).pat q n kn = some p := pat_at h (hs ▸ hp)
theorem rows_nil {K : PySem.W.Frag} {mg : Str → Option Value} : ∀ r ∈ ([] : List Row), RowOk K mg r := fun r h => by cases h
theorem rows_cons {K : PySem.W.Frag} {mg : Str → Option Value} {a : Row} {L : List Row} (h : RowOk K mg a) (t : ∀ r ∈ L, RowOk K mg r) : ∀ r ∈ a :: L, RowOk K mg r := fun r hr => by
  rcases List.mem_cons.mp hr with rfl | hr
  · exact h
  · exact t r hr
/-- the law's promise -/
def rLaw (K : PySem.W.Frag) : TL.Spec := fun ss r ss' => ∃ a ns, ss = [.im (.scr K a ns)] ∧ ns.length ≤ 63 ∧ r = .im (.bl true) ∧ ss' = [.im (.scr K a ns)]
end RE
set_option Elab.async false
set_option linter.all false
set_option maxRecDepth 100000
set_option autoImplicit false
set_option maxHeartbeats 1000000
namespace K02
open PySem L2 TL RE
def top (i : Nat) : Stmt := PySem.Challenge.pw_matrixforms_k02_ratios_in_lowest_terms.main.body.getD i (.Pass ⟨0, 0, 0, 0⟩)
abbrev sIsInteger : Stmt := top 6
theorem scIsInteger : FnScope cIsInteger.N cIsInteger.ps (defScope sIsInteger) := ⟨rfl, rfl, rfl, by decide +kernel, rfl, by decide +kernel, by decide +kernel⟩
theorem okIsInteger : okB cIsInteger.N (defScope sIsInteger) cIsInteger.body (defBody sIsInteger) = true := by decide +kernel
abbrev sCommon : Stmt := top 7
theorem scCommon : FnScope cCommon.N cCommon.ps (defScope sCommon) := ⟨rfl, rfl, rfl, by decide +kernel, rfl, by decide +kernel, by decide +kernel⟩
theorem okCommon : okB cCommon.N (defScope sCommon) cCommon.body (defBody sCommon) = true := by decide +kernel
abbrev sRatioInit : Stmt := inClass (top 8) 0
theorem scRatioInit : FnScope cRatioInit.N cRatioInit.ps (defScope sRatioInit) := ⟨rfl, rfl, rfl, by decide +kernel, rfl, by decide +kernel, by decide +kernel⟩
theorem okRatioInit : okB cRatioInit.N (defScope sRatioInit) cRatioInit.body (defBody sRatioInit) = true := by decide +kernel
abbrev sRatioTop : Stmt := inClass (top 8) 1
theorem scRatioTop : FnScope cRatioTop.N cRatioTop.ps (defScope sRatioTop) := ⟨rfl, rfl, rfl, by decide +kernel, rfl, by decide +kernel, by decide +kernel⟩
theorem okRatioTop : okB cRatioTop.N (defScope sRatioTop) cRatioTop.body (defBody sRatioTop) = true := by decide +kernel
abbrev sRatioBottom : Stmt := inClass (top 8) 2
theorem scRatioBottom : FnScope cRatioBottom.N cRatioBottom.ps (defScope sRatioBottom) := ⟨rfl, rfl, rfl, by decide +kernel, rfl, by decide +kernel, by decide +kernel⟩
theorem okRatioBottom : okB cRatioBottom.N (defScope sRatioBottom) cRatioBottom.body (defBody sRatioBottom) = true := by decide +kernel
abbrev sRatioEq : Stmt := inClass (top 8) 9
theorem scRatioEq : FnScope cRatioEq.N cRatioEq.ps (defScope sRatioEq) := ⟨rfl, rfl, rfl, by decide +kernel, rfl, by decide +kernel, by decide +kernel⟩
theorem okRatioEq : okB cRatioEq.N (defScope sRatioEq) cRatioEq.body (defBody sRatioEq) = true := by decide +kernel
abbrev sRatioBool : Stmt := inClass (top 8) 10
theorem scRatioBool : FnScope cRatioBool.N cRatioBool.ps (defScope sRatioBool) := ⟨rfl, rfl, rfl, by decide +kernel, rfl, by decide +kernel, by decide +kernel⟩
theorem okRatioBool : okB cRatioBool.N (defScope sRatioBool) cRatioBool.body (defBody sRatioBool) = true := by decide +kernel
abbrev sRatioStr : Stmt := inClass (top 8) 11
theorem scRatioStr : FnScope cRatioStr.N cRatioStr.ps (defScope sRatioStr) := ⟨rfl, rfl, rfl, by decide +kernel, rfl, by decide +kernel, by decide +kernel⟩
theorem okRatioStr : okB cRatioStr.N (defScope sRatioStr) cRatioStr.body (defBody sRatioStr) = true := by decide +kernel
abbrev sRatioRepr : Stmt := inClass (top 8) 12
theorem scRatioRepr : FnScope cRatioRepr.N cRatioRepr.ps (defScope sRatioRepr) := ⟨rfl, rfl, rfl, by decide +kernel, rfl, by decide +kernel, by decide +kernel⟩
theorem okRatioRepr : okB cRatioRepr.N (defScope sRatioRepr) cRatioRepr.body (defBody sRatioRepr) = true := by decide +kernel
abbrev sLawPurse : Stmt := top 14
theorem scLawPurse : FnScope cLawPurse.N cLawPurse.ps (defScope sLawPurse) := ⟨rfl, rfl, rfl, by decide +kernel, rfl, by decide +kernel, by decide +kernel⟩
theorem okLawPurse : okB cLawPurse.N (defScope sLawPurse) cLawPurse.body (defBody sLawPurse) = true := by decide +kernel
abbrev sLawDraw : Stmt := top 15
theorem scLawDraw : FnScope cLawDraw.N cLawDraw.ps (defScope sLawDraw) := ⟨rfl, rfl, rfl, by decide +kernel, rfl, by decide +kernel, by decide +kernel⟩
theorem okLawDraw : okB cLawDraw.N (defScope sLawDraw) cLawDraw.body (defBody sLawDraw) = true := by decide +kernel
abbrev sLawFrom : Stmt := top 19
theorem scLawFrom : FnScope cLawFrom.N cLawFrom.ps (defScope sLawFrom) := ⟨rfl, rfl, rfl, by decide +kernel, rfl, by decide +kernel, by decide +kernel⟩
theorem okLawFrom : okB cLawFrom.N (defScope sLawFrom) cLawFrom.body (defBody sLawFrom) = true := by decide +kernel
abbrev sLawCommon : Stmt := top 16
theorem scLawCommon : FnScope cLawCommon.N cLawCommon.ps (defScope sLawCommon) := ⟨rfl, rfl, rfl, by decide +kernel, rfl, by decide +kernel, by decide +kernel⟩
theorem okLawCommon : okB cLawCommon.N (defScope sLawCommon) cLawCommon.body (defBody sLawCommon) = true := by decide +kernel
abbrev sLawLowest : Stmt := top 17
theorem scLawLowest : FnScope cLawLowest.N cLawLowest.ps (defScope sLawLowest) := ⟨rfl, rfl, rfl, by decide +kernel, rfl, by decide +kernel, by decide +kernel⟩
theorem okLawLowest : okB cLawLowest.N (defScope sLawLowest) cLawLowest.body (defBody sLawLowest) = true := by decide +kernel
abbrev sLawDigits : Stmt := top 18
theorem scLawDigits : FnScope cLawDigits.N cLawDigits.ps (defScope sLawDigits) := ⟨rfl, rfl, rfl, by decide +kernel, rfl, by decide +kernel, by decide +kernel⟩
theorem okLawDigits : okB cLawDigits.N (defScope sLawDigits) cLawDigits.body (defBody sLawDigits) = true := by decide +kernel
abbrev sLawSmall : Stmt := top 20
theorem scLawSmall : FnScope cLawSmall.N cLawSmall.ps (defScope sLawSmall) := ⟨rfl, rfl, rfl, by decide +kernel, rfl, by decide +kernel, by decide +kernel⟩
theorem okLawSmall : okB cLawSmall.N (defScope sLawSmall) cLawSmall.body (defBody sLawSmall) = true := by decide +kernel
abbrev sLawFits : Stmt := top 21
theorem scLawFits : FnScope cLawFits.N cLawFits.ps (defScope sLawFits) := ⟨rfl, rfl, rfl, by decide +kernel, rfl, by decide +kernel, by decide +kernel⟩
theorem okLawFits : okB cLawFits.N (defScope sLawFits) cLawFits.body (defBody sLawFits) = true := by decide +kernel
abbrev sLawRight : Stmt := top 22
theorem scLawRight : FnScope cLawRight.N cLawRight.ps (defScope sLawRight) := ⟨rfl, rfl, rfl, by decide +kernel, rfl, by decide +kernel, by decide +kernel⟩
theorem okLawRight : okB cLawRight.N (defScope sLawRight) cLawRight.body (defBody sLawRight) = true := by decide +kernel
abbrev sLaw : Stmt := top 23
theorem scLaw : FnScope cLaw.N cLaw.ps (defScope sLaw) := ⟨rfl, rfl, rfl, by decide +kernel, rfl, by decide +kernel, by decide +kernel⟩
theorem okLaw : okB cLaw.N (defScope sLaw) cLaw.body (defBody sLaw) = true := by decide +kernel
end K02
set_option Elab.async false
set_option linter.all false
set_option maxRecDepth 100000
set_option autoImplicit false
set_option maxHeartbeats 1000000
namespace K02
open PySem L2 TL RE
theorem init_row {K : PySem.W.Frag} {mg : Str → Option Value} {fIT fT : Addr} {odIT anIT odT : Option Addr} {slIT slT : Array (Option Value)} {ocIT kVIT dcIT pmIT cdIT ctIT ocT : Value} {tk : Tok} {nT : Nat}
    (lIT : K.lookup fIT = some ⟨ocIT, odIT, .func (PySem.W.fnOf "__init__" "Ratio.__init__" (defArgs sRatioInit) (defBody sRatioInit) (defScope sRatioInit) (.ref fT) kVIT dcIT pmIT anIT cdIT ctIT), slIT⟩)
    (cIT : PySem.W.codeIn K cdIT "Ratio.__init__" = true) (lT : K.lookup fT = some ⟨ocT, odT, .seq #[.int 1 tk] nT, slT⟩) :
    RowOk K mg ⟨"Ratio.__init__", false, cRatioInit, fIT, PySem.W.fnOf "__init__" "Ratio.__init__" (defArgs sRatioInit) (defBody sRatioInit) (defScope sRatioInit) (.ref fT) kVIT dcIT pmIT anIT cdIT ctIT,
      [((3, []), [.inl 0, .inl 1, .inl 2]), ((2, []), [.inl 0, .inl 1, .inr (.int 1)]), ((1, ["top", "bottom"]), [.inl 0, .inl 1, .inl 2]), ((1, ["bottom", "top"]), [.inl 0, .inl 2, .inl 1]), ((1, ["top"]), [.inl 0, .inl 1, .inr (.int 1)])]⟩ := by
  have hd : ∀ M H, Rep M H (.int 1) (V.int 1) := fun M H => rfl
  have hv : RelV (V.int 1) (.int 1 tk) := ⟨tk, rfl⟩
  have b : BndP K (PySem.W.fnOf "__init__" "Ratio.__init__" (defArgs sRatioInit) (defBody sRatioInit) (defScope sRatioInit) (.ref fT) kVIT dcIT pmIT anIT cdIT ctIT) ["self", "top", "bottom"] :=
    bndP_def (its := [.int 1 tk]) lT rfl fun us hl => match us, hl with | [_, _, _], _ => ⟨_, rfl, rfl⟩
  refine ⟨⟨_, _, _, _, _, _, _, _, _, _, _, _, _, _, _, rfl, lIT, cIT, scRatioInit, okRatioInit⟩, fun _ => b, fun z hz => ?_, fun z => by cases z⟩
  simp only [List.mem_cons, List.not_mem_nil, or_false] at hz
  rcases hz with rfl | rfl | rfl | rfl | rfl
  · exact bnd3 b
  · exact bnd_def (ps := ["self", "top", "bottom"]) (its := [.int 1 tk]) (q := [.inl 0, .inl 1, .inr (.int 1 tk)]) lT rfl (.inl 0 (.inl 1 (.inr hd hv .nil))) rfl fun us ws hu hw => match us, ws, hu, hw with | [_, _], [], _, _ => ⟨_, rfl, fun zs hz => by cases hz; rfl⟩
  · exact bnd_def (ps := ["self", "top", "bottom"]) (its := [.int 1 tk]) (q := [.inl 0, .inl 1, .inl 2]) lT rfl (.inl 0 (.inl 1 (.inl 2 .nil))) rfl fun us ws hu hw => match us, ws, hu, hw with | [_], [_, _], _, _ => ⟨_, rfl, fun zs hz => by cases hz; rfl⟩
  · exact bnd_def (ps := ["self", "top", "bottom"]) (its := [.int 1 tk]) (q := [.inl 0, .inl 2, .inl 1]) lT rfl (.inl 0 (.inl 2 (.inl 1 .nil))) rfl fun us ws hu hw => match us, ws, hu, hw with | [_], [_, _], _, _ => ⟨_, rfl, fun zs hz => by cases hz; rfl⟩
  · exact bnd_def (ps := ["self", "top", "bottom"]) (its := [.int 1 tk]) (q := [.inl 0, .inl 1, .inr (.int 1 tk)]) lT rfl (.inl 0 (.inl 1 (.inr hd hv .nil))) rfl fun us ws hu hw => match us, ws, hu, hw with | [_], [_], _, _ => ⟨_, rfl, fun zs hz => by cases hz; rfl⟩
end K02
set_option Elab.async false
set_option linter.all false
set_option maxRecDepth 100000
set_option autoImplicit false
set_option maxHeartbeats 2000000
namespace K02
open PySem L2 TL RE
theorem all_mk {l : PySem.W.OpenLaw} {w : World} {K : PySem.W.Frag} {h : Heap} {mg : Str → Option Value} {fa : Addr} {C fII fCO fPU fDR fFR fLC fLO fDI fSM fFI fRI fLA fIT fT feq fbo fst fre ftp fbt ptp pbt : Addr} {cdC : ClassData} (X : K.In h) (G : h.Ns mainGlobals mg) (hfa : mg "law" = some (.ref fa))
    {odII anII : Option Addr} {slII : Array (Option Value)} {ocII kVII dcII pmII cdII ctII : Value}
    {odCO anCO : Option Addr} {slCO : Array (Option Value)} {ocCO kVCO dcCO pmCO cdCO ctCO : Value}
    {odPU anPU : Option Addr} {slPU : Array (Option Value)} {ocPU kVPU dcPU pmPU cdPU ctPU : Value}
    {odDR anDR : Option Addr} {slDR : Array (Option Value)} {ocDR kVDR dcDR pmDR cdDR ctDR : Value}
    {odFR anFR : Option Addr} {slFR : Array (Option Value)} {ocFR kVFR dcFR pmFR cdFR ctFR : Value}
    {odLC anLC : Option Addr} {slLC : Array (Option Value)} {ocLC kVLC dcLC pmLC cdLC ctLC : Value}
    {odLO anLO : Option Addr} {slLO : Array (Option Value)} {ocLO kVLO dcLO pmLO cdLO ctLO : Value}
    {odDI anDI : Option Addr} {slDI : Array (Option Value)} {ocDI kVDI dcDI pmDI cdDI ctDI : Value}
    {odSM anSM : Option Addr} {slSM : Array (Option Value)} {ocSM kVSM dcSM pmSM cdSM ctSM : Value}
    {odFI anFI : Option Addr} {slFI : Array (Option Value)} {ocFI kVFI dcFI pmFI cdFI ctFI : Value}
    {odRI anRI : Option Addr} {slRI : Array (Option Value)} {ocRI kVRI dcRI pmRI cdRI ctRI : Value}
    {odLA anLA : Option Addr} {slLA : Array (Option Value)} {ocLA kVLA dcLA pmLA cdLA ctLA : Value}
    {odeq aneq : Option Addr} {sleq : Array (Option Value)} {oceq kVeq dceq pmeq cdeq cteq : Value}
    {odbo anbo : Option Addr} {slbo : Array (Option Value)} {ocbo kVbo dcbo pmbo cdbo ctbo : Value}
    {odst anst : Option Addr} {slst : Array (Option Value)} {ocst kVst dcst pmst cdst ctst : Value}
    {odre anre : Option Addr} {slre : Array (Option Value)} {ocre kVre dcre pmre cdre ctre : Value}
    {rtp : List Value}
    {odtp antp : Option Addr} {sltp : Array (Option Value)} {octp kVtp dctp pmtp cdtp cttp : Value}
    {rbt : List Value}
    {odbt anbt : Option Addr} {slbt : Array (Option Value)} {ocbt kVbt dcbt pmbt cdbt ctbt : Value}
    {odIT anIT : Option Addr} {slIT : Array (Option Value)} {ocIT kVIT dcIT pmIT cdIT ctIT : Value}
    {odT : Option Addr} {slT : Array (Option Value)} {ocT : Value} {tk : Tok} {nT : Nat}
    (aC : PySem.W.nsIn K mainGlobals "Ratio" = some (some (.ref C)))
    (aII : PySem.W.nsIn K mainGlobals "is_integer" = some (some (.ref fII)))
    (lII : K.lookup fII = some ⟨ocII, odII, .func (PySem.W.fnOf "is_integer" "is_integer" (defArgs sIsInteger) (defBody sIsInteger) (defScope sIsInteger) .none kVII dcII pmII anII cdII ctII), slII⟩)
    (cII : PySem.W.codeIn K cdII "is_integer" = true)
    (kII : PySem.W.keepIn K (.ref fII) = true)
    (aCO : PySem.W.nsIn K mainGlobals "common" = some (some (.ref fCO)))
    (lCO : K.lookup fCO = some ⟨ocCO, odCO, .func (PySem.W.fnOf "common" "common" (defArgs sCommon) (defBody sCommon) (defScope sCommon) .none kVCO dcCO pmCO anCO cdCO ctCO), slCO⟩)
    (cCO : PySem.W.codeIn K cdCO "common" = true)
    (kCO : PySem.W.keepIn K (.ref fCO) = true)
    (aPU : PySem.W.nsIn K mainGlobals "_law_purse" = some (some (.ref fPU)))
    (lPU : K.lookup fPU = some ⟨ocPU, odPU, .func (PySem.W.fnOf "_law_purse" "_law_purse" (defArgs sLawPurse) (defBody sLawPurse) (defScope sLawPurse) .none kVPU dcPU pmPU anPU cdPU ctPU), slPU⟩)
    (cPU : PySem.W.codeIn K cdPU "_law_purse" = true)
    (kPU : PySem.W.keepIn K (.ref fPU) = true)
    (aDR : PySem.W.nsIn K mainGlobals "_law_draw" = some (some (.ref fDR)))
    (lDR : K.lookup fDR = some ⟨ocDR, odDR, .func (PySem.W.fnOf "_law_draw" "_law_draw" (defArgs sLawDraw) (defBody sLawDraw) (defScope sLawDraw) .none kVDR dcDR pmDR anDR cdDR ctDR), slDR⟩)
    (cDR : PySem.W.codeIn K cdDR "_law_draw" = true)
    (kDR : PySem.W.keepIn K (.ref fDR) = true)
    (aFR : PySem.W.nsIn K mainGlobals "_law_from" = some (some (.ref fFR)))
    (lFR : K.lookup fFR = some ⟨ocFR, odFR, .func (PySem.W.fnOf "_law_from" "_law_from" (defArgs sLawFrom) (defBody sLawFrom) (defScope sLawFrom) .none kVFR dcFR pmFR anFR cdFR ctFR), slFR⟩)
    (cFR : PySem.W.codeIn K cdFR "_law_from" = true)
    (kFR : PySem.W.keepIn K (.ref fFR) = true)
    (aLC : PySem.W.nsIn K mainGlobals "_law_common" = some (some (.ref fLC)))
    (lLC : K.lookup fLC = some ⟨ocLC, odLC, .func (PySem.W.fnOf "_law_common" "_law_common" (defArgs sLawCommon) (defBody sLawCommon) (defScope sLawCommon) .none kVLC dcLC pmLC anLC cdLC ctLC), slLC⟩)
    (cLC : PySem.W.codeIn K cdLC "_law_common" = true)
    (kLC : PySem.W.keepIn K (.ref fLC) = true)
    (aLO : PySem.W.nsIn K mainGlobals "_law_lowest" = some (some (.ref fLO)))
    (lLO : K.lookup fLO = some ⟨ocLO, odLO, .func (PySem.W.fnOf "_law_lowest" "_law_lowest" (defArgs sLawLowest) (defBody sLawLowest) (defScope sLawLowest) .none kVLO dcLO pmLO anLO cdLO ctLO), slLO⟩)
    (cLO : PySem.W.codeIn K cdLO "_law_lowest" = true)
    (kLO : PySem.W.keepIn K (.ref fLO) = true)
    (aDI : PySem.W.nsIn K mainGlobals "_law_digits" = some (some (.ref fDI)))
    (lDI : K.lookup fDI = some ⟨ocDI, odDI, .func (PySem.W.fnOf "_law_digits" "_law_digits" (defArgs sLawDigits) (defBody sLawDigits) (defScope sLawDigits) .none kVDI dcDI pmDI anDI cdDI ctDI), slDI⟩)
    (cDI : PySem.W.codeIn K cdDI "_law_digits" = true)
    (kDI : PySem.W.keepIn K (.ref fDI) = true)
    (aSM : PySem.W.nsIn K mainGlobals "_law_small" = some (some (.ref fSM)))
    (lSM : K.lookup fSM = some ⟨ocSM, odSM, .func (PySem.W.fnOf "_law_small" "_law_small" (defArgs sLawSmall) (defBody sLawSmall) (defScope sLawSmall) .none kVSM dcSM pmSM anSM cdSM ctSM), slSM⟩)
    (cSM : PySem.W.codeIn K cdSM "_law_small" = true)
    (kSM : PySem.W.keepIn K (.ref fSM) = true)
    (aFI : PySem.W.nsIn K mainGlobals "_law_fits" = some (some (.ref fFI)))
    (lFI : K.lookup fFI = some ⟨ocFI, odFI, .func (PySem.W.fnOf "_law_fits" "_law_fits" (defArgs sLawFits) (defBody sLawFits) (defScope sLawFits) .none kVFI dcFI pmFI anFI cdFI ctFI), slFI⟩)
    (cFI : PySem.W.codeIn K cdFI "_law_fits" = true)
    (kFI : PySem.W.keepIn K (.ref fFI) = true)
    (aRI : PySem.W.nsIn K mainGlobals "_law_right" = some (some (.ref fRI)))
    (lRI : K.lookup fRI = some ⟨ocRI, odRI, .func (PySem.W.fnOf "_law_right" "_law_right" (defArgs sLawRight) (defBody sLawRight) (defScope sLawRight) .none kVRI dcRI pmRI anRI cdRI ctRI), slRI⟩)
    (cRI : PySem.W.codeIn K cdRI "_law_right" = true)
    (kRI : PySem.W.keepIn K (.ref fRI) = true)
    (aLA : PySem.W.nsIn K mainGlobals "law" = some (some (.ref fLA)))
    (lLA : K.lookup fLA = some ⟨ocLA, odLA, .func (PySem.W.fnOf "law" "law" (defArgs sLaw) (defBody sLaw) (defScope sLaw) .none kVLA dcLA pmLA anLA cdLA ctLA), slLA⟩)
    (cLA : PySem.W.codeIn K cdLA "law" = true)
    (kLA : PySem.W.keepIn K (.ref fLA) = true)
    (aeq : PySem.W.findIn K (.ref C) "__eq__" = some (some (.ref feq)))
    (ieq : PySem.W.isFn K (.ref feq) = true)
    (leq : K.lookup feq = some ⟨oceq, odeq, .func (PySem.W.fnOf "__eq__" "Ratio.__eq__" (defArgs sRatioEq) (defBody sRatioEq) (defScope sRatioEq) .none kVeq dceq pmeq aneq cdeq cteq), sleq⟩)
    (ceq : PySem.W.codeIn K cdeq "Ratio.__eq__" = true)
    (abo : PySem.W.findIn K (.ref C) "__bool__" = some (some (.ref fbo)))
    (ibo : PySem.W.isFn K (.ref fbo) = true)
    (lbo : K.lookup fbo = some ⟨ocbo, odbo, .func (PySem.W.fnOf "__bool__" "Ratio.__bool__" (defArgs sRatioBool) (defBody sRatioBool) (defScope sRatioBool) .none kVbo dcbo pmbo anbo cdbo ctbo), slbo⟩)
    (cbo : PySem.W.codeIn K cdbo "Ratio.__bool__" = true)
    (ast : PySem.W.findIn K (.ref C) "__str__" = some (some (.ref fst)))
    (ist : PySem.W.isFn K (.ref fst) = true)
    (lst : K.lookup fst = some ⟨ocst, odst, .func (PySem.W.fnOf "__str__" "Ratio.__str__" (defArgs sRatioStr) (defBody sRatioStr) (defScope sRatioStr) .none kVst dcst pmst anst cdst ctst), slst⟩)
    (cst : PySem.W.codeIn K cdst "Ratio.__str__" = true)
    (are : PySem.W.findIn K (.ref C) "__repr__" = some (some (.ref fre)))
    (ire : PySem.W.isFn K (.ref fre) = true)
    (lre : K.lookup fre = some ⟨ocre, odre, .func (PySem.W.fnOf "__repr__" "Ratio.__repr__" (defArgs sRatioRepr) (defBody sRatioRepr) (defScope sRatioRepr) .none kVre dcre pmre anre cdre ctre), slre⟩)
    (cre : PySem.W.codeIn K cdre "Ratio.__repr__" = true)
    (atp : PySem.W.findIn K (.ref C) "top" = some (some (.ref ptp)))
    (gtp : PySem.W.specialIn K (.ref ptp) "__get__" = some (some (.builtin "property.__get__")))
    (ttp : PySem.W.takesIn K (.ref ptp) = some true)
    (rtph : PySem.W.recIn K ptp "property" = some (.ref ftp :: rtp))
    (ltp : K.lookup ftp = some ⟨octp, odtp, .func (PySem.W.fnOf "top" "Ratio.top" (defArgs sRatioTop) (defBody sRatioTop) (defScope sRatioTop) .none kVtp dctp pmtp antp cdtp cttp), sltp⟩)
    (ctp : PySem.W.codeIn K cdtp "Ratio.top" = true)
    (abt : PySem.W.findIn K (.ref C) "bottom" = some (some (.ref pbt)))
    (gbt : PySem.W.specialIn K (.ref pbt) "__get__" = some (some (.builtin "property.__get__")))
    (tbt : PySem.W.takesIn K (.ref pbt) = some true)
    (rbth : PySem.W.recIn K pbt "property" = some (.ref fbt :: rbt))
    (lbt : K.lookup fbt = some ⟨ocbt, odbt, .func (PySem.W.fnOf "bottom" "Ratio.bottom" (defArgs sRatioBottom) (defBody sRatioBottom) (defScope sRatioBottom) .none kVbt dcbt pmbt anbt cdbt ctbt), slbt⟩)
    (cbt : PySem.W.codeIn K cdbt "Ratio.bottom" = true)
    (aIT : PySem.W.findIn K (.ref C) "__init__" = some (some (.ref fIT)))
    (iIT : PySem.W.isFn K (.ref fIT) = true)
    (lIT : K.lookup fIT = some ⟨ocIT, odIT, .func (PySem.W.fnOf "__init__" "Ratio.__init__" (defArgs sRatioInit) (defBody sRatioInit) (defScope sRatioInit) (.ref fT) kVIT dcIT pmIT anIT cdIT ctIT), slIT⟩)
    (cIT : PySem.W.codeIn K cdIT "Ratio.__init__" = true)
    (lT : K.lookup fT = some ⟨ocT, odT, .seq #[.int 1 tk] nT, slT⟩)
    (pg : PySem.W.plainGet K C Str.empty = true)
    (hd : PySem.W.hasDictIn K C = true)
    (po : PySem.W.plainOver K C = true)
    (sa : PySem.W.findIn K (.ref C) "__setattr__" = some (some (.builtin "object.__setattr__")))
    (mk : PySem.W.makesIn K C = true)
    (kc : PySem.W.keepIn K (.ref C) = true)
    (nN : PySem.W.findIn K (.ref C) "numerator_here" = some none)
    (nD : PySem.W.findIn K (.ref C) "denominator_here" = some none)
    (ca : PySem.W.findIn K (.ref C) "__class__" = some (some (.builtin "object.__class__")))
    (cn : PySem.W.specialIn K (.builtin "object.__class__") "__get__" = some (some (.builtin "getset_descriptor.__get__")))
    (ct : PySem.W.takesIn K (.builtin "object.__class__") = some true)
    (cm : PySem.W.mroIn K C (.type "object") = some true)
    (sf : PySem.W.selfFirst K C = true)
    (hci : PySem.W.clsIn K C = some cdC)
    (hty : PySem.W.typeIn K (.ref C) = some (.type "type"))
    (hne : PySem.W.findIn K (.ref C) "__ne__" = some (some (.builtin "object.__ne__")))
    (nfC : PySem.W.notFirst K C (.ref C) = true)
    (siNoneType : PySem.W.subIn K (.type "NoneType") (.ref C) = some false)
    (nfNoneType : PySem.W.notFirst K C (.type "NoneType") = true)
    (siint : PySem.W.subIn K (.type "int") (.ref C) = some false)
    (nfint : PySem.W.notFirst K C (.type "int") = true)
    (sibool : PySem.W.subIn K (.type "bool") (.ref C) = some false)
    (nfbool : PySem.W.notFirst K C (.type "bool") = true)
    (sistr : PySem.W.subIn K (.type "str") (.ref C) = some false)
    (nfstr : PySem.W.notFirst K C (.type "str") = true)
    (silist : PySem.W.subIn K (.type "list") (.ref C) = some false)
    (nflist : PySem.W.notFirst K C (.type "list") = true)
    (situple : PySem.W.subIn K (.type "tuple") (.ref C) = some false)
    (nftuple : PySem.W.notFirst K C (.type "tuple") = true)
    (babs : PySem.W.nsIn K mainGlobals "abs" = some none)
    (bint : PySem.W.nsIn K mainGlobals "int" = some none)
    (blen : PySem.W.nsIn K mainGlobals "len" = some none)
    (bmax : PySem.W.nsIn K mainGlobals "max" = some none)
    (bmin : PySem.W.nsIn K mainGlobals "min" = some none)
    (ball : PySem.W.nsIn K mainGlobals "all" = some none)
    (bany : PySem.W.nsIn K mainGlobals "any" = some none)
    (bstr : PySem.W.nsIn K mainGlobals "str" = some none)
    (brepr : PySem.W.nsIn K mainGlobals "repr" = some none)
    (bbool : PySem.W.nsIn K mainGlobals "bool" = some none)
    (btuple : PySem.W.nsIn K mainGlobals "tuple" = some none)
    (blist : PySem.W.nsIn K mainGlobals "list" = some none)
    (bisinstance : PySem.W.nsIn K mainGlobals "isinstance" = some none)
    (brange : PySem.W.nsIn K mainGlobals "range" = some none)
    (bzip : PySem.W.nsIn K mainGlobals "zip" = some none)
    (benumerate : PySem.W.nsIn K mainGlobals "enumerate" = some none) :
    ∃ fd : FuncData, (∀ (s : Shared) (v : Value), BindsTo s fd ⟨[v], []⟩ [("_law_script", v)]) ∧ ∀ base : Heap, K.In base → base.Ns mainGlobals mg → FnK l.prog w K mg base 30 fa fd ["_law_script"] (rLaw K) := by
  have eF : fa = fLA := by
    have e := hfa.symm.trans (PySem.W.mg_of X G aLA)
    cases e
    rfl
  rw [eF]
  have rII' : RowOk K mg ⟨"is_integer", true, cIsInteger, fII, (PySem.W.fnOf "is_integer" "is_integer" (defArgs sIsInteger) (defBody sIsInteger) (defScope sIsInteger) .none kVII dcII pmII anII cdII ctII), [((1, []), [.inl 0])]⟩ := by
    have b : BndP K (PySem.W.fnOf "is_integer" "is_integer" (defArgs sIsInteger) (defBody sIsInteger) (defScope sIsInteger) .none kVII dcII pmII anII cdII ctII) ["value"] := fun s us _ hl => match us, hl with | [_], _ => .of_eq rfl
    exact ⟨⟨_, _, _, _, _, _, _, _, _, _, _, _, _, _, _, rfl, lII, cII, scIsInteger, okIsInteger⟩, fun _ => b, fun z hz => by cases List.mem_singleton.mp hz; exact bnd1 b, fun _ => ⟨PySem.W.mg_of X G aII, kII⟩⟩
  have rCO' : RowOk K mg ⟨"common", true, cCommon, fCO, (PySem.W.fnOf "common" "common" (defArgs sCommon) (defBody sCommon) (defScope sCommon) .none kVCO dcCO pmCO anCO cdCO ctCO), [((2, []), [.inl 0, .inl 1])]⟩ := by
    have b : BndP K (PySem.W.fnOf "common" "common" (defArgs sCommon) (defBody sCommon) (defScope sCommon) .none kVCO dcCO pmCO anCO cdCO ctCO) ["one", "two"] := fun s us _ hl => match us, hl with | [_, _], _ => .of_eq rfl
    exact ⟨⟨_, _, _, _, _, _, _, _, _, _, _, _, _, _, _, rfl, lCO, cCO, scCommon, okCommon⟩, fun _ => b, fun z hz => by cases List.mem_singleton.mp hz; exact bnd2 b, fun _ => ⟨PySem.W.mg_of X G aCO, kCO⟩⟩
  have rPU' : RowOk K mg ⟨"_law_purse", true, cLawPurse, fPU, (PySem.W.fnOf "_law_purse" "_law_purse" (defArgs sLawPurse) (defBody sLawPurse) (defScope sLawPurse) .none kVPU dcPU pmPU anPU cdPU ctPU), [((1, []), [.inl 0])]⟩ := by
    have b : BndP K (PySem.W.fnOf "_law_purse" "_law_purse" (defArgs sLawPurse) (defBody sLawPurse) (defScope sLawPurse) .none kVPU dcPU pmPU anPU cdPU ctPU) ["_law_script"] := fun s us _ hl => match us, hl with | [_], _ => .of_eq rfl
    exact ⟨⟨_, _, _, _, _, _, _, _, _, _, _, _, _, _, _, rfl, lPU, cPU, scLawPurse, okLawPurse⟩, fun _ => b, fun z hz => by cases List.mem_singleton.mp hz; exact bnd1 b, fun _ => ⟨PySem.W.mg_of X G aPU, kPU⟩⟩
  have rDR' : RowOk K mg ⟨"_law_draw", true, cLawDraw, fDR, (PySem.W.fnOf "_law_draw" "_law_draw" (defArgs sLawDraw) (defBody sLawDraw) (defScope sLawDraw) .none kVDR dcDR pmDR anDR cdDR ctDR), [((2, []), [.inl 0, .inl 1])]⟩ := by
    have b : BndP K (PySem.W.fnOf "_law_draw" "_law_draw" (defArgs sLawDraw) (defBody sLawDraw) (defScope sLawDraw) .none kVDR dcDR pmDR anDR cdDR ctDR) ["_law_q", "_law_many"] := fun s us _ hl => match us, hl with | [_, _], _ => .of_eq rfl
    exact ⟨⟨_, _, _, _, _, _, _, _, _, _, _, _, _, _, _, rfl, lDR, cDR, scLawDraw, okLawDraw⟩, fun _ => b, fun z hz => by cases List.mem_singleton.mp hz; exact bnd2 b, fun _ => ⟨PySem.W.mg_of X G aDR, kDR⟩⟩
  have rFR' : RowOk K mg ⟨"_law_from", true, cLawFrom, fFR, (PySem.W.fnOf "_law_from" "_law_from" (defArgs sLawFrom) (defBody sLawFrom) (defScope sLawFrom) .none kVFR dcFR pmFR anFR cdFR ctFR), [((2, []), [.inl 0, .inl 1])]⟩ := by
    have b : BndP K (PySem.W.fnOf "_law_from" "_law_from" (defArgs sLawFrom) (defBody sLawFrom) (defScope sLawFrom) .none kVFR dcFR pmFR anFR cdFR ctFR) ["_law_script", "_law_k"] := fun s us _ hl => match us, hl with | [_, _], _ => .of_eq rfl
    exact ⟨⟨_, _, _, _, _, _, _, _, _, _, _, _, _, _, _, rfl, lFR, cFR, scLawFrom, okLawFrom⟩, fun _ => b, fun z hz => by cases List.mem_singleton.mp hz; exact bnd2 b, fun _ => ⟨PySem.W.mg_of X G aFR, kFR⟩⟩
  have rLC' : RowOk K mg ⟨"_law_common", true, cLawCommon, fLC, (PySem.W.fnOf "_law_common" "_law_common" (defArgs sLawCommon) (defBody sLawCommon) (defScope sLawCommon) .none kVLC dcLC pmLC anLC cdLC ctLC), [((2, []), [.inl 0, .inl 1])]⟩ := by
    have b : BndP K (PySem.W.fnOf "_law_common" "_law_common" (defArgs sLawCommon) (defBody sLawCommon) (defScope sLawCommon) .none kVLC dcLC pmLC anLC cdLC ctLC) ["_law_one", "_law_two"] := fun s us _ hl => match us, hl with | [_, _], _ => .of_eq rfl
    exact ⟨⟨_, _, _, _, _, _, _, _, _, _, _, _, _, _, _, rfl, lLC, cLC, scLawCommon, okLawCommon⟩, fun _ => b, fun z hz => by cases List.mem_singleton.mp hz; exact bnd2 b, fun _ => ⟨PySem.W.mg_of X G aLC, kLC⟩⟩
  have rLO' : RowOk K mg ⟨"_law_lowest", true, cLawLowest, fLO, (PySem.W.fnOf "_law_lowest" "_law_lowest" (defArgs sLawLowest) (defBody sLawLowest) (defScope sLawLowest) .none kVLO dcLO pmLO anLO cdLO ctLO), [((2, []), [.inl 0, .inl 1])]⟩ := by
    have b : BndP K (PySem.W.fnOf "_law_lowest" "_law_lowest" (defArgs sLawLowest) (defBody sLawLowest) (defScope sLawLowest) .none kVLO dcLO pmLO anLO cdLO ctLO) ["_law_high", "_law_under"] := fun s us _ hl => match us, hl with | [_, _], _ => .of_eq rfl
    exact ⟨⟨_, _, _, _, _, _, _, _, _, _, _, _, _, _, _, rfl, lLO, cLO, scLawLowest, okLawLowest⟩, fun _ => b, fun z hz => by cases List.mem_singleton.mp hz; exact bnd2 b, fun _ => ⟨PySem.W.mg_of X G aLO, kLO⟩⟩
  have rDI' : RowOk K mg ⟨"_law_digits", true, cLawDigits, fDI, (PySem.W.fnOf "_law_digits" "_law_digits" (defArgs sLawDigits) (defBody sLawDigits) (defScope sLawDigits) .none kVDI dcDI pmDI anDI cdDI ctDI), [((1, []), [.inl 0])]⟩ := by
    have b : BndP K (PySem.W.fnOf "_law_digits" "_law_digits" (defArgs sLawDigits) (defBody sLawDigits) (defScope sLawDigits) .none kVDI dcDI pmDI anDI cdDI ctDI) ["_law_pair"] := fun s us _ hl => match us, hl with | [_], _ => .of_eq rfl
    exact ⟨⟨_, _, _, _, _, _, _, _, _, _, _, _, _, _, _, rfl, lDI, cDI, scLawDigits, okLawDigits⟩, fun _ => b, fun z hz => by cases List.mem_singleton.mp hz; exact bnd1 b, fun _ => ⟨PySem.W.mg_of X G aDI, kDI⟩⟩
  have rSM' : RowOk K mg ⟨"_law_small", true, cLawSmall, fSM, (PySem.W.fnOf "_law_small" "_law_small" (defArgs sLawSmall) (defBody sLawSmall) (defScope sLawSmall) .none kVSM dcSM pmSM anSM cdSM ctSM), [((2, []), [.inl 0, .inl 1])]⟩ := by
    have b : BndP K (PySem.W.fnOf "_law_small" "_law_small" (defArgs sLawSmall) (defBody sLawSmall) (defScope sLawSmall) .none kVSM dcSM pmSM anSM cdSM ctSM) ["_law_q", "_law_most"] := fun s us _ hl => match us, hl with | [_, _], _ => .of_eq rfl
    exact ⟨⟨_, _, _, _, _, _, _, _, _, _, _, _, _, _, _, rfl, lSM, cSM, scLawSmall, okLawSmall⟩, fun _ => b, fun z hz => by cases List.mem_singleton.mp hz; exact bnd2 b, fun _ => ⟨PySem.W.mg_of X G aSM, kSM⟩⟩
  have rFI' : RowOk K mg ⟨"_law_fits", true, cLawFits, fFI, (PySem.W.fnOf "_law_fits" "_law_fits" (defArgs sLawFits) (defBody sLawFits) (defScope sLawFits) .none kVFI dcFI pmFI anFI cdFI ctFI), [((2, []), [.inl 0, .inl 1])]⟩ := by
    have b : BndP K (PySem.W.fnOf "_law_fits" "_law_fits" (defArgs sLawFits) (defBody sLawFits) (defScope sLawFits) .none kVFI dcFI pmFI anFI cdFI ctFI) ["_law_one", "_law_pair"] := fun s us _ hl => match us, hl with | [_, _], _ => .of_eq rfl
    exact ⟨⟨_, _, _, _, _, _, _, _, _, _, _, _, _, _, _, rfl, lFI, cFI, scLawFits, okLawFits⟩, fun _ => b, fun z hz => by cases List.mem_singleton.mp hz; exact bnd2 b, fun _ => ⟨PySem.W.mg_of X G aFI, kFI⟩⟩
  have rRI' : RowOk K mg ⟨"_law_right", true, cLawRight, fRI, (PySem.W.fnOf "_law_right" "_law_right" (defArgs sLawRight) (defBody sLawRight) (defScope sLawRight) .none kVRI dcRI pmRI anRI cdRI ctRI), [((1, []), [.inl 0])]⟩ := by
    have b : BndP K (PySem.W.fnOf "_law_right" "_law_right" (defArgs sLawRight) (defBody sLawRight) (defScope sLawRight) .none kVRI dcRI pmRI anRI cdRI ctRI) ["_law_q"] := fun s us _ hl => match us, hl with | [_], _ => .of_eq rfl
    exact ⟨⟨_, _, _, _, _, _, _, _, _, _, _, _, _, _, _, rfl, lRI, cRI, scLawRight, okLawRight⟩, fun _ => b, fun z hz => by cases List.mem_singleton.mp hz; exact bnd1 b, fun _ => ⟨PySem.W.mg_of X G aRI, kRI⟩⟩
  have rLA' : RowOk K mg ⟨"law", true, cLaw, fLA, (PySem.W.fnOf "law" "law" (defArgs sLaw) (defBody sLaw) (defScope sLaw) .none kVLA dcLA pmLA anLA cdLA ctLA), [((1, []), [.inl 0])]⟩ := by
    have b : BndP K (PySem.W.fnOf "law" "law" (defArgs sLaw) (defBody sLaw) (defScope sLaw) .none kVLA dcLA pmLA anLA cdLA ctLA) ["_law_script"] := fun s us _ hl => match us, hl with | [_], _ => .of_eq rfl
    exact ⟨⟨_, _, _, _, _, _, _, _, _, _, _, _, _, _, _, rfl, lLA, cLA, scLaw, okLaw⟩, fun _ => b, fun z hz => by cases List.mem_singleton.mp hz; exact bnd1 b, fun _ => ⟨PySem.W.mg_of X G aLA, kLA⟩⟩
  have req' : RowOk K mg ⟨"Ratio.__eq__", false, cRatioEq, feq, (PySem.W.fnOf "__eq__" "Ratio.__eq__" (defArgs sRatioEq) (defBody sRatioEq) (defScope sRatioEq) .none kVeq dceq pmeq aneq cdeq cteq), [((2, []), [.inl 0, .inl 1])]⟩ := by
    have b : BndP K (PySem.W.fnOf "__eq__" "Ratio.__eq__" (defArgs sRatioEq) (defBody sRatioEq) (defScope sRatioEq) .none kVeq dceq pmeq aneq cdeq cteq) ["self", "other"] := fun s us _ hl => match us, hl with | [_, _], _ => .of_eq rfl
    exact ⟨⟨_, _, _, _, _, _, _, _, _, _, _, _, _, _, _, rfl, leq, ceq, scRatioEq, okRatioEq⟩, fun _ => b, fun z hz => by cases List.mem_singleton.mp hz; exact bnd2 b, fun z => by cases z⟩
  have rbo' : RowOk K mg ⟨"Ratio.__bool__", false, cRatioBool, fbo, (PySem.W.fnOf "__bool__" "Ratio.__bool__" (defArgs sRatioBool) (defBody sRatioBool) (defScope sRatioBool) .none kVbo dcbo pmbo anbo cdbo ctbo), [((1, []), [.inl 0])]⟩ := by
    have b : BndP K (PySem.W.fnOf "__bool__" "Ratio.__bool__" (defArgs sRatioBool) (defBody sRatioBool) (defScope sRatioBool) .none kVbo dcbo pmbo anbo cdbo ctbo) ["self"] := fun s us _ hl => match us, hl with | [_], _ => .of_eq rfl
    exact ⟨⟨_, _, _, _, _, _, _, _, _, _, _, _, _, _, _, rfl, lbo, cbo, scRatioBool, okRatioBool⟩, fun _ => b, fun z hz => by cases List.mem_singleton.mp hz; exact bnd1 b, fun z => by cases z⟩
  have rst' : RowOk K mg ⟨"Ratio.__str__", false, cRatioStr, fst, (PySem.W.fnOf "__str__" "Ratio.__str__" (defArgs sRatioStr) (defBody sRatioStr) (defScope sRatioStr) .none kVst dcst pmst anst cdst ctst), [((1, []), [.inl 0])]⟩ := by
    have b : BndP K (PySem.W.fnOf "__str__" "Ratio.__str__" (defArgs sRatioStr) (defBody sRatioStr) (defScope sRatioStr) .none kVst dcst pmst anst cdst ctst) ["self"] := fun s us _ hl => match us, hl with | [_], _ => .of_eq rfl
    exact ⟨⟨_, _, _, _, _, _, _, _, _, _, _, _, _, _, _, rfl, lst, cst, scRatioStr, okRatioStr⟩, fun _ => b, fun z hz => by cases List.mem_singleton.mp hz; exact bnd1 b, fun z => by cases z⟩
  have rre' : RowOk K mg ⟨"Ratio.__repr__", false, cRatioRepr, fre, (PySem.W.fnOf "__repr__" "Ratio.__repr__" (defArgs sRatioRepr) (defBody sRatioRepr) (defScope sRatioRepr) .none kVre dcre pmre anre cdre ctre), [((1, []), [.inl 0])]⟩ := by
    have b : BndP K (PySem.W.fnOf "__repr__" "Ratio.__repr__" (defArgs sRatioRepr) (defBody sRatioRepr) (defScope sRatioRepr) .none kVre dcre pmre anre cdre ctre) ["self"] := fun s us _ hl => match us, hl with | [_], _ => .of_eq rfl
    exact ⟨⟨_, _, _, _, _, _, _, _, _, _, _, _, _, _, _, rfl, lre, cre, scRatioRepr, okRatioRepr⟩, fun _ => b, fun z hz => by cases List.mem_singleton.mp hz; exact bnd1 b, fun z => by cases z⟩
  have rtp' : RowOk K mg ⟨"Ratio.top", false, cRatioTop, ftp, (PySem.W.fnOf "top" "Ratio.top" (defArgs sRatioTop) (defBody sRatioTop) (defScope sRatioTop) .none kVtp dctp pmtp antp cdtp cttp), [((1, []), [.inl 0])]⟩ := by
    have b : BndP K (PySem.W.fnOf "top" "Ratio.top" (defArgs sRatioTop) (defBody sRatioTop) (defScope sRatioTop) .none kVtp dctp pmtp antp cdtp cttp) ["self"] := fun s us _ hl => match us, hl with | [_], _ => .of_eq rfl
    exact ⟨⟨_, _, _, _, _, _, _, _, _, _, _, _, _, _, _, rfl, ltp, ctp, scRatioTop, okRatioTop⟩, fun _ => b, fun z hz => by cases List.mem_singleton.mp hz; exact bnd1 b, fun z => by cases z⟩
  have rbt' : RowOk K mg ⟨"Ratio.bottom", false, cRatioBottom, fbt, (PySem.W.fnOf "bottom" "Ratio.bottom" (defArgs sRatioBottom) (defBody sRatioBottom) (defScope sRatioBottom) .none kVbt dcbt pmbt anbt cdbt ctbt), [((1, []), [.inl 0])]⟩ := by
    have b : BndP K (PySem.W.fnOf "bottom" "Ratio.bottom" (defArgs sRatioBottom) (defBody sRatioBottom) (defScope sRatioBottom) .none kVbt dcbt pmbt anbt cdbt ctbt) ["self"] := fun s us _ hl => match us, hl with | [_], _ => .of_eq rfl
    exact ⟨⟨_, _, _, _, _, _, _, _, _, _, _, _, _, _, _, rfl, lbt, cbt, scRatioBottom, okRatioBottom⟩, fun _ => b, fun z hz => by cases List.mem_singleton.mp hz; exact bnd1 b, fun z => by cases z⟩
  have rIT' := init_row (mg := mg) lIT cIT lT
  obtain ⟨wIIr, okII, qII, mII, eIIf, eIIa, eIId, eIIp⟩ := row_ex rII'
  clear rII'
  obtain ⟨wCOr, okCO, qCO, mCO, eCOf, eCOa, eCOd, eCOp⟩ := row_ex rCO'
  clear rCO'
  obtain ⟨wPUr, okPU, qPU, mPU, ePUf, ePUa, ePUd, ePUp⟩ := row_ex rPU'
  clear rPU'
  obtain ⟨wDRr, okDR, qDR, mDR, eDRf, eDRa, eDRd, eDRp⟩ := row_ex rDR'
  clear rDR'
  obtain ⟨wFRr, okFR, qFR, mFR, eFRf, eFRa, eFRd, eFRp⟩ := row_ex rFR'
  clear rFR'
  obtain ⟨wLCr, okLC, qLC, mLC, eLCf, eLCa, eLCd, eLCp⟩ := row_ex rLC'
  clear rLC'
  obtain ⟨wLOr, okLO, qLO, mLO, eLOf, eLOa, eLOd, eLOp⟩ := row_ex rLO'
  clear rLO'
  obtain ⟨wDIr, okDI, qDI, mDI, eDIf, eDIa, eDId, eDIp⟩ := row_ex rDI'
  clear rDI'
  obtain ⟨wSMr, okSM, qSM, mSM, eSMf, eSMa, eSMd, eSMp⟩ := row_ex rSM'
  clear rSM'
  obtain ⟨wFIr, okFI, qFI, mFI, eFIf, eFIa, eFId, eFIp⟩ := row_ex rFI'
  clear rFI'
  obtain ⟨wRIr, okRI, qRI, mRI, eRIf, eRIa, eRId, eRIp⟩ := row_ex rRI'
  clear rRI'
  obtain ⟨wLAr, okLA, qLA, mLA, eLAf, eLAa, eLAd, eLAp⟩ := row_ex rLA'
  clear rLA'
  obtain ⟨weqr, okeq, qeq, meq, eeqf, eeqa, eeqd, eeqp⟩ := row_ex req'
  clear req'
  obtain ⟨wbor, okbo, qbo, mbo, ebof, eboa, ebod, ebop⟩ := row_ex rbo'
  clear rbo'
  obtain ⟨wstr, okst, qst, mst, estf, esta, estd, estp⟩ := row_ex rst'
  clear rst'
  obtain ⟨wrer, okre, qre, mre, eref, erea, ered, erep⟩ := row_ex rre'
  clear rre'
  obtain ⟨wtpr, oktp, qtp, mtp, etpf, etpa, etpd, etpp⟩ := row_ex rtp'
  clear rtp'
  obtain ⟨wbtr, okbt, qbt, mbt, ebtf, ebta, ebtd, ebtp⟩ := row_ex rbt'
  clear rbt'
  obtain ⟨wITr, okIT, qIT, mIT, eITf, eITa, eITd, eITp⟩ := row_ex rIT'
  clear rIT'
  obtain ⟨L, hL⟩ : ∃ L : List Row, L = [wIIr, wCOr, wPUr, wDRr, wFRr, wLCr, wLOr, wDIr, wSMr, wFIr, wRIr, wLAr, weqr, wbor, wstr, wrer, wtpr, wbtr, wITr] := ⟨_, rfl⟩
  have hr0 : ∀ r ∈ ([] : List Row), RowOk K mg r := rows_nil
  have hr1 := rows_cons okIT hr0
  have hr2 := rows_cons okbt hr1
  have hr3 := rows_cons oktp hr2
  have hr4 := rows_cons okre hr3
  have hr5 := rows_cons okst hr4
  have hr6 := rows_cons okbo hr5
  have hr7 := rows_cons okeq hr6
  have hr8 := rows_cons okLA hr7
  have hr9 := rows_cons okRI hr8
  have hr10 := rows_cons okFI hr9
  have hr11 := rows_cons okSM hr10
  have hr12 := rows_cons okDI hr11
  have hr13 := rows_cons okLO hr12
  have hr14 := rows_cons okLC hr13
  have hr15 := rows_cons okFR hr14
  have hr16 := rows_cons okDR hr15
  have hr17 := rows_cons okPU hr16
  have hr18 := rows_cons okCO hr17
  have hr19 := rows_cons okII hr18
  have hr : ∀ r ∈ L, RowOk K mg r := by
    rw [hL]
    exact hr19
  have hnm : L.map (·.q) = (["is_integer", "common", "_law_purse", "_law_draw", "_law_from", "_law_common", "_law_lowest", "_law_digits", "_law_small", "_law_fits", "_law_right", "law", "Ratio.__eq__", "Ratio.__bool__", "Ratio.__str__", "Ratio.__repr__", "Ratio.top", "Ratio.bottom", "Ratio.__init__"] : List Str) := by
    rw [hL]
    simp only [List.map_cons, List.map_nil, qII, qCO, qPU, qDR, qFR, qLC, qLO, qDI, qSM, qFI, qRI, qLA, qeq, qbo, qst, qre, qtp, qbt, qIT]
  have hnd : (L.map (·.q)).Nodup := by
    rw [hnm]
    decide +kernel
  have wII : rowOf L "is_integer" = some wIIr := row_at' (i := 0) hnd (by rw [hL]; rfl) qII
  have dII' := ad_at wII eIIa
  have wCO : rowOf L "common" = some wCOr := row_at' (i := 1) hnd (by rw [hL]; rfl) qCO
  have dCO' := ad_at wCO eCOa
  have wPU : rowOf L "_law_purse" = some wPUr := row_at' (i := 2) hnd (by rw [hL]; rfl) qPU
  have dPU' := ad_at wPU ePUa
  have wDR : rowOf L "_law_draw" = some wDRr := row_at' (i := 3) hnd (by rw [hL]; rfl) qDR
  have dDR' := ad_at wDR eDRa
  have wFR : rowOf L "_law_from" = some wFRr := row_at' (i := 4) hnd (by rw [hL]; rfl) qFR
  have dFR' := ad_at wFR eFRa
  have wLC : rowOf L "_law_common" = some wLCr := row_at' (i := 5) hnd (by rw [hL]; rfl) qLC
  have dLC' := ad_at wLC eLCa
  have wLO : rowOf L "_law_lowest" = some wLOr := row_at' (i := 6) hnd (by rw [hL]; rfl) qLO
  have dLO' := ad_at wLO eLOa
  have wDI : rowOf L "_law_digits" = some wDIr := row_at' (i := 7) hnd (by rw [hL]; rfl) qDI
  have dDI' := ad_at wDI eDIa
  have wSM : rowOf L "_law_small" = some wSMr := row_at' (i := 8) hnd (by rw [hL]; rfl) qSM
  have dSM' := ad_at wSM eSMa
  have wFI : rowOf L "_law_fits" = some wFIr := row_at' (i := 9) hnd (by rw [hL]; rfl) qFI
  have dFI' := ad_at wFI eFIa
  have wRI : rowOf L "_law_right" = some wRIr := row_at' (i := 10) hnd (by rw [hL]; rfl) qRI
  have dRI' := ad_at wRI eRIa
  have wLA : rowOf L "law" = some wLAr := row_at' (i := 11) hnd (by rw [hL]; rfl) qLA
  have dLA' := ad_at wLA eLAa
  have weq : rowOf L "Ratio.__eq__" = some weqr := row_at' (i := 12) hnd (by rw [hL]; rfl) qeq
  have deq' := ad_at weq eeqa
  have wbo : rowOf L "Ratio.__bool__" = some wbor := row_at' (i := 13) hnd (by rw [hL]; rfl) qbo
  have dbo' := ad_at wbo eboa
  have wst : rowOf L "Ratio.__str__" = some wstr := row_at' (i := 14) hnd (by rw [hL]; rfl) qst
  have dst' := ad_at wst esta
  have wre : rowOf L "Ratio.__repr__" = some wrer := row_at' (i := 15) hnd (by rw [hL]; rfl) qre
  have dre' := ad_at wre erea
  have wtp : rowOf L "Ratio.top" = some wtpr := row_at' (i := 16) hnd (by rw [hL]; rfl) qtp
  have dtp' := ad_at wtp etpa
  have wbt : rowOf L "Ratio.bottom" = some wbtr := row_at' (i := 17) hnd (by rw [hL]; rfl) qbt
  have dbt' := ad_at wbt ebta
  have wIT : rowOf L "Ratio.__init__" = some wITr := row_at' (i := 18) hnd (by rw [hL]; rfl) qIT
  have dIT' := ad_at wIT eITa
  have nRA : rowOf L "Ratio" = none := row_none (by
    rw [hnm]
    decide +kernel)
  have cl : Cls K C := ⟨pg, hd, po, sa⟩
  have co : ClsO K C := ⟨cl, ca, cn, ct, cm, sf⟩
  obtain ⟨c, hcE⟩ : ∃ c : CRow, c = ⟨"Ratio", C, "Ratio.__init__", [("top", "Ratio.top"), ("bottom", "Ratio.bottom")], ["numerator_here", "denominator_here"], [], [("__eq__", "Ratio.__eq__"), ("__bool__", "Ratio.__bool__"), ("__str__", "Ratio.__str__"), ("__repr__", "Ratio.__repr__")], [], fun _ => none, [(C, true)], fun d => plainD d || isClsD C d⟩ := ⟨_, rfl⟩
  have hc : CRowOk K mg L c := by
    rw [hcE]
    refine { gc := ⟨PySem.W.mg_of X G aC, ?_⟩, co := co, prop := ?_, fld := ?_, meth := nofun, own := ?_, one := fun _ _ => hne, ri := nofun, isT := nofun, isC := ?_, kC := ?_, nf := ?_ }
    · show Mk K C (adL L "Ratio.__init__")
      rw [dIT']
      exact ⟨mk, aIT, iIT, kc⟩
    · refine List.forall_mem_cons.mpr ⟨⟨ptp, ?_⟩, List.forall_mem_cons.mpr ⟨⟨pbt, ?_⟩, nofun⟩⟩
      · show PropOf K C "top" ptp (adL L "Ratio.top")
        rw [dtp']
        exact ⟨atp, gtp, ttp, _, rtph⟩
      · show PropOf K C "bottom" pbt (adL L "Ratio.bottom")
        rw [dbt']
        exact ⟨abt, gbt, tbt, _, rbth⟩
    · exact List.forall_mem_cons.mpr ⟨nN, List.forall_mem_cons.mpr ⟨nD, nofun⟩⟩
    · refine List.forall_mem_cons.mpr ⟨?_, List.forall_mem_cons.mpr ⟨?_, List.forall_mem_cons.mpr ⟨?_, List.forall_mem_cons.mpr ⟨?_, nofun⟩⟩⟩⟩
      · show PySem.W.findIn K (.ref C) "__eq__" = some (some (.ref (adL L "Ratio.__eq__"))) ∧ PySem.W.isFn K (.ref (adL L "Ratio.__eq__")) = true
        rw [deq']
        exact ⟨aeq, ieq⟩
      · show PySem.W.findIn K (.ref C) "__bool__" = some (some (.ref (adL L "Ratio.__bool__"))) ∧ PySem.W.isFn K (.ref (adL L "Ratio.__bool__")) = true
        rw [dbo']
        exact ⟨abo, ibo⟩
      · show PySem.W.findIn K (.ref C) "__str__" = some (some (.ref (adL L "Ratio.__str__"))) ∧ PySem.W.isFn K (.ref (adL L "Ratio.__str__")) = true
        rw [dst']
        exact ⟨ast, ist⟩
      · show PySem.W.findIn K (.ref C) "__repr__" = some (some (.ref (adL L "Ratio.__repr__"))) ∧ PySem.W.isFn K (.ref (adL L "Ratio.__repr__")) = true
        rw [dre']
        exact ⟨are, ire⟩
    · exact List.forall_mem_cons.mpr ⟨kit_self, nofun⟩
    · exact List.forall_mem_cons.mpr ⟨kit_tr hci hty siNoneType, List.forall_mem_cons.mpr ⟨kit_tr hci hty siint, List.forall_mem_cons.mpr ⟨kit_tr hci hty sibool, List.forall_mem_cons.mpr ⟨kit_tr hci hty sistr, List.forall_mem_cons.mpr ⟨kit_tr hci hty silist, List.forall_mem_cons.mpr ⟨kit_tr hci hty situple, nofun⟩⟩⟩⟩⟩⟩
    · intro d hd'
      cases d with
      | non => exact ⟨_, .non, nfNoneType⟩
      | bl b => exact ⟨_, .bl b, nfbool⟩
      | int b => exact ⟨_, .int b, nfint⟩
      | str b => exact ⟨_, .str b, nfstr⟩
      | lst b => exact ⟨_, .lst b, nflist⟩
      | tup b => exact ⟨_, .tup b, nftuple⟩
      | ins D ns ds =>
        have e : D = C := by simpa [plainD, isClsD] using hd'
        subst e
        exact ⟨_, .ins co ns ds, nfC⟩
      | scr _ _ _ => simp [plainD, isClsD] at hd'
      | vl _ => simp [plainD, isClsD] at hd'
  have hw : WorldOk K mg [] := ⟨nofun, fun b => match b with
    | .abs => PySem.W.mg_none_of X G babs
    | .int => PySem.W.mg_none_of X G bint
    | .len => PySem.W.mg_none_of X G blen
    | .str => PySem.W.mg_none_of X G bstr
    | .repr => PySem.W.mg_none_of X G brepr
    | .bool => PySem.W.mg_none_of X G bbool
    | .all => PySem.W.mg_none_of X G ball
    | .any => PySem.W.mg_none_of X G bany
    | .max => PySem.W.mg_none_of X G bmax
    | .min => PySem.W.mg_none_of X G bmin, fun t => match t with
    | .int => PySem.W.mg_none_of X G bint
    | .bool => PySem.W.mg_none_of X G bbool
    | .str => PySem.W.mg_none_of X G bstr
    | .tuple => PySem.W.mg_none_of X G btuple
    | .list => PySem.W.mg_none_of X G blist, PySem.W.mg_none_of X G bisinstance, ⟨PySem.W.mg_none_of X G brange, PySem.W.mg_none_of X G bzip, PySem.W.mg_none_of X G benumerate⟩, kT_all K⟩
  have nam : namOf [c] "Ratio" = some c := nam_at (i := 0) (c := c) (C := [c]) (by simp) rfl |> fun z => by rw [hcE] at z ⊢; exact z
  have cat : clsOf [c] C = some c := by
    have z : clsOf [c] c.A = some c := cls_one
    rw [hcE] at z ⊢
    exact z
  obtain ⟨Gx, hG⟩ : ∃ g, g = mkG K L [c] [] := ⟨_, rfl⟩
  have hRat : HRat Gx C := by
    rw [hG]
    refine { fII := fns_at wII eIIf, fCO := fns_at wCO eCOf, fIT := fns_at wIT eITf, fTP := fns_at wtp etpf, fBT := fns_at wbt ebtf, fEQ := fns_at weq eeqf, fBO := fns_at wbo ebof, fST := fns_at wst estf, fRE := fns_at wre eref, gII := glo_at wII mII, gCO := glo_at wCO mCO, gRA := glo_cls nRA nam (by rw [hcE]) (by rw [hcE]), pII := pat_at' wII eIIp rfl, pCO := pat_at' wCO eCOp rfl, rTP := prop_at cat (by rw [hcE]; rfl), rBT := prop_at cat (by rw [hcE]; rfl), rN := prop_at cat (by rw [hcE]; rfl), rD := prop_at cat (by rw [hcE]; rfl), flN := fld_at cat (by rw [hcE]; rfl), flD := fld_at cat (by rw [hcE]; rfl), isC := isC_at cat (by rw [hcE]; simp), oEQ := own_at cat (by rw [hcE]; rfl), oBO := own_at cat (by rw [hcE]; rfl), oST := own_at cat (by rw [hcE]; rfl), oRE := own_at cat (by rw [hcE]; rfl) }
  have hMk : HMk Gx C := by
    rw [hG]
    refine { p3 := pat_at' wIT eITp rfl, p2 := pat_at' wIT eITp rfl, pTB := pat_at' wIT eITp rfl, pBT := pat_at' wIT eITp rfl, pT := pat_at' wIT eITp rfl, nfP := fun y hy => nf_at cat (by rw [hcE]; simp [hy]), nfR := fun n d => nf_at cat (by rw [hcE]; simp [rat, isClsD]) }
  have hLw : HLw Gx := by
    rw [hG]
    exact { fDR := fns_at wDR eDRf, fCM := fns_at wLC eLCf, fLO := fns_at wLO eLOf, fDI := fns_at wDI eDIf, fSM := fns_at wSM eSMf, gDR := glo_at wDR mDR, gCM := glo_at wLC mLC, gLO := glo_at wLO mLO, gDI := glo_at wDI mDI, gSM := glo_at wSM mSM, pCM := pat_at' wLC eLCp rfl, pLO := pat_at' wLO eLOp rfl, pDI := pat_at' wDI eDIp rfl }
  have hRi : HRi Gx := by
    rw [hG]
    exact { fFI := fns_at wFI eFIf, gFI := glo_at wFI mFI, pFI := pat_at' wFI eFIp rfl }
  have hK : Gx.K = K := by rw [hG]; rfl
  have hLaw : ∀ a ns, List.length ns ≤ 63 → Tn Gx 5 ⟨true, true⟩ "law" [.im (.scr K a ns)] = some (.im (.bl true), [.im (.scr K a ns)]) := by
    intro a ns hn
    have z := law_ok hRat hMk hLw hRi 0 ⟨true, true⟩ (by rw [hG]; exact fns_at wLA eLAf) (by rw [hG]; exact fns_at wRI eRIf) (by rw [hG]; exact glo_at wRI mRI) (by rw [hG]; exact fns_at wFR eFRf) (by rw [hG]; exact glo_at wFR mFR) (by rw [hG]; exact pat_at' wFR eFRp rfl) (by rw [hG]; exact fns_at wPU ePUf) (by rw [hG]; exact glo_at wPU mPU) (by rw [hG]; exact pat_at' wPU ePUp rfl) rfl a ns hn
    rw [hK] at z
    exact z
  refine ⟨(PySem.W.fnOf "law" "law" (defArgs sLaw) (defBody sLaw) (defScope sLaw) .none kVLA dcLA pmLA anLA cdLA ctLA), fun s v => .of_eq rfl, fun base _ _ => ?_⟩
  have ws := ws_of (P := l.prog) (w := w) (base := base) (z := (PySem.W.fnOf "law" "law" (defArgs sLaw) (defBody sLaw) (defScope sLaw) .none kVLA dcLA pmLA anLA cdLA ctLA)) hr (C := [c]) (List.forall_mem_cons.mpr ⟨hc, nofun⟩) hw
  have lk := law_K ws 5 (f := cLaw) (fns_at wLA eLAf)
  have lk' : FnK l.prog w K mg base 30 (adL L "law") (fdL L (PySem.W.fnOf "law" "law" (defArgs sLaw) (defBody sLaw) (defScope sLaw) .none kVLA dcLA pmLA anLA cdLA ctLA) "law") ["_law_script"] (RX (Tn (mkG K L [c] []) 5) ⟨true, true⟩ "law") := lk
  rw [dLA', fd_at wLA eLAd, ← hG] at lk'
  refine lk'.imp ?_
  rintro ss r ss' ⟨a, ns, rfl, hn, rfl, rfl⟩
  exact hLaw a ns hn
end K02
set_option Elab.async false
set_option linter.all false
set_option autoImplicit false
open PySem PySem.W PyProof.Rows
set_option maxRecDepth 100000 in
set_option maxHeartbeats 0 in
theorem PySem.Challenge.cw_matrixforms_k02_ratios_in_lowest_terms_holds : PySem.Challenge.rw_matrixforms_k02_ratios_in_lowest_terms.Holds := by
  w_on; o_law; k_head; (case hw => w_witness2)
  k_fill
  refine TL.walk_tree (l := PySem.Challenge.rw_matrixforms_k02_ratios_in_lowest_terms) (n := 63) (k := 30) (x := "_law_script") (R := RE.rLaw) rfl (by decide) rfl ⟨rfl, by decide, by decide⟩ (fun w h Y => PySem.W.kIn_of Y) ?F (fun K a ns hl => ⟨a, ns, rfl, hl, rfl, rfl⟩)
  case F =>
    intro w mg fa h KX G hmg
    refine' K02.all_mk KX G hmg ?aC ?aII ?lII ?cII ?kII ?aCO ?lCO ?cCO ?kCO ?aPU ?lPU ?cPU ?kPU ?aDR ?lDR ?cDR ?kDR ?aFR ?lFR ?cFR ?kFR ?aLC ?lLC ?cLC ?kLC ?aLO ?lLO ?cLO ?kLO ?aDI ?lDI ?cDI ?kDI ?aSM ?lSM ?cSM ?kSM ?aFI ?lFI ?cFI ?kFI ?aRI ?lRI ?cRI ?kRI ?aLA ?lLA ?cLA ?kLA ?aeq ?ieq ?leq ?ceq ?abo ?ibo ?lbo ?cbo ?ast ?ist ?lst ?cst ?are ?ire ?lre ?cre ?atp ?gtp ?ttp ?rtph ?ltp ?ctp ?abt ?gbt ?tbt ?rbth ?lbt ?cbt ?aIT ?iIT ?lIT ?cIT ?lT ?pg ?hd ?po ?sa ?mk ?kc ?nN ?nD ?ca ?cn ?ct ?cm ?sf ?hci ?hty ?hne ?nfC ?siNoneType ?nfNoneType ?siint ?nfint ?sibool ?nfbool ?sistr ?nfstr ?silist ?nflist ?situple ?nftuple ?babs ?bint ?blen ?bmax ?bmin ?ball ?bany ?bstr ?brepr ?bbool ?btuple ?blist ?bisinstance ?brange ?bzip ?benumerate
    (case aC => k_is)
    (case aII => k_is)
    (case lII => k_is)
    (case cII => k_is)
    (case kII => k_is)
    (case aCO => k_is)
    (case lCO => k_is)
    (case cCO => k_is)
    (case kCO => k_is)
    (case aPU => k_is)
    (case lPU => k_is)
    (case cPU => k_is)
    (case kPU => k_is)
    (case aDR => k_is)
    (case lDR => k_is)
    (case cDR => k_is)
    (case kDR => k_is)
    (case aFR => k_is)
    (case lFR => k_is)
    (case cFR => k_is)
    (case kFR => k_is)
    (case aLC => k_is)
    (case lLC => k_is)
    (case cLC => k_is)
    (case kLC => k_is)
    (case aLO => k_is)
    (case lLO => k_is)
    (case cLO => k_is)
    (case kLO => k_is)
    (case aDI => k_is)
    (case lDI => k_is)
    (case cDI => k_is)
    (case kDI => k_is)
    (case aSM => k_is)
    (case lSM => k_is)
    (case cSM => k_is)
    (case kSM => k_is)
    (case aFI => k_is)
    (case lFI => k_is)
    (case cFI => k_is)
    (case kFI => k_is)
    (case aRI => k_is)
    (case lRI => k_is)
    (case cRI => k_is)
    (case kRI => k_is)
    (case aLA => k_is)
    (case lLA => k_is)
    (case cLA => k_is)
    (case kLA => k_is)
    (case aeq => k_is)
    (case ieq => k_is)
    (case leq => k_is)
    (case ceq => k_is)
    (case abo => k_is)
    (case ibo => k_is)
    (case lbo => k_is)
    (case cbo => k_is)
    (case ast => k_is)
    (case ist => k_is)
    (case lst => k_is)
    (case cst => k_is)
    (case are => k_is)
    (case ire => k_is)
    (case lre => k_is)
    (case cre => k_is)
    (case atp => k_is)
    (case gtp => k_is)
    (case ttp => k_is)
    (case rtph => k_is)
    (case ltp => k_is)
    (case ctp => k_is)
    (case abt => k_is)
    (case gbt => k_is)
    (case tbt => k_is)
    (case rbth => k_is)
    (case lbt => k_is)
    (case cbt => k_is)
    (case aIT => k_is)
    (case iIT => k_is)
    (case lIT => k_is)
    (case cIT => k_is)
    (case lT => k_is)
    (case pg => k_is)
    (case hd => k_is)
    (case po => k_is)
    (case sa => k_is)
    (case mk => k_is)
    (case kc => k_is)
    (case nN => k_is)
    (case nD => k_is)
    (case ca => k_is)
    (case cn => k_is)
    (case ct => k_is)
    (case cm => k_is)
    (case sf => k_is)
    (case hci => k_is)
    (case hty => k_is)
    (case hne => k_is)
    (case nfC => k_is)
    (case siNoneType => k_is)
    (case nfNoneType => k_is)
    (case siint => k_is)
    (case nfint => k_is)
    (case sibool => k_is)
    (case nfbool => k_is)
    (case sistr => k_is)
    (case nfstr => k_is)
    (case silist => k_is)
    (case nflist => k_is)
    (case situple => k_is)
    (case nftuple => k_is)
    (case babs => k_is)
    (case bint => k_is)
    (case blen => k_is)
    (case bmax => k_is)
    (case bmin => k_is)
    (case ball => k_is)
    (case bany => k_is)
    (case bstr => k_is)
    (case brepr => k_is)
    (case bbool => k_is)
    (case btuple => k_is)
    (case blist => k_is)
    (case bisinstance => k_is)
    (case brange => k_is)
    (case bzip => k_is)
    (case benumerate => k_is)
