import PyProof.Rows.All
import Wide.All
import OpenK.AllK
import Wide.FinOn
import HandS.ForMost
import HandS.Style
import HandS.Wide
import HandS.IsInst
import HandS.RaiseMore
import HandS.Property
import HandS.SlotsOwn
import HandS.More
import KE.KOpsOwn
import PyProof.InstNe
import HandS.Defaults
import HandS.FStr
import KE.KCallOwn
import HandS.Exc
import HandS.HotCalls
import HandS.ExcField
import PyProof.ReprDict
import HandS.Iter
import HandS.TryMany
import KE.KExcInit
import PySem.Challenge.RW_matrixforms_k05_ratios_refused
import KE.KExcLine
set_option Elab.async false
set_option linter.all false
set_option maxRecDepth 100000
set_option autoImplicit false
set_option maxHeartbeats 4000000
/-! TL1: trees of data over the hand layer. D: immutable data; S: what a slot holds (data, or a list of its own that may change).
    Rep: a value stands for a tree in a heap. M: the addresses that may change (no tree goes through them), W: those that this code may change. -/
namespace TL
open PySem L2

inductive D where
  | non | bl (b : Bool) | int (i : Int) | str (x : Str) | lst (xs : List D) | scr (K : PySem.W.Frag) (a : Addr) (ns : List Int) | tup (xs : List D)
  | ins (C : Addr) (ns : List Str) (ds : List D) | vl (x : V) | dct (ks : List Str) (ds : List D) | tme

/-- what may change: a list, an instance that is being made -/
inductive OC where
  | lst (xs : List D) | ins (C : Addr) (ns : List Str) (ds : List D)
inductive S where
  | im (d : D) | own (o : OC)

/-- a list of ints that stands in the written part -/
def KL (K : PySem.W.Frag) (a : Addr) (ns : List Int) : Prop := ∃ (o : Obj) (its : Array Value) (n : Nat), K.lookup a = some o ∧ o.cls = .type "list" ∧ o.dict = none ∧ o.data = .seq its n ∧ its.size ≤ sizeLine ∧ Vals (ns.map V.int) its.toList
mutual
def Rep (M : Addr → Prop) (H : Hp) : D → V → Prop
  | .non, v => v = .non
  | .bl b, v => v = .bl b
  | .int i, v => v = .int i
  | .str x, v => v = .str x
  | .lst xs, v => ∃ p vs, v = .ref p ∧ ¬ M p ∧ H p = some (.lst vs) ∧ Reps M H xs vs
  | .scr K a ns, v => v = .ref a ∧ ((¬ M a ∧ Rd H a (.lst (ns.map V.int))) ∨ KL K a ns)
  | .tup xs, v => ∃ p vs, v = .ref p ∧ ¬ M p ∧ Rd H p (.tup vs) ∧ Reps M H xs vs
  | .ins C ns ds, v => ∃ p dx vs, v = .ref p ∧ ¬ M p ∧ H p = some (.ins C dx (ns.zip vs)) ∧ Repf M H p ds vs
  | .vl x, v => v = x
  | .dct ks ds, v => ∃ p vs, v = .ref p ∧ ¬ M p ∧ Rd H p (.dK ((ks.map Sum.inr).zip vs)) ∧ ks.length = ds.length ∧ Reps M H ds vs
  | .tme, _ => False
/-- an instance's fields: data, or the tuple of the instance itself -/
def Repf (M : Addr → Prop) (H : Hp) (p : Addr) : List D → List V → Prop
  | [], vs => vs = []
  | d :: ds, vs => ∃ v r, vs = v :: r ∧ (Rep M H d v ∨ (d = .tme ∧ ∃ t, v = .ref t ∧ ¬ M t ∧ Rd H t (.tup [.ref p]))) ∧ Repf M H p ds r
def Reps (M : Addr → Prop) (H : Hp) : List D → List V → Prop
  | [], vs => vs = []
  | d :: ds, vs => ∃ v r, vs = v :: r ∧ Rep M H d v ∧ Reps M H ds r
end

/-- what W does not hold stays -/
def Xt (W : Addr → Prop) (H H' : Hp) : Prop := ∀ a o, ¬ W a → H a = some o → H' a = some o
theorem Xt.refl {W : Addr → Prop} (H : Hp) : Xt W H H := fun _ _ _ h => h
theorem Xt.trans {W : Addr → Prop} {H H1 H2 : Hp} (a : Xt W H H1) (b : Xt W H1 H2) : Xt W H H2 := fun x o w h => b x o w (a x o w h)
theorem Xt.mono {W W' : Addr → Prop} {H H1 : Hp} (h : ∀ a, W a → W' a) (a : Xt W H H1) : Xt W' H H1 := fun x o w e => a x o (fun q => w (h x q)) e
theorem Xt.of {W : Addr → Prop} {H H' : Hp} (h : ∀ a o, H a = some o → H' a = some o) : Xt W H H' := fun a o _ e => h a o e
theorem ext_new {H : Hp} {p : Addr} {o : HO} (h : H p = none) : ∀ a u, H a = some u → upd H p o a = some u := fun a u e => by
  rw [upd_ne (ne_of_none e h)]; exact e

section
variable {M M' W W' : Addr → Prop} {H H' : Hp}
theorem rd_ex {a : Addr} {u : HO} (w : ∀ o, H a = some o → H' a = some o) (h : Rd H a u) : Rd H' a u := by
  rcases h with h | ⟨o, h⟩
  · exact .inl (w _ h)
  · exact .inr ⟨o, w _ h⟩
mutual
theorem Rep.ex (x : Xt M H H') : ∀ (d : D) {v : V}, Rep M H d v → Rep M H' d v
  | .non, _, h => h
  | .bl _, _, h => h
  | .int _, _, h => h
  | .str _, _, h => h
  | .vl _, _, h => h
  | .lst xs, _, ⟨p, vs, e, m, s, r⟩ => ⟨p, vs, e, m, x p _ m s, Reps.ex x xs r⟩
  | .scr K a ns, _, ⟨e, r⟩ => ⟨e, r.elim (fun z => .inl ⟨z.1, rd_ex (fun o q => x a o z.1 q) z.2⟩) .inr⟩
  | .tup xs, _, ⟨p, vs, e, m, s, r⟩ => ⟨p, vs, e, m, rd_ex (fun o q => x p o m q) s, Reps.ex x xs r⟩
  | .ins C ns ds, _, ⟨p, dx, vs, e, m, s, r⟩ => ⟨p, dx, vs, e, m, x p _ m s, Repf.ex x p ds r⟩
  | .dct ks ds, _, ⟨p, vs, e, m, s, l, r⟩ => ⟨p, vs, e, m, rd_ex (fun o q => x p o m q) s, l, Reps.ex x ds r⟩
  | .tme, _, h => h
theorem Repf.ex (x : Xt M H H') (p : Addr) : ∀ (ds : List D) {vs : List V}, Repf M H p ds vs → Repf M H' p ds vs
  | [], _, h => h
  | d :: ds, _, ⟨v, r, e, a, b⟩ => ⟨v, r, e, a.elim (fun a => .inl (Rep.ex x d a)) (fun ⟨h, t, e, m, s⟩ => .inr ⟨h, t, e, m, rd_ex (fun o q => x t o m q) s⟩), Repf.ex x p ds b⟩
theorem Reps.ex (x : Xt M H H') : ∀ (ds : List D) {vs : List V}, Reps M H ds vs → Reps M H' ds vs
  | [], _, h => h
  | d :: ds, _, ⟨v, r, e, a, b⟩ => ⟨v, r, e, Rep.ex x d a, Reps.ex x ds b⟩
end
mutual
theorem Rep.anti (x : ∀ a, M a → M' a) : ∀ (d : D) {v : V}, Rep M' H d v → Rep M H d v
  | .non, _, h => h
  | .bl _, _, h => h
  | .int _, _, h => h
  | .str _, _, h => h
  | .vl _, _, h => h
  | .lst xs, _, ⟨p, vs, e, m, s, r⟩ => ⟨p, vs, e, fun q => m (x p q), s, Reps.anti x xs r⟩
  | .scr K a ns, _, ⟨e, r⟩ => ⟨e, r.elim (fun z => .inl ⟨fun q => z.1 (x a q), z.2⟩) .inr⟩
  | .tup xs, _, ⟨p, vs, e, m, s, r⟩ => ⟨p, vs, e, fun q => m (x p q), s, Reps.anti x xs r⟩
  | .ins C ns ds, _, ⟨p, dx, vs, e, m, s, r⟩ => ⟨p, dx, vs, e, fun q => m (x p q), s, Repf.anti x p ds r⟩
  | .dct ks ds, _, ⟨p, vs, e, m, s, l, r⟩ => ⟨p, vs, e, fun q => m (x p q), s, l, Reps.anti x ds r⟩
  | .tme, _, h => h
theorem Repf.anti (x : ∀ a, M a → M' a) (p : Addr) : ∀ (ds : List D) {vs : List V}, Repf M' H p ds vs → Repf M H p ds vs
  | [], _, h => h
  | d :: ds, _, ⟨v, r, e, a, b⟩ => ⟨v, r, e, a.elim (fun a => .inl (Rep.anti x d a)) (fun ⟨h, t, e, m, s⟩ => .inr ⟨h, t, e, fun q => m (x t q), s⟩), Repf.anti x p ds b⟩
theorem Reps.anti (x : ∀ a, M a → M' a) : ∀ (ds : List D) {vs : List V}, Reps M' H ds vs → Reps M H ds vs
  | [], _, h => h
  | d :: ds, _, ⟨v, r, e, a, b⟩ => ⟨v, r, e, Rep.anti x d a, Reps.anti x ds b⟩
end
theorem rd_kn {a : Addr} {u : HO} (h : Rd H a u) : H a ≠ none := by
  rcases h with h | ⟨o, h⟩
  · rw [h]; exact fun z => nomatch z
  · rw [h]; exact fun z => nomatch z
/-! a value that stood for a tree stands for it when an address that the heap does not know becomes one that may change -/
mutual
theorem Rep.gr (x : ∀ a, M' a → M a ∨ H a = none) : ∀ (d : D) {v : V}, Rep M H d v → Rep M' H d v
  | .non, _, h => h
  | .bl _, _, h => h
  | .int _, _, h => h
  | .str _, _, h => h
  | .vl _, _, h => h
  | .lst xs, _, ⟨p, vs, e, m, s, r⟩ => ⟨p, vs, e, fun q => (x p q).elim m (fun z => nomatch s.symm.trans z), s, Reps.gr x xs r⟩
  | .scr K a ns, _, ⟨e, r⟩ => ⟨e, r.elim (fun z => .inl ⟨fun q => (x a q).elim z.1 (fun y => rd_kn z.2 y), z.2⟩) .inr⟩
  | .tup xs, _, ⟨p, vs, e, m, s, r⟩ => ⟨p, vs, e, fun q => (x p q).elim m (fun z => rd_kn s z), s, Reps.gr x xs r⟩
  | .ins C ns ds, _, ⟨p, dx, vs, e, m, s, r⟩ => ⟨p, dx, vs, e, fun q => (x p q).elim m (fun z => nomatch s.symm.trans z), s, Repf.gr x p ds r⟩
  | .dct ks ds, _, ⟨p, vs, e, m, s, l, r⟩ => ⟨p, vs, e, fun q => (x p q).elim m (fun z => rd_kn s z), s, l, Reps.gr x ds r⟩
  | .tme, _, h => h
theorem Repf.gr (x : ∀ a, M' a → M a ∨ H a = none) (p : Addr) : ∀ (ds : List D) {vs : List V}, Repf M H p ds vs → Repf M' H p ds vs
  | [], _, h => h
  | d :: ds, _, ⟨v, r, e, a, b⟩ => ⟨v, r, e, a.elim (fun a => .inl (Rep.gr x d a)) (fun ⟨h, t, e, m, s⟩ => .inr ⟨h, t, e, fun q => (x t q).elim m (fun z => rd_kn s z), s⟩), Repf.gr x p ds b⟩
theorem Reps.gr (x : ∀ a, M' a → M a ∨ H a = none) : ∀ (ds : List D) {vs : List V}, Reps M H ds vs → Reps M' H ds vs
  | [], _, h => h
  | d :: ds, _, ⟨v, r, e, a, b⟩ => ⟨v, r, e, Rep.gr x d a, Reps.gr x ds b⟩
end
theorem Reps.len : ∀ {ds : List D} {vs : List V}, Reps M H ds vs → vs.length = ds.length
  | [], _, h => by rw [show _ = [] from h]; rfl
  | d :: ds, _, ⟨v, r, e, _, b⟩ => by rw [e, List.length_cons, List.length_cons, Reps.len b]
theorem Reps.get : ∀ {ds : List D} {vs : List V} {i : Nat} {d : D}, Reps M H ds vs → ds[i]? = some d → ∃ v, vs[i]? = some v ∧ Rep M H d v
  | [], _, _, _, _, e => by simp at e
  | d :: ds, _, 0, d', ⟨v, r, e, a, b⟩, q => by
    subst e
    have : d = d' := by simpa using q
    subst this
    exact ⟨v, rfl, a⟩
  | d :: ds, _, i + 1, d', ⟨v, r, e, a, b⟩, q => by
    subst e
    obtain ⟨u, h1, h2⟩ := Reps.get (i := i) b (by simpa using q)
    exact ⟨u, by simpa using h1, h2⟩
theorem Reps.get' : ∀ {ds : List D} {vs : List V} {i : Nat} {v : V}, Reps M H ds vs → vs[i]? = some v → ∃ d, ds[i]? = some d ∧ Rep M H d v
  | [], _, _, _, h, e => by rw [show _ = [] from h] at e; simp at e
  | d :: ds, _, 0, v', ⟨v, r, e, a, b⟩, q => by
    subst e
    have : v = v' := by simpa using q
    subst this
    exact ⟨d, rfl, a⟩
  | d :: ds, _, i + 1, v', ⟨v, r, e, a, b⟩, q => by
    subst e
    obtain ⟨u, h1, h2⟩ := Reps.get' (i := i) b (by simpa using q)
    exact ⟨u, by simpa using h1, h2⟩
theorem Reps.set : ∀ {ds : List D} {vs : List V} {i : Nat} {d : D} {v : V}, Reps M H ds vs → Rep M H d v → Reps M H (ds.set i d) (vs.set i v)
  | [], _, _, _, _, h, _ => by rw [show _ = [] from h]; exact rfl
  | d :: ds, _, 0, d', v', ⟨v, r, e, a, b⟩, q => by subst e; exact ⟨v', r, rfl, q, b⟩
  | d :: ds, _, i + 1, d', v', ⟨v, r, e, a, b⟩, q => by subst e; exact ⟨v, _, rfl, a, Reps.set b q⟩
theorem Reps.app : ∀ {ds es : List D} {vs ws : List V}, Reps M H ds vs → Reps M H es ws → Reps M H (ds ++ es) (vs ++ ws)
  | [], _, _, _, h, g => by rw [show _ = [] from h]; exact g
  | d :: ds, _, _, _, ⟨v, r, e, a, b⟩, g => by subst e; exact ⟨v, _, rfl, a, Reps.app b g⟩
theorem Reps.take : ∀ {ds : List D} {vs : List V} (n : Nat), Reps M H ds vs → Reps M H (ds.take n) (vs.take n)
  | [], _, n, h => by rw [show _ = [] from h]; simp [Reps]
  | d :: ds, _, 0, _ => rfl
  | d :: ds, _, n + 1, ⟨v, r, e, a, b⟩ => by subst e; exact ⟨v, _, rfl, a, Reps.take n b⟩
theorem Reps.drop : ∀ {ds : List D} {vs : List V} (n : Nat), Reps M H ds vs → Reps M H (ds.drop n) (vs.drop n)
  | [], _, n, h => by rw [show _ = [] from h]; simp [Reps]
  | d :: ds, _, 0, h => h
  | d :: ds, _, n + 1, ⟨v, r, e, a, b⟩ => by subst e; exact Reps.drop n b
theorem Reps.ints : ∀ {ns : List Int} {vs : List V}, Reps M H (ns.map D.int) vs → vs = ns.map V.int
  | [], _, h => h
  | n :: ns, _, ⟨v, r, e, a, b⟩ => by
    have q : v = V.int n := a
    subst e; rw [q, Reps.ints b]; rfl
theorem Reps.ofInts : ∀ (ns : List Int), Reps M H (ns.map D.int) (ns.map V.int)
  | [] => rfl
  | n :: ns => ⟨V.int n, _, rfl, rfl, Reps.ofInts ns⟩
theorem Reps.strs : ∀ {ns : List Str} {vs : List V}, Reps M H (ns.map D.str) vs → vs = ns.map V.str
  | [], _, h => h
  | n :: ns, _, ⟨v, r, e, a, b⟩ => by
    have q : v = V.str n := a
    subst e; rw [q, Reps.strs b]; rfl
end

def RepO (M : Addr → Prop) (H : Hp) (p : Addr) : OC → HO → Prop
  | .lst xs, h => ∃ vs, h = .lst vs ∧ Reps M H xs vs
  | .ins C ns ds, h => ∃ dx vs, h = .ins C dx (ns.zip vs) ∧ ns.length = ds.length ∧ Repf M H p ds vs
section
variable {M M' : Addr → Prop} {H H' : Hp} {p : Addr}
theorem RepO.ex (x : Xt M H H') (o : OC) {h : HO} (r : RepO M H p o h) : RepO M H' p o h := by
  cases o with
  | lst xs => obtain ⟨vs, e, r⟩ := r; exact ⟨vs, e, Reps.ex x xs r⟩
  | ins C ns ds => obtain ⟨dx, vs, e, l, r⟩ := r; exact ⟨dx, vs, e, l, Repf.ex x p ds r⟩
theorem RepO.anti (x : ∀ a, M a → M' a) (o : OC) {h : HO} (r : RepO M' H p o h) : RepO M H p o h := by
  cases o with
  | lst xs => obtain ⟨vs, e, r⟩ := r; exact ⟨vs, e, Reps.anti x xs r⟩
  | ins C ns ds => obtain ⟨dx, vs, e, l, r⟩ := r; exact ⟨dx, vs, e, l, Repf.anti x p ds r⟩
theorem RepO.gr (x : ∀ a, M' a → M a ∨ H a = none) (o : OC) {h : HO} (r : RepO M H p o h) : RepO M' H p o h := by
  cases o with
  | lst xs => obtain ⟨vs, e, r⟩ := r; exact ⟨vs, e, Reps.gr x xs r⟩
  | ins C ns ds => obtain ⟨dx, vs, e, l, r⟩ := r; exact ⟨dx, vs, e, l, Repf.gr x p ds r⟩
end
/-- slots -/
abbrev Env := List (Option S)
def RepS (M W : Addr → Prop) (H : Hp) : S → V → Prop
  | .im d, v => Rep M H d v
  | .own o, v => ∃ p h, v = .ref p ∧ W p ∧ H p = some h ∧ RepO M H p o h
structure Good (M W : Addr → Prop) (H : Hp) : Prop where
  wm : ∀ a, W a → M a
  mt : ∀ a, M a → H a ≠ none
structure EnvR (M W : Addr → Prop) (H : Hp) (σ : L2.St) (δ : TL.Env) : Prop where
  len : σ.length = δ.length
  at_ : ∀ (i : Nat) (s : S), δ[i]? = some (some s) → ∃ v, σ[i]? = some (some v) ∧ RepS M W H s v
  ap : ∀ (i j : Nat) (p : Addr) (xs ys : OC), δ[i]? = some (some (.own xs)) → δ[j]? = some (some (.own ys)) → σ[i]? = some (some (.ref p)) → σ[j]? = some (some (.ref p)) → i = j

section
variable {M M' W W' : Addr → Prop} {H H' : Hp} {σ : L2.St} {δ : TL.Env}
theorem Good.ext (g : Good M W H) (h : ∀ a o, H a = some o → H' a = some o) : Good M W H' := ⟨g.wm, fun a m z => by
  cases q : H a with
  | none => exact g.mt a m q
  | some o => rw [h a o q] at z; cases z⟩
theorem Good.new (g : Good M W H) {p : Addr} {o : HO} (h : H p = none) : Good M W (upd H p o) := g.ext (ext_new h)
theorem Good.notM (g : Good M W H) {p : Addr} (h : H p = none) : ¬ M p := fun m => g.mt p m h
theorem RepS.ext (h : ∀ a o, H a = some o → H' a = some o) {s : S} {v : V} (r : RepS M W H s v) : RepS M W H' s v := by
  cases s with
  | im d => exact Rep.ex (Xt.of h) d r
  | own xs =>
    obtain ⟨p, vs, e, w, hp, r⟩ := r
    exact ⟨p, vs, e, w, h p _ hp, RepO.ex (Xt.of h) xs r⟩
theorem EnvR.ext (h : ∀ a o, H a = some o → H' a = some o) (e : EnvR M W H σ δ) : EnvR M W H' σ δ :=
  ⟨e.len, fun i s q => let ⟨v, a, b⟩ := e.at_ i s q; ⟨v, a, RepS.ext h b⟩, e.ap⟩
/-- slot i gets data -/
theorem EnvR.set (e : EnvR M W H σ δ) {i : Nat} {d : D} {v : V} (r : Rep M H d v) : EnvR M W H (σ.set i (some v)) (δ.set i (some (.im d))) := by
  refine ⟨by rw [List.length_set, List.length_set, e.len], fun j s q => ?_, fun j k p xs ys h1 h2 h3 h4 => ?_⟩
  · by_cases hj : i = j
    · subst hj
      by_cases hl : i < δ.length
      · rw [List.getElem?_set_self hl] at q
        cases q
        exact ⟨v, by rw [List.getElem?_set_self (by rw [e.len]; exact hl)], r⟩
      · rw [List.getElem?_eq_none (by rw [List.length_set]; omega)] at q; cases q
    · rw [List.getElem?_set_ne hj] at q
      obtain ⟨u, a, b⟩ := e.at_ j s q
      exact ⟨u, by rw [List.getElem?_set_ne hj]; exact a, b⟩
  · have key : ∀ (j : Nat) (zs : OC), (δ.set i (some (.im d)))[j]? = some (some (.own zs)) → i ≠ j ∧ δ[j]? = some (some (.own zs)) := fun j zs q => by
      by_cases hj : i = j
      · subst hj
        by_cases hl : i < δ.length
        · rw [List.getElem?_set_self hl] at q; cases q
        · rw [List.getElem?_eq_none (by rw [List.length_set]; omega)] at q; cases q
      · exact ⟨hj, by rw [List.getElem?_set_ne hj] at q; exact q⟩
    obtain ⟨n1, a1⟩ := key j xs h1
    obtain ⟨n2, a2⟩ := key k ys h2
    rw [List.getElem?_set_ne n1] at h3
    rw [List.getElem?_set_ne n2] at h4
    exact e.ap j k p xs ys a1 a2 h3 h4
theorem EnvR.get (e : EnvR M W H σ δ) {i : Nat} {d : D} (h : δ[i]? = some (some (.im d))) : ∃ v, σ[i]? = some (some v) ∧ Rep M H d v := e.at_ i _ h
theorem EnvR.getO (e : EnvR M W H σ δ) {i : Nat} {xs : OC} (h : δ[i]? = some (some (.own xs))) : ∃ p vs, σ[i]? = some (some (.ref p)) ∧ W p ∧ H p = some vs ∧ RepO M H p xs vs := by
  obtain ⟨v, a, p, vs, rfl, w, hp, r⟩ := e.at_ i _ h
  exact ⟨p, vs, a, w, hp, r⟩
/-- the list of its own in slot i becomes another -/
theorem EnvR.put (e : EnvR M W H σ δ) (wm : ∀ a, W a → M a) {i : Nat} {xs ys : OC} {p : Addr} {us : HO} (h : δ[i]? = some (some (.own xs))) (hp : σ[i]? = some (some (.ref p))) (hW : W p) (r : RepO M H p ys us) :
    EnvR M W (upd H p us) σ (δ.set i (some (.own ys))) := by
  have X : Xt M H (upd H p us) := fun a o m q => by rw [upd_ne (fun z => m (by rw [z]; exact wm p hW))]; exact q
  have il : i < δ.length := (List.getElem?_eq_some_iff.mp h).1
  refine ⟨by rw [List.length_set, e.len], fun j s q => ?_, fun j k a zs ws h1 h2 h3 h4 => ?_⟩
  · by_cases hj : i = j
    · subst hj
      rw [List.getElem?_set_self il] at q
      cases q
      exact ⟨_, hp, p, us, rfl, hW, upd_same, RepO.ex X ys r⟩
    · rw [List.getElem?_set_ne hj] at q
      obtain ⟨u, a, b⟩ := e.at_ j s q
      refine ⟨u, a, ?_⟩
      cases s with
      | im d => exact Rep.ex X d b
      | own zs =>
        obtain ⟨p', vs, rfl, w, hp', r'⟩ := b
        refine ⟨p', vs, rfl, w, ?_, RepO.ex X zs r'⟩
        rw [upd_ne]
        · exact hp'
        · rintro rfl
          exact hj (e.ap i j p' xs zs h q hp a)
  · have key : ∀ (j : Nat) (zs : OC), (δ.set i (some (.own ys)))[j]? = some (some (.own zs)) → ∃ zs', δ[j]? = some (some (.own zs')) := fun j zs q => by
      by_cases hj : i = j
      · subst hj; exact ⟨xs, h⟩
      · rw [List.getElem?_set_ne hj] at q; exact ⟨zs, q⟩
    obtain ⟨z1, a1⟩ := key j zs h1
    obtain ⟨z2, a2⟩ := key k ws h2
    exact e.ap j k a z1 z2 a1 a2 h3 h4
/-- an address more that may change -/
def Mp (M : Addr → Prop) (p : Addr) : Addr → Prop := fun a => M a ∨ a = p
theorem RepS.gr (x : ∀ a, M' a → M a ∨ H a = none) {s : S} {v : V} (r : RepS M W H s v) : RepS M' W H s v := by
  cases s with
  | im d => exact Rep.gr x d r
  | own xs => obtain ⟨p, vs, e, w, hp, r⟩ := r; exact ⟨p, vs, e, w, hp, RepO.gr x xs r⟩
theorem RepS.anti (x : ∀ a, M a → M' a) {s : S} {v : V} (r : RepS M' W H s v) : RepS M W H s v := by
  cases s with
  | im d => exact Rep.anti x d r
  | own xs => obtain ⟨p, vs, e, w, hp, r⟩ := r; exact ⟨p, vs, e, w, hp, RepO.anti x xs r⟩
theorem EnvR.gr (x : ∀ a, M' a → M a ∨ H a = none) (e : EnvR M W H σ δ) : EnvR M' W H σ δ := ⟨e.len, fun i s q => let ⟨v, a, b⟩ := e.at_ i s q; ⟨v, a, RepS.gr x b⟩, e.ap⟩
theorem EnvR.anti (x : ∀ a, M a → M' a) (e : EnvR M' W H σ δ) : EnvR M W H σ δ := ⟨e.len, fun i s q => let ⟨v, a, b⟩ := e.at_ i s q; ⟨v, a, RepS.anti x b⟩, e.ap⟩
theorem mp_gr {p : Addr} (h : H p = none) : ∀ a, Mp M p a → M a ∨ H a = none := fun a z => z.elim .inl fun e => .inr (by rw [e]; exact h)
theorem Good.put (g : Good M W H) {p : Addr} {o : HO} : Good M W (upd H p o) := ⟨g.wm, fun a m z => by
  by_cases h : a = p
  · subst h; rw [upd_same] at z; cases z
  · rw [upd_ne h] at z; exact g.mt a m z⟩
theorem Xt.put {p : Addr} {o : HO} (w : W p) : Xt W H (upd H p o) := fun a u n e => by
  rw [upd_ne (fun z => n (by rw [z]; exact w))]; exact e
end
end TL
set_option Elab.async false
set_option linter.all false
set_option maxRecDepth 100000
set_option autoImplicit false
set_option maxHeartbeats 4000000
/-! TL2: the judgements over trees, and the rules for expressions. -/
namespace TL
open PySem L2

/-! ### the weakest readings -/
/-! (each a structure, so that nothing unfolds the machine) -/
structure WE (X : Cx) (e : Expr) (σ : L2.St) (H : Hp) (Q : VK) : Prop where
  run : ∀ (pins : List (Addr × Obj)) (s : Shared), Inv X pins σ H s → wpAny (model X.prog X.w) X.A (eval e X.env) (EP X pins σ Q) X.xe s
structure WT (X : Cx) (e : Expr) (σ : L2.St) (H : Hp) (Q : Bool → Hp → Prop) : Prop where
  run : ∀ (pins : List (Addr × Obj)) (s : Shared), Inv X pins σ H s → wpAny (model X.prog X.w) X.A (isTrue e X.env (eval e X.env)) (TP X pins σ Q) X.xe s
structure WW (X : Cx) (e : Expr) (σ : L2.St) (H : Hp) (Q : Bool → Hp → Prop) : Prop where
  run : ∀ (whole : Sem Value) (pins : List (Addr × Obj)) (s : Shared), Inv X pins σ H s → wpAny (model X.prog X.w) X.A (isTrue e X.env whole) (TP X pins σ Q) X.xe s
structure WA (X : Cx) (es : List Expr) (σ : L2.St) (H : Hp) (Q : List V → Hp → Prop) : Prop where
  run : ∀ (pos : Pos) (pins : List (Addr × Obj)) (s : Shared), Inv X pins σ H s → wpAny (model X.prog X.w) X.A (spliced (backTo pos (starEach es X.env))) (AP X pins σ Q) X.xe s
structure WS (X : Cx) (st : Stmt) (Dn : Ends) (σ : L2.St) (H : Hp) : Prop where
  run : ∀ (pins : List (Addr × Obj)) (s : Shared), Inv X pins σ H s → wpAny (model X.prog X.w) X.A (exec st X.env) (SP X pins Dn) X.xe s
structure WB (X : Cx) (sts : List Stmt) (Dn : Ends) (σ : L2.St) (H : Hp) : Prop where
  run : ∀ (pins : List (Addr × Obj)) (s : Shared), Inv X pins σ H s → wpAny (model X.prog X.w) X.A (execs sts X.env) (SP X pins Dn) X.xe s
abbrev wE (X : Cx) (e : Expr) : TE := fun σ H Q => WE X e σ H Q
abbrev wT (X : Cx) (e : Expr) : L2.TT := fun σ H Q => WT X e σ H Q
abbrev wW (X : Cx) (e : Expr) : L2.TT := fun σ H Q => WW X e σ H Q
abbrev wA (X : Cx) (es : List Expr) : L2.TA := fun σ H Q => WA X es σ H Q
abbrev wS (X : Cx) (st : Stmt) : L2.TS := fun Dn σ H => WS X st Dn σ H
abbrev wB (X : Cx) (sts : List Stmt) : L2.TS := fun Dn σ H => WB X sts Dn σ H
section
variable {X : Cx} {e : Expr} {es : List Expr} {st : Stmt} {sts : List Stmt}
theorem pe_w : PE X e (wE X e) := ⟨fun pins s _ _ _ I h => h.run pins s I⟩
theorem pt_w : PT X e (wT X e) := ⟨fun pins s _ _ _ I h => h.run pins s I⟩
theorem pw_w : PW X e (wW X e) := ⟨fun w pins s _ _ _ I h => h.run w pins s I⟩
theorem pa_w : PA X es (wA X es) := ⟨fun pos pins s _ _ _ I h => h.run pos pins s I⟩
theorem ps_w : PS X st (wS X st) := ⟨fun pins s _ _ _ I h => h.run pins s I⟩
theorem pss_w : PSs X sts (wB X sts) := ⟨fun pins s _ _ _ I h => h.run pins s I⟩
theorem wE_of {t : TE} (h : PE X e t) {σ : L2.St} {H : Hp} {Q : VK} (q : t σ H Q) : wE X e σ H Q := ⟨fun pins s I => h.run pins s σ H Q I q⟩
theorem wT_of {t : TT} (h : PT X e t) {σ : L2.St} {H : Hp} {Q : Bool → Hp → Prop} (q : t σ H Q) : wT X e σ H Q := ⟨fun pins s I => h.run pins s σ H Q I q⟩
theorem wW_of {t : TT} (h : PW X e t) {σ : L2.St} {H : Hp} {Q : Bool → Hp → Prop} (q : t σ H Q) : wW X e σ H Q := ⟨fun w pins s I => h.run w pins s σ H Q I q⟩
theorem wA_of {t : TA} (h : PA X es t) {σ : L2.St} {H : Hp} {Q : List V → Hp → Prop} (q : t σ H Q) : wA X es σ H Q := ⟨fun pos pins s I => h.run pos pins s σ H Q I q⟩
theorem wS_of {t : TS} (h : PS X st t) {σ : L2.St} {H : Hp} {Dn : Ends} (q : t Dn σ H) : wS X st Dn σ H := ⟨fun pins s I => h.run pins s σ H Dn I q⟩
theorem wB_of {t : TS} (h : PSs X sts t) {σ : L2.St} {H : Hp} {Dn : Ends} (q : t Dn σ H) : wB X sts Dn σ H := ⟨fun pins s I => h.run pins s σ H Dn I q⟩
end

/-! ### the judgements -/
/-- what a step leaves behind -/
structure Stp (M W : Addr → Prop) (σ : L2.St) (δ' : TL.Env) (H H' : Hp) : Prop where
  xt : Xt W H H'
  good : Good M W H'
  env : EnvR M W H' σ δ'
section
variable {M W : Addr → Prop} {σ : L2.St} {δ δ1 δ2 : TL.Env} {H H1 H2 : Hp}
theorem Stp.refl (g : Good M W H) (e : EnvR M W H σ δ) : Stp M W σ δ H H := ⟨Xt.refl H, g, e⟩
theorem Stp.trans (a : Stp M W σ δ1 H H1) (b : Stp M W σ δ2 H1 H2) : Stp M W σ δ2 H H2 := ⟨a.xt.trans b.xt, b.good, b.env⟩
theorem Stp.ext (a : Stp M W σ δ1 H H1) (h : ∀ x o, H1 x = some o → H2 x = some o) : Stp M W σ δ1 H H2 := ⟨a.xt.trans (Xt.of h), a.good.ext h, a.env.ext h⟩
theorem Stp.rep (a : Stp M W σ δ1 H H1) {d : D} {v : V} (r : Rep M H d v) : Rep M H1 d v := Rep.ex (Xt.mono a.good.wm a.xt) d r
theorem Stp.fresh (a : Stp M W σ δ1 H H1) {p : Addr} {o : HO} (h : H1 p = none) : Stp (Mp M p) W σ δ1 H (upd H1 p o) := by
  refine ⟨a.xt.trans (Xt.of (ext_new h)), ⟨fun x w => .inl (a.good.wm x w), fun x m z => ?_⟩, (a.env.gr (mp_gr h)).ext (ext_new h)⟩
  rcases m with m | m
  · exact (a.good.new h).mt x m z
  · rw [m, upd_same] at z; cases z
theorem Stp.anti {p : Addr} (w : ∀ x, W x → M x) (a : Stp (Mp M p) W σ δ1 H H1) : Stp M W σ δ1 H H1 := ⟨a.xt, ⟨w, fun x m => a.good.mt x (.inl m)⟩, a.env.anti fun _ m => .inl m⟩
theorem Stp.none (g : Good M W H) (a : Stp M W σ δ1 H H1) {p : Addr} (h : H1 p = none) : H p = none := by
  cases hq : H p with
  | none => rfl
  | some o =>
    exfalso
    by_cases hw : W p
    · exact a.good.mt p (a.good.wm p hw) h
    · rw [a.xt p o hw hq] at h; cases h
theorem Stp.reps (a : Stp M W σ δ1 H H1) {ds : List D} {vs : List V} (r : Reps M H ds vs) : Reps M H1 ds vs := Reps.ex (Xt.mono a.good.wm a.xt) ds r
end
def TR (X : Cx) (e : Expr) (δ : TL.Env) (d : D) (δ' : TL.Env) : Prop := ∀ (M W : Addr → Prop) (σ : L2.St) (H : Hp) (Q : VK), Good M W H → EnvR M W H σ δ →
  (∀ v H', Stp M W σ δ' H H' → Rep M H' d v → Q v H') → wE X e σ H Q
/-- a new list that nobody else holds -/
def TF (X : Cx) (e : Expr) (δ : TL.Env) (xs : List D) (δ' : TL.Env) : Prop := ∀ (M W : Addr → Prop) (σ : L2.St) (H : Hp) (Q : VK), Good M W H → EnvR M W H σ δ →
  (∀ p vs H', Stp (Mp M p) W σ δ' H H' → H p = none → H' p = some (.lst vs) → Reps (Mp M p) H' xs vs → Q (.ref p) H') → wE X e σ H Q
def TT (X : Cx) (e : Expr) (δ : TL.Env) (b : Bool) (δ' : TL.Env) : Prop := ∀ (M W : Addr → Prop) (σ : L2.St) (H : Hp) (Q : Bool → Hp → Prop), Good M W H → EnvR M W H σ δ →
  (∀ H', Stp M W σ δ' H H' → Q b H') → wT X e σ H Q
/-- a test whatever its whole is -/
def TW (X : Cx) (e : Expr) (δ : TL.Env) (b : Bool) (δ' : TL.Env) : Prop := ∀ (M W : Addr → Prop) (σ : L2.St) (H : Hp) (Q : Bool → Hp → Prop), Good M W H → EnvR M W H σ δ →
  (∀ H', Stp M W σ δ' H H' → Q b H') → wW X e σ H Q
def TA (X : Cx) (es : List Expr) (δ : TL.Env) (ds : List D) (δ' : TL.Env) : Prop := ∀ (M W : Addr → Prop) (σ : L2.St) (H : Hp) (Q : List V → Hp → Prop), Good M W H → EnvR M W H σ δ →
  (∀ vs H', Stp M W σ δ' H H' → Reps M H' ds vs → Q vs H') → wA X es σ H Q

/-! ### operations on trees -/
def OpT (r : R2) (x y z : D) : Prop := ∀ (M W : Addr → Prop) (H : Hp) (u v : V) (Q : VK), Good M W H → Rep M H x u → Rep M H y v →
  (∀ w H', (∀ a o, H a = some o → H' a = some o) → Rep M H' z w → Q w H') → r u v H Q
def UnT (r : V → Hp → VK → Prop) (x z : D) : Prop := ∀ (M W : Addr → Prop) (H : Hp) (u : V) (Q : VK), Good M W H → Rep M H x u →
  (∀ w H', (∀ a o, H a = some o → H' a = some o) → Rep M H' z w → Q w H') → r u H Q
def CaT (r : List V → Hp → VK → Prop) (xs : List D) (z : D) : Prop := ∀ (M W : Addr → Prop) (H : Hp) (us : List V) (Q : VK), Good M W H → Reps M H xs us →
  (∀ w H', (∀ a o, H a = some o → H' a = some o) → Rep M H' z w → Q w H') → r us H Q
/-- .. to a new list -/
def OpF (r : R2) (x y : D) (zs : List D) : Prop := ∀ (M W : Addr → Prop) (H : Hp) (u v : V) (Q : VK), Good M W H → Rep M H x u → Rep M H y v →
  (∀ p vs, H p = none → Reps M H zs vs → Q (.ref p) (upd H p (.lst vs))) → r u v H Q
section
variable {X : Cx} {a b c e : Expr} {es : List Expr} {δ δ1 δ2 δ3 : TL.Env} {x y z d : D} {pos p : Pos} {r : R2}

theorem tr_var {i : Nat} {n : Str} (h : δ[i]? = some (some (.im d))) (hN : X.N[i]? = some n := by rfl) (hv : Vis X.env.scope n := by first | exact Or.inl rfl | exact Or.inr (Or.inl rfl) | exact Or.inr (Or.inr rfl))
    (hd : (n == ("__debug__" : Str)) = false := by decide) (hcd : (n == ("__classdict__" : Str)) = false := by decide) : TR X (.Name n pos) δ d δ := fun M W σ H Q g E k => by
  obtain ⟨v, h1, r⟩ := E.get h
  exact wE_of (pe_var hN hv hd hcd) ⟨v, h1, k v H (Stp.refl g E) r⟩
theorem tr_c {v : V} (h : PE X e (tC v)) (hr : ∀ M H, Rep M H d v) : TR X e δ d δ := fun M W σ H Q g E k =>
  wE_of h (k v H (Stp.refl g E) (hr M H))
theorem tr_int {i : Int} {j : Nat} : TR X (.Constant (.int i) j pos) δ (.int i) δ := tr_c pe_int (fun _ _ => rfl)
theorem tr_bl {i : Bool} {j : Nat} : TR X (.Constant (.bool i) j pos) δ (.bl i) δ := tr_c pe_bl (fun _ _ => rfl)
theorem tr_str {i : Str} {j : Nat} : TR X (.Constant (.str i) j pos) δ (.str i) δ := tr_c pe_str (fun _ _ => rfl)
theorem tr_non {j : Nat} : TR X (.Constant .none j pos) δ .non δ := tr_c pe_non (fun _ _ => rfl)
theorem tr_is {d' : D} (h : TR X e δ d δ1) (q : d = d') : TR X e δ d' δ1 := q ▸ h
theorem tr_env {δ' : TL.Env} (h : TR X e δ d δ1) (q : δ1 = δ') : TR X e δ d δ' := q ▸ h

theorem tr_op {op : Operator} (ho : OpR X (binaryOp op) r) (ha : TR X a δ x δ1) (hb : TR X b δ1 y δ2) (hr : OpT r x y z) : TR X (.BinOp a op b pos) δ z δ2 := fun M W σ H Q g E k =>
  wE_of (pe_op ho pe_w pe_w) (ha M W σ H _ g E fun u H1 s1 r1 => hb M W σ H1 _ s1.good s1.env fun v H2 s2 r2 => hr M W H2 u v Q s2.good (s2.rep r1) r2 fun w H3 e3 r3 => k w H3 ((s1.trans s2).ext e3) r3)
theorem tf_op {op : Operator} {zs : List D} (ho : OpR X (binaryOp op) r) (ha : TR X a δ x δ1) (hb : TR X b δ1 y δ2) (hr : OpF r x y zs) : TF X (.BinOp a op b pos) δ zs δ2 := fun M W σ H Q g E k =>
  wE_of (pe_op ho pe_w pe_w) (ha M W σ H _ g E fun u H1 s1 r1 => hb M W σ H1 _ s1.good s1.env fun v H2 s2 r2 => hr M W H2 u v Q s2.good (s2.rep r1) r2 fun q vs n3 r3 =>
    k q vs _ ((s1.trans s2).fresh n3) ((s1.trans s2).none g n3) upd_same (Reps.ex (Xt.of (ext_new n3)) zs (Reps.gr (mp_gr n3) zs r3)))
theorem tr_un {op : UnaryOp} {ru : V → Hp → VK → Prop} (ho : UnR X (unaryOp op) ru) (ha : TR X a δ x δ1) (hr : UnT ru x z) : TR X (.UnaryOp op a pos) δ z δ1 := fun M W σ H Q g E k =>
  wE_of (pe_un ho pe_w) (ha M W σ H _ g E fun u H1 s1 r1 => hr M W H1 u Q s1.good r1 fun w H3 e3 r3 => k w H3 (s1.ext e3) r3)
theorem tr_cmp {op : CmpOp} (ho : OpR X (compareOp op) r) (ha : TR X a δ x δ1) (hb : TR X b δ1 y δ2) (hr : OpT r x y z) (hm : behindInMarks op b = false := by first | exact nomark _ | rfl) : TR X (.Compare a [op] [b] pos) δ z δ2 := fun M W σ H Q g E k =>
  wE_of (pe_cmpR ho pe_w pe_w hm) (ha M W σ H _ g E fun u H1 s1 r1 => hb M W σ H1 _ s1.good s1.env fun v H2 s2 r2 => hr M W H2 u v Q s2.good (s2.rep r1) r2 fun w H3 e3 r3 => k w H3 ((s1.trans s2).ext e3) r3)
/-- a new list may be read as data -/
theorem tr_fr {xs : List D} (h : TF X e δ xs δ1) : TR X e δ (.lst xs) δ1 := fun M W σ H Q g E k => h M W σ H Q g E fun p vs H' s n hp r => k _ H' (s.anti g.wm) ⟨p, vs, rfl, fun m => g.mt p m n, hp, Reps.anti (fun _ m => .inl m) xs r⟩

/-! arguments -/
theorem ta_nil : TA X [] δ [] δ := fun M W σ H Q g E k => wA_of pa_nil (k [] H (Stp.refl g E) rfl)
theorem ta_cons {ds : List D} (ha : TR X e δ x δ1) (hr : TA X es δ1 ds δ2) (hs : starEach (e :: es) X.env = (false, eval e X.env) :: starEach es X.env := by rfl) : TA X (e :: es) δ (x :: ds) δ2 := fun M W σ H Q g E k =>
  wA_of (pa_cons pe_w pa_w hs) (ha M W σ H _ g E fun u H1 s1 r1 => hr M W σ H1 _ s1.good s1.env fun vs H2 s2 r2 => k (u :: vs) H2 (s1.trans s2) ⟨u, vs, rfl, s2.rep r1, r2⟩)
theorem tr_tup {ds : List D} {x1 : Nat} (h : TA X es δ ds δ1) (hl : ds.length ≤ 100000 := by simp) : TR X (.Tuple es x1 pos) δ (.tup ds) δ1 := fun M W σ H Q g E k =>
  wE_of (pe_tup pa_w) (h M W σ H _ g E fun vs H1 s1 r1 => ⟨by rw [r1.len]; exact Nat.le_trans hl (by decide), fun p hp => k _ _ (s1.ext (ext_new hp)) ⟨p, vs, rfl, s1.good.notM hp, Rd.of upd_same, Reps.ex (Xt.of (ext_new hp)) ds r1⟩⟩)
theorem tf_lst {ds : List D} (h : TA X es δ ds δ1) (hl : ds.length ≤ 100000 := by simp) : TF X (.List es pos) δ ds δ1 := fun M W σ H Q g E k =>
  wE_of (pe_lst pa_w) (h M W σ H _ g E fun vs H1 s1 r1 => ⟨by rw [r1.len]; exact Nat.le_trans hl (by decide), fun q hp => k q vs _ (s1.fresh hp) (s1.none g hp) upd_same (Reps.ex (Xt.of (ext_new hp)) ds (Reps.gr (mp_gr hp) ds r1))⟩)
end
end TL
set_option Elab.async false
set_option linter.all false
set_option maxRecDepth 100000
set_option autoImplicit false
set_option maxHeartbeats 4000000
/-! TL3: tests, operators on trees, subscripts, built-in calls. -/
namespace TL
open PySem L2
section
variable {X : Cx} {a b c e : Expr} {es : List Expr} {δ δ1 δ2 δ3 : TL.Env} {x y z d : D} {pos p : Pos} {r : R2} {k l : Bool}

/-! ### tests -/
theorem tt_bl (h : TR X e δ (.bl k) δ1) (he : ∀ whole, isTrue e X.env whole = (do let v ← whole; standAt e.pos; holding [v] (truthy v)) := by intro _; rfl) : TT X e δ k δ1 := fun M W σ H Q g E q =>
  wT_of (pt_val pe_w he) (h M W σ H _ g E fun v H1 s1 r1 => ⟨k, r1, q H1 s1⟩)
theorem tt_cmp {op : CmpOp} (ho : OpR X (compareOp op) r) (ha : TR X a δ x δ1) (hb : TR X b δ1 y δ2) (hr : OpT r x y (.bl k)) (hm : behindInMarks op b = false := by first | exact nomark _ | rfl) : TT X (.Compare a [op] [b] pos) δ k δ2 := fun M W σ H Q g E q =>
  wT_of (pt_cmpR ho pe_w pe_w hm) (ha M W σ H _ g E fun u H1 s1 r1 => hb M W σ H1 _ s1.good s1.env fun v H2 s2 r2 => hr M W H2 u v _ s2.good (s2.rep r1) r2 fun w H3 e3 r3 => ⟨k, r3, q H3 ((s1.trans s2).ext e3)⟩)
theorem tt_not (h : TT X a δ k δ1) : TT X (.UnaryOp .Not a pos) δ (!k) δ1 := fun M W σ H Q g E q =>
  wT_of (pt_not pt_w) (h M W σ H _ g E fun H1 s1 => q H1 s1)
theorem tt_w (h : TW X e δ k δ1) : TT X e δ k δ1 := fun M W σ H Q g E q => wT_of (PW.pt pw_w) (h M W σ H Q g E q)
theorem tt_is {l : Bool} (h : TT X e δ k δ1) (q : k = l) : TT X e δ l δ1 := q ▸ h
theorem tw_and1 (h : TT X a δ k δ1) : TW X (.BoolOp .And [a] pos) δ k δ1 := fun M W σ H Q g E q => wW_of (pw_and1 pt_w) (h M W σ H Q g E q)
theorem tw_or1 (h : TT X a δ k δ1) : TW X (.BoolOp .Or [a] pos) δ k δ1 := fun M W σ H Q g E q => wW_of (pw_or1 pt_w) (h M W σ H Q g E q)
theorem tw_and {rest : List Expr} (h : TT X a δ k δ1) (h2 : k = true → TW X (.BoolOp .And (b :: rest) pos) δ1 l δ1) : TW X (.BoolOp .And (a :: b :: rest) pos) δ (k && l) δ1 := fun M W σ H Q g E q =>
  wW_of (pw_and pt_w pw_w) (h M W σ H _ g E fun H1 s1 => by
    cases k with
    | true => rw [if_pos rfl]; exact h2 rfl M W σ H1 Q s1.good s1.env fun H2 s2 => q H2 (s1.trans s2)
    | false => rw [if_neg Bool.false_ne_true]; exact q H1 s1)
theorem tw_or {rest : List Expr} (h : TT X a δ k δ1) (h2 : k = false → TW X (.BoolOp .Or (b :: rest) pos) δ1 l δ1) : TW X (.BoolOp .Or (a :: b :: rest) pos) δ (k || l) δ1 := fun M W σ H Q g E q =>
  wW_of (pw_or pt_w pw_w) (h M W σ H _ g E fun H1 s1 => by
    cases k with
    | true => rw [if_pos rfl]; exact q H1 s1
    | false => rw [if_neg Bool.false_ne_true]; exact h2 rfl M W σ H1 Q s1.good s1.env fun H2 s2 => q H2 (s1.trans s2))
theorem tr_one {op : BoolOp} (h : TR X a δ d δ1) : TR X (.BoolOp op [a] pos) δ d δ1 := fun M W σ H Q g E q => wE_of (pe_one pe_w) (h M W σ H Q g E q)
theorem tr_and {rest : List Expr} (h : TR X a δ (.bl k) δ1) (h2 : k = true → TR X (.BoolOp .And (b :: rest) pos) δ1 (.bl l) δ1) : TR X (.BoolOp .And (a :: b :: rest) pos) δ (.bl (k && l)) δ1 := fun M W σ H Q g E q =>
  wE_of (pe_and pe_w pe_w) (h M W σ H _ g E fun v H1 s1 r1 => ⟨k, r1, by
    cases k with
    | true => rw [if_pos rfl]; exact h2 rfl M W σ H1 Q s1.good s1.env fun v H2 s2 r2 => q v H2 (s1.trans s2) r2
    | false => rw [if_neg Bool.false_ne_true]; exact q _ H1 s1 rfl⟩)
theorem tr_or {rest : List Expr} (h : TR X a δ (.bl k) δ1) (h2 : k = false → TR X (.BoolOp .Or (b :: rest) pos) δ1 (.bl l) δ1) : TR X (.BoolOp .Or (a :: b :: rest) pos) δ (.bl (k || l)) δ1 := fun M W σ H Q g E q =>
  wE_of (pe_or pe_w pe_w) (h M W σ H _ g E fun v H1 s1 r1 => ⟨k, r1, by
    cases k with
    | true => rw [if_pos rfl]; exact q _ H1 s1 rfl
    | false => rw [if_neg Bool.false_ne_true]; exact h2 rfl M W σ H1 Q s1.good s1.env fun v H2 s2 r2 => q v H2 (s1.trans s2) r2⟩)
theorem tr_not (h : TR X a δ (.bl k) δ1) : TR X (.UnaryOp .Not a pos) δ (.bl (!k)) δ1 := fun M W σ H Q g E q =>
  wE_of (pe_not pe_w) (h M W σ H _ g E fun v H1 s1 r1 => ⟨k, r1, q _ H1 s1 rfl⟩)
theorem tr_if (hc : TT X c δ k δ1) (h1 : k = true → TR X a δ1 d δ2) (h2 : k = false → TR X b δ1 d δ2) : TR X (.IfExp c a b pos) δ d δ2 := fun M W σ H Q g E q =>
  wE_of (pe_ifExp pt_w pe_w pe_w) (hc M W σ H _ g E fun H1 s1 => by
    cases k with
    | true => rw [if_pos rfl]; exact h1 rfl M W σ H1 Q s1.good s1.env fun v H2 s2 r2 => q v H2 (s1.trans s2) r2
    | false => rw [if_neg Bool.false_ne_true]; exact h2 rfl M W σ H1 Q s1.good s1.env fun v H2 s2 r2 => q v H2 (s1.trans s2) r2)
/-- the truth of a list -/
theorem tt_lst {xs : List D} (h : TR X e δ (.lst xs) δ1) (he : ∀ whole, isTrue e X.env whole = (do let v ← whole; standAt e.pos; holding [v] (truthy v)) := by intro _; rfl) : TT X e δ (!xs.isEmpty) δ1 := fun M W σ H Q g E q =>
  wT_of (pt_truth pe_w he) (h M W σ H _ g E fun v H1 s1 ⟨p, vs, ev, m, hp, r⟩ => ⟨!xs.isEmpty, by
    subst ev
    refine .inl ⟨vs, SqL.of hp, ?_⟩
    have := r.len
    cases xs <;> cases vs <;> simp_all, q H1 s1⟩)

/-! ### operators on ints and texts -/
theorem ot_I0 {g : Int → Int → V} {i j : Int} (h : ∀ M H, Rep M H z (g i j)) : OpT (rI0 g) (.int i) (.int j) z := fun M W H u v Q _ ru rv k => ⟨i, j, ru, rv, k _ H (fun _ _ e => e) (h M H)⟩
theorem ot_I {C : Int → Int → Prop} {g : Int → Int → V} {i j : Int} (hc : C i j) (h : ∀ M H, Rep M H z (g i j)) : OpT (rI C g) (.int i) (.int j) z := fun M W H u v Q _ ru rv k => ⟨i, j, ru, rv, hc, k _ H (fun _ _ e => e) (h M H)⟩
theorem ot_eqI {i j : Int} : OpT rEq (.int i) (.int j) (.bl (decide (i = j))) := fun M W H u v Q _ ru rv k => by
  rw [show u = .int i from ru, show v = .int j from rv]
  refine ⟨rfl, k _ H (fun _ _ e => e) ?_⟩
  show V.bl _ = V.bl _
  congr 1
  exact decide_eq_decide.mpr ⟨fun z => V.int.inj z, fun z => by rw [z]⟩
theorem ot_neI {i j : Int} : OpT rNe (.int i) (.int j) (.bl (!decide (i = j))) := fun M W H u v Q _ ru rv k => by
  rw [show u = .int i from ru, show v = .int j from rv]
  refine ⟨rfl, k _ H (fun _ _ e => e) ?_⟩
  show V.bl _ = V.bl _
  congr 2
  exact decide_eq_decide.mpr ⟨fun z => V.int.inj z, fun z => by rw [z]⟩
theorem ot_eqS {i j : Str} : OpT rEq (.str i) (.str j) (.bl (decide (i = j))) := fun M W H u v Q _ ru rv k => by
  rw [show u = .str i from ru, show v = .str j from rv]
  refine ⟨rfl, k _ H (fun _ _ e => e) ?_⟩
  show V.bl _ = V.bl _
  congr 1
  exact decide_eq_decide.mpr ⟨fun z => V.str.inj z, fun z => by rw [z]⟩
theorem ot_neS {i j : Str} : OpT rNe (.str i) (.str j) (.bl (!decide (i = j))) := fun M W H u v Q _ ru rv k => by
  rw [show u = .str i from ru, show v = .str j from rv]
  refine ⟨rfl, k _ H (fun _ _ e => e) ?_⟩
  show V.bl _ = V.bl _
  congr 2
  exact decide_eq_decide.mpr ⟨fun z => V.str.inj z, fun z => by rw [z]⟩
theorem tr_add {i j : Int} (ha : TR X a δ (.int i) δ1) (hb : TR X b δ1 (.int j) δ2) : TR X (.BinOp a .Add b pos) δ (.int (i + j)) δ2 := tr_op op_add ha hb (ot_I0 fun _ _ => rfl)
theorem tr_sub {i j : Int} (ha : TR X a δ (.int i) δ1) (hb : TR X b δ1 (.int j) δ2) : TR X (.BinOp a .Sub b pos) δ (.int (i - j)) δ2 := tr_op op_sub ha hb (ot_I0 fun _ _ => rfl)
theorem tr_mul {i j : Int} (ha : TR X a δ (.int i) δ1) (hb : TR X b δ1 (.int j) δ2) (hc : CMulW i j) : TR X (.BinOp a .Mult b pos) δ (.int (i * j)) δ2 := tr_op op_mulW ha hb (ot_I hc fun _ _ => rfl)
theorem tr_mod {i j : Int} (ha : TR X a δ (.int i) δ1) (hb : TR X b δ1 (.int j) δ2) (hc : 0 < j) : TR X (.BinOp a .Mod b pos) δ (.int (i % j)) δ2 := tr_op op_mod ha hb (ot_I hc fun _ _ => rfl)
theorem tr_fdivN {i j : Int} (ha : TR X a δ (.int i) δ1) (hb : TR X b δ1 (.int j) δ2) (hc : 0 < j ∧ j < 1073741824) : TR X (.BinOp a .FloorDiv b pos) δ (.int (i / j)) δ2 := tr_op op_fdiv ha hb (ot_I hc fun _ _ => rfl)
theorem tr_pow {i j : Int} (ha : TR X a δ (.int i) δ1) (hb : TR X b δ1 (.int j) δ2) (hc : 0 ≤ j ∧ j ≤ 1000000 ∧ i.natAbs < 2 ^ 64) : TR X (.BinOp a .Pow b pos) δ (.int (i ^ j.toNat)) δ2 := tr_op op_pow ha hb (ot_I hc fun _ _ => rfl)
theorem tr_neg {i : Int} (ha : TR X a δ (.int i) δ1) : TR X (.UnaryOp .USub a pos) δ (.int (-i)) δ1 := tr_un un_neg ha fun M W H u Q _ ru k => ⟨i, ru, k _ H (fun _ _ e => e) rfl⟩
theorem tr_addS {i j : Str} (ha : TR X a δ (.str i) δ1) (hb : TR X b δ1 (.str j) δ2) (hc : i.length + j.length ≤ sizeLine) : TR X (.BinOp a .Add b pos) δ (.str (i ++ j)) δ2 :=
  tr_op op_add_str ha hb fun M W H u v Q _ ru rv k => ⟨i, j, ru, rv, hc, k _ H (fun _ _ e => e) rfl⟩
theorem tt_lt {i j : Int} (ha : TR X a δ (.int i) δ1) (hb : TR X b δ1 (.int j) δ2) : TT X (.Compare a [.Lt] [b] pos) δ (decide (i < j)) δ2 := tt_cmp op_lt ha hb (ot_I0 fun _ _ => rfl)
theorem tt_le {i j : Int} (ha : TR X a δ (.int i) δ1) (hb : TR X b δ1 (.int j) δ2) : TT X (.Compare a [.LtE] [b] pos) δ (decide (i ≤ j)) δ2 := tt_cmp op_le ha hb (ot_I0 fun _ _ => rfl)
theorem tt_gt {i j : Int} (ha : TR X a δ (.int i) δ1) (hb : TR X b δ1 (.int j) δ2) : TT X (.Compare a [.Gt] [b] pos) δ (decide (j < i)) δ2 := tt_cmp op_gt ha hb (ot_I0 fun _ _ => rfl)
theorem tt_ge {i j : Int} (ha : TR X a δ (.int i) δ1) (hb : TR X b δ1 (.int j) δ2) : TT X (.Compare a [.GtE] [b] pos) δ (decide (j ≤ i)) δ2 := tt_cmp op_ge ha hb (ot_I0 fun _ _ => rfl)
theorem tt_eqI {i j : Int} (ha : TR X a δ (.int i) δ1) (hb : TR X b δ1 (.int j) δ2) : TT X (.Compare a [.Eq] [b] pos) δ (decide (i = j)) δ2 := tt_cmp op_eq ha hb ot_eqI
theorem tt_neI {i j : Int} (ha : TR X a δ (.int i) δ1) (hb : TR X b δ1 (.int j) δ2) : TT X (.Compare a [.NotEq] [b] pos) δ (!decide (i = j)) δ2 := tt_cmp op_ne ha hb ot_neI
theorem tt_eqS {i j : Str} (ha : TR X a δ (.str i) δ1) (hb : TR X b δ1 (.str j) δ2) : TT X (.Compare a [.Eq] [b] pos) δ (decide (i = j)) δ2 := tt_cmp op_eq ha hb ot_eqS
theorem tt_neS {i j : Str} (ha : TR X a δ (.str i) δ1) (hb : TR X b δ1 (.str j) δ2) : TT X (.Compare a [.NotEq] [b] pos) δ (!decide (i = j)) δ2 := tt_cmp op_ne ha hb ot_neS
theorem tr_eqI {i j : Int} (ha : TR X a δ (.int i) δ1) (hb : TR X b δ1 (.int j) δ2) : TR X (.Compare a [.Eq] [b] pos) δ (.bl (decide (i = j))) δ2 := tr_cmp op_eq ha hb ot_eqI
theorem tr_neI {i j : Int} (ha : TR X a δ (.int i) δ1) (hb : TR X b δ1 (.int j) δ2) : TR X (.Compare a [.NotEq] [b] pos) δ (.bl (!decide (i = j))) δ2 := tr_cmp op_ne ha hb ot_neI
theorem tr_eqS {i j : Str} (ha : TR X a δ (.str i) δ1) (hb : TR X b δ1 (.str j) δ2) : TR X (.Compare a [.Eq] [b] pos) δ (.bl (decide (i = j))) δ2 := tr_cmp op_eq ha hb ot_eqS
theorem tr_neS {i j : Str} (ha : TR X a δ (.str i) δ1) (hb : TR X b δ1 (.str j) δ2) : TR X (.Compare a [.NotEq] [b] pos) δ (.bl (!decide (i = j))) δ2 := tr_cmp op_ne ha hb ot_neS

/-! ### subscripts -/
theorem atI_map {vs : List V} {ds : List D} {M : Addr → Prop} {H : Hp} {i : Int} (r : Reps M H ds vs) (h : atI ds i = some d) : ∃ v, atI vs i = some v ∧ Rep M H d v := by
  unfold atI at h ⊢
  rw [r.len]
  cases hj : ixN ds.length i with
  | none => rw [hj] at h; cases h
  | some j =>
    rw [hj] at h
    exact r.get h
theorem tr_ixL {xs : List D} {i : Int} (ha : TR X a δ (.lst xs) δ1) (hb : TR X b δ1 (.int i) δ2) (hd : atI xs i = some d) (hs : PlainIx b := by exact fun _ _ => rfl) : TR X (.Subscript a b pos) δ d δ2 := fun M W σ H Q g E k =>
  wE_of (pe_ix ix_list pe_w pe_w hs) (ha M W σ H _ g E fun u H1 s1 r1 => hb M W σ H1 _ s1.good s1.env fun v H2 s2 r2 => by
    obtain ⟨p, vs, eu, m, hp, r⟩ := s2.rep r1
    obtain ⟨w, hw, rw'⟩ := atI_map r hd
    exact ⟨p, vs, i, w, eu, r2, SqL.of hp, hw, k w H2 (s1.trans s2) rw'⟩)
theorem tr_ixT {xs : List D} {i : Int} (ha : TR X a δ (.tup xs) δ1) (hb : TR X b δ1 (.int i) δ2) (hd : atI xs i = some d) (hs : PlainIx b := by exact fun _ _ => rfl) : TR X (.Subscript a b pos) δ d δ2 := fun M W σ H Q g E k =>
  wE_of (pe_ix ix_tup pe_w pe_w hs) (ha M W σ H _ g E fun u H1 s1 r1 => hb M W σ H1 _ s1.good s1.env fun v H2 s2 r2 => by
    obtain ⟨p, vs, eu, m, hp, r⟩ := s2.rep r1
    obtain ⟨w, hw, rw'⟩ := atI_map r hd
    exact ⟨p, vs, i, w, eu, r2, .inl hp, hw, k w H2 (s1.trans s2) rw'⟩)
/-- an item of the list of its own in slot n -/
theorem tr_ixO {n : Nat} {nm : Str} {xs : List D} {i : Int} (h : δ[n]? = some (some (.own (.lst xs)))) (hb : TR X b δ (.int i) δ) (hd : atI xs i = some d) (hN : X.N[n]? = some nm := by rfl)
    (hv : Vis X.env.scope nm := by first | exact Or.inl rfl | exact Or.inr (Or.inl rfl) | exact Or.inr (Or.inr rfl)) (hdb : (nm == ("__debug__" : Str)) = false := by decide) (hcd : (nm == ("__classdict__" : Str)) = false := by decide)
    (hs : PlainIx b := by exact fun _ _ => rfl) : TR X (.Subscript (.Name nm p) b pos) δ d δ := fun M W σ H Q g E k => by
  obtain ⟨q, ho, h1, hw, hp, vs, rfl, r⟩ := E.getO h
  refine wE_of (pe_ix ix_list (pe_var hN hv hdb hcd) pe_w hs) ⟨_, h1, hb M W σ H _ g E fun v H2 s2 r2 => ?_⟩
  obtain ⟨q', ho', h1', hw', hp', vs', rfl, r'⟩ := s2.env.getO h
  rw [h1] at h1'
  cases h1'
  obtain ⟨w, hw2, rw2⟩ := atI_map r' hd
  exact ⟨q, vs', i, w, rfl, r2, SqL.of hp', hw2, k w H2 s2 rw2⟩

/-! ### slices of a list that is read, sums of new lists -/
def TO (X : Cx) (e : Option Expr) (δ : TL.Env) (o : Option Int) (δ' : TL.Env) : Prop := ∀ (M W : Addr → Prop) (σ : L2.St) (H : Hp), Good M W H → EnvR M W H σ δ → ∃ t : L2.St → Hp → (Option Int → Hp → Prop) → Prop, PO X e t ∧ ∀ Q : Option Int → Hp → Prop, (∀ H', Stp M W σ δ' H H' → Q o H') → t σ H Q
end
end TL
set_option Elab.async false
set_option linter.all false
set_option maxRecDepth 100000
set_option autoImplicit false
set_option maxHeartbeats 4000000
/-! TL4: statements, blocks, defs and their calls. -/
namespace TL
open PySem L2

inductive Res where
  | im (d : D) | fr (xs : List D)
inductive Out where
  | nx (δ : TL.Env) | rt (r : Res) (δ : TL.Env) | bk (δ : TL.Env) | ct (δ : TL.Env)
structure Gr (M W M' W' : Addr → Prop) (H : Hp) : Prop where
  mm : ∀ a, M a → M' a
  mn : ∀ a, M' a → M a ∨ H a = none
  ww : ∀ a, W a → W' a
  wn : ∀ a, W' a → W a ∨ H a = none
def Kp (δ : TL.Env) (σ : L2.St) (δ' : TL.Env) (σ' : L2.St) : Prop := ∀ (i : Nat) (xs : OC), δ[i]? = some (some (.own xs)) → ∃ ys, δ'[i]? = some (some (.own ys)) ∧ σ'[i]? = σ[i]?
structure Aft (M W M' W' : Addr → Prop) (δ : TL.Env) (σ : L2.St) (H : Hp) (δ' : TL.Env) (σ' : L2.St) (H' : Hp) : Prop where
  gr : Gr M W M' W' H
  xt : Xt W H H'
  good : Good M' W' H'
  env : EnvR M' W' H' σ' δ'
  kp : Kp δ σ δ' σ'
def RepR (M : Addr → Prop) (H H' : Hp) : Res → V → Prop
  | .im d, v => Rep M H' d v
  | .fr xs, v => ∃ p vs, v = .ref p ∧ H p = none ∧ H' p = some (.lst vs) ∧ Reps (Mp M p) H' xs vs
def After (Dn : Ends) (M W : Addr → Prop) (δ : TL.Env) (σ : L2.St) (H : Hp) : Out → Prop
  | .nx δ' => ∀ M' W' σ' H', Aft M W M' W' δ σ H δ' σ' H' → Dn.nx σ' H'
  | .rt r δ' => ∀ M' W' σ' H' v, Aft M W M' W' δ σ H δ' σ' H' → RepR M' H H' r v → Dn.rt v H'
  | .bk δ' => ∀ M' W' σ' H', Aft M W M' W' δ σ H δ' σ' H' → Dn.bk σ' H'
  | .ct δ' => ∀ M' W' σ' H', Aft M W M' W' δ σ H δ' σ' H' → Dn.ct σ' H'
def TB (X : Cx) (sts : List Stmt) (δ : TL.Env) (o : Out) : Prop := ∀ (M W : Addr → Prop) (σ : L2.St) (H : Hp) (Dn : Ends), Good M W H → EnvR M W H σ δ → After Dn M W δ σ H o → wB X sts Dn σ H
def TS (X : Cx) (st : Stmt) (δ : TL.Env) (o : Out) : Prop := ∀ (M W : Addr → Prop) (σ : L2.St) (H : Hp) (Dn : Ends), Good M W H → EnvR M W H σ δ → After Dn M W δ σ H o → wS X st Dn σ H

section
variable {M W M' W' M1 W1 M2 W2 : Addr → Prop} {δ δ' δ1 δ2 : TL.Env} {σ σ' σ1 σ2 : L2.St} {H H' H1 H2 : Hp}
theorem Gr.refl : Gr M W M W H := ⟨fun _ h => h, fun _ h => .inl h, fun _ h => h, fun _ h => .inl h⟩
theorem Kp.refl : Kp δ σ δ σ := fun i xs h => ⟨xs, h, rfl⟩
/-- what was not known before a step was not known earlier -/
theorem back (g : Good M W H) (g1 : ∀ a, M a → H1 a ≠ none) (x : Xt W H H1) {a : Addr} (h : H1 a = none) : H a = none := by
  cases q : H a with
  | none => rfl
  | some o =>
    exfalso
    by_cases hw : W a
    · exact g1 a (g.wm a hw) h
    · rw [x a o hw q] at h; cases h
theorem Aft.trans (g : Good M W H) (a : Aft M W M1 W1 δ σ H δ1 σ1 H1) (b : Aft M1 W1 M2 W2 δ1 σ1 H1 δ2 σ2 H2) : Aft M W M2 W2 δ σ H δ2 σ2 H2 := by
  have bk : ∀ {x : Addr}, H1 x = none → H x = none := fun {x} h => back g (fun y m => a.good.mt y (a.gr.mm y m)) a.xt h
  refine ⟨⟨fun x m => b.gr.mm x (a.gr.mm x m), fun x m => ?_, fun x m => b.gr.ww x (a.gr.ww x m), fun x m => ?_⟩, fun x o w h => b.xt x o (fun w1 => ?_) (a.xt x o w h), b.good, b.env, fun i xs h => ?_⟩
  · rcases b.gr.mn x m with m | m
    · exact a.gr.mn x m
    · exact .inr (bk m)
  · rcases b.gr.wn x m with m | m
    · exact a.gr.wn x m
    · exact .inr (bk m)
  · rcases a.gr.wn x w1 with w1 | w1
    · exact w w1
    · rw [w1] at h; cases h
  · obtain ⟨ys, h1, e1⟩ := a.kp i xs h
    obtain ⟨zs, h2, e2⟩ := b.kp i ys h1
    exact ⟨zs, h2, e2.trans e1⟩
theorem RepR.back (g : Good M W H) (a : Aft M W M1 W1 δ σ H δ1 σ1 H1) {r : Res} {v : V} (h : RepR M2 H1 H2 r v) : RepR M2 H H2 r v := by
  cases r with
  | im d => exact h
  | fr xs =>
    obtain ⟨p, vs, e, n, h1, h2⟩ := h
    exact ⟨p, vs, e, TL.back g (fun y m => a.good.mt y (a.gr.mm y m)) a.xt n, h1, h2⟩
theorem After.trans {Dn : Ends} {o : Out} (g : Good M W H) (a : Aft M W M1 W1 δ σ H δ1 σ1 H1) (k : After Dn M W δ σ H o) : After Dn M1 W1 δ1 σ1 H1 o := by
  cases o with
  | nx δ' => exact fun M' W' σ' H' b => k M' W' σ' H' (a.trans g b)
  | rt r δ' => exact fun M' W' σ' H' v b q => k M' W' σ' H' v (a.trans g b) (q.back g a)
  | bk δ' => exact fun M' W' σ' H' b => k M' W' σ' H' (a.trans g b)
  | ct δ' => exact fun M' W' σ' H' b => k M' W' σ' H' (a.trans g b)
theorem After.nx' {Dn : Ends} {o : Out} {f : L2.St → Hp → Prop} (h : ∀ δ', o ≠ .nx δ') (k : After Dn M W δ σ H o) : After { Dn with nx := f } M W δ σ H o := by
  cases o with
  | nx δ' => exact absurd rfl (h δ')
  | rt r δ' => exact k
  | bk δ' => exact k
  | ct δ' => exact k
/-- an expression's step, seen as a statement's: shapes of the environments agree -/
def Sh (δ δ' : TL.Env) : Prop := ∀ (i : Nat) (xs : OC), δ[i]? = some (some (.own xs)) → ∃ ys, δ'[i]? = some (some (.own ys))
theorem Sh.refl {δ : TL.Env} : Sh δ δ := fun _ xs h => ⟨xs, h⟩
theorem Stp.aft (s : Stp M W σ δ1 H H1) (h : Sh δ δ1) : Aft M W M W δ σ H δ1 σ H1 := ⟨Gr.refl, s.xt, s.good, s.env, fun i xs q => let ⟨ys, z⟩ := h i xs q; ⟨ys, z, rfl⟩⟩
end

section
variable {X : Cx} {a b c e : Expr} {st : Stmt} {sts rest body orelse : List Stmt} {δ δ1 δ2 δ3 : TL.Env} {o o1 : Out} {d : D} {pos p : Pos} {k : Bool} {xs : List D}
theorem tb_nil : TB X [] δ (.nx δ) := fun M W σ H Dn g E q => wB_of pss_nil (q M W σ H ⟨Gr.refl, Xt.refl H, g, E, Kp.refl⟩)
theorem tb_cons (h : TS X st δ (.nx δ1)) (hr : TB X rest δ1 o) : TB X (st :: rest) δ o := fun M W σ H Dn g E q =>
  wB_of (pss_cons ps_w pss_w) (h M W σ H _ g E fun M' W' σ' H' A => hr M' W' σ' H' Dn A.good A.env (q.trans g A))
theorem tb_stop (h : TS X st δ o) (hn : ∀ δ', o ≠ .nx δ' := by intro _ z; cases z) : TB X (st :: rest) δ o := fun M W σ H Dn g E q =>
  wB_of (pss_cons ps_w pss_w) (h M W σ H _ g E (q.nx' hn))
theorem tb_out {o' : Out} (h : TB X sts δ o) (e : o = o') : TB X sts δ o' := e ▸ h
/-- what a part's end is to the whole block -/
def Sq (X : Cx) (rest : List Stmt) (o1 o : Out) : Prop := (∃ δ', o1 = .nx δ' ∧ TB X rest δ' o) ∨ ((∀ δ', o1 ≠ .nx δ') ∧ o1 = o)
theorem sq_nx (h : TB X rest δ o) : Sq X rest (.nx δ) o := .inl ⟨δ, rfl, h⟩
theorem sq_rt {r : Res} : Sq X rest (.rt r δ) (.rt r δ) := .inr ⟨(fun _ z => nomatch z), rfl⟩
theorem tb_if (hc : TT X c δ k δ1) (sh : Sh δ δ1) (h1 : k = true → ∃ o1, TB X body δ1 o1 ∧ Sq X rest o1 o) (h2 : k = false → ∃ o2, TB X orelse δ1 o2 ∧ Sq X rest o2 o) : TB X (.If c body orelse pos :: rest) δ o := fun M W σ H Dn g E q =>
  wB_of (pss_cons (ps_if pt_w pss_w pss_w) pss_w) (hc M W σ H _ g E fun H1 s1 => by
    have q1 := q.trans g (s1.aft sh)
    have main : ∀ (bl : List Stmt), (∃ o1, TB X bl δ1 o1 ∧ Sq X rest o1 o) → wB X bl { Dn with nx := wB X rest Dn } σ H1 := fun bl ⟨o1, hb, hs⟩ => by
      rcases hs with ⟨δ', rfl, hr⟩ | ⟨hn, rfl⟩
      · exact hb M W σ H1 _ s1.good s1.env fun M' W' σ' H' A => hr M' W' σ' H' Dn A.good A.env (q1.trans s1.good A)
      · exact hb M W σ H1 _ s1.good s1.env (q1.nx' hn)
    cases k with
    | true => rw [if_pos rfl]; exact main body (h1 rfl)
    | false => rw [if_neg Bool.false_ne_true]; exact main orelse (h2 rfl))
theorem ts_ret (h : TR X e δ d δ1) (sh : Sh δ δ1) : TS X (.Return (some e) pos) δ (.rt (.im d) δ1) := fun M W σ H Dn g E q =>
  wS_of (ps_ret pe_w) (h M W σ H _ g E fun v H1 s1 r1 => q M W σ H1 v (s1.aft sh) r1)
theorem ts_retF (h : TF X e δ xs δ1) (sh : Sh δ δ1) : TS X (.Return (some e) pos) δ (.rt (.fr xs) δ1) := fun M W σ H Dn g E q =>
  wS_of (ps_ret pe_w) (h M W σ H _ g E fun p vs H1 s1 n hp r1 => q M W σ H1 _ ((s1.anti g.wm).aft sh) ⟨p, vs, rfl, n, hp, r1⟩)
theorem ts_expr (h : TR X e δ d δ1) (sh : Sh δ δ1) (hs : swapsWith e none pos.line X.env = pure false := by rfl) : TS X (.Expr e pos) δ (.nx δ1) := fun M W σ H Dn g E q =>
  wS_of (ps_expr pe_w hs) (h M W σ H _ g E fun v H1 s1 r1 => q M W σ H1 (s1.aft sh))
theorem ts_pass : TS X (.Pass pos) δ (.nx δ) := fun M W σ H Dn g E q => wS_of ps_pass (q M W σ H ⟨Gr.refl, Xt.refl H, g, E, Kp.refl⟩)

/-! ### x = e -/
theorem aft_set {M W : Addr → Prop} {σ : L2.St} {H H1 : Hp} {i : Nat} {v : V} (s : Stp M W σ δ1 H H1) (sh : Sh δ δ1) (hno : ∀ xs, δ1[i]? ≠ some (some (.own xs))) (r : Rep M H1 d v) :
    Aft M W M W δ σ H (δ1.set i (some (.im d))) (σ.set i (some v)) H1 := by
  refine ⟨Gr.refl, s.xt, s.good, s.env.set r, fun j xs q => ?_⟩
  obtain ⟨ys, z⟩ := sh j xs q
  have hj : i ≠ j := fun e => by subst e; exact hno ys z
  exact ⟨ys, by rw [List.getElem?_set_ne hj]; exact z, by rw [List.getElem?_set_ne hj]⟩
theorem ts_set {i : Nat} {n : Str} (h : TR X e δ d δ1) (sh : Sh δ δ1) (hno : ∀ xs, δ1[i]? ≠ some (some (.own xs))) (hN : X.N.Nodup) (hi : X.N[i]? = some n := by rfl) (hx : Loc X.env.scope n := by first | exact Or.inl rfl | exact Or.inr rfl)
    (hs : swapsWith e (some (.Name n p)) pos.line X.env = pure false := by rfl) (hf : X.fn n = true ∨ X.env.scope.names.lookup n = some .local := by first | exact .inl rfl | exact .inr rfl) : TS X (.Assign [.Name n p] e pos) δ (.nx (δ1.set i (some (.im d)))) := fun M W σ H Dn g E q =>
  wS_of (ps_set hN hi hx pe_w hs hf) (h M W σ H _ g E fun v H1 s1 r1 => q M W _ H1 (aft_set s1 sh hno r1))
/-- a, b = e1, e2 -/
theorem ts_par {i j : Nat} {x y : Str} {px py pt : Pos} {kt k2 : Nat} {pt2 : Pos} {d1 d2 : D} (h : TA X [a, b] δ [d1, d2] δ1) (sh : Sh δ δ1) (hno : ∀ xs, δ1[i]? ≠ some (some (.own xs))) (hno2 : ∀ xs, δ1[j]? ≠ some (some (.own xs))) (hN : X.N.Nodup)
    (hij : i ≠ j := by decide) (hc : X.calm = true := by rfl) (hi : X.N[i]? = some x := by rfl) (hj : X.N[j]? = some y := by rfl) (hx : X.env.scope.names.lookup x = some .local := by rfl) (hy : X.env.scope.names.lookup y = some .local := by rfl)
    (hw : swappedStores [.Tuple [.Name x px, .Name y py] kt pt] (.Tuple [a, b] k2 pt2) X.env = pure (some [x, y]) := by rfl)
    (hs : swapsWithSole [.Tuple [.Name x px, .Name y py] kt pt] (.Tuple [a, b] k2 pt2) pos.line X.env = pure false := by rfl) :
    TS X (.Assign [.Tuple [.Name x px, .Name y py] kt pt] (.Tuple [a, b] k2 pt2) pos) δ (.nx ((δ1.set i (some (.im d1))).set j (some (.im d2)))) := fun M W σ H Dn g E q =>
  wS_of (ps_par hc hN hi hj hij hx hy pa_w hw hs) (h M W σ H _ g E fun vs H1 s1 r1 => by
    obtain ⟨v, r, rfl, r1, w, r', rfl, r2, e⟩ := r1
    have e : r' = [] := e
    subst e
    refine ⟨v, w, rfl, q M W _ H1 ?_⟩
    have A := aft_set (i := i) s1 sh hno r1
    refine ⟨Gr.refl, s1.xt, s1.good, A.env.set r2, fun l xs z => ?_⟩
    obtain ⟨ys, z1, z2⟩ := A.kp l xs z
    obtain ⟨ys', z3⟩ := sh l xs z
    have hl : j ≠ l := fun e => by subst e; exact hno2 ys' z3
    exact ⟨ys, by rw [List.getElem?_set_ne hl]; exact z1, by rw [List.getElem?_set_ne hl]; exact z2⟩)
/-- q[i] = e, q a list of its own -/
theorem ts_setO {n : Nat} {nm : Str} {i : Int} {j : Nat} (h : TR X e δ d δ1) (sh : Sh δ δ1) (ho : δ1[n]? = some (some (.own (.lst xs)))) (hi : TR X b δ1 (.int i) δ1) (hj : ixN xs.length i = some j) (hN : X.N[n]? = some nm := by rfl)
    (hv : Vis X.env.scope nm := by first | exact Or.inl rfl | exact Or.inr (Or.inl rfl) | exact Or.inr (Or.inr rfl)) (hdb : (nm == ("__debug__" : Str)) = false := by decide) (hcd : (nm == ("__classdict__" : Str)) = false := by decide)
    (hpg : ∀ {tb : TE}, PE X b tb → PG X (.Subscript (.Name nm p) b pos) (gSub (tVar n) tb rSetL) := by exact fun hb => pg_sub (pv _) hb set_list) {spos : Pos}
    (hs : swapsWithSole [.Subscript (.Name nm p) b pos] e spos.line X.env = pure false := by rfl) (hw : swappedStores [.Subscript (.Name nm p) b pos] e X.env = pure none := by rfl)
    (h1 : (assignEach [.Subscript (.Name nm p) b pos] X.env).map (·.2) = [assign (.Subscript (.Name nm p) b pos) X.env] := by rfl) : TS X (.Assign [.Subscript (.Name nm p) b pos] e spos) δ (.nx (δ1.set n (some (.own (.lst (xs.set j d)))))) := fun M W σ H Dn g E q =>
  wS_of (ps_asg pe_w (hpg pe_w) hs hw h1) (h M W σ H _ g E fun v H1 s1 r1 => by
    obtain ⟨p', ob, hp, hW, hh, vs, rfl, r⟩ := s1.env.getO ho
    refine ⟨_, hp, hi M W σ H1 _ s1.good s1.env fun u H2 s2 r2 => ?_⟩
    obtain ⟨p2, ob2, hp2, hW2, hh2, vs2, rfl, rr2⟩ := s2.env.getO ho
    rw [hp] at hp2
    cases hp2
    refine ⟨p', vs2, i, j, rfl, r2, hh2, by rw [rr2.len]; exact hj, q M W σ _ ?_⟩
    have s := s1.trans s2
    refine ⟨Gr.refl, s.xt.trans (Xt.put hW), s.good.put, s2.env.put s2.good.wm ho hp hW ⟨_, rfl, Reps.set rr2 (s2.rep r1)⟩, fun l zs z => ?_⟩
    obtain ⟨ys, z1⟩ := sh l zs z
    by_cases hl : n = l
    · subst hl
      exact ⟨_, by rw [List.getElem?_set_self (List.getElem?_eq_some_iff.mp ho).1], rfl⟩
    · exact ⟨ys, by rw [List.getElem?_set_ne hl]; exact z1, rfl⟩)
end
end TL
set_option Elab.async false
set_option linter.all false
set_option maxRecDepth 100000
set_option autoImplicit false
set_option maxHeartbeats 4000000
/-! TL5: defs by their bodies, calls of defs. -/
namespace TL
open PySem PySem.Spec PyProof.Rows L2

abbrev Spec := List S → Res → List S → Prop
def spT (R : Spec) : Sp := fun vs H Q _ => ∃ (M W : Addr → Prop) (ss ss' : List S) (r : Res), R ss r ss' ∧ Good M W H ∧ EnvR M W H (vs.map some) (ss.map some) ∧
  ∀ v H', Xt W H H' → Good M W H' → EnvR M W H' (vs.map some) (ss'.map some) → RepR M H H' r v → Q v H'
def env0 (N : List Str) (ss : List S) : TL.Env := ss.map some ++ List.replicate (N.length - ss.length) none
/-- the lists of its own among the arguments, behind the body -/
def FinA (ss : List S) (δ' : TL.Env) (ss' : List S) : Prop := ss'.length = ss.length ∧ ∀ (i : Nat) (s : S), ss[i]? = some s → match s with
  | .im d => ss'[i]? = some (.im d)
  | .own _ => ∃ ys, ss'[i]? = some (.own ys) ∧ δ'[i]? = some (some (.own ys))
section
variable {P : Program} {w : World} {K : PySem.W.Frag} {mg : Str → Option Value} {base : Heap}
theorem get_app_none {α : Type} {l : List (Option α)} {n i : Nat} {x : α} (h : (l ++ List.replicate n none)[i]? = some (some x)) : l[i]? = some (some x) := by
  by_cases hi : i < l.length
  · rw [List.getElem?_append_left hi] at h; exact h
  · rw [List.getElem?_append_right (by omega), List.getElem?_replicate] at h
    split at h <;> cases h
theorem get_map_some {α : Type} {l : List α} {i : Nat} {x : α} : (l.map some)[i]? = some (some x) ↔ l[i]? = some x := by
  rw [List.getElem?_map]
  cases l[i]? with
  | none => simp
  | some y => simp
theorem fn_end {M W M' W' : Addr → Prop} {N : List Str} {vs : List V} {ss ss' : List S} {r : Res} {δ' : TL.Env} {σ' : L2.St} {H H' : Hp} {v : V} {Q : VK} (g : Good M W H) (Ev : EnvR M W H (vs.map some) (ss.map some)) (fin : FinA ss δ' ss')
    (A : Aft M W M' W' (env0 N ss) (start N vs) H δ' σ' H') (rr : RepR M' H H' r v) (k : ∀ v H', Xt W H H' → Good M W H' → EnvR M W H' (vs.map some) (ss'.map some) → RepR M H H' r v → Q v H') : Q v H' := by
  have xm : Xt M H H' := Xt.mono g.wm A.xt
  have hvl : vs.length = ss.length := by have := Ev.len; simpa using this
  refine k v H' A.xt ⟨g.wm, fun a m => A.good.mt a (A.gr.mm a m)⟩ ⟨by simp [hvl, fin.1], fun i s hs => ?_, fun i j p xs ys h1 h2 h3 h4 => ?_⟩ ?_
  · rw [get_map_some] at hs
    have hi : i < ss.length := by rw [← fin.1]; exact (List.getElem?_eq_some_iff.mp hs).1
    obtain ⟨s0, hs0⟩ : ∃ s0, ss[i]? = some s0 := ⟨ss[i], List.getElem?_eq_getElem hi⟩
    obtain ⟨u, hu, ru⟩ := Ev.at_ i s0 (get_map_some.mpr hs0)
    refine ⟨u, hu, ?_⟩
    have f := fin.2 i s0 hs0
    cases s0 with
    | im d =>
      rw [show ss'[i]? = some (S.im d) from f] at hs
      cases hs
      exact Rep.ex xm d ru
    | own xs =>
      obtain ⟨ys, f1, f2⟩ := f
      rw [f1] at hs
      cases hs
      obtain ⟨p, us, rfl, wp, hp, rp⟩ := ru
      have hδ : (env0 N ss)[i]? = some (some (.own xs)) := by
        unfold env0
        rw [List.getElem?_append_left (by simpa using hi)]
        exact get_map_some.mpr hs0
      obtain ⟨zs, z1, z2⟩ := A.kp i xs hδ
      obtain ⟨u', hu', p', us', rfl, wp', hp', rp'⟩ := A.env.at_ i _ f2
      rw [z2] at hu'
      have hst : (start N vs)[i]? = some (some (V.ref p)) := by
        unfold L2.start
        rw [List.getElem?_append_left (by simpa [hvl] using hi)]
        exact hu
      rw [hst] at hu'
      cases hu'
      exact ⟨p, us', rfl, wp, hp', RepO.anti A.gr.mm ys rp'⟩
  · rw [get_map_some] at h1 h2
    have key : ∀ (i : Nat) (xs : OC), ss'[i]? = some (.own xs) → ∃ zs, ss[i]? = some (.own zs) := fun i xs h => by
      have hi : i < ss.length := by rw [← fin.1]; exact (List.getElem?_eq_some_iff.mp h).1
      obtain ⟨s0, hs0⟩ : ∃ s0, ss[i]? = some s0 := ⟨ss[i], List.getElem?_eq_getElem hi⟩
      have f := fin.2 i s0 hs0
      cases s0 with
      | im d => rw [show ss'[i]? = some (S.im d) from f] at h; cases h
      | own zs => exact ⟨zs, hs0⟩
    obtain ⟨z1, a1⟩ := key i xs h1
    obtain ⟨z2, a2⟩ := key j ys h2
    exact Ev.ap i j p z1 z2 (get_map_some.mpr a1) (get_map_some.mpr a2) h3 h4
  · cases r with
    | im d => exact Rep.anti A.gr.mm d rr
    | fr xs =>
      obtain ⟨p, us, e, n, hp, rs⟩ := rr
      exact ⟨p, us, e, n, hp, Reps.anti (fun a z => z.elim (fun m => .inl (A.gr.mm a m)) .inr) xs rs⟩
theorem env_start {M W : Addr → Prop} {N : List Str} {vs : List V} {ss : List S} {H : Hp} (Ev : EnvR M W H (vs.map some) (ss.map some)) : EnvR M W H (start N vs) (env0 N ss) := by
  have hvl : vs.length = ss.length := by have := Ev.len; simpa using this
  have key : ∀ (i : Nat) (v : V), i < ss.length → (vs.map some)[i]? = some (some v) → (start N vs)[i]? = some (some v) := fun i v hi h => by
    unfold L2.start
    rw [List.getElem?_append_left (by simpa [hvl] using hi)]; exact h
  have key' : ∀ (i : Nat) (v : V), i < ss.length → (start N vs)[i]? = some (some v) → (vs.map some)[i]? = some (some v) := fun i v hi h => by
    unfold L2.start at h
    rw [List.getElem?_append_left (by simpa [hvl] using hi)] at h; exact h
  have lt : ∀ (i : Nat) (s : S), (ss.map some)[i]? = some (some s) → i < ss.length := fun i s h => by
    rw [get_map_some] at h; exact (List.getElem?_eq_some_iff.mp h).1
  refine ⟨by unfold L2.start env0; simp [hvl], fun i s h => ?_, fun i j p xs ys h1 h2 h3 h4 => ?_⟩
  · have h := get_app_none h
    obtain ⟨v, h1, h2⟩ := Ev.at_ i s h
    exact ⟨v, key i v (lt i s h) h1, h2⟩
  · have h1 := get_app_none h1
    have h2 := get_app_none h2
    exact Ev.ap i j p xs ys h1 h2 (key' i _ (lt i _ h1) h3) (key' j _ (lt j _ h2) h4)
/-- a def that keeps a promise over trees, however it is called (args bound to the parameters ps) -/
structure FnK (P : Program) (w : World) (K : PySem.W.Frag) (mg : Str → Option Value) (base : Heap) (k : Nat) (f : Addr) (fd : FuncData) (ps : List Str) (R : Spec) : Prop where
  run : ∀ (A : Around) (outer : List PySem.Env) (s : Shared) (H : Hp) (args : Args) (us : List Value) (vs : List V) (Q : VK), Room k A → A.guards = some [] → Env0 P w K mg base A outer s H → BindsTo s fd args (ps.zip us) → Vals vs us →
    vs.length = ps.length → spT R vs H Q E0 → codeAny (model P w) A (.call (.ref f) args) (CR CX0 outer P w H s Q E0) s
theorem FnK.mono {j k : Nat} {f : Addr} {fd : FuncData} {ps : List Str} {R : Spec} (F : FnK P w K mg base j f fd ps R) (h : j ≤ k) : FnK P w K mg base k f fd ps R :=
  ⟨fun A outer s H args us vs Q hr => F.run A outer s H args us vs Q (hr.mono h)⟩
theorem FnK.imp {k : Nat} {f : Addr} {fd : FuncData} {ps : List Str} {R R' : Spec} (F : FnK P w K mg base k f fd ps R) (h : ∀ ss r ss', R' ss r ss' → R ss r ss') : FnK P w K mg base k f fd ps R' :=
  ⟨fun A outer s H args us vs Q hr hg e0 hb hv hl ⟨M, W, ss, ss', r, hR, q⟩ => F.run A outer s H args us vs Q hr hg e0 hb hv hl ⟨M, W, ss, ss', r, h _ _ _ hR, q⟩⟩
/-- a def's body, run (wherever it is called) -/
theorem fn_run {k : Nat} {f : Addr} {name qual : Str} {params : Arguments} {body : List Stmt} {scope : Scope} {dV kV doc pm cdv ct oc : Value} {an od : Option Addr} {osl : Array (Option Value)} {N ps : List Str} {R : Spec}
    (lk : K.lookup f = some ⟨oc, od, .func (PySem.W.fnOf name qual params body scope dV kV doc pm an cdv ct), osl⟩) (hcd : PySem.W.codeIn K cdv qual = true) (S : FnScope N ps scope)
    {A : Around} {outer : List PySem.Env} {s : Shared} {H : Hp} {args : Args} {us : List Value} {vs : List V} {Q : VK}
    (hb : ∀ (ss : List TL.S) (r : Res) (ss' : List TL.S), R ss r ss' → ss.length = ps.length →
      ∃ o δ', TB (cxOf CX0 P w K mg base N qual scope f cdv A outer s H E0).nox body (env0 N ss) o ∧ FinA ss δ' ss' ∧ (o = .rt r δ' ∨ (o = .nx δ' ∧ r = .im .non)))
    (hr : Room (k + 1) A) (e0 : Env0 P w K mg base A outer s H) (hbd : BindsTo s (PySem.W.fnOf name qual params body scope dV kV doc pm an cdv ct) args (ps.zip us)) (rv : Vals vs us) (hl : vs.length = ps.length) (hsp : spT R vs H Q E0) :
    codeAny (model P w) A (.call (.ref f) args) (CR CX0 outer P w H s Q E0) s := by
  obtain ⟨M, W, ss, ss', r, hR, g, Ev, q⟩ := hsp
  have hsl : ss.length = ps.length := by have := Ev.len; simp at this; omega
  have hk : K.In s.heap := e0.mod.kin.keeps fun b o e => (e0.bs b o e).1
  have hnl : s.heap.NoLimit := e0.mod.nolimit.keeps fun b o e => (e0.bs b o e).1
  have kinds : ∀ y ∈ ps.zip us, scope.names.lookup y.1 = some .local ∨ (scope.names.lookup y.1 = some .cell ∧ ((cellsFrom (s.heap.objs.size + 1) scope.names []).lookup y.1).isSome = true) := by
    rintro ⟨n, v⟩ hy
    rcases S.par n (List.of_mem_zip hy).1 with z | z
    · exact .inl z
    · exact .inr ⟨z, PySem.W.cellsFrom_some _ _ _ (.inl z)⟩
  refine PySem.codeAny_call_function hr.depth (hk _ _ lk) rfl S.co S.gen rfl (PySem.W.codeRec_of hk hcd) (hbd _ _ _ _ ?_)
  refine wpAny_newFunctionEnv_cells S.kind kinds fun env he s1 x => ?_
  subst he
  refine ⟨hnl.keeps x.toInCall.keep, PySem.codeAny_func ?_⟩
  obtain ⟨o, δ', tb, fin, ho⟩ := hb ss r ss' hR hsl
  have I : Inv (cxOf CX0 P w K mg base N qual scope f cdv A outer s H E0) [] (L2.start N vs) H s1 := inv_start S hr.hd e0 hl rv x
  have body_ok : wB (cxOf CX0 P w K mg base N qual scope f cdv A outer s H E0).nox body { nx := fun _ H' => Q .non H', rt := Q } (L2.start N vs) H := by
    refine tb M W _ H _ g (env_start Ev) ?_
    rcases ho with rfl | ⟨rfl, rfl⟩
    · exact fun M' W' σ' H' v Af rr => fn_end g Ev fin Af rr q
    · exact fun M' W' σ' H' Af => fn_end (r := .im .non) (v := .non) g Ev fin Af rfl q
  refine wpAny_mono (body_ok.run [] s1 (I.wish _)) (fun fl s' hs => ?_) fun e s' hs => hs.elim
  cases fl with
  | ret u =>
    obtain ⟨v, σ', H', J, rw', q'⟩ := hs
    exact ⟨v, H', J.os, J.bare, J.base, J.hok, rw', q'⟩
  | next =>
    obtain ⟨σ', H', J, q'⟩ := hs
    exact ⟨V.non, H', J.os, J.bare, J.base, J.hok, rfl, q'⟩
  | brk => obtain ⟨_, _, _, q'⟩ := hs; exact q'.elim
  | cont => obtain ⟨_, _, _, q'⟩ := hs; exact q'.elim
theorem fnK_of {k : Nat} {f : Addr} {name qual : Str} {params : Arguments} {body : List Stmt} {scope : Scope} {dV kV doc pm cdv ct oc : Value} {an od : Option Addr} {osl : Array (Option Value)} {N ps : List Str} {R : Spec}
    (lk : K.lookup f = some ⟨oc, od, .func (PySem.W.fnOf name qual params body scope dV kV doc pm an cdv ct), osl⟩) (hcd : PySem.W.codeIn K cdv qual = true) (S : FnScope N ps scope)
    (hb : ∀ (A : Around) (outer : List PySem.Env) (s : Shared) (H : Hp) (ss : List TL.S) (r : Res) (ss' : List TL.S), Room k (A.deeper (PyProof.Rows.envOfC qual scope s.heap.objs.size f cdv)) → A.guards = some [] → R ss r ss' → ss.length = ps.length →
      ∃ o δ', TB (cxOf CX0 P w K mg base N qual scope f cdv A outer s H E0).nox body (env0 N ss) o ∧ FinA ss δ' ss' ∧ (o = .rt r δ' ∨ (o = .nx δ' ∧ r = .im .non))) :
    FnK P w K mg base (k + 1) f (PySem.W.fnOf name qual params body scope dV kV doc pm an cdv ct) ps R :=
  ⟨fun A outer s H args us vs Q hr hg e0 hbd rv hl hsp => fn_run lk hcd S (fun ss r ss' hR hl' => hb A outer s H ss r ss' (hr.deeper _) hg hR hl') hr e0 hbd rv hl hsp⟩
/-- the same for a def that does not ask which reprs are under way -/
structure FnN (P : Program) (w : World) (K : PySem.W.Frag) (mg : Str → Option Value) (base : Heap) (k : Nat) (f : Addr) (fd : FuncData) (ps : List Str) (R : Spec) : Prop where
  run : ∀ (A : Around) (outer : List PySem.Env) (s : Shared) (H : Hp) (args : Args) (us : List Value) (vs : List V) (Q : VK), Room k A → Env0 P w K mg base A outer s H → BindsTo s fd args (ps.zip us) → Vals vs us →
    vs.length = ps.length → spT R vs H Q E0 → codeAny (model P w) A (.call (.ref f) args) (CR CX0 outer P w H s Q E0) s
theorem FnN.toK {k : Nat} {f : Addr} {fd : FuncData} {ps : List Str} {R : Spec} (F : FnN P w K mg base k f fd ps R) : FnK P w K mg base k f fd ps R := ⟨fun A outer s H args us vs Q hr _ => F.run A outer s H args us vs Q hr⟩
theorem fnN_of {k : Nat} {f : Addr} {name qual : Str} {params : Arguments} {body : List Stmt} {scope : Scope} {dV kV doc pm cdv ct oc : Value} {an od : Option Addr} {osl : Array (Option Value)} {N ps : List Str} {R : Spec}
    (lk : K.lookup f = some ⟨oc, od, .func (PySem.W.fnOf name qual params body scope dV kV doc pm an cdv ct), osl⟩) (hcd : PySem.W.codeIn K cdv qual = true) (S : FnScope N ps scope)
    (hb : ∀ (A : Around) (outer : List PySem.Env) (s : Shared) (H : Hp) (ss : List TL.S) (r : Res) (ss' : List TL.S), Room k (A.deeper (PyProof.Rows.envOfC qual scope s.heap.objs.size f cdv)) → R ss r ss' → ss.length = ps.length →
      ∃ o δ', TB (cxOf CX0 P w K mg base N qual scope f cdv A outer s H E0).nox body (env0 N ss) o ∧ FinA ss δ' ss' ∧ (o = .rt r δ' ∨ (o = .nx δ' ∧ r = .im .non))) :
    FnN P w K mg base (k + 1) f (PySem.W.fnOf name qual params body scope dV kV doc pm an cdv ct) ps R :=
  ⟨fun A outer s H args us vs Q hr e0 hbd rv hl hsp => fn_run lk hcd S (fun ss r ss' hR hl' => hb A outer s H ss r ss' (hr.deeper _) hR hl') hr e0 hbd rv hl hsp⟩
end

/-! ### calls -/
/-- a call with so many written arguments and these keywords -/
structure FnG (P : Program) (w : World) (K : PySem.W.Frag) (mg : Str → Option Value) (base : Heap) (k : Nat) (f : Addr) (ks : List Str) (R : Spec) : Prop where
  run : ∀ (A : Around) (outer : List PySem.Env) (s : Shared) (H : Hp) (us ws : List Value) (vs zs : List V) (Q : VK), Room k A → A.guards = some [] → Env0 P w K mg base A outer s H → Vals vs us → Vals zs ws → zs.length = ks.length →
    spT R (vs ++ zs) H Q E0 → codeAny (model P w) A (.call (.ref f) ⟨us, ks.zip ws⟩) (CR CX0 outer P w H s Q E0) s
structure Cal (P : Program) (w : World) (K : PySem.W.Frag) (mg : Str → Option Value) (base : Heap) (x : Str) (k : Nat) (R : Spec) : Prop where
  ex : ∃ f : Addr, FnG P w K mg base k f [] R ∧ mg x = some (.ref f) ∧ PySem.W.keepIn K (.ref f) = true
section
variable {P : Program} {w : World} {K : PySem.W.Frag} {mg : Str → Option Value} {base : Heap}
theorem FnK.pos {k : Nat} {f : Addr} {fd : FuncData} {ps : List Str} {R : Spec} (F : FnK P w K mg base k f fd ps R) (b : Binds K fd ps []) (hl : ∀ ss r ss', R ss r ss' → ss.length = ps.length) : FnG P w K mg base k f [] R := by
  refine ⟨fun A outer s H us ws vs zs Q hr hg e0 rv rz lz h => ?_⟩
  have : zs = [] := List.length_eq_zero_iff.mp lz
  subst this
  rw [List.append_nil] at h
  have hk : K.In s.heap := e0.mod.kin.keeps fun b o e => (e0.bs b o e).1
  have hvl : vs.length = ps.length := by
    obtain ⟨M, W, ss, ss', r, hR, g, Ev, q⟩ := id h
    have h1 := hl _ _ _ hR
    have h2 := Ev.len
    simp at h2
    omega
  have hb := b s us hk (by rw [List.append_nil, ← rv.length]; exact hvl)
  rw [List.append_nil] at hb
  exact F.run A outer s H ⟨us, []⟩ us vs Q hr hg e0 hb rv hvl h
end
section
variable {M W : Addr → Prop} {H H' : Hp}
theorem envR_args : ∀ {ds : List D} {vs : List V}, Reps M H ds vs → EnvR M (fun _ => False) H (vs.map some) ((ds.map S.im).map some) := fun {ds vs} r => by
  refine ⟨by simp [r.len], fun i s h => ?_, fun i j p xs ys h1 => ?_⟩
  · rw [get_map_some, List.getElem?_map] at h
    cases hd : ds[i]? with
    | none => rw [hd] at h; cases h
    | some d =>
      rw [hd] at h
      cases h
      obtain ⟨v, h1, h2⟩ := r.get hd
      exact ⟨v, get_map_some.mpr h1, h2⟩
  · rw [get_map_some, List.getElem?_map] at h1
    cases hd : ds[i]? with
    | none => rw [hd] at h1; cases h1
    | some d => rw [hd] at h1; cases h1
/-- a list of its own ahead of data -/
theorem envR_own {p : Addr} {us : HO} {xs : OC} {ds : List D} {vs : List V} (hp : H p = some us) (ru : RepO M H p xs us) (r : Reps M H ds vs) :
    EnvR M (fun a => a = p) H ((V.ref p :: vs).map some) ((S.own xs :: ds.map S.im).map some) := by
  have E := envR_args r
  refine ⟨by have := E.len; simp at this ⊢; exact this, fun i s h => ?_, fun i j q ys zs h1 h2 h3 h4 => ?_⟩
  · cases i with
    | zero =>
      have : s = .own xs := by simpa using h.symm
      subst this
      exact ⟨_, rfl, p, us, rfl, rfl, hp, ru⟩
    | succ i =>
      obtain ⟨v, a, b⟩ := E.at_ i s (by simpa using h)
      refine ⟨v, by simpa using a, ?_⟩
      cases s with
      | im d => exact b
      | own ys => obtain ⟨_, _, _, w, _⟩ := b; exact w.elim
  · have key : ∀ (i : Nat) (ys : OC), ((S.own xs :: ds.map S.im).map some)[i]? = some (some (S.own ys)) → i = 0 := fun i ys h => by
      cases i with
      | zero => rfl
      | succ i =>
        exfalso
        have h : ((ds.map S.im).map some)[i]? = some (some (S.own ys)) := by simpa using h
        rw [get_map_some, List.getElem?_map] at h
        cases hd : ds[i]? with
        | none => rw [hd] at h; cases h
        | some d => rw [hd] at h; cases h
    rw [key i ys h1, key j zs h2]
end
section
variable {X : Cx} {a b c e : Expr} {es : List Expr} {δ δ1 δ2 : TL.Env} {x : Str} {d : D} {ds : List D} {pos p : Pos} {k : Nat} {R : Spec} {xs ys : List D}
/-- f(e, ..) -/
theorem pe_callG {f : Addr} {t : L2.TA} (F : FnG X.prog X.w X.K X.mg X.base k f [] R) (hr : Room k X.A) (gd : X.A.guards = some []) (hg : Gl X x) (hm : X.mg x = some (.ref f)) (hk : PySem.W.keepIn X.K (.ref f) = true) (ha : PA X (e :: es) t)
    (hdb : (x == ("__debug__" : Str)) = false) (he : starEach (e :: es) X.env = (false, eval e X.env) :: starEach es X.env) (hpl : (backTo pos (starEach es X.env)).any (·.1) = false) :
    PE X (.Call (.Name x p) (e :: es) [] pos) (fun σ H Q => t σ H fun vs H1 => spT R vs H1 Q E0) := by
  refine ⟨fun pins s σ H Q I h => ?_⟩
  refine wpAny_Call_Name_kw (ld_glob I hg hm ?_ hdb)
  refine PySem.W.callWith_K (h₀ := X.base) I.ok.mod.kin hk (thn (ha.run pos pins s σ H _ I h) fun us s1 ⟨vs, H1, I1, rv, q⟩ => ⟨I1.kIn, ?_⟩) he hpl
  refine PySem.wpAny_call (PySem.codeAny_mono (F.run X.A X.stack s1 H1 us [] vs [] Q hr gd I1.env0 rv .nil rfl (by rw [List.append_nil]; exact q)) fun r s' hq => ?_)
  cases r with
  | error er => exact False.elim hq
  | ok fl =>
    cases fl with
    | ret u => exact I1.after hq
    | next => exact False.elim hq
    | brk => exact False.elim hq
    | cont => exact False.elim hq
theorem good0 {M W : Addr → Prop} {H : Hp} (g : Good M W H) : Good M (fun _ => False) H := ⟨fun _ z => z.elim, g.mt⟩
theorem tr_call (C : Cal X.prog X.w X.K X.mg X.base x k R) (hr : Room k X.A) (gd : X.A.guards = some []) (ha : TA X (e :: es) δ ds δ1) (hR : R (ds.map S.im) (.im d) (ds.map S.im)) (hg : Gl X x := by rfl)
    (hdb : (x == ("__debug__" : Str)) = false := by decide) (he : starEach (e :: es) X.env = (false, eval e X.env) :: starEach es X.env := by rfl) (hpl : (backTo pos (starEach es X.env)).any (·.1) = false := by rfl) : TR X (.Call (.Name x p) (e :: es) [] pos) δ d δ1 := fun M W σ H Q g E q => by
  obtain ⟨f, F, hm, hk⟩ := C.ex
  refine wE_of (pe_callG F hr gd hg hm hk pa_w hdb he hpl) (ha M W σ H _ g E fun vs H1 s1 r1 => ?_)
  exact ⟨M, fun _ => False, _, _, _, hR, good0 s1.good, envR_args r1, fun v H2 xt g2 _ rr => q v H2 (s1.ext fun a o h => xt a o (fun z => z) h) rr⟩
theorem tf_call (C : Cal X.prog X.w X.K X.mg X.base x k R) (hr : Room k X.A) (gd : X.A.guards = some []) (ha : TA X (e :: es) δ ds δ1) (hR : R (ds.map S.im) (.fr xs) (ds.map S.im)) (hg : Gl X x := by rfl)
    (hdb : (x == ("__debug__" : Str)) = false := by decide) (he : starEach (e :: es) X.env = (false, eval e X.env) :: starEach es X.env := by rfl) (hpl : (backTo pos (starEach es X.env)).any (·.1) = false := by rfl) : TF X (.Call (.Name x p) (e :: es) [] pos) δ xs δ1 := fun M W σ H Q g E q => by
  obtain ⟨f, F, hm, hk⟩ := C.ex
  refine wE_of (pe_callG F hr gd hg hm hk pa_w hdb he hpl) (ha M W σ H _ g E fun vs H1 s1 r1 => ?_)
  refine ⟨M, fun _ => False, _, _, _, hR, good0 s1.good, envR_args r1, fun v H2 xt g2 _ rr => ?_⟩
  obtain ⟨p', us, rfl, n, h2, r2⟩ := rr
  have ex : ∀ a o, H1 a = some o → H2 a = some o := fun a o h => xt a o (fun z => z) h
  refine q p' us H2 ⟨s1.xt.trans (Xt.of ex), ⟨fun a w => .inl (g.wm a w), fun a m z => ?_⟩, (s1.env.gr (mp_gr n)).ext ex⟩ (s1.none g n) h2 r2
  rcases m with m | m
  · exact g2.mt a m z
  · rw [m, h2] at z; cases z
/-- f(q, ..): q a list of its own in slot n -/
theorem tr_callO {n : Nat} {nm : Str} {xs ys : OC} (C : Cal X.prog X.w X.K X.mg X.base x k R) (hr : Room k X.A) (gd : X.A.guards = some []) (h0 : δ[n]? = some (some (.own xs))) (ha : TA X es δ ds δ) (hR : R (.own xs :: ds.map S.im) (.im d) (.own ys :: ds.map S.im)) (hg : Gl X x := by rfl)
    (hN : X.N[n]? = some nm := by rfl) (hv : Vis X.env.scope nm := by first | exact Or.inl rfl | exact Or.inr (Or.inl rfl) | exact Or.inr (Or.inr rfl)) (hnb : (nm == ("__debug__" : Str)) = false := by decide) (hcd : (nm == ("__classdict__" : Str)) = false := by decide) {np : Pos}
    (hdb : (x == ("__debug__" : Str)) = false := by decide) (he : starEach (.Name nm np :: es) X.env = (false, eval (.Name nm np) X.env) :: starEach es X.env := by rfl) (hpl : (backTo pos (starEach es X.env)).any (·.1) = false := by rfl) :
    TR X (.Call (.Name x p) (.Name nm np :: es) [] pos) δ d (δ.set n (some (.own ys))) := fun M W σ H Q g E q => by
  obtain ⟨f, F, hm, hk⟩ := C.ex
  obtain ⟨a0, us0, hs0, hw0, hp0, ru0⟩ := E.getO h0
  refine wE_of (pe_callG F hr gd hg hm hk (pa_cons (pe_var hN hv hnb hcd) pa_w he) hdb he hpl) ⟨_, hs0, ha M W σ H _ g E fun vs H1 s1 r1 => ?_⟩
  show spT R (V.ref a0 :: vs) H1 Q E0
  obtain ⟨a1, us1, hs1, hw1, hp1, ru1⟩ := s1.env.getO h0
  rw [hs0] at hs1
  cases hs1
  refine ⟨M, fun a => a = a0, _, _, _, hR, ⟨fun a z => by rw [z]; exact g.wm a0 hw0, s1.good.mt⟩, envR_own hp1 ru1 r1, fun v H2 xt g2 E2 rr => q v H2 ⟨s1.xt.trans (Xt.mono (fun a z => by rw [z]; exact hw0) xt), ⟨g.wm, g2.mt⟩, ?_⟩ rr⟩
  obtain ⟨u, hu, p2, us2, rfl, _, hp2, ru2⟩ := E2.at_ 0 (.own ys) rfl
  have : p2 = a0 := by simpa using hu.symm
  subst this
  have xm : Xt M H1 H2 := fun a o m h => xt a o (fun z => m (by rw [z]; exact g.wm p2 hw0)) h
  have il : n < δ.length := (List.getElem?_eq_some_iff.mp h0).1
  refine ⟨by rw [List.length_set]; exact s1.env.len, fun j s hj => ?_, fun i j a ws zs h1 h2 h3 h4 => ?_⟩
  · by_cases hn : n = j
    · subst hn
      rw [List.getElem?_set_self il] at hj
      cases hj
      exact ⟨_, hs0, p2, us2, rfl, hw0, hp2, ru2⟩
    · rw [List.getElem?_set_ne hn] at hj
      obtain ⟨u, a1, b1⟩ := s1.env.at_ j s hj
      refine ⟨u, a1, ?_⟩
      cases s with
      | im d => exact Rep.ex xm d b1
      | own ws =>
        obtain ⟨p', vs', rfl, w', hp', r'⟩ := b1
        exact ⟨p', vs', rfl, w', xt p' _ (fun z => hn (s1.env.ap n j p2 xs ws h0 hj hs0 (by rw [← z]; exact a1))) hp', RepO.ex xm ws r'⟩
  · have key : ∀ (j : Nat) (zs : OC), (δ.set n (some (.own ys)))[j]? = some (some (.own zs)) → ∃ zs', δ[j]? = some (some (.own zs')) := fun j zs q => by
      by_cases hj : n = j
      · subst hj; exact ⟨xs, h0⟩
      · rw [List.getElem?_set_ne hj] at q; exact ⟨zs, q⟩
    obtain ⟨z1, a1⟩ := key i ws h1
    obtain ⟨z2, a2⟩ := key j zs h2
    exact s1.env.ap i j a z1 z2 a1 a2 h3 h4
/-- f(e): e makes a new list, which f may change -/
theorem tr_callF (C : Cal X.prog X.w X.K X.mg X.base x k R) (hr : Room k X.A) (gd : X.A.guards = some []) (ha : TF X e δ xs δ1) {yo : OC} (hR : R [.own (.lst xs)] (.im d) [.own yo]) (hg : Gl X x := by rfl)
    (hdb : (x == ("__debug__" : Str)) = false := by decide) (he : starEach [e] X.env = (false, eval e X.env) :: starEach [] X.env := by rfl) : TR X (.Call (.Name x p) [e] [] pos) δ d δ1 := fun M W σ H Q g E q => by
  obtain ⟨f, F, hm, hk⟩ := C.ex
  refine wE_of (pe_callG F hr gd hg hm hk (pa_cons pe_w pa_nil he) hdb he rfl) (ha M W σ H _ g E fun p' us H1 s1 n hp r1 => ?_)
  have np : ¬ M p' := g.notM n
  refine ⟨Mp M p', fun a => a = p', [.own (.lst xs)], [.own yo], _, hR, ⟨fun a z => .inr z, s1.good.mt⟩, envR_own (ds := []) (vs := []) hp ⟨us, rfl, r1⟩ rfl, fun v H2 xt g2 _ rr => ?_⟩
  have nW : ¬ W p' := fun w => np (g.wm p' w)
  have xm : Xt (Mp M p') H1 H2 := Xt.mono (fun a z => .inr z) xt
  refine q v H2 ⟨fun a o w h => xt a o (fun z => by rw [z, n] at h; cases h) (s1.xt a o w h), ⟨g.wm, fun a m => g2.mt a (.inl m)⟩, ⟨s1.env.len, fun i s hs => ?_, s1.env.ap⟩⟩ (Rep.anti (fun _ m => .inl m) d rr)
  obtain ⟨u, a1, b1⟩ := s1.env.at_ i s hs
  refine ⟨u, a1, ?_⟩
  cases s with
  | im d => exact Rep.anti (fun _ m => .inl m) d (Rep.ex xm d b1)
  | own ws =>
    obtain ⟨p2, vs2, rfl, w2, hp2, r2⟩ := b1
    exact ⟨p2, vs2, rfl, w2, xt p2 _ (fun z => nW (by rw [← z]; exact w2)) hp2, RepO.anti (fun _ m => .inl m) ws (RepO.ex xm ws r2)⟩
end
end TL
set_option Elab.async false
set_option linter.all false
set_option maxRecDepth 100000
set_option autoImplicit false
set_option maxHeartbeats 4000000
/-! TL6: comprehensions, loops. -/
namespace TL
open PySem PySem.Spec PyProof.Rows L2

section
variable {M W : Addr → Prop} {H H' H1 : Hp} {σ : L2.St} {δ δ1 : TL.Env} {i : Nat} {d : D} {v : V}
/-- a slot that holds nothing of note may hold anything -/
theorem EnvR.blank (e : EnvR M W H σ δ) (h : δ[i]? = some none) (o : Option V) : EnvR M W H (σ.set i o) δ := by
  have ne : ∀ (j : Nat) (s : S), δ[j]? = some (some s) → i ≠ j := fun j s q z => by subst z; rw [h] at q; cases q
  refine ⟨by rw [List.length_set]; exact e.len, fun j s q => ?_, fun j k p xs ys h1 h2 h3 h4 => ?_⟩
  · obtain ⟨v, a, b⟩ := e.at_ j s q
    exact ⟨v, by rw [List.getElem?_set_ne (ne j s q)]; exact a, b⟩
  · rw [List.getElem?_set_ne (ne j _ h1)] at h3
    rw [List.getElem?_set_ne (ne k _ h2)] at h4
    exact e.ap j k p xs ys h1 h2 h3 h4
theorem EnvR.unblank {o : Option V} (e : EnvR M W H (σ.set i o) δ) (h : δ[i]? = some none) : EnvR M W H σ δ := by
  have ne : ∀ (j : Nat) (s : S), δ[j]? = some (some s) → i ≠ j := fun j s q z => by subst z; rw [h] at q; cases q
  refine ⟨by have := e.len; rw [List.length_set] at this; exact this, fun j s q => ?_, fun j k p xs ys h1 h2 h3 h4 => ?_⟩
  · obtain ⟨v, a, b⟩ := e.at_ j s q
    rw [List.getElem?_set_ne (ne j s q)] at a
    exact ⟨v, a, b⟩
  · exact e.ap j k p xs ys h1 h2 (by rw [List.getElem?_set_ne (ne j _ h1)]; exact h3) (by rw [List.getElem?_set_ne (ne k _ h2)]; exact h4)
/-- what slot i holds is forgotten -/
theorem EnvR.drop (e : EnvR M W H σ (δ.set i (some (.im d)))) (h : δ[i]? = some none) : EnvR M W H σ δ := by
  have ne : ∀ (j : Nat) (s : S), δ[j]? = some (some s) → i ≠ j := fun j s q z => by subst z; rw [h] at q; cases q
  have up : ∀ (j : Nat) (s : S), δ[j]? = some (some s) → (δ.set i (some (.im d)))[j]? = some (some s) := fun j s q => by rw [List.getElem?_set_ne (ne j s q)]; exact q
  exact ⟨by have := e.len; rw [List.length_set] at this; exact this, fun j s q => e.at_ j s (up j s q), fun j k p xs ys h1 h2 h3 h4 => e.ap j k p xs ys (up j _ h1) (up k _ h2) h3 h4⟩
/-- an object that no tree goes through, and no slot owns, changes -/
theorem EnvR.upd {p : Addr} {o : HO} (e : EnvR M W H σ δ) (m : M p) (nw : ¬ W p) : EnvR M W (L2.upd H p o) σ δ := by
  have X : Xt M H (L2.upd H p o) := fun a u n q => by rw [upd_ne (fun z => n (by rw [z]; exact m))]; exact q
  refine ⟨e.len, fun i s q => ?_, e.ap⟩
  obtain ⟨v, a, b⟩ := e.at_ i s q
  refine ⟨v, a, ?_⟩
  cases s with
  | im d => exact Rep.ex X d b
  | own xs =>
    obtain ⟨q', vs, rfl, w, hp, r⟩ := b
    exact ⟨q', vs, rfl, w, by rw [upd_ne (fun z => nw (by rw [← z]; exact w))]; exact hp, RepO.ex X xs r⟩
end

/-! ### comprehensions -/
/-- what holds between two turns: Dl the new list -/
structure Lcw (M W : Addr → Prop) (σ : L2.St) (H1 : Hp) (Dl : Addr) (δs : Nat → TL.Env) (ys : List D) (k : Nat) (H : Hp) : Prop where
  st : Stp (Mp M Dl) W σ (δs k) H1 H
  ex : ∃ acc, H Dl = some (.lst acc) ∧ Reps (Mp M Dl) H (ys.take k) acc
section
variable {X : Cx} {elt : Expr} {scope : Scope} {M W : Addr → Prop} {σ : L2.St} {H1 : Hp} {Dl : Addr} {δs : Nat → TL.Env} {ys : List D} {i : Nat} {x y : D}
/-- an element's judgement, in the block's own frame -/
def TRb (X : Cx) (scope : Scope) (e : Expr) (δ : TL.Env) (d : D) (δ' : TL.Env) : Prop := ∀ (s : Shared) (H : Hp) (C : Addr) (cl : List (Str × Addr)) (fp : List Addr), TR (X.blk s H scope (compEnvC scope cl C X.env) fp) e δ d δ'
def wEb (X : Cx) (scope : Scope) (e : Expr) : TE := fun σ H Q => ∀ (s : Shared) (H0 : Hp) (C : Addr) (cl : List (Str × Addr)) (fp : List Addr), wE (X.blk s H0 scope (compEnvC scope cl C X.env) fp) e σ H Q
theorem pe_wb (s : Shared) (H0 : Hp) (C : Addr) (cl : List (Str × Addr)) (fp : List Addr) : PE (X.blk s H0 scope (compEnvC scope cl C X.env) fp) elt (wEb X scope elt) := ⟨fun pins s' _ _ _ I h => (h s H0 C cl fp).run pins s' I⟩
theorem lcw_start (g : Good M W H1) (E : EnvR M W H1 σ (δs 0)) (hD : H1 Dl = none) : Lcw M W σ H1 Dl δs ys 0 (upd H1 Dl (.lst [])) :=
  ⟨(Stp.refl g E).fresh hD, [], upd_same, by rw [List.take_zero]; exact rfl⟩
theorem lcw_turn {k : Nat} {H : Hp} {v : V} (g : Good M W H1) (hD : H1 Dl = none) (p : Lcw M W σ H1 Dl δs ys k H) (hn : ∀ k, (δs k)[i]? = some none) (hy : ys[k]? = some y) (hk : k < 100000) (rx : Rep (Mp M Dl) H x v)
    (he : TRb X scope elt ((δs k).set i (some (.im x))) y ((δs (k + 1)).set i (some (.im x)))) :
    wEb X scope elt ((wipe σ [i]).set i (some v)) H fun u H4 => ∃ acc, H4 Dl = some (.lst acc) ∧ acc.length < sizeLine ∧ Lcw M W σ H1 Dl δs ys (k + 1) (upd H4 Dl (.lst (acc ++ [u]))) := fun s H0 C cl fp => by
  obtain ⟨acc, hacc, racc⟩ := p.ex
  have nW : ¬ W Dl := fun w => g.mt Dl (g.wm Dl w) hD
  have E2 : EnvR (Mp M Dl) W H ((wipe σ [i]).set i (some v)) ((δs k).set i (some (.im x))) := (p.st.env.blank (hn k) none).set rx
  refine he s H0 C cl fp (Mp M Dl) W _ H _ p.st.good E2 fun u H4 s4 r4 => ?_
  have h4 : H4 Dl = some (.lst acc) := s4.xt Dl _ nW hacc
  have hl : acc.length = min k ys.length := by rw [racc.len, List.length_take]
  refine ⟨acc, h4, Nat.lt_of_lt_of_le (Nat.lt_of_le_of_lt (by omega) hk) (by decide), ⟨?_, acc ++ [u], upd_same, ?_⟩⟩
  · have X4 : EnvR (Mp M Dl) W H4 σ (δs (k + 1)) := by
      have z := s4.env.drop (hn (k + 1))
      have z' := z.unblank (hn (k + 1))
      exact z'.unblank (hn (k + 1))
    refine ⟨fun a o w h => ?_, s4.good.put, X4.upd (.inr rfl) nW⟩
    have ne : a ≠ Dl := ne_of_none h hD
    rw [upd_ne ne]
    exact s4.xt a o w (p.st.xt a o w h)
  · have Xm : Xt (Mp M Dl) H4 (upd H4 Dl (.lst (acc ++ [u]))) := fun a o n q => by rw [upd_ne (fun z => n (.inr z))]; exact q
    have e : ys.take (k + 1) = ys.take k ++ [y] := by
      obtain ⟨h1, h2⟩ := List.getElem?_eq_some_iff.mp hy
      rw [List.take_succ, hy]; rfl
    rw [e]
    refine Reps.app (Reps.ex Xm _ (s4.reps racc)) ⟨u, [], rfl, Rep.ex Xm y r4, rfl⟩
end
section
variable {X : Cx} {elt it : Expr} {scope : Scope} {δ δ1 : TL.Env} {xs ys : List D} {i : Nat} {nm : Str} {pos np : Pos}
theorem lcw_end {M W : Addr → Prop} {σ : L2.St} {H H1 H' : Hp} {Dl : Addr} {δs : Nat → TL.Env} {n : Nat} {Q : VK} (g : Good M W H) (s1 : Stp M W σ δ1 H H1) (hD : H1 Dl = none) (p : Lcw M W σ H1 Dl δs ys n H') (hl : ys.length = n)
    (k : ∀ p vs H', Stp (Mp M p) W σ (δs n) H H' → H p = none → H' p = some (.lst vs) → Reps (Mp M p) H' ys vs → Q (.ref p) H') : Q (.ref Dl) H' := by
  obtain ⟨acc, hacc, racc⟩ := p.ex
  rw [← hl, List.take_length] at racc
  exact k Dl acc H' ⟨s1.xt.trans p.st.xt, p.st.good, p.st.env⟩ (s1.none g hD) hacc racc
/-- [elt for nm in it], it a list of data -/
theorem tf_lc (δs : Nat → TL.Env) (ys : List D) (hit : TR X it δ (.lst xs) (δs 0)) (hn : ∀ k, (δs k)[i]? = some none) (hl : ys.length = xs.length) (hb : xs.length ≤ 100000)
    (he : ∀ (k : Nat) (x y : D), xs[k]? = some x → ys[k]? = some y → TRb X scope elt ((δs k).set i (some (.im x))) y ((δs (k + 1)).set i (some (.im x))))
    (hN : X.N.Nodup) (ok : BlkOk X.N X.env.scope scope [(nm, i)])
    (hg : ∀ (s : Shared) (H : Hp) (C : Addr) (cl : List (Str × Addr)) (fp : List Addr), PG (X.blk s H scope (compEnvC scope cl C X.env) fp) (.Name nm np) (gName i)) (hc : X.calm = true := by rfl)
    (hs : ∀ x, foldedSetIterable it X.env x = pure x := by intro _; rfl) : TF X (.ListComp elt [⟨.Name nm np, it, [], 0⟩] scope pos) δ ys (δs xs.length) := fun M W σ H Q g E k => by
  refine wE_of (pe_lc (own := [(nm, i)]) (g := gName i) (tt := tYes) hc hN (pi_list pe_w) ok hg (fun _ _ _ _ _ => pts_nil) pe_wb hs) (hit M W σ H _ g E fun v H1 s1 ⟨a, vs, ea, m, ha, ra⟩ => ⟨a, ea, ⟨vs, SqL.of ha⟩, fun Dl hD => ?_⟩)
  have e0 : [(nm, i)].map (·.2) = [i] := rfl
  rw [e0]
  have nad : a ≠ Dl := ne_of_none ha hD
  refine lc_list (xs := vs) (Lcw M W σ H1 Dl δs ys) (lcw_start s1.good s1.env hD) (fun k' H' _ p => ?_) (fun k' x H' hk p => ⟨?_, ?_⟩) (fun H' p => ?_)
  · exact SqL.of (p.st.xt a _ (fun w => m (g.wm a w)) ha)
  · show (((σ.set i none).set i (some x)).set i none) = σ.set i none
    rw [List.set_set, List.set_set]
  · show wEb X scope elt ((wipe σ [i]).set i (some x)) H' _
    obtain ⟨d, hd, rd⟩ := ra.get' hk
    have hk' : k' < xs.length := (List.getElem?_eq_some_iff.mp hd).1
    have hy : ys[k']? = some ys[k'] := List.getElem?_eq_getElem (by omega)
    exact lcw_turn s1.good hD p hn hy (by omega) (Rep.ex (Xt.mono (fun _ w => .inl (g.wm _ w)) p.st.xt) d (Rep.gr (mp_gr hD) d rd)) (he k' d _ hd hy)
  · rw [ra.len] at p
    exact lcw_end g s1 hD p hl k
/-- .. over range(n) -/
theorem tf_lcR {n : Int} {e : Expr} {rp : Pos} (δs : Nat → TL.Env) (ys : List D) (hit : TR X e δ (.int n) (δs 0)) (hn : ∀ k, (δs k)[i]? = some none) (h0 : 0 ≤ n) (hb : n ≤ 100000) (hl : ys.length = n.toNat)
    (he : ∀ (k : Nat) (y : D), k < n.toNat → ys[k]? = some y → TRb X scope elt ((δs k).set i (some (.im (.int k)))) y ((δs (k + 1)).set i (some (.im (.int k)))))
    (hm : X.mg "range" = none) (hN : X.N.Nodup) (ok : BlkOk X.N X.env.scope scope [(nm, i)])
    (hg : ∀ (s : Shared) (H : Hp) (C : Addr) (cl : List (Str × Addr)) (fp : List Addr), PG (X.blk s H scope (compEnvC scope cl C X.env) fp) (.Name nm np) (gName i)) (hc : X.calm = true := by rfl) (hgl : Gl X "range" := by rfl)
    (hst : starEach [e] X.env = [(false, eval e X.env)] := by rfl)
    (hs : ∀ x, foldedSetIterable (.Call (.Name "range" rp) [e] [] pos) X.env x = pure x := by intro _; rfl) {cpos : Pos} : TF X (.ListComp elt [⟨.Name nm np, .Call (.Name "range" rp) [e] [] pos, [], 0⟩] scope cpos) δ ys (δs n.toNat) := fun M W σ H Q g E k => by
  refine wE_of (pe_lc (own := [(nm, i)]) (g := gName i) (tt := tYes) hc hN (pi_range1 hgl hm (pa_cons pe_w pa_nil hst) hst) ok hg (fun _ _ _ _ _ => pts_nil) pe_wb hs) (hit M W σ H _ g E fun v H1 s1 r1 => ⟨n, by rw [show v = V.int n from r1], by omega, by omega, fun Dl hD => ?_⟩)
  have e0 : [(nm, i)].map (·.2) = [i] := rfl
  rw [e0]
  refine lc_range (lo := 0) (n := n.toNat) (Lcw M W σ H1 Dl δs ys) (lcw_start s1.good s1.env hD) (fun k' H' hk p => ⟨?_, ?_⟩) (fun H' p => lcw_end g s1 hD p hl k)
  · show (((σ.set i none).set i _).set i none) = σ.set i none
    rw [List.set_set, List.set_set]
  · show wEb X scope elt ((wipe σ [i]).set i (some (.int (0 + (k' : Int))))) H' _
    rw [Int.zero_add]
    have hy : ys[k']? = some ys[k'] := List.getElem?_eq_getElem (by omega)
    exact lcw_turn (x := .int k') s1.good hD p hn hy (by omega) rfl (he k' _ hk hy)
/-- the script is read -/
theorem scr_sql {M : Addr → Prop} {H : Hp} {K : PySem.W.Frag} {a : Addr} {ns : List Int} {v : V} (r : Rep M H (.scr K a ns) v) : v = .ref a ∧ SqL K H a (ns.map V.int) := by
  obtain ⟨e, r⟩ := r
  rcases r with ⟨_, r⟩ | r
  · exact ⟨e, .inl r⟩
  · exact ⟨e, .inr r⟩
/-- .. over the script -/
theorem tf_lcS {a : Addr} {ns : List Int} (δs : Nat → TL.Env) (ys : List D) (hit : TR X it δ (.scr X.K a ns) (δs 0)) (hn : ∀ k, (δs k)[i]? = some none) (hl : ys.length = ns.length) (hb : ns.length ≤ 100000)
    (he : ∀ (k : Nat) (x : Int) (y : D), ns[k]? = some x → ys[k]? = some y → TRb X scope elt ((δs k).set i (some (.im (.int x)))) y ((δs (k + 1)).set i (some (.im (.int x)))))
    (hN : X.N.Nodup) (ok : BlkOk X.N X.env.scope scope [(nm, i)])
    (hg : ∀ (s : Shared) (H : Hp) (C : Addr) (cl : List (Str × Addr)) (fp : List Addr), PG (X.blk s H scope (compEnvC scope cl C X.env) fp) (.Name nm np) (gName i)) (hc : X.calm = true := by rfl)
    (hs : ∀ x, foldedSetIterable it X.env x = pure x := by intro _; rfl) : TF X (.ListComp elt [⟨.Name nm np, it, [], 0⟩] scope pos) δ ys (δs ns.length) := fun M W σ H Q g E k => by
  refine wE_of (pe_lc (own := [(nm, i)]) (g := gName i) (tt := tYes) hc hN (pi_list pe_w) ok hg (fun _ _ _ _ _ => pts_nil) pe_wb hs) (hit M W σ H _ g E fun v H1 s1 r1 => ⟨a, (scr_sql r1).1, ⟨_, (scr_sql r1).2⟩, fun Dl hD => ?_⟩)
  have e0 : [(nm, i)].map (·.2) = [i] := rfl
  rw [e0]
  refine lc_list (xs := ns.map V.int) (Lcw M W σ H1 Dl δs ys) (lcw_start s1.good s1.env hD) (fun k' H' _ p => ?_) (fun k' x H' hk p => ⟨?_, ?_⟩) (fun H' p => ?_)
  · exact (scr_sql (Rep.ex (Xt.mono (fun _ w => .inl (g.wm _ w)) p.st.xt) _ (Rep.gr (mp_gr hD) _ r1))).2
  · show (((σ.set i none).set i (some x)).set i none) = σ.set i none
    rw [List.set_set, List.set_set]
  · show wEb X scope elt ((wipe σ [i]).set i (some x)) H' _
    rw [List.getElem?_map] at hk
    cases hz : ns[k']? with
    | none => rw [hz] at hk; cases hk
    | some z =>
      rw [hz] at hk
      cases hk
      have hk' : k' < ns.length := (List.getElem?_eq_some_iff.mp hz).1
      have hy : ys[k']? = some ys[k'] := List.getElem?_eq_getElem (by omega)
      exact lcw_turn (x := .int z) s1.good hD p hn hy (by omega) rfl (he k' z _ hz hy)
  · rw [List.length_map] at p
    exact lcw_end g s1 hD p hl k
end

/-! ### loops -/
section
variable {X : Cx} {c it : Expr} {body : List Stmt} {δ δ1 δ' : TL.Env} {xs : List D} {j : Nat} {nm : Str} {pos np : Pos}
theorem ts_while {ι : Type} (I : ι → TL.Env) (J : ι → Prop) (μ : ι → Nat) (x0 : ι) (h0 : δ = I x0) (j0 : J x0)
    (hs : ∀ x, J x → ∃ k, TT X c (I x) k (I x) ∧ (k = true → ∃ y, J y ∧ μ y < μ x ∧ TB X body (I x) (.nx (I y))) ∧ (k = false → I x = δ')) (hp : PassesOwn (model X.prog X.w) X.A X.env X.xe) :
    TS X (.While c body [] pos) δ (.nx δ') := fun M W σ H Dn g E q => by
  subst h0
  refine wS_of (ps_while hp pt_w pss_w) ⟨fun m σ' H' => ∃ x M' W', J x ∧ μ x = m ∧ Aft M W M' W' (I x0) σ H (I x) σ' H', ⟨_, x0, M, W, j0, rfl, ⟨Gr.refl, Xt.refl H, g, E, Kp.refl⟩⟩, ?_⟩
  rintro m σ' H' ⟨x, M', W', jx, rfl, A⟩
  obtain ⟨k, ht, hT, hF⟩ := hs x jx
  refine ht M' W' σ' H' _ A.good A.env fun H1 s1 => ?_
  have A1 : Aft M W M' W' (I x0) σ H (I x) σ' H1 := A.trans g (s1.aft Sh.refl)
  cases k with
  | true =>
    rw [if_pos rfl]
    obtain ⟨y, jy, hm, hb⟩ := hT rfl
    refine ⟨_, fun _ _ n => n, hb M' W' σ' H1 _ s1.good s1.env fun M2 W2 σ2 H2 A2 => ?_⟩
    exact ⟨μ y, hm, y, M2, W2, jy, rfl, A1.trans g A2⟩
  | false =>
    rw [if_neg Bool.false_ne_true]
    have e := hF rfl
    rw [e] at A1
    exact q M' W' σ' H1 A1
/-- for nm in it: every turn goes on -/
theorem ts_for (I : Nat → TL.Env) (hit : TR X it δ (.lst xs) (I 0)) (sh : Sh δ (I 0)) (hno : ∀ k xs, (I k)[j]? ≠ some (some (.own xs))) (hs : ∀ (k : Nat) (x : D), xs[k]? = some x → TB X body ((I k).set j (some (.im x))) (.nx (I (k + 1))))
    (hp : PassesOwn (model X.prog X.w) X.A X.env X.xe) (hg : PG X (.Name nm np) (gName j)) (hc : X.calm = true := by rfl) (hf : ∀ x, foldedSetIterable it X.env x = pure x := by intro _; rfl) :
    TS X (.For (.Name nm np) it body [] pos) δ (.nx (I xs.length)) := fun M W σ H Dn g E q => by
  refine wS_of (ps_for hp hc (pi_list pe_w) hg pss_w hf) (hit M W σ H _ g E fun v H1 s1 ⟨a, vs, ea, m, ha, ra⟩ => ⟨a, ea, ⟨vs, SqL.of ha⟩, ?_⟩)
  have A1 := s1.aft sh
  refine for_list (xs := vs) (fun k σ' H' => ∃ M' W', Aft M W M' W' δ σ H (I k) σ' H' ∧ ¬ M' a ∧ H' a = some (.lst vs) ∧ Reps M' H' xs vs) ⟨M, W, A1, m, ha, ra⟩ (fun k σ' H' _ ⟨M', W', A, m', ha', _⟩ => SqL.of ha') ?_ ?_
  · rintro k x σ' H' hk ⟨M', W', A, m', ha', ra'⟩
    obtain ⟨d, hd, rd⟩ := ra'.get' hk
    refine hs k d hd M' W' (σ'.set j (some x)) H' _ A.good (A.env.set rd) fun M2 W2 σ2 H2 A2 => ?_
    have A3 : Aft M' W' M' W' (I k) σ' H' ((I k).set j (some (.im d))) (σ'.set j (some x)) H' := aft_set (Stp.refl A.good A.env) Sh.refl (hno k) rd
    have A4 := A3.trans A.good A2
    have na : ¬ W' a := fun w => m' (A.good.wm a w)
    have nM2 : ¬ M2 a := fun z => (A2.gr.mn a z).elim m' (fun y => by rw [ha'] at y; cases y)
    exact ⟨M2, W2, A.trans g A4, nM2, A2.xt a _ na ha', Reps.ex (fun b o n h => A2.xt b o (fun w => n (A2.gr.mm b (A.good.wm b w))) h) xs (Reps.gr A2.gr.mn xs ra')⟩
  · rintro σ' H' ⟨M', W', A, _⟩
    rw [ra.len] at A
    exact q M' W' σ' H' A
end
end TL
set_option Elab.async false
set_option linter.all false
set_option maxRecDepth 100000
set_option autoImplicit false
set_option maxHeartbeats 4000000
/-! TL7: built-in calls, equality and repr of data, slices, wide division. -/
namespace TL
open PySem PySem.Spec PyProof.Rows L2

/-! ### data without instances -/
mutual
def D.py : D → PyData
  | .non => .none
  | .bl b => .bool b
  | .int i => .int i
  | .str x => .str x
  | .lst xs => .list (D.pys xs)
  | .tup xs => .tuple (D.pys xs)
  | .scr _ _ ns => .list (ns.map PyData.int)
  | .ins _ _ _ => .none
  | .vl _ => .none
  | .dct _ _ => .none
  | .tme => .none
def D.pys : List D → List PyData
  | [] => []
  | d :: ds => d.py :: D.pys ds
end
mutual
def D.isData : D → Bool
  | .non => true
  | .bl _ => true
  | .int _ => true
  | .str _ => true
  | .lst xs => D.areData xs
  | .tup xs => D.areData xs
  | .scr _ _ _ => false
  | .ins _ _ _ => false
  | .vl _ => false
  | .dct _ _ => false
  | .tme => false
def D.areData : List D → Bool
  | [] => true
  | d :: ds => d.isData && D.areData ds
end
section
variable {K : PySem.W.Frag} {M : Addr → Prop} {H : Hp}
mutual
theorem Rep.dp : ∀ (d : D) {v : V}, d.isData = true → Rep M H d v → Dp K H v d.py
  | .non, _, _, h => by rw [show _ = V.non from h]; exact .non
  | .bl b, _, _, h => by rw [show _ = V.bl b from h]; exact .bl b
  | .int i, _, _, h => by rw [show _ = V.int i from h]; exact .int i
  | .str x, _, _, h => by rw [show _ = V.str x from h]; exact .str x
  | .lst xs, _, q, ⟨p, vs, e, m, s, r⟩ => by rw [e]; exact .lst (SqL.of s) (Reps.dp xs q r)
  | .tup xs, _, q, ⟨p, vs, e, m, s, r⟩ => by rw [e]; exact .tup (.inl s) (Reps.dp xs q r)
  | .scr _ _ _, _, q, _ => by cases q
  | .ins _ _ _, _, q, _ => by cases q
  | .vl _, _, q, _ => by cases q
  | .dct _ _, _, q, _ => by cases q
  | .tme, _, q, _ => by cases q
theorem Reps.dp : ∀ (ds : List D) {vs : List V}, D.areData ds = true → Reps M H ds vs → DpAll K H vs (D.pys ds)
  | [], _, _, h => by rw [show _ = [] from h]; exact .nil
  | d :: ds, _, q, ⟨v, r, e, a, b⟩ => by
    rw [e]
    have q' : d.isData = true ∧ D.areData ds = true := by
      have : (d.isData && D.areData ds) = true := q
      simpa using this
    exact .cons (Rep.dp d q'.1 a) (Reps.dp ds q'.2 b)
end
end
section
variable {X : Cx} {a b c e : Expr} {es : List Expr} {δ δ1 δ2 : TL.Env} {x y z d : D} {ds xs ys : List D} {pos p : Pos} {r : R2} {k l : Bool} {nm : Str}
theorem ot_eqD (hx : x.isData = true) (hy : y.isData = true) (sx : SeqAt.shaped x.py = true) (sy : SeqAt.shaped y.py = true) : OpT (rEqD X.K) x y (.bl (PyData.eqv x.py y.py)) := fun M W H u v Q _ ru rv k =>
  ⟨x.py, y.py, Rep.dp x hx ru, Rep.dp y hy rv, sx, sy, k _ H (fun _ _ e => e) rfl⟩
theorem ot_neD (hx : x.isData = true) (hy : y.isData = true) (sx : SeqAt.shaped x.py = true) (sy : SeqAt.shaped y.py = true) : OpT (rNeD X.K) x y (.bl (!PyData.eqv x.py y.py)) := fun M W H u v Q _ ru rv k =>
  ⟨x.py, y.py, Rep.dp x hx ru, Rep.dp y hy rv, sx, sy, k _ H (fun _ _ e => e) rfl⟩
theorem tr_eqD (ha : TR X a δ x δ1) (hb : TR X b δ1 y δ2) (hu : X.A.units + 64 < cLine) (hx : x.isData = true) (hy : y.isData = true) (sx : SeqAt.shaped x.py = true) (sy : SeqAt.shaped y.py = true) : TR X (.Compare a [.Eq] [b] pos) δ (.bl (PyData.eqv x.py y.py)) δ2 := tr_cmp (op_eqD hu) ha hb (ot_eqD hx hy sx sy)
theorem tt_eqD (ha : TR X a δ x δ1) (hb : TR X b δ1 y δ2) (hu : X.A.units + 64 < cLine) (hx : x.isData = true) (hy : y.isData = true) (sx : SeqAt.shaped x.py = true) (sy : SeqAt.shaped y.py = true) : TT X (.Compare a [.Eq] [b] pos) δ (PyData.eqv x.py y.py) δ2 := tt_cmp (op_eqD hu) ha hb (ot_eqD hx hy sx sy)
theorem tt_neD (ha : TR X a δ x δ1) (hb : TR X b δ1 y δ2) (hu : X.A.units + 64 < cLine) (hx : x.isData = true) (hy : y.isData = true) (sx : SeqAt.shaped x.py = true) (sy : SeqAt.shaped y.py = true) : TT X (.Compare a [.NotEq] [b] pos) δ (!PyData.eqv x.py y.py) δ2 := tt_cmp (op_neD hu) ha hb (ot_neD hx hy sx sy)

/-! ### built-ins by name -/
theorem tr_callB {id : String} {rc : List V → Hp → VK → Prop} (hc : CallR X (.builtin id) rc) (hm : X.mg nm = none) (hv : bootBuiltins nm = some (.builtin id)) (ha : TA X (e :: es) δ ds δ1) (hr : CaT rc ds d) (hg : Gl X nm := by rfl) (hn : nm ≠ "__name__" := by decide)
    (hdb : (nm == ("__debug__" : Str)) = false := by decide) (he : starEach (e :: es) X.env = (false, eval e X.env) :: starEach es X.env := by rfl) (hpl : (backTo pos (starEach es X.env)).any (·.1) = false := by rfl) : TR X (.Call (.Name nm p) (e :: es) [] pos) δ d δ1 := fun M W σ H Q g E k =>
  wE_of (pe_callB hc hg hm hv pa_w hn hdb he hpl) (ha M W σ H _ g E fun vs H1 s1 r1 => hr M W H1 vs Q s1.good r1 fun w H2 e2 r2 => k w H2 (s1.ext e2) r2)
theorem tr_callTy {T : String} {rc : List V → Hp → VK → Prop} (hc : CallR X (.type T) rc) (hm : X.mg nm = none) (hv : bootBuiltins nm = some (.type T)) (ha : TA X (e :: es) δ ds δ1) (hr : CaT rc ds d) (hg : Gl X nm := by rfl) (hn : nm ≠ "__name__" := by decide)
    (hdb : (nm == ("__debug__" : Str)) = false := by decide) (he : starEach (e :: es) X.env = (false, eval e X.env) :: starEach es X.env := by rfl) (hpl : (backTo pos (starEach es X.env)).any (·.1) = false := by rfl) : TR X (.Call (.Name nm p) (e :: es) [] pos) δ d δ1 := fun M W σ H Q g E k =>
  wE_of (pe_callTy hc hg hm hv pa_w hn hdb he hpl) (ha M W σ H _ g E fun vs H1 s1 r1 => hr M W H1 vs Q s1.good r1 fun w H2 e2 r2 => k w H2 (s1.ext e2) r2)
theorem reps1 {M : Addr → Prop} {H : Hp} {vs : List V} (r : Reps M H [x] vs) : ∃ v, vs = [v] ∧ Rep M H x v := by
  obtain ⟨v, r', e, h, e2⟩ := r
  have e2 : r' = [] := e2
  subst e2
  exact ⟨v, e, h⟩
theorem reps2 {M : Addr → Prop} {H : Hp} {vs : List V} (r : Reps M H [x, y] vs) : ∃ v w, vs = [v, w] ∧ Rep M H x v ∧ Rep M H y w := by
  obtain ⟨v, r', e, h, r2⟩ := r
  obtain ⟨w, e2, h2⟩ := reps1 r2
  subst e2
  exact ⟨v, w, e, h, h2⟩
theorem ca_abs {i : Int} : CaT (fun xs H Q => ∃ i, xs = [.int i] ∧ Q (.int (if i < 0 then -i else i)) H) [.int i] (.int (if i < 0 then -i else i)) := fun M W H us Q g r k => by
    obtain ⟨v, e, h⟩ := reps1 r
    exact ⟨i, by rw [e, show v = V.int i from h], k _ H (fun _ _ e => e) rfl⟩
theorem ca_int {i : Int} : CaT (fun xs H Q => (∃ i, xs = [.int i] ∧ Q (.int i) H) ∨ ∃ k, xs = [.bl k] ∧ Q (.int (if k then 1 else 0)) H) [.int i] (.int i) := fun M W H us Q g r k => by
    obtain ⟨v, e, h⟩ := reps1 r
    exact .inl ⟨i, by rw [e, show v = V.int i from h], k _ H (fun _ _ e => e) rfl⟩
theorem ca_max2 {i j : Int} : CaT (fun xs H Q => ∃ i j, xs = [.int i, .int j] ∧ Q (.int (if j > i then j else i)) H) [.int i, .int j] (.int (if j > i then j else i)) := fun M W H us Q g r k => by
    obtain ⟨v, w, e, h, h2⟩ := reps2 r
    exact ⟨i, j, by rw [e, show v = V.int i from h, show w = V.int j from h2], k _ H (fun _ _ e => e) rfl⟩
theorem ca_min2 {i j : Int} : CaT (fun xs H Q => ∃ i j, xs = [.int i, .int j] ∧ Q (.int (if j < i then j else i)) H) [.int i, .int j] (.int (if j < i then j else i)) := fun M W H us Q g r k => by
    obtain ⟨v, w, e, h, h2⟩ := reps2 r
    exact ⟨i, j, by rw [e, show v = V.int i from h, show w = V.int j from h2], k _ H (fun _ _ e => e) rfl⟩
theorem ca_lenL : CaT (fun xs H Q => ∃ p ys, xs = [.ref p] ∧ (SqL X.K H p ys ∨ SqT X.K H p ys) ∧ Q (.int ys.length) H) [.lst xs] (.int (xs.length : Int)) := fun M W H us Q g r k => by
    obtain ⟨v, e, q, vs, ev, m, hq, rs⟩ := reps1 r
    exact ⟨q, vs, by rw [e, ev], .inl (SqL.of hq), k _ H (fun _ _ e => e) (by rw [rs.len]; exact rfl)⟩
theorem ca_lenT : CaT (fun xs H Q => ∃ p ys, xs = [.ref p] ∧ (SqL X.K H p ys ∨ SqT X.K H p ys) ∧ Q (.int ys.length) H) [.tup xs] (.int (xs.length : Int)) := fun M W H us Q g r k => by
    obtain ⟨v, e, q, vs, ev, m, hq, rs⟩ := reps1 r
    exact ⟨q, vs, by rw [e, ev], .inr (.inl hq), k _ H (fun _ _ e => e) (by rw [rs.len]; exact rfl)⟩
theorem ca_lenS {q : Addr} {ns : List Int} : CaT (fun xs H Q => ∃ p ys, xs = [.ref p] ∧ (SqL X.K H p ys ∨ SqT X.K H p ys) ∧ Q (.int ys.length) H) [.scr X.K q ns] (.int (ns.length : Int)) := fun M W H us Q g r k => by
    obtain ⟨v, e, h⟩ := reps1 r
    obtain ⟨ev, hs⟩ := scr_sql h
    exact ⟨q, ns.map V.int, by rw [e, ev], .inl hs, k _ H (fun _ _ e => e) (by rw [List.length_map]; exact rfl)⟩
theorem ca_strI {i : Int} (hi : i.natAbs.log2 < 1920) : CaT (fun xs H Q => ∃ i, xs = [.int i] ∧ i.natAbs.log2 < 1920 ∧ Q (.str (toString i)) H) [.int i] (.str (toString i)) := fun M W H us Q g r k => by
    obtain ⟨v, e, h⟩ := reps1 r
    exact ⟨i, by rw [e, show v = V.int i from h], hi, k _ H (fun _ _ e => e) rfl⟩
theorem reps_bl {M : Addr → Prop} {H : Hp} : ∀ (bs : List Bool) (vs : List V), Reps M H (bs.map D.bl) vs → vs = bs.map V.bl
  | [], _, h => h
  | b :: bs, _, ⟨v, r, e, h1, h2⟩ => by rw [e, reps_bl bs r h2, show v = V.bl b from h1]; rfl
theorem ca_all {bs : List Bool} : CaT (rAll X.K) [.lst (bs.map D.bl)] (.bl (bs.all id)) := fun M W H us Q g r k => by
    obtain ⟨v, e, q, vs, ev, m, hq, rs⟩ := reps1 r
    exact ⟨q, bs, by rw [e, ev], SqL.of (by rw [← reps_bl bs vs rs]; exact hq), k _ H (fun _ _ e => e) rfl⟩
theorem ca_any {bs : List Bool} : CaT (rAny X.K) [.lst (bs.map D.bl)] (.bl (bs.any id)) := fun M W H us Q g r k => by
    obtain ⟨v, e, q, vs, ev, m, hq, rs⟩ := reps1 r
    exact ⟨q, bs, by rw [e, ev], SqL.of (by rw [← reps_bl bs vs rs]; exact hq), k _ H (fun _ _ e => e) rfl⟩

/-! ### // by any divisor -/
def CDivX (_ j : Int) : Prop := j ≠ 0 ∧ j.natAbs.log2 < 9000
theorem op_fdivX : OpR X (binaryOp .FloorDiv) (rI CDivX fun i j => .int (i.fdiv j)) := opI fun i j _ _ _ _ _ hc q => floordiv_int hc.1 q (.inl (PyProof.noPylong_of_log2 hc.2))
theorem tr_fdiv {i j : Int} (ha : TR X a δ (.int i) δ1) (hb : TR X b δ1 (.int j) δ2) (hc : j ≠ 0 ∧ j.natAbs.log2 < 9000) : TR X (.BinOp a .FloorDiv b pos) δ (.int (i.fdiv j)) δ2 := tr_op op_fdivX ha hb (ot_I hc fun _ _ => rfl)
theorem tr_fdivP {i j : Int} (ha : TR X a δ (.int i) δ1) (hb : TR X b δ1 (.int j) δ2) (hc : CDivW i j) : TR X (.BinOp a .FloorDiv b pos) δ (.int (i / j)) δ2 := tr_op op_fdivW ha hb (ot_I hc fun _ _ => rfl)

/-! ### repr of data -/
def rRepr (K : PySem.W.Frag) : List V → Hp → VK → Prop := fun xs H Q => ∃ q d, xs = [.ref q] ∧ Dp K H (.ref q) d ∧ d.showable = true ∧ d.hasDict = false ∧ d.depth ≤ 60 ∧ d.shown.length ≤ sizeLine ∧ Q (.str d.shown) H
theorem call_reprD (gd : X.A.guards = some []) (hu : X.A.units + 64 < cLine) : CallR X (.builtin "repr") (rRepr X.K) := by
  intro pins s σ H xs us Q I rv h
  obtain ⟨q, d, rfl, hd, hs, hn, hdp, hsz, hq⟩ := h
  obtain ⟨u, rest, e, r1, r2⟩ : ∃ u rest, us = u :: rest ∧ RelV (.ref q) u ∧ Vals [] rest := by cases rv with | cons a b => exact ⟨_, _, rfl, a, b⟩
  cases r2
  subst e
  cases r1
  obtain ⟨as, hr⟩ := Dp.reads I d _ _ hd rfl
  exact repr_of_reads' hr hs (fun z => by rw [hn] at z; cases z) gd (by omega) (fun _ _ z => z) (fun h' t tk hk => ⟨.str d.shown, H, I.kept hk, ⟨_, rfl⟩, hq⟩) hsz
theorem ca_repr (hx : x.isData = true) (hl : (∃ xs, x = .lst xs) ∨ ∃ xs, x = .tup xs) (hs : x.py.showable = true) (hd : x.py.hasDict = false) (hdp : x.py.depth ≤ 60) (hsz : x.py.shown.length ≤ sizeLine) : CaT (rRepr X.K) [x] (.str x.py.shown) := fun M W H us Q g r k => by
    obtain ⟨v, e, h⟩ := reps1 r
    obtain ⟨q, ev⟩ : ∃ q, v = V.ref q := by
      rcases hl with ⟨xs, rfl⟩ | ⟨xs, rfl⟩
      · obtain ⟨q, _, ev, _⟩ := h; exact ⟨q, ev⟩
      · obtain ⟨q, _, ev, _⟩ := h; exact ⟨q, ev⟩
    subst ev
    exact ⟨q, x.py, e, Rep.dp x hx h, hs, hd, hdp, hsz, k _ H (fun _ _ e => e) rfl⟩

/-! ### slices, sums and multiples of lists -/
theorem cutV_int {ns : List Int} (lo hi : Option Int) : cutV (ns.map V.int) lo hi = ((ns.drop (HT.sIx ns.length 0 lo)).take (HT.sIx ns.length ns.length hi - HT.sIx ns.length 0 lo)).map V.int := by
  unfold cutV
  rw [List.length_map, List.map_take, List.map_drop]
/-- script[k:] -/
theorem tf_slLo {q : Addr} {ns : List Int} {i : Int} {p2 : Pos} (ha : TR X a δ (.scr X.K q ns) δ1) (hb : TR X b δ1 (.int i) δ2) : TF X (.Subscript a (.Slice (some b) none none p2) pos) δ ((ns.drop (HT.sIx ns.length 0 (some i))).map D.int) δ2 := fun M W σ H Q g E k =>
  wE_of (pe_slice sl_list pe_w (po_some pe_w) po_none) (ha M W σ H _ g E fun v H1 s1 r1 => hb M W σ H1 _ s1.good s1.env fun u H2 s2 r2 => ⟨i, r2, by
    obtain ⟨ev, hs⟩ := scr_sql (s2.rep r1)
    refine ⟨q, ns.map V.int, ev, hs, fun p' hp => ?_⟩
    have s := s1.trans s2
    rw [cutV_int]
    have e : (ns.drop (HT.sIx ns.length 0 (some i))).take (HT.sIx ns.length ns.length none - HT.sIx ns.length 0 (some i)) = ns.drop (HT.sIx ns.length 0 (some i)) := List.take_of_length_le (by rw [List.length_drop]; exact Nat.le_refl _)
    rw [e]
    exact k p' _ _ (s.fresh hp) (s.none g hp) upd_same (Reps.ofInts _)⟩)
/-- script[:k] -/
theorem tf_slHi {q : Addr} {ns : List Int} {i : Int} {p2 : Pos} (ha : TR X a δ (.scr X.K q ns) δ1) (hb : TR X b δ1 (.int i) δ2) : TF X (.Subscript a (.Slice none (some b) none p2) pos) δ ((ns.take (HT.sIx ns.length ns.length (some i))).map D.int) δ2 := fun M W σ H Q g E k =>
  wE_of (pe_slice sl_list pe_w po_none (po_some pe_w)) (ha M W σ H _ g E fun v H1 s1 r1 => hb M W σ H1 _ s1.good s1.env fun u H2 s2 r2 => ⟨i, r2, by
    obtain ⟨ev, hs⟩ := scr_sql (s2.rep r1)
    refine ⟨q, ns.map V.int, ev, hs, fun p' hp => ?_⟩
    have s := s1.trans s2
    rw [cutV_int]
    have e : (ns.drop (HT.sIx ns.length 0 none)).take (HT.sIx ns.length ns.length (some i) - HT.sIx ns.length 0 none) = ns.take (HT.sIx ns.length ns.length (some i)) := by
      rw [HT.sIx_none, List.drop_zero, Nat.sub_zero]
    rw [e]
    exact k p' _ _ (s.fresh hp) (s.none g hp) upd_same (Reps.ofInts _)⟩)
theorem tf_cat (ha : TR X a δ (.lst xs) δ1) (hb : TR X b δ1 (.lst ys) δ2) (hz : xs.length + ys.length ≤ 100000) : TF X (.BinOp a .Add b pos) δ (xs ++ ys) δ2 :=
  tf_op op_cat ha hb fun M W H u v Q g ⟨p1, vs1, e1, m1, h1, r1⟩ ⟨p2, vs2, e2, m2, h2, r2⟩ k => ⟨p1, p2, vs1, vs2, e1, e2, h1, h2, by rw [r1.len, r2.len]; exact Nat.le_trans hz (by decide), fun p hp => k p _ hp (Reps.app r1 r2)⟩
theorem tf_rep {n : Int} (ha : TR X a δ (.lst xs) δ1) (hb : TR X b δ1 (.int n) δ2) (h0 : 0 ≤ n) (hz : n ≤ 1000) (hx : xs.length ≤ 100) : TF X (.BinOp a .Mult b pos) δ (List.replicate n.toNat xs).flatten δ2 :=
  tf_op op_rep ha hb fun M W H u v Q g ⟨p1, vs1, e1, m1, h1, r1⟩ rv k => ⟨p1, n, vs1, e1, rv, h1, by omega, by omega, by
    rw [r1.len]
    have : xs.length * n.toNat ≤ 100 * 1000 := Nat.mul_le_mul hx (by omega)
    exact Nat.le_trans this (by decide), fun p hp => k p _ hp (by
      have hr : ∀ m : Nat, Reps M H (List.replicate m xs).flatten (List.replicate m vs1).flatten := fun m => by
        induction m with
        | zero => exact rfl
        | succ m ih => rw [List.replicate_succ, List.flatten_cons, List.replicate_succ, List.flatten_cons]; exact Reps.app r1 ih
      exact hr _)⟩
end
end TL
set_option Elab.async false
set_option linter.all false
set_option maxRecDepth 100000
set_option autoImplicit false
set_option maxHeartbeats 4000000
/-! TL8: instances: fields, properties, making, own operators, isinstance. -/
namespace TL
open PySem PySem.Spec PyProof.Rows L2

/-! ### != by an own == -/
section
variable {prog : Program} {w : World} {A : Around} {E : Value → Shared → Prop} {s : Shared} {K : PySem.W.Frag} {x C L f : Addr} {h0 : Heap} {m : Str → Option Value} {ox : Obj} {od : Option Obj} {b tb : Value}
theorem ifBound_ne {args : List Value} {Q : Option Value → Shared → Prop} {Md : Model} (X : K.In s.heap) (I : PySem.W.InstAt s.heap x ox C od) (hs : PySem.W.findIn K (.ref C) "__ne__" = some (some (.builtin "object.__ne__")))
    (h : wpAny Md A (call (.builtin "object.__ne__") (.ref x :: args)) (fun v => Q (some v)) E s) : wpAny Md A (callSpecialIfBound? (.ref x) "__ne__" args) Q E s := by
  simp only [callSpecialIfBound?, bindSpecialIfBound?]
  refine wpAny_holding (wpAny_bind (wpAny_bind (wpAny_bind (I.type.here ((PySem.W.looks_findIn X hs).here ?_)))))
  refine wpAny_bind (wpAny_askSetting (wpAny_ite ?_))
  have last : wpAny Md A (call (.builtin "object.__ne__") ([.ref x] ++ args) >>= fun v => pure (some v)) Q E s := wpAny_bind (wpAny_mono h (fun v s' h' => wpAny_pure h') fun _ _ h' => h')
  split
  · exact wpAny_bind (wpAny_of_eq (F.cmp_object.ne.bind _) (wpAny_pure (by exact last)))
  · exact wpAny_tryCatch (wpAny_bind (wpAny_of_eq (F.cmp_object.ne.bind _) (wpAny_pure (by exact last))))
theorem entry_ne_own {Q : Fin → Shared → Prop} (hu : A.units < cLine) (X : K.In s.heap) (I : PySem.W.InstAt s.heap x ox C od) (hs : PySem.W.findIn K (.ref C) "__eq__" = some (some (.ref f))) (hf : PySem.W.isFn K (.ref f) = true)
    (h : wpAny (model prog w) A (call (.ref f) [.ref x, b]) (fun v s' => ∃ k, v = .bool k ∧ Q (.done (.ret (.bool (!k)))) s') E s) : wpAny (model prog w) A (Builtin.«object.__ne__» ⟨[.ref x, b], []⟩) Q E s := by
  unfold Builtin.«object.__ne__»
  repeat (first
    | with_reducible refine wpAny_cRoomFor hu ?_
    | (refine wpAny_bind (m := callSpecialIfBound? (.ref x) (Str.ofString "__eq__") [b])
        (PySem.W.ifBound_K X I hs hf (wpAny_mono h (fun r s' hr => by
          obtain ⟨k, rfl, hq⟩ := hr
          repeat (first | exact hq | exact wpAny_pure hq | exact wpAny_truthy_bool hq | (refine wpAny_bind (m := truthy (.bool _)) (wpAny_truthy_bool ?_)) | wp_step)) fun _ _ e => e)))
    | wp_step)
theorem ne_own {Q : Value → Shared → Prop} (hu : A.units + 1 < cLine) (Fh : Fr h0 L s.heap m) (hX : K.In h0) (I : PySem.W.InstAt s.heap x ox C od) (hb : PySem.W.Looks (model prog w) s.heap (typeOf b) tb) (hn : PySem.W.notFirst K C tb = true)
    (hm : PySem.W.mroIn K C (.type "object") = some true) (hne : PySem.W.findIn K (.ref C) "__ne__" = some (some (.builtin "object.__ne__"))) (hs : PySem.W.findIn K (.ref C) "__eq__" = some (some (.ref f))) (hf : PySem.W.isFn K (.ref f) = true)
    (h : wpAny (model prog w) A.in1 (call (.ref f) [.ref x, b]) (fun v s' => ∃ k, v = .bool k ∧ Q (.bool (!k)) s') E s) : wpAny (model prog w) A (richCompare .NotEq (.ref x) b) Q E s := by
  have X := hX.keeps Fh.keep
  have one : wpAny (model prog w) A (tryCompare (.ref x) "__ne__" b) (fun r s' => ∃ v, r = some v ∧ Q v s') E s := by
    unfold tryCompare
    refine wpAny_bind (ifBound_ne X I hne ?_)
    refine wpAny_call (codeAny_call_builtin F.cmp_object.ne.plain F.cmpEntry_ne (PySem.W.check_slot F.cmpKind_ne F.cmpSplit_ne (I.type.andThen (PySem.W.looks_mroIn X hm)) (F.cmpArgs_ne _ _) (entry_ne_own (A := A.in1) hu X I hs hf (wpAny_mono h (fun v s' hv => ?_) fun _ _ e => e))))
    obtain ⟨k, rfl, hq⟩ := hv
    first | exact ⟨k, rfl, wpAny_pure ⟨_, rfl, hq⟩⟩ | exact ⟨k, rfl, wpAny_pure (wpAny_pure ⟨_, rfl, hq⟩)⟩
  simp only [richCompare, cmpInfo_NotEq, oneThing_ref]
  refine wpAny_holding (wpAny_bind (wpAny_cRoomFor (Nat.lt_of_succ_lt hu) ?_))
  refine wpAny_bind (I.type.here (wpAny_bind (hb.here ?_)))
  split
  · rename_i q
    have e : PySem.W.subIn K tb (.ref C) = some false := by
      rcases Bool.or_eq_true_iff.mp hn with e | e
      · rw [beq_iff_eq.mp e] at q; simp at q
      · exact beq_iff_eq.mp e
    refine wpAny_bind ((PySem.W.looks_subIn X e).here ?_)
    simp only [Bool.false_eq_true, if_false]
    refine wpAny_bind (wpAny_mono one (fun r s' z => ?_) fun _ _ e => e)
    obtain ⟨v, rfl, hq⟩ := z
    exact wpAny_pure hq
  · refine wpAny_bind (wpAny_pure ?_)
    simp only [Bool.false_eq_true, if_false]
    refine wpAny_bind (wpAny_mono one (fun r s' z => ?_) fun _ _ e => e)
    obtain ⟨v, rfl, hq⟩ := z
    exact wpAny_pure hq
end
end TL
set_option Elab.async false
set_option linter.all false
set_option maxRecDepth 100000
set_option autoImplicit false
set_option maxHeartbeats 4000000
/-! TL9: instances over trees: fields, properties, making, own operators, isinstance, methods. -/
namespace TL
open PySem PySem.Spec PyProof.Rows L2

/-! ### the callee runs -/
section
variable {X : Cx} {k : Nat} {f : Addr} {R : Spec} {pins : List (Addr × Obj)} {σ : L2.St} {H : Hp} {s : Shared} {Q : VK} {us ws : List Value} {vs zs : List V} {ks : List Str}
theorem runG (F : FnG X.prog X.w X.K X.mg X.base k f ks R) (hr : Room k X.A) (gd : X.A.guards = some []) (I : Inv X pins σ H s) (r : Vals vs us) (rz : Vals zs ws) (lz : zs.length = ks.length) (h : spT R (vs ++ zs) H Q E0) :
    wpAny (model X.prog X.w) X.A (call (.ref f) us (ks.zip ws)) (EP X pins σ Q) X.xe s := by
  refine wpAny_call (codeAny_mono (F.run X.A X.stack s H us ws vs zs Q hr gd I.env0 r rz lz h) fun rr s' hq => ?_)
  cases rr with
  | error e => exact False.elim hq
  | ok fl =>
    cases fl with
    | ret u => exact I.after hq
    | next => exact False.elim hq
    | brk => exact False.elim hq
    | cont => exact False.elim hq
/-- .. one level down -/
theorem runG1 (F : FnG X.prog X.w X.K X.mg X.base k f [] R) (hr : Room (k + 1) X.A) (gd : X.A.guards = some []) (I : Inv X pins σ H s) (r : Vals vs us) (h : spT R vs H Q E0) :
    wpAny (model X.prog X.w) X.A.in1 (call (.ref f) us) (EP X pins σ Q) X.xe s := by
  refine wpAny_call (codeAny_mono (F.run X.A.in1 X.stack s H us [] vs [] Q hr.in1 gd I.env0.in1 r .nil rfl (by rw [List.append_nil]; exact h)) fun rr s' hq => ?_)
  cases rr with
  | error e => exact False.elim hq
  | ok fl =>
    cases fl with
    | ret u => exact I.after hq
    | next => exact False.elim hq
    | brk => exact False.elim hq
    | cont => exact False.elim hq
end

/-! ### what is asked of a class -/
structure ClsO (K : PySem.W.Frag) (C : Addr) : Prop where
  cl : Cls K C
  ca : PySem.W.findIn K (.ref C) "__class__" = some (some (.builtin "object.__class__"))
  cn : PySem.W.specialIn K (.builtin "object.__class__") "__get__" = some (some (.builtin "getset_descriptor.__get__"))
  ct : PySem.W.takesIn K (.builtin "object.__class__") = some true
  cm : PySem.W.mroIn K C (.type "object") = some true
  sf : PySem.W.selfFirst K C = true
/-- the class of data, as isinstance asks it -/
inductive TyD (K : PySem.W.Frag) : D → Value → Prop where
  | non : TyD K .non (.type "NoneType")
  | bl (b : Bool) : TyD K (.bl b) (.type "bool")
  | int (i : Int) : TyD K (.int i) (.type "int")
  | str (x : Str) : TyD K (.str x) (.type "str")
  | lst (xs : List D) : TyD K (.lst xs) (.type "list")
  | tup (xs : List D) : TyD K (.tup xs) (.type "tuple")
  | ins {C : Addr} (h : ClsO K C) (ns : List Str) (ds : List D) : TyD K (.ins C ns ds) (.ref C)
  | dct (ks : List Str) (ds : List D) : TyD K (.dct ks ds) (.type "dict")
theorem TyD.x {K : PySem.W.Frag} {M : Addr → Prop} {H : Hp} {d : D} {t : Value} {v : V} (h : TyD K d t) (r : Rep M H d v) : TyX K H v t := by
  cases h with
  | non => rw [show v = V.non from r]; exact .base .non
  | bl b => rw [show v = V.bl b from r]; exact .base (.bl b)
  | int i => rw [show v = V.int i from r]; exact .base (.int i)
  | str x => rw [show v = V.str x from r]; exact .base (.str x)
  | lst xs => obtain ⟨p, vs, rfl, _, h, _⟩ := r; exact .base (.lst h)
  | tup xs =>
    obtain ⟨p, vs, rfl, _, h, _⟩ := r
    rcases h with h | ⟨o, h⟩
    · exact .base (.tup h)
    · exact .fTuple h
  | ins c ns ds => obtain ⟨p, dx, vs, rfl, _, h, _⟩ := r; exact .base (.ins h c.cl c.ca c.cn c.ct c.cm)
  | dct ks ds =>
    obtain ⟨p, vs, rfl, _, h, _⟩ := r
    rcases h with h | ⟨o, h⟩
    · exact .base (.dK h)
    · exact .fDict h
section
variable {X : Cx} {a b c e o : Expr} {es : List Expr} {δ δ1 δ2 : TL.Env} {x y z d : D} {ds xs ys : List D} {ns : List Str} {pos p apos : Pos} {k : Nat} {nm fl : Str} {C f : Addr} {R : Spec} {bo : Bool}
theorem ca_isi {cv : V} {t u : Value} (hx : TyD X.K x t) (hc : ClsV cv u) (hk : PySem.W.kitOne X.K t u = some bo) : CaT (rIsi X.K) [x, .vl cv] (.bl bo) := fun M W H us Q g r q => by
  obtain ⟨v, w, e, h, h2⟩ := reps2 r
  exact ⟨v, cv, t, u, bo, by rw [e, show w = cv from h2], hc, hx.x h, hk, q _ H (fun _ _ e => e) rfl⟩
/-- a name of the module, of the built-ins, as a value -/
theorem tr_glob {v : V} {u : Value} (hm : X.mg nm = some u) (r : RelV v u) (hg : Gl X nm := by rfl) (hdb : (nm == ("__debug__" : Str)) = false := by decide) : TR X (.Name nm pos) δ (.vl v) δ := tr_c (pe_glob hg hm r hdb) fun _ _ => rfl
theorem tr_gint {i : Int} {t : Tok} (hm : X.mg nm = some (.int i t)) (hg : Gl X nm := by rfl) (hdb : (nm == ("__debug__" : Str)) = false := by decide) : TR X (.Name nm pos) δ (.int i) δ := tr_c (pe_glob (v := .int i) hg hm ⟨t, rfl⟩ hdb) fun _ _ => rfl
theorem tr_gstr {i : Str} {t : Tok} (hm : X.mg nm = some (.str i t)) (hg : Gl X nm := by rfl) (hdb : (nm == ("__debug__" : Str)) = false := by decide) : TR X (.Name nm pos) δ (.str i) δ := tr_c (pe_glob (v := .str i) hg hm ⟨t, rfl⟩ hdb) fun _ _ => rfl
theorem tr_blt {v : V} {u : Value} (hm : X.mg nm = none) (hv : bootBuiltins nm = some u) (r : RelV v u) (hg : Gl X nm := by rfl) (hn : nm ≠ "__name__" := by decide) (hdb : (nm == ("__debug__" : Str)) = false := by decide) : TR X (.Name nm pos) δ (.vl v) δ :=
  tr_c (pe_bltn hg hm hv r hn hdb) fun _ _ => rfl

/-! ### fields -/
/-- a field's value: data, or the tuple of the instance at p -/
def RepF (M : Addr → Prop) (H : Hp) (p : Addr) (d : D) (v : V) : Prop := Rep M H d v ∨ (d = .tme ∧ ∃ t, v = .ref t ∧ ¬ M t ∧ Rd H t (.tup [.ref p]))
/-- a field, read: a tuple of the instance itself is unfolded -/
def unf (x : D) : D → D
  | .tme => .tup [x]
  | d => d
theorem unf_rep {M : Addr → Prop} {H : Hp} {p : Addr} {x d : D} {v : V} (h : RepF M H p d v) (hx : Rep M H x (.ref p)) : Rep M H (unf x d) v := by
  rcases h with h | ⟨rfl, t, rfl, m, s⟩
  · cases d <;> first | exact h | exact h.elim
  · exact ⟨t, [.ref p], rfl, m, s, .ref p, [], rfl, hx, rfl⟩
theorem look_zip {M : Addr → Prop} {H : Hp} {p : Addr} : ∀ {ns : List Str} {ds : List D} {vs : List V} {fl : Str} {d : D}, Repf M H p ds vs → (ns.zip ds).lookup fl = some d → ∃ v, (ns.zip vs).lookup fl = some v ∧ RepF M H p d v
  | [], _, _, _, _, _, h => by simp at h
  | _ :: _, [], _, _, _, _, h => by simp at h
  | n :: ns, d0 :: ds, _, fl, d, ⟨v, r, e, r1, r2⟩, h => by
    subst e
    rw [List.zip_cons_cons, List.lookup_cons] at h
    rw [List.zip_cons_cons, List.lookup_cons]
    by_cases q : (fl == n) = true
    · rw [q] at h ⊢
      cases h
      exact ⟨v, rfl, r1⟩
    · rw [Bool.not_eq_true] at q
      rw [q] at h ⊢
      exact look_zip r2 h
theorem look_zipN {M : Addr → Prop} {H : Hp} {p : Addr} : ∀ {ns : List Str} {ds : List D} {vs : List V} {fl : Str}, Repf M H p ds vs → (ns.zip ds).lookup fl = none → (ns.zip vs).lookup fl = none
  | [], _, _, _, _, _ => by simp
  | _ :: _, [], _, _, r, _ => by rw [show _ = [] from r]; simp
  | n :: ns, d0 :: ds, _, fl, ⟨v, r, e, r1, r2⟩, h => by
    subst e
    rw [List.zip_cons_cons, List.lookup_cons] at h
    rw [List.zip_cons_cons, List.lookup_cons]
    by_cases q : (fl == n) = true
    · rw [q] at h; cases h
    · rw [Bool.not_eq_true] at q
      rw [q] at h ⊢
      exact look_zipN r2 h
theorem tr_fld (c : Cls X.K C) (na : NoAttr X.K C fl) (he : TR X e δ (.ins C ns ds) δ1) (hl : (ns.zip ds).lookup fl = some d) (hb : attributeBase e fl X.env (eval e X.env) = eval e X.env := by rfl) : TR X (.Attribute e fl pos) δ (unf (.ins C ns ds) d) δ1 := fun M W σ H Q g E q =>
  wE_of (pe_fld pe_w hb) (he M W σ H _ g E fun v H1 s1 r0 => by
    obtain ⟨p, dx, vs, ev, m, hp, r⟩ := id r0
    obtain ⟨u, hu, ru⟩ := look_zip r hl
    exact ⟨p, C, dx, _, u, ev, hp, c, na, hu, q u H1 s1 (unf_rep ru (ev ▸ r0))⟩)
/-- self.f, self being made -/
theorem tr_fldO {n : Nat} (c : Cls X.K C) (na : NoAttr X.K C fl) (h : δ[n]? = some (some (.own (.ins C ns ds)))) (hl : (ns.zip ds).lookup fl = some d) (hme : d ≠ .tme) (hN : X.N[n]? = some nm := by rfl)
    (hv : Vis X.env.scope nm := by first | exact Or.inl rfl | exact Or.inr (Or.inl rfl) | exact Or.inr (Or.inr rfl)) (hdb : (nm == ("__debug__" : Str)) = false := by decide) (hcd : (nm == ("__classdict__" : Str)) = false := by decide)
    (hb : attributeBase (.Name nm p) fl X.env (eval (.Name nm p) X.env) = eval (.Name nm p) X.env := by rfl) : TR X (.Attribute (.Name nm p) fl pos) δ d δ := fun M W σ H Q g E q => by
  obtain ⟨a, ho, hs, hw, ha, dx, vs, rfl, hle, r⟩ := E.getO h
  obtain ⟨u, hu, ru⟩ := look_zip r hl
  exact wE_of (pe_fld (pe_var hN hv hdb hcd) hb) ⟨_, hs, a, C, dx, _, u, rfl, ha, c, na, hu, q u H (Stp.refl g E) (ru.elim id fun z => absurd z.1 hme)⟩
/-- a field more, or another value of one -/
def putN (fl : Str) (ns : List Str) : List Str := if fl ∈ ns then ns else ns ++ [fl]
def putD (fl : Str) (d : D) : List Str → List D → List D
  | [], _ => [d]
  | n :: ns, x :: ds => if n = fl then d :: ds else x :: putD fl d ns ds
  | _ :: _, [] => [d]
theorem putF_zip {M : Addr → Prop} {H : Hp} {p : Addr} {fl : Str} {d : D} {v : V} (rd : RepF M H p d v) : ∀ {ns : List Str} {ds : List D} {vs : List V}, ns.length = ds.length → Repf M H p ds vs → ∃ vs', putF fl v (ns.zip vs) = (putN fl ns).zip vs' ∧ Repf M H p (putD fl d ns ds) vs'
  | [], [], _, _, r => by
    have r : _ = [] := r
    subst r
    exact ⟨[v], by simp [putF, putN], v, [], rfl, rd, rfl⟩
  | [], _ :: _, _, hl, _ => by simp at hl
  | _ :: _, [], _, hl, _ => by simp at hl
  | n :: ns, x :: ds, _, hl, ⟨u, r, e, r1, r2⟩ => by
    subst e
    by_cases h : n = fl
    · subst h
      refine ⟨v :: r, ?_, ?_⟩
      · simp [putF, putN]
      · show Repf M H p (if n = n then d :: ds else _) (v :: r)
        rw [if_pos rfl]
        exact ⟨v, r, rfl, rd, r2⟩
    · obtain ⟨vs', e1, e2⟩ := putF_zip rd (ns := ns) (ds := ds) (by simpa using hl) r2
      refine ⟨u :: vs', ?_, ?_⟩
      · have h' : ¬ fl = n := fun z => h z.symm
        show (if n = fl then _ else (n, u) :: putF fl v (ns.zip r)) = _
        rw [if_neg h, e1]
        unfold putN
        by_cases hm : fl ∈ ns
        · rw [if_pos hm, if_pos (List.mem_cons_of_mem _ hm)]; rfl
        · rw [if_neg hm, if_neg (by simp [h', hm])]; rfl
      · show Repf M H p (if n = fl then _ else x :: putD fl d ns ds) (u :: vs')
        rw [if_neg h]
        exact ⟨u, vs', rfl, r1, e2⟩
theorem putN_len {fl : Str} {d : D} : ∀ {ns : List Str} {ds : List D}, ns.length = ds.length → (putN fl ns).length = (putD fl d ns ds).length
  | [], [], _ => by simp [putN, putD]
  | [], _ :: _, h => by simp at h
  | _ :: _, [], h => by simp at h
  | n :: ns, x :: ds, h => by
    have ih := putN_len (fl := fl) (d := d) (ns := ns) (ds := ds) (by simpa using h)
    by_cases hn : n = fl
    · subst hn; simp [putN, putD] at h ⊢; exact h
    · have h' : ¬ fl = n := fun z => hn z.symm
      unfold putN at ih ⊢
      show _ = (if n = fl then d :: ds else x :: putD fl d ns ds).length
      rw [if_neg hn]
      by_cases hm : fl ∈ ns
      · rw [if_pos hm] at ih; rw [if_pos (List.mem_cons_of_mem _ hm)]; simp [ih]
      · rw [if_neg hm] at ih; rw [if_neg (by simp [h', hm])]; simp at ih ⊢; omega
/-- self.f = e, self being made -/
theorem ts_fldO {n : Nat} {spos : Pos} (c : Cls X.K C) (na : NoAttr X.K C fl) (h : TR X e δ d δ1) (sh : Sh δ δ1) (ho : δ1[n]? = some (some (.own (.ins C ns ds)))) (hl : ns.length < 100) (hN : X.N[n]? = some nm := by rfl)
    (hv : Vis X.env.scope nm := by first | exact Or.inl rfl | exact Or.inr (Or.inl rfl) | exact Or.inr (Or.inr rfl)) (hdb : (nm == ("__debug__" : Str)) = false := by decide) (hcd : (nm == ("__classdict__" : Str)) = false := by decide)
    (hs : swapsWith e (some (.Attribute (.Name nm p) fl pos)) spos.line X.env = pure false := by rfl) : TS X (.Assign [.Attribute (.Name nm p) fl pos] e spos) δ (.nx (δ1.set n (some (.own (.ins C (putN fl ns) (putD fl d ns ds)))))) := fun M W σ H Dn g E q =>
  wS_of (ps_fld (pe_var hN hv hdb hcd) pe_w hs) (h M W σ H _ g E fun v H1 s1 r1 => by
    obtain ⟨a, ob, hp, hW, hh, dx, vs, rfl, hle, r⟩ := s1.env.getO ho
    refine ⟨_, hp, a, C, dx, _, rfl, hh, c, na, ?_, q M W σ _ ?_⟩
    · rw [List.length_zip]; omega
    obtain ⟨vs', e1, e2⟩ := putF_zip (fl := fl) (.inl r1) hle r
    rw [e1]
    refine ⟨Gr.refl, s1.xt.trans (Xt.put hW), s1.good.put, s1.env.put s1.good.wm ho hp hW ⟨dx, vs', rfl, putN_len hle, e2⟩, fun l zs z => ?_⟩
    obtain ⟨ys, z1⟩ := sh l zs z
    by_cases hl : n = l
    · subst hl
      exact ⟨_, by rw [List.getElem?_set_self (List.getElem?_eq_some_iff.mp ho).1], rfl⟩
    · exact ⟨ys, by rw [List.getElem?_set_ne hl]; exact z1, rfl⟩)

/-! ### properties that hand out a field -/
structure PropF (P : Program) (w : World) (K : PySem.W.Frag) (mg : Str → Option Value) (base : Heap) (C : Addr) (fl fi : Str) : Prop where
  ex : ∃ (p g : Addr) (fd : FuncData), PropOf K C fl p g ∧ FnOk P w K mg base CX0 1 g fd ["self"] (getSp C fi) ∧ Binds K fd ["self"] []

/-! ### C(e, ..) -/
structure MkG (P : Program) (w : World) (K : PySem.W.Frag) (mg : Str → Option Value) (base : Heap) (x : Str) (C : Addr) (k : Nat) (ks : List Str) (R : Spec) : Prop where
  ex : ∃ f : Addr, Mk K C f ∧ FnG P w K mg base k f ks R ∧ mg x = some (.ref C)
theorem made_ok {pins : List (Addr × Obj)} {σ : L2.St} {H : Hp} {s : Shared} {Q : VK} {us ws : List Value} {vs zs : List V} {ks : List Str} (Mx : Mk X.K C f) (F : FnG X.prog X.w X.K X.mg X.base k f ks R) (hr : Room (k + 1) X.A) (gd : X.A.guards = some []) (I : Inv X pins σ H s) (rv : Vals vs us) (rz : Vals zs ws) (lz : zs.length = ks.length)
    (h : ∀ x dx, H x = none → H dx = none → dx ≠ x → spT R (V.ref x :: (vs ++ zs)) (upd (upd H dx (.own x)) x (.ins C dx [])) (fun v H2 => v = .non ∧ Q (.ref x) H2) E0) :
    wpAny (model X.prog X.w) X.A (call (.ref C) us (ks.zip ws)) (EP X pins σ Q) X.xe s := by
  have hq := h (s.heap.objs.size + 1) s.heap.objs.size (I.hok.fresh (Nat.le_succ _)) (I.hok.fresh (Nat.le_refl _)) (Nat.ne_of_lt (Nat.lt_succ_self _))
  have I2 := Inv.made (C := C) I
  have gd2 : (X.A.under (.builtin "type.__call__" ⟨.ref C :: us, ks.zip ws⟩)).guards = some [] := by
    first | exact gd | (simpa [Around.under, Code.guards, Code.isGuard, pushGuards, guardIds] using gd)
  refine wpAny_call (make_map (f := f) I.kIn Mx.makes Mx.init (beq_iff_eq.mp Mx.fn) (codeAny_mono (F.run _ X.stack _ _ (Value.ref (s.heap.objs.size + 1) :: us) ws (V.ref (s.heap.objs.size + 1) :: vs) zs _ (hr.make C us (ks.zip ws)) gd2 (I2.env0.make C us (ks.zip ws)) (.cons rfl rv) rz lz hq) fun r s' hq' => ?_))
  cases r with
  | error e => exact False.elim hq'
  | ok fl =>
    cases fl with
    | ret u =>
      obtain ⟨v, H', I3, rv', ev, q3⟩ := I2.after hq'
      subst ev
      exact ⟨rv', ⟨V.ref (s.heap.objs.size + 1), H', I3, rfl, q3⟩⟩
    | next => exact False.elim hq'
    | brk => exact False.elim hq'
    | cont => exact False.elim hq'
/-- what a new instance is, over trees -/
theorem make_tree {M W : Addr → Prop} {σ : L2.St} {H H1 : Hp} {Q : VK} {vs : List V} (g : Good M W H) (s1 : Stp M W σ δ1 H H1) (r1 : Reps M H1 ds vs) (hR : R (.own (.ins C [] []) :: ds.map S.im) (.im .non) (.own (.ins C ns ys) :: ds.map S.im)) (q : ∀ v H', Stp M W σ δ1 H H' → Rep M H' (.ins C ns ys) v → Q v H')
    {x dx : Addr} (hx : H1 x = none) (hd : H1 dx = none) (hne : dx ≠ x) : spT R (V.ref x :: vs) (upd (upd H1 dx (.own x)) x (.ins C dx [])) (fun v H2 => v = .non ∧ Q (.ref x) H2) E0 := by
  have hx1 : (upd H1 dx (.own x)) x = none := by rw [upd_ne (fun z => hne z.symm)]; exact hx
  have ex1 : ∀ a o, H1 a = some o → (upd (upd H1 dx (.own x)) x (.ins C dx [])) a = some o := fun a o h => ext_new hx1 a o (ext_new hd a o h)
  have nM : ¬ M x := s1.good.notM hx
  have nW : ¬ W x := fun w => nM (g.wm x w)
  have gr : ∀ a, Mp M x a → M a ∨ H1 a = none := mp_gr hx
  refine ⟨Mp M x, fun a => a = x, _, _, _, hR, ⟨fun a z => .inr z, fun a m z => ?_⟩, envR_own (xs := .ins C [] []) upd_same ⟨dx, [], rfl, rfl, rfl⟩ (Reps.ex (Xt.of ex1) ds (Reps.gr gr ds r1)), fun v H2 xt g2 E2 rr => ⟨rr, ?_⟩⟩
  · rcases m with m | m
    · have := (s1.good.ext ex1).mt a m
      exact this z
    · rw [m, upd_same] at z; cases z
  obtain ⟨u, hu, p2, h2, rfl, _, hp2, dx2, vs2, rfl, hle2, r2⟩ := E2.at_ 0 (.own (.ins C ns ys)) rfl
  have : p2 = x := by simpa using hu.symm
  subst this
  have fx : ∀ a o, H1 a = some o → H2 a = some o := fun a o h => xt a o (fun z => by rw [z, hx] at h; cases h) (ex1 a o h)
  exact q _ H2 (s1.ext fx) ⟨p2, dx2, vs2, rfl, nM, hp2, Repf.anti (fun _ m => .inl m) p2 ys r2⟩
theorem tr_make (G : MkG X.prog X.w X.K X.mg X.base nm C k [] R) (hr : Room (k + 1) X.A) (gd : X.A.guards = some []) (ha : TA X (e :: es) δ ds δ1) (hR : R (.own (.ins C [] []) :: ds.map S.im) (.im .non) (.own (.ins C ns ys) :: ds.map S.im)) (hg : Gl X nm := by rfl)
    (hdb : (nm == ("__debug__" : Str)) = false := by decide) (he : starEach (e :: es) X.env = (false, eval e X.env) :: starEach es X.env := by rfl) (hpl : (backTo pos (starEach es X.env)).any (·.1) = false := by rfl) :
    TR X (.Call (.Name nm p) (e :: es) [] pos) δ (.ins C ns ys) δ1 := fun M W σ H Q g E q => by
  obtain ⟨f, Mx, F, hm⟩ := G.ex
  refine wE_of (t := fun σ H Q => wA X (e :: es) σ H fun vs H1 => ∀ x dx, H1 x = none → H1 dx = none → dx ≠ x → spT R (V.ref x :: vs) (upd (upd H1 dx (.own x)) x (.ins C dx [])) (fun v H2 => v = .non ∧ Q (.ref x) H2) E0) ⟨fun pins s σ H Q I h => ?_⟩
    (ha M W σ H _ g E fun vs H1 s1 r1 x dx hx hd hne => make_tree g s1 r1 hR q hx hd hne)
  refine wpAny_Call_Name_kw (ld_glob I hg hm ?_ hdb)
  refine PySem.W.callWith_K (h₀ := X.base) I.ok.mod.kin Mx.kp (thn (h.run pos pins s I) fun us s1 ⟨vs, H1, I1, rv, q⟩ => ⟨I1.kIn, ?_⟩) he hpl
  exact made_ok (ws := []) (zs := []) Mx F hr gd I1 rv .nil rfl (by simpa using q)

/-! ### own operators -/
structure OwnF (P : Program) (w : World) (K : PySem.W.Frag) (mg : Str → Option Value) (base : Heap) (C : Addr) (nm : Str) (k : Nat) (R : Spec) : Prop where
  ex : ∃ f : Addr, PySem.W.findIn K (.ref C) nm = some (some (.ref f)) ∧ PySem.W.isFn K (.ref f) = true ∧ FnG P w K mg base k f [] R
/-- the answer of a call over trees -/
theorem sp_args {M W : Addr → Prop} {H : Hp} {us : List V} {Q : VK} (g : Good M W H) (r : Reps M H ds us) (hR : R (ds.map S.im) (.im d) (ds.map S.im)) (k : ∀ w H', (∀ a o, H a = some o → H' a = some o) → Rep M H' d w → Q w H') : spT R us H Q E0 :=
  ⟨M, fun _ => False, _, _, _, hR, good0 g, envR_args r, fun v H2 xt g2 _ rr => k v H2 (fun a o h => xt a o (fun z => z) h) rr⟩
def rOwn2 (C : Addr) (ty : V → Hp → Prop) (R : Spec) : R2 := fun x y H Q => ∃ a dx fs, x = .ref a ∧ H a = some (.ins C dx fs) ∧ ty y H ∧ spT R [x, y] H Q E0
/-- a op b, both of the class C -/
theorem op_ownC {op : Operator} (c : ClsO X.K C) (G : OwnF X.prog X.w X.K X.mg X.base C (PySem.dunder op.info.2) k R) (hr : Room k X.A) (gd : X.A.guards = some []) :
    OpR X (binaryOp op) (rOwn2 C (fun y H => ∃ b dy fs, y = .ref b ∧ H b = some (.ins C dy fs)) R) := by
  intro pins s σ H x y v u Q I rx ry h
  obtain ⟨a, dx, fs, rfl, ha, ⟨b, dy, fs', rfl, hb⟩, hsp⟩ := h
  cases rx
  cases ry
  obtain ⟨f, hs, hf, F⟩ := G.ex
  obtain ⟨mA, J, _⟩ := ins_get I.hok ha
  obtain ⟨mB, J', _⟩ := ins_get I.hok hb
  obtain ⟨od, J, _⟩ := J.look
  obtain ⟨od', J', _⟩ := J'.look
  obtain ⟨m, hF⟩ := I.fr
  refine PySem.W.binop_K hF I.ok.mod.kin J J'.type c.sf hs hf (wpAny_mono (runG (ks := []) (ws := []) (zs := []) (vs := [V.ref a, V.ref b]) F hr gd I (.cons rfl (.cons rfl .nil)) .nil rfl hsp) (fun r s' hq => ?_) fun _ _ z => z)
  exact SlX.cmpback (z := hq.choose) hq.choose_spec.choose_spec.2.1 hq
/-- a op b, b an int -/
theorem op_ownI {op : Operator} {fo ro rc : Option Value} (c : ClsO X.K C) (G : OwnF X.prog X.w X.K X.mg X.base C (PySem.dunder op.info.2) k R) (hr : Room k X.A) (gd : X.A.guards = some [])
    (hrr : PySem.W.findIn X.K (.ref C) (dunderR op.info.2) = some none) (h1 : PySem.W.findIn X.K (.type "int") (PySem.dunder op.info.2) = some fo) (h2 : PySem.W.findIn X.K (.type "int") (dunderR op.info.2) = some ro) (hsub : PySem.W.subIn X.K (.type "int") (.ref C) = some false) :
    OpR X (binaryOp op) (rOwn2 C (fun y _ => ∃ i, y = .int i) R) := by
  intro pins s σ H x y v u Q I rx ry h
  obtain ⟨a, dx, fs, rfl, ha, ⟨i, rfl⟩, hsp⟩ := h
  cases rx
  obtain ⟨t, rfl⟩ := ry
  obtain ⟨f, hs, hf, F⟩ := G.ex
  obtain ⟨mA, J, _⟩ := ins_get I.hok ha
  obtain ⟨od, J, _⟩ := J.look
  obtain ⟨m, hF⟩ := I.fr
  refine PySem.W.ksp_binT hF I.ok.mod.kin J rfl c.sf hs hf hrr (.inl rfl) h1 h2 hsub (wpAny_mono (runG (ks := []) (ws := []) (zs := []) (vs := [V.ref a, V.int i]) F hr gd I (.cons rfl (.cons ⟨t, rfl⟩ .nil)) .nil rfl hsp) (fun r s' hq => ?_) fun _ _ z => z)
  exact SlX.cmpback (z := hq.choose) hq.choose_spec.choose_spec.2.1 hq
theorem ot_ownC {ns' : List Str} (hR : R [.im (.ins C ns xs), .im (.ins C ns' ys)] (.im d) [.im (.ins C ns xs), .im (.ins C ns' ys)]) : OpT (rOwn2 C (fun y H => ∃ b dy fs, y = .ref b ∧ H b = some (.ins C dy fs)) R) (.ins C ns xs) (.ins C ns' ys) d := fun M W H u v Q g ru rv k => by
  obtain ⟨a, dx, vs, ea, ma, ha, ra⟩ := id ru
  obtain ⟨b, dy, vs', eb, mb, hb, rb⟩ := id rv
  exact ⟨a, dx, _, ea, ha, ⟨b, dy, _, eb, hb⟩, sp_args (ds := [_, _]) g ⟨u, [v], rfl, ru, v, [], rfl, rv, rfl⟩ hR k⟩
theorem ot_ownI {i : Int} (hR : R [.im (.ins C ns xs), .im (.int i)] (.im d) [.im (.ins C ns xs), .im (.int i)]) : OpT (rOwn2 C (fun y _ => ∃ i, y = .int i) R) (.ins C ns xs) (.int i) d := fun M W H u v Q g ru rv k => by
  obtain ⟨a, dx, vs, ea, ma, ha, ra⟩ := id ru
  exact ⟨a, dx, _, ea, ha, ⟨i, rv⟩, sp_args (ds := [_, _]) g ⟨u, [v], rfl, ru, v, [], rfl, rv, rfl⟩ hR k⟩
/-- -a -/
theorem un_own (G : OwnF X.prog X.w X.K X.mg X.base C "__neg__" k R) (hr : Room k X.A) (gd : X.A.guards = some []) : UnR X (unaryOp .USub) (fun x H Q => ∃ a dx fs, x = .ref a ∧ H a = some (.ins C dx fs) ∧ spT R [x] H Q E0) := by
  intro pins s σ H x v Q I rx h
  obtain ⟨a, dx, fs, rfl, ha, hsp⟩ := h
  cases rx
  obtain ⟨f, hs, hf, F⟩ := G.ex
  obtain ⟨mA, J, _⟩ := ins_get I.hok ha
  obtain ⟨od, J, _⟩ := J.look
  obtain ⟨m, hF⟩ := I.fr
  exact PySem.W.ksp_neg hF I.ok.mod.kin J hs hf (runG (ks := []) (ws := []) (zs := []) (vs := [V.ref a]) F hr gd I (.cons rfl .nil) .nil rfl hsp)
theorem ut_own (hR : R [.im (.ins C ns xs)] (.im d) [.im (.ins C ns xs)]) : UnT (fun x H Q => ∃ a dx fs, x = .ref a ∧ H a = some (.ins C dx fs) ∧ spT R [x] H Q E0) (.ins C ns xs) d := fun M W H u Q g ru k => by
  obtain ⟨a, dx, vs, ea, ma, ha, ra⟩ := id ru
  exact ⟨a, dx, _, ea, ha, sp_args (ds := [_]) g ⟨u, [], rfl, ru, rfl⟩ hR k⟩

/-! == and != by an own __eq__; the right one has any class that does not come first -/
/-- what stands right of ==: its class is told -/
inductive TyR (K : PySem.W.Frag) (H : Hp) : V → Value → Prop where
  | mk {y : V} {t : Value} (h : TyX K H y t) : TyR K H y t
theorem looks_ty {pins : List (Addr × Obj)} {σ : L2.St} {H : Hp} {s : Shared} {y : V} {u t : Value} (I : Inv X pins σ H s) (ry : RelV y u) (h : TyX X.K H y t) : PySem.W.Looks (model X.prog X.w) s.heap (typeOf u) t := by
  obtain ⟨P, kx, hp, _⟩ := kit_of I ry h
  exact kx.ty _ _ I.kIn hp
def rOwnE (K : PySem.W.Frag) (C : Addr) (neg : Bool) (R : Spec) : R2 := fun x y H Q => ∃ a dx fs t, x = .ref a ∧ H a = some (.ins C dx fs) ∧ TyX K H y t ∧ PySem.W.notFirst K C t = true ∧ spT R [x, y] H (fun v H' => ∃ k, v = .bl k ∧ Q (.bl (if neg then !k else k)) H') E0
theorem op_ownEq (G : OwnF X.prog X.w X.K X.mg X.base C "__eq__" k R) (hr : Room k X.A) (gd : X.A.guards = some []) : OpR X (compareOp .Eq) (rOwnE X.K C false R) := by
  intro pins s σ H x y v u Q I rx ry h
  obtain ⟨a, dx, fs, t, rfl, ha, hy, hn, hsp⟩ := h
  cases rx
  obtain ⟨f, hs, hf, F⟩ := G.ex
  obtain ⟨mA, J, _⟩ := ins_get I.hok ha
  obtain ⟨od, J, _⟩ := J.look
  obtain ⟨m, hF⟩ := I.fr
  refine PySem.W.cmp_K (op := .Eq) hr.units0 hF I.ok.mod.kin J (looks_ty I ry hy) hn hs hf (wpAny_mono (runG (ks := []) (ws := []) (zs := []) (vs := [V.ref a, y]) F hr gd I (.cons rfl (.cons ry .nil)) .nil rfl hsp) (fun r s' hq => ?_) fun _ _ z => z)
  obtain ⟨z, H', I', rz, kk, ez, hq⟩ := hq
  subst ez
  cases rz
  exact ⟨.bl kk, H', I', rfl, hq⟩
theorem op_ownNe (c : ClsO X.K C) (hne : PySem.W.findIn X.K (.ref C) "__ne__" = some (some (.builtin "object.__ne__"))) (G : OwnF X.prog X.w X.K X.mg X.base C "__eq__" k R) (hr : Room (k + 1) X.A) (gd : X.A.guards = some []) : OpR X (compareOp .NotEq) (rOwnE X.K C true R) := by
  intro pins s σ H x y v u Q I rx ry h
  obtain ⟨a, dx, fs, t, rfl, ha, hy, hn, hsp⟩ := h
  cases rx
  obtain ⟨f, hs, hf, F⟩ := G.ex
  obtain ⟨mA, J, _⟩ := ins_get I.hok ha
  obtain ⟨od, J, _⟩ := J.look
  obtain ⟨m, hF⟩ := I.fr
  refine ne_own (by have := hr.units; omega) hF I.ok.mod.kin J (looks_ty I ry hy) hn c.cm hne hs hf (wpAny_mono (runG1 (vs := [V.ref a, y]) F hr gd I (.cons rfl (.cons ry .nil)) hsp) (fun r s' hq => ?_) fun _ _ z => z)
  obtain ⟨z, H', I', rz, kk, ez, hq⟩ := hq
  subst ez
  cases rz
  exact ⟨kk, rfl, .bl (!kk), H', I', rfl, hq⟩
theorem ot_ownE {neg kk : Bool} {t : Value} (hy : TyD X.K y t) (hn : PySem.W.notFirst X.K C t = true) (hR : R [.im (.ins C ns xs), .im y] (.im (.bl kk)) [.im (.ins C ns xs), .im y]) : OpT (rOwnE X.K C neg R) (.ins C ns xs) y (.bl (if neg then !kk else kk)) := fun M W H u v Q g ru rv k => by
  obtain ⟨a, dx, vs, ea, ma, ha, ra⟩ := id ru
  refine ⟨a, dx, _, t, ea, ha, hy.x rv, hn, sp_args (ds := [_, _]) (d := .bl kk) g ⟨u, [v], rfl, ru, v, [], rfl, rv, rfl⟩ hR fun w H' ex rw' => ⟨kk, rw', k _ H' ex rfl⟩⟩
end
end TL
set_option Elab.async false
set_option linter.all false
set_option maxRecDepth 100000
set_option autoImplicit false
set_option maxHeartbeats 4000000
/-! TL10: defaults, keywords, methods. -/
namespace TL
open PySem PyProof.Rows L2

section
variable {M W : Addr → Prop} {H : Hp}
theorem env_app {vs us : List V} {ss : List S} {dd : List D} (E : EnvR M W H (vs.map some) (ss.map some)) (r : Reps M H dd us) : EnvR M W H ((vs ++ us).map some) ((ss ++ dd.map S.im).map some) := by
  have hvl : vs.length = ss.length := by have := E.len; simpa using this
  have low : ∀ (i : Nat) (s : S), (ss ++ dd.map S.im)[i]? = some s → i < ss.length → ss[i]? = some s := fun i s h hi => by rw [List.getElem?_append_left hi] at h; exact h
  have high : ∀ (i : Nat) (s : S), (ss ++ dd.map S.im)[i]? = some s → ¬ i < ss.length → ∃ d, dd[i - ss.length]? = some d ∧ s = .im d := fun i s h hi => by
    rw [List.getElem?_append_right (by omega), List.getElem?_map] at h
    cases hd : dd[i - ss.length]? with
    | none => rw [hd] at h; cases h
    | some d => rw [hd] at h; cases h; exact ⟨d, rfl, rfl⟩
  have own : ∀ (i : Nat) (o : OC), ((ss ++ dd.map S.im).map some)[i]? = some (some (.own o)) → i < ss.length ∧ (ss.map some)[i]? = some (some (.own o)) := fun i o h => by
    rw [get_map_some] at h
    by_cases hi : i < ss.length
    · exact ⟨hi, get_map_some.mpr (low i _ h hi)⟩
    · obtain ⟨d, _, e⟩ := high i _ h hi
      cases e
  refine ⟨by simp [hvl, r.len], fun i s h => ?_, fun i j p xs ys h1 h2 h3 h4 => ?_⟩
  · rw [get_map_some] at h
    by_cases hi : i < ss.length
    · obtain ⟨v, a, b⟩ := E.at_ i s (get_map_some.mpr (low i s h hi))
      rw [get_map_some] at a
      exact ⟨v, get_map_some.mpr (by rw [List.getElem?_append_left (by omega)]; exact a), b⟩
    · obtain ⟨d, hd, rfl⟩ := high i s h hi
      obtain ⟨v, a, b⟩ := r.get hd
      exact ⟨v, get_map_some.mpr (by rw [List.getElem?_append_right (by omega), hvl]; exact a), b⟩
  · obtain ⟨l1, q1⟩ := own i xs h1
    obtain ⟨l2, q2⟩ := own j ys h2
    rw [get_map_some, List.getElem?_append_left (by omega)] at h3 h4
    exact E.ap i j p xs ys q1 q2 (get_map_some.mpr h3) (get_map_some.mpr h4)
theorem env_unapp {vs us : List V} {ss : List S} {dd : List D} (hl : vs.length = ss.length) (E : EnvR M W H ((vs ++ us).map some) ((ss ++ dd.map S.im).map some)) : EnvR M W H (vs.map some) (ss.map some) := by
  have up : ∀ (i : Nat) (s : S), (ss.map some)[i]? = some (some s) → i < ss.length ∧ ((ss ++ dd.map S.im).map some)[i]? = some (some s) := fun i s h => by
    rw [get_map_some] at h
    have hi := (List.getElem?_eq_some_iff.mp h).1
    exact ⟨hi, get_map_some.mpr (by rw [List.getElem?_append_left hi]; exact h)⟩
  refine ⟨by simp [hl], fun i s h => ?_, fun i j p xs ys h1 h2 h3 h4 => ?_⟩
  · obtain ⟨hi, h'⟩ := up i s h
    obtain ⟨v, a, b⟩ := E.at_ i s h'
    rw [get_map_some, List.getElem?_append_left (by omega)] at a
    exact ⟨v, get_map_some.mpr a, b⟩
  · obtain ⟨l1, q1⟩ := up i _ h1
    obtain ⟨l2, q2⟩ := up j _ h2
    rw [get_map_some] at h3 h4
    exact E.ap i j p xs ys q1 q2 (get_map_some.mpr (by rw [List.getElem?_append_left (by omega)]; exact h3)) (get_map_some.mpr (by rw [List.getElem?_append_left (by omega)]; exact h4))
end
section
variable {P : Program} {w : World} {K : PySem.W.Frag} {mg : Str → Option Value} {base : Heap} {k : Nat} {f : Addr} {fd : FuncData} {ps : List Str} {R : Spec}
/-- the promise where the last parameters have their defaults -/
def RDef (n : Nat) (dd : List D) (R : Spec) : Spec := fun ss r ss' => ss.length = n ∧ ss'.length = n ∧ R (ss ++ dd.map S.im) r (ss' ++ dd.map S.im)
theorem FnK.posD {n : Nat} {dd : List D} {dvs : List V} {ds : List Value} (F : FnK P w K mg base k f fd ps R) (b : Binds K fd ps ds) (hd : Vals dvs ds) (hdd : ∀ M H, Reps M H dd dvs) (hn : n + dd.length = ps.length) : FnG P w K mg base k f [] (RDef n dd R) := by
  refine ⟨fun A outer s H us ws vs zs Q hr hg e0 rv rz lz h => ?_⟩
  have : zs = [] := List.length_eq_zero_iff.mp lz
  subst this
  rw [List.append_nil] at h
  obtain ⟨M, W, ss, ss', r, ⟨l1, l2, hR⟩, g, Ev, q⟩ := h
  have hk : K.In s.heap := e0.mod.kin.keeps fun b o e => (e0.bs b o e).1
  have hvl : vs.length = n := by have := Ev.len; simp at this; omega
  have hdl : dvs.length = dd.length := (hdd M H).len
  have hb := b s us hk (by rw [List.length_append, ← rv.length, ← hd.length]; omega)
  refine F.run A outer s H ⟨us, []⟩ (us ++ ds) (vs ++ dvs) Q hr hg e0 hb (rv.append hd) (by rw [List.length_append]; omega) ⟨M, W, _, _, r, hR, g, env_app Ev (hdd M H), fun v H' xt g' E' rr => q v H' xt g' (env_unapp (by omega) E') rr⟩
/-- keywords in the parameters' order -/
theorem FnK.kwO {n : Nat} {ks : List Str} (F : FnK P w K mg base k f fd ps R) (hl : ∀ ss r ss', R ss r ss' → ss.length = ps.length) (hn : n + ks.length = ps.length)
    (hb : ∀ (s : Shared) (us ws : List Value), K.In s.heap → us.length = n → ws.length = ks.length → BindsTo s fd ⟨us, ks.zip ws⟩ (ps.zip (us ++ ws))) : FnG P w K mg base k f ks R := by
  refine ⟨fun A outer s H us ws vs zs Q hr hg e0 rv rz lz h => ?_⟩
  have hk : K.In s.heap := e0.mod.kin.keeps fun b o e => (e0.bs b o e).1
  have hvl : (vs ++ zs).length = ps.length := by
    obtain ⟨M, W, ss, ss', r, hR, g, Ev, q⟩ := id h
    have h1 := hl _ _ _ hR
    have h2 := Ev.len
    simp at h2 ⊢
    omega
  rw [List.length_append] at hvl
  exact F.run A outer s H ⟨us, ks.zip ws⟩ (us ++ ws) (vs ++ zs) Q hr hg e0 (hb s us ws hk (by rw [← rv.length]; omega) (by rw [← rz.length]; exact lz)) (rv.append rz) (by rw [List.length_append]; exact hvl) h
end

/-! ### keywords, methods -/
structure WK (X : Cx) (kws : List Keyword) (σ : L2.St) (H : Hp) (Q : List V → Hp → Prop) : Prop where
  run : ∀ (pos : Pos) (pins : List (Addr × Obj)) (s : Shared), Inv X pins σ H s → wpAny (model X.prog X.w) X.A (evalAll ((backToKw pos (keywordEach kws X.env)).map (·.2))) (AP X pins σ Q) X.xe s
abbrev wK (X : Cx) (kws : List Keyword) : L2.TA := fun σ H Q => WK X kws σ H Q
def TK (X : Cx) (kws : List Keyword) (δ : TL.Env) (ds : List D) (δ' : TL.Env) : Prop := ∀ (M W : Addr → Prop) (σ : L2.St) (H : Hp) (Q : List V → Hp → Prop), Good M W H → EnvR M W H σ δ →
  (∀ vs H', Stp M W σ δ' H H' → Reps M H' ds vs → Q vs H') → wK X kws σ H Q
section
variable {X : Cx} {a b c e o : Expr} {es : List Expr} {kws : List Keyword} {δ δ1 δ2 : TL.Env} {x y z d : D} {ds ds2 xs ys : List D} {ns : List Str} {pos p apos kpos : Pos} {k : Nat} {nm m : Str} {C f : Addr} {R : Spec} {kn : Option Str}
theorem pk_w : PK X kws (wK X kws) := ⟨fun pos pins s _ _ _ I h => h.run pos pins s I⟩
theorem wK_of {t : L2.TA} (h : PK X kws t) {σ : L2.St} {H : Hp} {Q : List V → Hp → Prop} (q : t σ H Q) : wK X kws σ H Q := ⟨fun pos pins s I => h.run pos pins s σ H Q I q⟩
theorem tk_nil : TK X [] δ [] δ := fun M W σ H Q g E k => wK_of pk_nil (k [] H (Stp.refl g E) rfl)
theorem tk_cons (ha : TR X e δ x δ1) (hr : TK X kws δ1 ds δ2) : TK X (⟨kn, e, kpos⟩ :: kws) δ (x :: ds) δ2 := fun M W σ H Q g E k =>
  wK_of (pk_cons pe_w pk_w) (ha M W σ H _ g E fun u H1 s1 r1 => hr M W σ H1 _ s1.good s1.env fun vs H2 s2 r2 => k (u :: vs) H2 (s1.trans s2) ⟨u, vs, rfl, s2.rep r1, r2⟩)
/-- C(k = v, ..) -/
theorem tr_makeK {ks : List Str} (G : MkG X.prog X.w X.K X.mg X.base nm C k ks R) (hr : Room (k + 1) X.A) (gd : X.A.guards = some []) (ha : TK X kws δ ds δ1) (hR : R (.own (.ins C [] []) :: ds.map S.im) (.im .non) (.own (.ins C ns ys) :: ds.map S.im)) (hlk : ds.length = ks.length) (hg : Gl X nm := by rfl)
    (hall : (backToKw pos (keywordEach kws X.env)).all (·.1.isSome) = true := by rfl) (hks : (backToKw pos (keywordEach kws X.env)).filterMap (·.1) = ks := by rfl)
    (hdb : (nm == ("__debug__" : Str)) = false := by decide) (hpl : ((backTo pos (starEach [] X.env)).any (·.1) || (backToKw pos (keywordEach kws X.env)).any (·.1.isNone)) = false := by rfl) :
    TR X (.Call (.Name nm p) [] kws pos) δ (.ins C ns ys) δ1 := fun M W σ H Q g E q => by
  obtain ⟨f, Mx, F, hm⟩ := G.ex
  refine wE_of (t := fun σ H Q => wK X kws σ H fun vs H1 => vs.length = ks.length ∧ ∀ x dx, H1 x = none → H1 dx = none → dx ≠ x → spT R (V.ref x :: vs) (upd (upd H1 dx (.own x)) x (.ins C dx [])) (fun v H2 => v = .non ∧ Q (.ref x) H2) E0) ⟨fun pins s σ H Q I h => ?_⟩
    (ha M W σ H _ g E fun vs H1 s1 r1 => ⟨by rw [r1.len]; exact hlk, fun x dx hx hd hne => make_tree g s1 r1 hR q hx hd hne⟩)
  refine wpAny_Call_Name_kw (ld_glob I hg hm ?_ hdb)
  refine PySem.W.callWith_KW0 (h₀ := X.base) (first := []) I.ok.mod.kin Mx.kp hall (thn (h.run pos pins s I) fun us s1 ⟨vs, H1, I1, rv, lz, q⟩ => ⟨I1.kIn, ?_⟩) hpl
  rw [hks]
  exact made_ok (us := []) (vs := []) Mx F hr gd I1 .nil rv lz (by simpa using q)
/-! o.m(e, ..), o.m(k = v, ..) -/
structure MethF (P : Program) (w : World) (K : PySem.W.Frag) (mg : Str → Option Value) (base : Heap) (C : Addr) (m : Str) (k : Nat) (ks : List Str) (R : Spec) : Prop where
  ex : ∃ f : Addr, Meth K C m f ∧ FnG P w K mg base k f ks R
theorem tr_meth {pl : Sem Bool} (c : Cls X.K C) (G : MethF X.prog X.w X.K X.mg X.base C m k [] R) (hr : Room k X.A) (gd : X.A.guards = some []) (ho : TR X o δ (.ins C ns xs) δ1) (hno : (ns.zip xs).lookup m = none) (ha : TA X (e :: es) δ1 ds δ2)
    (hR : R (.im (.ins C ns xs) :: ds.map S.im) (.im d) (.im (.ins C ns xs) :: ds.map S.im))
    (hst : starEach (e :: es) X.env = (false, eval e X.env) :: starEach es X.env := by rfl) (hpl : (backTo pos (starEach es X.env)).any (·.1) = false := by rfl)
    (ht : eval (.Call (.Attribute o m apos) (e :: es) [] pos) X.env = (do
      let ov ← eval o X.env
      standAt apos.atName
      let (f, first) ← holding [ov] (getMethod ov m pl)
      callWith pos f first (backTo pos (starEach (e :: es) X.env)) (backToKw pos (keywordEach [] X.env))) := by rfl) :
    TR X (.Call (.Attribute o m apos) (e :: es) [] pos) δ d δ2 := fun M W σ H Q g E q => by
  obtain ⟨f, hm, F⟩ := G.ex
  refine wE_of (t := fun σ H Q => wE X o σ H fun v H1 => ∃ a dx fs, v = .ref a ∧ H1 a = some (.ins C dx fs) ∧ fs.lookup m = none ∧ wA X (e :: es) σ H1 fun vs H2 => spT R (V.ref a :: vs) H2 Q E0) ⟨fun pins s σ H Q I h => ?_⟩
    (ho M W σ H _ g E fun v H1 s1 r1 => by
      obtain ⟨a, dx, vs, ev, ma, hp, r⟩ := id r1
      refine ⟨a, dx, _, ev, hp, look_zipN r hno, ha M W σ H1 _ s1.good s1.env fun us H2 s2 r2 => ?_⟩
      exact sp_args (ds := _ :: ds) s2.good ⟨_, us, rfl, by rw [← ev]; exact s2.rep r1, r2⟩ hR fun w' H3 ex rw' => q w' H3 ((s1.trans s2).ext ex) rw')
  refine PySem.W.methodCall_KW (pl := pl) (thn (h.run pins s I) fun u s1 ⟨x, H1, I1, rx, a, dx, fs, ex, ea, l, q⟩ => ?_) ht
  subst ex
  obtain rfl : u = Value.ref a := rx
  refine getmeth_ok I1 ea c hm l ?_
  refine PySem.W.callWith_K (first := [.ref a]) (h₀ := X.base) I.ok.mod.kin hm.kp (thn (q.run pos pins s1 I1) fun us s2 ⟨vs, H2, I2, r, q2⟩ => ⟨I2.kIn, ?_⟩) hst hpl
  exact runG (ks := []) (ws := []) (zs := []) (us := .ref a :: us) (vs := .ref a :: vs) F hr gd I2 (.cons rfl r) .nil rfl (by simpa using q2)
theorem tr_methK {pl : Sem Bool} {ks : List Str} (c : Cls X.K C) (G : MethF X.prog X.w X.K X.mg X.base C m k ks R) (hr : Room k X.A) (gd : X.A.guards = some []) (ho : TR X o δ (.ins C ns xs) δ1) (hno : (ns.zip xs).lookup m = none) (ha : TK X kws δ1 ds δ2) (hlk : ds.length = ks.length)
    (hR : R (.im (.ins C ns xs) :: ds.map S.im) (.im d) (.im (.ins C ns xs) :: ds.map S.im))
    (hall : (backToKw pos (keywordEach kws X.env)).all (·.1.isSome) = true := by rfl) (hks : (backToKw pos (keywordEach kws X.env)).filterMap (·.1) = ks := by rfl)
    (hpl : ((backTo pos (starEach [] X.env)).any (·.1) || (backToKw pos (keywordEach kws X.env)).any (·.1.isNone)) = false := by rfl)
    (ht : eval (.Call (.Attribute o m apos) [] kws pos) X.env = (do
      let ov ← eval o X.env
      standAt apos.atName
      let (f, first) ← holding [ov] (getMethod ov m pl)
      callWith pos f first (backTo pos (starEach [] X.env)) (backToKw pos (keywordEach kws X.env))) := by rfl) :
    TR X (.Call (.Attribute o m apos) [] kws pos) δ d δ2 := fun M W σ H Q g E q => by
  obtain ⟨f, hm, F⟩ := G.ex
  refine wE_of (t := fun σ H Q => wE X o σ H fun v H1 => ∃ a dx fs, v = .ref a ∧ H1 a = some (.ins C dx fs) ∧ fs.lookup m = none ∧ wK X kws σ H1 fun vs H2 => vs.length = ks.length ∧ spT R (V.ref a :: vs) H2 Q E0) ⟨fun pins s σ H Q I h => ?_⟩
    (ho M W σ H _ g E fun v H1 s1 r1 => by
      obtain ⟨a, dx, vs, ev, ma, hp, r⟩ := id r1
      refine ⟨a, dx, _, ev, hp, look_zipN r hno, ha M W σ H1 _ s1.good s1.env fun us H2 s2 r2 => ⟨by rw [r2.len]; exact hlk, ?_⟩⟩
      exact sp_args (ds := _ :: ds) s2.good ⟨_, us, rfl, by rw [← ev]; exact s2.rep r1, r2⟩ hR fun w' H3 ex rw' => q w' H3 ((s1.trans s2).ext ex) rw')
  refine PySem.W.methodCall_KW (pl := pl) (thn (h.run pins s I) fun u s1 ⟨x, H1, I1, rx, a, dx, fs, ex, ea, l, q⟩ => ?_) ht
  subst ex
  obtain rfl : u = Value.ref a := rx
  refine getmeth_ok I1 ea c hm l ?_
  refine PySem.W.callWith_KW0 (first := [.ref a]) (h₀ := X.base) I.ok.mod.kin hm.kp hall (thn (q.run pos pins s1 I1) fun us s2 ⟨vs, H2, I2, r, lz, q2⟩ => ⟨I2.kIn, ?_⟩) hpl
  rw [hks]
  exact runG (us := [.ref a]) (vs := [.ref a]) F hr gd I2 (.cons rfl .nil) r lz q2
end
end TL
set_option Elab.async false
set_option linter.all false
set_option maxRecDepth 100000
set_option autoImplicit false
set_option maxHeartbeats 1000000
/-! TL11: displays of constants. -/
namespace TL
open PySem L2
/-- a constant's data -/
def cD : Expr → D
  | .Constant (.int i) _ _ => .int i
  | .Constant (.str x) _ _ => .str x
  | .Constant (.bool b) _ _ => .bl b
  | _ => .non
def isC : Expr → Bool
  | .Constant (.int _) _ _ => true
  | .Constant (.str _) _ _ => true
  | .Constant (.bool _) _ _ => true
  | .Constant .none _ _ => true
  | _ => false
theorem ta_consts {X : Cx} {δ : TL.Env} : ∀ {es : List Expr}, es.all isC = true → TA X es δ (es.map cD) δ
  | [], _ => ta_nil
  | e :: es, h => by
    rw [List.all_cons, Bool.and_eq_true] at h
    obtain ⟨h1, h2⟩ := h
    have ih := ta_consts (X := X) (δ := δ) h2
    cases e with
    | Constant c j p =>
      cases c with
      | int i => exact ta_cons tr_int ih rfl
      | str x => exact ta_cons tr_str ih rfl
      | bool b => exact ta_cons tr_bl ih rfl
      | none => exact ta_cons tr_non ih rfl
      | _ => cases h1
    | _ => cases h1
end TL
set_option Elab.async false
set_option linter.all false
set_option maxRecDepth 100000
set_option autoImplicit false
set_option maxHeartbeats 1000000
/-! TL12: three names at once. -/
namespace TL
open PySem L2
section
variable {X : Cx} {a b c e : Expr} {δ δ1 δ2 δ3 : TL.Env} {pos p : Pos}
/-- a, b, c = e1, e2, e3 -/
theorem ts_par3 {i j l : Nat} {x y z : Str} {px py pz pt : Pos} {kt k2 : Nat} {pt2 : Pos} {d1 d2 d3 : D} (h : TA X [a, b, c] δ [d1, d2, d3] δ1) (sh : Sh δ δ1) (hno : ∀ xs, δ1[i]? ≠ some (some (.own xs))) (hno2 : ∀ xs, δ1[j]? ≠ some (some (.own xs))) (hno3 : ∀ xs, δ1[l]? ≠ some (some (.own xs))) (hN : X.N.Nodup)
    (hij : i ≠ j := by decide) (hil : i ≠ l := by decide) (hjl : j ≠ l := by decide) (hc : X.calm = true := by rfl) (hi : X.N[i]? = some x := by rfl) (hj : X.N[j]? = some y := by rfl) (hl : X.N[l]? = some z := by rfl) (hx : X.env.scope.names.lookup x = some .local := by rfl) (hy : X.env.scope.names.lookup y = some .local := by rfl) (hz : X.env.scope.names.lookup z = some .local := by rfl)
    (hw : swappedStores [.Tuple [.Name x px, .Name y py, .Name z pz] kt pt] (.Tuple [a, b, c] k2 pt2) X.env = pure (some [x, y, z]) := by rfl)
    (hs : swapsWithSole [.Tuple [.Name x px, .Name y py, .Name z pz] kt pt] (.Tuple [a, b, c] k2 pt2) pos.line X.env = pure false := by rfl) :
    TS X (.Assign [.Tuple [.Name x px, .Name y py, .Name z pz] kt pt] (.Tuple [a, b, c] k2 pt2) pos) δ (.nx (((δ1.set i (some (.im d1))).set j (some (.im d2))).set l (some (.im d3)))) := fun M W σ H Dn g E q =>
  wS_of (ps_par3 hc hN hi hj hl hij hil hjl hx hy hz pa_w hw hs) (h M W σ H _ g E fun vs H1 s1 r1 => by
    obtain ⟨v, r, rfl, r1, w, r', rfl, r2, u, r'', rfl, r3, e⟩ := r1
    have e : r'' = [] := e
    subst e
    refine ⟨v, w, u, rfl, q M W _ H1 ?_⟩
    have A := aft_set (i := i) s1 sh hno r1
    refine ⟨Gr.refl, s1.xt, s1.good, (A.env.set r2).set r3, fun m xs z => ?_⟩
    obtain ⟨ys, z1, z2⟩ := A.kp m xs z
    obtain ⟨ys', z3⟩ := sh m xs z
    have hm : j ≠ m := fun e => by subst e; exact hno2 ys' z3
    have hm3 : l ≠ m := fun e => by subst e; exact hno3 ys' z3
    exact ⟨ys, by rw [List.getElem?_set_ne hm3, List.getElem?_set_ne hm]; exact z1, by rw [List.getElem?_set_ne hm3, List.getElem?_set_ne hm]; exact z2⟩)
end
end TL
set_option Elab.async false
set_option linter.all false
set_option maxRecDepth 100000
set_option autoImplicit false
set_option maxHeartbeats 1000000
/-! TL13: name = [elt for nm in it] on one line (the machine stores by another road). -/
namespace TL
open PySem L2
section
variable {X : Cx} {elt it : Expr} {scope : Scope} {δ δ1 : TL.Env} {xs ys : List D} {i j : Nat} {nm y : Str} {pos np py spos : Pos}
theorem ts_setLc (δs : Nat → TL.Env) (ys : List D) (hit : TR X it δ (.lst xs) (δs 0)) (hn : ∀ k, (δs k)[i]? = some none) (hl : ys.length = xs.length) (hb : xs.length ≤ 100000)
    (he : ∀ (k : Nat) (x y : D), xs[k]? = some x → ys[k]? = some y → TRb X scope elt ((δs k).set i (some (.im x))) y ((δs (k + 1)).set i (some (.im x))))
    (hN : X.N.Nodup) (ok : BlkOk X.N X.env.scope scope [(nm, i)])
    (hg : ∀ (s : Shared) (H : Hp) (C : Addr) (cl : List (Str × Addr)) (fp : List Addr), PG (X.blk s H scope (compEnvC scope cl C X.env) fp) (.Name nm np) (gName i))
    (sh : Sh δ (δs xs.length)) (hno : ∀ zs, (δs xs.length)[j]? ≠ some (some (.own zs))) (hc : X.calm = true := by rfl)
    (hs : ∀ x, foldedSetIterable it X.env x = pure x := by intro _; rfl) (hy : X.N[j]? = some y := by rfl) (hyl : X.env.scope.names.lookup y = some .local := by rfl) (hk : X.env.scope.kind = .function := by rfl) (hl2 : (py.line == pos.line) = true := by rfl)
    (ha : (scope.names.any fun (n, k) => n == y && (k == .local || k == .cell)) = false := by decide +kernel) :
    TS X (.Assign [.Name y py] (.ListComp elt [⟨.Name nm np, it, [], 0⟩] scope pos) spos) δ (.nx ((δs xs.length).set j (some (.im (.lst ys))))) := fun M W σ H Dn g E q => by
  refine wS_of (ps_setLc (own := [(nm, i)]) (g := gName i) (tt := tYes) hc hN hy hyl (sw_true hk hyl hl2 ha) (pi_list pe_w) ok hg (fun _ _ _ _ _ => pts_nil) pe_wb hs) (hit M W σ H _ g E fun v H1 s1 ⟨a, vs, ea, m, ha, ra⟩ => ⟨a, ea, ⟨vs, SqL.of ha⟩, fun Dl hD => ?_⟩)
  have e0 : [(nm, i)].map (·.2) = [i] := rfl
  rw [e0]
  have nad : a ≠ Dl := ne_of_none ha hD
  refine lc_list (xs := vs) (Lcw M W σ H1 Dl δs ys) (lcw_start s1.good s1.env hD) (fun k' H' _ p => ?_) (fun k' x H' hk p => ⟨?_, ?_⟩) (fun H' p => ?_)
  · exact SqL.of (p.st.xt a _ (fun w => m (g.wm a w)) ha)
  · show (((σ.set i none).set i (some x)).set i none) = σ.set i none
    rw [List.set_set, List.set_set]
  · show wEb X scope elt ((wipe σ [i]).set i (some x)) H' _
    obtain ⟨d, hd, rd⟩ := ra.get' hk
    have hk' : k' < xs.length := (List.getElem?_eq_some_iff.mp hd).1
    have hy : ys[k']? = some ys[k'] := List.getElem?_eq_getElem (by omega)
    exact lcw_turn s1.good hD p hn hy (by omega) (Rep.ex (Xt.mono (fun _ w => .inl (g.wm _ w)) p.st.xt) d (Rep.gr (mp_gr hD) d rd)) (he k' d _ hd hy)
  · rw [ra.len] at p
    exact lcw_end (Q := fun x H1 => Dn.nx (σ.set j (some x)) H1) g s1 hD p hl fun p' us H2 s2 n hp r2 => q M W _ H2 (aft_set (d := .lst ys) (s2.anti g.wm) sh hno ⟨p', us, rfl, fun m => g.mt p' m n, hp, Reps.anti (fun _ m => .inl m) ys r2⟩)
/-- name = [h x for x in ..] over a list g x -/
theorem ts_setLcm {α : Type} (qs : List α) (g h : α → D) (hit : TR X it δ (.lst (qs.map g)) δ1) (hn : δ1[i]? = some none) (hb : qs.length ≤ 100000)
    (he : ∀ q, q ∈ qs → TRb X scope elt (δ1.set i (some (.im (g q)))) (h q) (δ1.set i (some (.im (g q)))))
    (hN : X.N.Nodup) (ok : BlkOk X.N X.env.scope scope [(nm, i)])
    (hg : ∀ (s : Shared) (H : Hp) (C : Addr) (cl : List (Str × Addr)) (fp : List Addr), PG (X.blk s H scope (compEnvC scope cl C X.env) fp) (.Name nm np) (gName i))
    (sh : Sh δ δ1) (hno : ∀ zs, δ1[j]? ≠ some (some (.own zs))) (hc : X.calm = true := by rfl)
    (hs : ∀ x, foldedSetIterable it X.env x = pure x := by intro _; rfl) (hy : X.N[j]? = some y := by rfl) (hyl : X.env.scope.names.lookup y = some .local := by rfl) (hk : X.env.scope.kind = .function := by rfl) (hl2 : (py.line == pos.line) = true := by rfl)
    (ha : (scope.names.any fun (n, k) => n == y && (k == .local || k == .cell)) = false := by decide +kernel) :
    TS X (.Assign [.Name y py] (.ListComp elt [⟨.Name nm np, it, [], 0⟩] scope pos) spos) δ (.nx (δ1.set j (some (.im (.lst (qs.map h)))))) :=
  ts_setLc (i := i) (fun _ => δ1) (qs.map h) hit (fun _ => hn) (by simp) (by simpa using hb) (fun k x y hx hy => by
    rw [List.getElem?_map] at hx hy
    cases hz : qs[k]? with
    | none => rw [hz] at hx; cases hx
    | some z =>
      rw [hz] at hx hy
      cases hx
      cases hy
      exact he z (List.mem_of_getElem? hz)) hN ok hg sh hno hc hs hy hyl hk hl2 ha
end
end TL
set_option Elab.async false
set_option linter.all false
set_option maxRecDepth 100000
set_option autoImplicit false
set_option maxHeartbeats 1000000
/-! TL14: the law's end, for a def that keeps its promise over trees. -/
namespace TL
open PySem PySem.Spec PyProof.Rows L2
/-- the promise from the script alone -/
theorem spT_script {R : Spec} {K : PySem.W.Frag} {H : Hp} {a : Addr} {ns : List Int} (h : SqL K H a (ns.map V.int)) (hR : R [.im (.scr K a ns)] (.im (.bl true)) [.im (.scr K a ns)]) : spT R [.ref a] H (fun v _ => v = .bl true) E0 :=
  ⟨fun _ => False, fun _ => False, _, _, _, hR, ⟨fun _ z => z, fun _ z => z.elim⟩, envR_args (ds := [.scr K a ns]) ⟨.ref a, [], rfl, ⟨rfl, h.elim (fun z => .inl ⟨fun q => q, z⟩) .inr⟩, rfl⟩, fun v H' _ _ _ r => r⟩
/-- with a heap of which nothing but the script is told -/
theorem true_of {P : Program} {w : World} {K : PySem.W.Frag} {mg mb : Str → Option Value} {k : Nat} {fa a : Addr} {fd : FuncData} {x : Str} {R : Spec} {s : Shared} {vs : List Value} {ns : List Int} {H : Hp}
    (KX : K.In s.heap) (hns : s.heap.Ns mainGlobals mg) (hb : s.heap.Ns builtinsNs mb) (hbb : ∀ x : Str, x ≠ "__name__" → mb x = bootBuiltins x) (hlim : s.heap.NoLimit) (hg : s.gens = #[])
    (ha : s.heap.get? a = some { cls := .type "list", data := .seq vs.toArray }) (hr : Room k callerA)
    (F : ∀ base : Heap, K.In base → base.Ns mainGlobals mg → FnK P w K mg base k fa fd [x] R) (hbind : ∀ (s : Shared) (u : Value), BindsTo s fd ⟨[u], []⟩ [(x, u)])
    (hR : R [.im (.scr K a ns)] (.im (.bl true)) [.im (.scr K a ns)])
    (hO : Only H) (hS : SqL K H a (ns.map V.int)) (hok : HOk P w H s.heap) (hA : ∀ b, H b ≠ none → b = a) (hK : H a ≠ none → K.lookup a = none) :
    codeAny (model P w) callerA (.call (.ref fa) ⟨[.ref a], []⟩) (fun r s' => r = .ok (.ret (.bool true)) ∧ OldK s.heap s'.heap ∧ s'.os = s.os ∧ AllBare s'.gens) s := by
  have free : ∀ {b : Addr} {o : Obj}, s.heap.get? b = some o → (∀ l n, o.data ≠ .seq l n) → H b = none := fun {b o} e nd => by
    cases q : H b with
    | none => rfl
    | some u =>
      obtain rfl := hA b (by rw [q]; simp)
      rw [ha] at e
      cases e
      exact absurd rfl (nd _ _)
  have ns' : ∀ {b : Addr} {m : Str → Option Value}, s.heap.Ns b m → (hidT s.heap H).Ns b m := fun ⟨o, es, ep, e, d, r⟩ => ⟨o, es, ep, hidT_get e (free e (fun l n z => by rw [d] at z; cases z)), d, r⟩
  have kin : K.In (hidT s.heap H) := fun b o e => hidT_get (KX b o e) (by
    cases q : H b with
    | none => rfl
    | some u =>
      obtain rfl := hA b (by rw [q]; simp)
      rw [hK (by rw [q]; simp)] at e
      cases e)
  have md : Mod K mg (hidT s.heap H) := ⟨kin, ns' hns, ⟨mb, ns' hb, hbb⟩, let ⟨mc, h1, h2⟩ := hlim; ⟨mc, ns' h1, h2⟩⟩
  have e0 : Env0 P w K mg (hidT s.heap H) callerA [] s H := ⟨rfl, md, fun b o e => of_hidT e, Nat.le_of_eq (hidT_size _ _), trivial, fun b hb => absurd (show b ∈ ([] : List Addr) from hb) (by simp), hok, .of_eq hg⟩
  refine codeAny_mono ((F _ kin (ns' hns)).run callerA [] s H ⟨[.ref a], []⟩ [.ref a] [.ref a] _ hr rfl e0 (hbind s (.ref a)) (.cons rfl .nil) rfl (spT_script hS hR)) fun r s' h => ?_
  match r, h with
  | .ok (.ret u), h =>
    obtain ⟨v, H', os, bare, un, hok', r', q⟩ := h
    have q' : v = .bl true := q
    subst q'
    obtain rfl : u = Value.bool true := r'
    refine ⟨rfl, OldK.of_keep fun b o e => ?_, os, bare⟩
    rcases hO b with z | ⟨ob, xs, z⟩
    · exact un.keep b o e z (by intro y; exact absurd (show b ∈ ([] : List Addr) from y) (by simp)) (by simp)
    · obtain ⟨e1, _⟩ := hok b _ z
      obtain ⟨e2, _⟩ := hok' b _ (un.frzs b ob _ z)
      rw [e] at e1
      cases e1
      exact e2
  | .error e, h => exact h.elim
/-- the law's call -/
theorem law_true {P : Program} {w : World} {K : PySem.W.Frag} {mg mb : Str → Option Value} {k : Nat} {fa a : Addr} {fd : FuncData} {x : Str} {R : Spec} {s : Shared} {vs : List Value} {ns : List Int}
    (KX : K.In s.heap) (hns : s.heap.Ns mainGlobals mg) (hb : s.heap.Ns builtinsNs mb) (hbb : ∀ x : Str, x ≠ "__name__" → mb x = bootBuiltins x) (hlim : s.heap.NoLimit) (hg : s.gens = #[])
    (ha : s.heap.get? a = some { cls := .type "list", data := .seq vs.toArray }) (hi : IntsAre vs ns) (hl : ns.length ≤ sizeLine) (hr : Room k callerA)
    (F : ∀ base : Heap, K.In base → base.Ns mainGlobals mg → FnK P w K mg base k fa fd [x] R) (hbind : ∀ (s : Shared) (u : Value), BindsTo s fd ⟨[u], []⟩ [(x, u)])
    (hR : R [.im (.scr K a ns)] (.im (.bl true)) [.im (.scr K a ns)]) :
    codeAny (model P w) callerA (.call (.ref fa) ⟨[.ref a], []⟩) (fun r s' => r = .ok (.ret (.bool true)) ∧ OldK s.heap s'.heap ∧ s'.os = s.os ∧ AllBare s'.gens) s := by
  have rv := vals_ints hi
  cases hk : K.lookup a with
  | some o =>
    have e := KX a o hk
    rw [ha] at e
    cases e
    exact true_of (H := fun _ => none) KX hns hb hbb hlim hg ha hr F hbind hR (fun _ => .inl rfl) (.inr ⟨_, vs.toArray, _, hk, rfl, rfl, rfl, by rw [List.size_toArray, hi.length]; exact hl, by simpa using rv⟩) (fun b u z => by cases (show (none : Option HO) = some u from z)) (fun b z => absurd rfl z) fun z => absurd rfl z
  | none =>
    refine true_of (H := fun b => if b = a then some (.frz { cls := .type "list", data := .seq vs.toArray } (.lst (ns.map V.int))) else none) KX hns hb hbb hlim hg ha hr F hbind hR (fun b => ?_) (.inl (.inr ⟨_, if_pos rfl⟩)) (fun b u z => ?_) (fun b z => ?_) fun _ => hk
    · by_cases hb : b = a
      · exact .inr ⟨_, _, if_pos hb⟩
      · exact .inl (if_neg hb)
    · by_cases hb : b = a
      · subst hb
        cases (if_pos rfl).symm.trans z
        exact ⟨ha, by rw [List.length_map]; exact hl, vs, _, rv, ha⟩
      · cases (if_neg hb).symm.trans z
    · exact Decidable.byContradiction fun hb => z (if_neg hb)
/-- what k_head leaves -/
theorem walk_tree {l : PySem.W.OpenLaw} {n k : Nat} {q : Program} {loose : List Str} {XP : (Str → Option Value) → Heap → Prop} {YP : World → Heap → Prop} {d : DefRec} {K : Params → PySem.W.Frag} {R : PySem.W.Frag → Spec} {x : Str}
    (hn : l.most = some n) (hn2 : n ≤ sizeLine) (hdf : d.params.defaults = []) (hr : Room k callerA)
    (hY : ∀ (w : World) (h : Heap), YP w h → (K w.params).In h)
    (F : ∀ (w : World) (mg : Str → Option Value) (fa : Addr) (h : Heap), (K w.params).In h → h.Ns mainGlobals mg → mg d.name = some (.ref fa) →
      ∃ fd : FuncData, (∀ (s : Shared) (u : Value), BindsTo s fd ⟨[u], []⟩ [(x, u)]) ∧
        ∀ base : Heap, (K w.params).In base → base.Ns mainGlobals mg → FnK l.prog w (K w.params) mg base k fa fd [x] (R (K w.params)))
    (hR : ∀ (K : PySem.W.Frag) (a : Addr) (ns : List Int), ns.length ≤ n → R K [.im (.scr K a ns)] (.im (.bl true)) [.im (.scr K a ns)]) :
    PySem.W.WalkO q loose XP YP l.row.toRowW d [] (fun f vs => PySem.call f vs) := by
  refine Att.attach_call hn hdf fun w s₀ s₁ mg mb fa o pm cd doc a vs ns G Y ho hd hcd hmg hobj hints hlen hg => ?_
  have KX := hY w _ Y
  obtain ⟨fd, hb, hF⟩ := F w mg fa _ KX G.T.g hmg
  exact law_true KX G.T.g G.T.b G.T.builtins G.T.nolimit hg hobj hints (Nat.le_trans hlen hn2) hr hF hb (hR _ a ns hlen)
end TL
set_option Elab.async false
set_option linter.all false
set_option maxRecDepth 100000
set_option autoImplicit false
set_option maxHeartbeats 1000000
/-! TL15: f-strings; str(x), repr(x), bool(x) by the class's own methods. -/
namespace TL
open PySem PySem.Spec PyProof.Rows L2
section
variable {X : Cx} {a b e : Expr} {es : List Expr} {δ δ1 δ2 : TL.Env} {d : D} {pos p : Pos} {acc out y : Str}
/-! ### f'..' -/
theorem tr_fmt {i : Int} (h : TR X e δ (.int i) δ1) (hi : i.natAbs.log2 < 1920) : TR X (.FormattedValue e (-1) none pos) δ (.str (toString i)) δ1 := fun M W σ H Q g E k =>
  wE_of (pe_fmt pe_w) (h M W σ H _ g E fun v H1 s1 r1 => .inr ⟨i, r1, hi, k _ H1 s1 rfl⟩)
theorem tr_fmtS (h : TR X e δ (.str y) δ1) (hy : y.length ≤ sizeLine) : TR X (.FormattedValue e (-1) none pos) δ (.str y) δ1 := fun M W σ H Q g E k =>
  wE_of (pe_fmt pe_w) (h M W σ H _ g E fun v H1 s1 r1 => .inl ⟨y, r1, hy, k _ H1 s1 rfl⟩)
def TJ (X : Cx) (es : List Expr) (acc : Str) (δ : TL.Env) (out : Str) (δ' : TL.Env) : Prop := ∃ ts, PJ X es ts ∧ ∀ (M W : Addr → Prop) (σ : L2.St) (H : Hp) (Q : Str → Hp → Prop), Good M W H → EnvR M W H σ δ →
  (∀ H', Stp M W σ δ' H H' → Q out H') → tJs ts acc σ H Q
theorem tj_nil : TJ X [] acc δ acc δ := ⟨[], .nil, fun M W σ H Q g E k => k H (Stp.refl g E)⟩
theorem tj_cons (h : TR X e δ (.str y) δ1) (hz : (acc ++ y).length ≤ sizeLine) (hr : TJ X es (acc ++ y) δ1 out δ2) : TJ X (e :: es) acc δ out δ2 := by
  obtain ⟨ts, hp, hq⟩ := hr
  exact ⟨wE X e :: ts, .cons pe_w hp, fun M W σ H Q g E k => h M W σ H _ g E fun v H1 s1 r1 => ⟨y, r1, hz, hq M W σ H1 Q s1.good s1.env fun H' s2 => k H' (s1.trans s2)⟩⟩
theorem tr_js (h : TJ X (a :: b :: es) Str.empty δ out δ1) : TR X (.JoinedStr (a :: b :: es) pos) δ (.str out) δ1 := fun M W σ H Q g E k => by
  obtain ⟨ts, hp, hq⟩ := h
  exact wE_of (pe_joined hp) (hq M W σ H _ g E fun H' s => k _ H' s rfl)
theorem tr_js1 (h : TR X e δ (.str y) δ1) : TR X (.JoinedStr [e] pos) δ (.str y) δ1 := fun M W σ H Q g E k => wE_of (pe_joined1 pe_w) (h M W σ H Q g E k)
end
section
variable {X : Cx} {e : Expr} {es : List Expr} {δ δ1 : TL.Env} {x z d : D} {ds : List D} {pos p : Pos} {k : Nat} {C : Addr} {R : Spec} {ns : List Str} {xs : List D} {f : Addr} {pins : List (Addr × Obj)} {σ : L2.St} {H : Hp} {s : Shared} {us : List Value} {vs : List V} {Q : VK}
/-- .. two levels down -/
theorem runG2 (F : FnG X.prog X.w X.K X.mg X.base k f [] R) (hr : Room (k + 2) X.A) (gd : X.A.guards = some []) (I : Inv X pins σ H s) (r : Vals vs us) (h : spT R vs H Q E0) :
    wpAny (model X.prog X.w) X.A.in1.in1 (call (.ref f) us) (EP X pins σ Q) X.xe s := by
  refine wpAny_call (codeAny_mono (F.run X.A.in1.in1 X.stack s H us [] vs [] Q hr.in1.in1 gd I.env0.in1.in1 r .nil rfl (by rw [List.append_nil]; exact h)) fun rr s' hq => ?_)
  cases rr with
  | error e => exact False.elim hq
  | ok fl =>
    cases fl with
    | ret u => exact I.after hq
    | next => exact False.elim hq
    | brk => exact False.elim hq
    | cont => exact False.elim hq
/-- the words for repr(x), str(x), bool(x), x of the class -/
def rOwn1 (C : Addr) (R : Spec) (ok : V → Prop) : List V → Hp → VK → Prop := fun xs H Q => ∃ a dx fs, xs = [.ref a] ∧ H a = some (.ins C dx fs) ∧ spT R [.ref a] H (fun v H' => ok v ∧ Q v H') E0
def isS (v : V) : Prop := ∃ y, v = .str y
def isB (v : V) : Prop := ∃ y, v = .bl y
theorem ca_own1 {ok : V → Prop} (hok : ∀ M H v, Rep M H d v → ok v) (hR : R [.im (.ins C ns xs)] (.im d) [.im (.ins C ns xs)]) : CaT (rOwn1 C R ok) [.ins C ns xs] d := fun M W H us Q g r q => by
  obtain ⟨v, rfl, r1⟩ := reps1 r
  have r0 := r1
  obtain ⟨a, dx, vs, rfl, m, h1, h2⟩ := r1
  exact ⟨a, dx, _, rfl, h1, sp_args (ds := [.ins C ns xs]) g ⟨_, _, rfl, r0, rfl⟩ hR fun w H' e' r' => ⟨hok _ _ _ r', q w H' e' r'⟩⟩
theorem call_reprO (G : OwnF X.prog X.w X.K X.mg X.base C "__repr__" k R) (hr : Room (k + 1) X.A) (gd : X.A.guards = some []) : CallR X (.builtin "repr") (rOwn1 C R isS) := by
  intro pins s σ H xs us Q I r h
  obtain ⟨a, dx, fs, rfl, ha, hsp⟩ := h
  obtain ⟨f, hs, hf, F⟩ := G.ex
  obtain ⟨mA, J, _⟩ := ins_get I.hok ha
  obtain ⟨od, J, _⟩ := J.look
  obtain ⟨m, hF⟩ := I.fr
  cases r with
  | cons r1 r2 =>
    cases r2
    cases r1
    refine PySem.W.repr_K (by have := hr.in1.un; omega) hF I.ok.mod.kin J hs hf (wpAny_mono (runG1 (vs := [V.ref a]) F hr gd I (.cons rfl .nil) hsp) (fun u s' hq => ?_) fun _ _ z => z)
    obtain ⟨v, H', I', rv, ⟨y, rfl⟩, q⟩ := hq
    obtain ⟨t, rfl⟩ := rv
    exact ⟨.str y, H', I', ⟨t, rfl⟩, q⟩
theorem call_strO (G : OwnF X.prog X.w X.K X.mg X.base C "__str__" k R) (hr : Room (k + 2) X.A) (gd : X.A.guards = some []) : CallR X (.type "str") (rOwn1 C R isS) := by
  intro pins s σ H xs us Q I r h
  obtain ⟨a, dx, fs, rfl, ha, hsp⟩ := h
  obtain ⟨f, hs, hf, F⟩ := G.ex
  obtain ⟨mA, J, _⟩ := ins_get I.hok ha
  obtain ⟨od, J, _⟩ := J.look
  cases r with
  | cons r1 r2 =>
    cases r2
    cases r1
    refine PySem.W.kso_call (by have := hr.in1.in1.un; omega) I.kIn J hs hf (wpAny_mono (runG2 (vs := [V.ref a]) F hr gd I (.cons rfl .nil) hsp) (fun u s' hq => ?_) fun _ _ z => z)
    obtain ⟨v, H', I', rv, ⟨y, rfl⟩, q⟩ := hq
    obtain ⟨t, rfl⟩ := rv
    exact ⟨.str y, H', I', ⟨t, rfl⟩, q⟩
end
end TL
set_option Elab.async false
set_option linter.all false
set_option maxRecDepth 100000
set_option autoImplicit false
set_option maxHeartbeats 1000000
/-! TL16: bool(x) by the class's own __bool__. -/
namespace TL
open PySem PySem.Spec PyProof.Rows L2
theorem bool_tree (v : Value) : Builtin.«bool.__new__» ⟨[.type "bool", v], []⟩ = (do
    if !(← isSubtype (.type "bool") (.type "bool")) then
      rule "bool.__new__.no-subtype"; raiseError "TypeError" s!"bool.__new__({← typeName (.type "bool")}): {← typeName (.type "bool")} is not a subtype of bool"
    PySem.ret (.bool (← truthy v))) := by rfl
theorem bool_own {prog : Program} {w : World} {A : Around} {E : Value → Shared → Prop} {s : Shared} {K : PySem.W.Frag} {h₀ : Heap} {L x C f : Addr} {m : Str → Option Value} {ox : Obj} {od : Option Obj} {Q : Value → Shared → Prop}
    (F : Fr h₀ L s.heap m) (X₀ : K.In h₀) (I : PySem.W.InstAt s.heap x ox C od) (hs : PySem.W.findIn K (.ref C) "__bool__" = some (some (.ref f))) (hf : PySem.W.isFn K (.ref f) = true)
    (h : wpAny (model prog w) A.in1.in1 (call (.ref f) [.ref x]) (PySem.W.BoolBack fun b s₁ => Q (.bool b) s₁) E s) : wpAny (model prog w) A (call (.type "bool") [.ref x]) Q E s := by
  refine callType_codes (T := "bool") (Bi := Builtin.«object.__init__») (Q₁ := fun r s₁ => ∃ b, r = .bool b ∧ Q r s₁) PySem.F.called_bool (PySem.F.typeCall_bool_1 _) PySem.F.entry_object_init ?_ ?_
  · refine codeAny_of_tree ?_
    show wpAny _ A.in1.in1 (do checkBuiltinCall "bool.__new__" ⟨[.type "bool", .ref x], []⟩; again (.builtin "bool.__new__" ⟨[.type "bool", .ref x], []⟩)) _ _ s
    refine wpAny_bind (wpAny_of_eq (PySem.F.newCall_bool_1 _) (wpAny_pure ⟨plainId_quiet (by decide +kernel) _, codeAny_builtin PySem.F.entry_bool_new ?_⟩))
    rw [Around.under_plainId (by decide +kernel) _]
    rw [bool_tree]
    refine wpAny_bind (wpAny_of_eq PySem.F.conv_sub_bool ?_)
    refine wpAny_bind (wpAny_mono (PySem.W.truthy_K F X₀ I hs hf (wpAny_mono h (fun r s' hr => ?_) fun _ _ y => y)) (fun b s₁ hb => wpAny_pure ⟨b, rfl, hb⟩) fun _ _ y => y)
    exact hr
  · rintro obj s₁ ⟨b, rfl, hq⟩
    exact ⟨PySem.typeIs_bool _ _, PySem.F.args_object_init_2 _ _, object_init_meets PySem.F.called_bool.init.lookup PySem.F.called_bool.made (by decide) prog w A.in1 _ s₁ ⟨PySem.typeIs_bool _ _, rfl, hq⟩⟩
section
variable {X : Cx} {k : Nat} {C : Addr} {R : Spec}
theorem call_boolO (G : OwnF X.prog X.w X.K X.mg X.base C "__bool__" k R) (hr : Room (k + 2) X.A) (gd : X.A.guards = some []) : CallR X (.type "bool") (rOwn1 C R isB) := by
  intro pins s σ H xs us Q I r h
  obtain ⟨a, dx, fs, rfl, ha, hsp⟩ := h
  obtain ⟨f, hs, hf, F⟩ := G.ex
  obtain ⟨mA, J, _⟩ := ins_get I.hok ha
  obtain ⟨od, J, _⟩ := J.look
  obtain ⟨m, hF⟩ := I.fr
  cases r with
  | cons r1 r2 =>
    cases r2
    cases r1
    refine bool_own hF I.ok.mod.kin J hs hf (wpAny_mono (runG2 (vs := [V.ref a]) F hr gd I (.cons rfl .nil) hsp) (fun u s' hq => ?_) fun _ _ z => z)
    obtain ⟨v, H', I', rv, ⟨y, rfl⟩, q⟩ := hq
    obtain rfl := rv
    exact ⟨.bl y, H', I', rfl, q⟩
end
end TL
set_option Elab.async false
set_option linter.all false
set_option maxRecDepth 100000
set_option autoImplicit false
set_option maxHeartbeats 1000000
/-! TL17: repr of a list whose items have an own __repr__ (or are plain). -/
namespace TL
open PySem PySem.Spec PyProof.Rows L2
/-- the surroundings of X, some levels of C deeper -/
structure Lik (X : Cx) (A : Around) (n : Nat) : Prop where
  fr : A.frames = X.A.frames
  hd : A.handled = X.A.handled
  dp : A.depth ≤ X.A.depth + 2
  un : A.units ≤ X.A.units + n
theorem Lik.room {X : Cx} {A : Around} {n k : Nat} (l : Lik X A n) (r : Room (k + 1) X.A) (h : n ≤ 16) : Room k A := ⟨l.hd.trans r.hd, by have := r.dp; have := l.dp; omega, by have := r.un; have := l.un; omega⟩
theorem Lik.env0 {X : Cx} {A : Around} {n : Nat} {pins : List (Addr × Obj)} {σ : L2.St} {H : Hp} {s : Shared} (l : Lik X A n) (I : Inv X pins σ H s) : Env0 X.prog X.w X.K X.mg X.base A X.stack s H := by
  have e := I.env0
  exact ⟨l.fr.trans e.frames, e.mod, e.bs, e.bsz, e.funs, e.frf, e.hok, e.bare⟩
/-- what stands at a def that does not ask for the guards -/
structure FnGN (P : Program) (w : World) (K : PySem.W.Frag) (mg : Str → Option Value) (base : Heap) (k : Nat) (f : Addr) (R : Spec) : Prop where
  run : ∀ (A : Around) (outer : List PySem.Env) (s : Shared) (H : Hp) (us : List Value) (vs : List V) (Q : VK), Room k A → Env0 P w K mg base A outer s H → Vals vs us →
    spT R vs H Q E0 → codeAny (model P w) A (.call (.ref f) ⟨us, []⟩) (CR CX0 outer P w H s Q E0) s
theorem FnN.pos {P : Program} {w : World} {K : PySem.W.Frag} {mg : Str → Option Value} {base : Heap} {k : Nat} {f : Addr} {fd : FuncData} {ps : List Str} {R : Spec} (F : FnN P w K mg base k f fd ps R) (b : Binds K fd ps []) (hl : ∀ ss r ss', R ss r ss' → ss.length = ps.length) : FnGN P w K mg base k f R := by
  refine ⟨fun A outer s H us vs Q hr e0 rv h => ?_⟩
  have hk : K.In s.heap := e0.mod.kin.keeps fun b o e => (e0.bs b o e).1
  have hvl : vs.length = ps.length := by
    obtain ⟨M, W, ss, ss', r, hR, g, Ev, q⟩ := h
    have := Ev.len
    simp at this
    rw [this]
    exact hl _ _ _ hR
  have hb := b s us hk (by rw [List.append_nil, ← rv.length]; exact hvl)
  rw [List.append_nil] at hb
  exact F.run A outer s H ⟨us, []⟩ us vs Q hr e0 hb rv hvl h
structure OwnN (P : Program) (w : World) (K : PySem.W.Frag) (mg : Str → Option Value) (base : Heap) (C : Addr) (nm : Str) (k : Nat) (R : Spec) : Prop where
  ex : ∃ f : Addr, PySem.W.findIn K (.ref C) nm = some (some (.ref f)) ∧ PySem.W.isFn K (.ref f) = true ∧ FnGN P w K mg base k f R
section
variable {X : Cx} {A : Around} {k n : Nat} {C : Addr} {R : Spec} {ns : List Str} {xs : List D} {f : Addr} {pins : List (Addr × Obj)} {σ : L2.St} {H : Hp} {s : Shared} {us : List Value} {vs : List V} {Q : VK}
theorem runN {E : Value → Shared → Prop} (F : FnGN X.prog X.w X.K X.mg X.base k f R) (l : Lik X A n) (hr : Room k A) (I : Inv X pins σ H s) (r : Vals vs us) (h : spT R vs H Q E0) :
    wpAny (model X.prog X.w) A (call (.ref f) us) (EP X pins σ Q) E s := by
  refine wpAny_call (codeAny_mono (F.run A X.stack s H us vs Q hr (l.env0 I) r h) fun rr s' hq => ?_)
  cases rr with
  | error e => exact False.elim hq
  | ok fl =>
    cases fl with
    | ret u => exact I.after hq
    | next => exact False.elim hq
    | brk => exact False.elim hq
    | cont => exact False.elim hq
/-- d is shown as t, wherever it stands -/
def ShT (X : Cx) (d : D) (t : Str) : Prop := ∀ (A : Around) (M W : Addr → Prop) (pins : List (Addr × Obj)) (σ : L2.St) (H : Hp) (s : Shared) (v : V) (u : Value) (base : Nat) (E : Value → Shared → Prop) (Q : Str → Shared → Prop),
  Lik X A 10 → Good M W H → Inv X pins σ H s → Rep M H d v → RelV v u → base + t.length ≤ sizeLine →
  (∀ s' H', Inv X pins σ H' s' → (∀ a o, H a = some o → H' a = some o) → Q t s') → wpAny (model X.prog X.w) A (pyReprUnder base u) Q E s
theorem shT_is {d : D} {t : Str} (h : ∀ M H v u, Rep M H d v → RelV v u → ReprIs X.prog X.w u t) : ShT X d t := fun A M W pins σ H s v u base E Q l g I r rv hz q =>
  h M H v u r rv base hz A E s Q fun tk => q _ H (I.tok tk) fun _ _ e => e
theorem shT_int {i : Int} (hi : i.natAbs.log2 < 1920) : ShT X (.int i) (toString i) := shT_is fun M H v u r rv => by
  obtain rfl : v = .int i := r
  obtain ⟨t, rfl⟩ := rv
  exact ReprIs.int t hi
theorem ifBoundBy {K : PySem.W.Frag} {M : Model} {E : Value → Shared → Prop} {x f : Addr} {ox : Obj} {od : Option Obj} {name : Str} {last : Value → List Value → Sem Value} {Q : Option Value → Shared → Prop} (X : K.In s.heap) (I : PySem.W.InstAt s.heap x ox C od) (hs : PySem.W.findIn K (.ref C) name = some (some (.ref f))) (hf : PySem.W.isFn K (.ref f) = true)
    (h : wpAny M A (last (.ref f) [.ref x]) (fun v => Q (some v)) E s) : wpAny M A (callSpecialIfBoundBy? last (.ref x) name) Q E s := by
  simp only [callSpecialIfBoundBy?, bindSpecialIfBound?]
  refine wpAny_holding (wpAny_bind (wpAny_bind (wpAny_bind (I.type.here ((PySem.W.looks_findIn X hs).here ?_)))))
  refine wpAny_bind (wpAny_askSetting (wpAny_ite ?_))
  have fin : wpAny M A (last (.ref f) [.ref x] >>= fun v => pure (some v)) Q E s := wpAny_bind (wpAny_mono h (fun v s' h' => wpAny_pure h') fun _ _ h' => h')
  split
  · exact wpAny_bind ((PySem.W.bind_fn X _ (beq_iff_eq.mp hf)).here (wpAny_pure (by exact fin)))
  · exact wpAny_tryCatch (wpAny_bind ((PySem.W.bind_fn X _ (beq_iff_eq.mp hf)).here (wpAny_pure (by exact fin))))
/-- an instance with its own __repr__ -/
theorem shT_own {t : Str} (G : OwnN X.prog X.w X.K X.mg X.base C "__repr__" k R) (hr : Room (k + 1) X.A) (hR : R [.im (.ins C ns xs)] (.im (.str t)) [.im (.ins C ns xs)]) : ShT X (.ins C ns xs) t := fun A M W pins σ H s v u base E Q l g I r rv hz q => by
  have r0 := r
  obtain ⟨a, dx, vs, rfl, m, ha, r2⟩ := r
  cases rv
  obtain ⟨f, hs, hf, F⟩ := G.ex
  obtain ⟨mA, J, _⟩ := ins_get I.hok ha
  obtain ⟨od, J, _⟩ := J.look
  have hu : A.units < cLine := by have := hr.un; have := l.un; omega
  refine wpAny_pyReprUnder_ref (by omega) ?_
  unfold pyReprObjUnder pyReprObjBy
  refine wpAny_bind (m := cRoomFor _ _) (wpAny_cRoomFor hu ?_)
  refine wpAny_bind (wpAny_bind (J.type.here ((PySem.W.looks_findIn I.kIn hs).here ?_)))
  show wpAny _ _ (if (some (Value.ref f)).isNone = true then _ else _) _ _ _
  rw [if_neg (by simp)]
  refine wpAny_bind (ifBoundBy (name := Str.ofString "__repr__") I.kIn J hs hf ?_)
  show wpAny _ _ (call (.ref f) ([.ref a] ++ [])) _ _ _
  refine wpAny_mono (runN (vs := [V.ref a]) (Q := fun v H' => v = .str t ∧ ∀ a o, H a = some o → H' a = some o) F l (l.room hr (by decide)) I (.cons rfl .nil) ?_) (fun w s' hq => ?_) fun _ _ z => z
  · exact sp_args (ds := [.ins C ns xs]) g ⟨_, _, rfl, r0, rfl⟩ hR fun w H' e' r' => ⟨r', e'⟩
  · obtain ⟨v, H', I', rv', rfl, he⟩ := hq
    obtain ⟨tk, rfl⟩ := rv'
    refine wpAny_bind (wpAny_isInstance (typeIs_str _ _ _) isSubtype_str_str ?_)
    exact wpAny_pure ⟨t, tk, rfl, q s' H' I' he⟩
end
end TL
set_option Elab.async false
set_option linter.all false
set_option maxRecDepth 100000
set_option autoImplicit false
set_option maxHeartbeats 1000000
/-! TL18: repr([..]) of items with an own __repr__: the machine's loop. -/
namespace TL
open PySem PySem.Spec PyProof.Rows L2 Builtin
section
variable {X : Cx} {A : Around} {k n : Nat} {pins : List (Addr × Obj)} {σ : L2.St}
theorem reprLoop {R : Result → Shared → Prop} {ds : List D} {ts : List Str} {M W : Addr → Prop} {a P : Addr} {vs : List V} {base : Nat} (hA : ∀ args, Lik X (A.under (.builtin "list.__repr__.loop" args)) 10) (hlen : ts.length = ds.length)
    (hS : ∀ (i : Nat) (d : D) (t : Str), ds[i]? = some d → ts[i]? = some t → ShT X d t) (hsz : base + (listText ts).length ≤ sizeLine)
    (hPs : X.s_0.heap.objs.size ≤ P) (hPL : P ≠ X.env.locals) (hPc : ∀ x c, X.env.cells.lookup x = some c → c ≠ P) (hPp : ∀ p ∈ X.pn ++ pins, p.1 ≠ P) :
    ∀ (k i : Nat) (s : Shared) (H : Hp) (acc : Array Value) (c : Nat) (done : List (Str × Tok)), ds.length - i = k → i ≤ ds.length → Good M W H →
    Inv X ((P, { cls := .type "list", dict := none, data := .seq acc c, slots := #[] }) :: pins) σ H s → H a = some (.lst vs) → Reps M H ds vs → acc.toList = strValues done → done.map (·.1) = ts.take i →
    (∀ s' H' u, Inv X pins σ H' s' → (∀ b o, H b = some o → H' b = some o) → R (.ok (.ret (.str (listText ts) u))) s') →
    codeAny (model X.prog X.w) A (.builtin "list.__repr__.loop" ⟨[.ref a, rawInt i, .ref P, rawInt ((base + piled (ts.take i) : Nat) : Int)], []⟩) R s := by
  have hX : (listText ts).length = (textFrom 0 "[" ts).length + 1 := by
    show (textFrom 0 "[" ts ++ "]").length = _
    rw [strLen_append]; rfl
  have hL := textFrom_len ts 0 "["
  have hsz1 : ds.length ≤ sizeLine := by
    have h1 := hL.1
    rw [if_neg (Nat.lt_irrefl 0)] at h1
    omega
  have hsz2 : ∀ t ∈ ts, t.length ≤ sizeLine := fun t ht => by
    have h2 := hL.2.1 t ht
    omega
  have hsz3 : (listText ts).length ≤ sizeLine := by omega
  have hp3 := piled_le_listText ts
  have dropP : ∀ {H : Hp} {s : Shared} {o : Obj}, Inv X ((P, o) :: pins) σ H s → Inv X pins σ H s := fun I => I.pins_of fun p hp => I.pin p (List.mem_append_right _ (List.mem_cons_of_mem _ hp))
  intro k
  induction k with
  | zero =>
    intro i s H acc c done hk hi g I ha r hacc hdone hR
    obtain ⟨its, rv, ⟨o, n', ho, hc, hdd, hd⟩, _⟩ := I.list (SqL.of ha)
    have hin : i = ds.length := by omega
    have hil : its.length = ds.length := by rw [← rv.length, r.len]
    obtain ⟨hP, hPn, _, _, _⟩ := I.pin _ (List.mem_append_right _ (.head _))
    refine codeAny_builtin F.entry_list_repr_loop ?_
    show wpAny _ _ («list.__repr__.loop» ⟨[.ref a, .int i 0, .ref P, .int ((base + piled (ts.take i) : Nat) : Int) 0], []⟩) _ _ s
    rw [repr_loop_tree]
    refine wpAny_bind (wpAny_listItems ho hd ?_)
    have hnone : its.toArray[(i : Int).toNat]? = none := by simp [hin, hil]
    simp only [hnone]
    unfold reprEnd
    refine wpAny_bind (wpAny_listItems hP rfl ?_)
    rw [hacc, repr_fold]
    refine wpAny_bind (wpAny_pure ?_)
    have hall : done.map (·.1) = ts := by rw [hdone, hin, ← hlen, List.take_length]
    rw [hall]
    refine wpAny_bind (wpAny_mkStr (wpAny_pure ?_) hsz3)
    exact hR _ H _ ((dropP I).tok _) (fun _ _ e => e)
  | succ k ih =>
    intro i s H acc c done hk hi g I ha r hacc hdone hR
    obtain ⟨its, rv, ⟨o, n', ho, hc, hdd, hd⟩, _⟩ := I.list (SqL.of ha)
    have hlt : i < ds.length := by omega
    have hil : its.length = ds.length := by rw [← rv.length, r.len]
    obtain ⟨v, hv, rd⟩ := r.get (List.getElem?_eq_getElem hlt)
    obtain ⟨u, hu, ru⟩ := rv.get hv
    obtain ⟨t, ht⟩ : ∃ t, ts[i]? = some t := ⟨_, List.getElem?_eq_getElem (by omega)⟩
    have hp1 := piled_take_succ ht
    have hp2 := piled_take_le ts (i + 1)
    refine codeAny_builtin F.entry_list_repr_loop ?_
    show wpAny _ _ («list.__repr__.loop» ⟨[.ref a, .int i 0, .ref P, .int ((base + piled (ts.take i) : Nat) : Int) 0], []⟩) _ _ s
    rw [repr_loop_tree]
    refine wpAny_bind (wpAny_listItems ho hd ?_)
    have hsome : its.toArray[(i : Int).toNat]? = some u := by simpa using hu
    simp only [hsome]
    rw [Int.toNat_natCast]
    refine wpAny_bind (wpAny_holding (hS i _ _ (List.getElem?_eq_getElem hlt) ht _ M W _ σ H s v u (base + piled (ts.take i) + 1) _ _ (hA _) g I rd ru (by omega) fun s' H' I' he => ?_))
    refine wpAny_bind (wpAny_mkStr ?_ (hsz2 _ (List.mem_of_getElem? ht)))
    refine wpAny_bind ?_
    show wpAny _ _ (updateSeq P _) _ _ _
    obtain ⟨hP, hPn, _, hPf, _⟩ := I'.pin _ (List.mem_append_right _ (.head _))
    have hasz : acc.size ≤ sizeLine := by
      have e1 : acc.toList.length = acc.size := by simp
      have e2 : (strValues done).length = done.length := by simp [strValues]
      have e3 : done.length = (ts.take i).length := by rw [← hdone, List.length_map]
      have e4 : (ts.take i).length ≤ i := by rw [List.length_take]; omega
      rw [hacc] at e1; omega
    refine wpAny_updateSeq hP rfl (wpAny_pure ⟨F.quiet_list_repr_loop _, ?_⟩) hasz
    have e1 : ((i : Int) + 1) = ((i + 1 : Nat) : Int) := by omega
    have e2 : base + piled (ts.take i) + (t.length + 2) = base + piled (ts.take (i + 1)) := by omega
    rw [e1, e2]
    refine ih (i + 1) _ H' (acc.push (.str t s'.toks)) (if (acc.push (.str t s'.toks)).size == acc.size then c else c + 1) (done ++ [(t, s'.toks)]) (by omega) hlt (g.ext he) ?_ (he _ _ ha) (Reps.ex (Xt.of he) ds r) (by simp [hacc, strValues]) (by simp [List.take_add_one, ht, hdone]) fun s'' H'' u'' I'' he'' => hR s'' H'' u'' I'' fun b o e => he'' b o (he b o e)
    refine (Inv.turned (it := P) (dropP I') (fun b o nb e => (Heap.get?_update_other _ _ (fun h : P = b => nb h.symm)).trans e) hPn hPL (.inr hPs) hPc hPp).pins_of fun p hp => ?_
    rcases List.mem_cons.mp hp with rfl | hp
    · exact ⟨Heap.get?_update_self _ hP rfl, hPn, hPL, hPf, fun _ z => nomatch z⟩
    · obtain ⟨q1, q2⟩ := I'.pin p (List.mem_append_right _ (List.mem_cons_of_mem _ hp))
      exact ⟨(Heap.get?_update_other _ _ (fun h : P = p.1 => hPp p (List.mem_append_right _ hp) h.symm)).trans q1, q2⟩
end
end TL
set_option Elab.async false
set_option linter.all false
set_option maxRecDepth 100000
set_option autoImplicit false
set_option maxHeartbeats 1000000
/-! TL19: repr([..]) of items with an own __repr__: the call. -/
namespace TL
open PySem PySem.Spec PyProof.Rows L2 Builtin
theorem depth_loop (A : Around) (args : Args) : (A.under (.builtin "list.__repr__.loop" args)).depth = A.depth + 1 := by
  have e : (Code.builtin "list.__repr__.loop" args).weight = 1 := by
    unfold Code.weight
    rw [if_pos (isGuard_list_loop args)]
    rfl
  simp [Around.under, e]
section
variable {X : Cx}
def rReprL (ds : List D) (ts : List Str) : List V → Hp → VK → Prop := fun xs H Q => ∃ (M W : Addr → Prop) (p : Addr) (vs : List V), xs = [.ref p] ∧ Good M W H ∧ H p = some (.lst vs) ∧ Reps M H ds vs ∧ ∀ H', (∀ b o, H b = some o → H' b = some o) → Q (.str (listText ts)) H'
theorem call_reprL {ds : List D} {ts : List Str} (gd : X.A.guards = some []) (hu : X.A.units + 64 < cLine) (hne : ds ≠ []) (hlen : ts.length = ds.length)
    (hS : ∀ (i : Nat) (d : D) (t : Str), ds[i]? = some d → ts[i]? = some t → ShT X d t) (hsz : (listText ts).length ≤ sizeLine) : CallR X (.builtin "repr") (rReprL ds ts) := by
  intro pins s σ H xs us Q I r h
  obtain ⟨M, W, p, vs, rfl, g, hp, rs, q⟩ := h
  cases r with
  | cons r1 r2 =>
    cases r2
    cases r1
    obtain ⟨its, rv, ⟨o, n', ho, hc, hdd, hd⟩, _⟩ := I.list (SqL.of hp)
    have hil : its.length = ds.length := by rw [← rv.length, rs.len]
    obtain ⟨x, l, rfl⟩ : ∃ x l, its = x :: l := by
      cases its with
      | nil => exact absurd (List.length_eq_zero_iff.mp hil.symm) hne
      | cons x l => exact ⟨x, l, rfl⟩
    refine call_repr_slot (by omega) ⟨o, ho, hc⟩ F.slot_list_repr.toG ?_
    refine wpAny_call (codeAny_call_builtin F.slot_list_repr.plain F.entry_list_repr (F.slot_list_repr.check _ _ _ _ _ _ _ _ ⟨o, ho, hc⟩ (F.args_list_repr_1 _) ?_))
    refine wpAny_list_repr_head (A := X.A.in1.in1) (g := []) gd (fun v rest kw hm => nomatch hm) ho hd ?_
    refine wpAny_bind (m := newList []) (wpAny_newObj_type ?_)
    refine wpAny_pure ⟨F.quiet_list_repr_loop _, ?_⟩
    have I1 := I.kept (h' := s.heap.push { cls := .type "list", dict := none, data := .seq #[] 0, slots := #[] }) (t' := s.toks) fun b u e => Heap.get?_push_of_some _ e
    refine reprLoop (X := X) (A := X.A.in1) (pins := pins) (σ := σ) (ds := ds) (ts := ts) (M := M) (W := W) (P := s.heap.objs.size) (base := 0) (fun args => ⟨rfl, rfl, by rw [depth_loop]; show X.A.depth + 1 ≤ _; omega, by rw [units_under_list_loop]; show X.A.units + 1 + 1 ≤ _; omega⟩) hlen hS (by omega) I.sz (Nat.ne_of_gt I.lt)
      (fun y c e z => ?_) (fun p hp z => ?_) _ 0 _ H #[] 0 [] rfl (Nat.zero_le _) g (I1.pins_of fun p hp => ?_) hp rs rfl (by simp) (fun s' H' u I' he => ?_)
    · obtain ⟨v, hv⟩ := I.cell y c e
      obtain ⟨ob, h1, _⟩ := hv
      exact absurd (Heap.lt_size h1) (by rw [z]; exact Nat.lt_irrefl _)
    · have := (I.pin p hp).1
      exact absurd (Heap.lt_size this) (by rw [z]; exact Nat.lt_irrefl _)
    · rcases List.mem_cons.mp hp with rfl | hp
      · exact ⟨Heap.get?_push_size _ rfl, I.hok.fresh (Nat.le_refl _), Nat.ne_of_gt I.lt, I.nofs (Nat.le_refl _), fun _ z => nomatch z⟩
      · obtain ⟨q1, q2⟩ := I.pin p (List.mem_append_right _ hp)
        exact ⟨Heap.get?_push_of_some _ q1, q2⟩
    · exact ⟨_, _, rfl, .str (listText ts), H', I', ⟨u, rfl⟩, q H' he⟩
end
end TL
set_option Elab.async false
set_option linter.all false
set_option maxRecDepth 100000
set_option autoImplicit false
set_option maxHeartbeats 1000000
/-! TL20: small data: what repr and == ask of it, at one stroke. -/
namespace TL
open PySem L2
mutual
/-- ints of less than 600 binary digits, texts of real signs -/
def D.Ok : D → Prop
  | .int i => i.natAbs.log2 < 600
  | .str x => PyData.strOk x = true
  | .non => True
  | .bl _ => True
  | .lst xs => D.Oks xs
  | .tup xs => D.Oks xs
  | _ => False
def D.Oks : List D → Prop
  | [] => True
  | x :: xs => D.Ok x ∧ D.Oks xs
end
mutual
def D.wt : D → Nat
  | .int _ => 700
  | .str x => x.length
  | .lst xs => D.wts xs
  | .tup xs => D.wts xs
  | _ => 0
def D.wts : List D → Nat
  | [] => 0
  | x :: xs => D.wt x + 1 + D.wts xs
end
mutual
theorem D.Ok.data : ∀ (d : D), d.Ok → d.isData = true
  | .int _, _ | .str _, _ | .non, _ | .bl _, _ => rfl
  | .lst xs, h => D.Oks.data xs h
  | .tup xs, h => D.Oks.data xs h
  | .scr _ _ _, h | .ins _ _ _, h | .vl _, h | .dct _ _, h | .tme, h => False.elim h
theorem D.Oks.data : ∀ (xs : List D), D.Oks xs → D.areData xs = true
  | [], _ => rfl
  | x :: xs, h => by
    show (x.isData && D.areData xs) = true
    rw [D.Ok.data x h.1, D.Oks.data xs h.2]; rfl
end
mutual
theorem D.Ok.show : ∀ (d : D), d.Ok → d.py.showable = true
  | .int i, h => decide_eq_true (Nat.lt_of_lt_of_le h (by decide))
  | .str _, _ | .non, _ | .bl _, _ => rfl
  | .lst xs, h => D.Oks.show xs h
  | .tup xs, h => D.Oks.show xs h
  | .scr _ _ _, h | .ins _ _ _, h | .vl _, h | .dct _ _, h | .tme, h => False.elim h
theorem D.Oks.show : ∀ (xs : List D), D.Oks xs → PyData.showableAll (D.pys xs) = true
  | [], _ => rfl
  | x :: xs, h => by
    show (x.py.showable && PyData.showableAll (D.pys xs)) = true
    rw [D.Ok.show x h.1, D.Oks.show xs h.2]; rfl
end
mutual
theorem D.Ok.nod : ∀ (d : D), d.Ok → d.py.hasDict = false
  | .int _, _ | .str _, _ | .non, _ | .bl _, _ => rfl
  | .lst xs, h => D.Oks.nod xs h
  | .tup xs, h => D.Oks.nod xs h
  | .scr _ _ _, h | .ins _ _ _, h | .vl _, h | .dct _ _, h | .tme, h => False.elim h
theorem D.Oks.nod : ∀ (xs : List D), D.Oks xs → PyData.hasDictAll (D.pys xs) = false
  | [], _ => rfl
  | x :: xs, h => by
    show (x.py.hasDict || PyData.hasDictAll (D.pys xs)) = false
    rw [D.Ok.nod x h.1, D.Oks.nod xs h.2]; rfl
end
mutual
theorem D.Ok.lay : ∀ (d : D), d.Ok → d.py.canLay0 = true
  | .str _, h => h
  | .int _, _ | .non, _ | .bl _, _ => rfl
  | .lst xs, h => D.Oks.lay xs h
  | .tup xs, h => D.Oks.lay xs h
  | .scr _ _ _, h | .ins _ _ _, h | .vl _, h | .dct _ _, h | .tme, h => False.elim h
theorem D.Oks.lay : ∀ (xs : List D), D.Oks xs → PyData.canLayAll0 (D.pys xs) = true
  | [], _ => rfl
  | x :: xs, h => by
    show (x.py.canLay0 && PyData.canLayAll0 (D.pys xs)) = true
    rw [D.Ok.lay x h.1, D.Oks.lay xs h.2]; rfl
end
theorem short_str {x : Str} (h : PyData.strOk x = true) : (x.cps.toList.all fun c => decide (c < 16 ^ 8)) = true := by
  rw [List.all_eq_true]
  intro c hc
  unfold PyData.strOk at h
  rw [Array.all_eq_true_iff_forall_mem] at h
  have := of_decide_eq_true (h c (by simpa using hc))
  exact decide_eq_true (by omega)
mutual
theorem D.Ok.leaves : ∀ (d : D), d.Ok → d.py.leavesShort 700 = true
  | .int i, h => by
    show decide ((Str.ofString (toString i)).length ≤ 700) = true
    have h1 := int_text_length_le (a := i) (k := 600) (by decide) h
    refine decide_eq_true ?_
    have e : (Str.ofString (toString i)).length = (toString i).length := by
      rw [Str.ofString_eq_toList]
      simp only [Str.length, List.size_toArray, List.length_map]
      exact String.length_toList
    omega
  | .str _, h => short_str h
  | .non, _ | .bl _, _ => rfl
  | .lst xs, h => D.Oks.leaves xs h
  | .tup xs, h => D.Oks.leaves xs h
  | .scr _ _ _, h | .ins _ _ _, h | .vl _, h | .dct _ _, h | .tme, h => False.elim h
theorem D.Oks.leaves : ∀ (xs : List D), D.Oks xs → PyData.leavesShortAll 700 (D.pys xs) = true
  | [], _ => rfl
  | x :: xs, h => by
    show (x.py.leavesShort 700 && PyData.leavesShortAll 700 (D.pys xs)) = true
    rw [D.Ok.leaves x h.1, D.Oks.leaves xs h.2]; rfl
end
mutual
theorem D.Ok.weight : ∀ (d : D), d.Ok → d.py.weight ≤ d.wt
  | .int i, h => by
    show (if i == 0 then 0 else i.natAbs.log2 + 1) ≤ 700
    have h' : i.natAbs.log2 < 600 := h
    split <;> omega
  | .str x, _ => Nat.le_refl _
  | .non, _ | .bl _, _ => Nat.zero_le _
  | .lst xs, h => D.Oks.weight xs h
  | .tup xs, h => D.Oks.weight xs h
  | .scr _ _ _, h | .ins _ _ _, h | .vl _, h | .dct _ _, h | .tme, h => False.elim h
theorem D.Oks.weight : ∀ (xs : List D), D.Oks xs → PyData.weightAll (D.pys xs) ≤ D.wts xs
  | [], _ => Nat.le_refl _
  | x :: xs, h => by
    have h1 := D.Ok.weight x h.1
    have h2 := D.Oks.weight xs h.2
    show x.py.weight + 1 + PyData.weightAll (D.pys xs) ≤ D.wt x + 1 + D.wts xs
    omega
end
theorem D.Ok.len {d : D} (h : d.Ok) (hw : d.wt ≤ 20000) : d.py.shown.length ≤ sizeLine := by
  have h1 := PyData.shown_le 700 (by decide) d.py (D.Ok.leaves d h)
  have h2 := D.Ok.weight d h
  rw [sizeLine_eq]
  have h3 : (700 + 2) * d.py.weight ≤ (700 + 2) * 20000 := Nat.mul_le_mul_left _ (Nat.le_trans h2 hw)
  omega
theorem D.Ok.shaped {d : D} (h : d.Ok) (hd : d.py.depth ≤ 64) : SeqAt.shaped d.py = true := by
  show (d.py.canLay0 && decide (d.py.depth ≤ 64)) = true
  rw [D.Ok.lay d h, decide_eq_true hd]; rfl
section
variable {X : Cx} {e a b : Expr} {δ δ1 δ2 : TL.Env} {d x y : D} {pos p : Pos}
/-- repr(e) of small data -/
theorem tr_reprD (hm : X.mg "repr" = none) (gd : X.A.guards = some []) (hu : X.A.units + 64 < cLine) (h : TR X e δ d δ1) (ok : d.Ok) (hw : d.wt ≤ 20000) (hl : (∃ xs, d = .lst xs) ∨ ∃ xs, d = .tup xs) (hd : d.py.depth ≤ 60) (hg : Gl X "repr" := by rfl)
    (hs : starEach [e] X.env = (false, eval e X.env) :: starEach [] X.env := by rfl) : TR X (.Call (.Name "repr" p) [e] [] pos) δ (.str d.py.shown) δ1 :=
  tr_callB (call_reprD gd hu) hm (by decide +kernel) (ta_cons h ta_nil hs) (ca_repr (D.Ok.data d ok) hl (D.Ok.show d ok) (D.Ok.nod d ok) hd (ok.len hw)) hg (by decide) (by decide) hs rfl
/-- a == b of small data -/
theorem tr_eqOk (ha : TR X a δ x δ1) (hb : TR X b δ1 y δ2) (hu : X.A.units + 64 < cLine) (hx : x.Ok) (hy : y.Ok) (dx : x.py.depth ≤ 64) (dy : y.py.depth ≤ 64) : TR X (.Compare a [.Eq] [b] pos) δ (.bl (PyData.eqv x.py y.py)) δ2 :=
  tr_eqD ha hb hu (D.Ok.data x hx) (D.Ok.data y hy) (hx.shaped dx) (hy.shaped dy)
end
end TL
set_option Elab.async false
set_option linter.all false
set_option maxRecDepth 100000
set_option autoImplicit false
set_option maxHeartbeats 1000000
/-! REa: a program's text without places (E, C), what it does over trees (ee, evC, Tn). -/
namespace RE
open PySem L2 TL
open Classical

/-- an exception: its class, its fields -/
structure Xn where
  C : Addr
  ns : List Str
  ds : List D
/-- what an expression gives: data, a new list, an exception -/
inductive Rz where
  | im (d : D) | fr (xs : List D) | ex (x : Xn)
/-- gk: it is known that no repr is under way; calm: no exception is handled -/
structure Md where
  gk : Bool
  calm : Bool
inductive Bt where
  | abs | int | len | str | repr | bool | all | any | max | min
inductive Ty where
  | int | bool | str | tuple | list
/-- what a for stores into: a name, a tuple of names -/
inductive Tg where
  | one (i : Nat) | tup (is : List Nat)
/-- what is walked: a list, tuple or text; range(..); zip(a, b); enumerate(a) -/
inductive Ik where
  | seq | rng | zip | enu
inductive E where
  | var (i : Nat) | glo (n : Str) | int (i : Int) | str (s : Str) | bl (b : Bool) | non
  | bin (op : Operator) (a b : E) | neg (a : E) | nt (a : E) | bop (isAnd : Bool) (es : List E)
  | ifx (c a b : E) | cmp (op : CmpOp) (a b : E)
  | call (f : Str) (as : List E) (kn : List Str) (kv : List E)
  | callO (f : Str) (i : Nat) (as : List E) | callF (f : Str) (a : E) (as : List E)
  | blt (b : Bt) (as : List E) | isT (a : E) (t : Ty) | isC (a : E) (c : Str)
  | meth (o : E) (m : Str) (as : List E) (kn : List Str) (kv : List E)
  | att (o : E) (f : Str) | attO (i : Nat) (f : Str)
  | sub (o i : E) | subO (n : Nat) (i : E) | slL (o a : E) | slH (o a : E)
  | lst (es : List E) | tup (es : List E)
  | lc (g : Tg) (k : Ik) (its ifs : List E) (elt : E)
  | fst (es : List E) | fmt (e : E) | dct (ks : List Str) (es : List E)
/-- what a handler's suite hands back: parts without the exception, a field of it, repr, a tuple, ==, is None, and -/
inductive Xe where
  | c (e : E) | fl (f : Str) | rep (a : Xe) | tup (as : List Xe) | eq (a b : Xe) | isN (a : Xe) | and (a b : Xe)
/-- except n (as the slot i): return x -/
structure Hd where
  n : Str
  i : Option Nat
  x : Xe
inductive C where
  | ret (e : E) | retN | exp (e : E) | set (i : Nat) (e : E) | par (is : List Nat) (es : List E)
  | sto (n : Nat) (i e : E) | fld (n : Nat) (f : Str) (e : E)
  | ifs (c : E) (a b : List C) | whl (c : E) (b : List C)
  | for_ (g : Tg) (k : Ik) (its : List E) (b : List C) | pass | bad
  | rai (n : Str) (as : List E) | try_ (b : List C) (hs : List Hd)
/-- a def's text: its parameters, all its names, whether all parameters may be given by place -/
structure Fc where
  ps : List Str
  N : List Str
  po : Bool
  body : List C

/-! ### what is known of the program -/
inductive Gk where
  | fn (q : Str) | cls (A : Addr) (q : Str) | val (d : D)
def isCal : Option Gk → Bool
  | some (.fn _) => true
  | some (.cls _ _) => true
  | _ => false
/-- which parameter gets which argument, or which default -/
abbrev Pat := List (Sum Nat D)
structure Gx where
  K : PySem.W.Frag
  fns : Str → Option Fc
  glo : Str → Option Gk
  pat : Str → Nat → List Str → Option Pat
  prop : Addr → Str → Option Str
  meth : Addr → Str → Option Str
  own : Addr → Str → Option Str
  ri : Addr → Operator → Bool
  fld : Addr → Str → Bool
  isT : Addr → Ty → Option Bool
  isC : Addr → Addr → Option Bool
  nf : Addr → D → Bool
  exc : Str → Option (Addr × Option (List Str))
  xm : Addr → Addr → Option Bool
  xf : Addr → Str → Bool
abbrev Tb := Md → Str → List S → Option (Rz × List S)
noncomputable def req {α : Type} (p : Prop) (x : Option α) : Option α := if p then x else none
theorem req_pos {α : Type} {p : Prop} {x : Option α} (h : p) : req p x = x := if_pos h
theorem req_some {α : Type} {p : Prop} {x : Option α} {y : α} (h : req p x = some y) : p ∧ x = some y := by
  unfold req at h
  split at h
  · exact ⟨by assumption, h⟩
  · cases h
def Rz.d : Rz → Option D
  | .im d => some d
  | .fr xs => some (.lst xs)
  | .ex _ => none
def argsOf : Pat → List D → Option (List D)
  | [], _ => some []
  | .inl i :: p, ds => (ds[i]?).bind fun d => (argsOf p ds).map (d :: ·)
  | .inr d :: p, ds => (argsOf p ds).map (d :: ·)
/-- the pattern behind self -/
def behind : Pat → Option Pat
  | [] => some []
  | .inl 0 :: _ => none
  | .inl (i + 1) :: p => (behind p).map (.inl i :: ·)
  | .inr d :: p => (behind p).map (.inr d :: ·)
section
variable (G : Gx) (T : Tb) (md : Md)
/-- a def called with data -/
def callD (q : Str) (ds : List D) : Option Rz := (G.fns q).bind fun f => if f.po = true then (T md q (ds.map S.im)).map (·.1) else none
noncomputable def eqD (x y : D) : Option Bool :=
  match x with
  | .ins A ns ds => match G.own A "__eq__" with
    | some q => req (G.nf A y = true) (match callD G T md q [.ins A ns ds, y] with
      | some (.im (.bl b)) => some b
      | _ => none)
    | none => none
  | .int i => match y with
    | .int j => some (decide (i = j))
    | _ => none
  | .str i => match y with
    | .str j => some (decide (i = j))
    | _ => none
  | x => req (x.Ok ∧ y.Ok ∧ x.py.depth ≤ 64 ∧ y.py.depth ≤ 64) (some (PyData.eqv x.py y.py))
def nonD : D → Option Bool
  | .non => some true
  | .vl _ => none
  | _ => some false
noncomputable def cmpD (op : CmpOp) (x y : D) : Option Bool :=
  match op with
  | .Eq => eqD G T md x y
  | .NotEq => (eqD G T md x y).map (!·)
  | .Lt => match x, y with
    | .int i, .int j => some (decide (i < j))
    | _, _ => none
  | .LtE => match x, y with
    | .int i, .int j => some (decide (i ≤ j))
    | _, _ => none
  | .Gt => match x, y with
    | .int i, .int j => some (decide (j < i))
    | _, _ => none
  | .GtE => match x, y with
    | .int i, .int j => some (decide (j ≤ i))
    | _, _ => none
  | .Is => match y with
    | .non => nonD x
    | _ => none
  | .IsNot => match y with
    | .non => (nonD x).map (!·)
    | _ => none
  | _ => none
def CDiv (j : Int) : Prop := j ≠ 0 ∧ j.natAbs.log2 < 9000
def CPow (i j : Int) : Prop := 0 ≤ j ∧ j ≤ 1000000 ∧ i.natAbs < 2 ^ 64
noncomputable def intOp (op : Operator) (i j : Int) : Option D :=
  match op with
  | .Add => some (.int (i + j))
  | .Sub => some (.int (i - j))
  | .Mult => req (CMulW i j) (some (.int (i * j)))
  | .FloorDiv => req (CDiv j) (some (.int (i.fdiv j)))
  | .Mod => req (0 < j) (some (.int (i % j)))
  | .Pow => req (CPow i j) (some (.int (i ^ j.toNat)))
  | _ => none
def isClsD (A : Addr) : D → Bool
  | .ins B _ _ => decide (B = A)
  | _ => false
def isIntD : D → Bool
  | .int _ => true
  | _ => false
/-- a text, so many times -/
def reps (a : Str) (n : Nat) : Str := ⟨(List.replicate n a.cps).foldl (· ++ ·) #[]⟩
noncomputable def binD (op : Operator) (x y : D) : Option Rz :=
  match x with
  | .int i => match y with
    | .int j => (intOp op i j).map .im
    | _ => none
  | .str a => match op, y with
    | .Add, .str b => req (a.length + b.length ≤ sizeLine) (some (.im (.str (a ++ b))))
    | .Mult, .int i => req (0 ≤ i ∧ i ≤ 1000 ∧ a.length ≤ 1000) (some (.im (.str (reps a i.toNat))))
    | _, _ => none
  | .lst xs => match op, y with
    | .Add, .lst ys => req (xs.length + ys.length ≤ 100000) (some (.fr (xs ++ ys)))
    | _, _ => none
  | .ins A ns ds => match G.own A (PySem.dunder op.info.2) with
    | some q => req (isClsD A y = true ∨ (isIntD y = true ∧ G.ri A op = true)) (callD G T md q [.ins A ns ds, y])
    | none => none
  | _ => none
def negD (x : D) : Option Rz :=
  match x with
  | .int i => some (.im (.int (-i)))
  | .ins A ns ds => match G.own A "__neg__" with
    | some q => callD G T md q [.ins A ns ds]
    | none => none
  | _ => none
/-- the truth of data -/
def truD (x : D) : Option Bool :=
  match x with
  | .bl b => some b
  | .lst xs => some (!xs.isEmpty)
  | _ => none
def isTD (t : Ty) (x : D) : Option Bool :=
  match x with
  | .ins A _ _ => G.isT A t
  | .non => some false
  | .int _ => some (match t with | .int => true | _ => false)
  | .bl _ => some (match t with | .int => true | .bool => true | _ => false)
  | .str _ => some (match t with | .str => true | _ => false)
  | .lst _ => some (match t with | .list => true | _ => false)
  | .tup _ => some (match t with | .tuple => true | _ => false)
  | .dct _ _ => some false
  | _ => none
def isCD (B : Addr) (x : D) : Option Bool :=
  match x with
  | .ins A _ _ => G.isC A B
  | .non => some false
  | .int _ => some false
  | .bl _ => some false
  | .str _ => some false
  | .lst _ => some false
  | .tup _ => some false
  | .dct _ _ => some false
  | _ => none
def bools : List D → Option (List Bool)
  | [] => some []
  | .bl b :: r => (bools r).map (b :: ·)
  | _ => none
/-- the entries of a dict's text -/
def entT : List Str → List Str → List Str
  | k :: ks, t :: ts => (reprText k ++ ": " ++ t) :: entT ks ts
  | _, _ => []
mutual
/-- how many containers lie within one another -/
def dpD : D → Nat
  | .lst xs => dpDs xs + 1
  | .tup xs => dpDs xs + 1
  | .dct _ xs => dpDs xs + 1
  | _ => 0
def dpDs : List D → Nat
  | [] => 0
  | x :: xs => max (dpD x) (dpDs xs)
end
mutual
/-- a thing's text within a repr -/
noncomputable def shD : D → Option Str
  | .int i => req (i.natAbs.log2 < 1920) (some (toString i))
  | .non => some "None"
  | .bl b => some (if b then "True" else "False")
  | .str x => req ((reprText x).length ≤ sizeLine) (some (reprText x))
  | .ins A ns ds => match G.own A "__repr__" with
    | some q => match callD G T ⟨false, md.calm⟩ q [.ins A ns ds] with
      | some (.im (.str t)) => some t
      | _ => none
    | none => none
  | .lst xs => (shDs xs).map listText
  | .tup xs => (shDs xs).map tupleText
  | .dct ks xs => req (ks.length = xs.length) ((shDs xs).map fun ts => dictText (entT ks ts))
  | _ => none
noncomputable def shDs : List D → Option (List Str)
  | [] => some []
  | x :: xs => (shD x).bind fun t => (shDs xs).map (t :: ·)
end
/-- containers of any things -/
noncomputable def conD (x : D) : Option Str := (shD G T md x).bind fun t => req (dpD x ≤ 4 ∧ t.length ≤ sizeLine) (some t)
noncomputable def reprD (x : D) : Option Str :=
  match x with
  | .ins A ns ds => match G.own A "__repr__" with
    | some q => match callD G T md q [.ins A ns ds] with
      | some (.im (.str t)) => some t
      | _ => none
    | none => none
  | .lst xs => if D.Ok (.lst xs) ∧ D.wt (.lst xs) ≤ 20000 ∧ (D.lst xs).py.depth ≤ 60 then some (D.lst xs).py.shown else conD G T md (.lst xs)
  | .tup xs => if D.Ok (.tup xs) ∧ D.wt (.tup xs) ≤ 20000 ∧ (D.tup xs).py.depth ≤ 60 then some (D.tup xs).py.shown else conD G T md (.tup xs)
  | .scr _ _ _ => none
  | .vl _ => none
  | .tme => none
  | x => conD G T md x
noncomputable def bltD (b : Bt) (ds : List D) : Option Rz :=
  match b, ds with
  | .abs, [.int i] => some (.im (.int (if i < 0 then -i else i)))
  | .int, [.int i] => some (.im (.int i))
  | .len, [.lst xs] => some (.im (.int xs.length))
  | .len, [.tup xs] => some (.im (.int xs.length))
  | .len, [.str x] => req (x.length ≤ sizeLine) (some (.im (.int x.length)))
  | .len, [.scr K _ ns] => req (K = G.K) (some (.im (.int ns.length)))
  | .max, [.int i, .int j] => req (md.calm = true) (some (.im (.int (if j > i then j else i))))
  | .min, [.int i, .int j] => req (md.calm = true) (some (.im (.int (if j < i then j else i))))
  | .all, [.lst xs] => req (md.calm = true) ((bools xs).map fun bs => .im (.bl (bs.all id)))
  | .any, [.lst xs] => req (md.calm = true) ((bools xs).map fun bs => .im (.bl (bs.any id)))
  | .str, [.int i] => req (i.natAbs.log2 < 1920) (some (.im (.str (toString i))))
  | .str, [.ins A ns xs] => match G.own A "__str__" with
    | some q => match callD G T md q [.ins A ns xs] with
      | some (.im (.str t)) => some (.im (.str t))
      | _ => none
    | none => none
  | .bool, [.ins A ns xs] => match G.own A "__bool__" with
    | some q => match callD G T md q [.ins A ns xs] with
      | some (.im (.bl t)) => some (.im (.bl t))
      | _ => none
    | none => none
  | .repr, [x] => req (md.gk = true) ((reprD G T md x).map fun t => .im (.str t))
  | .bool, [.int i] => some (.im (.bl (i != 0)))
  | _, _ => none
noncomputable def subD (x i : D) : Option D :=
  match x, i with
  | .str z, .int j => req (z.length ≤ sizeLine) ((atI z.cps.toList j).map fun c => .str ⟨#[c]⟩)
  | .lst xs, .int j => atI xs j
  | .tup xs, .int j => atI xs j
  | _, _ => none
/-- a new instance -/
def makeD (A : Addr) (q : Str) (ds : List D) : Option Rz :=
  match T md q (.own (.ins A [] []) :: ds.map S.im) with
  | some (.im .non, .own (.ins B ns ys) :: _) => if B = A then some (.im (.ins A ns ys)) else none
  | some (.ex x, _) => some (.ex x)
  | _ => none
def attD (x : D) (f : Str) : Option Rz :=
  match x with
  | .ins A ns ds => match G.prop A f with
    | some q => (callD G T ⟨false, md.calm⟩ q [.ins A ns ds]).bind fun r => r.d.map .im
    | none => if G.fld A f = true then ((ns.zip ds).lookup f).map fun d => .im (unf (.ins A ns ds) d) else none
  | _ => none
end

/-! ### expressions -/
def isTme : D → Bool
  | .tme => true
  | _ => false
/-- what goes on with the data that a part gives -/
def bR {α : Type} (o : Option (Rz × TL.Env)) (kx : Xn → TL.Env → Option α) (k : D → TL.Env → Option α) : Option α :=
  match o with
  | none => none
  | some (.ex x, δ) => kx x δ
  | some (.im d, δ) => k d δ
  | some (.fr xs, δ) => k (.lst xs) δ
abbrev xR (x : Xn) (δ : TL.Env) : Option (Rz × TL.Env) := some (.ex x, δ)
def bA (o : Option (Sum (List D) Xn × TL.Env)) (k : List D → TL.Env → Option (Rz × TL.Env)) : Option (Rz × TL.Env) :=
  match o with
  | none => none
  | some (.inr x, δ) => some (.ex x, δ)
  | some (.inl ds, δ) => k ds δ
/-- .. that have to be truths -/
def bB (o : Option (Rz × TL.Env)) (k : Bool → TL.Env → Option (Rz × TL.Env)) : Option (Rz × TL.Env) :=
  match o with
  | some (.ex x, δ) => some (.ex x, δ)
  | some (.im (.bl b), δ) => k b δ
  | _ => none
/-- a value goes to a target -/
def setAll (δ : TL.Env) : List Nat → List D → TL.Env
  | i :: is, d :: ds => setAll (δ.set i (some (.im d))) is ds
  | _, _ => δ
def isOwn (δ : TL.Env) (i : Nat) : Bool :=
  match δ[i]? with
  | some (some (.own _)) => true
  | _ => false
def Tg.is : Tg → List Nat
  | .one i => [i]
  | .tup is => is
def setTg (δ : TL.Env) (g : Tg) (d : D) : Option TL.Env :=
  match g with
  | .one i => if isOwn δ i = true then none else some (δ.set i (some (.im d)))
  | .tup is => match d with
    | .tup ds => if is.length = ds.length ∧ is.any (isOwn δ) = false then some (setAll δ is ds) else none
    | _ => none
/-- the slots are blank -/
def blank (δ : TL.Env) (is : List Nat) : Bool := is.all fun i => match δ[i]? with
  | some none => true
  | _ => false
def wipeT (δ : TL.Env) : List Nat → TL.Env
  | [] => δ
  | i :: is => (wipeT δ is).set i none
/-- the tests of a comprehension -/
def tsts (fs : List (TL.Env → Option (Rz × TL.Env))) (δ : TL.Env) : Option (Bool × TL.Env) :=
  match fs with
  | [] => some (true, δ)
  | [f] => match f δ with
    | some (.im (.bl b), δ1) => some (b, δ1)
    | _ => none
  | _ => none
/-- [e for g in xs if ..] -/
noncomputable def lcGo (f : TL.Env → Option (Rz × TL.Env)) (t : TL.Env → Option (Bool × TL.Env)) (g : Tg) : List D → TL.Env → Option (List D × TL.Env)
  | [], δ => some ([], δ)
  | x :: xs, δ => match setTg δ g x with
    | none => none
    | some δ0 => match t δ0 with
      | none => none
      | some (b, δt) => match b with
        | false => lcGo f t g xs (wipeT δt g.is)
        | true => bR (f δt) (fun _ _ => none) fun y δ1 => match lcGo f t g xs (wipeT δ1 g.is) with
          | some (ys, δ2) => some (y :: ys, δ2)
          | none => none
noncomputable def lcD (f : TL.Env → Option (Rz × TL.Env)) (t : TL.Env → Option (Bool × TL.Env)) (g : Tg) (xs : List D) (δ : TL.Env) : Option (Rz × TL.Env) :=
  req (blank δ g.is = true ∧ xs.length ≤ 100000) ((lcGo f t g xs δ).map fun p => (.fr p.1, p.2))
def sgn (x : Str) : List D := x.cps.toList.map fun c => .str ⟨#[c]⟩
noncomputable def seqD (KK : PySem.W.Frag) : D → Option (List D)
  | .scr K _ ns => req (K = KK) (some (ns.map D.int))
  | .lst xs => some xs
  | .tup xs => some xs
  | .str x => some (sgn x)
  | _ => none
def rngD (a b : Int) : List D := (List.range (b - a).toNat).map fun (j : Nat) => D.int (a + j)
/-- what is walked -/
noncomputable def itD (KK : PySem.W.Frag) : Ik → List D → Option (List D)
  | .seq, [d] => seqD KK d
  | .rng, [.int b] => req (-(2 ^ 62) ≤ b ∧ b < 2 ^ 62) (some (rngD 0 b))
  | .rng, [.int a, .int b] => req (-(2 ^ 62) ≤ a ∧ a < 2 ^ 62 ∧ -(2 ^ 62) ≤ b ∧ b < 2 ^ 62) (some (rngD a b))
  | _, _ => none
def cat (l : List Str) : Str := l.foldl (· ++ ·) Str.empty
def strD : List D → Option (List Str)
  | [] => some []
  | .str t :: r => (strD r).map (t :: ·)
  | _ => none
/-- each sum of the first ones is a text of bounded length -/
def catOk (acc : Str) : List Str → Prop
  | [] => True
  | t :: r => (acc ++ t).length ≤ sizeLine ∧ catOk (acc ++ t) r
/-- as a value, as a test -/
def fin (tst : Bool) (o : Option (Rz × TL.Env)) : Option (Rz × TL.Env) :=
  match tst with
  | false => o
  | true => bR o xR fun d δ => (truD d).map fun b => (.im (.bl b), δ)
def ownCall (o : Option (Rz × List S)) (i : Nat) (δ : TL.Env) : Option (Rz × TL.Env) :=
  match o with
  | some (.im d, .own oc2 :: _) => some (.im d, δ.set i (some (.own oc2)))
  | some (.fr xs, .own oc2 :: _) => some (.im (.lst xs), δ.set i (some (.own oc2)))
  | some (.ex x, .own oc2 :: _) => some (.ex x, δ.set i (some (.own oc2)))
  | _ => none
def frCall (o : Option (Rz × List S)) (δ : TL.Env) : Option (Rz × TL.Env) :=
  match o with
  | some (.im d, .own _ :: _) => some (.im d, δ)
  | some (.fr xs, .own _ :: _) => some (.im (.lst xs), δ)
  | some (.ex x, .own _ :: _) => some (.ex x, δ)
  | _ => none
section
variable (G : Gx) (T : Tb) (md : Md)
/-- a name of the module called with data -/
def gloCall (f : Str) (n : Nat) (kn : List Str) (ds : List D) : Option Rz :=
  match G.glo f with
  | some (.fn q) => (G.pat q n kn).bind fun p => (argsOf p ds).bind fun zs => (T md q (zs.map S.im)).map (·.1)
  | some (.cls A q) => (G.pat q (n + 1) kn).bind fun p => match p with
    | .inl 0 :: p => (behind p).bind fun p => (argsOf p ds).bind fun zs => makeD T md A q zs
    | _ => none
  | _ => none
/-- an instance whose class has the method (and no field of that name) -/
def hasM (x : D) (m : Str) : Bool :=
  match x with
  | .ins A ns xs => (G.meth A m).isSome && ((ns.zip xs).lookup m).isNone
  | _ => false
noncomputable def methCall (x : D) (m : Str) (n : Nat) (kn : List Str) (ds : List D) : Option Rz :=
  match x with
  | .ins A ns xs => (G.meth A m).bind fun q => (G.pat q (n + 1) kn).bind fun p => (argsOf p (.ins A ns xs :: ds)).bind fun zs => (T md q (zs.map S.im)).map (·.1)
  | _ => none
end
mutual
noncomputable def ee (G : Gx) (T : Tb) (md : Md) : Bool → E → TL.Env → Option (Rz × TL.Env)
  | tst, .var i, δ => fin tst (match δ[i]? with
    | some (some (.im d)) => some (.im d, δ)
    | _ => none)
  | tst, .glo n, δ => fin tst (match G.glo n with
    | some (.val d) => some (.im d, δ)
    | _ => none)
  | tst, .int i, δ => fin tst (some (.im (.int i), δ))
  | tst, .str s, δ => fin tst (some (.im (.str s), δ))
  | tst, .bl b, δ => fin tst (some (.im (.bl b), δ))
  | tst, .non, δ => fin tst (some (.im .non, δ))
  | tst, .bin op a b, δ => fin tst (bR (ee G T md false a δ) xR fun x δ1 => bR (ee G T md false b δ1) xR fun y δ2 => (binD G T md op x y).map (·, δ2))
  | tst, .neg a, δ => fin tst (bR (ee G T md false a δ) xR fun x δ1 => (negD G T md x).map (·, δ1))
  | tst, .nt a, δ => bB (ee G T md tst a δ) fun b δ1 => some (.im (.bl (!b)), δ1)
  | tst, .bop isAnd es, δ => ebs G T md tst isAnd es δ
  | tst, .ifx c a b, δ => match tst with
    | true => none
    | false => bB (ee G T md true c δ) fun k δ1 => if k then ee G T md false a δ1 else ee G T md false b δ1
  | tst, .cmp op a b, δ => fin tst (bR (ee G T md false a δ) xR fun x δ1 => bR (ee G T md false b δ1) xR fun y δ2 => (cmpD G T md op x y).map fun b => (.im (.bl b), δ2))
  | tst, .call f as kn kv, δ => fin tst (if isCal (G.glo f) = true then bA (evs G T md as δ) fun ds δ1 => bA (evs G T md kv δ1) fun es δ2 => (gloCall G T md f as.length kn (ds ++ es)).map (·, δ2) else none)
  | tst, .callO f i as, δ => fin tst (if isOwn δ i = true ∧ isCal (G.glo f) = true then bA (evs G T md as δ) fun ds δ1 => match δ1[i]?, G.glo f with
    | some (some (.own oc)), some (.fn q) => (G.fns q).bind fun f => if f.po = true then ownCall (T md q (.own oc :: ds.map S.im)) i δ1 else none
    | _, _ => none else none)
  | tst, .callF f a as, δ => fin tst (if isCal (G.glo f) = true then match ee G T md false a δ with
    | some (.ex x, δ1) => some (.ex x, δ1)
    | some (.fr xs, δ1) => bA (evs G T md as δ1) fun ds δ2 => match G.glo f with
      | some (.fn q) => (G.fns q).bind fun f => if f.po = true then frCall (T md q (.own (.lst xs) :: ds.map S.im)) δ2 else none
      | _ => none
    | _ => none else none)
  | tst, .blt b as, δ => fin tst (bA (evs G T md as δ) fun ds δ1 => (bltD G T md b ds).map (·, δ1))
  | tst, .isT a t, δ => fin tst (bR (ee G T md false a δ) xR fun x δ1 => (isTD G t x).map fun b => (.im (.bl b), δ1))
  | tst, .isC a c, δ => fin tst (bR (ee G T md false a δ) xR fun x δ1 => match G.glo c with
    | some (.cls B _) => (isCD G B x).map fun b => (.im (.bl b), δ1)
    | _ => none)
  | tst, .meth o m as kn kv, δ => fin tst (bR (ee G T md false o δ) xR fun x δ0 => if hasM G x m = true then bA (evs G T md as δ0) fun ds δ1 => bA (evs G T md kv δ1) fun es δ2 => (methCall G T md x m as.length kn (ds ++ es)).map (·, δ2) else none)
  | tst, .att o f, δ => fin tst (bR (ee G T md false o δ) xR fun x δ1 => (attD G T md x f).map (·, δ1))
  | tst, .attO n f, δ => fin tst (match δ[n]? with
    | some (some (.own (.ins A ns ds))) => if G.fld A f = true then ((ns.zip ds).lookup f).bind fun d => if isTme d = true then none else some (.im d, δ) else none
    | _ => none)
  | tst, .sub o i, δ => fin tst (bR (ee G T md false o δ) xR fun x δ1 => bR (ee G T md false i δ1) xR fun y δ2 => (subD x y).map fun d => (.im d, δ2))
  | tst, .subO n i, δ => fin tst (if isOwn δ n = true then bR (ee G T md false i δ) xR fun y δ1 => match y, δ1[n]? with
    | .int j, some (some (.own (.lst xs))) => (atI xs j).map fun d => (.im d, δ1)
    | _, _ => none else none)
  | tst, .slL o a, δ => fin tst (match ee G T md false o δ with
    | some (r1, δ1) => match r1.d with
      | some x => match ee G T md false a δ1 with
        | some (r2, δ2) => match x, r2.d with
          | .scr K q ns, some (.int i) => req (K = G.K) (some (.fr ((ns.drop (HT.sIx ns.length 0 (some i))).map D.int), δ2))
          | _, _ => none
        | none => none
      | none => none
    | none => none)
  | tst, .slH o a, δ => fin tst (match ee G T md false o δ with
    | some (r1, δ1) => match r1.d with
      | some x => match ee G T md false a δ1 with
        | some (r2, δ2) => match x, r2.d with
          | .scr K q ns, some (.int i) => req (K = G.K) (some (.fr ((ns.take (HT.sIx ns.length ns.length (some i))).map D.int), δ2))
          | _, _ => none
        | none => none
      | none => none
    | none => none)
  | tst, .lst es, δ => fin tst (bA (evs G T md es δ) fun ds δ1 => req (ds.length ≤ 100000) (some (.fr ds, δ1)))
  | tst, .tup es, δ => fin tst (bA (evs G T md es δ) fun ds δ1 => req (ds.length ≤ 100000) (some (.im (.tup ds), δ1)))
  | tst, .lc g k its ifs elt, δ => fin tst (match evs G T md its δ with
    | some (.inl ds, δ1) => if md.calm = true then (itD G.K k ds).bind fun xs => lcD (ee G T md false elt) (tsts (ets G T md ifs)) g xs δ1 else none
    | _ => none)
  | tst, .fst es, δ => fin tst (match evs G T md es δ with
    | some (.inl ds, δ1) => (strD ds).bind fun ts => req (catOk Str.empty ts) (some (.im (.str (cat ts)), δ1))
    | _ => none)
  | tst, .fmt e, δ => fin tst (bR (ee G T md false e δ) xR fun x δ1 => match x with
    | .int i => req (i.natAbs.log2 < 1920) (some (.im (.str (toString i)), δ1))
    | .str t => req (t.length ≤ sizeLine) (some (.im (.str t), δ1))
    | _ => none)
  | tst, .dct ks es, δ => fin tst (bA (evs G T md es δ) fun ds δ1 => req (ks.length ≤ 15 ∧ ks.length = ds.length ∧ ks.Nodup) (some (.im (.dct ks ds), δ1)))
termination_by structural _ e => e
noncomputable def evs (G : Gx) (T : Tb) (md : Md) : List E → TL.Env → Option (Sum (List D) Xn × TL.Env)
  | [], δ => some (.inl [], δ)
  | e :: es, δ => bR (ee G T md false e δ) (fun x δ1 => some (.inr x, δ1)) fun d δ1 => match evs G T md es δ1 with
    | some (.inr x, δ2) => some (.inr x, δ2)
    | some (.inl ds, δ2) => some (.inl (d :: ds), δ2)
    | none => none
termination_by structural es => es
/-- tests, one by one -/
noncomputable def ets (G : Gx) (T : Tb) (md : Md) : List E → List (TL.Env → Option (Rz × TL.Env))
  | [] => []
  | e :: es => ee G T md true e :: ets G T md es
termination_by structural es => es
/-- a and b and .., a or b or .. -/
noncomputable def ebs (G : Gx) (T : Tb) (md : Md) : Bool → Bool → List E → TL.Env → Option (Rz × TL.Env)
  | _, _, [], _ => none
  | tst, isAnd, e :: es, δ => match es with
    | [] => bB (ee G T md tst e δ) fun k δ1 => some (.im (.bl k), δ1)
    | _ :: _ => bB (ee G T md tst e δ) fun k δ1 => if k = isAnd then ebs G T md tst isAnd es δ1 else some (.im (.bl (!isAnd)), δ1)
termination_by structural _ _ es => es
end

/-! ### a handler's suite -/
section
variable (G : Gx) (T : Tb) (md : Md) (x : Xn)
mutual
noncomputable def xe : Xe → TL.Env → Option (D × TL.Env)
  | .c e, δ => match ee G T md false e δ with
    | some (.im d, δ1) => some (d, δ1)
    | some (.fr xs, δ1) => some (.lst xs, δ1)
    | _ => none
  | .fl f, δ => if G.xf x.C f = true then ((x.ns.zip x.ds).lookup f).map (·, δ) else none
  | .rep a, δ => match xe a δ with
    | some (d, δ1) => req (md.gk = true) ((reprD G T md d).map fun t => (.str t, δ1))
    | none => none
  | .tup as, δ => match xes as δ with
    | some (ds, δ1) => req (ds.length ≤ 100000) (some (.tup ds, δ1))
    | none => none
  | .eq a b, δ => match xe a δ with
    | some (.str d, δ1) => match xe b δ1 with
      | some (.str e, δ2) => some (.bl (decide (d = e)), δ2)
      | _ => none
    | _ => none
  | .isN a, δ => match xe a δ with
    | some (d, δ1) => (nonD d).map fun k => (.bl k, δ1)
    | none => none
  | .and a b, δ => match xe a δ with
    | some (.bl true, δ1) => match xe b δ1 with
      | some (.bl k, δ2) => some (.bl k, δ2)
      | _ => none
    | some (.bl false, δ1) => some (.bl false, δ1)
    | _ => none
termination_by structural e => e
noncomputable def xes : List Xe → TL.Env → Option (List D × TL.Env)
  | [], δ => some ([], δ)
  | a :: as, δ => match xe a δ with
    | some (d, δ1) => match xes as δ1 with
      | some (ds, δ2) => some (d :: ds, δ2)
      | none => none
    | none => none
termination_by structural es => es
end
end
/-! ### statements -/
inductive Ou where
  | nx (δ : TL.Env) | rt (r : Rz) (δ : TL.Env) | bk (δ : TL.Env) | ct (δ : TL.Env) | xc (x : Xn) (δ : TL.Env)
noncomputable def whlGo (c : TL.Env → Option (Rz × TL.Env)) (b : TL.Env → Option Ou) : Nat → TL.Env → Option Ou
  | 0, _ => none
  | n + 1, δ => match c δ with
    | some (.ex x, δ1) => some (.xc x δ1)
    | some (.im (.bl true), δ1) => match b δ1 with
      | some (.nx δ2) => whlGo c b n δ2
      | some (.ct δ2) => whlGo c b n δ2
      | some (.bk δ2) => some (.nx δ2)
      | o => o
    | some (.im (.bl false), δ1) => some (.nx δ1)
    | _ => none
noncomputable def forGo (b : TL.Env → Option Ou) (g : Tg) : List D → TL.Env → Option Ou
  | [], δ => some (.nx δ)
  | x :: xs, δ => match setTg δ g x with
    | none => none
    | some δ0 => match b δ0 with
      | some (.nx δ2) => forGo b g xs δ2
      | some (.ct δ2) => forGo b g xs δ2
      | some (.bk δ2) => some (.nx δ2)
      | o => o
/-- the first handler that takes the exception; its slot is none at the end -/
noncomputable def hdGo (G : Gx) (T : Tb) (md : Md) (x : Xn) : List Hd → TL.Env → Option Ou
  | [], δ => some (.xc x δ)
  | h :: hs, δ => match G.exc h.n with
    | some (A, _) => match G.xm x.C A with
      | some true => match h.i with
        | some i => match δ[i]? with
          | some none => match xe G T md x h.x δ with
            | some (d, δ1) => some (.rt (.im d) δ1)
            | none => none
          | _ => none
        | none => match xe G T md x h.x δ with
          | some (d, δ1) => some (.rt (.im d) δ1)
          | none => none
      | some false => hdGo G T md x hs δ
      | none => none
    | none => none
/-- turns enough for every loop -/
@[irreducible] def turns : Nat := 2 ^ 100000
mutual
noncomputable def evC (G : Gx) (T : Tb) (md : Md) : C → TL.Env → Option Ou
  | .ret e, δ => match ee G T md false e δ with
    | some (.ex x, δ1) => some (.xc x δ1)
    | some (r, δ1) => some (.rt r δ1)
    | none => none
  | .retN, δ => some (.rt (.im .non) δ)
  | .exp e, δ => bR (ee G T md false e δ) (fun x δ1 => some (.xc x δ1)) fun _ δ1 => some (.nx δ1)
  | .set i e, δ => bR (ee G T md false e δ) (fun x δ1 => some (.xc x δ1)) fun d δ1 => if isOwn δ1 i = true then none else some (.nx (δ1.set i (some (.im d))))
  | .par is es, δ => if md.calm = true then match evs G T md es δ with
    | some (.inr x, δ1) => some (.xc x δ1)
    | some (.inl ds, δ1) => if is.any (isOwn δ1) = true then none else some (.nx (setAll δ1 is ds))
    | none => none else none
  | .sto n i e, δ => bR (ee G T md false e δ) (fun x δ1 => some (.xc x δ1)) fun d δ1 => if isOwn δ1 n = true then bR (ee G T md false i δ1) (fun x δ2 => some (.xc x δ2)) fun j δ2 => match j, δ2[n]? with
    | .int j, some (some (.own (.lst xs))) => (ixN xs.length j).map fun k => .nx (δ2.set n (some (.own (.lst (xs.set k d)))))
    | _, _ => none else none
  | .fld n f e, δ => bR (ee G T md false e δ) (fun x δ1 => some (.xc x δ1)) fun d δ1 => match δ1[n]? with
    | some (some (.own (.ins A ns ds))) => req (G.fld A f = true ∧ ns.length < 100) (some (.nx (δ1.set n (some (.own (.ins A (putN f ns) (putD f d ns ds)))))))
    | _ => none
  | .ifs c a b, δ => match ee G T md true c δ with
    | some (.ex x, δ1) => some (.xc x δ1)
    | some (.im (.bl true), δ1) => evB G T md a δ1
    | some (.im (.bl false), δ1) => evB G T md b δ1
    | _ => none
  | .whl c b, δ => whlGo (ee G T md true c) (evB G T md b) turns δ
  | .for_ g k its b, δ => match evs G T md its δ with
    | some (.inr _, _) => none
    | some (.inl ds, δ1) => if md.calm = true then (itD G.K k ds).bind fun xs => forGo (evB G T md b) g xs δ1 else none
    | none => none
  | .pass, δ => some (.nx δ)
  | .bad, _ => none
  | .rai n as, δ => match G.exc n with
    | some (A, some fs) => if md.calm = true then match evs G T md as δ with
      | some (.inr x, δ1) => some (.xc x δ1)
      | some (.inl ds, δ1) => if fs.length = ds.length then some (.xc ⟨A, fs, ds⟩ δ1) else none
      | none => none else none
    | _ => none
  | .try_ b hs, δ => if md.calm = true ∧ hs.all (fun h => (G.exc h.n).isSome) = true then match evB G T md b δ with
    | some (.xc x δ1) => hdGo G T ⟨md.gk, false⟩ x hs δ1
    | o => o else none
termination_by structural c => c
noncomputable def evB (G : Gx) (T : Tb) (md : Md) : List C → TL.Env → Option Ou
  | [], δ => some (.nx δ)
  | c :: cs, δ => match evC G T md c δ with
    | some (.nx δ1) => evB G T md cs δ1
    | o => o
termination_by structural cs => cs
end
/-- the own lists and instances among the arguments, behind the body -/
def backS : List S → TL.Env → Option (List S)
  | [], _ => some []
  | .im d :: r, _ :: δ => (backS r δ).map (.im d :: ·)
  | .own _ :: r, some (.own oc) :: δ => (backS r δ).map (.own oc :: ·)
  | _, _ => none
noncomputable def runF (G : Gx) (T : Tb) (md : Md) (f : Fc) (ss : List S) : Option (Rz × List S) :=
  req (ss.length = f.ps.length) (match evB G T md f.body (env0 f.N ss) with
    | some (.rt (.ex _) _) => none
    | some (.rt r δ) => (backS ss δ).map (r, ·)
    | some (.nx δ) => (backS ss δ).map (.im .non, ·)
    | some (.xc x δ) => (backS ss δ).map (.ex x, ·)
    | _ => none)
/-- the defs, k calls deep -/
noncomputable def Tn (G : Gx) : Nat → Tb
  | 0 => fun _ _ _ => none
  | k + 1 => fun md q ss => (G.fns q).bind fun f => runF G (Tn G k) md f ss
end RE
set_option Elab.async false
set_option linter.all false
set_option maxRecDepth 100000
set_option autoImplicit false
set_option maxHeartbeats 1000000
/-! REb: whether a text without places is that of the machine's text. -/
namespace RE
open PySem L2 TL
def Bt.nm : Bt → Str
  | .abs => "abs" | .int => "int" | .len => "len" | .str => "str" | .repr => "repr" | .bool => "bool" | .all => "all" | .any => "any" | .max => "max" | .min => "min"
def Ty.nm : Ty → Str
  | .int => "int" | .bool => "bool" | .str => "str" | .tuple => "tuple" | .list => "list"
def visB (sc : Scope) (n : Str) : Bool := decide (sc.names.lookup n = some .local) || (decide (sc.names.lookup n = some .cell) || decide (sc.names.lookup n = some .free))
def locB (sc : Scope) (n : Str) : Bool := decide (sc.names.lookup n = some .local)
def glB (sc : Scope) (n : Str) : Bool := decide (sc.names.lookup n = some .globalImplicit) && !(n == ("__debug__" : Str))
def nmB (n : Str) : Bool := !(n == ("__debug__" : Str)) && !(n == ("__classdict__" : Str))
def varB (N : List Str) (sc : Scope) (i : Nat) (n : Str) : Bool := decide (N[i]? = some n) && (visB sc n && nmB n)
def kwB : List Str → List Keyword → Bool
  | [], [] => true
  | k :: ks, w :: ws => decide (w.arg = some k) && kwB ks ws
  | _, _ => false
/-- the names of a for's target, and their slots -/
def tgB (N : List Str) (sc : Scope) : List Nat → List Expr → Bool
  | [], [] => true
  | i :: is, x :: xs => (match x with
    | .Name n _ => decide (N[i]? = some n) && locB sc n
    | _ => false) && tgB N sc is xs
  | _, _ => false
def tgtB (N : List Str) (sc : Scope) (g : Tg) (x : Expr) : Bool :=
  match g with
  | .one i => tgB N sc [i] [x]
  | .tup is => match x with
    | .Tuple xs _ _ => false && tgB N sc is xs
    | _ => false
/-- the names of a target, with their slots -/
def ownOf : List Nat → List Expr → List (Str × Nat)
  | i :: is, .Name n _ :: xs => (n, i) :: ownOf is xs
  | _, _ => []
def ownT (g : Tg) (x : Expr) : List (Str × Nat) :=
  match g with
  | .one i => ownOf [i] [x]
  | .tup is => match x with
    | .Tuple xs _ _ => ownOf is xs
    | _ => []
def isStar : Expr → Bool
  | .Starred _ _ => true
  | _ => false
/-- no f() -/
def notC0 : Expr → Bool
  | .Call (.Name _ _) [] [] _ => false
  | _ => true
/-- a name -/
def isNameE : Expr → Bool
  | .Name _ _ => true
  | _ => false
def dctB : List Str → List (Option Expr) → Bool
  | [], [] => true
  | k :: ks, some (.Constant (.str j) _ _) :: r => decide (k = j) && dctB ks r
  | _, _ => false
def isSetE : Expr → Bool
  | .Set _ _ _ => true
  | _ => false
/-- a comprehension's scope, as it stands in a def's -/
def rel (scope sc : Scope) : Scope := relabel scope { (default : PySem.Env) with scope := sc }
/-- what is walked: its parts, and whether it is so written -/
def itXs : Ik → Expr → List Expr
  | .seq, x => [x]
  | _, .Call _ ys _ _ => ys
  | _, _ => []
def ikN : Ik → Str
  | .seq => "" | .rng => "range" | .zip => "zip" | .enu => "enumerate"
def itB (sc : Scope) (k : Ik) (x : Expr) : Bool :=
  match k with
  | .seq => !isSetE x
  | k => match x with
    | .Call (.Name g _) _ [] _ => decide (g = ikN k) && glB sc (ikN k)
    | _ => false
mutual
def okE (N : List Str) : Scope → E → Expr → Bool
  | sc, .var i, x => match x with
    | .Name n _ => varB N sc i n
    | _ => false
  | sc, .glo n, x => match x with
    | .Name m _ => decide (n = m) && glB sc n
    | _ => false
  | _, .int i, x => match x with
    | .Constant (.int j) _ _ => decide (i = j)
    | _ => false
  | _, .str i, x => match x with
    | .Constant (.str j) _ _ => decide (i = j)
    | _ => false
  | _, .bl i, x => match x with
    | .Constant (.bool j) _ _ => decide (i = j)
    | _ => false
  | _, .non, x => match x with
    | .Constant .none _ _ => true
    | _ => false
  | sc, .bin op a b, x => match x with
    | .BinOp y o z _ => decide (op = o) && (okE N sc a y && okE N sc b z)
    | _ => false
  | sc, .neg a, x => match x with
    | .UnaryOp .USub y _ => okE N sc a y
    | _ => false
  | sc, .nt a, x => match x with
    | .UnaryOp .Not y _ => okE N sc a y
    | _ => false
  | sc, .bop isAnd es, x => match x with
    | .BoolOp .And ys _ => isAnd && okEs N sc es ys
    | .BoolOp .Or ys _ => !isAnd && okEs N sc es ys
    | _ => false
  | sc, .ifx c a b, x => match x with
    | .IfExp y z w _ => okE N sc c y && (okE N sc a z && okE N sc b w)
    | _ => false
  | sc, .cmp op a b, x => match x with
    | .Compare y [o] [z] _ => decide (op = o) && (okE N sc a y && okE N sc b z)
    | _ => false
  | sc, .call f as kn kv, x => match x with
    | .Call (.Name g _) ys ws _ => decide (f = g) && (glB sc f && (okEs N sc as ys && (kwB kn ws && okEs N sc kv (ws.map (·.value)))))
    | _ => false
  | sc, .callO f i as, x => match x with
    | .Call (.Name g _) (.Name n _ :: ys) [] _ => decide (f = g) && (glB sc f && (varB N sc i n && okEs N sc as ys))
    | _ => false
  | sc, .callF f a as, x => match x with
    | .Call (.Name g _) (y :: ys) [] _ => decide (f = g) && (glB sc f && (okE N sc a y && okEs N sc as ys))
    | _ => false
  | sc, .blt b as, x => match x with
    | .Call (.Name g _) ys [] _ => decide (b.nm = g) && (glB sc b.nm && okEs N sc as ys)
    | _ => false
  | sc, .isT a t, x => match x with
    | .Call (.Name g _) [y, .Name m _] [] _ => decide (g = "isinstance") && (glB sc "isinstance" && (okE N sc a y && (decide (m = t.nm) && glB sc t.nm)))
    | _ => false
  | sc, .isC a c, x => match x with
    | .Call (.Name g _) [y, .Name m _] [] _ => decide (g = "isinstance") && (glB sc "isinstance" && (okE N sc a y && (decide (m = c) && glB sc c)))
    | _ => false
  | sc, .meth o m as kn kv, x => match x with
    | .Call (.Attribute y n ap) ys ws cp => (decide (m = n) && ((ap.endLine == cp.line) && decide (ys.length + ws.length < 20))) && (okE N sc o y && (isNameE y && (okEs N sc as ys && (kwB kn ws && okEs N sc kv (ws.map (·.value))))))
    | _ => false
  | sc, .att o f, x => match x with
    | .Attribute y n _ => decide (f = n) && (okE N sc o y && notC0 y)
    | _ => false
  | sc, .attO i f, x => match x with
    | .Attribute (.Name n _) m _ => decide (f = m) && varB N sc i n
    | _ => false
  | sc, .sub o i, x => match x with
    | .Subscript y z _ => okE N sc o y && okE N sc i z
    | _ => false
  | sc, .subO k i, x => match x with
    | .Subscript (.Name n _) z _ => varB N sc k n && okE N sc i z
    | _ => false
  | sc, .slL o a, x => match x with
    | .Subscript y (.Slice (some z) none none _) _ => okE N sc o y && okE N sc a z
    | _ => false
  | sc, .slH o a, x => match x with
    | .Subscript y (.Slice none (some z) none _) _ => okE N sc o y && okE N sc a z
    | _ => false
  | sc, .lst es, x => match x with
    | .List ys _ => okEs N sc es ys
    | _ => false
  | sc, .tup es, x => match x with
    | .Tuple ys _ _ => okEs N sc es ys
    | _ => false
  | sc, .lc g k its ifs elt, x => match x with
    | .ListComp y [⟨t, it, fs, z⟩] scope _ => (decide (z = 0) && decide (fs.length ≤ 1)) && (tgtB N (rel scope sc) g t && (blkC N sc scope (ownT g t) && (itB sc k it && (okEs N sc its (itXs k it) && (okEs N (rel scope sc) ifs fs && okE N (rel scope sc) elt y)))))
    | _ => false
  | sc, .fst es, x => match x with
    | .JoinedStr ys _ => okEs N sc es ys && decide (1 ≤ ys.length)
    | _ => false
  | sc, .fmt e, x => match x with
    | .FormattedValue y c none _ => decide (c = -1) && okE N sc e y
    | _ => false
  | sc, .dct ks es, x => match x with
    | .Dict ys zs _ => (dctB ks ys && decide (ks.length = es.length ∧ ks.length ≤ 15)) && okEs N sc es zs
    | _ => false
termination_by structural _ e => e
def okEs (N : List Str) : Scope → List E → List Expr → Bool
  | _, [], ys => match ys with
    | [] => true
    | _ :: _ => false
  | sc, e :: es, ys => match ys with
    | [] => false
    | y :: r => okE N sc e y && okEs N sc es r
termination_by structural _ es => es
end
/-! ### a handler's suite; the exception's name, its slot -/
mutual
def okX (N : List Str) (sc : Scope) (nm : Option (Str × Nat)) : Xe → Expr → Bool
  | .c e, x => okE N sc e x
  | .fl f, x => match x with
    | .Attribute (.Name n _) g _ => decide (f = g) && (match nm with
      | some (m, i) => decide (m = n) && varB N sc i n
      | none => false)
    | _ => false
  | .rep a, x => match x with
    | .Call (.Name g _) [y] [] _ => decide (g = "repr") && (glB sc "repr" && (okX N sc nm a y && !isStar y))
    | _ => false
  | .tup as, x => match x with
    | .Tuple ys _ _ => okXs N sc nm as ys
    | _ => false
  | .eq a b, x => match x with
    | .Compare y [.Eq] [z] _ => okX N sc nm a y && (okX N sc nm b z && !isSetE z)
    | _ => false
  | .isN a, x => match x with
    | .Compare y [.Is] [.Constant .none _ _] _ => okX N sc nm a y
    | _ => false
  | .and a b, x => match x with
    | .BoolOp .And [y, z] _ => okX N sc nm a y && okX N sc nm b z
    | _ => false
termination_by structural e => e
def okXs (N : List Str) (sc : Scope) (nm : Option (Str × Nat)) : List Xe → List Expr → Bool
  | [], ys => match ys with
    | [] => true
    | _ :: _ => false
  | e :: es, ys => match ys with
    | [] => false
    | y :: r => okX N sc nm e y && (!isStar y && okXs N sc nm es r)
termination_by structural es => es
end
def okH (N : List Str) (sc : Scope) (h : Hd) (x : ExceptHandler) : Bool :=
  match x with
  | .ExceptHandler (some (.Name g _)) nm [.Return (some y) _] _ => decide (h.n = g) && (glB sc g && (match h.i, nm with
    | none, none => okX N sc none h.x y
    | some i, some n => decide (N[i]? = some n) && (locB sc n && okX N sc (some (n, i)) h.x y)
    | _, _ => false))
  | _ => false
def okHs (N : List Str) (sc : Scope) : List Hd → List ExceptHandler → Bool
  | [], [] => true
  | h :: hs, x :: xs => okH N sc h x && okHs N sc hs xs
  | _, _ => false
/-! ### statements -/
def isLc : Expr → Bool
  | .ListComp _ _ _ _ => true
  | .SetComp _ _ _ _ => true
  | .DictComp _ _ _ _ _ => true
  | _ => false
def parB (N : List Str) (sc : Scope) : List Nat → List Expr → Nat → Bool
  | [], [], _ => true
  | i :: is, x :: xs, l => (match x with
    | .Name n p => decide (N[i]? = some n) && (locB sc n && decide (p.line = l))
    | _ => false) && parB N sc is xs l
  | _, _, _ => false
mutual
def okC (N : List Str) (sc : Scope) : C → Stmt → Bool
  | .ret e, x => match x with
    | .Return (some y) _ => okE N sc e y
    | _ => false
  | .retN, x => match x with
    | .Return none _ => true
    | _ => false
  | .exp e, x => match x with
    | .Expr y _ => okE N sc e y && !isLc y
    | _ => false
  | .set i e, x => match x with
    | .Assign [.Name n p] y _ => decide (N[i]? = some n) && ((locB sc n || decide (sc.names.lookup n = some .cell)) && (okE N sc e y && (match y with
      | .ListComp _ _ s q => locB sc n && (decide (sc.kind = .function) && ((p.line == q.line) && !(s.names.any fun (m, k) => m == n && (k == .local || k == .cell))))
      | _ => !isLc y)))
    | _ => false
  | .par is es, x => match x with
    | .Assign [.Tuple xs _ _] (.Tuple ys _ _) _ => parB N sc is xs ((xs.head?.map (·.pos.line)).getD 0) && (okEs N sc es ys && (decide (ys.length = xs.length) && ((decide (xs.length = 2) || decide (xs.length = 3)) && (decide is.Nodup && (!ys.all (foldedForSure 8) && !ys.all (constantsAlone 8))))))
    | _ => false
  | .sto k i e, x => match x with
    | .Assign [.Subscript (.Name n _) z _] y _ => varB N sc k n && (okE N sc i z && (okE N sc e y && !isLc y))
    | _ => false
  | .fld k f e, x => match x with
    | .Assign [.Attribute (.Name n _) m _] y _ => varB N sc k n && (decide (f = m) && (okE N sc e y && !isLc y))
    | _ => false
  | .ifs c a b, x => match x with
    | .If y s t _ => okE N sc c y && (okB N sc a s && okB N sc b t)
    | _ => false
  | .whl c b, x => match x with
    | .While y s [] _ => okE N sc c y && okB N sc b s
    | _ => false
  | .for_ g k its b, x => match x with
    | .For t it s [] _ => tgtB N sc g t && (itB sc k it && (okEs N sc its (itXs k it) && okB N sc b s))
    | _ => false
  | .pass, x => match x with
    | .Pass _ => true
    | _ => false
  | .bad, _ => true
  | .rai n as, x => match x with
    | .Raise (some (.Call (.Name g _) ys [] _)) none _ => decide (n = g) && (glB sc n && okEs N sc as ys)
    | _ => false
  | .try_ b hs, x => match x with
    | .Try s (h :: t) [] [] _ => okB N sc b s && okHs N sc hs (h :: t)
    | _ => false
termination_by structural c => c
def okB (N : List Str) (sc : Scope) : List C → List Stmt → Bool
  | [], ys => match ys with
    | [] => true
    | _ :: _ => false
  | c :: cs, ys => match ys with
    | [] => false
    | y :: r => okC N sc c y && okB N sc cs r
termination_by structural cs => cs
end
end RE
set_option Elab.async false
set_option linter.all false
set_option maxRecDepth 100000
set_option autoImplicit false
set_option maxHeartbeats 1000000
/-! REc: judgements that know exceptions; a def's promise; a def's body run; what is known of the world. -/
namespace RE
open PySem PySem.Spec PyProof.Rows L2 TL
/-- an exception's fields stand in its dict -/
def RepX (M : Addr → Prop) (H : Hp) (x : Xn) (d : Option Addr) : Prop := (x.ns = [] ∧ x.ds = [] ∧ d = none) ∨ ∃ dx vs, d = some dx ∧ ¬ M dx ∧ H dx = some (.xd (x.ns.zip vs)) ∧ Reps M H x.ds vs
theorem RepX.anti {M M' : Addr → Prop} {H : Hp} {x : Xn} {d : Option Addr} (h : ∀ a, M a → M' a) (r : RepX M' H x d) : RepX M H x d := by
  rcases r with r | ⟨dx, vs, e, m, s, r⟩
  · exact .inl r
  · exact .inr ⟨dx, vs, e, fun z => m (h dx z), s, Reps.anti h _ r⟩
/-- what is wanted where x is raised -/
def Kx (X : Cx) (M W : Addr → Prop) (σ : L2.St) (H : Hp) (δ' : TL.Env) (x : Xn) : Prop :=
  ∃ Wx : WX, Takes X Wx ∧ ∀ dx H', Stp M W σ δ' H H' → RepX M H' x dx → Wx (.ref x.C) dx σ H'
def JX (X : Cx) (e : Expr) (δ : TL.Env) (x : Xn) (δ' : TL.Env) : Prop := ∀ (M W : Addr → Prop) (σ : L2.St) (H : Hp) (Q : VK), Good M W H → EnvR M W H σ δ → Kx X M W σ H δ' x → wE X e σ H Q
def JXT (X : Cx) (e : Expr) (δ : TL.Env) (x : Xn) (δ' : TL.Env) : Prop := ∀ (M W : Addr → Prop) (σ : L2.St) (H : Hp) (Q : Bool → Hp → Prop), Good M W H → EnvR M W H σ δ → Kx X M W σ H δ' x → wT X e σ H Q
def JXA (X : Cx) (es : List Expr) (δ : TL.Env) (x : Xn) (δ' : TL.Env) : Prop := ∀ (M W : Addr → Prop) (σ : L2.St) (H : Hp) (Q : List V → Hp → Prop), Good M W H → EnvR M W H σ δ → Kx X M W σ H δ' x → wA X es σ H Q
def JXK (X : Cx) (es : List Keyword) (δ : TL.Env) (x : Xn) (δ' : TL.Env) : Prop := ∀ (M W : Addr → Prop) (σ : L2.St) (H : Hp) (Q : List V → Hp → Prop), Good M W H → EnvR M W H σ δ → Kx X M W σ H δ' x → wK X es σ H Q
def JE (X : Cx) (e : Expr) (δ : TL.Env) : Rz → TL.Env → Prop
  | .im d, δ' => TR X e δ d δ'
  | .fr xs, δ' => TF X e δ xs δ'
  | .ex x, δ' => JX X e δ x δ'
def JA (X : Cx) (es : List Expr) (δ : TL.Env) : Sum (List D) Xn → TL.Env → Prop
  | .inl ds, δ' => TA X es δ ds δ'
  | .inr x, δ' => JXA X es δ x δ'
def JK (X : Cx) (es : List Keyword) (δ : TL.Env) : Sum (List D) Xn → TL.Env → Prop
  | .inl ds, δ' => TK X es δ ds δ'
  | .inr x, δ' => JXK X es δ x δ'
def JT (X : Cx) (e : Expr) (δ : TL.Env) : Rz → TL.Env → Prop
  | .im (.bl b), δ' => TT X e δ b δ'
  | .ex x, δ' => JXT X e δ x δ'
  | _, _ => True
section
variable {X : Cx} {M W : Addr → Prop} {σ : L2.St} {H H1 : Hp} {δ δ1 δ' : TL.Env} {x : Xn} {e : Expr} {r : Rz} {d : D}
theorem Kx.step (s : Stp M W σ δ1 H H1) (k : Kx X M W σ H δ' x) : Kx X M W σ H1 δ' x := by
  obtain ⟨Wx, tk, h⟩ := k
  exact ⟨Wx, tk, fun dx H' s' r => h dx H' (s.trans s') r⟩
/-- data, new or not -/
theorem JE.tr (h : JE X e δ r δ1) (hd : r.d = some d) : TR X e δ d δ1 := by
  cases r with
  | im d' => cases hd; exact h
  | fr xs => cases hd; exact tr_fr h
  | ex x => cases hd
/-! ### what a part's answer may be -/
theorem bR_some {α : Type} {o : Option (Rz × TL.Env)} {kx : Xn → TL.Env → Option α} {k : D → TL.Env → Option α} {z : α} (h : bR o kx k = some z) :
    (∃ x δ, o = some (.ex x, δ) ∧ kx x δ = some z) ∨ ∃ r d δ, o = some (r, δ) ∧ r.d = some d ∧ k d δ = some z := by
  unfold bR at h
  split at h
  · cases h
  · exact .inl ⟨_, _, rfl, h⟩
  · exact .inr ⟨_, _, _, rfl, rfl, h⟩
  · exact .inr ⟨_, _, _, rfl, rfl, h⟩
theorem bA_some {o : Option (Sum (List D) Xn × TL.Env)} {k : List D → TL.Env → Option (Rz × TL.Env)} {z : Rz × TL.Env} (h : bA o k = some z) :
    (∃ x δ, o = some (.inr x, δ) ∧ z = (.ex x, δ)) ∨ ∃ ds δ, o = some (.inl ds, δ) ∧ k ds δ = some z := by
  unfold bA at h
  split at h
  · cases h
  · cases h; exact .inl ⟨_, _, rfl, rfl⟩
  · exact .inr ⟨_, _, rfl, h⟩
theorem bB_some {o : Option (Rz × TL.Env)} {k : Bool → TL.Env → Option (Rz × TL.Env)} {z : Rz × TL.Env} (h : bB o k = some z) :
    (∃ x δ, o = some (.ex x, δ) ∧ z = (.ex x, δ)) ∨ ∃ b δ, o = some (.im (.bl b), δ) ∧ k b δ = some z := by
  unfold bB at h
  split at h
  · cases h; exact .inl ⟨_, _, rfl, rfl⟩
  · exact .inr ⟨_, _, rfl, h⟩
  · cases h
end

/-! ### a def's promise -/
def PostX (M W : Addr → Prop) (vs : List V) (H : Hp) (ss' : List S) (Q : VK) (Ex : XK) : Rz → Prop
  | .im d => ∀ v H', Xt W H H' → Good M W H' → EnvR M W H' (vs.map some) (ss'.map some) → Rep M H' d v → Q v H'
  | .fr xs => ∀ v H', Xt W H H' → Good M W H' → EnvR M W H' (vs.map some) (ss'.map some) → RepR M H H' (.fr xs) v → Q v H'
  | .ex x => ∀ dx H', Xt W H H' → Good M W H' → EnvR M W H' (vs.map some) (ss'.map some) → RepX M H' x dx → Ex (.ref x.C) dx H'
def spX (T : Tb) (md : Md) (q : Str) (vs : List V) (H : Hp) (Q : VK) (Ex : XK) : Prop := ∃ (M W : Addr → Prop) (ss ss' : List S) (r : Rz), T md q ss = some (r, ss') ∧ Good M W H ∧ EnvR M W H (vs.map some) (ss.map some) ∧ PostX M W vs H ss' Q Ex r
structure FnX (P : Program) (w : World) (K : PySem.W.Frag) (mg : Str → Option Value) (base : Heap) (T : Tb) (k : Nat) (q : Str) (f : Addr) (fd : FuncData) (ps : List Str) : Prop where
  run : ∀ (md : Md) (A : Around) (outer : List PySem.Env) (s : Shared) (H : Hp) (args : Args) (us : List Value) (vs : List V) (Q : VK) (Ex : XK), L2H.RoomH k A → (md.calm = true → A.handled = none) → (md.gk = true → A.guards = some []) → Env0 P w K mg base A outer s H → BindsTo s fd args (ps.zip us) → Vals vs us →
    vs.length = ps.length → spX T md q vs H Q Ex → codeAny (model P w) A (.call (.ref f) args) (CR (CX P w) outer P w H s Q Ex) s

/-! ### statements -/
/-- the state at the def's entry -/
structure Bs where
  M : Addr → Prop
  W : Addr → Prop
  H : Hp
  σ : L2.St
  δ : TL.Env
structure Sv (B : Bs) (M W : Addr → Prop) (σ : L2.St) (H : Hp) (δ : TL.Env) : Prop where
  good : Good M W H
  env : EnvR M W H σ δ
  mm : ∀ a, B.M a → M a
  mn : ∀ a, M a → B.M a ∨ B.H a = none
  ww : ∀ a, B.W a → W a
  wn : ∀ a, W a → B.W a ∨ B.H a = none
  xt : Xt B.W B.H H
  kp : Kp B.δ B.σ δ σ
def PoS (X : Cx) (B : Bs) (Dn : Ends) : Ou → Prop
  | .nx δ => ∀ M W σ H, Sv B M W σ H δ → Dn.nx σ H
  | .bk δ => ∀ M W σ H, Sv B M W σ H δ → Dn.bk σ H
  | .ct δ => ∀ M W σ H, Sv B M W σ H δ → Dn.ct σ H
  | .rt (.im d) δ => ∀ M W σ H v, Sv B M W σ H δ → Rep M H d v → Dn.rt v H
  | .rt (.fr xs) δ => ∀ M W σ H p vs, Sv B (Mp M p) W σ H δ → ¬ B.M p → B.H p = none → H p = some (.lst vs) → Reps (Mp M p) H xs vs → Dn.rt (.ref p) H
  | .rt (.ex _) _ => True
  | .xc x δ => ∃ Wx : WX, Takes X Wx ∧ ∀ M W σ H dx, Sv B M W σ H δ → RepX M H x dx → Wx (.ref x.C) dx σ H
def JS (X : Cx) (st : Stmt) (δ : TL.Env) (o : Ou) : Prop := ∀ (B : Bs) (M W : Addr → Prop) (σ : L2.St) (H : Hp) (Dn : Ends), Sv B M W σ H δ → PoS X B Dn o → wS X st Dn σ H
def JB (X : Cx) (sts : List Stmt) (δ : TL.Env) (o : Ou) : Prop := ∀ (B : Bs) (M W : Addr → Prop) (σ : L2.St) (H : Hp) (Dn : Ends), Sv B M W σ H δ → PoS X B Dn o → wB X sts Dn σ H
section
variable {B : Bs} {M W : Addr → Prop} {σ : L2.St} {H H1 : Hp} {δ δ1 : TL.Env} {p : Addr} {X : Cx} {x : Xn}
theorem Sv.back (v : Sv B M W σ H δ) (h : H p = none) : B.H p = none := by
  cases q : B.H p with
  | none => rfl
  | some o =>
    exfalso
    by_cases hw : B.W p
    · exact v.good.mt p (v.good.wm p (v.ww p hw)) h
    · rw [v.xt p o hw q] at h; cases h
theorem Sv.xt' (v : Sv B M W σ H δ) (x : Xt W H H1) : Xt B.W B.H H1 := fun a o nw h => x a o (fun w => (v.wn a w).elim nw (fun z => by rw [z] at h; cases h)) (v.xt a o nw h)
theorem Sv.kp' (v : Sv B M W σ H δ) (sh : Sh δ δ1) : Kp B.δ B.σ δ1 σ := fun i xs h => by
  obtain ⟨ys, h1, h2⟩ := v.kp i xs h
  obtain ⟨zs, h3⟩ := sh i ys h1
  exact ⟨zs, h3, h2⟩
theorem Sv.step (v : Sv B M W σ H δ) (s : Stp M W σ δ1 H H1) (sh : Sh δ δ1) : Sv B M W σ H1 δ1 := ⟨s.good, s.env, v.mm, v.mn, v.ww, v.wn, v.xt' s.xt, v.kp' sh⟩
theorem Sv.stepF (v : Sv B M W σ H δ) (s : Stp (Mp M p) W σ δ1 H H1) (n : H p = none) (sh : Sh δ δ1) : Sv B (Mp M p) W σ H1 δ1 :=
  ⟨s.good, s.env, fun a m => .inl (v.mm a m), fun a m => m.elim (v.mn a) (fun e => .inr (by rw [e]; exact v.back n)), v.ww, v.wn, v.xt' s.xt, v.kp' sh⟩
theorem Sv.nB (v : Sv B M W σ H δ) (n : H p = none) : ¬ B.M p := fun m => v.good.mt p (v.mm p m) n
theorem Sv.kx {Wx : WX} (v : Sv B M W σ H δ) (sh : Sh δ δ1) (tk : Takes X Wx) (h : ∀ M W σ H dx, Sv B M W σ H δ1 → RepX M H x dx → Wx (.ref x.C) dx σ H) : Kx X M W σ H δ1 x :=
  ⟨Wx, tk, fun dx H' s r => h M W σ H' dx (v.step s sh) r⟩
theorem Sv.refl (g : Good M W H) (e : EnvR M W H σ δ) : Sv ⟨M, W, H, σ, δ⟩ M W σ H δ := ⟨g, e, fun _ h => h, fun _ h => .inl h, fun _ h => h, fun _ h => .inl h, Xt.refl H, Kp.refl⟩
theorem Sv.trans {M1 W1 : Addr → Prop} {σ1 : L2.St} (v : Sv B M W σ H δ) (u : Sv ⟨M, W, H, σ, δ⟩ M1 W1 σ1 H1 δ1) : Sv B M1 W1 σ1 H1 δ1 := by
  refine ⟨u.good, u.env, fun a m => u.mm a (v.mm a m), fun a m => ?_, fun a m => u.ww a (v.ww a m), fun a m => ?_, v.xt' u.xt, fun i xs h => ?_⟩
  · rcases u.mn a m with m | m
    · exact v.mn a m
    · exact .inr (v.back m)
  · rcases u.wn a m with m | m
    · exact v.wn a m
    · exact .inr (v.back m)
  · obtain ⟨ys, h1, e1⟩ := v.kp i xs h
    obtain ⟨zs, h2, e2⟩ := u.kp i ys h1
    exact ⟨zs, h2, e2.trans e1⟩
/-- data that stood stands -/
theorem Sv.rep {M1 W1 : Addr → Prop} {σ1 : L2.St} (g : Good M W H) (u : Sv ⟨M, W, H, σ, δ⟩ M1 W1 σ1 H1 δ1) {d : D} {w : V} (r : Rep M H d w) : Rep M1 H1 d w :=
  Rep.ex (fun a o n h => u.xt a o (fun z => n (u.mm a (g.wm a z))) h) d (Rep.gr u.mn d r)
theorem Sv.reps {M1 W1 : Addr → Prop} {σ1 : L2.St} (g : Good M W H) (u : Sv ⟨M, W, H, σ, δ⟩ M1 W1 σ1 H1 δ1) {d : List D} {w : List V} (r : Reps M H d w) : Reps M1 H1 d w :=
  Reps.ex (fun a o n h => u.xt a o (fun z => n (u.mm a (g.wm a z))) h) d (Reps.gr u.mn d r)
end

/-! ### a def's body, run -/
/-- the same context, calm or not -/
def cxM (cm : Bool) (X : Cx) : Cx := { X with calm := cm }
theorem inv_hot {CX : CXT} {P : Program} {w : World} {K : PySem.W.Frag} {mg : Str → Option Value} {base : Heap} {N ps : List Str} {qual : Str} {scope : Scope} {f : Addr} {cd : Value} {A : Around} {outer : List PySem.Env} {s s1 : Shared} {H : Hp} {E : XK} {us : List Value} {vs : List V} {cm : Bool}
    (S : FnScope N ps scope) (hc : cm = true → A.handled = none) (e0 : Env0 P w K mg base A outer s H) (hl : vs.length = ps.length) (r : Vals vs us)
    (x : InCallC s s.heap.objs.size (bindL (envOfC qual scope s.heap.objs.size f cd).kindOf (ps.zip us) fun _ => none) (cellsFrom (s.heap.objs.size + 1) scope.names []) (bindC (envOfC qual scope s.heap.objs.size f cd).kindOf (ps.zip us) fun _ => none) s1) :
    Inv (cxM cm (cxOf CX P w K mg base N qual scope f cd A outer s H E)) [] (start N vs) H s1 := by
  have e1 : Env0 P w K mg base { A with handled := none } outer s H := ⟨e0.frames, e0.mod, e0.bs, e0.bsz, e0.funs, e0.frf, e0.hok, e0.bare⟩
  have I := inv_start (CX := CX) (E := E) (qual := qual) (f := f) (cd := cd) (A := { A with handled := none }) S rfl e1 hl r x
  exact { I with ok := { I.ok with hd := hc } }
section
variable {P : Program} {w : World} {K : PySem.W.Frag} {mg : Str → Option Value} {base : Heap}
theorem backS_len : ∀ {ss : List S} {δ : TL.Env} {ss' : List S}, backS ss δ = some ss' → ss'.length = ss.length
  | [], _, _, h => by cases h; rfl
  | .im d :: r, [], _, h => by cases h
  | .im d :: r, _ :: δ, _, h => by
    simp only [backS, Option.map_eq_some_iff] at h
    obtain ⟨t, h1, rfl⟩ := h
    simp [backS_len h1]
  | .own _ :: r, [], _, h => by cases h
  | .own _ :: r, none :: δ, _, h => by cases h
  | .own _ :: r, some (.im _) :: δ, _, h => by cases h
  | .own _ :: r, some (.own oc) :: δ, _, h => by
    simp only [backS, Option.map_eq_some_iff] at h
    obtain ⟨t, h1, rfl⟩ := h
    simp [backS_len h1]
theorem backS_at : ∀ {ss : List S} {δ : TL.Env} {ss' : List S}, backS ss δ = some ss' → ∀ (i : Nat) (s : S), ss[i]? = some s → match s with
    | .im d => ss'[i]? = some (.im d)
    | .own _ => ∃ ys, ss'[i]? = some (.own ys) ∧ δ[i]? = some (some (.own ys))
  | [], _, _, h, i, s, hs => by simp at hs
  | .im d :: r, [], _, h, _, _, _ => by cases h
  | .im d :: r, _ :: δ, _, h, i, s, hs => by
    simp only [backS, Option.map_eq_some_iff] at h
    obtain ⟨t, h1, rfl⟩ := h
    cases i with
    | zero => cases hs; rfl
    | succ i => exact backS_at h1 i s (by simpa using hs)
  | .own _ :: r, [], _, h, _, _, _ => by cases h
  | .own _ :: r, none :: δ, _, h, _, _, _ => by cases h
  | .own _ :: r, some (.im _) :: δ, _, h, _, _, _ => by cases h
  | .own _ :: r, some (.own oc) :: δ, _, h, i, s, hs => by
    simp only [backS, Option.map_eq_some_iff] at h
    obtain ⟨t, h1, rfl⟩ := h
    cases i with
    | zero => cases hs; exact ⟨oc, rfl, rfl⟩
    | succ i => exact backS_at h1 i s (by simpa using hs)
theorem fin_of {ss : List S} {δ : TL.Env} {ss' : List S} (h : backS ss δ = some ss') : FinA ss δ ss' := ⟨backS_len h, fun i s hs => by
  have := backS_at h i s hs
  cases s <;> exact this⟩
/-- the arguments behind the body -/
theorem args_end {M W M' W' : Addr → Prop} {N : List Str} {vs : List V} {ss ss' : List S} {δ' : TL.Env} {σ' : L2.St} {H H' : Hp} (Ev : EnvR M W H (vs.map some) (ss.map some)) (g : Good M W H) (fin : FinA ss δ' ss')
    (v : Sv ⟨M, W, H, start N vs, env0 N ss⟩ M' W' σ' H' δ') : Xt W H H' ∧ Good M W H' ∧ EnvR M W H' (vs.map some) (ss'.map some) := by
  have A : Aft M W M' W' (env0 N ss) (start N vs) H δ' σ' H' := ⟨⟨v.mm, v.mn, v.ww, v.wn⟩, v.xt, v.good, v.env, v.kp⟩
  exact fn_end (r := .im .non) (v := .non) (Q := fun _ H' => Xt W H H' ∧ Good M W H' ∧ EnvR M W H' (vs.map some) (ss'.map some)) g Ev fin A rfl fun _ _ a b c _ => ⟨a, b, c⟩
theorem fn_runX {k : Nat} {f : Addr} {name qual : Str} {params : Arguments} {body : List Stmt} {scope : Scope} {dV kV doc pm cdv ct oc : Value} {an od : Option Addr} {osl : Array (Option Value)} {N ps : List Str} {T : Tb} {q : Str}
    (lk : K.lookup f = some ⟨oc, od, .func (PySem.W.fnOf name qual params body scope dV kV doc pm an cdv ct), osl⟩) (hcd : PySem.W.codeIn K cdv qual = true) (S : FnScope N ps scope)
    (hb : ∀ (md : Md) (A : Around) (outer : List PySem.Env) (s : Shared) (H : Hp) (Ex : XK) (ss : List TL.S) (r : Rz) (ss' : List TL.S), L2H.RoomH k (A.deeper (PyProof.Rows.envOfC qual scope s.heap.objs.size f cdv)) → (md.calm = true → A.handled = none) → (md.gk = true → A.guards = some []) → T md q ss = some (r, ss') → ss.length = ps.length →
      ∃ o δ', JB (cxM md.calm (cxOf (CX P w) P w K mg base N qual scope f cdv A outer s H Ex)) body (env0 N ss) o ∧ FinA ss δ' ss' ∧ ((o = .rt r δ' ∧ ∀ x, r ≠ .ex x) ∨ (o = .nx δ' ∧ r = .im .non) ∨ ∃ x, o = .xc x δ' ∧ r = .ex x)) :
    FnX P w K mg base T (k + 1) q f (PySem.W.fnOf name qual params body scope dV kV doc pm an cdv ct) ps := by
  refine ⟨fun md A outer s H args us vs Q Ex hr hcm hg e0 hbd rv hl hsp => ?_⟩
  obtain ⟨M, W, ss, ss', r, hR, g, Ev, post⟩ := hsp
  have hsl : ss.length = ps.length := by have := Ev.len; simp at this; omega
  have hk : K.In s.heap := e0.mod.kin.keeps fun b o e => (e0.bs b o e).1
  have hnl : s.heap.NoLimit := e0.mod.nolimit.keeps fun b o e => (e0.bs b o e).1
  have kinds : ∀ y ∈ ps.zip us, scope.names.lookup y.1 = some .local ∨ (scope.names.lookup y.1 = some .cell ∧ ((cellsFrom (s.heap.objs.size + 1) scope.names []).lookup y.1).isSome = true) := by
    rintro ⟨n, v⟩ hy
    rcases S.par n (List.of_mem_zip hy).1 with z | z
    · exact .inl z
    · exact .inr ⟨z, PySem.W.cellsFrom_some _ _ _ (.inl z)⟩
  refine PySem.codeAny_call_function hr.depth (hk _ _ lk) rfl S.co S.gen rfl (PySem.W.codeRec_of hk hcd) (hbd _ _ _ _ ?_)
  refine wpAny_newFunctionEnv_cells S.kind kinds fun env he s1 x => ?_
  subst he
  refine ⟨hnl.keeps x.toInCall.keep, codeAny_func ?_⟩
  obtain ⟨o, δ', jb, fin, ho⟩ := hb md A outer s H Ex ss r ss' (hr.deeper _) hcm hg hR hsl
  have I : Inv (cxM md.calm (cxOf (CX P w) P w K mg base N qual scope f cdv A outer s H Ex)) [] (start N vs) H s1 := inv_hot S hcm e0 hl rv x
  have v0 : Sv ⟨M, W, H, start N vs, env0 N ss⟩ M W (start N vs) H (env0 N ss) := Sv.refl g (env_start Ev)
  have body_ok : wB (cxM md.calm (cxOf (CX P w) P w K mg base N qual scope f cdv A outer s H Ex)) body { nx := fun _ H' => Q .non H', rt := Q } (start N vs) H := by
    refine jb _ M W _ H _ v0 ?_
    rcases ho with ⟨rfl, hnx⟩ | ⟨rfl, rfl⟩ | ⟨y, rfl, rfl⟩
    · cases r with
      | im d => exact fun M' W' σ' H' v sv rr => let ⟨a, b, c⟩ := args_end Ev g fin sv; post v H' a b c (Rep.anti sv.mm d rr)
      | fr xs => exact fun M' W' σ' H' p us sv np hp h1 rr => let ⟨a, b, c⟩ := args_end Ev g fin sv; post _ H' a b c ⟨p, us, rfl, hp, h1, Reps.anti (fun a z => z.elim (fun m => sv.mm a m) (fun e => .inr e)) xs rr⟩
      | ex y => exact absurd rfl (hnx y)
    · exact fun M' W' σ' H' sv => let ⟨a, b, c⟩ := args_end Ev g fin sv; post .non H' a b c rfl
    · refine ⟨fun cls d _ H => Ex cls d H, takes_of rfl rfl rfl rfl, fun M' W' σ' H' dx sv rx => ?_⟩
      let ⟨a, b, c⟩ := args_end Ev g fin sv
      exact post dx H' a b c (rx.anti sv.mm)
  refine wpAny_mono (body_ok.run [] s1 I) (fun fl s' hs => ?_) fun e s' hs => hs
  cases fl with
  | ret u =>
    obtain ⟨v, σ', H', J, rw', q'⟩ := hs
    exact ⟨v, H', J.os, J.bare, J.base, J.hok, rw', q'⟩
  | next =>
    obtain ⟨σ', H', J, q'⟩ := hs
    exact ⟨V.non, H', J.os, J.bare, J.base, J.hok, rfl, q'⟩
  | brk => obtain ⟨_, _, _, q'⟩ := hs; exact q'.elim
  | cont => obtain ⟨_, _, _, q'⟩ := hs; exact q'.elim
end

/-! ### what is known of the world -/
inductive PatV : Pat → List (Sum Nat Value) → Prop where
  | nil : PatV [] []
  | inl (i : Nat) {p : Pat} {q : List (Sum Nat Value)} (h : PatV p q) : PatV (.inl i :: p) (.inl i :: q)
  | inr {d : D} {v : V} {u : Value} {p : Pat} {q : List (Sum Nat Value)} (hd : ∀ M H, Rep M H d v) (r : RelV v u) (h : PatV p q) : PatV (.inr d :: p) (.inr u :: q)
def pickV : List (Sum Nat Value) → List Value → Option (List Value)
  | [], _ => some []
  | .inl i :: p, us => (us[i]?).bind fun u => (pickV p us).map (u :: ·)
  | .inr u :: p, us => (pickV p us).map (u :: ·)
/-- a call with n values and the keywords kn binds the parameters by the pattern p -/
def Bnd (K : PySem.W.Frag) (fd : FuncData) (ps : List Str) (n : Nat) (kn : List Str) (p : Pat) : Prop := ∃ q, PatV p q ∧ ps.length = p.length ∧
  ∀ (s : Shared) (us ws zs : List Value), K.In s.heap → us.length = n → ws.length = kn.length → pickV q (us ++ ws) = some zs → BindsTo s fd ⟨us, kn.zip ws⟩ (ps.zip zs)
def BndP (K : PySem.W.Frag) (fd : FuncData) (ps : List Str) : Prop := ∀ (s : Shared) (us : List Value), K.In s.heap → us.length = ps.length → BindsTo s fd ⟨us, []⟩ (ps.zip us)
theorem pick_of {M : Addr → Prop} {H : Hp} : ∀ {p : Pat} {q : List (Sum Nat Value)} {ds zs : List D} {vs : List V} {us : List Value}, PatV p q → argsOf p ds = some zs → Reps M H ds vs → Vals vs us → ∃ ys ws, pickV q us = some ws ∧ Vals ys ws ∧ Reps M H zs ys
  | _, _, ds, zs, vs, us, .nil, h, _, _ => by cases h; exact ⟨[], [], rfl, .nil, rfl⟩
  | _, _, ds, zs, vs, us, .inl i (p := p) (q := q) hp, h, r, rv => by
    simp only [argsOf, Option.bind_eq_some_iff, Option.map_eq_some_iff] at h
    obtain ⟨d, hd, z, hz, rfl⟩ := h
    obtain ⟨v, hv, rd⟩ := r.get hd
    obtain ⟨u, hu, ru⟩ := rv.get hv
    obtain ⟨ys, ws, e1, e2, e3⟩ := pick_of hp hz r rv
    exact ⟨v :: ys, u :: ws, by simp [pickV, hu, e1], .cons ru e2, v, ys, rfl, rd, e3⟩
  | _, _, ds, zs, vs, us, .inr (d := d) (v := v) (u := u) (p := p) (q := q) hd ru hp, h, r, rv => by
    simp only [argsOf, Option.map_eq_some_iff] at h
    obtain ⟨z, hz, rfl⟩ := h
    obtain ⟨ys, ws, e1, e2, e3⟩ := pick_of hp hz r rv
    exact ⟨v :: ys, u :: ws, by simp [pickV, e1], .cons ru e2, v, ys, rfl, hd M H, e3⟩
theorem args_len : ∀ {p : Pat} {ds zs : List D}, argsOf p ds = some zs → zs.length = p.length
  | [], _, _, h => by cases h; rfl
  | .inl i :: p, ds, zs, h => by
    simp only [argsOf, Option.bind_eq_some_iff, Option.map_eq_some_iff] at h
    obtain ⟨d, hd, z, hz, rfl⟩ := h
    simp [args_len hz]
  | .inr d :: p, ds, zs, h => by
    simp only [argsOf, Option.map_eq_some_iff] at h
    obtain ⟨z, hz, rfl⟩ := h
    simp [args_len hz]
/-- behind self -/
theorem pick_behind : ∀ {p p' : Pat} {q : List (Sum Nat Value)}, PatV p q → behind p = some p' → ∃ q', PatV p' q' ∧ ∀ (u : Value) (us ws : List Value), pickV q' us = some ws → pickV q (u :: us) = some ws
  | _, _, _, .nil, h => by cases h; exact ⟨[], .nil, fun _ _ _ h => h⟩
  | _, _, _, .inl i (p := p) (q := q) hp, h => by
    cases i with
    | zero => cases h
    | succ i =>
      simp only [behind, Option.map_eq_some_iff] at h
      obtain ⟨z, hz, rfl⟩ := h
      obtain ⟨q', h1, h2⟩ := pick_behind hp hz
      refine ⟨.inl i :: q', .inl i h1, fun u us ws h => ?_⟩
      simp only [pickV, Option.bind_eq_some_iff, Option.map_eq_some_iff] at h
      obtain ⟨a, ha, b, hb, rfl⟩ := h
      simp [pickV, ha, h2 u us b hb]
  | _, _, _, .inr (d := d) (u := u) (p := p) (q := q) hd ru hp, h => by
    simp only [behind, Option.map_eq_some_iff] at h
    obtain ⟨z, hz, rfl⟩ := h
    obtain ⟨q', h1, h2⟩ := pick_behind hp hz
    refine ⟨.inr u :: q', .inr hd ru h1, fun u' us ws h => ?_⟩
    simp only [pickV, Option.map_eq_some_iff] at h
    obtain ⟨b, hb, rfl⟩ := h
    simp [pickV, h2 u' us b hb]
end RE
set_option Elab.async false
set_option linter.all false
set_option maxRecDepth 100000
set_option autoImplicit false
set_option maxHeartbeats 1000000
/-! REd: the world; callees run; arguments. -/
namespace RE
open PySem PySem.Spec PyProof.Rows L2 TL
structure Sd where
  G : Gx
  P : Program
  w : World
  K : PySem.W.Frag
  mg : Str → Option Value
  base : Heap
  ad : Str → Addr
  fd : Str → FuncData
def tyS : Ty → String
  | .int => "int" | .bool => "bool" | .str => "str" | .tuple => "tuple" | .list => "list"
/-- C(..) makes an exception of the class at C with these fields -/
structure XMk (K : PySem.W.Frag) (C : Addr) (fs : List Str) : Prop where
  kp : PySem.W.keepIn K (.ref C) = true
  run : ∀ (X : Cx) (pins : List (Addr × Obj)) (σ : L2.St) (H : Hp) (s : Shared) (us : List Value) (vs : List V) (Q : XK), X.K = K → L2H.RoomH 2 X.A → X.calm = true → Inv X pins σ H s → Vals vs us → vs.length = fs.length →
    (∀ d H', ((fs = [] ∧ d = none ∧ H' = H) ∨ ∃ dx, d = some dx ∧ H dx = none ∧ H' = upd H dx (.xd (fs.zip vs))) → Q (.ref C) d H') → wpAny (model X.prog X.w) X.A (call (.ref C) us) (MkP X pins σ Q) X.xe s
structure Wd (U : Sd) (T : Tb) (lv : Nat) : Prop where
  kk : U.G.K = U.K
  fnx : ∀ q f, U.G.fns q = some f → FnX U.P U.w U.K U.mg U.base T lv q (U.ad q) (U.fd q) f.ps
  len : ∀ (md : Md) (q : Str) (f : Fc) (ss ss' : List S) (r : Rz), U.G.fns q = some f → T md q ss = some (r, ss') → ss.length = f.ps.length
  im : ∀ (md : Md) (q : Str) (f : Fc) (ss ss' : List S) (r : Rz), U.G.fns q = some f → T md q ss = some (r, ss') → (∀ s ∈ ss, ∃ d, s = .im d) → ss' = ss
  bp : ∀ q f, U.G.fns q = some f → f.po = true → BndP U.K (U.fd q) f.ps
  bn : ∀ q n kn p, U.G.pat q n kn = some p → ∃ f, U.G.fns q = some f ∧ Bnd U.K (U.fd q) f.ps n kn p
  gf : ∀ f q, U.G.glo f = some (.fn q) → U.mg f = some (.ref (U.ad q)) ∧ PySem.W.keepIn U.K (.ref (U.ad q)) = true
  gc : ∀ f A q, U.G.glo f = some (.cls A q) → U.mg f = some (.ref A) ∧ Mk U.K A (U.ad q)
  gv : ∀ n d, U.G.glo n = some (.val d) → ∃ v u, U.mg n = some u ∧ RelV v u ∧ ∀ M H, Rep M H d v
  nb : ∀ b : Bt, U.mg b.nm = none
  nt : ∀ t : Ty, U.mg t.nm = none
  ni : U.mg "isinstance" = none
  nk : U.mg "range" = none ∧ U.mg "zip" = none ∧ U.mg "enumerate" = none
  prop : ∀ A f q, U.G.prop A f = some q → Cls U.K A ∧ ∃ p, PropOf U.K A f p (U.ad q)
  fld : ∀ A f, U.G.fld A f = true → Cls U.K A ∧ NoAttr U.K A f
  meth : ∀ A m q, U.G.meth A m = some q → Cls U.K A ∧ Meth U.K A m (U.ad q)
  own : ∀ A m q, U.G.own A m = some q → ClsO U.K A ∧ PySem.W.findIn U.K (.ref A) m = some (some (.ref (U.ad q))) ∧ PySem.W.isFn U.K (.ref (U.ad q)) = true
  one : ∀ A q, U.G.own A "__eq__" = some q → PySem.W.findIn U.K (.ref A) "__ne__" = some (some (.builtin "object.__ne__"))
  ri : ∀ A op, U.G.ri A op = true → PySem.W.findIn U.K (.ref A) (dunderR op.info.2) = some none ∧ PySem.W.subIn U.K (.type "int") (.ref A) = some false ∧
    ∃ fo ro, PySem.W.findIn U.K (.type "int") (PySem.dunder op.info.2) = some fo ∧ PySem.W.findIn U.K (.type "int") (dunderR op.info.2) = some ro
  isT : ∀ A t b, U.G.isT A t = some b → ClsO U.K A ∧ PySem.W.kitOne U.K (.ref A) (.type (tyS t)) = some b
  isC : ∀ A B b, U.G.isC A B = some b → ClsO U.K A ∧ PySem.W.kitOne U.K (.ref A) (.ref B) = some b
  kT : ∀ t : Ty, PySem.W.kitOne U.K (.type "NoneType") (.type (tyS t)) = some false ∧ PySem.W.kitOne U.K (.type "int") (.type (tyS t)) = some (match t with | .int => true | _ => false) ∧
    PySem.W.kitOne U.K (.type "bool") (.type (tyS t)) = some (match t with | .int => true | .bool => true | _ => false) ∧ PySem.W.kitOne U.K (.type "str") (.type (tyS t)) = some (match t with | .str => true | _ => false) ∧
    PySem.W.kitOne U.K (.type "list") (.type (tyS t)) = some (match t with | .list => true | _ => false) ∧ PySem.W.kitOne U.K (.type "tuple") (.type (tyS t)) = some (match t with | .tuple => true | _ => false)
  kD : ∀ t : Ty, PySem.W.kitOne U.K (.type "dict") (.type (tyS t)) = some false
  kC : ∀ f B q, U.G.glo f = some (.cls B q) → ∀ s : String, s ∈ ["NoneType", "int", "bool", "str", "list", "tuple", "dict"] → PySem.W.kitOne U.K (.type s) (.ref B) = some false
  nf : ∀ A d, U.G.nf A d = true → ∃ t, TyD U.K d t ∧ PySem.W.notFirst U.K A t = true
  exc : ∀ n A o, U.G.exc n = some (A, o) → U.mg n = some (.ref A)
  exr : ∀ n A fs, U.G.exc n = some (A, some fs) → XMk U.K A fs
  xm : ∀ A B b, U.G.xm A B = some b → PySem.W.exmOne U.K (.ref A) (.ref B) = some b
  xf : ∀ A f, U.G.xf A f = true → XfC U.K A ∧ PySem.W.findIn U.K (.ref A) f = some none
/-- the context of a part of a def's body -/
structure XOk (U : Sd) (T : Tb) (lv : Nat) (md : Md) (X : Cx) : Prop where
  wd : Wd U T lv
  prog : X.prog = U.P
  w : X.w = U.w
  K : X.K = U.K
  mg : X.mg = U.mg
  base : X.base = U.base
  nd : X.N.Nodup
  room : L2H.RoomH (lv + 4) X.A
  hd : md.calm = true → X.A.handled = none
  calm : md.calm = true → X.calm = true
  gd : md.gk = true → X.A.guards = some []
  pass : PassesOwn (model X.prog X.w) X.A X.env X.xe
section
variable {U : Sd} {T : Tb} {lv : Nat} {md : Md} {X : Cx} {q : Str} {f : Fc}
theorem XOk.fnx (ok : XOk U T lv md X) (h : U.G.fns q = some f) : FnX X.prog X.w X.K X.mg X.base T lv q (U.ad q) (U.fd q) f.ps := by
  rw [ok.prog, ok.w, ok.K, ok.mg, ok.base]; exact ok.wd.fnx q f h
theorem XOk.hu (ok : XOk U T lv md X) : X.A.units + 64 < cLine := by have := ok.room.un; omega
end

/-! ### results without exceptions: the tree layer's promises -/
def zR : Res → Rz
  | .im d => .im d
  | .fr xs => .fr xs
def RX (T : Tb) (md : Md) (q : Str) : TL.Spec := fun ss r ss' => T md q ss = some (zR r, ss')
section
variable {P : Program} {w : World} {K : PySem.W.Frag} {mg : Str → Option Value} {base : Heap} {T : Tb} {k : Nat} {q : Str} {f : Addr} {fd : FuncData} {ps : List Str} {md : Md}
theorem sp_of {vs : List V} {H : Hp} {Q : VK} (h : spT (RX T md q) vs H Q E0) : spX T md q vs H Q E0 := by
  obtain ⟨M, W, ss, ss', r, hR, g, Ev, p⟩ := h
  refine ⟨M, W, ss, ss', zR r, hR, g, Ev, ?_⟩
  cases r with
  | im d => exact p
  | fr xs => exact p
theorem cr_of {outer : List PySem.Env} {H : Hp} {s s' : Shared} {Q : VK} {r : Result} (h : CR (CX P w) outer P w H s Q E0 r s') : CR CX0 outer P w H s Q E0 r s' := by
  cases r with
  | ok fl => cases fl <;> exact h
  | error e => obtain ⟨_, _, _, _, _, _, _, _, _, _, _, _, z⟩ := h; exact z.elim
theorem FnX.toK (F : FnX P w K mg base T k q f fd ps) : FnK P w K mg base k f fd ps (RX T md q) :=
  ⟨fun A outer s H args us vs Q hr hg e0 hb rv hl h => codeAny_mono (F.run md A outer s H args us vs Q E0 ⟨hr.dp, hr.un⟩ (fun _ => hr.hd) (fun _ => hg) e0 hb rv hl (sp_of h)) fun r s' h => cr_of h⟩
theorem BndP.binds (b : BndP K fd ps) : Binds K fd ps [] := fun s us hk hl => by
  rw [List.append_nil] at hl ⊢
  exact b s us hk hl
end

/-! ### a callee runs, whatever it gives -/
def spK (X : Cx) (T : Tb) (md : Md) (q : Str) (σ : L2.St) (vs : List V) (H : Hp) (Q : VK) : Prop := ∃ Ex : XK, Takes X (fun cls d σ' H' => σ' = σ ∧ Ex cls d H') ∧ spX T md q vs H Q Ex
theorem takes_no {X : Cx} {Wx : WX} (h : ∀ c d σ H, ¬ Wx c d σ H) : Takes X Wx := fun u s' ⟨_, _, _, _, _, _, _, _, _, _, _, _, _, _, _, _, w⟩ => (h _ _ _ _ w).elim
section
variable {X : Cx} {T : Tb} {k : Nat} {f : Addr} {fd : FuncData} {ps : List Str} {q : Str} {md : Md} {pins : List (Addr × Obj)} {σ : L2.St} {H : Hp} {s : Shared} {Q : VK} {us ws zs : List Value} {vs ys : List V} {kn : List Str}
theorem run_end {r : Result} {s' : Shared} {Ex : XK} (tk : Takes X (fun cls d σ' H' => σ' = σ ∧ Ex cls d H')) (I : Inv X pins σ H s) (hq : CR (CX X.prog X.w) X.stack X.prog X.w H s Q Ex r s') :
    match r with
    | .error e => X.xe e s'
    | .ok (.ret u) => EP X pins σ Q u s'
    | .ok _ => False := by
  cases r with
  | error e => exact tk e s' (XE.of_call I (fun cls d H' h => ⟨rfl, h⟩) hq)
  | ok fl =>
    cases fl with
    | ret u => exact I.after hq
    | next => exact hq
    | brk => exact hq
    | cont => exact hq
theorem runX (F : FnX X.prog X.w X.K X.mg X.base T k q f fd ps) (hr : L2H.RoomH k X.A) (hc : md.calm = true → X.A.handled = none) (hg : md.gk = true → X.A.guards = some []) (I : Inv X pins σ H s) (hb : BindsTo s fd ⟨us, kn.zip ws⟩ (ps.zip zs)) (hl : ys.length = ps.length) (r : Vals ys zs) (h : spK X T md q σ ys H Q) :
    wpAny (model X.prog X.w) X.A (call (.ref f) us (kn.zip ws)) (EP X pins σ Q) X.xe s := by
  obtain ⟨Ex, tk, h⟩ := h
  refine wpAny_call (codeAny_mono (F.run md X.A X.stack s H _ zs ys Q Ex hr hc hg I.env0 hb r hl h) fun rr s' hq => ?_)
  have e := run_end tk I hq
  cases rr with
  | error e' => exact e
  | ok fl => cases fl <;> first | exact e | exact e.elim
end

/-! ### arguments -/
theorem okE_star {N : List Str} {sc : Scope} {e : E} {x : Expr} (h : okE N sc e x = true) : isStar x = false := by
  cases x <;> first
    | rfl
    | (exfalso; cases e <;> cases h)
theorem okEs_star {N : List Str} {sc : Scope} : ∀ {es : List E} {xs : List Expr}, okEs N sc es xs = true → ∀ x ∈ xs, isStar x = false
  | [], [], _, _, h => by cases h
  | [], _ :: _, h, _, _ => by simp [okEs] at h
  | _ :: _, [], h, _, _ => by simp [okEs] at h
  | e :: es, x :: xs, h, y, hy => by
    simp only [okEs, Bool.and_eq_true] at h
    rcases List.mem_cons.mp hy with rfl | hy
    · exact okE_star h.1
    · exact okEs_star h.2 y hy
theorem star_cons {env : PySem.Env} {x : Expr} {xs : List Expr} (h : isStar x = false) : starEach (x :: xs) env = (false, eval x env) :: starEach xs env := by
  cases x <;> first | rfl | cases h
theorem star_plain {env : PySem.Env} {pos : Pos} : ∀ {xs : List Expr}, (∀ x ∈ xs, isStar x = false) → (backTo pos (starEach xs env)).any (·.1) = false
  | [], _ => rfl
  | x :: xs, h => by
    rw [star_cons (h x (List.mem_cons_self ..))]
    have := star_plain (env := env) (pos := pos) (xs := xs) fun y hy => h y (List.mem_cons_of_mem _ hy)
    unfold backTo at this ⊢
    simpa using this
theorem kw_all {env : PySem.Env} {pos : Pos} : ∀ {kn : List Str} {ws : List Keyword}, kwB kn ws = true → (backToKw pos (keywordEach ws env)).all (·.1.isSome) = true ∧ (backToKw pos (keywordEach ws env)).filterMap (·.1) = kn ∧ (backToKw pos (keywordEach ws env)).any (·.1.isNone) = false
  | [], [], _ => ⟨rfl, rfl, rfl⟩
  | [], _ :: _, h => by cases h
  | _ :: _, [], h => by cases h
  | k :: kn, ⟨a, v, p⟩ :: ws, h => by
    simp only [kwB, Bool.and_eq_true, decide_eq_true_eq] at h
    obtain ⟨rfl, h⟩ := h
    obtain ⟨a1, a2, a3⟩ := kw_all (env := env) (pos := pos) h
    unfold backToKw at a1 a2 a3 ⊢
    simp only [keywordEach, List.map_cons, List.all_cons, List.filterMap_cons, List.any_cons, Option.isSome_some, Option.isNone_some, Bool.true_and, Bool.false_or]
    exact ⟨a1, by rw [a2], a3⟩
theorem kw_len : ∀ {kn : List Str} {ws : List Keyword}, kwB kn ws = true → ws.length = kn.length
  | [], [], _ => rfl
  | [], _ :: _, h => by cases h
  | _ :: _, [], h => by cases h
  | k :: kn, w :: ws, h => by
    simp only [kwB, Bool.and_eq_true] at h
    simp [kw_len h.2]
/-- what the call of a known value asks, once its arguments stand -/
structure CK (X : Cx) (fv : Value) (first : List Value) (kn : List Str) (σ : L2.St) (vs zs : List V) (H : Hp) (Q : VK) : Prop where
  run : ∀ (pins : List (Addr × Obj)) (s : Shared) (us ws : List Value), Inv X pins σ H s → Vals vs us → Vals zs ws → wpAny (model X.prog X.w) X.A (call fv (first ++ us) (kn.zip ws)) (EP X pins σ Q) X.xe s
theorem callW {X : Cx} {fv : Value} {first : List Value} {kn : List Str} {σ : L2.St} {H : Hp} {Q : VK} {pins : List (Addr × Obj)} {s : Shared} {xs : List Expr} {kws : List Keyword} {pos : Pos} (hk : PySem.W.keepIn X.K fv = true) (hs : ∀ x ∈ xs, isStar x = false) (hw : kwB kn kws = true)
    (I : Inv X pins σ H s) (h : wA X xs σ H fun vs H1 => wK X kws σ H1 fun zs H2 => CK X fv first kn σ vs zs H2 Q) :
    wpAny (model X.prog X.w) X.A (callWith pos fv first (backTo pos (starEach xs X.env)) (backToKw pos (keywordEach kws X.env))) (EP X pins σ Q) X.xe s := by
  obtain ⟨a1, a2, a3⟩ := kw_all (env := X.env) (pos := pos) hw
  have a4 := star_plain (env := X.env) (pos := pos) hs
  have a5 : ((backTo pos (starEach xs X.env)).any (·.1) || (backToKw pos (keywordEach kws X.env)).any (·.1.isNone)) = false := by rw [a4, a3]; rfl
  cases xs with
  | cons x xs =>
    refine PySem.W.callWith_KW (h₀ := X.base) I.ok.mod.kin hk a1 (thn (h.run pos pins s I) fun us s1 ⟨vs, H1, I1, r, q⟩ => ?_) a5 (star_cons (hs x (List.mem_cons_self ..)))
    refine thn (q.run pos pins s1 I1) fun ws s2 ⟨zs, H2, I2, rz, q2⟩ => ⟨I2.kIn, ?_⟩
    rw [a2]
    exact q2.run pins s2 us ws I2 r rz
  | nil =>
    refine PySem.W.callWith_KW0 (h₀ := X.base) I.ok.mod.kin hk a1 ?_ a5
    have e0 : spliced (backTo pos (starEach [] X.env)) = pure [] := by rfl
    refine fun Γ p hΓ => ?_
    have h2 := h.run pos pins s I
    rw [e0] at h2
    have h3 : AP X pins σ (fun vs H1 => wK X kws σ H1 fun zs H2 => CK X fv first kn σ vs zs H2 Q) [] s := h2 Γ p hΓ
    obtain ⟨vs, H1, I1, r, q⟩ := h3
    cases r
    have h4 := thn (Q' := fun ks s₂ => X.K.In s₂.heap ∧ wpAny (model X.prog X.w) X.A (call fv (first ++ []) (((backToKw pos (keywordEach kws X.env)).filterMap (·.1)).zip ks)) (EP X pins σ Q) X.xe s₂) (q.run pos pins s I1) fun ws s2 ⟨zs, H2, I2, rz, q2⟩ => ⟨I2.kIn, by
      rw [a2]
      exact q2.run pins s2 [] ws I2 .nil rz⟩
    exact h4 Γ p hΓ
end RE
set_option Elab.async false
set_option linter.all false
set_option maxRecDepth 100000
set_option autoImplicit false
set_option maxHeartbeats 1000000
/-! REe: calls of defs, classes, methods, own operators, whatever they give. -/
namespace RE
open PySem PySem.Spec PyProof.Rows L2 TL
/-- what is wanted of an expression's answer -/
def KE (X : Cx) (M W : Addr → Prop) (σ : L2.St) (H : Hp) (Q : VK) (r : Rz) (δ' : TL.Env) : Prop :=
  match r with
  | .im d => ∀ v H', Stp M W σ δ' H H' → Rep M H' d v → Q v H'
  | .fr xs => ∀ p vs H', Stp (Mp M p) W σ δ' H H' → H p = none → H' p = some (.lst vs) → Reps (Mp M p) H' xs vs → Q (.ref p) H'
  | .ex x => Kx X M W σ H δ' x
/-- .. where the heap only grows -/
def PC (X : Cx) (M : Addr → Prop) (σ : L2.St) (H : Hp) (Q : VK) (r : Rz) : Prop :=
  match r with
  | .im d => ∀ v H', (∀ a o, H a = some o → H' a = some o) → Rep M H' d v → Q v H'
  | .fr xs => ∀ p vs H', (∀ a o, H a = some o → H' a = some o) → H p = none → H' p = some (.lst vs) → Reps (Mp M p) H' xs vs → Q (.ref p) H'
  | .ex x => ∃ Wx : WX, Takes X Wx ∧ ∀ dx H', (∀ a o, H a = some o → H' a = some o) → RepX M H' x dx → Wx (.ref x.C) dx σ H'
section
variable {X : Cx} {e : Expr} {δ δ1 δ' : TL.Env} {r : Rz} {M W : Addr → Prop} {σ : L2.St} {H H1 : Hp} {Q : VK} {T : Tb} {md : Md} {q : Str} {ds : List D} {vs : List V} {ss' : List S}
theorem je_of (h : ∀ (M W : Addr → Prop) (σ : L2.St) (H : Hp) (Q : VK), Good M W H → EnvR M W H σ δ → KE X M W σ H Q r δ' → wE X e σ H Q) : JE X e δ r δ' := by
  cases r with
  | im d => exact h
  | fr xs => exact h
  | ex x => exact h
theorem JE.ke (h : JE X e δ r δ') : ∀ (M W : Addr → Prop) (σ : L2.St) (H : Hp) (Q : VK), Good M W H → EnvR M W H σ δ → KE X M W σ H Q r δ' → wE X e σ H Q := by
  cases r with
  | im d => exact h
  | fr xs => exact h
  | ex x => exact h
theorem KE.pc (s : Stp M W σ δ' H H1) (g : Good M W H) (k : KE X M W σ H Q r δ') : PC X M σ H1 Q r := by
  cases r with
  | im d => exact fun v H' ex rp => k v H' (s.ext ex) rp
  | fr xs =>
    refine fun p vs H' ex n hp rr => k p vs H' ⟨s.xt.trans (Xt.of ex), ⟨fun a w => .inl (g.wm a w), fun a m z => ?_⟩, (s.env.gr (mp_gr n)).ext ex⟩ (s.none g n) hp rr
    rcases m with m | m
    · exact (s.good.ext ex).mt a m z
    · rw [m, hp] at z; cases z
  | ex x =>
    obtain ⟨Wx, tk, h⟩ := k
    exact ⟨Wx, tk, fun dx H' ex rx => h dx H' (s.ext ex) rx⟩
theorem KE.step (s : Stp M W σ δ1 H H1) (g : Good M W H) (k : KE X M W σ H Q r δ') : KE X M W σ H1 Q r δ' := by
  cases r with
  | im d => exact fun v H' s' rp => k v H' (s.trans s') rp
  | fr xs => exact fun p vs H' s' n hp rr => k p vs H' ⟨s.xt.trans s'.xt, s'.good, s'.env⟩ (s.none g n) hp rr
  | ex x => exact Kx.step s k
/-- a def called with data -/
theorem spK_of (hT : T md q (ds.map S.im) = some (r, ss')) (g : Good M W H) (rr : Reps M H ds vs) (pc : PC X M σ H Q r) : spK X T md q σ vs H Q := by
  cases r with
  | im d => exact ⟨E0, takes_no fun _ _ _ _ z => z.2, M, fun _ => False, _, _, _, hT, good0 g, envR_args rr, fun v H' xt _ _ rp => pc v H' (fun a o h => xt a o (fun z => z) h) rp⟩
  | fr xs => exact ⟨E0, takes_no fun _ _ _ _ z => z.2, M, fun _ => False, _, _, _, hT, good0 g, envR_args rr, fun v H' xt _ _ ⟨p, us, e, n, hp, r'⟩ => e ▸ pc p us H' (fun a o h => xt a o (fun z => z) h) n hp r'⟩
  | ex x =>
    obtain ⟨Wx, tk, h⟩ := pc
    exact ⟨fun cls d H' => Wx cls d σ H', tk.imp fun c d σ' H' ⟨e, z⟩ => e ▸ z, M, fun _ => False, _, _, _, hT, good0 g, envR_args rr, fun dx H' xt _ _ rx => h dx H' (fun a o h => xt a o (fun z => z) h) rx⟩
end
section
variable {U : Sd} {T : Tb} {lv : Nat} {md : Md} {X : Cx} {q : Str} {f : Fc} {pins : List (Addr × Obj)} {σ : L2.St} {H : Hp} {s : Shared} {Q : VK} {us ws zs : List Value} {vs ys : List V} {kn : List Str}
/-- the callee runs at A, which is X's but for some levels -/
theorem runXA {A : Around} {k : Nat} {fa : Addr} {fd : FuncData} {ps : List Str} (F : FnX X.prog X.w X.K X.mg X.base T k q fa fd ps) (hA : A.frames = X.A.frames) (hr : L2H.RoomH k A) (hc : md.calm = true → A.handled = none) (hg : md.gk = true → A.guards = some []) (I : Inv X pins σ H s)
    (hb : BindsTo s fd ⟨us, kn.zip ws⟩ (ps.zip zs)) (hl : ys.length = ps.length) (r : Vals ys zs) (h : spK X T md q σ ys H Q) : wpAny (model X.prog X.w) A (call (.ref fa) us (kn.zip ws)) (EP X pins σ Q) X.xe s := by
  obtain ⟨Ex, tk, h⟩ := h
  have e := I.env0
  refine wpAny_call (codeAny_mono (F.run md A X.stack s H _ zs ys Q Ex hr hc hg ⟨hA.trans e.frames, e.mod, e.bs, e.bsz, e.funs, e.frf, e.hok, e.bare⟩ hb r hl h) fun rr s' hq => ?_)
  have e := run_end tk I hq
  cases rr with
  | error e' => exact e
  | ok fl => cases fl <;> first | exact e | exact e.elim
theorem len_of {ss' : List S} {r : Rz} {ss : List S} {k : Nat} (h : Tn U.G k md q ss = some (r, ss')) (hf : U.G.fns q = some f) : ss.length = f.ps.length := by
  cases k with
  | zero => cases h
  | succ k =>
    simp only [Tn, hf, Option.bind_some] at h
    exact (req_some h).1
end
end RE
set_option Elab.async false
set_option linter.all false
set_option maxRecDepth 100000
set_option autoImplicit false
set_option maxHeartbeats 1000000
/-! REf: calls by name: defs, classes, own first arguments. -/
namespace RE
open PySem PySem.Spec PyProof.Rows L2 TL
theorem attr_base {x : Expr} {a : Str} {env : PySem.Env} {w : Sem Value} (h : notC0 x = true) : attributeBase x a env w = w := by
  unfold attributeBase
  split
  · cases h
  · rfl
theorem roomH_make {k : Nat} {A : Around} {C : Addr} {us : List Value} {kw : List (Str × Value)} (r : L2H.RoomH (k + 1) A) : L2H.RoomH k (A.under (.builtin "type.__call__" ⟨.ref C :: us, kw⟩)) :=
  ⟨by rw [make_depth]; have := r.dp; omega, by rw [make_units]; have := r.un; omega⟩
theorem roomH_in1 {k : Nat} {A : Around} (r : L2H.RoomH (k + 1) A) : L2H.RoomH k A.in1 :=
  ⟨by have := r.dp; show A.depth + 3 * k + 5 < _; omega, by have := r.un; show A.units + 1 + 16 * k + 200 < _; omega⟩
section
variable {U : Sd} {T : Tb} {lv : Nat} {md : Md} {X : Cx} {q : Str} {f : Fc} {pins : List (Addr × Obj)} {σ : L2.St} {H : Hp} {s : Shared} {Q : VK} {us ws zs : List Value} {vs ys : List V} {kn : List Str} {ds es : List D} {M W : Addr → Prop} {r : Rz} {ss' : List S}
theorem Reps.un : ∀ {ds es : List D} {zs : List V}, Reps M H (ds ++ es) zs → ∃ vs ws, zs = vs ++ ws ∧ Reps M H ds vs ∧ Reps M H es ws
  | [], es, zs, h => ⟨[], zs, rfl, rfl, h⟩
  | d :: ds, es, zs, ⟨v, r, e, a, b⟩ => by
    obtain ⟨vs, ws, e2, h1, h2⟩ := Reps.un b
    exact ⟨v :: vs, ws, by rw [e, e2]; rfl, ⟨v, vs, rfl, a, h1⟩, h2⟩
/-- positional data -/
theorem run_data (ok : XOk U T lv md X) {A : Around} (hA : A.frames = X.A.frames) (hr : L2H.RoomH lv A) {m : Md} (hc : m.calm = true → A.handled = none) (hg : m.gk = true → A.guards = some []) (hf : U.G.fns q = some f) (hp : f.po = true) (hT : T m q (ds.map S.im) = some (r, ss')) (g : Good M W H) (rr : Reps M H ds vs) (pc : PC X M σ H Q r)
    (I : Inv X pins σ H s) (rv : Vals vs us) : wpAny (model X.prog X.w) A (call (.ref (U.ad q)) us) (EP X pins σ Q) X.xe s := by
  have hl := ok.wd.len m q f _ _ _ hf hT
  rw [List.length_map] at hl
  have hl2 : vs.length = f.ps.length := by rw [rr.len]; exact hl
  have hb := ok.wd.bp q f hf hp s us (by rw [← ok.K]; exact I.kIn) (by rw [← rv.length]; exact hl2)
  exact runXA (kn := []) (ws := []) (ok.fnx hf) hA hr hc hg I hb hl2 rv (spK_of hT g rr pc)
/-- a def called by its name with data -/
theorem ck_fn (ok : XOk U T lv md X) {n : Nat} {p : Pat} {zd : List D} (hp : U.G.pat q n kn = some p) (ha : argsOf p (ds ++ es) = some zd) (hT : T md q (zd.map S.im) = some (r, ss')) (hn : ds.length = n) (hk : es.length = kn.length) (g : Good M W H) (r1 : Reps M H ds vs) (r2 : Reps M H es ys) (pc : PC X M σ H Q r) :
    CK X (.ref (U.ad q)) [] kn σ vs ys H Q := ⟨fun pins s us ws I rv rz => by
  obtain ⟨f, hf, qv, pv, hpl, hb⟩ := ok.wd.bn q n kn p hp
  obtain ⟨zv, zu, e1, e2, e3⟩ := pick_of pv ha (Reps.app r1 r2) (rv.append rz)
  have hb' := hb s us ws zu (by rw [← ok.K]; exact I.kIn) (by rw [← rv.length, r1.len]; exact hn) (by rw [← rz.length, r2.len]; exact hk) e1
  exact runX (ok.fnx hf) (ok.room.mono (by omega)) ok.hd ok.gd I hb' (by rw [e3.len, args_len ha, hpl]) e2 (spK_of hT g e3 pc)⟩
/-! ### C(..) -/
theorem make_sp {A : Addr} (g : Good M W H) (r1 : Reps M H ds vs) (hT : makeD T md A q ds = some r) (pc : PC X M σ H Q r) : ∃ Ex : XK, Takes X (fun cls d σ' H' => σ' = σ ∧ Ex cls d H') ∧ ∀ x dx, H x = none → H dx = none → dx ≠ x →
    spX T md q (V.ref x :: vs) (upd (upd H dx (.own x)) x (.ins A dx [])) (fun v H2 => v = .non ∧ Q (.ref x) H2) Ex := by
  have base : ∀ (Ex : XK) (r' : Rz) (ss' : List S), T md q (.own (.ins A [] []) :: ds.map S.im) = some (r', ss') → (∀ x dx, H x = none → H dx = none → dx ≠ x → (∀ a o, H a = some o → (upd (upd H dx (.own x)) x (.ins A dx [])) a = some o) →
      PostX (Mp M x) (fun a => a = x) (V.ref x :: vs) (upd (upd H dx (.own x)) x (.ins A dx [])) ss' (fun v H2 => v = .non ∧ Q (.ref x) H2) Ex r') → ∀ x dx, H x = none → H dx = none → dx ≠ x → spX T md q (V.ref x :: vs) (upd (upd H dx (.own x)) x (.ins A dx [])) (fun v H2 => v = .non ∧ Q (.ref x) H2) Ex := by
    intro Ex r' ss' hT' post x dx hx hd hne
    have hx1 : (upd H dx (.own x)) x = none := by rw [upd_ne (fun z => hne z.symm)]; exact hx
    have ex1 : ∀ a o, H a = some o → (upd (upd H dx (.own x)) x (.ins A dx [])) a = some o := fun a o h => ext_new hx1 a o (ext_new hd a o h)
    refine ⟨Mp M x, fun a => a = x, _, ss', r', hT', ⟨fun a z => .inr z, fun a m z => ?_⟩, envR_own (xs := .ins A [] []) upd_same ⟨dx, [], rfl, rfl, rfl⟩ (Reps.ex (Xt.of ex1) ds (Reps.gr (mp_gr hx) ds r1)), post x dx hx hd hne ex1⟩
    rcases m with m | m
    · exact (g.ext ex1).mt a m z
    · rw [m, upd_same] at z; cases z
  have keep : ∀ {x dx : Addr} {H2 : Hp}, H x = none → (∀ a o, H a = some o → (upd (upd H dx (.own x)) x (.ins A dx [])) a = some o) → Xt (fun a => a = x) (upd (upd H dx (.own x)) x (.ins A dx [])) H2 → ∀ a o, H a = some o → H2 a = some o :=
    fun hx ex1 xt a o h => xt a o (fun z => by rw [z, hx] at h; cases h) (ex1 a o h)
  unfold makeD at hT
  split at hT
  · rename_i B ns zs rest heq
    split at hT
    · rename_i hB
      subst hB
      cases hT
      refine ⟨E0, takes_no fun _ _ _ _ z => z.2, base E0 _ _ heq fun x dx hx hd hne ex1 v H2 xt g2 E2 rp => ⟨rp, ?_⟩⟩
      obtain ⟨u, hu, p2, h2, rfl, _, hp2, dx2, vs2, rfl, hle2, r2⟩ := E2.at_ 0 _ rfl
      have : p2 = x := by simpa using hu.symm
      subst this
      exact pc _ H2 (keep hx ex1 xt) ⟨p2, dx2, vs2, rfl, g.notM hx, hp2, Repf.anti (fun _ m => .inl m) p2 zs r2⟩
    · cases hT
  · rename_i x rest heq
    cases hT
    obtain ⟨Wx, tk, h⟩ := pc
    refine ⟨fun cls d H' => Wx cls d σ H', tk.imp fun c d σ' H' ⟨e, z⟩ => e ▸ z, base _ _ _ heq fun y dx hx hd hne ex1 dd H2 xt g2 E2 rx => ?_⟩
    exact h dd H2 (keep hx ex1 xt) (rx.anti fun _ m => .inl m)
  · cases hT
theorem ck_make (ok : XOk U T lv md X) {A : Addr} {p p' : Pat} {n : Nat} {zd : List D} (hm : Mk X.K A (U.ad q)) (hp : U.G.pat q (n + 1) kn = some (.inl 0 :: p)) (hb : behind p = some p') (ha : argsOf p' (ds ++ es) = some zd) (hT : makeD T md A q zd = some r) (hn : ds.length = n) (hk : es.length = kn.length)
    (g : Good M W H) (r1 : Reps M H ds vs) (r2 : Reps M H es ys) (pc : PC X M σ H Q r) : CK X (.ref A) [] kn σ vs ys H Q := ⟨fun pins s us ws I rv rz => by
  obtain ⟨f, hf, qv, pv, hpl, hbd⟩ := ok.wd.bn q (n + 1) kn _ hp
  cases pv with
  | inl _ pv =>
    rename_i qv
    obtain ⟨q', pv', hpick⟩ := pick_behind pv hb
    obtain ⟨zv, zu, e1, e2, e3⟩ := pick_of pv' ha (Reps.app r1 r2) (rv.append rz)
    obtain ⟨Ex, tk, hsp⟩ := make_sp g e3 hT pc
    have hx := I.hok.fresh (Nat.le_succ s.heap.objs.size)
    have hd := I.hok.fresh (Nat.le_refl s.heap.objs.size)
    have hq := hsp (s.heap.objs.size + 1) s.heap.objs.size hx hd (Nat.ne_of_lt (Nat.lt_succ_self _))
    have I2 := Inv.made (C := A) I
    have gd2 : md.gk = true → (X.A.under (.builtin "type.__call__" ⟨.ref A :: us, kn.zip ws⟩)).guards = some [] := fun z => by
      have gd := ok.gd z
      first | exact gd | (simpa [Around.under, Code.guards, Code.isGuard, pushGuards, guardIds] using gd)
    have hpk : pickV (.inl 0 :: qv) (Value.ref (s.heap.objs.size + 1) :: (us ++ ws)) = some (Value.ref (s.heap.objs.size + 1) :: zu) := by
      simp [pickV, hpick _ _ _ e1]
    have hbind := hbd { s with heap := (s.heap.push PySem.W.emptyDict).push (PySem.W.instObj A s.heap.objs.size) } (Value.ref (s.heap.objs.size + 1) :: us) ws _ (by rw [← ok.K]; exact I2.kIn) (by rw [List.length_cons, ← rv.length, r1.len, hn]) (by rw [← rz.length, r2.len]; exact hk) hpk
    have hl : (V.ref (s.heap.objs.size + 1) :: zv).length = f.ps.length := by
      rw [List.length_cons, e3.len, args_len ha, hpl, List.length_cons]
      have : ∀ {p p' : Pat}, behind p = some p' → p'.length = p.length := by
        intro p
        induction p with
        | nil => intro p' h; cases h; rfl
        | cons a p ih =>
          intro p' h
          cases a with
          | inl i =>
            cases i with
            | zero => cases h
            | succ i => simp only [behind, Option.map_eq_some_iff] at h; obtain ⟨z, hz, rfl⟩ := h; simp [ih hz]
          | inr d => simp only [behind, Option.map_eq_some_iff] at h; obtain ⟨z, hz, rfl⟩ := h; simp [ih hz]
      rw [this hb]
    refine wpAny_call (make_map (f := U.ad q) I.kIn hm.makes hm.init (beq_iff_eq.mp hm.fn) (codeAny_mono ((ok.fnx hf).run md _ X.stack _ _ _ (Value.ref (s.heap.objs.size + 1) :: zu) (V.ref (s.heap.objs.size + 1) :: zv) _ Ex (roomH_make (ok.room.mono (by omega) : L2H.RoomH (lv + 1) X.A)) (fun z => ok.hd z) gd2 (I2.env0.make A us (kn.zip ws)) hbind (.cons rfl e2) hl hq) fun rr s' hq' => ?_))
    cases rr with
    | error e => exact tk e s' (XE.of_call I2 (fun cls d H' h => ⟨rfl, h⟩) hq')
    | ok fl =>
      cases fl with
      | ret u =>
        obtain ⟨v, H', I3, rv', ev, q3⟩ := I2.after hq'
        subst ev
        exact ⟨rv', ⟨V.ref (s.heap.objs.size + 1), H', I3, rfl, q3⟩⟩
      | next => exact hq'.elim
      | brk => exact hq'.elim
      | cont => exact hq'.elim⟩
end
end RE
set_option Elab.async false
set_option linter.all false
set_option maxRecDepth 100000
set_option autoImplicit false
set_option maxHeartbeats 1000000
/-! REg: operators, comparisons, attributes. -/
namespace RE
open PySem PySem.Spec PyProof.Rows L2 TL
def JEt (X : Cx) (tst : Bool) (x : Expr) (δ : TL.Env) (r : Rz) (δ' : TL.Env) : Prop :=
  match tst with
  | false => JE X x δ r δ'
  | true => JT X x δ r δ'
section
variable {X : Cx} {a b e : Expr} {δ δ1 δ2 δ' : TL.Env} {r : Rz} {pos p : Pos} {x y : D} {xn : Xn}
theorem op_no {f : Value → Value → Sem Value} : OpR X f (fun _ _ _ _ => False) := fun _ _ _ _ _ _ _ _ _ _ _ _ h => h.elim
theorem un_no {f : Value → Sem Value} : UnR X f (fun _ _ _ => False) := fun _ _ _ _ _ _ _ _ _ h => h.elim
theorem ca_no {f : Value} : CallR X f (fun _ _ _ => False) := fun _ _ _ _ _ _ _ _ _ h => h.elim
/-- as a test: the value's truth -/
theorem s_fin {tst : Bool} {o : Option (Rz × TL.Env)} (hv : ∀ r δ', o = some (r, δ') → JE X e δ r δ') (he : ∀ whole, isTrue e X.env whole = (do let v ← whole; standAt e.pos; holding [v] (truthy v))) (h : fin tst o = some (r, δ')) : JEt X tst e δ r δ' := by
  cases tst with
  | false => exact hv r δ' h
  | true =>
    rcases bR_some h with ⟨x, δ1, h1, h2⟩ | ⟨r1, d1, δ1, h1, hd, h2⟩
    · cases h2
      have j := hv _ _ h1
      exact fun M W σ H Q g E k => wT_of (pt_val pe_w he) (j M W σ H _ g E k)
    · have j := (hv _ _ h1).tr hd
      obtain ⟨k, hk, e⟩ := Option.map_eq_some_iff.mp h2
      cases e
      cases d1 <;> first | (cases hk; done) | skip
      · cases hk; exact tt_bl j he
      · cases hk; exact tt_lst j he
end
theorem fold_len : ∀ (n : Nat) (a acc : Array Nat), ((List.replicate n a).foldl (· ++ ·) acc).size = acc.size + n * a.size
  | 0, a, acc => by simp
  | n + 1, a, acc => by
    rw [List.replicate_succ, List.foldl_cons, fold_len n a (acc ++ a), Array.size_append, Nat.succ_mul]
    omega
theorem fold_nil : ∀ (n : Nat) (a acc : Array Nat), a.size = 0 → (List.replicate n a).foldl (· ++ ·) acc = acc
  | 0, a, acc, _ => rfl
  | n + 1, a, acc, h => by
    have e : a = #[] := Array.eq_empty_of_size_eq_zero h
    rw [List.replicate_succ, List.foldl_cons, fold_nil n a (acc ++ a) h, e, Array.append_empty]
/-- a text, so many times -/
theorem op_mulS {X : Cx} : OpR X (binaryOp .Mult) (fun x y H Q => ∃ a i, x = .str a ∧ y = .int i ∧ 0 ≤ i ∧ i ≤ 1000 ∧ a.length ≤ 1000 ∧ Q (.str (reps a i.toNat)) H) := by
  intro pins s σ H x y v u Q I rx ry h
  obtain ⟨a, i, rfl, rfl, h0, h1, hl, q⟩ := h
  obtain ⟨t, rfl⟩ := rx
  obtain ⟨t', rfl⟩ := ry
  have hml : a.length * i.toNat ≤ 1000 * 1000 := Nat.mul_le_mul hl (by omega)
  refine P.mul_str ?_ (fun h2 _ => ?_) (fun h2 _ => ?_) ?_
  · have a1 : ¬ i < -(2 ^ 63 : Int) := by omega
    have a2 : ¬ i ≥ 2 ^ 63 := by omega
    rw [decide_eq_false a1, decide_eq_false a2]; rfl
  · have h3 : (1000000 : Int) ≤ (2 ^ 63 - 1) / i := (Int.le_ediv_iff_mul_le (by omega)).mpr (by omega)
    omega
  · unfold Builtin.Str.tooLong; rw [sizeLine_eq]; exact decide_eq_false (by omega)
  · split
    · rename_i h2
      have e : i.toNat = 0 := by omega
      rw [e] at q
      exact ⟨by decide, .str _, H, I.tok _, ⟨_, rfl⟩, q⟩
    · split
      · rename_i h2 h3
        have e : reps a i.toNat = a := by
          unfold reps
          rw [Bool.or_eq_true] at h3
          rcases h3 with h3 | h3
          · rw [eq_of_beq h3]; simp
          · rw [fold_nil _ _ _ (eq_of_beq h3)]
            have : a.cps = #[] := Array.eq_empty_of_size_eq_zero (eq_of_beq h3)
            cases a; simp_all
        rw [e] at q
        exact ⟨.str a, H, I, ⟨_, rfl⟩, q⟩
      · refine ⟨?_, .str _, H, I.tok _, ⟨_, rfl⟩, q⟩
        show Str.length _ ≤ _
        unfold Str.length
        rw [fold_len]
        rw [sizeLine_eq]
        have : a.length = a.cps.size := rfl
        have : a.cps.size * i.toNat ≤ 1000 * 1000 := hml
        simp only [List.size_toArray, List.length_nil]
        rw [Nat.mul_comm]
        omega
/-! ### own operators -/
def OpS (X : Cx) (f : Value → Value → Sem Value) (r : L2.St → R2) : Prop :=
  ∀ (pins : List (Addr × Obj)) (s : Shared) (σ : L2.St) (H : Hp) (x y : V) (v u : Value) (Q : VK), Inv X pins σ H s → RelV x v → RelV y u → r σ x y H Q → wpAny (model X.prog X.w) X.A (f v u) (EP X pins σ Q) X.xe s
section
variable {X : Cx} {a b : Expr} {pos : Pos} {σ : L2.St} {H : Hp} {Q : VK} {r : L2.St → R2}
theorem we_opS {op : Operator} (ho : OpS X (binaryOp op) r) (h : wE X a σ H fun x H1 => wE X b σ H1 fun y H2 => r σ x y H2 Q) : wE X (.BinOp a op b pos) σ H Q :=
  ⟨fun pins s I => wpAny_BinOp (binT pe_w pe_w I h fun v u s2 x y H2 I2 rx ry q => ho pins s2 σ H2 x y v u Q I2 rx ry q)⟩
theorem we_cmpS {op : CmpOp} (ho : OpS X (compareOp op) r) (hm : behindInMarks op b = false) (h : wE X a σ H fun x H1 => wE X b σ H1 fun y H2 => r σ x y H2 Q) : wE X (.Compare a [op] [b] pos) σ H Q :=
  ⟨fun pins s I => wpAny_Compare1 (binT pe_w pe_w I h fun v u s2 x y H2 I2 rx ry q => ho pins s2 σ H2 x y v u Q I2 rx ry q) hm⟩
theorem wt_cmpS {op : CmpOp} {Qt : Bool → Hp → Prop} (ho : OpS X (compareOp op) r) (hm : behindInMarks op b = false) (h : wE X a σ H fun x H1 => wE X b σ H1 fun y H2 => r σ x y H2 fun z H' => ∃ k, z = .bl k ∧ Qt k H') : wT X (.Compare a [op] [b] pos) σ H Qt :=
  ⟨fun pins s I => wpAny_isTrue_Compare1 (binT pe_w pe_w I h fun v u s2 x y H2 I2 rx ry q => thn (ho pins s2 σ H2 x y v u _ I2 rx ry q) fun c s3 ⟨z, H3, I3, r3, k, e, q3⟩ => by
    subst e
    cases r3
    exact wpAny_truthy_bool ⟨H3, I3, q3⟩) hm⟩
end
section
variable {U : Sd} {T : Tb} {lv : Nat} {md : Md} {X : Cx} {q : Str} {A : Addr} {a b e : Expr} {δ δ1 δ2 δ' : TL.Env} {r : Rz} {pos p : Pos} {x y : D} {ns : List Str} {ds : List D}
theorem call_inv {ds : List D} {r : Rz} {m : Md} (h : callD U.G T m q ds = some r) : ∃ f ss', U.G.fns q = some f ∧ f.po = true ∧ T m q (ds.map S.im) = some (r, ss') := by
  unfold callD at h
  obtain ⟨f, hf, h⟩ := Option.bind_eq_some_iff.mp h
  split at h
  · rename_i hp
    obtain ⟨⟨r', ss'⟩, h1, h2⟩ := Option.map_eq_some_iff.mp h
    cases h2
    exact ⟨f, ss', hf, hp, h1⟩
  · cases h
/-- the answer of an own operator's def -/
def rOp (T : Tb) (md : Md) (q : Str) (X : Cx) (A : Addr) (ty : V → Hp → Prop) : L2.St → R2 := fun σ x y H Q => ∃ a dx fs, x = .ref a ∧ H a = some (.ins A dx fs) ∧ ty y H ∧ ∃ (M W : Addr → Prop) (ds : List D) (r : Rz) (ss' : List S), T md q (ds.map S.im) = some (r, ss') ∧ Good M W H ∧ Reps M H ds [x, y] ∧ PC X M σ H Q r
theorem ops_ownC (ok : XOk U T lv md X) {op : Operator} {f : Fc} (ho : U.G.own A (PySem.dunder op.info.2) = some q) (hf : U.G.fns q = some f) (hp : f.po = true) : OpS X (binaryOp op) (rOp T md q X A fun y H => ∃ b dy fs, y = .ref b ∧ H b = some (.ins A dy fs)) := by
  intro pins s σ H x y v u Q I rx ry h
  obtain ⟨a, dx, fs, rfl, ha, ⟨b, dy, fs', rfl, hb⟩, M, W, ds, r, ss', hT, g, rr, pc⟩ := h
  cases rx
  cases ry
  obtain ⟨c, hs, hfn⟩ := ok.wd.own A _ q ho
  rw [← ok.K] at c hs hfn
  obtain ⟨mA, J, _⟩ := ins_get I.hok ha
  obtain ⟨mB, J', _⟩ := ins_get I.hok hb
  obtain ⟨od, J, _⟩ := J.look
  obtain ⟨od', J', _⟩ := J'.look
  obtain ⟨m, hF⟩ := I.fr
  refine PySem.W.binop_K hF I.ok.mod.kin J J'.type c.sf hs hfn (wpAny_mono (run_data ok rfl (ok.room.mono (by omega)) ok.hd ok.gd hf hp hT g rr pc I (.cons rfl (.cons rfl .nil))) (fun r s' hq => ?_) fun _ _ z => z)
  exact SlX.cmpback (z := hq.choose) hq.choose_spec.choose_spec.2.1 hq
theorem ops_ownI (ok : XOk U T lv md X) {op : Operator} {f : Fc} (ho : U.G.own A (PySem.dunder op.info.2) = some q) (hri : U.G.ri A op = true) (hf : U.G.fns q = some f) (hp : f.po = true) : OpS X (binaryOp op) (rOp T md q X A fun y _ => ∃ i, y = .int i) := by
  intro pins s σ H x y v u Q I rx ry h
  obtain ⟨a, dx, fs, rfl, ha, ⟨i, rfl⟩, M, W, ds, r, ss', hT, g, rr, pc⟩ := h
  cases rx
  obtain ⟨t, rfl⟩ := ry
  obtain ⟨c, hs, hfn⟩ := ok.wd.own A _ q ho
  obtain ⟨hrr, hsub, fo, ro, h1, h2⟩ := ok.wd.ri A op hri
  rw [← ok.K] at c hs hfn hrr hsub h1 h2
  obtain ⟨mA, J, _⟩ := ins_get I.hok ha
  obtain ⟨od, J, _⟩ := J.look
  obtain ⟨m, hF⟩ := I.fr
  refine PySem.W.ksp_binT hF I.ok.mod.kin J rfl c.sf hs hfn hrr (.inl rfl) h1 h2 hsub (wpAny_mono (run_data ok rfl (ok.room.mono (by omega)) ok.hd ok.gd hf hp hT g rr pc I (.cons rfl (.cons ⟨t, rfl⟩ .nil))) (fun r s' hq => ?_) fun _ _ z => z)
  exact SlX.cmpback (z := hq.choose) hq.choose_spec.choose_spec.2.1 hq
theorem own_je (ok : XOk U T lv md X) {op : Operator} (ha : TR X a δ (.ins A ns ds) δ1) (hb : TR X b δ1 y δ2) (ho : U.G.own A (PySem.dunder op.info.2) = some q) (hc : isClsD A y = true ∨ (isIntD y = true ∧ U.G.ri A op = true)) (h : callD U.G T md q [.ins A ns ds, y] = some r) :
    JE X (.BinOp a op b pos) δ r δ2 := je_of fun M W σ H Q g E k => by
  obtain ⟨f, ss', hf, hp, hT⟩ := call_inv h
  rcases hc with hc | ⟨hi, hri⟩
  · refine we_opS (ops_ownC ok ho hf hp) (ha M W σ H _ g E fun u H1 s1 r1 => hb M W σ H1 _ s1.good s1.env fun v H2 s2 r2 => ?_)
    have r1' := s2.rep r1
    obtain ⟨p1, dx, vs, rfl, m1, h1, rr1⟩ := id r1'
    cases y <;> first | (cases hc; done) | skip
    rename_i B ns' ds'
    have hB : B = A := by simpa [isClsD] using hc
    subst hB
    obtain ⟨p2, dy, vs', rfl, m2, h2, rr2⟩ := id r2
    exact ⟨p1, dx, _, rfl, h1, ⟨p2, dy, _, rfl, h2⟩, M, W, _, r, ss', hT, s2.good, ⟨_, _, rfl, r1', _, _, rfl, r2, rfl⟩, KE.pc (s1.trans s2) g k⟩
  · refine we_opS (ops_ownI ok ho hri hf hp) (ha M W σ H _ g E fun u H1 s1 r1 => hb M W σ H1 _ s1.good s1.env fun v H2 s2 r2 => ?_)
    have r1' := s2.rep r1
    obtain ⟨p1, dx, vs, rfl, m1, h1, rr1⟩ := id r1'
    cases y <;> first | (cases hi; done) | skip
    exact ⟨p1, dx, _, rfl, h1, ⟨_, r2⟩, M, W, _, r, ss', hT, s2.good, ⟨_, _, rfl, r1', _, _, rfl, r2, rfl⟩, KE.pc (s1.trans s2) g k⟩
theorem bin_je (ok : XOk U T lv md X) {op : Operator} (ha : TR X a δ x δ1) (hb : TR X b δ1 y δ2) (h : binD U.G T md op x y = some r) : JE X (.BinOp a op b pos) δ r δ2 := by
  unfold binD at h
  split at h
  · split at h
    · obtain ⟨d, hd, e⟩ := Option.map_eq_some_iff.mp h
      cases e
      cases op <;> simp only [intOp] at hd <;> first | (cases hd; done) | skip
      · cases hd; exact tr_add ha hb
      · cases hd; exact tr_sub ha hb
      · obtain ⟨hc, e⟩ := req_some hd; cases e; exact tr_mul ha hb hc
      · obtain ⟨hc, e⟩ := req_some hd; cases e; exact tr_mod ha hb hc
      · obtain ⟨hc, e⟩ := req_some hd; cases e; exact tr_pow ha hb hc
      · obtain ⟨hc, e⟩ := req_some hd; cases e; exact tr_fdiv ha hb hc
    · cases h
  · split at h
    · obtain ⟨hc, e⟩ := req_some h; cases e; exact tr_addS ha hb hc
    · obtain ⟨hc, e⟩ := req_some h; cases e
      exact tr_op op_mulS ha hb fun M W H u v Q _ ru rv k => ⟨_, _, ru, rv, hc.1, hc.2.1, hc.2.2, k _ H (fun _ _ e => e) rfl⟩
    · cases h
  · split at h
    · obtain ⟨hc, e⟩ := req_some h; cases e; exact tf_cat ha hb hc
    · cases h
  · split at h
    · rename_i q hq
      obtain ⟨hc, e⟩ := req_some h
      exact own_je ok ha hb hq hc e
    · cases h
  · cases h
/-! -a -/
theorem neg_je (ok : XOk U T lv md X) (ha : TR X a δ x δ1) (h : negD U.G T md x = some r) : JE X (.UnaryOp .USub a pos) δ r δ1 := by
  unfold negD at h
  split at h
  · cases h; exact tr_neg ha
  · split at h
    · rename_i A ns ds _ q hq
      obtain ⟨f, ss', hf, hp, hT⟩ := call_inv h
      refine je_of fun M W σ H Q g E k => ⟨fun pins s I => ?_⟩
      refine UnaryOp_ (thn ((ha M W σ H (fun u H1 => Stp M W σ δ1 H H1 ∧ Rep M H1 (.ins A ns ds) u) g E fun u H1 s1 r1 => ⟨s1, r1⟩).run pins s I) fun v s1 ⟨u, H1, I1, ru, st, r1⟩ => ?_)
      obtain ⟨p1, dx, vs, rfl, m1, h1, rr1⟩ := id r1
      cases ru
      obtain ⟨c, hs, hfn⟩ := ok.wd.own A _ q hq
      rw [← ok.K] at hs hfn
      obtain ⟨mA, J, _⟩ := ins_get I1.hok h1
      obtain ⟨od, J, _⟩ := J.look
      obtain ⟨m, hF⟩ := I1.fr
      exact PySem.W.ksp_neg hF I1.ok.mod.kin J hs hfn (run_data ok rfl (ok.room.mono (by omega)) ok.hd ok.gd hf hp hT st.good ⟨_, _, rfl, r1, rfl⟩ (KE.pc st g k) I1 (vs := [V.ref p1]) (.cons rfl .nil))
    · cases h
  · cases h
end
end RE
set_option Elab.async false
set_option linter.all false
set_option maxRecDepth 100000
set_option autoImplicit false
set_option maxHeartbeats 1000000
/-! REh: comparisons, attributes, built-ins. -/
namespace RE
open PySem PySem.Spec PyProof.Rows L2 TL
theorem mark_no {op : CmpOp} {x : Expr} (h : isSetE x = false) : behindInMarks op x = false := by
  cases x <;> first | rfl | cases h
theorem okE_set {N : List Str} {sc : Scope} {e : E} {x : Expr} (h : okE N sc e x = true) : isSetE x = false := by
  cases x <;> first
    | rfl
    | (exfalso; cases e <;> cases h)
section
variable {U : Sd} {T : Tb} {lv : Nat} {md : Md} {X : Cx} {q : Str} {A : Addr} {a b e : Expr} {es : List Expr} {δ δ1 δ2 δ' : TL.Env} {r : Rz} {pos p : Pos} {x y d : D} {ns : List Str} {ds : List D} {k : Bool}
/-- both readings of a comparison -/
def Cm (X : Cx) (op : CmpOp) (a b : Expr) (pos : Pos) (δ : TL.Env) (k : Bool) (δ' : TL.Env) : Prop := TR X (.Compare a [op] [b] pos) δ (.bl k) δ' ∧ TT X (.Compare a [op] [b] pos) δ k δ'
theorem cm_op {op : CmpOp} {r2 : R2} (ho : OpR X (compareOp op) r2) (ha : TR X a δ x δ1) (hb : TR X b δ1 y δ2) (hr : OpT r2 x y (.bl k)) (hm : behindInMarks op b = false) : Cm X op a b pos δ k δ2 := ⟨tr_cmp ho ha hb hr hm, tt_cmp ho ha hb hr hm⟩
def rCm (T : Tb) (md : Md) (q : Str) (X : Cx) (A : Addr) (neg : Bool) : L2.St → R2 := fun σ x y H Q => ∃ a dx fs t, x = .ref a ∧ H a = some (.ins A dx fs) ∧ TyX X.K H y t ∧ PySem.W.notFirst X.K A t = true ∧ ∃ (M W : Addr → Prop) (ds : List D) (k : Bool) (ss' : List S), T md q (ds.map S.im) = some (.im (.bl k), ss') ∧ Good M W H ∧ Reps M H ds [x, y] ∧
  ∀ H', (∀ a o, H a = some o → H' a = some o) → Q (.bl (if neg then !k else k)) H'
theorem ops_eq (ok : XOk U T lv md X) {f : Fc} (ho : U.G.own A "__eq__" = some q) (hf : U.G.fns q = some f) (hp : f.po = true) : OpS X (compareOp .Eq) (rCm T md q X A false) := by
  intro pins s σ H x y v u Q I rx ry h
  obtain ⟨a, dx, fs, t, rfl, ha, ty, hn, M, W, ds, k, ss', hT, g, rr, pc⟩ := h
  cases rx
  obtain ⟨c, hs, hfn⟩ := ok.wd.own A _ q ho
  rw [← ok.K] at hs hfn
  obtain ⟨mA, J, _⟩ := ins_get I.hok ha
  obtain ⟨od, J, _⟩ := J.look
  obtain ⟨m, hF⟩ := I.fr
  refine PySem.W.cmp_K (op := .Eq) (by have := ok.room.un; omega) hF I.ok.mod.kin J (looks_ty I ry ty) hn hs hfn (wpAny_mono (run_data (Q := fun z H' => z = .bl k ∧ Q (.bl k) H') ok rfl (ok.room.mono (by omega)) ok.hd ok.gd hf hp hT g rr (show PC X M σ H _ (.im (.bl k)) from fun z H' ex rz => ⟨rz, pc H' ex⟩) I (.cons rfl (.cons ry .nil))) (fun r s' hq => ?_) fun _ _ z => z)
  obtain ⟨z, H', I', rz, rfl, hq⟩ := hq
  cases rz
  exact ⟨.bl k, H', I', rfl, hq⟩
theorem ops_ne (ok : XOk U T lv md X) {f : Fc} (ho : U.G.own A "__eq__" = some q) (hf : U.G.fns q = some f) (hp : f.po = true) : OpS X (compareOp .NotEq) (rCm T md q X A true) := by
  intro pins s σ H x y v u Q I rx ry h
  obtain ⟨a, dx, fs, t, rfl, ha, ty, hn, M, W, ds, k, ss', hT, g, rr, pc⟩ := h
  cases rx
  obtain ⟨c, hs, hfn⟩ := ok.wd.own A _ q ho
  have hne := ok.wd.one A q ho
  rw [← ok.K] at c hs hfn hne
  obtain ⟨mA, J, _⟩ := ins_get I.hok ha
  obtain ⟨od, J, _⟩ := J.look
  obtain ⟨m, hF⟩ := I.fr
  refine ne_own (by have := ok.room.un; omega) hF I.ok.mod.kin J (looks_ty I ry ty) hn c.cm hne hs hfn (wpAny_mono (run_data (A := X.A.in1) (Q := fun z H' => z = .bl k ∧ Q (.bl (!k)) H') ok rfl (roomH_in1 (ok.room.mono (by omega) : L2H.RoomH (lv + 1) X.A)) ok.hd ok.gd hf hp hT g rr (show PC X M σ H _ (.im (.bl k)) from fun z H' ex rz => ⟨rz, pc H' ex⟩) I (.cons rfl (.cons ry .nil))) (fun r s' hq => ?_) fun _ _ z => z)
  obtain ⟨z, H', I', rz, rfl, hq⟩ := hq
  cases rz
  exact ⟨k, rfl, .bl (!k), H', I', rfl, hq⟩
theorem cm_own (ok : XOk U T lv md X) {op : CmpOp} {neg : Bool} {f : Fc} (ho : OpS X (compareOp op) (rCm T md q X A neg)) (ha : TR X a δ (.ins A ns ds) δ1) (hb : TR X b δ1 y δ2) (hn : U.G.nf A y = true) {ss' : List S} (hT : T md q ([.ins A ns ds, y].map S.im) = some (.im (.bl k), ss')) (hm : behindInMarks op b = false) : Cm X op a b pos δ (if neg then !k else k) δ2 := by
  obtain ⟨t, ty, hnf⟩ := ok.wd.nf A y hn
  rw [← ok.K] at ty hnf
  have key : ∀ (M W : Addr → Prop) (σ : L2.St) (H : Hp) (Q : VK), Good M W H → EnvR M W H σ δ → (∀ H', Stp M W σ δ2 H H' → Q (.bl (if neg then !k else k)) H') → wE X a σ H fun x H1 => wE X b σ H1 fun y H2 => rCm T md q X A neg σ x y H2 Q := fun M W σ H Q g E kk =>
    ha M W σ H _ g E fun u H1 s1 r1 => hb M W σ H1 _ s1.good s1.env fun v H2 s2 r2 => by
      have r1' := s2.rep r1
      obtain ⟨p1, dx, vs, rfl, m1, h1, rr1⟩ := id r1'
      exact ⟨p1, dx, _, t, rfl, h1, ty.x r2, hnf, M, W, _, k, ss', hT, s2.good, ⟨_, _, rfl, r1', _, _, rfl, r2, rfl⟩, fun H' ex => kk H' ((s1.trans s2).ext ex)⟩
  exact ⟨fun M W σ H Q g E kk => we_cmpS ho hm (key M W σ H Q g E fun H' st => kk _ H' st rfl), fun M W σ H Q g E kk => wt_cmpS ho hm (key M W σ H _ g E fun H' st => ⟨_, rfl, kk H' st⟩)⟩
theorem eq_inv (h : eqD U.G T md x y = some k) : (∃ A ns ds q f ss', x = .ins A ns ds ∧ U.G.own A "__eq__" = some q ∧ U.G.nf A y = true ∧ U.G.fns q = some f ∧ f.po = true ∧ T md q ([x, y].map S.im) = some (.im (.bl k), ss')) ∨ (∃ i j, x = .int i ∧ y = .int j ∧ k = decide (i = j)) ∨ (∃ i j, x = .str i ∧ y = .str j ∧ k = decide (i = j)) ∨
    (x.Ok ∧ y.Ok ∧ x.py.depth ≤ 64 ∧ y.py.depth ≤ 64 ∧ k = PyData.eqv x.py y.py) := by
  unfold eqD at h
  split at h
  · split at h
    · rename_i q hq
      obtain ⟨hn, h⟩ := req_some h
      split at h
      · rename_i b hb
        cases h
        obtain ⟨f, ss', hf, hp, hT⟩ := call_inv hb
        exact .inl ⟨_, _, _, q, f, ss', rfl, hq, hn, hf, hp, hT⟩
      · cases h
    · cases h
  · split at h
    · cases h; exact .inr (.inl ⟨_, _, rfl, rfl, rfl⟩)
    · cases h
  · split at h
    · cases h; exact .inr (.inr (.inl ⟨_, _, rfl, rfl, rfl⟩))
    · cases h
  · obtain ⟨⟨h1, h2, h3, h4⟩, e⟩ := req_some h
    cases e
    exact .inr (.inr (.inr ⟨h1, h2, h3, h4, rfl⟩))
theorem non_rep {M : Addr → Prop} {H : Hp} {v : V} (h : nonD x = some k) (r : Rep M H x v) : decide (v = V.non) = k := by
  cases x <;> cases h
  · obtain rfl : v = .non := r; rfl
  all_goals first
    | exact False.elim r
    | (obtain rfl : v = V.bl _ := r; rfl)
    | (obtain rfl : v = V.int _ := r; rfl)
    | (obtain rfl : v = V.str _ := r; rfl)
    | (obtain ⟨_, _, rfl, _⟩ := r; rfl)
    | (obtain ⟨_, _, _, rfl, _⟩ := r; rfl)
    | (obtain ⟨rfl, _⟩ := r; rfl)
theorem cmp_je (ok : XOk U T lv md X) {op : CmpOp} (ha : TR X a δ x δ1) (hb : TR X b δ1 y δ2) (h : cmpD U.G T md op x y = some k) (hm : behindInMarks op b = false) : Cm X op a b pos δ k δ2 := by
  unfold cmpD at h
  split at h
  · rcases eq_inv h with ⟨A, ns, ds, q, f, ss', rfl, hq, hn, hf, hp, hT⟩ | ⟨i, j, rfl, rfl, rfl⟩ | ⟨i, j, rfl, rfl, rfl⟩ | ⟨h1, h2, h3, h4, rfl⟩
    · exact cm_own (f := f) ok (ops_eq ok hq hf hp) ha hb hn hT hm
    · exact cm_op op_eq ha hb ot_eqI hm
    · exact cm_op op_eq ha hb ot_eqS hm
    · exact cm_op (op_eqD ok.hu) ha hb (ot_eqD (D.Ok.data x h1) (D.Ok.data y h2) (h1.shaped h3) (h2.shaped h4)) hm
  · obtain ⟨k', hk, rfl⟩ := Option.map_eq_some_iff.mp h
    rcases eq_inv hk with ⟨A, ns, ds, q, f, ss', rfl, hq, hn, hf, hp, hT⟩ | ⟨i, j, rfl, rfl, rfl⟩ | ⟨i, j, rfl, rfl, rfl⟩ | ⟨h1, h2, h3, h4, rfl⟩
    · exact cm_own (f := f) ok (ops_ne ok hq hf hp) ha hb hn hT hm
    · exact cm_op op_ne ha hb ot_neI hm
    · exact cm_op op_ne ha hb ot_neS hm
    · exact cm_op (op_neD ok.hu) ha hb (ot_neD (D.Ok.data x h1) (D.Ok.data y h2) (h1.shaped h3) (h2.shaped h4)) hm
  · split at h
    · cases h; exact cm_op op_lt ha hb (ot_I0 fun _ _ => rfl) hm
    · cases h
  · split at h
    · cases h; exact cm_op op_le ha hb (ot_I0 fun _ _ => rfl) hm
    · cases h
  · split at h
    · cases h; exact cm_op op_gt ha hb (ot_I0 fun _ _ => rfl) hm
    · cases h
  · split at h
    · cases h; exact cm_op op_ge ha hb (ot_I0 fun _ _ => rfl) hm
    · cases h
  · split at h
    · exact cm_op op_isN ha hb (fun M W H u v Q _ ru rv kk => ⟨rv, kk _ H (fun _ _ e => e) (by rw [non_rep h ru]; exact rfl)⟩) hm
    · cases h
  · split at h
    · obtain ⟨k', hk, rfl⟩ := Option.map_eq_some_iff.mp h
      exact cm_op op_notN ha hb (fun M W H u v Q _ ru rv kk => ⟨rv, kk _ H (fun _ _ e => e) (by rw [non_rep hk ru]; exact rfl)⟩) hm
    · cases h
  · cases h
end
/-! ### attributes -/
theorem env0_in1 {P : Program} {w : World} {K : PySem.W.Frag} {mg : Str → Option Value} {base : Heap} {A : Around} {outer : List PySem.Env} {s : Shared} {H : Hp} (e : Env0 P w K mg base A outer s H) : Env0 P w K mg base A.in1 outer s H := ⟨e.frames, e.mod, e.bs, e.bsz, e.funs, e.frf, e.hok, e.bare⟩
/-- a property, read: its getter runs, whatever is handled -/
theorem getprop {U : Sd} {T : Tb} {lv : Nat} {md : Md} {X : Cx} (ok : XOk U T lv md X) {q f : Str} {fc : Fc} {A pp a dx : Addr} {fs : List (Str × V)} {d0 : D} {r : Rz} {ss' : List S} {M W : Addr → Prop} {pins : List (Addr × Obj)} {σ : L2.St} {H : Hp} {s : Shared} {Q : VK} {b : Bool} (c : Cls X.K A) (hpr : PropOf X.K A f pp (U.ad q)) (hf : U.G.fns q = some fc) (hp : fc.po = true)
    (hT : T ⟨false, md.calm⟩ q [.im d0] = some (r, ss')) (g : Good M W H) (rx : Rep M H d0 (.ref a)) (ha : H a = some (.ins A dx fs)) (I : Inv X pins σ H s) (hne : ∀ x, r ≠ .ex x) (pc : PC X M σ H Q r) : wpAny (model X.prog X.w) X.A (getAttr (.ref a) f b) (EP X pins σ Q) X.xe s := by
  obtain ⟨mA, O, _⟩ := ins_get I.hok ha
  obtain ⟨od, J, _⟩ := O.look
  obtain ⟨rest, hrec⟩ := hpr.rec_
  have I1 := I.tok (s.toks + 1)
  have hl : [(.im d0 : S)].length = fc.ps.length := ok.wd.len _ q fc _ _ _ hf hT
  have hb := ok.wd.bp q fc hf hp { s with toks := s.toks + 1 } [.ref a] (by rw [← ok.K]; exact I1.kIn) hl
  have hc : (PySem.W.clsIn X.K A).isSome = true := by
    obtain ⟨cd, hc, _⟩ := PySem.W.any_some c.hd
    rw [hc]; rfl
  have hsp : spX T ⟨false, md.calm⟩ q [.ref a] H Q E0 := by
    refine ⟨M, fun _ => False, _, _, _, hT, good0 g, envR_args (ds := [d0]) ⟨_, _, rfl, rx, rfl⟩, ?_⟩
    cases r with
    | im d => exact fun v H' xt _ _ rp => pc v H' (fun a o h => xt a o (fun z => z) h) rp
    | fr xs => exact fun v H' xt _ _ ⟨p, us, e, n, hp, r'⟩ => e ▸ pc p us H' (fun a o h => xt a o (fun z => z) h) n hp r'
    | ex x => exact absurd rfl (hne x)
  have pg := PySem.W.plainGet_of (c.get f)
  refine PySem.W.get_bind I.kIn J pg.1 (PySem.W.findObj_data hc hpr.at_ hpr.get hpr.tak) pg.2 (wpAny_call (PySem.W.prop_get (s := { s with toks := s.toks + 1 }) I.kIn hrec ?_))
  refine codeAny_mono ((ok.fnx hf).run ⟨false, md.calm⟩ X.A.in1 X.stack _ H ⟨[.ref a], []⟩ [.ref a] [.ref a] Q E0 (roomH_in1 (ok.room.mono (by omega))) (fun z => ok.hd z) (fun z => Bool.noConfusion z) (env0_in1 I1.env0) hb (.cons rfl .nil) hl hsp) fun rr s' hq => ?_
  cases rr with
  | error er => exact False.elim (cr_of hq)
  | ok fl =>
    cases fl with
    | ret u =>
      obtain ⟨v, H', I3, rv, q3⟩ := I1.after hq
      show wpAny _ _ (handedOut u) _ _ _
      rw [PySem.W.handedOut_of (handed_of rv)]
      exact wpAny_pure ⟨v, H', I3, rv, q3⟩
    | next => exact hq.elim
    | brk => exact hq.elim
    | cont => exact hq.elim
section
variable {U : Sd} {T : Tb} {lv : Nat} {md : Md} {X : Cx} {q : Str} {A : Addr} {a b e : Expr} {δ δ1 δ2 δ' : TL.Env} {r : Rz} {pos p : Pos} {x y : D} {ns : List Str} {ds : List D}
theorem att_je (ok : XOk U T lv md X) {f : Str} (ha : TR X a δ x δ1) (h : attD U.G T md x f = some r) (hb : notC0 a = true) : JE X (.Attribute a f pos) δ r δ1 := by
  unfold attD at h
  split at h
  · split at h
    · rename_i A ns ds _ q hq
      obtain ⟨r', h1, h2⟩ := Option.bind_eq_some_iff.mp h
      obtain ⟨d, hd, e⟩ := Option.map_eq_some_iff.mp h2
      cases e
      obtain ⟨fc, ss', hf, hp, hT⟩ := call_inv h1
      obtain ⟨c, pp, hpr⟩ := ok.wd.prop A f q hq
      rw [← ok.K] at c hpr
      refine je_of fun M W σ H Q g E k => ⟨fun pins s I => ?_⟩
      refine attr_of (attr_base hb) (thn ((ha M W σ H (fun u H1 => Stp M W σ δ1 H H1 ∧ Rep M H1 (.ins A ns ds) u) g E fun u H1 s1 r1 => ⟨s1, r1⟩).run pins s I) fun v s1 ⟨u, H1, I1, ru, st, r1⟩ => ?_)
      obtain ⟨p1, dx, vs, rfl, m1, h1, rr1⟩ := id r1
      cases ru
      refine getprop ok c hpr hf hp hT st.good r1 h1 I1 (fun x z => by subst z; cases hd) ?_
      cases r' with
      | im d' => cases hd; exact KE.pc st g k
      | fr xs =>
        cases hd
        exact fun p vs H' ex n hp rr => k _ H' (st.ext ex) ⟨p, vs, rfl, st.good.notM n, hp, Reps.anti (fun _ m => .inl m) xs rr⟩
      | ex x => cases hd
    · rename_i A ns ds _ hq
      split at h
      · rename_i hfl
        obtain ⟨d, hd, e⟩ := Option.map_eq_some_iff.mp h
        cases e
        obtain ⟨c, na⟩ := ok.wd.fld A f hfl
        rw [← ok.K] at c na
        exact tr_fld c na ha hd (attr_base hb)
      · cases h
  · cases h
end
end RE
set_option Elab.async false
set_option linter.all false
set_option maxRecDepth 100000
set_option autoImplicit false
set_option maxHeartbeats 1000000
/-! REi: built-ins, isinstance, subscripts. -/
namespace RE
open PySem PySem.Spec PyProof.Rows L2 TL
/-- what a built-in's name stands for -/
def Bt.id : Bt → Value
  | .abs => .builtin "abs" | .int => .type "int" | .len => .builtin "len" | .str => .type "str" | .repr => .builtin "repr" | .bool => .type "bool" | .all => .builtin "all" | .any => .builtin "any" | .max => .builtin "max" | .min => .builtin "min"
theorem boot_bt (b : Bt) : bootBuiltins b.nm = some b.id := by cases b <;> decide +kernel
theorem bt_name (b : Bt) : b.nm ≠ "__name__" := by cases b <;> decide
theorem bt_debug (b : Bt) : (b.nm == ("__debug__" : Str)) = false := by cases b <;> decide
theorem ty_boot (t : Ty) : bootBuiltins t.nm = some (.type (tyS t)) := by cases t <;> decide +kernel
theorem ty_name (t : Ty) : t.nm ≠ "__name__" := by cases t <;> decide
theorem ty_debug (t : Ty) : (t.nm == ("__debug__" : Str)) = false := by cases t <;> decide
theorem gl_of {X : Cx} {sc : Scope} {n : Str} (h : glB sc n = true) (hs : X.env.scope = sc) : Gl X n ∧ (n == ("__debug__" : Str)) = false := by
  simp only [glB, Bool.and_eq_true, decide_eq_true_eq, Bool.not_eq_true'] at h
  exact ⟨by show X.env.scope.names.lookup n = _; rw [hs]; exact h.1, h.2⟩
section
variable {U : Sd} {T : Tb} {lv : Nat} {md : Md} {X : Cx} {q : Str} {A : Addr} {a b e : Expr} {es : List Expr} {δ δ1 δ2 δ' : TL.Env} {r : Rz} {pos p : Pos} {x y d : D} {ns : List Str} {ds xs : List D} {k : Bool}
/-- a built-in called -/
theorem we_blt {bt : Bt} {rc : List V → Hp → VK → Prop} {σ : L2.St} {H : Hp} {Q : VK} (ok : XOk U T lv md X) (hc : CallR X bt.id rc) (hg : Gl X bt.nm) (hs : ∀ x ∈ e :: es, isStar x = false) (h : wA X (e :: es) σ H fun vs H1 => rc vs H1 Q) : wE X (.Call (.Name bt.nm p) (e :: es) [] pos) σ H Q := by
  have hm : X.mg bt.nm = none := by rw [ok.mg]; exact ok.wd.nb bt
  have he : starEach (e :: es) X.env = (false, eval e X.env) :: starEach es X.env := star_cons (hs e (List.mem_cons_self ..))
  have hpl : (backTo pos (starEach es X.env)).any (·.1) = false := star_plain fun y hy => hs y (List.mem_cons_of_mem _ hy)
  have hv := boot_bt bt
  cases bt with
  | abs => exact wE_of (pe_callB hc hg hm hv pa_w (bt_name _) (bt_debug _) he hpl) h
  | int => exact wE_of (pe_callTy hc hg hm hv pa_w (bt_name _) (bt_debug _) he hpl) h
  | len => exact wE_of (pe_callB hc hg hm hv pa_w (bt_name _) (bt_debug _) he hpl) h
  | str => exact wE_of (pe_callTy hc hg hm hv pa_w (bt_name _) (bt_debug _) he hpl) h
  | repr => exact wE_of (pe_callB hc hg hm hv pa_w (bt_name _) (bt_debug _) he hpl) h
  | bool => exact wE_of (pe_callTy hc hg hm hv pa_w (bt_name _) (bt_debug _) he hpl) h
  | all => exact wE_of (pe_callB hc hg hm hv pa_w (bt_name _) (bt_debug _) he hpl) h
  | any => exact wE_of (pe_callB hc hg hm hv pa_w (bt_name _) (bt_debug _) he hpl) h
  | max => exact wE_of (pe_callB hc hg hm hv pa_w (bt_name _) (bt_debug _) he hpl) h
  | min => exact wE_of (pe_callB hc hg hm hv pa_w (bt_name _) (bt_debug _) he hpl) h
theorem blt_tr {bt : Bt} {rc : List V → Hp → VK → Prop} (ok : XOk U T lv md X) (hc : CallR X bt.id rc) (hg : Gl X bt.nm) (hs : ∀ x ∈ es, isStar x = false) (ha : TA X es δ ds δ1) (hl : es ≠ []) (hr : CaT rc ds d) : TR X (.Call (.Name bt.nm p) es [] pos) δ d δ1 := fun M W σ H Q g E kk => by
  cases es with
  | nil => exact absurd rfl hl
  | cons e es => exact we_blt ok hc hg hs (ha M W σ H _ g E fun vs H1 s1 r1 => hr M W H1 vs Q s1.good r1 fun w H2 e2 r2 => kk w H2 (s1.ext e2) r2)
/-! own __repr__, __str__, __bool__ -/
def rO1 (T : Tb) (m : Md) (q : Str) (A : Addr) (d : D) : List V → Hp → VK → Prop := fun xs H Q => ∃ a dx fs, xs = [.ref a] ∧ H a = some (.ins A dx fs) ∧ ∃ (M W : Addr → Prop) (x : D) (ss' : List S), T m q [.im x] = some (.im d, ss') ∧ Good M W H ∧ Rep M H x (.ref a) ∧
  ∀ v H', (∀ a o, H a = some o → H' a = some o) → Rep M H' d v → Q v H'
theorem ca_o1 {ss' : List S} (hT : T md q [.im (.ins A ns xs)] = some (.im d, ss')) : CaT (rO1 T md q A d) [.ins A ns xs] d := fun M W H us Q g r kk => by
  obtain ⟨v, rfl, r1⟩ := reps1 r
  obtain ⟨a, dx, vs, rfl, m, h1, h2⟩ := id r1
  exact ⟨a, dx, _, rfl, h1, M, W, _, ss', hT, g, r1, kk⟩
theorem call_repr (ok : XOk U T lv md X) {f : Fc} {t : Str} (ho : U.G.own A "__repr__" = some q) (hf : U.G.fns q = some f) (hp : f.po = true) : CallR X (.builtin "repr") (rO1 T md q A (.str t)) := by
  intro pins s σ H xs us Q I r h
  obtain ⟨a, dx, fs, rfl, ha, M, W, x, ss', hT, g, rx, pc⟩ := h
  obtain ⟨c, hs, hfn⟩ := ok.wd.own A _ q ho
  rw [← ok.K] at hs hfn
  obtain ⟨mA, J, _⟩ := ins_get I.hok ha
  obtain ⟨od, J, _⟩ := J.look
  obtain ⟨m, hF⟩ := I.fr
  cases r with
  | cons r1 r2 =>
    cases r2
    cases r1
    have r1 : L2H.RoomH (lv + 1) X.A := ok.room.mono (by omega)
    refine PySem.W.repr_K (by have := (roomH_in1 r1).un; omega) hF I.ok.mod.kin J hs hfn (wpAny_mono (run_data (A := X.A.in1) (ds := [x]) (Q := fun z H' => z = .str t ∧ Q (.str t) H') ok rfl (roomH_in1 r1) ok.hd ok.gd hf hp hT g ⟨_, _, rfl, rx, rfl⟩ (show PC X M σ H _ (.im (.str t)) from fun z H' ex rz => ⟨rz, pc _ H' ex rfl⟩) I (vs := [V.ref a]) (.cons rfl .nil)) (fun u s' hq => ?_) fun _ _ z => z)
    obtain ⟨v, H', I', rv, rfl, q'⟩ := hq
    obtain ⟨tk, rfl⟩ := rv
    exact ⟨.str t, H', I', ⟨tk, rfl⟩, q'⟩
theorem call_str (ok : XOk U T lv md X) {f : Fc} {t : Str} (ho : U.G.own A "__str__" = some q) (hf : U.G.fns q = some f) (hp : f.po = true) : CallR X (.type "str") (rO1 T md q A (.str t)) := by
  intro pins s σ H xs us Q I r h
  obtain ⟨a, dx, fs, rfl, ha, M, W, x, ss', hT, g, rx, pc⟩ := h
  obtain ⟨c, hs, hfn⟩ := ok.wd.own A _ q ho
  rw [← ok.K] at hs hfn
  obtain ⟨mA, J, _⟩ := ins_get I.hok ha
  obtain ⟨od, J, _⟩ := J.look
  cases r with
  | cons r1 r2 =>
    cases r2
    cases r1
    have r2 : L2H.RoomH (lv + 2) X.A := ok.room.mono (by omega)
    refine PySem.W.kso_call (by have := (roomH_in1 (roomH_in1 r2)).un; omega) I.kIn J hs hfn (wpAny_mono (run_data (A := X.A.in1.in1) (ds := [x]) (Q := fun z H' => z = .str t ∧ Q (.str t) H') ok rfl (roomH_in1 (roomH_in1 r2)) ok.hd ok.gd hf hp hT g ⟨_, _, rfl, rx, rfl⟩ (show PC X M σ H _ (.im (.str t)) from fun z H' ex rz => ⟨rz, pc _ H' ex rfl⟩) I (vs := [V.ref a]) (.cons rfl .nil)) (fun u s' hq => ?_) fun _ _ z => z)
    obtain ⟨v, H', I', rv, rfl, q'⟩ := hq
    obtain ⟨tk, rfl⟩ := rv
    exact ⟨.str t, H', I', ⟨tk, rfl⟩, q'⟩
theorem call_bool (ok : XOk U T lv md X) {f : Fc} {t : Bool} (ho : U.G.own A "__bool__" = some q) (hf : U.G.fns q = some f) (hp : f.po = true) : CallR X (.type "bool") (rO1 T md q A (.bl t)) := by
  intro pins s σ H xs us Q I r h
  obtain ⟨a, dx, fs, rfl, ha, M, W, x, ss', hT, g, rx, pc⟩ := h
  obtain ⟨c, hs, hfn⟩ := ok.wd.own A _ q ho
  rw [← ok.K] at hs hfn
  obtain ⟨mA, J, _⟩ := ins_get I.hok ha
  obtain ⟨od, J, _⟩ := J.look
  obtain ⟨m, hF⟩ := I.fr
  cases r with
  | cons r1 r2 =>
    cases r2
    cases r1
    have r2 : L2H.RoomH (lv + 2) X.A := ok.room.mono (by omega)
    refine bool_own hF I.ok.mod.kin J hs hfn (wpAny_mono (run_data (A := X.A.in1.in1) (ds := [x]) (Q := fun z H' => z = .bl t ∧ Q (.bl t) H') ok rfl (roomH_in1 (roomH_in1 r2)) ok.hd ok.gd hf hp hT g ⟨_, _, rfl, rx, rfl⟩ (show PC X M σ H _ (.im (.bl t)) from fun z H' ex rz => ⟨rz, pc _ H' ex rfl⟩) I (vs := [V.ref a]) (.cons rfl .nil)) (fun u s' hq => ?_) fun _ _ z => z)
    obtain ⟨v, H', I', rv, rfl, q'⟩ := hq
    cases rv
    exact ⟨.bl t, H', I', rfl, q'⟩
end
end RE
set_option Elab.async false
set_option linter.all false
set_option maxRecDepth 100000
set_option autoImplicit false
set_option maxHeartbeats 1000000
/-! RXa: the containers of a tree: their addresses, none within itself. -/
namespace RE
open PySem PySem.Spec PyProof.Rows L2 TL
mutual
def Ats (H : Hp) : D → V → Addr → Prop
  | .lst xs, v, b => ∃ p vs, v = .ref p ∧ H p = some (.lst vs) ∧ (b = p ∨ Atss H xs vs b)
  | .tup xs, v, b => ∃ p vs, v = .ref p ∧ Rd H p (.tup vs) ∧ (b = p ∨ Atss H xs vs b)
  | .dct ks xs, v, b => ∃ p vs, v = .ref p ∧ Rd H p (.dK ((ks.map Sum.inr).zip vs)) ∧ vs.length = ks.length ∧ (b = p ∨ Atss H xs vs b)
  | _, _, _ => False
def Atss (H : Hp) : List D → List V → Addr → Prop
  | [], _, _ => False
  | d :: ds, vs, b => ∃ v r, vs = v :: r ∧ (Ats H d v b ∨ Atss H ds r b)
end
mutual
/-- nothing but data, containers, instances -/
def clD : D → Bool
  | .scr _ _ _ => false
  | .vl _ => false
  | .tme => false
  | .lst xs => clDs xs
  | .tup xs => clDs xs
  | .dct _ xs => clDs xs
  | _ => true
def clDs : List D → Bool
  | [] => true
  | x :: xs => clD x && clDs xs
end
mutual
def szD : D → Nat
  | .lst xs => szDs xs + 1
  | .tup xs => szDs xs + 1
  | .dct _ xs => szDs xs + 1
  | _ => 1
def szDs : List D → Nat
  | [] => 0
  | x :: xs => szD x + szDs xs
end
def notF : HO → Bool
  | .frz _ _ => false
  | _ => true
theorem rd_eq {H : Hp} {p : Addr} {u w : HO} (a : Rd H p u) (b : Rd H p w) (hu : notF u = true) (hw : notF w = true) : u = w := by
  rcases a with a | ⟨o, a⟩ <;> rcases b with b | ⟨o', b⟩ <;> rw [a] at b <;> cases b <;> first | rfl | (cases hu; done) | (cases hw; done)
theorem rd_tup {H : Hp} {p : Addr} {xs ys : List V} (a : Rd H p (.tup xs)) (b : Rd H p (.tup ys)) : xs = ys := HO.tup.inj (rd_eq a b rfl rfl)
theorem rd_dk {H : Hp} {p : Addr} {xs ys : List (Key × V)} (a : Rd H p (.dK xs)) (b : Rd H p (.dK ys)) : xs = ys := HO.dK.inj (rd_eq a b rfl rfl)
def notTF : HO → Bool
  | .tup _ => false
  | .frz _ _ => false
  | _ => true
theorem rd_lst {H : Hp} {p : Addr} {xs : List V} {o : HO} (a : Rd H p (.tup xs)) (h : H p = some o) (hn : notTF o = true) : False := by
  rcases a with a | ⟨q, a⟩
  · rw [a] at h; cases h; cases hn
  · rw [a] at h; cases h; cases hn
def notDF : HO → Bool
  | .dK _ => false
  | .frz _ _ => false
  | _ => true
theorem rd_dct {H : Hp} {p : Addr} {xs : List (Key × V)} {o : HO} (a : Rd H p (.dK xs)) (h : H p = some o) (hn : notDF o = true) : False := by
  rcases a with a | ⟨q, a⟩
  · rw [a] at h; cases h; cases hn
  · rw [a] at h; cases h; cases hn
theorem zip_inj {ks ks' : List Key} {vs vs' : List V} (h : ks.zip vs = ks'.zip vs') (l : vs.length = ks.length) (l' : vs'.length = ks'.length) : vs = vs' := by
  have e := congrArg (List.map Prod.snd) h
  rwa [List.map_snd_zip (by omega), List.map_snd_zip (by omega)] at e
section
variable {M : Addr → Prop} {H H' : Hp}
theorem sz_flat {d : D} {v : V} (hv : ∀ p, v ≠ .ref p) (c : clD d = true) (r : Rep M H d v) : szD d = 1 := by
  cases d with
  | lst xs => obtain ⟨p, _, e, _⟩ := r; exact absurd e (hv p)
  | tup xs => obtain ⟨p, _, e, _⟩ := r; exact absurd e (hv p)
  | dct ks xs => obtain ⟨p, _, e, _⟩ := r; exact absurd e (hv p)
  | ins => simp only [szD]
  | scr => simp only [szD]
  | vl => simp only [szD]
  | tme => simp only [szD]
  | non => simp only [szD]
  | bl => simp only [szD]
  | int => simp only [szD]
  | str => simp only [szD]
mutual
theorem rep_sz : ∀ (d d' : D) {v : V}, clD d = true → clD d' = true → Rep M H d v → Rep M H d' v → szD d = szD d'
  | .non, d', v, _, c', r, r' => (sz_flat (by rw [show v = V.non from r]; exact nofun) c' r').symm
  | .bl b, d', v, _, c', r, r' => (sz_flat (by rw [show v = V.bl b from r]; exact nofun) c' r').symm
  | .int b, d', v, _, c', r, r' => (sz_flat (by rw [show v = V.int b from r]; exact nofun) c' r').symm
  | .str b, d', v, _, c', r, r' => (sz_flat (by rw [show v = V.str b from r]; exact nofun) c' r').symm
  | .scr _ _ _, _, _, c, _, _, _ => by cases c
  | .vl _, _, _, c, _, _, _ => by cases c
  | .tme, _, _, c, _, _, _ => by cases c
  | .ins C ns ds, d', v, _, c', r, r' => by
    obtain ⟨p, dx, vs, rfl, m, h, _⟩ := r
    cases d' with
    | ins => simp only [szD]
    | lst xs => obtain ⟨p', vs', e, _, h', _⟩ := r'; cases e; rw [h] at h'; cases h'
    | tup xs => obtain ⟨p', vs', e, _, h', _⟩ := r'; cases e; exact (rd_lst h' h rfl).elim
    | dct ks xs => obtain ⟨p', vs', e, _, h', _⟩ := r'; cases e; exact (rd_dct h' h rfl).elim
    | scr => cases c'
    | vl => cases c'
    | tme => cases c'
    | non => cases r'
    | bl => cases r'
    | int => cases r'
    | str => cases r'
  | .lst xs, d', v, c, c', r, r' => by
    obtain ⟨p, vs, rfl, m, h, rr⟩ := r
    cases d' with
    | ins => obtain ⟨p', dx, vs', e, _, h', _⟩ := r'; cases e; rw [h] at h'; cases h'
    | lst ys => obtain ⟨p', vs', e, _, h', rr'⟩ := r'; cases e; rw [h] at h'; cases h'; simp only [clD] at c c'; simp only [szD]; rw [reps_sz xs ys c c' rr rr']
    | tup xs => obtain ⟨p', vs', e, _, h', _⟩ := r'; cases e; exact (rd_lst h' h rfl).elim
    | dct ks xs => obtain ⟨p', vs', e, _, h', _⟩ := r'; cases e; exact (rd_dct h' h rfl).elim
    | scr => cases c'
    | vl => cases c'
    | tme => cases c'
    | non => cases r'
    | bl => cases r'
    | int => cases r'
    | str => cases r'
  | .tup xs, d', v, c, c', r, r' => by
    obtain ⟨p, vs, rfl, m, h, rr⟩ := r
    cases d' with
    | ins => obtain ⟨p', dx, vs', e, _, h', _⟩ := r'; cases e; exact (rd_lst h h' rfl).elim
    | lst ys => obtain ⟨p', vs', e, _, h', rr'⟩ := r'; cases e; exact (rd_lst h h' rfl).elim
    | tup ys => obtain ⟨p', vs', e, _, h', rr'⟩ := r'; cases e; cases rd_tup h h'; simp only [clD] at c c'; simp only [szD]; rw [reps_sz xs ys c c' rr rr']
    | dct ks xs => obtain ⟨p', vs', e, _, h', _⟩ := r'; cases e; cases rd_eq h h' rfl rfl
    | scr => cases c'
    | vl => cases c'
    | tme => cases c'
    | non => cases r'
    | bl => cases r'
    | int => cases r'
    | str => cases r'
  | .dct ks xs, d', v, c, c', r, r' => by
    obtain ⟨p, vs, rfl, m, h, hl, rr⟩ := r
    cases d' with
    | ins => obtain ⟨p', dx, vs', e, _, h', _⟩ := r'; cases e; exact (rd_dct h h' rfl).elim
    | lst ys => obtain ⟨p', vs', e, _, h', rr'⟩ := r'; cases e; exact (rd_dct h h' rfl).elim
    | tup ys => obtain ⟨p', vs', e, _, h', rr'⟩ := r'; cases e; cases rd_eq h h' rfl rfl
    | dct ks' ys =>
      obtain ⟨p', vs', e, _, h', hl', rr'⟩ := r'
      cases e
      have e2 : vs = vs' := zip_inj (rd_dk h h') (by rw [rr.len, List.length_map, hl]) (by rw [rr'.len, List.length_map, hl'])
      subst e2
      simp only [clD] at c c'; simp only [szD]; rw [reps_sz xs ys c c' rr rr']
    | scr => cases c'
    | vl => cases c'
    | tme => cases c'
    | non => cases r'
    | bl => cases r'
    | int => cases r'
    | str => cases r'
theorem reps_sz : ∀ (ds ds' : List D) {vs : List V}, clDs ds = true → clDs ds' = true → Reps M H ds vs → Reps M H ds' vs → szDs ds = szDs ds'
  | [], [], _, _, _, _, _ => rfl
  | [], d :: ds, _, _, _, h, ⟨v, r, e, _⟩ => by rw [show _ = [] from h] at e; cases e
  | d :: ds, [], _, _, _, ⟨v, r, e, _⟩, h => by rw [show _ = [] from h] at e; cases e
  | d :: ds, d' :: ds', _, c, c', ⟨v, r, e, a, b⟩, ⟨v', r', e', a', b'⟩ => by
    subst e
    cases e'
    simp only [clDs, Bool.and_eq_true] at c c'
    simp only [szDs]
    rw [rep_sz d d' c.1 c'.1 a a', reps_sz ds ds' c.2 c'.2 b b']
end
mutual
theorem ats_sub : ∀ (d : D) {v : V} {b : Addr}, clD d = true → Rep M H d v → Ats H d v b → ∃ d', clD d' = true ∧ szD d' ≤ szD d ∧ Rep M H d' (.ref b)
  | .lst xs, v, b, c, r, ⟨p, vs, e, h, q⟩ => by
    have r0 := r
    obtain ⟨p', vs', e', m, h', rr⟩ := r
    subst e
    cases e'
    rw [h] at h'
    cases h'
    rcases q with rfl | q
    · exact ⟨_, c, Nat.le_refl _, r0⟩
    · obtain ⟨d', h1, h2, h3⟩ := atss_sub xs (by simpa only [clD] using c) rr q
      exact ⟨d', h1, by simp only [szD]; omega, h3⟩
  | .tup xs, v, b, c, r, ⟨p, vs, e, h, q⟩ => by
    have r0 := r
    obtain ⟨p', vs', e', m, h', rr⟩ := r
    subst e
    cases e'
    cases rd_tup h h'
    rcases q with rfl | q
    · exact ⟨_, c, Nat.le_refl _, r0⟩
    · obtain ⟨d', h1, h2, h3⟩ := atss_sub xs (by simpa only [clD] using c) rr q
      exact ⟨d', h1, by simp only [szD]; omega, h3⟩
  | .dct ks xs, v, b, c, r, ⟨p, vs, e, h, hl, q⟩ => by
    have r0 := r
    obtain ⟨p', vs', e', m, h', hl', rr⟩ := r
    subst e
    cases e'
    have e2 : vs = vs' := zip_inj (rd_dk h h') (by rw [hl, List.length_map]) (by rw [rr.len, List.length_map, hl'])
    subst e2
    rcases q with rfl | q
    · exact ⟨_, c, Nat.le_refl _, r0⟩
    · obtain ⟨d', h1, h2, h3⟩ := atss_sub xs (by simpa only [clD] using c) rr q
      exact ⟨d', h1, by simp only [szD]; omega, h3⟩
  | .non, _, _, _, _, h | .bl _, _, _, _, _, h | .int _, _, _, _, _, h | .str _, _, _, _, _, h | .scr _ _ _, _, _, _, _, h | .vl _, _, _, _, _, h | .tme, _, _, _, _, h | .ins _ _ _, _, _, _, _, h => h.elim
theorem atss_sub : ∀ (ds : List D) {vs : List V} {b : Addr}, clDs ds = true → Reps M H ds vs → Atss H ds vs b → ∃ d', clD d' = true ∧ szD d' ≤ szDs ds ∧ Rep M H d' (.ref b)
  | [], _, _, _, _, h => h.elim
  | d :: ds, vs, b, c, ⟨v, r, e, a, t⟩, ⟨v', r', e', q⟩ => by
    subst e
    cases e'
    simp only [clDs, Bool.and_eq_true] at c
    have es : szDs (d :: ds) = szD d + szDs ds := by simp only [szDs]
    rcases q with q | q
    · obtain ⟨d', h1, h2, h3⟩ := ats_sub d c.1 a q
      exact ⟨d', h1, by omega, h3⟩
    · obtain ⟨d', h1, h2, h3⟩ := atss_sub ds c.2 t q
      exact ⟨d', h1, by omega, h3⟩
end
/-- no container lies within itself -/
theorem not_in {d : D} {ds : List D} {vs : List V} {p : Addr} (c : clD d = true) (hs : szD d = szDs ds + 1) (cs : clDs ds = true) (r : Rep M H d (.ref p)) (rr : Reps M H ds vs) : ¬ Atss H ds vs p := fun h => by
  obtain ⟨d', h1, h2, h3⟩ := atss_sub ds cs rr h
  have := rep_sz d d' c h1 r h3
  omega
/-! the heap grows: the same addresses -/
mutual
theorem ats_back (ex : ∀ a o, H a = some o → H' a = some o) : ∀ (d : D) {v : V} {b : Addr}, Rep M H d v → Ats H' d v b → Ats H d v b
  | .lst xs, v, b, ⟨p', vs', e', m, h', rr⟩, ⟨p, vs, e, h, q⟩ => by
    subst e
    cases e'
    have := ex _ _ h'
    rw [h] at this
    cases this
    exact ⟨_, _, rfl, h', q.imp id (atss_back ex xs rr)⟩
  | .tup xs, v, b, ⟨p', vs', e', m, h', rr⟩, ⟨p, vs, e, h, q⟩ => by
    subst e
    cases e'
    cases rd_tup h (rd_ex (fun o q => ex _ o q) h')
    exact ⟨_, _, rfl, h', q.imp id (atss_back ex xs rr)⟩
  | .dct ks xs, v, b, ⟨p', vs', e', m, h', hl', rr⟩, ⟨p, vs, e, h, hl, q⟩ => by
    subst e
    cases e'
    have e2 : vs = vs' := zip_inj (rd_dk h (rd_ex (fun o q => ex _ o q) h')) (by rw [hl, List.length_map]) (by rw [rr.len, List.length_map, hl'])
    subst e2
    exact ⟨_, _, rfl, h', hl, q.imp id (atss_back ex xs rr)⟩
  | .non, _, _, _, h | .bl _, _, _, _, h | .int _, _, _, _, h | .str _, _, _, _, h | .scr _ _ _, _, _, _, h | .vl _, _, _, _, h | .tme, _, _, _, h | .ins _ _ _, _, _, _, h => h.elim
theorem atss_back (ex : ∀ a o, H a = some o → H' a = some o) : ∀ (ds : List D) {vs : List V} {b : Addr}, Reps M H ds vs → Atss H' ds vs b → Atss H ds vs b
  | [], _, _, _, h => h.elim
  | d :: ds, vs, b, ⟨v, r, e, a, t⟩, ⟨v', r', e', q⟩ => by
    subst e
    cases e'
    exact ⟨v, r, rfl, q.imp (ats_back ex d a) (atss_back ex ds t)⟩
end
/-! a dict is locked: all data stands -/
mutual
theorem rep_lock {a : Addr} {kvs : List (Key × V)} {o : Obj} (h : H a = some (.dK kvs)) : ∀ (d : D) {v : V}, Rep M H d v → Rep M (upd H a (.frz o (.dK kvs))) d v
  | .non, _, r => r
  | .bl _, _, r => r
  | .int _, _, r => r
  | .str _, _, r => r
  | .vl _, _, r => r
  | .tme, _, r => r
  | .lst xs, _, ⟨p, vs, e, m, s, r⟩ => ⟨p, vs, e, m, by rw [upd_ne (fun z => by rw [z, h] at s; cases s)]; exact s, reps_lock h xs r⟩
  | .scr K b ns, _, ⟨e, r⟩ => ⟨e, r.imp (fun z => ⟨z.1, by
      rcases z.2 with s | ⟨q, s⟩
      · exact .inl (by rw [upd_ne (fun y => by rw [y, h] at s; cases s)]; exact s)
      · exact .inr ⟨q, by rw [upd_ne (fun y => by rw [y, h] at s; cases s)]; exact s⟩⟩) id⟩
  | .tup xs, _, ⟨p, vs, e, m, s, r⟩ => ⟨p, vs, e, m, by
      rcases s with s | ⟨q, s⟩
      · exact .inl (by rw [upd_ne (fun y => by rw [y, h] at s; cases s)]; exact s)
      · exact .inr ⟨q, by rw [upd_ne (fun y => by rw [y, h] at s; cases s)]; exact s⟩, reps_lock h xs r⟩
  | .ins C ns ds, _, ⟨p, dx, vs, e, m, s, r⟩ => ⟨p, dx, vs, e, m, by rw [upd_ne (fun z => by rw [z, h] at s; cases s)]; exact s, repf_lock h p ds r⟩
  | .dct ks ds, _, ⟨p, vs, e, m, s, l, r⟩ => ⟨p, vs, e, m, by
      rcases s with s | ⟨q, s⟩
      · by_cases hp : p = a
        · subst hp
          rw [h] at s
          cases s
          exact .inr ⟨o, upd_same⟩
        · exact .inl (by rw [upd_ne hp]; exact s)
      · exact .inr ⟨q, by rw [upd_ne (fun y => by rw [y, h] at s; cases s)]; exact s⟩, l, reps_lock h ds r⟩
theorem repf_lock {a : Addr} {kvs : List (Key × V)} {o : Obj} (h : H a = some (.dK kvs)) (p : Addr) : ∀ (ds : List D) {vs : List V}, Repf M H p ds vs → Repf M (upd H a (.frz o (.dK kvs))) p ds vs
  | [], _, r => r
  | d :: ds, _, ⟨v, r, e, x, b⟩ => ⟨v, r, e, x.imp (rep_lock h d) (fun ⟨z, t, e, m, s⟩ => ⟨z, t, e, m, by
      rcases s with s | ⟨q, s⟩
      · exact .inl (by rw [upd_ne (fun y => by rw [y, h] at s; cases s)]; exact s)
      · exact .inr ⟨q, by rw [upd_ne (fun y => by rw [y, h] at s; cases s)]; exact s⟩⟩), repf_lock h p ds b⟩
theorem reps_lock {a : Addr} {kvs : List (Key × V)} {o : Obj} (h : H a = some (.dK kvs)) : ∀ (ds : List D) {vs : List V}, Reps M H ds vs → Reps M (upd H a (.frz o (.dK kvs))) ds vs
  | [], _, r => r
  | d :: ds, _, ⟨v, r, e, x, b⟩ => ⟨v, r, e, rep_lock h d x, reps_lock h ds b⟩
end
mutual
theorem ats_lock {a : Addr} {kvs : List (Key × V)} {o : Obj} (h : H a = some (.dK kvs)) : ∀ (d : D) {v : V} {b : Addr}, Ats (upd H a (.frz o (.dK kvs))) d v b → Ats H d v b
  | .lst xs, v, b, ⟨p, vs, e, s, q⟩ => ⟨p, vs, e, by
      by_cases hp : p = a
      · subst hp; rw [upd_same] at s; cases s
      · rw [upd_ne hp] at s; exact s, q.imp id (atss_lock h xs)⟩
  | .tup xs, v, b, ⟨p, vs, e, s, q⟩ => ⟨p, vs, e, by
      by_cases hp : p = a
      · subst hp; rcases s with s | ⟨y, s⟩ <;> rw [upd_same] at s <;> cases s
      · rcases s with s | ⟨y, s⟩ <;> rw [upd_ne hp] at s
        · exact .inl s
        · exact .inr ⟨y, s⟩, q.imp id (atss_lock h xs)⟩
  | .dct ks xs, v, b, ⟨p, vs, e, s, l, q⟩ => ⟨p, vs, e, by
      by_cases hp : p = a
      · subst hp
        rcases s with s | ⟨y, s⟩ <;> rw [upd_same] at s <;> cases s
        exact .inl h
      · rcases s with s | ⟨y, s⟩ <;> rw [upd_ne hp] at s
        · exact .inl s
        · exact .inr ⟨y, s⟩, l, q.imp id (atss_lock h xs)⟩
  | .non, _, _, h | .bl _, _, _, h | .int _, _, _, h | .str _, _, _, h | .scr _ _ _, _, _, h | .vl _, _, _, h | .tme, _, _, h | .ins _ _ _, _, _, h => h.elim
theorem atss_lock {a : Addr} {kvs : List (Key × V)} {o : Obj} (h : H a = some (.dK kvs)) : ∀ (ds : List D) {vs : List V} {b : Addr}, Atss (upd H a (.frz o (.dK kvs))) ds vs b → Atss H ds vs b
  | [], _, _, h => h.elim
  | d :: ds, vs, b, ⟨v, r, e, q⟩ => ⟨v, r, e, q.imp (ats_lock h d) (atss_lock h ds)⟩
end
theorem atss_at : ∀ {ds : List D} {vs : List V} {i : Nat} {d : D} {v : V} {b : Addr}, ds[i]? = some d → vs[i]? = some v → Ats H d v b → Atss H ds vs b
  | [], _, _, _, _, _, h, _, _ => by simp at h
  | _ :: _, [], _, _, _, _, _, h, _ => by simp at h
  | d :: ds, v :: vs, 0, d', v', b, h, h', q => by
    simp at h h'
    subst h h'
    exact ⟨_, _, rfl, .inl q⟩
  | d :: ds, v :: vs, i + 1, d', v', b, h, h', q => ⟨_, _, rfl, .inr (atss_at (i := i) (by simpa using h) (by simpa using h') q)⟩
end
end RE
set_option Elab.async false
set_option linter.all false
set_option maxRecDepth 100000
set_option autoImplicit false
set_option maxHeartbeats 1000000
/-! RXb: a thing shown within a repr, containers within containers: lists. -/
namespace RE
open PySem PySem.Spec PyProof.Rows L2 TL Builtin
/-- the surroundings of X, some levels of C deeper; n containers may still come -/
structure LikN (X : Cx) (A : Around) (n : Nat) : Prop where
  fr : A.frames = X.A.frames
  hd : A.handled = X.A.handled
  dp : A.depth + 2 * n ≤ X.A.depth + 10
  un : A.units + 4 * n ≤ X.A.units + 40
/-- d is shown as t, wherever it stands -/
def ShG (X : Cx) (n : Nat) (d : D) (t : Str) : Prop := ∀ (A : Around) (M W : Addr → Prop) (pins : List (Addr × Obj)) (σ : L2.St) (H : Hp) (s : Shared) (v : V) (u : Value) (base : Nat) (gs : List Code) (E : Value → Shared → Prop) (Q : Str → Shared → Prop),
  LikN X A n → TL.Good M W H → Inv X pins σ H s → Rep M H d v → RelV v u → A.guards = some gs → (∀ b, Ats H d v b → Clear gs b) → base + t.length ≤ sizeLine →
  (∀ s' H', Inv X pins σ H' s' → (∀ a o, H a = some o → H' a = some o) → Q t s') → wpAny (model X.prog X.w) A (pyReprUnder base u) Q E s
section
variable {X : Cx} {A : Around} {n : Nat} {pins : List (Addr × Obj)} {σ : L2.St}
theorem shG_is {d : D} {t : Str} (h : ∀ M H v u, Rep M H d v → RelV v u → ReprIs X.prog X.w u t) : ShG X n d t := fun A M W pins σ H s v u base gs E Q l g I r rv _ _ hz q =>
  h M H v u r rv base hz A E s Q fun tk => q _ H (I.tok tk) fun _ _ e => e
/-- the machine's loop over a list's items -/
theorem listLoop {R : Result → Shared → Prop} {ds : List D} {ts : List Str} {M W : Addr → Prop} {a P : Addr} {vs : List V} {base : Nat} {gs : List Code} (hA : ∀ args, LikN X (A.under (.builtin "list.__repr__.loop" args)) n) (hgs : A.guards = some gs) (hlen : ts.length = ds.length)
    (hS : ∀ (i : Nat) (d : D) (t : Str), ds[i]? = some d → ts[i]? = some t → ShG X n d t) (hsz : base + (listText ts).length ≤ sizeLine)
    (hPs : X.s_0.heap.objs.size ≤ P) (hPL : P ≠ X.env.locals) (hPc : ∀ x c, X.env.cells.lookup x = some c → c ≠ P) (hPp : ∀ p ∈ X.pn ++ pins, p.1 ≠ P) :
    ∀ (k i : Nat) (s : Shared) (H : Hp) (acc : Array Value) (c : Nat) (done : List (Str × Tok)), ds.length - i = k → i ≤ ds.length → TL.Good M W H →
    Inv X ((P, { cls := .type "list", dict := none, data := .seq acc c, slots := #[] }) :: pins) σ H s → H a = some (.lst vs) → Reps M H ds vs → (∀ b, Atss H ds vs b → Clear gs b ∧ b ≠ a) → acc.toList = strValues done → done.map (·.1) = ts.take i →
    (∀ s' H' u, Inv X pins σ H' s' → (∀ b o, H b = some o → H' b = some o) → R (.ok (.ret (.str (listText ts) u))) s') →
    codeAny (model X.prog X.w) A (.builtin "list.__repr__.loop" ⟨[.ref a, rawInt i, .ref P, rawInt ((base + piled (ts.take i) : Nat) : Int)], []⟩) R s := by
  have lenT : (listText ts).length = (textFrom 0 "[" ts).length + 1 := by
    show (textFrom 0 "[" ts ++ "]").length = _
    rw [strLen_append]; rfl
  have low := textFrom_len ts 0 "["
  have few : ds.length ≤ sizeLine := by
    have h1 := low.1
    rw [if_neg (Nat.lt_irrefl 0)] at h1
    omega
  have each : ∀ t ∈ ts, t.length ≤ sizeLine := fun t ht => by
    have h2 := low.2.1 t ht
    omega
  have whole : (listText ts).length ≤ sizeLine := by omega
  have pile := piled_le_listText ts
  have dropP : ∀ {H : Hp} {s : Shared} {o : Obj}, Inv X ((P, o) :: pins) σ H s → Inv X pins σ H s := fun I => I.pins_of fun p hp => I.pin p (List.mem_append_right _ (List.mem_cons_of_mem _ hp))
  intro k
  induction k with
  | zero =>
    intro i s H acc c done hk hi g I ha r hcl hacc hdone hR
    obtain ⟨its, rv, ⟨o, n', ho, hc, hdd, hd⟩, _⟩ := I.list (SqL.of ha)
    have hin : i = ds.length := by omega
    have hil : its.length = ds.length := by rw [← rv.length, r.len]
    obtain ⟨hP, hPn, _, _, _⟩ := I.pin _ (List.mem_append_right _ (.head _))
    refine codeAny_builtin F.entry_list_repr_loop ?_
    show wpAny _ _ («list.__repr__.loop» ⟨[.ref a, .int i 0, .ref P, .int ((base + piled (ts.take i) : Nat) : Int) 0], []⟩) _ _ s
    rw [repr_loop_tree]
    refine wpAny_bind (wpAny_listItems ho hd ?_)
    have gone : its.toArray[(i : Int).toNat]? = none := by simp [hin, hil]
    simp only [gone]
    unfold reprEnd
    refine wpAny_bind (wpAny_listItems hP rfl ?_)
    rw [hacc, repr_fold]
    refine wpAny_bind (wpAny_pure ?_)
    have full : done.map (·.1) = ts := by rw [hdone, hin, ← hlen, List.take_length]
    rw [full]
    refine wpAny_bind (wpAny_mkStr (wpAny_pure ?_) whole)
    exact hR _ H _ ((dropP I).tok _) (fun _ _ e => e)
  | succ k ih =>
    intro i s H acc c done hk hi g I ha r hcl hacc hdone hR
    obtain ⟨its, rv, ⟨o, n', ho, hc, hdd, hd⟩, _⟩ := I.list (SqL.of ha)
    have hlt : i < ds.length := by omega
    have hil : its.length = ds.length := by rw [← rv.length, r.len]
    obtain ⟨v, hv, rd⟩ := r.get (List.getElem?_eq_getElem hlt)
    obtain ⟨u, hu, ru⟩ := rv.get hv
    obtain ⟨t, ht⟩ : ∃ t, ts[i]? = some t := ⟨_, List.getElem?_eq_getElem (by omega)⟩
    have pl1 := piled_take_succ ht
    have pl2 := piled_take_le ts (i + 1)
    refine codeAny_builtin F.entry_list_repr_loop ?_
    show wpAny _ _ («list.__repr__.loop» ⟨[.ref a, .int i 0, .ref P, .int ((base + piled (ts.take i) : Nat) : Int) 0], []⟩) _ _ s
    rw [repr_loop_tree]
    refine wpAny_bind (wpAny_listItems ho hd ?_)
    have there : its.toArray[(i : Int).toNat]? = some u := by simpa using hu
    simp only [there]
    rw [Int.toNat_natCast]
    have clr : ∀ b, Ats H ds[i] v b → Clear (.builtin "list.__repr__.loop" ⟨[.ref a, .int i 0, .ref P, .int ((base + piled (ts.take i) : Nat) : Int) 0], []⟩ :: gs) b := fun b hb =>
      let z := hcl b (atss_at (List.getElem?_eq_getElem hlt) hv hb)
      z.1.cons (a := a) fun e => z.2 e.symm
    refine wpAny_bind (wpAny_holding (hS i _ _ (List.getElem?_eq_getElem hlt) ht _ M W _ σ H s v u (base + piled (ts.take i) + 1) _ _ _ (hA _) g I rd ru (guards_under_guard (isGuard_list_loop _) hgs) clr (by omega) fun s' H' I' he => ?_))
    refine wpAny_bind (wpAny_mkStr ?_ (each _ (List.mem_of_getElem? ht)))
    refine wpAny_bind ?_
    show wpAny _ _ (updateSeq P _) _ _ _
    obtain ⟨hP, hPn, _, hPf, _⟩ := I'.pin _ (List.mem_append_right _ (.head _))
    have hasz : acc.size ≤ sizeLine := by
      have e1 : acc.toList.length = acc.size := by simp
      have e2 : (strValues done).length = done.length := by simp [strValues]
      have e3 : done.length = (ts.take i).length := by rw [← hdone, List.length_map]
      have e4 : (ts.take i).length ≤ i := by rw [List.length_take]; omega
      rw [hacc] at e1; omega
    refine wpAny_updateSeq hP rfl (wpAny_pure ⟨F.quiet_list_repr_loop _, ?_⟩) hasz
    have e1 : ((i : Int) + 1) = ((i + 1 : Nat) : Int) := by omega
    have e2 : base + piled (ts.take i) + (t.length + 2) = base + piled (ts.take (i + 1)) := by omega
    rw [e1, e2]
    refine ih (i + 1) _ H' (acc.push (.str t s'.toks)) (if (acc.push (.str t s'.toks)).size == acc.size then c else c + 1) (done ++ [(t, s'.toks)]) (by omega) hlt (g.ext he) ?_ (he _ _ ha) (Reps.ex (Xt.of he) ds r) (fun b hb => hcl b (atss_back he ds r hb)) (by simp [hacc, strValues]) (by simp [List.take_add_one, ht, hdone]) fun s'' H'' u'' I'' he'' => hR s'' H'' u'' I'' fun b o e => he'' b o (he b o e)
    refine (Inv.turned (it := P) (dropP I') (fun b o nb e => (Heap.get?_update_other _ _ (fun h : P = b => nb h.symm)).trans e) hPn hPL (.inr hPs) hPc hPp).pins_of fun p hp => ?_
    rcases List.mem_cons.mp hp with rfl | hp
    · exact ⟨Heap.get?_update_self _ hP rfl, hPn, hPL, hPf, fun _ z => nomatch z⟩
    · obtain ⟨q1, q2⟩ := I'.pin p (List.mem_append_right _ (List.mem_cons_of_mem _ hp))
      exact ⟨(Heap.get?_update_other _ _ (fun h : P = p.1 => hPp p (List.mem_append_right _ hp) h.symm)).trans q1, q2⟩
theorem depth_lst (A : Around) (args : Args) : (A.under (.builtin "list.__repr__.loop" args)).depth = A.depth + 1 := depth_loop A args
/-- a list that is not empty, from its head on -/
theorem listAt {R : Result → Shared → Prop} {ds : List D} {ts : List Str} {M W : Addr → Prop} {a : Addr} {vs : List V} {base : Nat} {gs : List Code} {H : Hp} {s : Shared} (l : LikN X A (n + 1)) (hgs : A.guards = some gs) (hne : ds ≠ []) (hlen : ts.length = ds.length)
    (hS : ∀ (i : Nat) (d : D) (t : Str), ds[i]? = some d → ts[i]? = some t → ShG X n d t) (hsz : base + (listText ts).length ≤ sizeLine) (g : TL.Good M W H) (I : Inv X pins σ H s) (ha : H a = some (.lst vs)) (r : Reps M H ds vs) (ca : Clear gs a) (hcl : ∀ b, Atss H ds vs b → Clear gs b ∧ b ≠ a)
    (hR : ∀ s' H' u, Inv X pins σ H' s' → (∀ b o, H b = some o → H' b = some o) → R (.ok (.ret (.str (listText ts) u))) s') :
    wpAny (model X.prog X.w) A.in1 (Builtin.listReprAt base ⟨[.ref a], []⟩) (fun fin s' => match fin with | .done f => R (.ok f) s' | .again c' => c'.quiet = true ∧ codeAny (model X.prog X.w) A c' R s') (fun e s' => R (.error e) s') s := by
  obtain ⟨its, rv, ⟨o, n', ho, hc, hdd, hd⟩, _⟩ := I.list (SqL.of ha)
  have hil : its.length = ds.length := by rw [← rv.length, r.len]
  obtain ⟨x, its', rfl⟩ : ∃ x l, its = x :: l := by
    cases its with
    | nil => exact absurd (List.length_eq_zero_iff.mp hil.symm) hne
    | cons x l => exact ⟨x, l, rfl⟩
  refine wpAny_list_repr_head (A := A.in1) hgs (fun v rest kw hm => listSameRef_of_ne (ca _ _ _ _ hm)) ho hd ?_
  refine wpAny_bind (m := newList []) (wpAny_newObj_type ?_)
  refine wpAny_pure ⟨F.quiet_list_repr_loop _, ?_⟩
  have I1 := I.kept (h' := s.heap.push { cls := .type "list", dict := none, data := .seq #[] 0, slots := #[] }) (t' := s.toks) fun b u e => Heap.get?_push_of_some _ e
  refine listLoop (X := X) (A := A) (pins := pins) (σ := σ) (ds := ds) (ts := ts) (M := M) (W := W) (P := s.heap.objs.size) (base := base) (fun args => ⟨l.fr, l.hd, ?_, ?_⟩) hgs hlen hS hsz I.sz (Nat.ne_of_gt I.lt)
    (fun y c e z => ?_) (fun p hp z => ?_) _ 0 _ H #[] 0 [] rfl (Nat.zero_le _) g (I1.pins_of fun p hp => ?_) ha r hcl rfl (by simp) hR
  · have h1 := depth_lst A args
    have h2 := l.dp
    omega
  · have h1 := units_under_list_loop A args
    have h2 := l.un
    omega
  · obtain ⟨v, hv⟩ := I.cell y c e
    obtain ⟨ob, h1, _⟩ := hv
    exact absurd (Heap.lt_size h1) (by rw [z]; exact Nat.lt_irrefl _)
  · have := (I.pin p hp).1
    exact absurd (Heap.lt_size this) (by rw [z]; exact Nat.lt_irrefl _)
  · rcases List.mem_cons.mp hp with rfl | hp
    · exact ⟨Heap.get?_push_size _ rfl, I.hok.fresh (Nat.le_refl _), Nat.ne_of_gt I.lt, I.nofs (Nat.le_refl _), fun _ z => nomatch z⟩
    · obtain ⟨q1, q2⟩ := I.pin p (List.mem_append_right _ hp)
      exact ⟨Heap.get?_push_of_some _ q1, q2⟩
end
end RE
set_option Elab.async false
set_option linter.all false
set_option maxRecDepth 100000
set_option autoImplicit false
set_option maxHeartbeats 1000000
/-! RXc: tuples and dicts within a repr. -/
namespace RE
open PySem PySem.Spec PyProof.Rows L2 TL Builtin
theorem depth_of {A : Around} {id : String} {args : Args} (h : (Code.builtin id args).isGuard = true) (hw : (Code.builtin id args).weight = 1) : (A.under (.builtin id args)).depth = A.depth + 1 := by
  simp [Around.under, hw]
section
variable {X : Cx} {A : Around} {n : Nat} {pins : List (Addr × Obj)} {σ : L2.St} {E : Value → Shared → Prop}
/-- the items of a tuple, one after the other -/
theorem tupFold {gs : List Code} {M W : Addr → Prop} (l : LikN X A n) (hgs : A.guards = some gs) : ∀ (ds : List D) (ts : List Str) (vs : List V) (us : List Value) (acc : Array Str) (m : Nat) (H : Hp) (s : Shared) (Q : (Array Str × Nat) → Shared → Prop),
    ts.length = ds.length → (∀ (i : Nat) (d : D) (t : Str), ds[i]? = some d → ts[i]? = some t → ShG X n d t) → TL.Good M W H → Inv X pins σ H s → Reps M H ds vs → Vals vs us → (∀ b, Atss H ds vs b → Clear gs b) → m + piled ts ≤ sizeLine →
    (∀ s' H', Inv X pins σ H' s' → (∀ b o, H b = some o → H' b = some o) → Q ⟨acc ++ ts.toArray, m + piled ts⟩ s') → wpAny (model X.prog X.w) A (forIn us (⟨acc, m⟩ : (Array Str × Nat)) tupBody) Q E s
  | [], [], _, us, acc, m, H, s, Q, _, _, _, I, r, rv, _, _, q => by
    rw [show _ = [] from r] at rv
    cases rv
    have h0 := q s H I fun _ _ e => e
    simp only [List.forIn_nil]
    exact wpAny_pure (by simpa [piled] using h0)
  | [], _ :: _, _, _, _, _, _, _, _, hl, _, _, _, _, _, _, _, _ => by simp at hl
  | _ :: _, [], _, _, _, _, _, _, _, hl, _, _, _, _, _, _, _, _ => by simp at hl
  | d :: ds, t :: ts, _, us, acc, m, H, s, Q, hl, hS, g, I, ⟨v, r, e, a, b⟩, rv, hc, hm, q => by
    subst e
    cases rv with
    | @cons _ u _ us' ru rus =>
      rw [piled_cons] at hm
      rw [List.forIn_cons]
      refine wpAny_bind (wpAny_bind (hS 0 d t rfl rfl A M W pins σ H s v u (m + 1) gs _ _ l g I a ru hgs (fun b hb => hc b ⟨_, _, rfl, .inl hb⟩) (by omega) fun s' H' I' he => wpAny_pure ?_))
      refine tupFold l hgs ds ts r us' (acc.push t) (m + (t.length + 2)) H' s' Q (by simpa using hl) (fun i d t h1 h2 => hS (i + 1) d t (by simpa using h1) (by simpa using h2)) (g.ext he) I' (Reps.ex (Xt.of he) ds b) rus (fun b' hb => hc b' ⟨_, _, rfl, .inr (atss_back he ds b hb)⟩) (by omega) fun s'' H'' I'' he2 => ?_
      have h1 := q s'' H'' I'' fun b o z => he2 b o (he b o z)
      have e : m + piled (t :: ts) = m + (t.length + 2) + piled ts := by rw [piled_cons]; omega
      rw [e] at h1
      simpa using h1
theorem tupAt {R : Result → Shared → Prop} {ds : List D} {ts : List Str} {M W : Addr → Prop} {a : Addr} {vs : List V} {base : Nat} {gs : List Code} {H : Hp} {s : Shared} {id : String} {rest : List Value} (hcg : (Code.builtin id ⟨.ref a :: rest, []⟩).isGuard = true) (hcw : (Code.builtin id ⟨.ref a :: rest, []⟩).weight = 1)
    (hcu : (A.under (.builtin id ⟨.ref a :: rest, []⟩)).units = A.units + 1) (l : LikN X A (n + 1)) (hgs : A.guards = some gs) (hlen : ts.length = ds.length)
    (hS : ∀ (i : Nat) (d : D) (t : Str), ds[i]? = some d → ts[i]? = some t → ShG X n d t) (hsz : base + (tupleText ts).length ≤ sizeLine) (g : TL.Good M W H) (I : Inv X pins σ H s) (ha : Rd H a (.tup vs)) (r : Reps M H ds vs) (ca : Clear gs a) (hcl : ∀ b, Atss H ds vs b → Clear gs b ∧ b ≠ a)
    (hR : ∀ s' H' u, Inv X pins σ H' s' → (∀ b o, H b = some o → H' b = some o) → R (.ok (.ret (.str (tupleText ts) u))) s') :
    wpOwn (model X.prog X.w) A (.builtin id ⟨.ref a :: rest, []⟩) (Builtin.tupleReprAt base ⟨[.ref a], []⟩) (fun fin s' => match fin with | .done f => R (.ok f) s' | .again c' => c'.quiet = true ∧ codeAny (model X.prog X.w) A c' R s') (fun e s' => R (.error e) s') s := by
  obtain ⟨its, rv, ⟨o, ho, hc, nn, hd⟩, _⟩ := I.tuple (.inl ha)
  have hil : its.length = ds.length := by rw [← rv.length, r.len]
  have pile := piled_le_tupleText ts
  have whole : (tupleText ts).length ≤ sizeLine := by omega
  rw [tuple_repr_tree, tupleReprUnderWay_eq]
  refine wpOwn_bind (wpOwn_stackTailAny hgs (tupGuardF_off _) (tupGuardF_pos _) ?_)
  have no : (gs.any fun c => tupGuardF (.ref a) (c, default)) = false := by
    rw [List.any_eq_false]
    intro c hcm
    rw [tupGuardF_of_clear ca c hcm]
    exact Bool.false_ne_true
  rw [no]
  refine wpOwn_of_wpAny ?_
  show wpAny _ _ (tupleReprRest base (.ref a)) _ _ s
  unfold tupleReprRest Builtin.Tuple.tupleItemsOf
  refine wpAny_bind (wpAny_bind (wpAny_seqItems ho hd (wpAny_pure ?_)))
  rw [← Array.forIn_toList]
  have l2 : LikN X (A.under (.builtin id ⟨.ref a :: rest, []⟩)) n := ⟨l.fr, l.hd, by rw [depth_of hcg hcw]; have := l.dp; omega, by rw [hcu]; have := l.un; omega⟩
  refine wpAny_bind (tupFold (gs := .builtin id ⟨.ref a :: rest, []⟩ :: gs) l2 (guards_under_guard hcg hgs) ds ts vs _ _ _ H s _ hlen hS g I r (by simpa using rv) (fun b hb => (hcl b hb).1.cons (a := a) fun e => (hcl b hb).2 e.symm) (by omega) fun s' H' I' he => ?_)
  have hsize : its.toArray.size = ts.length := by simp [hil, hlen]
  refine wpAny_bind (wpAny_mkStr (wpAny_pure ?_) (by simpa [tupleText, hsize, hil, hlen] using whole))
  have h1 := hR { s' with toks := s'.toks + 1 } H' s'.toks (I'.tok _) he
  simpa [tupleText, hsize, hil, hlen] using h1
theorem ent_at : ∀ {ks ts : List Str} {i : Nat} {k t : Str}, ks[i]? = some k → ts[i]? = some t → (entT ks ts)[i]? = some (reprText k ++ ": " ++ t)
  | [], _, _, _, _, h, _ => by simp at h
  | _ :: _, [], _, _, _, _, h => by simp at h
  | k :: ks, t :: ts, 0, k', t', h, h' => by simp at h h'; subst h h'; rfl
  | k :: ks, t :: ts, i + 1, k', t', h, h' => by
    show (entT ks ts)[i]? = _
    exact ent_at (by simpa using h) (by simpa using h')
theorem ent_len : ∀ {ks ts : List Str}, ks.length = ts.length → (entT ks ts).length = ts.length
  | [], [], _ => rfl
  | [], _ :: _, h => by simp at h
  | _ :: _, [], h => by simp at h
  | k :: ks, t :: ts, h => by
    show (entT ks ts).length + 1 = _
    rw [ent_len (by simpa using h)]; rfl
theorem pairs_at {P : Program} {w : World} : ∀ {es : List DictEntry} {kvs : List (Key × Value)} {i : Nat} {kv : Key × Value}, Pairs (mixKind P w) es kvs → kvs[i]? = some kv → ∃ e, es[i]? = some e ∧ keyIs kv.1 e.key = true ∧ e.val = kv.2
  | _, _, _, _, .nil, h => by simp at h
  | e :: es, kv :: kvs, 0, kv', .cons a b t, h => by simp at h; subst h; exact ⟨e, rfl, a, b⟩
  | e :: es, kv :: kvs, i + 1, kv', .cons a b t, h => by
    obtain ⟨e', h1, h2⟩ := pairs_at (i := i) t (by simpa using h)
    exact ⟨e', by simpa using h1, h2⟩
theorem kv_at : ∀ {xs : List (Key × V)} {ys : List (Key × Value)} {i : Nat} {x : Key × V}, KV xs ys → xs[i]? = some x → ∃ y, ys[i]? = some y ∧ x.1 = y.1 ∧ RelV x.2 y.2
  | _, _, _, _, .nil, h => by simp at h
  | x :: xs, y :: ys, 0, x', .cons a t, h => by simp at h; subst h; exact ⟨y, rfl, a⟩
  | x :: xs, y :: ys, i + 1, x', .cons a t, h => by
    obtain ⟨y', h1, h2⟩ := kv_at (i := i) t (by simpa using h)
    exact ⟨y', by simpa using h1, h2⟩
theorem kv_len : ∀ {xs : List (Key × V)} {ys : List (Key × Value)}, KV xs ys → ys.length = xs.length
  | _, _, .nil => rfl
  | _, _, .cons _ t => by simp [kv_len t]
/-- the entries of a locked dict with text keys -/
theorem dictCore {R : Result → Shared → Prop} {ks : List Str} {ds : List D} {ts : List Str} {M W : Addr → Prop} {a : Addr} {vs : List V} {base : Nat} {gs : List Code} {H : Hp} {s : Shared} {id : String} {rest : List Value} {o : Obj} (hcg : (Code.builtin id ⟨.ref a :: rest, []⟩).isGuard = true) (hcw : (Code.builtin id ⟨.ref a :: rest, []⟩).weight = 1)
    (hcu : (A.under (.builtin id ⟨.ref a :: rest, []⟩)).units = A.units + 1) (l : LikN X A (n + 1)) (hgs : A.guards = some gs) (hlen : ts.length = ds.length) (hlk : ks.length = ds.length)
    (hS : ∀ (i : Nat) (d : D) (t : Str), ds[i]? = some d → ts[i]? = some t → ShG X n d t) (hsz : base + (dictText (entT ks ts)).length ≤ sizeLine) (g : TL.Good M W H) (I : Inv X pins σ H s) (ha : H a = some (.frz o (.dK ((ks.map Sum.inr).zip vs)))) (r : Reps M H ds vs) (ca : Clear gs a) (hcl : ∀ b, Atss H ds vs b → Clear gs b ∧ b ≠ a)
    (hR : ∀ s' H' u, Inv X pins σ H' s' → (∀ b o, H b = some o → H' b = some o) → R (.ok (.ret (.str (dictText (entT ks ts)) u))) s') :
    wpOwn (model X.prog X.w) A (.builtin id ⟨.ref a :: rest, []⟩) (Builtin.dictReprAt base ⟨[.ref a], []⟩) (fun fin s' => match fin with | .done f => R (.ok f) s' | .again c' => c'.quiet = true ∧ codeAny (model X.prog X.w) A c' R s') (fun e s' => R (.error e) s') s := by
  have hok : ObjOk X.prog X.w H s.heap a (.frz o (.dK ((ks.map Sum.inr).zip vs))) := I.hok a _ ha
  obtain ⟨ho, _, hsys, kvs, rkv, o', es, ep, ho', hex, hd, hko, hpr, _⟩ := hok
  rw [ho] at ho'
  cases ho'
  have at_ : ∀ {H' : Hp} {s' : Shared}, Inv X pins σ H' s' → (∀ b o, H b = some o → H' b = some o) → s'.heap.get? a = some o := fun {H' s'} I' he =>
    (show ObjOk X.prog X.w H' s'.heap a (.frz o (.dK ((ks.map Sum.inr).zip vs))) from I'.hok a _ (he a _ ha)).1
  have hvl : vs.length = ds.length := r.len
  have hes : es.size = ts.length := by
    have e1 := Pairs.length hpr
    rw [kv_len rkv, List.length_zip, List.length_map] at e1
    simp only [Array.length_toList] at e1
    omega
  have hpl : (entT ks ts).length = es.size := by rw [ent_len (by omega)]; omega
  have hTy : s.TypeIs (.ref a) "dict" := ⟨o, ho, hex.1⟩
  have pile := piled_le_dictText (entT ks ts)
  have whole : (dictText (entT ks ts)).length ≤ sizeLine := by omega
  unfold Builtin.dictReprAt
  refine wpOwn_bind (wpOwn_of_wpAny ?_)
  unfold Builtin.Dict.dictSlotNone
  refine wpAny_bind (wpAny_notOrdered_dict hTy ?_)
  show wpAny _ _ (pure (Value.ref a)) _ _ s
  refine wpAny_pure ?_
  rw [dictReprRunning_eq]
  refine wpOwn_bind (wpOwn_stackTailAny hgs (dictGuardF_off _) (dictGuardF_pos _) ?_)
  have no : (gs.any fun c => dictGuardF (.ref a) (c, default)) = false := by
    rw [List.any_eq_false]
    intro c hcm
    rw [dictGuardF_of_clear ca c hcm]
    exact Bool.false_ne_true
  rw [no]
  refine wpOwn_of_wpAny ?_
  have l2 : LikN X (A.under (.builtin id ⟨.ref a :: rest, []⟩)) n := ⟨l.fr, l.hd, by rw [depth_of hcg hcw]; have := l.dp; omega, by rw [hcu]; have := l.un; omega⟩
  have hg2 := guards_under_guard hcg hgs
  show wpAny _ _ (Builtin.Dict.addrOf (.ref a) >>= _) _ _ s
  refine wpAny_bind (wpAny_pure ?_)
  show wpAny _ _ (Builtin.Dict.showsAll a >>= _) _ _ s
  unfold Builtin.Dict.showsAll
  rw [if_neg (by rw [hsys]; exact Bool.false_ne_true)]
  refine wpAny_bind (wpAny_pure ?_)
  refine wpAny_bind (wpAny_dictEpoch ho hd ?_)
  refine wpAny_bind (wpAny_dictEntries ho hd ?_)
  refine wpAny_bind ?_
  rw [Std.Legacy.Range.forIn_eq_forIn_range']
  simp only [Std.Legacy.Range.size, Nat.sub_zero, Nat.add_sub_cancel, Nat.div_one]
  refine wpAny_forIn_list _
    (fun rest' z s' => ∃ i H', rest' = List.range' i (es.size - i) ∧ i ≤ es.size ∧ z = (⟨((entT ks ts).take i).toArray, base + piled ((entT ks ts).take i)⟩ : (Array Str × Nat)) ∧ Inv X pins σ H' s' ∧ ∀ b o, H b = some o → H' b = some o)
    _ ?_ ?_ _ _ ⟨0, H, by simp, Nat.zero_le _, by simp [piled], I, fun _ _ e => e⟩
  · rintro x rest' _ s' ⟨i, H', hr, hi, rfl, I', he⟩
    have hlt : i < es.size := by
      rcases Nat.lt_or_ge i es.size with h | h
      · exact h
      · rw [Nat.sub_eq_zero_of_le h] at hr; simp at hr
    obtain ⟨rfl, hrest⟩ : x = i ∧ rest' = List.range' (i + 1) (es.size - (i + 1)) := by
      have e : es.size - i = (es.size - (i + 1)) + 1 := by omega
      rw [e, List.range'_succ] at hr
      injection hr with h1 h2
      exact ⟨h1, h2⟩
    have hx1 : x < ds.length := by omega
    obtain ⟨v, hv, rd⟩ := r.get (List.getElem?_eq_getElem hx1)
    obtain ⟨k, hk⟩ : ∃ k, ks[x]? = some k := ⟨_, List.getElem?_eq_getElem (by omega)⟩
    obtain ⟨t, ht⟩ : ∃ t, ts[x]? = some t := ⟨_, List.getElem?_eq_getElem (by omega)⟩
    have hz : ((ks.map Sum.inr).zip vs : List (Key × V))[x]? = some (Sum.inr k, v) := by
      rw [List.getElem?_zip_eq_some]
      exact ⟨by rw [List.getElem?_map, hk]; rfl, hv⟩
    obtain ⟨y, hy, ek, rv⟩ := kv_at rkv hz
    obtain ⟨e, hE, hkey, hval⟩ := pairs_at hpr hy
    have hex' : es[x]? = some e := by rw [← Array.getElem?_toList]; exact hE
    have hp := ent_at hk ht
    rw [← ek] at hkey
    obtain ⟨tk, hkk⟩ : ∃ tk, e.key = .str k tk := by
      rcases keyIs_shape hkey with ⟨i, tk, z, _⟩ | ⟨y, tk, z, q⟩
      · cases z
      · cases z; exact ⟨tk, q⟩
    have lenE : (reprText k ++ ": " ++ t).length = (reprText k).length + 2 + t.length := by
      rw [strLen_append, strLen_append]; rfl
    have pl1 := piled_take_succ hp
    have pl2 := piled_take_le (entT ks ts) (x + 1)
    rw [lenE] at pl1
    refine wpAny_bind (wpAny_dictEntries (at_ I' he) hd ?_)
    rw [hex']
    refine wpAny_bind (wpAny_holding (wpAny_bind ?_))
    rw [hkk]
    refine ReprIs.str k tk (by omega) (base + piled ((entT ks ts).take x) + 1) (by omega) _ _ _ _ fun tk2 => ?_
    have I2 := I'.tok tk2
    rw [hval]
    refine wpAny_bind (hS x _ t (List.getElem?_eq_getElem hx1) ht _ M W pins σ H' _ v y.2 (base + piled ((entT ks ts).take x) + ((reprText k).length + 3)) _ _ _ l2 (g.ext he) I2 (Rep.ex (Xt.of he) _ rd) rv hg2 (fun b hb => ?_) (by omega) fun s3 H3 I3 he3 => wpAny_pure ?_)
    · have z := hcl b (atss_at (List.getElem?_eq_getElem hx1) hv (ats_back he _ rd hb))
      exact z.1.cons (a := a) fun e => z.2 e.symm
    have he4 : ∀ b o, H b = some o → H3 b = some o := fun b o z => he3 b o (he b o z)
    refine wpAny_bind (wpAny_dictEpoch (at_ I3 he4) hd ?_)
    rw [if_neg (by simp)]
    have e1 : ((entT ks ts).take x).toArray.push (reprText k ++ ": " ++ t) = ((entT ks ts).take (x + 1)).toArray := by
      rw [List.take_add_one, hp]
      simp
    have e2 : base + piled ((entT ks ts).take x) + ((reprText k).length + t.length + 4) = base + piled ((entT ks ts).take (x + 1)) := by omega
    refine wpAny_pure ⟨x + 1, H3, hrest, hlt, ?_, I3, he4⟩
    rw [e1, e2]
  · rintro _ s' ⟨i, H', hr, hi, rfl, I', he⟩
    have hin : i = es.size := by
      rcases Nat.lt_or_ge i es.size with h | h
      · have e : es.size - i = (es.size - (i + 1)) + 1 := by omega
        rw [e, List.range'_succ] at hr; exact nomatch hr
      · exact Nat.le_antisymm hi h
    rw [hin, ← hpl, List.take_length]
    refine wpAny_bind (wpAny_mkStr (wpAny_pure ?_) (by simpa [dictText] using whole))
    have h1 := hR { s' with toks := s'.toks + 1 } H' s'.toks (I'.tok _) he
    simpa [dictText] using h1
end
end RE
set_option Elab.async false
set_option linter.all false
set_option maxRecDepth 100000
set_option autoImplicit false
set_option maxHeartbeats 1000000
/-! RXd: repr of any tree. -/
namespace RE
open PySem PySem.Spec PyProof.Rows L2 TL Builtin
theorem weight_tup (args : Args) : (Code.builtin "tuple.__repr__" args).weight = 1 := by
  unfold Code.weight
  rw [if_pos (isGuard_tuple_repr args)]
  rfl
theorem weight_tupU (args : Args) : (Code.builtin "tuple.__repr__.under" args).weight = 1 := by
  unfold Code.weight
  rw [if_pos (isGuard_tuple_repr_under args)]
  rfl
theorem weight_dct (args : Args) : (Code.builtin "dict.__repr__" args).weight = 1 := by
  unfold Code.weight
  rw [if_pos (isGuard_dict_repr args)]
  rfl
theorem weight_dctU (args : Args) : (Code.builtin "dict.__repr__.under" args).weight = 1 := by
  unfold Code.weight
  rw [if_pos (isGuard_dict_repr_under args)]
  rfl
section
variable {X : Cx} {A : Around} {n : Nat} {pins : List (Addr × Obj)} {σ : L2.St} {E : Value → Shared → Prop}
/-- a dict, locked while its entries are shown -/
theorem dictAt {R : Result → Shared → Prop} {ks : List Str} {ds : List D} {ts : List Str} {M W : Addr → Prop} {a : Addr} {vs : List V} {base : Nat} {gs : List Code} {H : Hp} {s : Shared} {id : String} {rest : List Value} (hcg : (Code.builtin id ⟨.ref a :: rest, []⟩).isGuard = true) (hcw : (Code.builtin id ⟨.ref a :: rest, []⟩).weight = 1)
    (hcu : (A.under (.builtin id ⟨.ref a :: rest, []⟩)).units = A.units + 1) (l : LikN X A (n + 1)) (hgs : A.guards = some gs) (hlen : ts.length = ds.length) (hlk : ks.length = ds.length)
    (hS : ∀ (i : Nat) (d : D) (t : Str), ds[i]? = some d → ts[i]? = some t → ShG X n d t) (hsz : base + (dictText (entT ks ts)).length ≤ sizeLine) (g : TL.Good M W H) (I : Inv X pins σ H s) (ha : Rd H a (.dK ((ks.map Sum.inr).zip vs))) (r : Reps M H ds vs) (ca : Clear gs a) (hcl : ∀ b, Atss H ds vs b → Clear gs b ∧ b ≠ a)
    (hR : ∀ s' H' u, Inv X pins σ H' s' → (∀ b o, H b = some o → H' b = some o) → R (.ok (.ret (.str (dictText (entT ks ts)) u))) s') :
    wpOwn (model X.prog X.w) A (.builtin id ⟨.ref a :: rest, []⟩) (Builtin.dictReprAt base ⟨[.ref a], []⟩) (fun fin s' => match fin with | .done f => R (.ok f) s' | .again c' => c'.quiet = true ∧ codeAny (model X.prog X.w) A c' R s') (fun e s' => R (.error e) s') s := by
  rcases ha with ha | ⟨o, ha⟩
  · obtain ⟨od, I1⟩ := I.lock ha trivial
    refine dictCore hcg hcw hcu l hgs hlen hlk hS hsz g.put I1 upd_same (reps_lock ha ds r) ca (fun b hb => hcl b (atss_lock ha ds hb)) fun s' H' u I' he => ?_
    refine hR s' _ u (I'.unlock (he a _ upd_same) (I.nofrz ha trivial)) fun b o hb => ?_
    by_cases hba : b = a
    · subst hba
      rw [ha] at hb
      rw [upd_same, hb]
    · rw [upd_ne hba]
      exact he b o (by rw [upd_ne hba]; exact hb)
  · exact dictCore hcg hcw hcu l hgs hlen hlk hS hsz g I ha r ca hcl hR
end
section
variable {U : Sd} {T : Tb} {lv : Nat} {md : Md} {X : Cx} {q : Str} {n : Nat}
theorem LikN.units {A : Around} (ok : XOk U T lv md X) (l : LikN X A n) : A.units + 30 < cLine := by
  have := ok.room.un
  have := l.un
  omega
theorem LikN.room {A : Around} (ok : XOk U T lv md X) (l : LikN X A n) : L2H.RoomH lv A := by
  have h1 := ok.room.dp
  have h2 := ok.room.un
  have h3 := l.dp
  have h4 := l.un
  exact ⟨by omega, by omega⟩
/-- an instance with its own __repr__ -/
theorem shG_own (ok : XOk U T lv md X) {C : Addr} {ns : List Str} {xs : List D} {f : Fc} {t : Str} {ss' : List S} (ho : U.G.own C "__repr__" = some q) (hf : U.G.fns q = some f) (hp : f.po = true) (hT : T ⟨false, md.calm⟩ q [.im (.ins C ns xs)] = some (.im (.str t), ss')) : ShG X n (.ins C ns xs) t := fun A M W pins σ H s v u base gs E Q l g I r rv _ _ hz q' => by
  have r0 := r
  obtain ⟨a, dx, vs, rfl, m, ha, r2⟩ := r
  cases rv
  obtain ⟨c, hs, hfn⟩ := ok.wd.own C _ q ho
  rw [← ok.K] at hs hfn
  obtain ⟨mA, J, _⟩ := ins_get I.hok ha
  obtain ⟨od, J, _⟩ := J.look
  have hu := l.units ok
  have hl : [(S.im (.ins C ns xs))].length = f.ps.length := ok.wd.len _ q f _ _ _ hf hT
  have hb := ok.wd.bp q f hf hp s [.ref a] (by rw [← ok.K]; exact I.kIn) hl
  have e0 := I.env0
  refine wpAny_pyReprUnder_ref (by omega) ?_
  unfold pyReprObjUnder pyReprObjBy
  refine wpAny_bind (m := cRoomFor _ _) (wpAny_cRoomFor (by omega) ?_)
  refine wpAny_bind (wpAny_bind (J.type.here ((PySem.W.looks_findIn I.kIn hs).here ?_)))
  show wpAny _ _ (if (some (Value.ref (U.ad q))).isNone = true then _ else _) _ _ _
  rw [if_neg (by simp)]
  refine wpAny_bind (ifBoundBy (name := Str.ofString "__repr__") I.kIn J hs hfn ?_)
  show wpAny _ _ (call (.ref (U.ad q)) ([.ref a] ++ [])) _ _ _
  refine wpAny_call (codeAny_mono ((ok.fnx hf).run ⟨false, md.calm⟩ A X.stack s H ⟨[.ref a], []⟩ [.ref a] [.ref a] (fun z H' => z = .str t ∧ ∀ a o, H a = some o → H' a = some o) E0 (l.room ok) (fun z => l.hd.trans (ok.hd z)) (fun z => Bool.noConfusion z) ⟨l.fr.trans e0.frames, e0.mod, e0.bs, e0.bsz, e0.funs, e0.frf, e0.hok, e0.bare⟩ hb (.cons rfl .nil) hl
    ⟨M, fun _ => False, _, _, _, hT, good0 g, envR_args (ds := [.ins C ns xs]) ⟨_, _, rfl, r0, rfl⟩, fun z H' xt _ _ rp => ⟨rp, fun a o h => xt a o (fun z => z) h⟩⟩) fun rr s' hq => ?_)
  cases rr with
  | error er => exact False.elim (cr_of hq)
  | ok fl =>
    cases fl with
    | ret w =>
      obtain ⟨v, H', I', rv', rfl, he⟩ := I.after hq
      obtain ⟨tk, rfl⟩ := rv'
      refine wpAny_bind (wpAny_isInstance (typeIs_str _ _ _) isSubtype_str_str ?_)
      exact wpAny_pure ⟨t, tk, rfl, q' s' H' I' he⟩
    | next => exact hq.elim
    | brk => exact hq.elim
    | cont => exact hq.elim
mutual
theorem sh_cl : ∀ (x : D) {t : Str}, shD U.G T md x = some t → clD x = true
  | .int _, _, _ | .non, _, _ | .bl _, _, _ | .str _, _, _ | .ins _ _ _, _, _ => by simp only [clD]
  | .lst xs, t, h => by
    simp only [shD, Option.map_eq_some_iff] at h
    obtain ⟨ts, h, _⟩ := h
    simp only [clD]
    exact shs_cl xs h
  | .tup xs, t, h => by
    simp only [shD, Option.map_eq_some_iff] at h
    obtain ⟨ts, h, _⟩ := h
    simp only [clD]
    exact shs_cl xs h
  | .dct ks xs, t, h => by
    simp only [shD] at h
    obtain ⟨_, h⟩ := req_some h
    obtain ⟨ts, h, _⟩ := Option.map_eq_some_iff.mp h
    simp only [clD]
    exact shs_cl xs h
  | .scr _ _ _, t, h | .vl _, t, h | .tme, t, h => by simp only [shD] at h; cases h
theorem shs_cl : ∀ (xs : List D) {ts : List Str}, shDs U.G T md xs = some ts → clDs xs = true
  | [], _, _ => by simp only [clDs]
  | x :: xs, ts, h => by
    simp only [shDs, Option.bind_eq_some_iff, Option.map_eq_some_iff] at h
    obtain ⟨t, h1, ts', h2, _⟩ := h
    simp only [clDs, sh_cl x h1, shs_cl xs h2, Bool.and_self]
end
/-- a list's items stand clear of what is under way -/
theorem clr_of {M : Addr → Prop} {H : Hp} {d : D} {ds : List D} {vs : List V} {a : Addr} {gs : List Code} (c : clD d = true) (hs : szD d = szDs ds + 1) (cs : clDs ds = true) (r : Rep M H d (.ref a)) (rr : Reps M H ds vs) (hat : ∀ b, (b = a ∨ Atss H ds vs b) → Ats H d (.ref a) b) (hcl : ∀ b, Ats H d (.ref a) b → Clear gs b) :
    Clear gs a ∧ ∀ b, Atss H ds vs b → Clear gs b ∧ b ≠ a :=
  ⟨hcl a (hat a (.inl rfl)), fun b hb => ⟨hcl b (hat b (.inr hb)), fun e => not_in c hs cs r rr (e ▸ hb)⟩⟩
mutual
theorem shG_of (ok : XOk U T lv md X) : ∀ (x : D) {n : Nat} {t : Str}, shD U.G T md x = some t → dpD x ≤ n → ShG X n x t
  | .int i, n, t, h, _ => by
    simp only [shD] at h
    obtain ⟨hi, e⟩ := req_some h
    cases e
    exact shG_is fun M H v u r rv => by
      obtain rfl : v = .int i := r
      obtain ⟨tk, rfl⟩ := rv
      exact ReprIs.int tk hi
  | .non, n, t, h, _ => by
    simp only [shD] at h
    cases h
    exact shG_is fun M H v u r rv => by
      obtain rfl : v = .non := r
      cases rv
      exact ReprIs.none
  | .bl b, n, t, h, _ => by
    simp only [shD] at h
    cases h
    exact shG_is fun M H v u r rv => by
      obtain rfl : v = .bl b := r
      cases rv
      have z := ReprIs.bool (prog := X.prog) (w := X.w) b
      cases b <;> exact z
  | .str x, n, t, h, _ => by
    simp only [shD] at h
    obtain ⟨hi, e⟩ := req_some h
    cases e
    exact shG_is fun M H v u r rv => by
      obtain rfl : v = .str x := r
      obtain ⟨tk, rfl⟩ := rv
      exact ReprIs.str x tk hi
  | .ins C ns ds, n, t, h, _ => by
    simp only [shD] at h
    split at h
    · rename_i q hq
      split at h
      · rename_i t' ht
        cases h
        obtain ⟨f, ss', hf, hp, hT⟩ := call_inv ht
        exact shG_own ok hq hf hp hT
      · cases h
    · cases h
  | .lst xs, n, t, h, hd => by
    have hc := sh_cl _ h
    simp only [shD, Option.map_eq_some_iff] at h
    obtain ⟨ts, h, rfl⟩ := h
    simp only [dpD] at hd
    obtain ⟨m, rfl⟩ : ∃ m, n = m + 1 := ⟨n - 1, by omega⟩
    obtain ⟨hlen, hS⟩ := shGs_of ok xs (n := m) h (by omega)
    have hcs := shs_cl xs h
    intro A M W pins σ H s v u base gs E Q l g I r rv hgs hcl hz q
    have r0 := r
    obtain ⟨a, vs, rfl, m1, ha, rr⟩ := r
    cases rv
    have hu := l.units ok
    obtain ⟨its, riv, ⟨o, n', ho, hco, hdd, hdt⟩, _⟩ := I.list (SqL.of ha)
    have hil : its.length = xs.length := by rw [← riv.length, rr.len]
    refine wpAny_pyReprUnder_ref (by omega) ?_
    by_cases hne : xs = []
    · subst hne
      have e1 : its = [] := List.length_eq_zero_iff.mp hil
      subst e1
      have e2 : ts = [] := List.length_eq_zero_iff.mp hlen
      subst e2
      exact wpAny_pyReprObjUnder_list_empty ⟨o, ho, hco⟩ (by omega) ho hdt ⟨_, _, rfl, q _ H (I.tok _) fun _ _ e => e⟩
    · obtain ⟨ca, cb⟩ := clr_of hc (by simp only [szD]) hcs r0 rr (fun b hb => ⟨a, vs, rfl, ha, hb⟩) hcl
      exact wpAny_pyReprObjUnder_twin (twin := "list.__repr__.under") ⟨o, ho, hco⟩ F.slot_list_repr.toG rfl (by omega)
        (call_twin_plain F.plain_list_repr_under F.entry_list_repr_under F.check_list_repr_under ⟨o, ho, hco⟩ F.slot_list_repr.toG (F.args_list_repr_1 _)
          (listAt (R := callEnd _ _) l hgs hne hlen hS hz g I ha rr ca cb fun s' H' u I' he => ⟨⟨_, _, rfl⟩, _, _, rfl, q s' H' I' he⟩))
  | .tup xs, n, t, h, hd => by
    have hc := sh_cl _ h
    simp only [shD, Option.map_eq_some_iff] at h
    obtain ⟨ts, h, rfl⟩ := h
    simp only [dpD] at hd
    obtain ⟨m, rfl⟩ : ∃ m, n = m + 1 := ⟨n - 1, by omega⟩
    obtain ⟨hlen, hS⟩ := shGs_of ok xs (n := m) h (by omega)
    have hcs := shs_cl xs h
    intro A M W pins σ H s v u base gs E Q l g I r rv hgs hcl hz q
    have r0 := r
    obtain ⟨a, vs, rfl, m1, ha, rr⟩ := r
    cases rv
    have hu := l.units ok
    obtain ⟨its, riv, ⟨o, ho, hco, n', hdt⟩, _⟩ := I.tuple (.inl ha)
    refine wpAny_pyReprUnder_ref (by omega) ?_
    obtain ⟨ca, cb⟩ := clr_of hc (by simp only [szD]) hcs r0 rr (fun b hb => ⟨a, vs, rfl, ha, hb⟩) hcl
    exact wpAny_pyReprObjUnder_twin (twin := "tuple.__repr__.under") ⟨o, ho, hco⟩ F.slot_tuple_repr rfl (by omega)
      (call_twin_own (F.quiet_tuple_repr_under _) F.entry_tuple_repr_under F.check_tuple_repr_under ⟨o, ho, hco⟩ F.slot_tuple_repr (F.args_tuple_repr_1 _)
        (tupAt (R := callEnd _ _) (isGuard_tuple_repr_under _) (weight_tupU _) (units_under_tuple_repr_under _ _) l hgs hlen hS hz g I ha rr ca cb fun s' H' u I' he => ⟨⟨_, _, rfl⟩, _, _, rfl, q s' H' I' he⟩))
  | .dct ks xs, n, t, h, hd => by
    have hc := sh_cl _ h
    simp only [shD] at h
    obtain ⟨hlk, h1⟩ := req_some h
    obtain ⟨ts, h2, e⟩ := Option.map_eq_some_iff.mp h1
    clear h h1
    subst e
    have h := h2
    simp only [dpD] at hd
    obtain ⟨m, rfl⟩ : ∃ m, n = m + 1 := ⟨n - 1, by omega⟩
    obtain ⟨hlen, hS⟩ := shGs_of ok xs (n := m) h (by omega)
    have hcs := shs_cl xs h
    intro A M W pins σ H s v u base gs E Q l g I r rv hgs hcl hz q
    have r0 := r
    obtain ⟨a, vs, rfl, m1, ha, _, rr⟩ := r
    cases rv
    have hu := l.units ok
    obtain ⟨_, _, kvs, _, o, es, ep, ho, hex, _⟩ := dk_rd I.hok ha
    refine wpAny_pyReprUnder_ref (by omega) ?_
    obtain ⟨ca, cb⟩ := clr_of hc (by simp only [szD]) hcs r0 rr (fun b hb => ⟨a, vs, rfl, ha, by rw [rr.len, hlk], hb⟩) hcl
    exact wpAny_pyReprObjUnder_twin (twin := "dict.__repr__.under") ⟨o, ho, hex.1⟩ F.slot_dict_repr rfl (by omega)
      (call_twin_own (F.quiet_dict_repr_under _) F.entry_dict_repr_under F.check_dict_repr_under ⟨o, ho, hex.1⟩ F.slot_dict_repr (F.args_dict_repr_1 _)
        (dictAt (R := callEnd _ _) (isGuard_dict_repr_under _) (weight_dctU _) (units_under_dict_repr_under _ _) l hgs hlen hlk hS hz g I ha rr ca cb fun s' H' u I' he => ⟨⟨_, _, rfl⟩, _, _, rfl, q s' H' I' he⟩))
  | .scr _ _ _, n, t, h, _ | .vl _, n, t, h, _ | .tme, n, t, h, _ => by simp only [shD] at h; cases h
theorem shGs_of (ok : XOk U T lv md X) : ∀ (xs : List D) {n : Nat} {ts : List Str}, shDs U.G T md xs = some ts → dpDs xs ≤ n → ts.length = xs.length ∧ ∀ (i : Nat) (d : D) (t : Str), xs[i]? = some d → ts[i]? = some t → ShG X n d t
  | [], n, ts, h, _ => by
    simp only [shDs] at h
    cases h
    exact ⟨rfl, fun i d t h => by simp at h⟩
  | x :: xs, n, ts, h, hd => by
    simp only [shDs, Option.bind_eq_some_iff, Option.map_eq_some_iff] at h
    obtain ⟨t, h1, ts', h2, rfl⟩ := h
    simp only [dpDs] at hd
    have s1 := shG_of ok x (n := n) h1 (by omega)
    obtain ⟨hl, s2⟩ := shGs_of ok xs (n := n) h2 (by omega)
    refine ⟨by simp [hl], fun i d t' hi ht => ?_⟩
    cases i with
    | zero => simp at hi ht; subst hi ht; exact s1
    | succ i => exact s2 i d t' (by simpa using hi) (by simpa using ht)
end
/-- repr(x), x any tree -/
def rRepr (x : D) (t : Str) : List V → Hp → VK → Prop := fun vs H Q => ∃ (M W : Addr → Prop) (v : V), vs = [v] ∧ TL.Good M W H ∧ Rep M H x v ∧ ∀ H', (∀ b o, H b = some o → H' b = some o) → Q (.str t) H'
theorem call_reprX (ok : XOk U T lv md X) {x : D} {t : Str} (gd : X.A.guards = some []) (hi : ∀ A ns ds, x ≠ .ins A ns ds) (h : shD U.G T md x = some t) (hd : dpD x ≤ 4) (hz : t.length ≤ sizeLine) : CallR X (.builtin "repr") (rRepr x t) := by
  intro pins s σ H vs us Q I rvs hq
  obtain ⟨M, W, v, rfl, g, r, q⟩ := hq
  obtain ⟨u, rfl, rv⟩ := vals1 rvs
  have hun := ok.room.un
  have lik : LikN X X.A.in1 4 := ⟨rfl, rfl, by show X.A.depth + 8 ≤ _; omega, by show X.A.units + 1 + 16 ≤ _; omega⟩
  have same : ∀ b o, H b = some o → H b = some o := fun _ _ e => e
  cases x with
  | int i =>
    simp only [shD] at h
    obtain ⟨hi', e⟩ := req_some h
    cases e
    obtain rfl : v = .int i := r
    obtain ⟨tk, rfl⟩ := rv
    exact P.repr_of_int hi' ⟨.str _, H, I.tok _, ⟨_, rfl⟩, q H same⟩
  | str z =>
    simp only [shD] at h
    obtain ⟨hi', e⟩ := req_some h
    cases e
    obtain rfl : v = .str z := r
    obtain ⟨tk, rfl⟩ := rv
    exact P.repr_of_str ⟨.str _, H, I.tok _, ⟨_, rfl⟩, q H same⟩ hi'
  | non =>
    simp only [shD] at h
    cases h
    obtain rfl : v = .non := r
    cases rv
    exact P.repr_of_none ⟨.str _, H, I.tok _, ⟨_, rfl⟩, q H same⟩
  | bl b =>
    simp only [shD] at h
    cases h
    obtain rfl : v = .bl b := r
    cases rv
    refine P.repr_of_bool ⟨.str (if b = true then "True" else "False"), H, I.tok _, ?_, q H same⟩
    cases b <;> exact ⟨_, rfl⟩
  | ins A ns ds => exact absurd rfl (hi A ns ds)
  | scr K a ns => simp only [shD] at h; cases h
  | vl z => simp only [shD] at h; cases h
  | tme => simp only [shD] at h; cases h
  | lst xs =>
    have hc := sh_cl _ h
    simp only [shD, Option.map_eq_some_iff] at h
    obtain ⟨ts, h, rfl⟩ := h
    simp only [dpD] at hd
    obtain ⟨hlen, hS⟩ := shGs_of ok xs (n := 3) h (by omega)
    have hcs := shs_cl xs h
    have r0 := r
    obtain ⟨a, vs, rfl, m1, ha, rr⟩ := r
    cases rv
    obtain ⟨its, riv, ⟨o, n', ho, hco, hdd, hdt⟩, _⟩ := I.list (SqL.of ha)
    have hil : its.length = xs.length := by rw [← riv.length, rr.len]
    refine call_repr_slot (by omega) ⟨o, ho, hco⟩ F.slot_list_repr.toG ?_
    by_cases hne : xs = []
    · subst hne
      have e1 : its = [] := List.length_eq_zero_iff.mp hil
      subst e1
      have e2 : ts = [] := List.length_eq_zero_iff.mp hlen
      subst e2
      exact call_list_repr_empty ⟨o, ho, hco⟩ ho hdt ⟨_, _, rfl, .str _, H, I.tok _, ⟨_, rfl⟩, q H same⟩
    · obtain ⟨ca, cb⟩ := clr_of (gs := []) hc (by simp only [szD]) hcs r0 rr (fun b hb => ⟨a, vs, rfl, ha, hb⟩) (fun b _ => Clear.nil b)
      exact wpAny_call (codeAny_call_builtin F.slot_list_repr.plain F.entry_list_repr (F.slot_list_repr.check _ _ _ _ _ _ _ _ ⟨o, ho, hco⟩ (F.args_list_repr_1 _)
        (listAt (R := callEnd _ _) (base := 0) lik gd hne hlen hS (by omega) g I ha rr ca cb fun s' H' u I' he => ⟨_, _, rfl, .str _, H', I', ⟨_, rfl⟩, q H' he⟩)))
  | tup xs =>
    have hc := sh_cl _ h
    simp only [shD, Option.map_eq_some_iff] at h
    obtain ⟨ts, h, rfl⟩ := h
    simp only [dpD] at hd
    obtain ⟨hlen, hS⟩ := shGs_of ok xs (n := 3) h (by omega)
    have hcs := shs_cl xs h
    have r0 := r
    obtain ⟨a, vs, rfl, m1, ha, rr⟩ := r
    cases rv
    obtain ⟨its, riv, ⟨o, ho, hco, n', hdt⟩, _⟩ := I.tuple (.inl ha)
    refine call_repr_slot (by omega) ⟨o, ho, hco⟩ F.slot_tuple_repr ?_
    obtain ⟨ca, cb⟩ := clr_of (gs := []) hc (by simp only [szD]) hcs r0 rr (fun b hb => ⟨a, vs, rfl, ha, hb⟩) (fun b _ => Clear.nil b)
    exact wpAny_call (codeAny_call_builtin_own (Code.quiet_builtin _ (by decide +kernel)) F.entry_tuple_repr (F.slot_tuple_repr.check _ _ _ _ _ _ _ _ ⟨o, ho, hco⟩ (F.args_tuple_repr_1 _)
      (tupAt (R := callEnd _ _) (base := 0) (isGuard_tuple_repr _) (weight_tup _) (units_under_tuple_repr _ _) lik gd hlen hS (by omega) g I ha rr ca cb fun s' H' u I' he => ⟨_, _, rfl, .str _, H', I', ⟨_, rfl⟩, q H' he⟩)))
  | dct ks xs =>
    have hc := sh_cl _ h
    simp only [shD] at h
    obtain ⟨hlk, h1⟩ := req_some h
    obtain ⟨ts, h2, e⟩ := Option.map_eq_some_iff.mp h1
    clear h h1
    subst e
    have h := h2
    simp only [dpD] at hd
    obtain ⟨hlen, hS⟩ := shGs_of ok xs (n := 3) h (by omega)
    have hcs := shs_cl xs h
    have r0 := r
    obtain ⟨a, vs, rfl, m1, ha, _, rr⟩ := r
    cases rv
    obtain ⟨_, _, kvs, _, o, es, ep, ho, hex, _⟩ := dk_rd I.hok ha
    refine call_repr_slot (by omega) ⟨o, ho, hex.1⟩ F.slot_dict_repr ?_
    obtain ⟨ca, cb⟩ := clr_of (gs := []) hc (by simp only [szD]) hcs r0 rr (fun b hb => ⟨a, vs, rfl, ha, by rw [rr.len, hlk], hb⟩) (fun b _ => Clear.nil b)
    exact wpAny_call (codeAny_call_builtin_own (Code.quiet_builtin _ (by decide +kernel)) F.entry_dict_repr (F.slot_dict_repr.check _ _ _ _ _ _ _ _ ⟨o, ho, hex.1⟩ (F.args_dict_repr_1 _)
      (dictAt (R := callEnd _ _) (base := 0) (isGuard_dict_repr _) (weight_dct _) (units_under_dict_repr _ _) lik gd hlen hlk hS (by omega) g I ha rr ca cb fun s' H' u I' he => ⟨_, _, rfl, .str _, H', I', ⟨_, rfl⟩, q H' he⟩)))
end
end RE
set_option Elab.async false
set_option linter.all false
set_option maxRecDepth 100000
set_option autoImplicit false
set_option maxHeartbeats 1000000
/-! REj: built-ins by their data, isinstance, subscripts, displays, f-strings. -/
namespace RE
open PySem PySem.Spec PyProof.Rows L2 TL
theorem bools_map : ∀ {xs : List D} {bs : List Bool}, bools xs = some bs → xs = bs.map D.bl
  | [], _, h => by cases h; rfl
  | .bl b :: r, bs, h => by
    simp only [bools, Option.map_eq_some_iff] at h
    obtain ⟨t, ht, rfl⟩ := h
    rw [bools_map ht]; rfl
  | .non :: _, _, h | .int _ :: _, _, h | .str _ :: _, _, h | .lst _ :: _, _, h | .scr _ _ _ :: _, _, h | .tup _ :: _, _, h | .ins _ _ _ :: _, _, h | .vl _ :: _, _, h | .dct _ _ :: _, _, h | .tme :: _, _, h => by cases h
section
variable {U : Sd} {T : Tb} {lv : Nat} {md : Md} {X : Cx} {q : Str} {A : Addr} {a b e : Expr} {es : List Expr} {δ δ1 δ2 δ' : TL.Env} {r : Rz} {pos p : Pos} {x y d : D} {ns : List Str} {ds xs : List D} {k : Bool}
theorem con_ca (ok : XOk U T lv md X) (gk : md.gk = true) (hi : ∀ A ns ds, x ≠ .ins A ns ds) {t : Str} (h : conD U.G T md x = some t) : ∃ rc, CallR X Bt.repr.id rc ∧ CaT rc [x] (.str t) := by
  unfold conD at h
  obtain ⟨t', h1, h2⟩ := Option.bind_eq_some_iff.mp h
  obtain ⟨⟨hd, hz⟩, e⟩ := req_some h2
  cases e
  refine ⟨_, call_reprX ok (ok.gd gk) hi h1 hd hz, fun M W H us Q g r kk => ?_⟩
  obtain ⟨v, rfl, rr⟩ := reps1 r
  exact ⟨M, W, v, rfl, g, rr, fun H' ex => kk _ H' ex rfl⟩
theorem repr_ca (ok : XOk U T lv md X) (gk : md.gk = true) {t : Str} (h : reprD U.G T md x = some t) : ∃ rc, CallR X Bt.repr.id rc ∧ CaT rc [x] (.str t) := by
  have gd := ok.gd gk
  unfold reprD at h
  split at h
  · split at h
    · rename_i A ns ds _ q hq
      split at h
      · rename_i t' ht
        cases h
        obtain ⟨f, ss', hf, hp, hT⟩ := call_inv ht
        exact ⟨_, call_repr ok hq hf hp, ca_o1 hT⟩
      · cases h
    · cases h
  · split at h
    · rename_i hc
      cases h
      exact ⟨_, call_reprD gd ok.hu, ca_repr (D.Ok.data _ hc.1) (.inl ⟨_, rfl⟩) (D.Ok.show _ hc.1) (D.Ok.nod _ hc.1) hc.2.2 (hc.1.len hc.2.1)⟩
    · exact con_ca ok gk (by intro _ _ _ z; cases z) h
  · split at h
    · rename_i hc
      cases h
      exact ⟨_, call_reprD gd ok.hu, ca_repr (D.Ok.data _ hc.1) (.inr ⟨_, rfl⟩) (D.Ok.show _ hc.1) (D.Ok.nod _ hc.1) hc.2.2 (hc.1.len hc.2.1)⟩
    · exact con_ca ok gk (by intro _ _ _ z; cases z) h
  · cases h
  · cases h
  · cases h
  · rename_i hni _ _ _ _ _
    exact con_ca ok gk hni h
theorem repr_je (ok : XOk U T lv md X) (hg : Gl X Bt.repr.nm) (hs : ∀ x ∈ es, isStar x = false) (ha : TA X es δ [x] δ1) (hl : es ≠ []) (gk : md.gk = true) {t : Str} (h : reprD U.G T md x = some t) : TR X (.Call (.Name Bt.repr.nm p) es [] pos) δ (.str t) δ1 := by
  obtain ⟨rc, h1, h2⟩ := repr_ca ok gk h
  exact blt_tr ok h1 hg hs ha hl h2
theorem blt_je (ok : XOk U T lv md X) {bt : Bt} (hg : Gl X bt.nm) (hs : ∀ x ∈ es, isStar x = false) (ha : TA X es δ ds δ1) (hl : es.length = ds.length) (h : bltD U.G T md bt ds = some r) : JE X (.Call (.Name bt.nm p) es [] pos) δ r δ1 := by
  have hne : ds ≠ [] → es ≠ [] := fun z w => by subst w; exact z (List.length_eq_zero_iff.mp hl.symm)
  unfold bltD at h
  split at h
  · cases h; exact blt_tr (bt := .abs) ok call_abs hg hs ha (hne (by simp)) ca_abs
  · cases h; exact blt_tr (bt := .int) ok call_int1 hg hs ha (hne (by simp)) ca_int
  · cases h; exact blt_tr (bt := .len) ok call_len_seq hg hs ha (hne (by simp)) ca_lenL
  · cases h; exact blt_tr (bt := .len) ok call_len_seq hg hs ha (hne (by simp)) ca_lenT
  · obtain ⟨hc, h⟩ := req_some h
    cases h
    exact blt_tr (bt := .len) ok call_len_str hg hs ha (hne (by simp)) fun M W H us Q g r kk => by
      obtain ⟨v, rfl, rr⟩ := reps1 r
      exact ⟨_, by rw [show v = V.str _ from rr], hc, kk _ H (fun _ _ e => e) rfl⟩
  · rename_i K a ns
    obtain ⟨e, h⟩ := req_some h
    cases h
    have e' : K = X.K := by rw [e, ok.K, ok.wd.kk]
    subst e'
    exact blt_tr (bt := .len) ok call_len_seq hg hs ha (hne (by simp)) ca_lenS
  · obtain ⟨hc, h⟩ := req_some h
    cases h; exact blt_tr (bt := .max) ok (call_max2 (ok.calm hc)) hg hs ha (hne (by simp)) ca_max2
  · obtain ⟨hc, h⟩ := req_some h
    cases h; exact blt_tr (bt := .min) ok (call_min2 (ok.calm hc)) hg hs ha (hne (by simp)) ca_min2
  · obtain ⟨hc, h⟩ := req_some h
    obtain ⟨bs, hb, e⟩ := Option.map_eq_some_iff.mp h
    cases e
    rw [bools_map hb] at ha
    exact blt_tr (bt := .all) ok (cr_all (ok.calm hc)) hg hs ha (hne (by simp)) ca_all
  · obtain ⟨hc, h⟩ := req_some h
    obtain ⟨bs, hb, e⟩ := Option.map_eq_some_iff.mp h
    cases e
    rw [bools_map hb] at ha
    exact blt_tr (bt := .any) ok (cr_any (ok.calm hc)) hg hs ha (hne (by simp)) ca_any
  · obtain ⟨hc, e⟩ := req_some h
    cases e
    exact blt_tr (bt := .str) ok call_str_int hg hs ha (hne (by simp)) (ca_strI hc)
  · split at h
    · rename_i A ns xs _ q hq
      split at h
      · rename_i t ht
        cases h
        obtain ⟨f, ss', hf, hp, hT⟩ := call_inv ht
        exact blt_tr (bt := .str) ok (call_str ok hq hf hp) hg hs ha (hne (by simp)) (ca_o1 hT)
      · cases h
    · cases h
  · split at h
    · rename_i A ns xs _ q hq
      split at h
      · rename_i t ht
        cases h
        obtain ⟨f, ss', hf, hp, hT⟩ := call_inv ht
        exact blt_tr (bt := .bool) ok (call_bool ok hq hf hp) hg hs ha (hne (by simp)) (ca_o1 hT)
      · cases h
    · cases h
  · obtain ⟨gk, h⟩ := req_some h
    obtain ⟨t, ht, e⟩ := Option.map_eq_some_iff.mp h
    cases e
    exact repr_je ok hg hs ha (hne (by simp)) gk ht
  · cases h; exact blt_tr (bt := .bool) ok call_bool1 hg hs ha (hne (by simp)) fun M W H us Q g r kk => by
      obtain ⟨v, e, h⟩ := reps1 r
      exact .inl ⟨_, by rw [e, show v = V.int _ from h], kk _ H (fun _ _ e => e) rfl⟩
  · cases h
/-! ### isinstance -/
theorem isi_tr (ok : XOk U T lv md X) {cv : V} {t u : Value} {m : Str} {p2 : Pos} (hg : Gl X "isinstance") (hs : isStar a = false) (ha : TR X a δ x δ1) (hc : TR X (.Name m p2) δ1 (.vl cv) δ1) (ht : TyD X.K x t) (hcv : ClsV cv u) (hk : PySem.W.kitOne X.K t u = some k) :
    TR X (.Call (.Name "isinstance" p) [a, .Name m p2] [] pos) δ (.bl k) δ1 :=
  tr_callB call_isi (by rw [ok.mg]; exact ok.wd.ni) (by decide +kernel) (ta_cons ha (ta_cons hc ta_nil rfl) (star_cons hs)) (ca_isi ht hcv hk) hg (by decide) (by decide) (star_cons hs) rfl
theorem isT_tr (ok : XOk U T lv md X) {t : Ty} {p2 : Pos} (hg : Gl X "isinstance") (hg2 : Gl X t.nm) (hs : isStar a = false) (ha : TR X a δ x δ1) (h : isTD U.G t x = some k) : TR X (.Call (.Name "isinstance" p) [a, .Name t.nm p2] [] pos) δ (.bl k) δ1 := by
  have hc : TR X (.Name t.nm p2) δ1 (.vl (.ty (tyS t))) δ1 := tr_blt (u := .type (tyS t)) (by rw [ok.mg]; exact ok.wd.nt t) (ty_boot t) rfl hg2 (ty_name t) (ty_debug t)
  obtain ⟨k1, k2, k3, k4, k5, k6⟩ := ok.wd.kT t
  rw [← ok.K] at k1 k2 k3 k4 k5 k6
  unfold isTD at h
  split at h
  · obtain ⟨c, hk⟩ := ok.wd.isT _ t k h
    rw [← ok.K] at c hk
    exact isi_tr ok hg hs ha hc (.ins c _ _) (.ty _) hk
  · cases h; exact isi_tr ok hg hs ha hc .non (.ty _) k1
  · cases h; exact isi_tr ok hg hs ha hc (.int _) (.ty _) k2
  · cases h; exact isi_tr ok hg hs ha hc (.bl _) (.ty _) k3
  · cases h; exact isi_tr ok hg hs ha hc (.str _) (.ty _) k4
  · cases h; exact isi_tr ok hg hs ha hc (.lst _) (.ty _) k5
  · cases h; exact isi_tr ok hg hs ha hc (.tup _) (.ty _) k6
  · cases h; exact isi_tr ok hg hs ha hc (.dct _ _) (.ty _) (by rw [ok.K]; exact ok.wd.kD t)
  · cases h
theorem isC_tr (ok : XOk U T lv md X) {c q : Str} {B : Addr} {p2 : Pos} (hg : Gl X "isinstance") (hg2 : Gl X c) (hd : (c == ("__debug__" : Str)) = false) (hs : isStar a = false) (ha : TR X a δ x δ1) (hB : U.G.glo c = some (.cls B q)) (h : isCD U.G B x = some k) : TR X (.Call (.Name "isinstance" p) [a, .Name c p2] [] pos) δ (.bl k) δ1 := by
  have hm : X.mg c = some (.ref B) := by rw [ok.mg]; exact (ok.wd.gc c B q hB).1
  have hc : TR X (.Name c p2) δ1 (.vl (.ref B)) δ1 := tr_glob (u := .ref B) hm rfl hg2 hd
  have kk := ok.wd.kC c B q hB
  rw [← ok.K] at kk
  unfold isCD at h
  split at h
  · obtain ⟨c, hk⟩ := ok.wd.isC _ B k h
    rw [← ok.K] at c hk
    exact isi_tr ok hg hs ha hc (.ins c _ _) (.own _) hk
  · cases h; exact isi_tr ok hg hs ha hc .non (.own _) (kk _ (by simp))
  · cases h; exact isi_tr ok hg hs ha hc (.int _) (.own _) (kk _ (by simp))
  · cases h; exact isi_tr ok hg hs ha hc (.bl _) (.own _) (kk _ (by simp))
  · cases h; exact isi_tr ok hg hs ha hc (.str _) (.own _) (kk _ (by simp))
  · cases h; exact isi_tr ok hg hs ha hc (.lst _) (.own _) (kk _ (by simp))
  · cases h; exact isi_tr ok hg hs ha hc (.tup _) (.own _) (kk _ (by simp))
  · cases h; exact isi_tr ok hg hs ha hc (.dct _ _) (.own _) (kk _ (by simp))
  · cases h
end
end RE
set_option Elab.async false
set_option linter.all false
set_option maxRecDepth 100000
set_option autoImplicit false
set_option maxHeartbeats 1000000
/-! REk: the parts of an expression, one by one. -/
namespace RE
open PySem PySem.Spec PyProof.Rows L2 TL
inductive A2 {α β : Type} (R : α → β → Prop) : List α → List β → Prop where
  | nil : A2 R [] []
  | cons {a : α} {b : β} {as : List α} {bs : List β} (h : R a b) (t : A2 R as bs) : A2 R (a :: as) (b :: bs)
theorem A2.len {α β : Type} {R : α → β → Prop} : ∀ {as : List α} {bs : List β}, A2 R as bs → as.length = bs.length
  | _, _, .nil => rfl
  | _, _, .cons _ t => by simp [A2.len t]
section
variable (U : Sd) (T : Tb) (lv : Nat) (md : Md) (N : List Str)
/-- what a part's text does is what the machine does, in any context of a scope -/
structure SE (sc : Scope) (e : E) (x : Expr) : Prop where
  ok : okE N sc e x = true
  run : ∀ (X : Cx), XOk U T lv md X → X.N = N → X.env.scope = sc → ∀ (tst : Bool) (δ : TL.Env) (r : Rz) (δ' : TL.Env), ee U.G T md tst e δ = some (r, δ') → JEt X tst x δ r δ'
end
section
variable {U : Sd} {T : Tb} {lv : Nat} {md : Md} {N : List Str} {sc : Scope} {X : Cx} {e a b c : E} {x y z w : Expr} {es as : List E} {xs ys : List Expr} {pos p : Pos} {δ δ' : TL.Env}
theorem SE.je (h : SE U T lv md N sc e x) (ok : XOk U T lv md X) (hN : X.N = N) (hs : X.env.scope = sc) {r : Rz} (he : ee U.G T md false e δ = some (r, δ')) : JE X x δ r δ' := h.run X ok hN hs false δ r δ' he
theorem SE.jt (h : SE U T lv md N sc e x) (ok : XOk U T lv md X) (hN : X.N = N) (hs : X.env.scope = sc) {r : Rz} (he : ee U.G T md true e δ = some (r, δ')) : JT X x δ r δ' := h.run X ok hN hs true δ r δ' he
/-! ### lists of parts -/
theorem evs_len : ∀ {es : List E} {δ δ' : TL.Env} {ds : List D}, evs U.G T md es δ = some (.inl ds, δ') → ds.length = es.length
  | [], _, _, _, h => by cases h; rfl
  | e :: es, δ, δ', ds, h => by
    simp only [evs] at h
    rcases bR_some h with ⟨x, δ1, h1, h2⟩ | ⟨r, d, δ1, h1, hd, h2⟩
    · cases h2
    · split at h2
      · cases h2
      · rename_i h3; cases h2; simp [evs_len h3]
      · cases h2
theorem s_args (ok : XOk U T lv md X) (hN : X.N = N) (hs : X.env.scope = sc) : ∀ {es : List E} {xs : List Expr}, A2 (SE U T lv md N sc) es xs → ∀ {δ δ' : TL.Env} {r : Sum (List D) Xn}, evs U.G T md es δ = some (r, δ') → JA X xs δ r δ'
  | _, _, .nil, δ, δ', r, h => by cases h; exact ta_nil
  | _, _, .cons (a := e) (b := x) (as := es) (bs := xs) he hes, δ, δ', r, h => by
    simp only [evs] at h
    have hst := star_cons (env := X.env) (xs := xs) (okE_star he.ok)
    rcases bR_some h with ⟨y, δ1, h1, h2⟩ | ⟨r1, d, δ1, h1, hd, h2⟩
    · cases h2
      have j : JX X x δ y δ' := he.je ok hN hs h1
      exact fun M W σ H Q g E k => wA_of (pa_cons pe_w pa_w hst) (j M W σ H _ g E k)
    · have ta := (he.je ok hN hs h1).tr hd
      split at h2
      · rename_i y δ2 h3
        cases h2
        have j : JXA X xs δ1 y δ' := s_args ok hN hs hes h3
        exact fun M W σ H Q g E k => wA_of (pa_cons pe_w pa_w hst) (ta M W σ H _ g E fun u H1 s1 r1 => j M W σ H1 _ s1.good s1.env (k.step s1))
      · rename_i ds δ2 h3
        cases h2
        exact ta_cons ta (s_args ok hN hs hes h3) hst
      · cases h2
theorem s_kws (ok : XOk U T lv md X) (hN : X.N = N) (hs : X.env.scope = sc) : ∀ {es : List E} {ws : List Keyword}, A2 (SE U T lv md N sc) es (ws.map (·.value)) → ∀ {δ δ' : TL.Env} {r : Sum (List D) Xn}, evs U.G T md es δ = some (r, δ') → JK X ws δ r δ'
  | _, [], .nil, δ, δ', r, h => by cases h; exact tk_nil
  | _, ⟨kn, x, kp⟩ :: ws, .cons (a := e) (as := es) he hes, δ, δ', r, h => by
    simp only [evs] at h
    rcases bR_some h with ⟨y, δ1, h1, h2⟩ | ⟨r1, d, δ1, h1, hd, h2⟩
    · cases h2
      have j : JX X x δ y δ' := he.je ok hN hs h1
      exact fun M W σ H Q g E k => wK_of (pk_cons pe_w pk_w) (j M W σ H _ g E k)
    · have ta : TR X x δ d δ1 := (he.je ok hN hs h1).tr hd
      split at h2
      · rename_i y δ2 h3
        cases h2
        have j : JXK X ws δ1 y δ' := s_kws ok hN hs hes h3
        exact fun M W σ H Q g E k => wK_of (pk_cons pe_w pk_w) (ta M W σ H _ g E fun u H1 s1 r1 => j M W σ H1 _ s1.good s1.env (k.step s1))
      · rename_i ds δ2 h3
        cases h2
        exact tk_cons ta (s_kws ok hN hs hes h3)
      · cases h2
theorem var_of {i : Nat} {n : Str} (h : varB N sc i n = true) (hN : X.N = N) (hs : X.env.scope = sc) : X.N[i]? = some n ∧ Vis X.env.scope n ∧ (n == ("__debug__" : Str)) = false ∧ (n == ("__classdict__" : Str)) = false := by
  simp only [varB, visB, nmB, Bool.and_eq_true, Bool.or_eq_true, decide_eq_true_eq, Bool.not_eq_true'] at h
  rw [hN, hs]
  exact ⟨h.1, h.2.1, h.2.2.1, h.2.2.2⟩
/-! ### names, constants -/
theorem s_var {i : Nat} {n : Str} (h : okE N sc (.var i) (.Name n pos) = true) : SE U T lv md N sc (.var i) (.Name n pos) := ⟨h, fun X ok hN hs tst δ r δ' he => by
  obtain ⟨v1, v2, v3, v4⟩ := var_of h hN hs
  refine s_fin (fun r δ' h => ?_) (fun _ => rfl) he
  split at h
  · rename_i d hd; cases h; exact tr_var (i := i) hd v1 v2 v3 v4
  · cases h⟩
theorem s_glo {n m : Str} (h : okE N sc (.glo n) (.Name m pos) = true) : SE U T lv md N sc (.glo n) (.Name m pos) := ⟨h, fun X ok hN hs tst δ r δ' he => by
  have h' : (decide (n = m) && glB sc n) = true := h
  simp only [Bool.and_eq_true, decide_eq_true_eq] at h'
  obtain ⟨rfl, hg⟩ := h'
  obtain ⟨g1, g2⟩ := gl_of hg hs
  refine s_fin (fun r δ' h => ?_) (fun _ => rfl) he
  split at h
  · rename_i d hd
    cases h
    obtain ⟨v, u, hm, rv, hr⟩ := ok.wd.gv n d hd
    exact tr_c (pe_glob g1 (by rw [ok.mg]; exact hm) rv g2) hr
  · cases h⟩
theorem s_int {i j : Int} {k : Nat} (h : okE N sc (.int i) (.Constant (.int j) k pos) = true) : SE U T lv md N sc (.int i) (.Constant (.int j) k pos) := ⟨h, fun X ok hN hs tst δ r δ' he => by
  obtain rfl : i = j := of_decide_eq_true h
  exact s_fin (fun r δ' h => by cases h; exact tr_int) (fun _ => rfl) he⟩
theorem s_str {i j : Str} {k : Nat} (h : okE N sc (.str i) (.Constant (.str j) k pos) = true) : SE U T lv md N sc (.str i) (.Constant (.str j) k pos) := ⟨h, fun X ok hN hs tst δ r δ' he => by
  obtain rfl : i = j := of_decide_eq_true h
  exact s_fin (fun r δ' h => by cases h; exact tr_str) (fun _ => rfl) he⟩
theorem s_bl {i j : Bool} {k : Nat} (h : okE N sc (.bl i) (.Constant (.bool j) k pos) = true) : SE U T lv md N sc (.bl i) (.Constant (.bool j) k pos) := ⟨h, fun X ok hN hs tst δ r δ' he => by
  obtain rfl : i = j := of_decide_eq_true h
  exact s_fin (fun r δ' h => by cases h; exact tr_bl) (fun _ => rfl) he⟩
theorem s_non {k : Nat} : SE U T lv md N sc .non (.Constant .none k pos) := ⟨rfl, fun X ok hN hs tst δ r δ' he => s_fin (fun r δ' h => by cases h; exact tr_non) (fun _ => rfl) he⟩
/-! ### operators -/
theorem s_bin {op : Operator} (h : okE N sc (.bin op a b) (.BinOp x op y pos) = true) (ha : SE U T lv md N sc a x) (hb : SE U T lv md N sc b y) : SE U T lv md N sc (.bin op a b) (.BinOp x op y pos) := ⟨h, fun X ok hN hs tst δ r δ' he => by
  refine s_fin (fun r δ' h => ?_) (fun _ => rfl) he
  rcases bR_some h with ⟨v, δ1, h1, h2⟩ | ⟨r1, d1, δ1, h1, hd1, h2⟩
  · cases h2
    have j : JX X x δ v δ' := ha.je ok hN hs h1
    exact fun M W σ H Q g E k => wE_of (pe_op op_no pe_w pe_w) (j M W σ H _ g E k)
  · have ta := (ha.je ok hN hs h1).tr hd1
    rcases bR_some h2 with ⟨v, δ2, h3, h4⟩ | ⟨r2, d2, δ2, h3, hd2, h4⟩
    · cases h4
      have j : JX X y δ1 v δ' := hb.je ok hN hs h3
      exact fun M W σ H Q g E k => wE_of (pe_op op_no pe_w pe_w) (ta M W σ H _ g E fun u H1 s1 r1 => j M W σ H1 _ s1.good s1.env (k.step s1))
    · obtain ⟨z, hz, e⟩ := Option.map_eq_some_iff.mp h4
      cases e
      exact bin_je ok ta ((hb.je ok hN hs h3).tr hd2) hz⟩
theorem s_neg (h : okE N sc (.neg a) (.UnaryOp .USub x pos) = true) (ha : SE U T lv md N sc a x) : SE U T lv md N sc (.neg a) (.UnaryOp .USub x pos) := ⟨h, fun X ok hN hs tst δ r δ' he => by
  refine s_fin (fun r δ' h => ?_) (fun _ => rfl) he
  rcases bR_some h with ⟨v, δ1, h1, h2⟩ | ⟨r1, d1, δ1, h1, hd1, h2⟩
  · cases h2
    have j : JX X x δ v δ' := ha.je ok hN hs h1
    exact fun M W σ H Q g E k => wE_of (pe_un un_no pe_w) (j M W σ H _ g E k)
  · obtain ⟨z, hz, e⟩ := Option.map_eq_some_iff.mp h2
    cases e
    exact neg_je ok ((ha.je ok hN hs h1).tr hd1) hz⟩
theorem s_nt (h : okE N sc (.nt a) (.UnaryOp .Not x pos) = true) (ha : SE U T lv md N sc a x) : SE U T lv md N sc (.nt a) (.UnaryOp .Not x pos) := ⟨h, fun X ok hN hs tst δ r δ' he => by
  rcases bB_some he with ⟨v, δ1, h1, h2⟩ | ⟨k, δ1, h1, h2⟩
  · cases h2
    cases tst with
    | false =>
      have j : JX X x δ v δ' := ha.je ok hN hs h1
      exact fun M W σ H Q g E k => wE_of (pe_not pe_w) (j M W σ H _ g E k)
    | true =>
      have j : JXT X x δ v δ' := ha.jt ok hN hs h1
      exact fun M W σ H Q g E k => wT_of (pt_not pt_w) (j M W σ H _ g E k)
  · cases h2
    cases tst with
    | false => exact tr_not (ha.je ok hN hs h1)
    | true => exact tt_not (ha.jt ok hN hs h1)⟩
theorem s_ifx (h : okE N sc (.ifx c a b) (.IfExp z x y pos) = true) (hc : SE U T lv md N sc c z) (ha : SE U T lv md N sc a x) (hb : SE U T lv md N sc b y) : SE U T lv md N sc (.ifx c a b) (.IfExp z x y pos) := ⟨h, fun X ok hN hs tst δ r δ' he => by
  cases tst with
  | true => cases he
  | false =>
    rcases bB_some (show bB (ee U.G T md true c δ) _ = _ from he) with ⟨v, δ1, h1, h2⟩ | ⟨k, δ1, h1, h2⟩
    · cases h2
      have j : JXT X z δ v δ' := hc.jt ok hN hs h1
      exact fun M W σ H Q g E k => wE_of (pe_ifExp pt_w pe_w pe_w) (j M W σ H _ g E k)
    · have tc : TT X z δ k δ1 := hc.jt ok hN hs h1
      refine je_of fun M W σ H Q g E kk => wE_of (pe_ifExp pt_w pe_w pe_w) (tc M W σ H _ g E fun H1 s1 => ?_)
      cases k with
      | true =>
        rw [if_pos rfl]
        exact (ha.je ok hN hs (by simpa using h2)).ke M W σ H1 Q s1.good s1.env (KE.step s1 g kk)
      | false =>
        rw [if_neg Bool.false_ne_true]
        exact (hb.je ok hN hs (by simpa using h2)).ke M W σ H1 Q s1.good s1.env (KE.step s1 g kk)⟩
theorem s_cmp {op : CmpOp} (h : okE N sc (.cmp op a b) (.Compare x [op] [y] pos) = true) (ha : SE U T lv md N sc a x) (hb : SE U T lv md N sc b y) : SE U T lv md N sc (.cmp op a b) (.Compare x [op] [y] pos) := ⟨h, fun X ok hN hs tst δ r δ' he => by
  have hm := mark_no (op := op) (okE_set hb.ok)
  have main : ∀ {o : Option (Rz × TL.Env)}, o = bR (ee U.G T md false a δ) xR (fun u δ1 => bR (ee U.G T md false b δ1) xR fun v δ2 => (cmpD U.G T md op u v).map fun b => (.im (.bl b), δ2)) → ∀ r δ', o = some (r, δ') → (∃ v, r = .ex v ∧ JX X (.Compare x [op] [y] pos) δ v δ' ∧ JXT X (.Compare x [op] [y] pos) δ v δ') ∨ ∃ k, r = .im (.bl k) ∧ Cm X op x y pos δ k δ' := by
    intro o ho r δ' h
    rw [ho] at h
    rcases bR_some h with ⟨v, δ1, h1, h2⟩ | ⟨r1, d1, δ1, h1, hd1, h2⟩
    · cases h2
      have j : JX X x δ v δ' := ha.je ok hN hs h1
      exact .inl ⟨v, rfl, fun M W σ H Q g E k => wE_of (pe_cmpR op_no pe_w pe_w hm) (j M W σ H _ g E k), fun M W σ H Q g E k => wT_of (pt_cmpR op_no pe_w pe_w hm) (j M W σ H _ g E k)⟩
    · have ta := (ha.je ok hN hs h1).tr hd1
      rcases bR_some h2 with ⟨v, δ2, h3, h4⟩ | ⟨r2, d2, δ2, h3, hd2, h4⟩
      · cases h4
        have j : JX X y δ1 v δ' := hb.je ok hN hs h3
        exact .inl ⟨v, rfl, fun M W σ H Q g E k => wE_of (pe_cmpR op_no pe_w pe_w hm) (ta M W σ H _ g E fun u H1 s1 r1 => j M W σ H1 _ s1.good s1.env (k.step s1)), fun M W σ H Q g E k => wT_of (pt_cmpR op_no pe_w pe_w hm) (ta M W σ H _ g E fun u H1 s1 r1 => j M W σ H1 _ s1.good s1.env (k.step s1))⟩
      · obtain ⟨k, hk, e⟩ := Option.map_eq_some_iff.mp h4
        cases e
        exact .inr ⟨k, rfl, cmp_je ok ta ((hb.je ok hN hs h3).tr hd2) hk hm⟩
  cases tst with
  | false =>
    rcases main rfl r δ' he with ⟨v, rfl, j, _⟩ | ⟨k, rfl, j⟩
    · exact j
    · exact j.1
  | true =>
    rcases bR_some he with ⟨v, δ1, h1, h2⟩ | ⟨r1, d1, δ1, h1, hd1, h2⟩
    · cases h2
      rcases main rfl _ _ h1 with ⟨v', e, _, j⟩ | ⟨k, e, _⟩
      · cases e; exact j
      · cases e
    · rcases main rfl _ _ h1 with ⟨v', e, _, j⟩ | ⟨k, e, j⟩
      · subst e; cases hd1
      · subst e; cases hd1; cases h2; exact j.2⟩
end
end RE
set_option Elab.async false
set_option linter.all false
set_option maxRecDepth 100000
set_option autoImplicit false
set_option maxHeartbeats 1000000
/-! REl: calls, subscripts, displays, f-strings. -/
namespace RE
open PySem PySem.Spec PyProof.Rows L2 TL
/-- a new list, seen as data -/
def lstR : Rz → Rz
  | .fr xs => .im (.lst xs)
  | .im d => .im d
  | .ex x => .ex x
section
variable {U : Sd} {T : Tb} {lv : Nat} {md : Md} {N : List Str} {sc : Scope} {X : Cx} {e a b c : E} {x y z w : Expr} {es as kv : List E} {xs ys : List Expr} {pos p p2 : Pos} {δ δ' : TL.Env} {f g : Str} {kn : List Str} {kws : List Keyword}
theorem okEs_of (h : A2 (SE U T lv md N sc) es xs) : ∀ x ∈ xs, isStar x = false := by
  induction h with
  | nil => intro x hx; cases hx
  | cons h t ih =>
    intro x hx
    rcases List.mem_cons.mp hx with rfl | hx
    · exact okE_star h.ok
    · exact ih x hx
/-- f(..), f a name of the module -/
theorem we_callN {fv : Value} {σ : L2.St} {H : Hp} {Q : VK} (hg : Gl X f) (hm : X.mg f = some fv) (hd : (f == ("__debug__" : Str)) = false) (hk : PySem.W.keepIn X.K fv = true) (hs : ∀ x ∈ xs, isStar x = false) (hw : kwB kn kws = true)
    (h : wA X xs σ H fun vs H1 => wK X kws σ H1 fun zs H2 => CK X fv [] kn σ vs zs H2 Q) : wE X (.Call (.Name f p) xs kws pos) σ H Q :=
  ⟨fun pins s I => wpAny_Call_Name_kw (ld_glob I hg hm (callW hk hs hw I h) hd)⟩
theorem call_keep (ok : XOk U T lv md X) (h : isCal (U.G.glo f) = true) : ∃ fv, X.mg f = some fv ∧ PySem.W.keepIn X.K fv = true := by
  unfold isCal at h
  split at h
  · rename_i q hq
    obtain ⟨h1, h2⟩ := ok.wd.gf f q hq
    exact ⟨_, by rw [ok.mg]; exact h1, by rw [ok.K]; exact h2⟩
  · rename_i A q hq
    obtain ⟨h1, h2⟩ := ok.wd.gc f A q hq
    exact ⟨_, by rw [ok.mg]; exact h1, by rw [ok.K]; exact h2.kp⟩
  · cases h
theorem call_ck (ok : XOk U T lv md X) {n : Nat} {ds es : List D} {r : Rz} {M W : Addr → Prop} {σ : L2.St} {H : Hp} {Q : VK} {vs zs : List V} {fv : Value} (h : gloCall U.G T md f n kn (ds ++ es) = some r) (hm : X.mg f = some fv) (hn : ds.length = n) (hk : es.length = kn.length) (gd : Good M W H) (r1 : Reps M H ds vs) (r2 : Reps M H es zs) (pc : PC X M σ H Q r) :
    CK X fv [] kn σ vs zs H Q := by
  unfold gloCall at h
  split at h
  · rename_i q hq
    obtain ⟨h1, h2⟩ := ok.wd.gf f q hq
    rw [ok.mg, h1] at hm
    cases hm
    obtain ⟨p, hp, h⟩ := Option.bind_eq_some_iff.mp h
    obtain ⟨zd, hz, h⟩ := Option.bind_eq_some_iff.mp h
    obtain ⟨⟨r', ss'⟩, hT, e⟩ := Option.map_eq_some_iff.mp h
    cases e
    exact ck_fn ok hp hz hT hn hk gd r1 r2 pc
  · rename_i A q hq
    obtain ⟨h1, h2⟩ := ok.wd.gc f A q hq
    rw [ok.mg, h1] at hm
    cases hm
    rw [← ok.K] at h2
    obtain ⟨p, hp, h⟩ := Option.bind_eq_some_iff.mp h
    split at h
    · obtain ⟨p', hp', h⟩ := Option.bind_eq_some_iff.mp h
      obtain ⟨zd, hz, h⟩ := Option.bind_eq_some_iff.mp h
      exact ck_make ok h2 hp hp' hz h hn hk gd r1 r2 pc
    · cases h
  · cases h
theorem s_call (h : okE N sc (.call f as kn kv) (.Call (.Name g p) xs kws pos) = true) (ha : A2 (SE U T lv md N sc) as xs) (hk : A2 (SE U T lv md N sc) kv (kws.map (·.value))) : SE U T lv md N sc (.call f as kn kv) (.Call (.Name g p) xs kws pos) := ⟨h, fun X ok hN hs tst δ r δ' he => by
  have h' : (decide (f = g) && (glB sc f && (okEs N sc as xs && (kwB kn kws && okEs N sc kv (kws.map (·.value)))))) = true := h
  simp only [Bool.and_eq_true, decide_eq_true_eq] at h'
  obtain ⟨rfl, hg, _, hw, _⟩ := h'
  obtain ⟨g1, g2⟩ := gl_of hg hs
  have hst := okEs_of ha
  refine s_fin (fun r δ' h => ?_) (fun _ => rfl) he
  split at h
  · rename_i hcal
    obtain ⟨fv, hm, hkp⟩ := call_keep ok hcal
    rcases bA_some h with ⟨v, δ1, h1, h2⟩ | ⟨ds, δ1, h1, h2⟩
    · cases h2
      have j : JXA X xs δ v δ' := s_args ok hN hs ha h1
      exact fun M W σ H Q g E k => we_callN g1 hm g2 hkp hst hw (j M W σ H _ g E k)
    · have ta : TA X xs δ ds δ1 := s_args ok hN hs ha h1
      rcases bA_some h2 with ⟨v, δ2, h3, h4⟩ | ⟨ks, δ2, h3, h4⟩
      · cases h4
        have j : JXK X kws δ1 v δ' := s_kws ok hN hs hk h3
        exact fun M W σ H Q g E k => we_callN g1 hm g2 hkp hst hw (ta M W σ H _ g E fun vs H1 s1 r1 => j M W σ H1 _ s1.good s1.env (k.step s1))
      · have tk : TK X kws δ1 ks δ2 := s_kws ok hN hs hk h3
        obtain ⟨r', hr, e⟩ := Option.map_eq_some_iff.mp h4
        cases e
        refine je_of fun M W σ H Q g E k => we_callN g1 hm g2 hkp hst hw (ta M W σ H _ g E fun vs H1 s1 r1 => tk M W σ H1 _ s1.good s1.env fun zs H2 s2 r2 => ?_)
        exact call_ck ok hr hm (evs_len h1) (by rw [evs_len h3, hk.len, List.length_map, kw_len hw]) s2.good (s2.reps r1) r2 (KE.pc (s1.trans s2) g k)
  · cases h⟩
/-! ### f(q, ..), q a list or an instance of its own -/
theorem own_after {M W : Addr → Prop} {H1 H2 : Hp} {σ : L2.St} {δ1 : TL.Env} {i : Nat} {oc oc2 : OC} {a0 : Addr} {vs : List V} {rest : List S} (E : EnvR M W H1 σ δ1) (g1 : Good M W H1) (h0 : δ1[i]? = some (some (.own oc))) (hs : σ[i]? = some (some (.ref a0))) (hw : W a0) (xt : Xt (fun a => a = a0) H1 H2)
    (E2 : EnvR M (fun a => a = a0) H2 ((V.ref a0 :: vs).map some) ((S.own oc2 :: rest).map some)) : EnvR M W H2 σ (δ1.set i (some (.own oc2))) := by
  obtain ⟨u, hu, p2, us2, rfl, _, hp2, ru2⟩ := E2.at_ 0 (.own oc2) rfl
  have : p2 = a0 := by simpa using hu.symm
  subst this
  have xm : Xt M H1 H2 := fun a o m h => xt a o (fun z => m (by rw [z]; exact g1.wm p2 hw)) h
  have il : i < δ1.length := (List.getElem?_eq_some_iff.mp h0).1
  refine ⟨by rw [List.length_set]; exact E.len, fun j s hj => ?_, fun k j a ws zs h1 h2 h3 h4 => ?_⟩
  · by_cases hn : i = j
    · subst hn
      rw [List.getElem?_set_self il] at hj
      cases hj
      exact ⟨_, hs, p2, us2, rfl, hw, hp2, ru2⟩
    · rw [List.getElem?_set_ne hn] at hj
      obtain ⟨u, a1, b1⟩ := E.at_ j s hj
      refine ⟨u, a1, ?_⟩
      cases s with
      | im d => exact Rep.ex xm d b1
      | own ws =>
        obtain ⟨p', vs', rfl, w', hp', r'⟩ := b1
        exact ⟨p', vs', rfl, w', xt p' _ (fun z => hn (E.ap i j p2 oc ws h0 hj hs (by rw [← z]; exact a1))) hp', RepO.ex xm ws r'⟩
  · have key : ∀ (j : Nat) (zs : OC), (δ1.set i (some (.own oc2)))[j]? = some (some (.own zs)) → ∃ zs', δ1[j]? = some (some (.own zs')) := fun j zs q => by
      by_cases hj : i = j
      · subst hj; exact ⟨oc, h0⟩
      · rw [List.getElem?_set_ne hj] at q; exact ⟨zs, q⟩
    obtain ⟨z1, a1⟩ := key k ws h1
    obtain ⟨z2, a2⟩ := key j zs h2
    exact E.ap k j a z1 z2 a1 a2 h3 h4
theorem ck_own (ok : XOk U T lv md X) {q : Str} {fc : Fc} {i : Nat} {oc oc2 : OC} {ds : List D} {r r' : Rz} {rest : List S} {M W : Addr → Prop} {σ : L2.St} {H H1 : Hp} {Q : VK} {vs : List V} {a0 : Addr} {δ1 : TL.Env} (hf : U.G.fns q = some fc) (hp : fc.po = true) (hT : T md q (.own oc :: ds.map S.im) = some (r, .own oc2 :: rest))
    (hr : r' = lstR r) (g : Good M W H) (s1 : Stp M W σ δ1 H H1) (h0 : δ1[i]? = some (some (.own oc))) (hs : σ[i]? = some (some (.ref a0))) (r1 : Reps M H1 ds vs) (k : KE X M W σ H Q r' (δ1.set i (some (.own oc2)))) :
    CK X (.ref (U.ad q)) [] [] σ (V.ref a0 :: vs) [] H1 Q := ⟨fun pins s us ws I rv rz => by
  cases rz
  obtain ⟨p0, o0, e0, hw, hp0, ru0⟩ := s1.env.getO h0
  rw [hs] at e0
  cases e0
  have hl := ok.wd.len md q fc _ _ _ hf hT
  have hl2 : (V.ref a0 :: vs).length = fc.ps.length := by rw [List.length_cons, r1.len]; simpa using hl
  have hb := ok.wd.bp q fc hf hp s us (by rw [← ok.K]; exact I.kIn) (by rw [← rv.length]; exact hl2)
  have st : ∀ {H2 : Hp}, Xt (fun a => a = a0) H1 H2 → Good M (fun a => a = a0) H2 → EnvR M (fun a => a = a0) H2 ((V.ref a0 :: vs).map some) ((S.own oc2 :: rest).map some) → Stp M W σ (δ1.set i (some (.own oc2))) H H2 := fun xt g2 E2 =>
    ⟨s1.xt.trans (Xt.mono (fun a z => by rw [z]; exact hw) xt), ⟨g.wm, g2.mt⟩, own_after s1.env s1.good h0 hs hw xt E2⟩
  have g0 : Good M (fun a => a = a0) H1 := ⟨fun a z => by rw [z]; exact g.wm a0 hw, s1.good.mt⟩
  refine runX (kn := []) (ws := []) (ok.fnx hf) (ok.room.mono (by omega)) ok.hd ok.gd I hb hl2 rv ?_
  cases r with
  | im d =>
    subst hr
    exact ⟨E0, takes_no fun _ _ _ _ z => z.2, M, fun a => a = a0, _, _, _, hT, g0, envR_own hp0 ru0 r1, fun v H2 xt g2 E2 rr => k v H2 (st xt g2 E2) rr⟩
  | fr xs =>
    subst hr
    exact ⟨E0, takes_no fun _ _ _ _ z => z.2, M, fun a => a = a0, _, _, _, hT, g0, envR_own hp0 ru0 r1, fun v H2 xt g2 E2 ⟨p', us', e, n, hp', r2⟩ => by
      subst e
      exact k _ H2 (st xt g2 E2) ⟨p', us', rfl, g0.notM n, hp', Reps.anti (fun _ m => .inl m) xs r2⟩⟩
  | ex x =>
    subst hr
    obtain ⟨Wx, tk, h⟩ := k
    exact ⟨fun cls d H' => Wx cls d σ H', tk.imp fun c d σ' H' ⟨e, z⟩ => e ▸ z, M, fun a => a = a0, _, _, _, hT, g0, envR_own hp0 ru0 r1, fun dx H2 xt g2 E2 rx => h dx H2 (st xt g2 E2) rx⟩⟩
theorem s_callO {i : Nat} {n : Str} (h : okE N sc (.callO f i as) (.Call (.Name g p) (.Name n p2 :: xs) [] pos) = true) (ha : A2 (SE U T lv md N sc) as xs) : SE U T lv md N sc (.callO f i as) (.Call (.Name g p) (.Name n p2 :: xs) [] pos) := ⟨h, fun X ok hN hs tst δ r δ' he => by
  have h' : (decide (f = g) && (glB sc f && (varB N sc i n && okEs N sc as xs))) = true := h
  simp only [Bool.and_eq_true, decide_eq_true_eq] at h'
  obtain ⟨rfl, hg, hv, _⟩ := h'
  obtain ⟨g1, g2⟩ := gl_of hg hs
  obtain ⟨v1, v2, v3, v4⟩ := var_of hv hN hs
  have hst : ∀ x ∈ Expr.Name n p2 :: xs, isStar x = false := fun x hx => by
    rcases List.mem_cons.mp hx with rfl | hx
    · rfl
    · exact okEs_of ha x hx
  have hst1 : starEach (.Name n p2 :: xs) X.env = (false, eval (.Name n p2) X.env) :: starEach xs X.env := star_cons rfl
  refine s_fin (fun r δ' h => ?_) (fun _ => rfl) he
  split at h
  · rename_i hcal
    obtain ⟨fv, hm, hkp⟩ := call_keep ok hcal.2
    have ho : ∃ oc, δ[i]? = some (some (.own oc)) := by
      have := hcal.1
      unfold isOwn at this
      split at this
      · rename_i oc e; exact ⟨oc, e⟩
      · cases this
    obtain ⟨oc0, ho⟩ := ho
    rcases bA_some h with ⟨v, δ1, h1, h2⟩ | ⟨ds, δ1, h1, h2⟩
    · cases h2
      have j : JXA X xs δ v δ' := s_args ok hN hs ha h1
      exact fun M W σ H Q g E k => by
        obtain ⟨a0, us0, hs0, hw0, hp0, ru0⟩ := E.getO ho
        exact we_callN (kn := []) g1 hm g2 hkp hst rfl (wA_of (pa_cons (pe_var v1 v2 v3 v4) pa_w hst1) ⟨_, hs0, j M W σ H _ g E k⟩)
    · have ta : TA X xs δ ds δ1 := s_args ok hN hs ha h1
      split at h2
      · rename_i oc q hoc hq
        obtain ⟨fc, hf, h2⟩ := Option.bind_eq_some_iff.mp h2
        split at h2
        · rename_i hpo
          obtain ⟨m1, m2⟩ := ok.wd.gf f q hq
          rw [ok.mg, m1] at hm
          cases hm
          have m1' : X.mg f = some (.ref (U.ad q)) := by rw [ok.mg]; exact m1
          have fin : ∀ (r1 r2 : Rz) (oc2 : OC) (rest : List S), T md q (.own oc :: ds.map S.im) = some (r1, .own oc2 :: rest) → r2 = lstR r1 → JE X (.Call (.Name f p) (.Name n p2 :: xs) [] pos) δ r2 (δ1.set i (some (.own oc2))) := fun r1 r2 oc2 rest hT hr => je_of fun M W σ H Q g E k => by
            obtain ⟨a0, us0, hs0, hw0, hp0, ru0⟩ := E.getO ho
            refine we_callN (kn := []) g1 m1' g2 hkp hst rfl (wA_of (pa_cons (pe_var v1 v2 v3 v4) pa_w hst1) ⟨_, hs0, ta M W σ H _ g E fun vs H1 s1 r1 => wK_of pk_nil ?_⟩)
            exact ck_own ok hf hpo hT hr g s1 hoc hs0 r1 k
          unfold ownCall at h2
          split at h2
          · rename_i hT; cases h2; exact fin _ _ _ _ hT rfl
          · rename_i hT; cases h2; exact fin _ _ _ _ hT rfl
          · rename_i hT; cases h2; exact fin _ _ _ _ hT rfl
          · cases h2
        · cases h2
      · cases h2
  · cases h⟩
end
end RE
set_option Elab.async false
set_option linter.all false
set_option maxRecDepth 100000
set_option autoImplicit false
set_option maxHeartbeats 1000000
/-! REm: calls with a new list, built-ins, attributes, subscripts, displays, f-strings, and, or. -/
namespace RE
open PySem PySem.Spec PyProof.Rows L2 TL
theorem plainIx {N : List Str} {sc : Scope} {e : E} {x : Expr} (h : okE N sc e x = true) : PlainIx x := by
  cases x <;> first
    | exact fun _ _ => rfl
    | (exfalso; cases e <;> cases h)
theorem str_empty_app (t : Str) : Str.empty ++ t = t := by
  show Str.append Str.empty t = t
  unfold Str.append Str.empty
  simp
section
variable {U : Sd} {T : Tb} {lv : Nat} {md : Md} {N : List Str} {sc : Scope} {X : Cx} {e a b c : E} {x y z w : Expr} {es as kv : List E} {xs ys : List Expr} {pos p p2 p3 : Pos} {δ δ' : TL.Env} {f g m : Str} {kn : List Str} {kws : List Keyword}
/-! ### f(e, ..), e makes a new list, which f may change -/
theorem ck_fresh (ok : XOk U T lv md X) {q : Str} {fc : Fc} {oc2 : OC} {ls ds : List D} {r : Rz} {rest : List S} {M W : Addr → Prop} {σ : L2.St} {H H1 H2 : Hp} {Q : VK} {us vs : List V} {p' : Addr} {δ1 δ2 : TL.Env} (hf : U.G.fns q = some fc) (hp : fc.po = true) (hT : T md q (.own (.lst ls) :: ds.map S.im) = some (r, .own oc2 :: rest))
    (g : Good M W H) (s1 : Stp (Mp M p') W σ δ1 H H1) (n : H p' = none) (hp1 : H1 p' = some (.lst us)) (r1 : Reps (Mp M p') H1 ls us) (s2 : Stp (Mp M p') W σ δ2 H1 H2) (r2 : Reps (Mp M p') H2 ds vs) (k : KE X M W σ H Q (lstR r) δ2) :
    CK X (.ref (U.ad q)) [] [] σ (V.ref p' :: vs) [] H2 Q := ⟨fun pins s us' ws I rv rz => by
  cases rz
  have np : ¬ M p' := g.notM n
  have nW : ¬ W p' := fun w => np (g.wm p' w)
  have hp2 : H2 p' = some (.lst us) := s2.xt p' _ nW hp1
  have hl := ok.wd.len md q fc _ _ _ hf hT
  have hl2 : (V.ref p' :: vs).length = fc.ps.length := by rw [List.length_cons, r2.len]; simpa using hl
  have hb := ok.wd.bp q fc hf hp s us' (by rw [← ok.K]; exact I.kIn) (by rw [← rv.length]; exact hl2)
  have g0 : Good (Mp M p') (fun a => a = p') H2 := ⟨fun a z => .inr z, s2.good.mt⟩
  have r1' : Reps (Mp M p') H2 ls us := s2.reps r1
  have E0' := envR_own (xs := .lst ls) hp2 ⟨us, rfl, r1'⟩ r2
  have st : ∀ {H3 : Hp}, Xt (fun a => a = p') H2 H3 → Good (Mp M p') (fun a => a = p') H3 → Stp M W σ δ2 H H3 := fun {H3} xt g2 => by
    have xm : Xt (Mp M p') H2 H3 := Xt.mono (fun a z => .inr z) xt
    refine ⟨fun a o w h => xt a o (fun z => by rw [z, n] at h; cases h) (s2.xt a o w (s1.xt a o w h)), ⟨g.wm, fun a m => g2.mt a (.inl m)⟩, ⟨s2.env.len, fun i s hs => ?_, s2.env.ap⟩⟩
    obtain ⟨u, a1, b1⟩ := s2.env.at_ i s hs
    refine ⟨u, a1, ?_⟩
    cases s with
    | im d => exact Rep.anti (fun _ m => .inl m) d (Rep.ex xm d b1)
    | own ws =>
      obtain ⟨p2, vs2, rfl, w2, hp2', r2'⟩ := b1
      exact ⟨p2, vs2, rfl, w2, xt p2 _ (fun z => nW (by rw [← z]; exact w2)) hp2', RepO.anti (fun _ m => .inl m) ws (RepO.ex xm ws r2')⟩
  refine runX (kn := []) (ws := []) (ok.fnx hf) (ok.room.mono (by omega)) ok.hd ok.gd I hb hl2 rv ?_
  cases r with
  | im d => exact ⟨E0, takes_no fun _ _ _ _ z => z.2, Mp M p', fun a => a = p', _, _, _, hT, g0, E0', fun v H3 xt g2 E2 rr => k v H3 (st xt g2) (Rep.anti (fun _ m => .inl m) d rr)⟩
  | fr xs =>
    exact ⟨E0, takes_no fun _ _ _ _ z => z.2, Mp M p', fun a => a = p', _, _, _, hT, g0, E0', fun v H3 xt g2 E2 ⟨p3, us3, e, n3, hp3, r3⟩ => by
      subst e
      exact k _ H3 (st xt g2) ⟨p3, us3, rfl, fun m => g0.notM n3 (.inl m), hp3, Reps.anti (fun _ m => .inl (.inl m)) xs r3⟩⟩
  | ex x =>
    obtain ⟨Wx, tk, h⟩ := k
    exact ⟨fun cls d H' => Wx cls d σ H', tk.imp fun c d σ' H' ⟨e, z⟩ => e ▸ z, Mp M p', fun a => a = p', _, _, _, hT, g0, E0', fun dx H3 xt g2 E2 rx => h dx H3 (st xt g2) (rx.anti fun _ m => .inl m)⟩⟩
theorem s_callF (h : okE N sc (.callF f a as) (.Call (.Name g p) (x :: xs) [] pos) = true) (ha : SE U T lv md N sc a x) (hr : A2 (SE U T lv md N sc) as xs) : SE U T lv md N sc (.callF f a as) (.Call (.Name g p) (x :: xs) [] pos) := ⟨h, fun X ok hN hs tst δ r δ' he => by
  have h' : (decide (f = g) && (glB sc f && (okE N sc a x && okEs N sc as xs))) = true := h
  simp only [Bool.and_eq_true, decide_eq_true_eq] at h'
  obtain ⟨rfl, hg, _, _⟩ := h'
  obtain ⟨g1, g2⟩ := gl_of hg hs
  have hst : ∀ y ∈ x :: xs, isStar y = false := fun y hy => by
    rcases List.mem_cons.mp hy with rfl | hy
    · exact okE_star ha.ok
    · exact okEs_of hr y hy
  have hst1 := star_cons (env := X.env) (xs := xs) (okE_star ha.ok)
  refine s_fin (fun r δ' h => ?_) (fun _ => rfl) he
  split at h
  · rename_i hcal
    obtain ⟨fv, hm, hkp⟩ := call_keep ok hcal
    split at h
    · rename_i v δ1 h1
      cases h
      have j : JX X x δ v δ' := ha.je ok hN hs h1
      exact fun M W σ H Q g E k => we_callN (kn := []) g1 hm g2 hkp hst rfl (wA_of (pa_cons pe_w pa_w hst1) (j M W σ H _ g E k))
    · rename_i ls δ1 h1
      have tf : TF X x δ ls δ1 := ha.je ok hN hs h1
      rcases bA_some h with ⟨v, δ2, h3, h4⟩ | ⟨ds, δ2, h3, h4⟩
      · cases h4
        have j : JXA X xs δ1 v δ' := s_args ok hN hs hr h3
        exact fun M W σ H Q g E k => we_callN (kn := []) g1 hm g2 hkp hst rfl (wA_of (pa_cons pe_w pa_w hst1) (tr_fr tf M W σ H _ g E fun u H1 s1 r1 => j M W σ H1 _ s1.good s1.env (k.step s1)))
      · have ta : TA X xs δ1 ds δ2 := s_args ok hN hs hr h3
        split at h4
        · rename_i q hq
          obtain ⟨fc, hf, h4⟩ := Option.bind_eq_some_iff.mp h4
          split at h4
          · rename_i hpo
            obtain ⟨m1, m2⟩ := ok.wd.gf f q hq
            have m1' : X.mg f = some (.ref (U.ad q)) := by rw [ok.mg]; exact m1
            rw [← ok.K] at m2
            have fin : ∀ (r1 : Rz) (oc2 : OC) (rest : List S), T md q (.own (.lst ls) :: ds.map S.im) = some (r1, .own oc2 :: rest) → JE X (.Call (.Name f p) (x :: xs) [] pos) δ (lstR r1) δ2 := fun r1 oc2 rest hT => je_of fun M W σ H Q g E k =>
              we_callN (kn := []) g1 m1' g2 m2 hst rfl (wA_of (pa_cons pe_w pa_w hst1) (tf M W σ H _ g E fun p' us H1 s1 n hp1 r1 => ta (Mp M p') W σ H1 _ s1.good s1.env fun vs H2 s2 r2 => wK_of pk_nil (ck_fresh ok hf hpo hT g s1 n hp1 r1 s2 r2 k)))
            unfold frCall at h4
            split at h4
            · rename_i hT; cases h4; exact fin _ _ _ hT
            · rename_i hT; cases h4; exact fin _ _ _ hT
            · rename_i hT; cases h4; exact fin _ _ _ hT
            · cases h4
          · cases h4
        · cases h4
    · cases h
  · cases h⟩
/-! ### built-ins -/
theorem s_blt {bt : Bt} (h : okE N sc (.blt bt as) (.Call (.Name g p) xs [] pos) = true) (ha : A2 (SE U T lv md N sc) as xs) : SE U T lv md N sc (.blt bt as) (.Call (.Name g p) xs [] pos) := ⟨h, fun X ok hN hs tst δ r δ' he => by
  have h' : (decide (bt.nm = g) && (glB sc bt.nm && okEs N sc as xs)) = true := h
  simp only [Bool.and_eq_true, decide_eq_true_eq] at h'
  obtain ⟨rfl, hg, _⟩ := h'
  obtain ⟨g1, g2⟩ := gl_of hg hs
  have hst := okEs_of ha
  refine s_fin (fun r δ' h => ?_) (fun _ => rfl) he
  rcases bA_some h with ⟨v, δ1, h1, h2⟩ | ⟨ds, δ1, h1, h2⟩
  · cases h2
    have j : JXA X xs δ v δ' := s_args ok hN hs ha h1
    cases ha with
    | nil => cases h1
    | cons hd tl => exact fun M W σ H Q g E k => we_blt ok ca_no g1 hst (j M W σ H _ g E k)
  · obtain ⟨r', hr, e⟩ := Option.map_eq_some_iff.mp h2
    cases e
    exact blt_je ok g1 hst (s_args ok hN hs ha h1) (by rw [evs_len h1, ha.len]) hr⟩
theorem s_isT {t : Ty} (h : okE N sc (.isT a t) (.Call (.Name g p) [x, .Name m p2] [] pos) = true) (ha : SE U T lv md N sc a x) : SE U T lv md N sc (.isT a t) (.Call (.Name g p) [x, .Name m p2] [] pos) := ⟨h, fun X ok hN hs tst δ r δ' he => by
  have h' : (decide (g = "isinstance") && (glB sc "isinstance" && (okE N sc a x && (decide (m = t.nm) && glB sc t.nm)))) = true := h
  simp only [Bool.and_eq_true, decide_eq_true_eq] at h'
  obtain ⟨rfl, hg, _, rfl, hg2⟩ := h'
  have hst := okE_star ha.ok
  refine s_fin (fun r δ' h => ?_) (fun _ => rfl) he
  rcases bR_some h with ⟨v, δ1, h1, h2⟩ | ⟨r1, d1, δ1, h1, hd1, h2⟩
  · cases h2
    have j : JX X x δ v δ' := ha.je ok hN hs h1
    exact fun M W σ H Q g E k => wE_of (pe_callB (id := "isinstance") ca_no (gl_of hg hs).1 (by rw [ok.mg]; exact ok.wd.ni) (by decide +kernel) pa_w (by decide) (by decide) (star_cons hst) rfl) (wA_of (pa_cons pe_w pa_w (star_cons hst)) (j M W σ H _ g E k))
  · obtain ⟨k, hk, e⟩ := Option.map_eq_some_iff.mp h2
    cases e
    exact isT_tr ok (gl_of hg hs).1 (gl_of hg2 hs).1 hst ((ha.je ok hN hs h1).tr hd1) hk⟩
theorem s_isC {c : Str} (h : okE N sc (.isC a c) (.Call (.Name g p) [x, .Name m p2] [] pos) = true) (ha : SE U T lv md N sc a x) : SE U T lv md N sc (.isC a c) (.Call (.Name g p) [x, .Name m p2] [] pos) := ⟨h, fun X ok hN hs tst δ r δ' he => by
  have h' : (decide (g = "isinstance") && (glB sc "isinstance" && (okE N sc a x && (decide (m = c) && glB sc c)))) = true := h
  simp only [Bool.and_eq_true, decide_eq_true_eq] at h'
  obtain ⟨rfl, hg, _, rfl, hg2⟩ := h'
  have hst := okE_star ha.ok
  refine s_fin (fun r δ' h => ?_) (fun _ => rfl) he
  rcases bR_some h with ⟨v, δ1, h1, h2⟩ | ⟨r1, d1, δ1, h1, hd1, h2⟩
  · cases h2
    have j : JX X x δ v δ' := ha.je ok hN hs h1
    exact fun M W σ H Q g E k => wE_of (pe_callB (id := "isinstance") ca_no (gl_of hg hs).1 (by rw [ok.mg]; exact ok.wd.ni) (by decide +kernel) pa_w (by decide) (by decide) (star_cons hst) rfl) (wA_of (pa_cons pe_w pa_w (star_cons hst)) (j M W σ H _ g E k))
  · split at h2
    · rename_i B q hB
      obtain ⟨k, hk, e⟩ := Option.map_eq_some_iff.mp h2
      cases e
      exact isC_tr ok (gl_of hg hs).1 (gl_of hg2 hs).1 (gl_of hg2 hs).2 hst ((ha.je ok hN hs h1).tr hd1) hB hk
    · cases h2⟩
/-! ### attributes -/
theorem we_attX {σ : L2.St} {H : Hp} {Q : VK} (hb : notC0 x = true) (h : wE X x σ H fun _ _ => False) : wE X (.Attribute x f pos) σ H Q :=
  wE_of (pe_fld pe_w (attr_base hb)) (⟨fun pins s I => wpAny_mono (h.run pins s I) (fun u s' ⟨_, _, _, _, z⟩ => z.elim) fun _ _ z => z⟩)
theorem s_att (h : okE N sc (.att a f) (.Attribute x g pos) = true) (ha : SE U T lv md N sc a x) : SE U T lv md N sc (.att a f) (.Attribute x g pos) := ⟨h, fun X ok hN hs tst δ r δ' he => by
  have h' : (decide (f = g) && (okE N sc a x && notC0 x)) = true := h
  simp only [Bool.and_eq_true, decide_eq_true_eq] at h'
  obtain ⟨rfl, _, hb⟩ := h'
  refine s_fin (fun r δ' h => ?_) (fun _ => rfl) he
  rcases bR_some h with ⟨v, δ1, h1, h2⟩ | ⟨r1, d1, δ1, h1, hd1, h2⟩
  · cases h2
    have j : JX X x δ v δ' := ha.je ok hN hs h1
    exact fun M W σ H Q g E k => we_attX hb (j M W σ H _ g E k)
  · obtain ⟨r', hr, e⟩ := Option.map_eq_some_iff.mp h2
    cases e
    exact att_je ok ((ha.je ok hN hs h1).tr hd1) hr hb⟩
theorem s_attO {i : Nat} {n : Str} (h : okE N sc (.attO i f) (.Attribute (.Name n p) g pos) = true) : SE U T lv md N sc (.attO i f) (.Attribute (.Name n p) g pos) := ⟨h, fun X ok hN hs tst δ r δ' he => by
  have h' : (decide (f = g) && varB N sc i n) = true := h
  simp only [Bool.and_eq_true, decide_eq_true_eq] at h'
  obtain ⟨rfl, hv⟩ := h'
  obtain ⟨v1, v2, v3, v4⟩ := var_of hv hN hs
  refine s_fin (fun r δ' h => ?_) (fun _ => rfl) he
  split at h
  · split at h
    · rename_i A ns ds ho hfl
      obtain ⟨d, hd, e⟩ := Option.bind_eq_some_iff.mp h
      split at e
      · cases e
      · rename_i hme
        cases e
        obtain ⟨c, na⟩ := ok.wd.fld A f hfl
        rw [← ok.K] at c na
        exact tr_fldO c na ho hd (fun z => hme (by rw [z]; rfl)) v1 v2 v3 v4 (attr_base rfl)
    · cases h
  · cases h⟩
/-! ### subscripts -/
theorem we_subX {σ : L2.St} {H : Hp} {Q : VK} (hi : PlainIx y) (h : wE X x σ H fun _ H1 => wE X y σ H1 fun _ _ => False) : wE X (.Subscript x y pos) σ H Q :=
  wE_of (pe_ix ix_list pe_w pe_w hi) ⟨fun pins s I => wpAny_mono (h.run pins s I) (fun u s' ⟨v, H1, I1, rv, z⟩ => ⟨v, H1, I1, rv, ⟨fun pins s I => wpAny_mono (z.run pins s I) (fun u s' ⟨_, _, _, _, z⟩ => z.elim) fun _ _ z => z⟩⟩) fun _ _ z => z⟩
theorem s_sub (h : okE N sc (.sub a b) (.Subscript x y pos) = true) (ha : SE U T lv md N sc a x) (hb : SE U T lv md N sc b y) : SE U T lv md N sc (.sub a b) (.Subscript x y pos) := ⟨h, fun X ok hN hs tst δ r δ' he => by
  have hi := plainIx hb.ok
  refine s_fin (fun r δ' h => ?_) (fun _ => rfl) he
  rcases bR_some h with ⟨v, δ1, h1, h2⟩ | ⟨r1, d1, δ1, h1, hd1, h2⟩
  · cases h2
    have j : JX X x δ v δ' := ha.je ok hN hs h1
    exact fun M W σ H Q g E k => we_subX hi (j M W σ H _ g E k)
  · have ta := (ha.je ok hN hs h1).tr hd1
    rcases bR_some h2 with ⟨v, δ2, h3, h4⟩ | ⟨r2, d2, δ2, h3, hd2, h4⟩
    · cases h4
      have j : JX X y δ1 v δ' := hb.je ok hN hs h3
      exact fun M W σ H Q g E k => we_subX hi (ta M W σ H _ g E fun u H1 s1 r1 => j M W σ H1 _ s1.good s1.env (k.step s1))
    · obtain ⟨d, hd, e⟩ := Option.map_eq_some_iff.mp h4
      cases e
      have tb := (hb.je ok hN hs h3).tr hd2
      unfold subD at hd
      split at hd
      · obtain ⟨hc, hd⟩ := req_some hd
        obtain ⟨c, hat, e⟩ := Option.map_eq_some_iff.mp hd
        cases e
        exact fun M W σ H Q g E k => wE_of (pe_ix ix_str pe_w pe_w hi) (ta M W σ H _ g E fun u H1 s1 r1 => tb M W σ H1 _ s1.good s1.env fun v H2 s2 r2 => ⟨_, _, c, r1, r2, hc, hat, k _ H2 (s1.trans s2) rfl⟩)
      · exact tr_ixL ta tb hd hi
      · exact tr_ixT ta tb hd hi
      · cases hd⟩
theorem s_subO {i : Nat} {n : Str} (h : okE N sc (.subO i b) (.Subscript (.Name n p) y pos) = true) (hb : SE U T lv md N sc b y) : SE U T lv md N sc (.subO i b) (.Subscript (.Name n p) y pos) := ⟨h, fun X ok hN hs tst δ r δ' he => by
  have h' : (varB N sc i n && okE N sc b y) = true := h
  simp only [Bool.and_eq_true] at h'
  obtain ⟨v1, v2, v3, v4⟩ := var_of h'.1 hN hs
  have hi := plainIx hb.ok
  refine s_fin (fun r δ' h => ?_) (fun _ => rfl) he
  split at h
  · rename_i ho
    have ho : ∃ oc, δ[i]? = some (some (.own oc)) := by
      unfold isOwn at ho
      split at ho
      · rename_i oc e; exact ⟨oc, e⟩
      · cases ho
    obtain ⟨oc0, ho⟩ := ho
    rcases bR_some h with ⟨v, δ1, h1, h2⟩ | ⟨r1, d1, δ1, h1, hd1, h2⟩
    · cases h2
      have j : JX X y δ v δ' := hb.je ok hN hs h1
      exact fun M W σ H Q g E k => by
        obtain ⟨a0, us0, hs0, hw0, hp0, ru0⟩ := E.getO ho
        refine wE_of (pe_ix ix_list (pe_var v1 v2 v3 v4) pe_w hi) ⟨_, hs0, ?_⟩
        exact j M W σ H _ g E k
    · have tb := (hb.je ok hN hs h1).tr hd1
      split at h2
      · rename_i jx xs hx
        obtain ⟨d, hd, e⟩ := Option.map_eq_some_iff.mp h2
        cases e
        refine fun M W σ H Q g E k => ?_
        obtain ⟨a0, us0, hs0, hw0, hp0, ru0⟩ := E.getO ho
        refine wE_of (pe_ix ix_list (pe_var v1 v2 v3 v4) pe_w hi) ⟨_, hs0, tb M W σ H _ g E fun u H1 s1 r1 => ?_⟩
        obtain ⟨a1, us1, hs1, hw1, hp1, vs', rfl, r'⟩ := s1.env.getO hx
        rw [hs0] at hs1
        cases hs1
        obtain ⟨w', hw2, rw2⟩ := atI_map r' hd
        exact ⟨a0, vs', jx, w', rfl, r1, SqL.of hp1, hw2, k w' H1 s1 rw2⟩
      · cases h2
  · cases h⟩
theorem s_slL (h : okE N sc (.slL a b) (.Subscript x (.Slice (some y) none none p) pos) = true) (ha : SE U T lv md N sc a x) (hb : SE U T lv md N sc b y) : SE U T lv md N sc (.slL a b) (.Subscript x (.Slice (some y) none none p) pos) := ⟨h, fun X ok hN hs tst δ r δ' he => by
  refine s_fin (fun r δ' h => ?_) (fun _ => rfl) he
  split at h
  · rename_i r1 δ1 h1
    split at h
    · rename_i d1 hd1
      split at h
      · rename_i r2 δ2 h3
        split at h
        · rename_i K q ns i hd2
          obtain ⟨e, h⟩ := req_some h
          cases h
          have e' : K = X.K := by rw [e, ok.K, ok.wd.kk]
          subst e'
          exact tf_slLo ((ha.je ok hN hs h1).tr hd1) ((hb.je ok hN hs h3).tr hd2)
        · cases h
      · cases h
    · cases h
  · cases h⟩
theorem s_slH (h : okE N sc (.slH a b) (.Subscript x (.Slice none (some y) none p) pos) = true) (ha : SE U T lv md N sc a x) (hb : SE U T lv md N sc b y) : SE U T lv md N sc (.slH a b) (.Subscript x (.Slice none (some y) none p) pos) := ⟨h, fun X ok hN hs tst δ r δ' he => by
  refine s_fin (fun r δ' h => ?_) (fun _ => rfl) he
  split at h
  · rename_i r1 δ1 h1
    split at h
    · rename_i d1 hd1
      split at h
      · rename_i r2 δ2 h3
        split at h
        · rename_i K q ns i hd2
          obtain ⟨e, h⟩ := req_some h
          cases h
          have e' : K = X.K := by rw [e, ok.K, ok.wd.kk]
          subst e'
          exact tf_slHi ((ha.je ok hN hs h1).tr hd1) ((hb.je ok hN hs h3).tr hd2)
        · cases h
      · cases h
    · cases h
  · cases h⟩
/-! ### displays -/
theorem s_lst (h : okE N sc (.lst es) (.List xs pos) = true) (ha : A2 (SE U T lv md N sc) es xs) : SE U T lv md N sc (.lst es) (.List xs pos) := ⟨h, fun X ok hN hs tst δ r δ' he => by
  refine s_fin (fun r δ' h => ?_) (fun _ => rfl) he
  rcases bA_some h with ⟨v, δ1, h1, h2⟩ | ⟨ds, δ1, h1, h2⟩
  · cases h2
    have j : JXA X xs δ v δ' := s_args ok hN hs ha h1
    exact fun M W σ H Q g E k => wE_of (pe_lst pa_w) (j M W σ H _ g E k)
  · obtain ⟨hl, e⟩ := req_some h2
    cases e
    exact tf_lst (s_args ok hN hs ha h1) hl⟩
theorem s_tup {k : Nat} (h : okE N sc (.tup es) (.Tuple xs k pos) = true) (ha : A2 (SE U T lv md N sc) es xs) : SE U T lv md N sc (.tup es) (.Tuple xs k pos) := ⟨h, fun X ok hN hs tst δ r δ' he => by
  refine s_fin (fun r δ' h => ?_) (fun _ => rfl) he
  rcases bA_some h with ⟨v, δ1, h1, h2⟩ | ⟨ds, δ1, h1, h2⟩
  · cases h2
    have j : JXA X xs δ v δ' := s_args ok hN hs ha h1
    exact fun M W σ H Q g E k => wE_of (pe_tup pa_w) (j M W σ H _ g E k)
  · obtain ⟨hl, e⟩ := req_some h2
    cases e
    exact tr_tup (s_args ok hN hs ha h1) hl⟩
/-! ### f-strings -/
theorem s_tj (ok : XOk U T lv md X) (hN : X.N = N) (hs : X.env.scope = sc) : ∀ {es : List E} {xs : List Expr}, A2 (SE U T lv md N sc) es xs → ∀ {δ δ' : TL.Env} {ds : List D} {ts : List Str} {acc : Str}, evs U.G T md es δ = some (.inl ds, δ') → strD ds = some ts → catOk acc ts → TJ X xs acc δ (ts.foldl (· ++ ·) acc) δ'
  | _, _, .nil, δ, δ', ds, ts, acc, h, h1, h2 => by cases h; cases h1; exact tj_nil
  | _, _, .cons (a := e) (b := x) (as := es) (bs := xs) he hes, δ, δ', ds, ts, acc, h, h1, h2 => by
    simp only [evs] at h
    rcases bR_some h with ⟨y, δ1, h3, h4⟩ | ⟨r1, d, δ1, h3, hd, h4⟩
    · cases h4
    · have ta := (he.je ok hN hs h3).tr hd
      split at h4
      · cases h4
      · rename_i ds' δ2 h5
        cases h4
        cases d <;> first | (cases h1; done) | skip
        simp only [strD, Option.map_eq_some_iff] at h1
        obtain ⟨ts', h6, rfl⟩ := h1
        exact tj_cons ta h2.1 (s_tj ok hN hs hes h5 h6 h2.2)
      · cases h4
theorem s_fst (h : okE N sc (.fst es) (.JoinedStr xs pos) = true) (ha : A2 (SE U T lv md N sc) es xs) : SE U T lv md N sc (.fst es) (.JoinedStr xs pos) := ⟨h, fun X ok hN hs tst δ r δ' he => by
  refine s_fin (fun r δ' h' => ?_) (fun _ => rfl) he
  split at h'
  · rename_i ds δ1 h1
    obtain ⟨ts, ht, h'⟩ := Option.bind_eq_some_iff.mp h'
    obtain ⟨hc, e⟩ := req_some h'
    cases e
    have tj := s_tj ok hN hs ha h1 ht hc
    cases ha with
    | nil =>
      have : (okEs N sc ([] : List E) [] && decide (1 ≤ ([] : List Expr).length)) = true := h
      simp at this
    | cons hx hr =>
      cases hr with
      | nil =>
        simp only [evs] at h1
        rcases bR_some h1 with ⟨y, δ2, h3, h4⟩ | ⟨r1, d, δ2, h3, hd, h4⟩
        · cases h4
        · have ta := (hx.je ok hN hs h3).tr hd
          cases h4
          cases d <;> first | (cases ht; done) | skip
          cases ht
          show TR X _ δ (.str (Str.empty ++ _)) _
          rw [str_empty_app]
          exact tr_js1 ta
      | cons hy hr => exact tr_js tj
  · cases h'⟩
theorem s_fmt (h : okE N sc (.fmt a) (.FormattedValue x (-1) none pos) = true) (ha : SE U T lv md N sc a x) : SE U T lv md N sc (.fmt a) (.FormattedValue x (-1) none pos) := ⟨h, fun X ok hN hs tst δ r δ' he => by
  refine s_fin (fun r δ' h => ?_) (fun _ => rfl) he
  rcases bR_some h with ⟨v, δ1, h1, h2⟩ | ⟨r1, d1, δ1, h1, hd1, h2⟩
  · cases h2
    have j : JX X x δ v δ' := ha.je ok hN hs h1
    exact fun M W σ H Q g E k => wE_of (pe_fmt pe_w) (j M W σ H _ g E k)
  · have ta := (ha.je ok hN hs h1).tr hd1
    split at h2
    · obtain ⟨hc, e⟩ := req_some h2; cases e; exact tr_fmt ta hc
    · obtain ⟨hc, e⟩ := req_some h2; cases e; exact tr_fmtS ta hc
    · cases h2⟩
end
end RE
set_option Elab.async false
set_option linter.all false
set_option maxRecDepth 100000
set_option autoImplicit false
set_option maxHeartbeats 1000000
/-! REma: methods of own instances; displays of dicts. -/
namespace RE
open PySem PySem.Spec PyProof.Rows L2 TL
theorem back_all {env : PySem.Env} {pos : Pos} : ∀ {xs : List Expr}, (∀ x ∈ xs, isStar x = false) → (backTo pos (starEach xs env)).all (fun x => !x.1) = true
  | [], _ => rfl
  | x :: xs, h => by
    rw [star_cons (h x (List.mem_cons_self ..))]
    have ih := back_all (env := env) (pos := pos) (xs := xs) fun y hy => h y (List.mem_cons_of_mem _ hy)
    unfold backTo at ih ⊢
    simpa using ih
/-- o.m(..), o a name: the machine's text of the call -/
theorem meth_eq {env : PySem.Env} {nm m : Str} {p3 p2 pos : Pos} {xs : List Expr} {kn : List Str} {kws : List Keyword} (hs : ∀ x ∈ xs, isStar x = false) (hw : kwB kn kws = true) (hl : (p2.endLine == pos.line) = true) (hn : xs.length + kws.length < 20) :
    eval (.Call (.Attribute (.Name nm p3) m p2) xs kws pos) env = (do
      let ov ← eval (.Name nm p3) env
      standAt p2.atName
      let (f, first) ← holding [ov] (getMethod ov m (do return (← importBound (.Name nm p3) env).getD true))
      callWith pos f first (backTo pos (starEach xs env)) (backToKw pos (keywordEach kws env))) := by
  have few : methodCallForm (xs.length + kws.length) (backTo pos (starEach xs env)) (backToKw pos (keywordEach kws env)) = true := by
    unfold methodCallForm
    rw [back_all hs, (kw_all hw).1]
    simp only [Bool.true_and, decide_eq_true_eq]
    split <;> omega
  show (do
    let ov ← attributeBase (.Name nm p3) m env (eval (.Name nm p3) env)
    standAt p2.atName
    methodCall (.Name nm p3) m p2 pos env ov (xs.length + kws.length) (backTo pos (starEach xs env)) (backToKw pos (keywordEach kws env))) = _
  unfold methodCall
  simp only [few, methodCallPos, hl, calleeOf, Bool.not_true, Bool.false_or, if_true, pure_bind]
  rfl
section
variable {U : Sd} {T : Tb} {lv : Nat} {md : Md} {N : List Str} {sc : Scope} {X : Cx} {e a b c : E} {x y z w : Expr} {es as kv : List E} {xs ys : List Expr} {pos p p2 : Pos} {δ δ' : TL.Env} {f g : Str} {kn : List Str} {kws : List Keyword}
theorem ck_meth (ok : XOk U T lv md X) {q : Str} {n : Nat} {pt : Pat} {o : D} {ds es zd : List D} {r : Rz} {ss' : List S} {M W : Addr → Prop} {σ : L2.St} {H : Hp} {Q : VK} {vs ys : List V} {a0 : Addr} (hp : U.G.pat q (n + 1) kn = some pt) (ha : argsOf pt (o :: (ds ++ es)) = some zd) (hT : T md q (zd.map S.im) = some (r, ss')) (hn : ds.length = n) (hk : es.length = kn.length) (g : TL.Good M W H) (ro : Rep M H o (.ref a0)) (r1 : Reps M H ds vs) (r2 : Reps M H es ys) (pc : PC X M σ H Q r) :
    CK X (.ref (U.ad q)) [.ref a0] kn σ vs ys H Q := ⟨fun pins s us ws I rv rz => by
  obtain ⟨f, hf, qv, pv, hpl, hb⟩ := ok.wd.bn q (n + 1) kn pt hp
  have rall : Reps M H (o :: (ds ++ es)) (.ref a0 :: (vs ++ ys)) := ⟨_, _, rfl, ro, Reps.app r1 r2⟩
  have vall : Vals (.ref a0 :: (vs ++ ys)) (.ref a0 :: (us ++ ws)) := .cons rfl (rv.append rz)
  obtain ⟨zv, zu, e1, e2, e3⟩ := pick_of pv ha rall vall
  have hb' := hb s (.ref a0 :: us) ws zu (by rw [← ok.K]; exact I.kIn) (by rw [List.length_cons, ← rv.length, r1.len, hn]) (by rw [← rz.length, r2.len]; exact hk) e1
  exact runX (us := .ref a0 :: us) (ok.fnx hf) (ok.room.mono (by omega)) ok.hd ok.gd I hb' (by rw [e3.len, args_len ha, hpl]) e2 (spK_of hT g e3 pc)⟩
theorem s_meth {nm m m' : Str} {p3 : Pos} (h : okE N sc (.meth a m as kn kv) (.Call (.Attribute (.Name nm p3) m' p2) xs kws pos) = true) (ho : SE U T lv md N sc a (.Name nm p3)) (ha : A2 (SE U T lv md N sc) as xs) (hk : A2 (SE U T lv md N sc) kv (kws.map (·.value))) : SE U T lv md N sc (.meth a m as kn kv) (.Call (.Attribute (.Name nm p3) m' p2) xs kws pos) := ⟨h, fun X ok hN hs tst δ r δ' he => by
  have h' : ((decide (m = m') && ((p2.endLine == pos.line) && decide (xs.length + kws.length < 20))) && (okE N sc a (.Name nm p3) && (isNameE (.Name nm p3) && (okEs N sc as xs && (kwB kn kws && okEs N sc kv (kws.map (·.value))))))) = true := h
  rw [Bool.and_eq_true, Bool.and_eq_true, Bool.and_eq_true, Bool.and_eq_true, Bool.and_eq_true, Bool.and_eq_true, Bool.and_eq_true] at h'
  obtain ⟨⟨hm', hl, hn⟩, _, _, _, hw, _⟩ := h'
  have hm' := of_decide_eq_true hm'
  have hn := of_decide_eq_true hn
  subst hm'
  have hst := okEs_of ha
  refine s_fin (fun r δ' h => ?_) (fun _ => rfl) he
  have run : ∀ {σ : L2.St} {H : Hp} {Q : VK}, wE X (.Name nm p3) σ H (fun v H1 => ∃ A dx fs a0 f, v = .ref a0 ∧ H1 a0 = some (.ins A dx fs) ∧ fs.lookup m = none ∧ Cls X.K A ∧ Meth X.K A m f ∧ wA X xs σ H1 fun vs H2 => wK X kws σ H2 fun zs H3 => CK X (.ref f) [.ref a0] kn σ vs zs H3 Q) → wE X (.Call (.Attribute (.Name nm p3) m p2) xs kws pos) σ H Q := fun {σ H Q} z => ⟨fun pins s I => by
    refine PySem.W.methodCall_KW (thn (z.run pins s I) fun u s1 ⟨v, H1, I1, rx, A, dx, fs, a0, fa, ev, ea, hl, c, hm, q⟩ => ?_) (meth_eq hst hw hl hn)
    subst ev
    obtain rfl : u = Value.ref a0 := rx
    exact getmeth_ok I1 ea c hm hl (callW hm.kp hst hw I1 q)⟩
  rcases bR_some h with ⟨v, δ1, h1, h2⟩ | ⟨r1, d1, δ1, h1, hd1, h2⟩
  · cases h2
    have j : JX X (.Name nm p3) δ v δ' := ho.je ok hN hs h1
    exact fun M W σ H Q g E k => run (j M W σ H _ g E k)
  · have to := (ho.je ok hN hs h1).tr hd1
    split at h2
    · rename_i hm
      unfold hasM at hm
      split at hm
      · rename_i A ns zs
        rw [Bool.and_eq_true, Option.isSome_iff_exists, Option.isNone_iff_eq_none] at hm
        obtain ⟨⟨q, hq⟩, hno⟩ := hm
        obtain ⟨c, hmt⟩ := ok.wd.meth A m q hq
        rw [← ok.K] at c hmt
        have go : ∀ {M W : Addr → Prop} {σ : L2.St} {H : Hp} {Q : VK}, TL.Good M W H → EnvR M W H σ δ → (∀ a0 H1, Stp M W σ δ1 H H1 → Rep M H1 (.ins A ns zs) (.ref a0) → wA X xs σ H1 fun vs H2 => wK X kws σ H2 fun ws H3 => CK X (.ref (U.ad q)) [.ref a0] kn σ vs ws H3 Q) → wE X (.Call (.Attribute (.Name nm p3) m p2) xs kws pos) σ H Q := fun {M W σ H Q} g E z =>
          run (to M W σ H _ g E fun v H1 s1 r0 => by
            obtain ⟨a0, dx, vs, rfl, m0, ha0, rf⟩ := id r0
            exact ⟨A, dx, _, a0, _, rfl, ha0, look_zipN rf hno, c, hmt, z a0 H1 s1 r0⟩)
        rcases bA_some h2 with ⟨v, δ2, h3, h4⟩ | ⟨ds, δ2, h3, h4⟩
        · cases h4
          have j : JXA X xs δ1 v δ' := s_args ok hN hs ha h3
          exact fun M W σ H Q g E k => go g E fun a0 H1 s1 r0 => j M W σ H1 _ s1.good s1.env (k.step s1)
        · have ta : TA X xs δ1 ds δ2 := s_args ok hN hs ha h3
          rcases bA_some h4 with ⟨v, δ3, h5, h6⟩ | ⟨ks, δ3, h5, h6⟩
          · cases h6
            have j : JXK X kws δ2 v δ' := s_kws ok hN hs hk h5
            exact fun M W σ H Q g E k => go g E fun a0 H1 s1 r0 => ta M W σ H1 _ s1.good s1.env fun vs H2 s2 r2 => j M W σ H2 _ s2.good s2.env (k.step (s1.trans s2))
          · have tk : TK X kws δ2 ks δ3 := s_kws ok hN hs hk h5
            obtain ⟨r', hr, e⟩ := Option.map_eq_some_iff.mp h6
            cases e
            unfold methCall at hr
            obtain ⟨q', hq', hr⟩ := Option.bind_eq_some_iff.mp hr
            rw [hq] at hq'
            cases hq'
            obtain ⟨pt, hpt, hr⟩ := Option.bind_eq_some_iff.mp hr
            obtain ⟨zd, hzd, hr⟩ := Option.bind_eq_some_iff.mp hr
            obtain ⟨⟨r2, ss'⟩, hT, e⟩ := Option.map_eq_some_iff.mp hr
            cases e
            refine je_of fun M W σ H Q g E k => go g E fun a0 H1 s1 r0 => ta M W σ H1 _ s1.good s1.env fun vs H2 s2 r2 => tk M W σ H2 _ s2.good s2.env fun ws H3 s3 r3 => ?_
            exact ck_meth ok hpt hzd hT (evs_len h3) (by rw [evs_len h5, hk.len, List.length_map, kw_len hw]) s3.good (s3.rep (s2.rep r0)) (s3.reps r2) r3 (KE.pc ((s1.trans s2).trans s3) g k)
      · cases hm
    · cases h2⟩
/-! ### {k: v, ..} -/
theorem pps_of : ∀ {ks : List Str} {kx : List (Option Expr)} {zs : List Expr} {es : List E}, dctB ks kx = true → A2 (SE U T lv md N sc) es zs → ks.length = es.length → kx.length = zs.length → PPs X pos kx zs ((ks.zip zs).map fun kz => ((fun _ H Q => Q (.str kz.1) H : TE), fun σ H Q => wE X kz.2 σ H Q))
  | [], [], [], [], _, .nil, _, _ => pps_nil
  | k :: ks, kk :: kx, z :: zs, e :: es, h, .cons he hes, hl, hl2 => by
    match kk, h with
    | some (.Constant (.str j) kd kp), h =>
      have h' : (decide (k = j) && dctB ks kx) = true := h
      rw [Bool.and_eq_true] at h'
      have e1 := of_decide_eq_true h'.1
      subst e1
      exact pps_cons pe_str pe_w (pps_of h'.2 hes (by simpa using hl) (by simpa using hl2))
  | [], _ :: _, _, _, h, _, _, _ => by cases h
  | [], [], _ :: _, _, _, _, _, h => by cases h
  | _ :: _, [], _, _, h, _, _, _ => by cases h
  | _ :: _, _ :: _, [], _, _, _, _, h => by cases h
end
end RE
set_option Elab.async false
set_option linter.all false
set_option maxRecDepth 100000
set_option autoImplicit false
set_option maxHeartbeats 1000000
/-! REmb: displays of dicts. -/
namespace RE
open PySem PySem.Spec PyProof.Rows L2 TL
theorem put_new {kvs : List (Key × V)} {k : Key} {v : V} (h : k ∉ kvs.map (·.1)) : putK kvs k v = kvs ++ [(k, v)] := by
  unfold putK
  rw [if_neg]
  intro z
  obtain ⟨x, hx, e⟩ := List.any_eq_true.mp z
  exact h (List.mem_map.mpr ⟨x, hx, of_decide_eq_true e⟩)
theorem merge_new : ∀ (more acc : List (Key × V)), ((acc ++ more).map (·.1)).Nodup → mergeK acc more = acc ++ more
  | [], acc, _ => by simp [mergeK]
  | (k, v) :: more, acc, h => by
    have hk : k ∉ acc.map (·.1) := fun z => by
      rw [List.map_append, List.nodup_append] at h
      exact h.2.2 k z k (by simp) rfl
    show mergeK (putK acc k v) more = _
    rw [put_new hk, merge_new more (acc ++ [(k, v)]) (by simpa using h)]
    simp
theorem merge_ks {ks : List Str} {vs : List V} (hn : ks.Nodup) (hl : vs.length = ks.length) : mergeK [] ((ks.map Sum.inr).zip vs) = (ks.map Sum.inr).zip vs := by
  rw [merge_new _ [] ?_]
  · rfl
  · rw [List.nil_append, List.map_fst_zip (by rw [List.length_map]; omega)]
    exact List.Pairwise.map Sum.inr (fun a b h z => h (Sum.inr.inj z)) hn
section
variable {U : Sd} {T : Tb} {lv : Nat} {md : Md} {N : List Str} {sc : Scope} {X : Cx} {e a b c : E} {x y z w : Expr} {es as kv : List E} {xs ys : List Expr} {pos p p2 : Pos} {δ δ' : TL.Env} {f g : Str} {kn : List Str} {kws : List Keyword}
abbrev pTs (X : Cx) (ks : List Str) (zs : List Expr) : List (TE × TE) := (ks.zip zs).map fun kz => ((fun _ H Q => Q (.str kz.1) H : TE), fun σ H Q => wE X kz.2 σ H Q)
theorem pairs_run (ok : XOk U T lv md X) (hN : X.N = N) (hs : X.env.scope = sc) : ∀ {es : List E} {zs : List Expr} {ks : List Str}, A2 (SE U T lv md N sc) es zs → ks.length = es.length → ∀ {δ δ1 : TL.Env} {ds : List D}, evs U.G T md es δ = some (.inl ds, δ1) →
    ∀ (M W : Addr → Prop) (σ : L2.St) (H : Hp) (Q : List (V × V) → Hp → Prop), TL.Good M W H → EnvR M W H σ δ → (∀ vs H', Stp M W σ δ1 H H' → Reps M H' ds vs → Q ((ks.zip vs).map fun kv => (V.str kv.1, kv.2)) H') → tPairs (pTs X ks zs) σ H Q
  | _, _, [], .nil, _, δ, δ1, ds, h, M, W, σ, H, Q, g, E, k => by
    cases h
    exact k [] H (Stp.refl g E) rfl
  | _, _, _ :: _, .nil, hl, _, _, _, _, _, _, _, _, _, _, _, _ => by simp at hl
  | _, _, [], .cons _ _, hl, _, _, _, _, _, _, _, _, _, _, _, _ => by simp at hl
  | _, _, k0 :: ks, .cons (a := e) (b := z) (as := es) (bs := zs) he hes, hl, δ, δ1, ds, h, M, W, σ, H, Q, g, E, k => by
    simp only [evs] at h
    rcases bR_some h with ⟨v, δ2, h1, h2⟩ | ⟨r1, d, δ2, h1, hd, h2⟩
    · cases h2
    · have ta := (he.je ok hN hs h1).tr hd
      split at h2
      · cases h2
      · rename_i ds' δ3 h3
        cases h2
        show wE X z σ H _
        refine ta M W σ H _ g E fun v H1 s1 r1 => pairs_run ok hN hs hes (by simpa using hl) h3 M W σ H1 _ s1.good s1.env fun vs H2 s2 r2 => ?_
        exact k (v :: vs) H2 (s1.trans s2) ⟨v, vs, rfl, s2.rep r1, r2⟩
      · cases h2
theorem pairs_ex (ok : XOk U T lv md X) (hN : X.N = N) (hs : X.env.scope = sc) : ∀ {es : List E} {zs : List Expr} {ks : List Str}, A2 (SE U T lv md N sc) es zs → ks.length = es.length → ∀ {δ δ1 : TL.Env} {v : Xn}, evs U.G T md es δ = some (.inr v, δ1) →
    ∀ (M W : Addr → Prop) (σ : L2.St) (H : Hp) (Q : List (V × V) → Hp → Prop), TL.Good M W H → EnvR M W H σ δ → Kx X M W σ H δ1 v → tPairs (pTs X ks zs) σ H Q
  | _, _, _, .nil, _, _, _, _, h, _, _, _, _, _, _, _, _ => by cases h
  | _, _, [], .cons _ _, hl, _, _, _, _, _, _, _, _, _, _, _, _ => by simp at hl
  | _, _, k0 :: ks, .cons (a := e) (b := z) (as := es) (bs := zs) he hes, hl, δ, δ1, v, h, M, W, σ, H, Q, g, E, k => by
    simp only [evs] at h
    rcases bR_some h with ⟨v', δ2, h1, h2⟩ | ⟨r1, d, δ2, h1, hd, h2⟩
    · cases h2
      have j : JX X z δ v δ1 := he.je ok hN hs h1
      exact j M W σ H _ g E k
    · have ta := (he.je ok hN hs h1).tr hd
      split at h2
      · rename_i v' δ3 h3
        cases h2
        exact ta M W σ H _ g E fun u H1 s1 r1 => pairs_ex ok hN hs hes (by simpa using hl) h3 M W σ H1 _ s1.good s1.env (k.step s1)
      · cases h2
      · cases h2
theorem dct_len : ∀ {ks : List Str} {kx : List (Option Expr)}, dctB ks kx = true → kx.length = ks.length ∧ kx.all (·.isSome) = true
  | [], [], _ => ⟨rfl, rfl⟩
  | [], _ :: _, h => by cases h
  | _ :: _, [], h => by cases h
  | k :: ks, kk :: kx, h => by
    match kk, h with
    | some (.Constant (.str j) kd kp), h =>
      have h' : (decide (k = j) && dctB ks kx) = true := h
      rw [Bool.and_eq_true] at h'
      obtain ⟨h1, h2⟩ := dct_len h'.2
      exact ⟨by simp [h1], by simp [h2]⟩
theorem s_dct {ks : List Str} {kx : List (Option Expr)} (h : okE N sc (.dct ks es) (.Dict kx ys pos) = true) (ha : A2 (SE U T lv md N sc) es ys) : SE U T lv md N sc (.dct ks es) (.Dict kx ys pos) := ⟨h, fun X ok hN hs tst δ r δ' he => by
  have h' : ((dctB ks kx && decide (ks.length = es.length ∧ ks.length ≤ 15)) && okEs N sc es ys) = true := h
  rw [Bool.and_eq_true, Bool.and_eq_true] at h'
  obtain ⟨⟨hd, hl⟩, _⟩ := h'
  obtain ⟨hl, h15⟩ := of_decide_eq_true hl
  obtain ⟨dl, da⟩ := dct_len hd
  refine s_fin (fun r δ' h => ?_) (fun _ => rfl) he
  -- the new dict stands, empty, ahead of the values
  have new : ∀ {M W : Addr → Prop} {σ : L2.St} {H : Hp} {p : Addr}, TL.Good M W H → EnvR M W H σ δ → H p = none → TL.Good (Mp M p) W (upd H p (.dK [])) ∧ EnvR (Mp M p) W (upd H p (.dK [])) σ δ := fun {M W σ H p} g E n => by
    refine ⟨⟨fun a z => .inl (g.wm a z), fun a m z => ?_⟩, (E.gr (mp_gr n)).ext (ext_new n)⟩
    rcases m with m | m
    · exact (g.new n).mt a m z
    · rw [m, upd_same] at z; cases z
  rcases bA_some h with ⟨v, δ1, h1, h2⟩ | ⟨ds, δ1, h1, h2⟩
  · cases h2
    cases ha with
    | nil => cases h1
    | cons he' hes' =>
      have pp : PPs X pos kx (_ :: _) _ := pps_of hd (.cons he' hes') hl (by rw [dl, hl, (A2.cons he' hes').len])
      refine fun M W σ H Q g E k => wE_of (pe_disp pp da (by rw [dl, hl, (A2.cons he' hes').len]) (fun z => by rw [z] at dl; simp at dl; rw [← dl] at hl; simp at hl) (by omega)) fun p n => ?_
      have st : Stp M W σ δ H (upd H p (.dK [])) := ⟨Xt.of (ext_new n), g.new n, E.ext (ext_new n)⟩
      exact pairs_ex ok hN hs (.cons he' hes') hl h1 M W σ _ _ st.good st.env (k.step st)
  · obtain ⟨⟨_, hlen, hnd⟩, e⟩ := req_some h2
    cases e
    cases ha with
    | nil =>
      cases h1
      have e1 : ks = [] := List.length_eq_zero_iff.mp hl
      subst e1
      have e2 : kx = [] := List.length_eq_zero_iff.mp dl
      subst e2
      refine fun M W σ H Q g E k => wE_of pe_dnewK fun p n => ?_
      have st : Stp M W σ δ H (upd H p (.dK [])) := ⟨Xt.of (ext_new n), g.new n, E.ext (ext_new n)⟩
      exact k _ _ st ⟨p, [], rfl, g.notM n, .inl upd_same, rfl, rfl⟩
    | cons he' hes' =>
      have pp : PPs X pos kx (_ :: _) _ := pps_of hd (.cons he' hes') hl (by rw [dl, hl, (A2.cons he' hes').len])
      refine fun M W σ H Q g E k => wE_of (pe_disp pp da (by rw [dl, hl, (A2.cons he' hes').len]) (fun z => by rw [z] at dl; simp at dl; rw [← dl] at hl; simp at hl) (by omega)) fun p n => ?_
      obtain ⟨g1, E1⟩ := new g E n
      refine pairs_run ok hN hs (.cons he' hes') hl h1 (Mp M p) W σ _ _ g1 E1 fun vs H2 s2 r2 => ?_
      have nW : ¬ W p := fun z => g.notM n (g.wm p z)
      have hp2 : H2 p = some (.dK []) := s2.xt p _ nW upd_same
      have hvl : vs.length = ks.length := by rw [r2.len, hlen]
      refine ⟨hp2, (ks.map Sum.inr).zip vs, ?_, by rw [List.length_zip, List.length_map]; omega, ?_⟩
      · rw [List.zip_map_left, List.map_map]
        rfl
      · rw [merge_ks hnd hvl]
        have X3 : Xt (Mp M p) H2 (upd H2 p (.dK ((ks.map Sum.inr).zip vs))) := fun a o m q => by rw [upd_ne (fun z => m (.inr z))]; exact q
        have ex : Xt W H (upd H2 p (.dK ((ks.map Sum.inr).zip vs))) := fun a o nw q => by
          have ne : a ≠ p := fun z => by rw [z, n] at q; cases q
          rw [upd_ne ne]
          exact s2.xt a o nw (ext_new n a o q)
        have g3 : TL.Good M W (upd H2 p (.dK ((ks.map Sum.inr).zip vs))) := ⟨g.wm, fun a m => s2.good.put.mt a (.inl m)⟩
        refine k _ _ ⟨ex, g3, ?_⟩ ⟨p, vs, rfl, g.notM n, .inl upd_same, hlen, Reps.anti (fun _ m => .inl m) _ (Reps.ex X3 _ r2)⟩
        have E2 := s2.env
        refine ⟨E2.len, fun i s q => ?_, E2.ap⟩
        obtain ⟨u, hu, ru⟩ := E2.at_ i s q
        refine ⟨u, hu, ?_⟩
        cases s with
        | im d => exact Rep.anti (fun _ m => .inl m) d (Rep.ex X3 d ru)
        | own oc =>
          obtain ⟨p', ho, rfl, hw, hp', ro⟩ := ru
          have ne : p' ≠ p := fun z => nW (z ▸ hw)
          exact ⟨p', ho, rfl, hw, by rw [upd_ne ne]; exact hp', RepO.anti (fun _ m => .inl m) oc (RepO.ex X3 oc ro)⟩⟩
end
end RE
set_option Elab.async false
set_option linter.all false
set_option maxRecDepth 100000
set_option autoImplicit false
set_option maxHeartbeats 1000000
/-! REn: and, or; what is walked; comprehensions. -/
namespace RE
open PySem PySem.Spec PyProof.Rows L2 TL
/-! ### and, or -/
/-- what is wanted of a test's answer -/
def KT (X : Cx) (M W : Addr → Prop) (σ : L2.St) (H : Hp) (Q : Bool → Hp → Prop) (r : Rz) (δ' : TL.Env) : Prop :=
  match r with
  | .im (.bl b) => ∀ H', Stp M W σ δ' H H' → Q b H'
  | .ex x => Kx X M W σ H δ' x
  | _ => True
def bo : Bool → BoolOp
  | true => .And
  | false => .Or
def JW (X : Cx) (e : Expr) (δ : TL.Env) : Rz → TL.Env → Prop
  | .im (.bl b), δ' => TW X e δ b δ'
  | .ex x, δ' => ∀ (M W : Addr → Prop) (σ : L2.St) (H : Hp) (Q : Bool → Hp → Prop), Good M W H → EnvR M W H σ δ → Kx X M W σ H δ' x → wW X e σ H Q
  | _, _ => True
theorem JW.jt {X : Cx} {e : Expr} {δ : TL.Env} {r : Rz} {δ' : TL.Env} (h : JW X e δ r δ') : JT X e δ r δ' := by
  cases r with
  | im d => cases d <;> first | exact trivial | exact tt_w h
  | fr xs => exact trivial
  | ex x => exact fun M W σ H Q g E k => wT_of (PW.pt pw_w) (h M W σ H Q g E k)
section
variable {U : Sd} {T : Tb} {lv : Nat} {md : Md} {N : List Str} {sc : Scope} {X : Cx} {e a b c : E} {x y z w : Expr} {es as kv : List E} {xs ys : List Expr} {pos p p2 p3 : Pos} {δ δ' : TL.Env} {f g m : Str} {kn : List Str} {kws : List Keyword}
theorem s_bopV (ok : XOk U T lv md X) (hN : X.N = N) (hs : X.env.scope = sc) {isAnd : Bool} : ∀ {es : List E} {xs : List Expr}, A2 (SE U T lv md N sc) es xs → ∀ {δ δ' : TL.Env} {r : Rz}, ebs U.G T md false isAnd es δ = some (r, δ') → JE X (.BoolOp (bo isAnd) xs pos) δ r δ'
  | _, _, .nil, δ, δ', r, h => by cases h
  | _, _, .cons (a := e) (b := x) (as := es) (bs := xs) he hes, δ, δ', r, h => by
    cases hes with
    | nil =>
      rcases bB_some (show bB (ee U.G T md false e δ) _ = _ from h) with ⟨v, δ1, h1, h2⟩ | ⟨k, δ1, h1, h2⟩
      · cases h2
        have j : JX X x δ v δ' := he.je ok hN hs h1
        exact fun M W σ H Q g E k => wE_of (pe_one pe_w) (j M W σ H Q g E k)
      · cases h2
        exact tr_one (he.je ok hN hs h1)
    | cons he2 hes2 =>
      rename_i e2 y es2 ys
      rcases bB_some (show bB (ee U.G T md false e δ) _ = _ from h) with ⟨v, δ1, h1, h2⟩ | ⟨k, δ1, h1, h2⟩
      · cases h2
        have j : JX X x δ v δ' := he.je ok hN hs h1
        cases isAnd with
        | true => exact fun M W σ H Q g E k => wE_of (pe_and pe_w pe_w) (j M W σ H _ g E k)
        | false => exact fun M W σ H Q g E k => wE_of (pe_or pe_w pe_w) (j M W σ H _ g E k)
      · have ta : TR X x δ (.bl k) δ1 := he.je ok hN hs h1
        refine je_of fun M W σ H Q g E kk => ?_
        cases isAnd with
        | true =>
          refine wE_of (pe_and pe_w pe_w) (ta M W σ H _ g E fun u H1 s1 r1 => ⟨k, r1, ?_⟩)
          cases k with
          | true =>
            rw [if_pos rfl] at h2 ⊢
            exact (s_bopV ok hN hs (isAnd := true) (.cons he2 hes2) h2).ke M W σ H1 Q s1.good s1.env (KE.step s1 g kk)
          | false =>
            rw [if_neg Bool.false_ne_true]
            cases h2
            exact kk _ H1 s1 rfl
        | false =>
          refine wE_of (pe_or pe_w pe_w) (ta M W σ H _ g E fun u H1 s1 r1 => ⟨k, r1, ?_⟩)
          cases k with
          | true =>
            rw [if_pos rfl]
            cases h2
            exact kk _ H1 s1 rfl
          | false =>
            rw [if_neg Bool.false_ne_true]
            rw [if_pos rfl] at h2
            exact (s_bopV ok hN hs (isAnd := false) (.cons he2 hes2) h2).ke M W σ H1 Q s1.good s1.env (KE.step s1 g kk)
theorem s_bopT (ok : XOk U T lv md X) (hN : X.N = N) (hs : X.env.scope = sc) {isAnd : Bool} : ∀ {es : List E} {xs : List Expr}, A2 (SE U T lv md N sc) es xs → ∀ {δ δ' : TL.Env} {r : Rz}, ebs U.G T md true isAnd es δ = some (r, δ') → ∀ (M W : Addr → Prop) (σ : L2.St) (H : Hp) (Q : Bool → Hp → Prop), Good M W H → EnvR M W H σ δ →
    KT X M W σ H Q r δ' → (∃ b, r = .im (.bl b)) ∨ (∃ v, r = .ex v) → wW X (.BoolOp (bo isAnd) xs pos) σ H Q
  | _, _, .nil, δ, δ', r, h => by cases h
  | _, _, .cons (a := e) (b := x) (as := es) (bs := xs) he hes, δ, δ', r, h => by
    intro M W σ H Q g E kk hr
    cases hes with
    | nil =>
      rcases bB_some (show bB (ee U.G T md true e δ) _ = _ from h) with ⟨v, δ1, h1, h2⟩ | ⟨k, δ1, h1, h2⟩
      · cases h2
        have j : JXT X x δ v δ' := he.jt ok hN hs h1
        cases isAnd with
        | true => exact wW_of (pw_and1 pt_w) (j M W σ H Q g E kk)
        | false => exact wW_of (pw_or1 pt_w) (j M W σ H Q g E kk)
      · cases h2
        have j : TT X x δ k δ' := he.jt ok hN hs h1
        cases isAnd with
        | true => exact wW_of (pw_and1 pt_w) (j M W σ H Q g E kk)
        | false => exact wW_of (pw_or1 pt_w) (j M W σ H Q g E kk)
    | cons he2 hes2 =>
      rename_i e2 y es2 ys
      have stp : ∀ {δ1 : TL.Env} {H1 : Hp}, Stp M W σ δ1 H H1 → KT X M W σ H1 Q r δ' := fun s1 => by
        rcases hr with ⟨b, rfl⟩ | ⟨v, rfl⟩
        · exact fun H' s' => kk H' (s1.trans s')
        · exact Kx.step s1 kk
      rcases bB_some (show bB (ee U.G T md true e δ) _ = _ from h) with ⟨v, δ1, h1, h2⟩ | ⟨k, δ1, h1, h2⟩
      · cases h2
        have j : JXT X x δ v δ' := he.jt ok hN hs h1
        cases isAnd with
        | true => exact wW_of (pw_and pt_w pw_w) (j M W σ H _ g E kk)
        | false => exact wW_of (pw_or pt_w pw_w) (j M W σ H _ g E kk)
      · have ta : TT X x δ k δ1 := he.jt ok hN hs h1
        cases isAnd with
        | true =>
          refine wW_of (pw_and pt_w pw_w) (ta M W σ H _ g E fun H1 s1 => ?_)
          cases k with
          | true =>
            rw [if_pos rfl] at h2 ⊢
            exact s_bopT ok hN hs (isAnd := true) (.cons he2 hes2) h2 M W σ H1 Q s1.good s1.env (stp s1) hr
          | false =>
            rw [if_neg Bool.false_ne_true]
            cases h2
            exact kk H1 s1
        | false =>
          refine wW_of (pw_or pt_w pw_w) (ta M W σ H _ g E fun H1 s1 => ?_)
          cases k with
          | true =>
            rw [if_pos rfl]
            cases h2
            exact kk H1 s1
          | false =>
            rw [if_neg Bool.false_ne_true]
            rw [if_pos rfl] at h2
            exact s_bopT ok hN hs (isAnd := false) (.cons he2 hes2) h2 M W σ H1 Q s1.good s1.env (stp s1) hr
theorem s_bop {isAnd : Bool} (h : okE N sc (.bop isAnd es) (.BoolOp (bo isAnd) xs pos) = true) (ha : A2 (SE U T lv md N sc) es xs) : SE U T lv md N sc (.bop isAnd es) (.BoolOp (bo isAnd) xs pos) := ⟨h, fun X ok hN hs tst δ r δ' he => by
  cases tst with
  | false => exact s_bopV ok hN hs ha he
  | true =>
    refine JW.jt ?_
    have key := s_bopT (pos := pos) ok hN hs ha (show ebs U.G T md true isAnd es δ = some (r, δ') from he)
    cases r with
    | im d => cases d <;> first | exact trivial | (exact fun M W σ H Q g E k => key M W σ H Q g E k (.inl ⟨_, rfl⟩))
    | fr xs => exact trivial
    | ex v => exact fun M W σ H Q g E k => key M W σ H Q g E k (.inr ⟨v, rfl⟩)⟩

/-! ### what is walked -/
structure Wk (ds : List D) (vs : List V) (xs : List D) (J : It) : Prop where
  go : ∀ (M W : Addr → Prop) (H : Hp) (i : Nat) (d : D), Good M W H → Reps M H ds vs → xs[i]? = some d → J.go i H ∧ ∀ x H', J.yld i H x H' → (∀ a o, H a = some o → H' a = some o) ∧ Rep M H' d x
  stop : ∀ (M W : Addr → Prop) (H : Hp), Good M W H → Reps M H ds vs → J.stop xs.length H
def JI (X : Cx) (tg it : Expr) (δ : TL.Env) (ds xs : List D) (δ1 : TL.Env) : Prop := ∃ wi : TI, PI X tg it wi ∧ ∀ (M W : Addr → Prop) (σ : L2.St) (H : Hp) (R : It → Hp → Prop), Good M W H → EnvR M W H σ δ →
  (∀ J vs H1, Stp M W σ δ1 H H1 → Reps M H1 ds vs → Wk ds vs xs J → R J H1) → wi σ H R
def JXI (X : Cx) (tg it : Expr) (δ : TL.Env) (v : Xn) (δ1 : TL.Env) : Prop := ∃ wi : TI, PI X tg it wi ∧ ∀ (M W : Addr → Prop) (σ : L2.St) (H : Hp) (R : It → Hp → Prop), Good M W H → EnvR M W H σ δ → Kx X M W σ H δ1 v → wi σ H R
theorem wk_list {K : PySem.W.Frag} {a : Addr} {d : D} {ys : List D} (h : ∀ (M : Addr → Prop) (H : Hp), Rep M H d (.ref a) → ∃ us, SqL K H a us ∧ Reps M H ys us) : Wk [d] [.ref a] ys (Itl K a) := by
  refine ⟨fun M W H i e g r hi => ?_, fun M W H g r => ?_⟩
  · obtain ⟨v, e1, r1⟩ := reps1 r
    cases e1
    obtain ⟨us, hs, rs⟩ := h M H r1
    obtain ⟨w, hw, rw'⟩ := rs.get hi
    refine ⟨⟨us, w, hs, hw⟩, fun x H' ⟨e2, hx⟩ => ?_⟩
    subst e2
    have := hx us hs
    rw [hw] at this
    cases this
    exact ⟨fun _ _ z => z, rw'⟩
  · obtain ⟨v, e1, r1⟩ := reps1 r
    cases e1
    obtain ⟨us, hs, rs⟩ := h M H r1
    exact ⟨us, hs, by rw [rs.len]; exact Nat.le_refl _⟩
theorem wk_tup {K : PySem.W.Frag} {a : Addr} {ys : List D} : Wk [.tup ys] [.ref a] ys (Itt K a) := by
  refine ⟨fun M W H i e g r hi => ?_, fun M W H g r => ?_⟩
  · obtain ⟨v, e1, p', us, e2, m, hs, rs⟩ := reps1 r
    cases e1
    cases e2
    obtain ⟨w, hw, rw'⟩ := rs.get hi
    refine ⟨⟨us, w, .inl hs, hw⟩, fun x H' ⟨e2, hx⟩ => ?_⟩
    subst e2
    have := hx us (.inl hs)
    rw [hw] at this
    cases this
    exact ⟨fun _ _ z => z, rw'⟩
  · obtain ⟨v, e1, p', us, e2, m, hs, rs⟩ := reps1 r
    cases e1
    cases e2
    exact ⟨us, .inl hs, by rw [rs.len]; exact Nat.le_refl _⟩
theorem wk_rng {ds : List D} {vs : List V} {lo hi : Int} : Wk ds vs (rngD lo hi) (Itr lo (hi - lo).toNat) := by
  refine ⟨fun M W H i e g r he => ?_, fun M W H g r => ?_⟩
  · unfold rngD at he
    rw [List.getElem?_map] at he
    cases hz : (List.range (hi - lo).toNat)[i]? with
    | none => rw [hz] at he; cases he
    | some j =>
      rw [hz] at he
      cases he
      obtain ⟨h1, h2⟩ := List.getElem?_eq_some_iff.mp hz
      rw [List.length_range] at h1
      rw [List.getElem_range] at h2
      subst h2
      refine ⟨h1, fun x H' ⟨e2, hx⟩ => ?_⟩
      subst e2
      exact ⟨fun _ _ z => z, hx⟩
  · show _ ≤ (rngD lo hi).length
    simp [rngD]
theorem wk_str {x : Str} : Wk [.str x] [.str x] (sgn x) (Its x) := by
  refine ⟨fun M W H i e g r he => ?_, fun M W H g r => ?_⟩
  · unfold sgn at he
    rw [List.getElem?_map] at he
    cases hz : x.cps.toList[i]? with
    | none => rw [hz] at he; cases he
    | some c =>
      rw [hz] at he
      cases he
      obtain ⟨h1, h2⟩ := List.getElem?_eq_some_iff.mp hz
      refine ⟨(by simpa using h1 : i < x.cps.size), fun v H' ⟨e2, c', hc, hv⟩ => ?_⟩
      subst e2
      refine ⟨fun _ _ z => z, ?_⟩
      have : x.cps.toList[i]? = some c' := by simpa using hc
      rw [hz] at this
      cases this
      exact hv
  · show x.cps.size ≤ (sgn x).length
    simp [sgn]
theorem two_of {α : Type} : ∀ {l : List α}, l.length = 2 → ∃ a b, l = [a, b]
  | [a, b], _ => ⟨a, b, rfl⟩
  | [], h => by cases h
  | [_], h => by cases h
  | _ :: _ :: _ :: _, h => by simp at h
theorem itB_call {k : Ik} {it : Expr} (hk : k ≠ .seq) (h : itB sc k it = true) : ∃ p xs pos, it = .Call (.Name (ikN k) p) xs [] pos ∧ glB sc (ikN k) = true := by
  cases k with
  | seq => exact absurd rfl hk
  | rng | zip | enu =>
    unfold itB at h
    dsimp only at h
    split at h
    · simp only [Bool.and_eq_true, decide_eq_true_eq] at h
      obtain ⟨rfl, hg⟩ := h
      exact ⟨_, _, _, rfl, hg⟩
    · cases h
theorem itD_rng {KK : PySem.W.Frag} {ds ls : List D} (h : itD KK .rng ds = some ls) : (∃ b, ds = [.int b] ∧ -(2 ^ 62) ≤ b ∧ b < 2 ^ 62 ∧ ls = rngD 0 b) ∨ ∃ a b, ds = [.int a, .int b] ∧ (-(2 ^ 62) ≤ a ∧ a < 2 ^ 62 ∧ -(2 ^ 62) ≤ b ∧ b < 2 ^ 62) ∧ ls = rngD a b := by
  unfold itD at h
  split at h
  · contradiction
  · obtain ⟨hc, e⟩ := req_some h; cases e; exact .inl ⟨_, rfl, hc.1, hc.2, rfl⟩
  · obtain ⟨hc, e⟩ := req_some h; cases e; exact .inr ⟨_, _, rfl, hc, rfl⟩
  · cases h
theorem s_it (ok : XOk U T lv md X) (hN : X.N = N) (hs : X.env.scope = sc) {k : Ik} {tg it : Expr} (hb : itB sc k it = true) (ha : A2 (SE U T lv md N sc) es (itXs k it)) {ds ls : List D} {δ1 : TL.Env} (h : evs U.G T md es δ = some (.inl ds, δ1)) (hi : itD U.G.K k ds = some ls) : JI X tg it δ ds ls δ1 := by
  have ta : TA X (itXs k it) δ ds δ1 := s_args ok hN hs ha h
  have hst := okEs_of ha
  cases k with
  | seq =>
    cases ha with
    | cons hx hr =>
      cases hr
      simp only [evs] at h
      rcases bR_some h with ⟨y, δ2, h3, h4⟩ | ⟨r1, d, δ2, h3, hd, h4⟩
      · cases h4
      · have tr := (hx.je ok hN hs h3).tr hd
        cases h4
        have hi : seqD U.G.K d = some ls := hi
        unfold seqD at hi
        split at hi
        · rename_i K a ns _
          obtain ⟨e, hi⟩ := req_some hi
          cases hi
          have e' : K = X.K := by rw [e, ok.K, ok.wd.kk]
          subst e'
          refine ⟨_, pi_list pe_w, fun M W σ H R g E kk => tr M W σ H _ g E fun v H1 s1 r1 => ?_⟩
          obtain ⟨e1, e2⟩ := scr_sql r1
          subst e1
          refine ⟨a, rfl, ⟨_, e2⟩, kk _ [.ref a] H1 s1 ⟨_, _, rfl, r1, rfl⟩ ?_⟩
          refine ⟨fun M W H i e g r hi => ?_, fun M W H g r => ?_⟩
          · obtain ⟨v, e1, r1⟩ := reps1 r
            cases e1
            have hs := (scr_sql r1).2
            rw [List.getElem?_map] at hi
            cases hz : ns[i]? with
            | none => rw [hz] at hi; cases hi
            | some z =>
              rw [hz] at hi
              cases hi
              refine ⟨⟨_, .int z, hs, by rw [List.getElem?_map, hz]; rfl⟩, fun x H' ⟨e2, hx⟩ => ?_⟩
              subst e2
              have := hx _ hs
              rw [List.getElem?_map, hz] at this
              cases this
              exact ⟨fun _ _ z => z, rfl⟩
          · obtain ⟨v, e1, r1⟩ := reps1 r
            cases e1
            exact ⟨_, (scr_sql r1).2, by simp⟩
        · cases hi
          refine ⟨_, pi_list pe_w, fun M W σ H R g E kk => tr M W σ H _ g E fun v H1 s1 r1 => ?_⟩
          obtain ⟨a, us, rfl, m, ha', ra⟩ := id r1
          refine ⟨a, rfl, ⟨us, SqL.of ha'⟩, kk _ [.ref a] H1 s1 ⟨_, _, rfl, r1, rfl⟩ (wk_list fun M H r => ?_)⟩
          obtain ⟨a', us, e, m, ha', ra⟩ := r
          cases e
          exact ⟨us, SqL.of ha', ra⟩
        · cases hi
          refine ⟨_, pi_tup pe_w, fun M W σ H R g E kk => tr M W σ H _ g E fun v H1 s1 r1 => ?_⟩
          obtain ⟨a, us, rfl, m, ha', ra⟩ := id r1
          exact ⟨a, rfl, ⟨us, .inl ha'⟩, kk _ [.ref a] H1 s1 ⟨_, _, rfl, r1, rfl⟩ wk_tup⟩
        · cases hi
          refine ⟨_, pi_str pe_w, fun M W σ H R g E kk => tr M W σ H _ g E fun v H1 s1 r1 => ?_⟩
          obtain rfl : v = .str _ := r1
          exact ⟨_, rfl, kk _ [.str _] H1 s1 ⟨_, _, rfl, rfl, rfl⟩ wk_str⟩
        · cases hi
  | rng =>
    obtain ⟨p', xs', pos', rfl, hg⟩ := itB_call (by intro z; cases z) hb
    have hm : X.mg "range" = none := by rw [ok.mg]; exact ok.wd.nk.1
    have hgl := (gl_of hg hs).1
    have hl : ds.length = xs'.length := by have h1 := evs_len h; have h2 := ha.len; rw [h1, h2]; rfl
    rcases itD_rng hi with ⟨b, rfl, h1, h2, rfl⟩ | ⟨a, b, rfl, hc, rfl⟩
    · obtain ⟨x1, rfl⟩ := List.length_eq_one_iff.mp hl.symm
      refine ⟨_, pi_range1 hgl hm pa_w (star_cons (hst x1 (by simp [itXs]))), fun M W σ H R g E kk => ta M W σ H _ g E fun vs H1 s1 r1 => ?_⟩
      obtain ⟨v, e1, e2⟩ := reps1 r1
      refine ⟨b, by rw [e1, show v = V.int _ from e2], h1, h2, ?_⟩
      have := kk (Itr 0 (b - 0).toNat) vs H1 s1 r1 wk_rng
      rw [Int.sub_zero] at this
      exact this
    · obtain ⟨x1, x2, rfl⟩ := two_of hl.symm
      refine ⟨_, pi_range2 hgl hm pa_w (by rw [star_cons (hst x1 (by simp [itXs])), star_cons (hst x2 (by simp [itXs]))]; rfl) (star_cons (hst x2 (by simp [itXs]))), fun M W σ H R g E kk => ta M W σ H _ g E fun vs H1 s1 r1 => ?_⟩
      obtain ⟨v, w, e1, e2, e3⟩ := reps2 r1
      exact ⟨a, b, by rw [e1, show v = V.int _ from e2, show w = V.int _ from e3], hc, kk _ vs H1 s1 r1 wk_rng⟩
  | zip => unfold itD at hi; split at hi <;> first | contradiction | (cases hi; done)
  | enu => unfold itD at hi; split at hi <;> first | contradiction | (cases hi; done)
end
end RE
set_option Elab.async false
set_option linter.all false
set_option maxRecDepth 100000
set_option autoImplicit false
set_option maxHeartbeats 1000000
/-! REo: comprehensions; every expression. -/
namespace RE
open PySem PySem.Spec PyProof.Rows L2 TL
theorem EnvR.forget {M W : Addr → Prop} {H : Hp} {σ : L2.St} {δ : TL.Env} {i : Nat} (e : EnvR M W H σ δ) : EnvR M W H σ (δ.set i none) := by
  have key : ∀ (j : Nat) (s : S), (δ.set i none)[j]? = some (some s) → δ[j]? = some (some s) := fun j s h => by
    by_cases hj : i = j
    · subst hj
      by_cases hl : i < δ.length
      · rw [List.getElem?_set_self hl] at h; cases h
      · rw [List.getElem?_eq_none (by rw [List.length_set]; omega)] at h; cases h
    · rw [List.getElem?_set_ne hj] at h; exact h
  exact ⟨by rw [List.length_set]; exact e.len, fun j s h => e.at_ j s (key j s h), fun j k p xs ys h1 h2 h3 h4 => e.ap j k p xs ys (key j _ h1) (key k _ h2) h3 h4⟩
section
variable {U : Sd} {T : Tb} {lv : Nat} {md : Md} {N : List Str} {sc scope : Scope} {X : Cx} {e a b c : E} {x y z w elt : Expr} {es as kv : List E} {xs ys fs : List Expr} {pos p p2 p3 : Pos} {δ δ1 δ' : TL.Env}
theorem rel_env {s : Shared} {H : Hp} {C : Addr} {cl : List (Str × Addr)} {fp : List Addr} (hs : X.env.scope = sc) : (X.blk s H scope (compEnvC scope cl C X.env) fp).env.scope = rel scope sc := by
  subst hs
  rfl
theorem XOk.blk (ok : XOk U T lv md X) (s : Shared) (H : Hp) (C : Addr) (cl : List (Str × Addr)) (fp : List Addr) : XOk U T lv md (X.blk s H scope (compEnvC scope cl C X.env) fp) :=
  ⟨ok.wd, ok.prog, ok.w, ok.K, ok.mg, ok.base, ok.nd, ok.room, ok.hd, ok.calm, ok.gd, PassesOwn.never⟩
def wTb (X : Cx) (scope : Scope) (e : Expr) : L2.TT := fun σ H Q => ∀ (s : Shared) (H0 : Hp) (C : Addr) (cl : List (Str × Addr)) (fp : List Addr), wT (X.blk s H0 scope (compEnvC scope cl C X.env) fp) e σ H Q
theorem pt_wb (s : Shared) (H0 : Hp) (C : Addr) (cl : List (Str × Addr)) (fp : List Addr) : PT (X.blk s H0 scope (compEnvC scope cl C X.env) fp) x (wTb X scope x) := ⟨fun pins s' _ _ _ I h => (h s H0 C cl fp).run pins s' I⟩
/-- the tests' reading -/
def tTs (X : Cx) (scope : Scope) : List Expr → L2.TT
  | [f] => wTb X scope f
  | _ => tYes
theorem pts_wb (hl : fs.length ≤ 1) (s : Shared) (H0 : Hp) (C : Addr) (cl : List (Str × Addr)) (fp : List Addr) : PTs (X.blk s H0 scope (compEnvC scope cl C X.env) fp) fs (tTs X scope fs) := by
  match fs, hl with
  | [], _ => exact pts_nil
  | [f], _ => exact pts_one (pt_wb s H0 C cl fp)
/-- what holds between two turns -/
structure Lc (f : TL.Env → Option (Rz × TL.Env)) (t : TL.Env → Option (Bool × TL.Env)) (M W : Addr → Prop) (σ : L2.St) (H1 : Hp) (Dl : Addr) (i : Nat) (ls ys : List D) (δE : TL.Env) (k : Nat) (H : Hp) : Prop where
  ex : ∃ (δk : TL.Env) (dn rest : List D) (acc : List V), Stp (Mp M Dl) W σ δk H1 H ∧ δk[i]? = some none ∧ H Dl = some (.lst acc) ∧ Reps (Mp M Dl) H dn acc ∧ lcGo f t (.one i) (ls.drop k) δk = some (rest, δE) ∧ dn ++ rest = ys ∧ dn.length ≤ k
theorem lc_read (ok : XOk U T lv md X) (hN : X.N = N) (hs : X.env.scope = sc) {i : Nat} {it : Expr} {wi : TI} {ds ls rs : List D} {δE : TL.Env} (he : SE U T lv md N (rel scope sc) e elt) (hf : A2 (SE U T lv md N (rel scope sc)) es fs)
    {M W : Addr → Prop} {σ : L2.St} {H : Hp} {Q : VK} (g : Good M W H) (hwi : ∀ (R : It → Hp → Prop), (∀ J vs H1, Stp M W σ δ1 H H1 → Reps M H1 ds vs → Wk ds vs ls J → R J H1) → wi σ H R) (hb : δ1[i]? = some none) (hlen : ls.length ≤ 100000)
    (hgo : lcGo (ee U.G T md false e) (tsts (ets U.G T md es)) (.one i) ls δ1 = some (rs, δE))
    (kk : ∀ p vs H', Stp (Mp M p) W σ δE H H' → H p = none → H' p = some (.lst vs) → Reps (Mp M p) H' rs vs → Q (.ref p) H') : tLc wi (gName i) (tTs X scope fs) (wEb X scope elt) [i] σ H Q := by
  refine hwi _ fun J vs H1 s1 r1 wk Dl hD => ?_
  have nW : ¬ W Dl := fun w => s1.good.mt Dl (s1.good.wm Dl w) hD
  refine ⟨fun k m H' => m = ls.length - k ∧ k ≤ ls.length ∧ Lc (ee U.G T md false e) (tsts (ets U.G T md es)) M W σ H1 Dl i ls rs δE k H', ⟨ls.length, by simp, Nat.zero_le _, δ1, [], rs, [], (Stp.refl s1.good s1.env).fresh hD, hb, upd_same, rfl, by rw [List.drop_zero]; exact hgo, rfl, Nat.le_refl _⟩, ?_⟩
  rintro k m H' ⟨rfl, hk, ⟨δk, dn, rest, acc, st, hbk, hacc, racc, hgk, heq, hdl⟩⟩
  have rds : Reps (Mp M Dl) H' ds vs := Reps.ex (Xt.mono (fun _ w => .inl (g.wm _ w)) st.xt) ds (Reps.gr (mp_gr hD) ds r1)
  by_cases hlt : k < ls.length
  · obtain ⟨d, hd⟩ : ∃ d, ls[k]? = some d := ⟨_, List.getElem?_eq_getElem hlt⟩
    obtain ⟨j1, j2⟩ := wk.go (Mp M Dl) W H' k d st.good rds hd
    have hdrop : ls.drop k = d :: ls.drop (k + 1) := by
      obtain ⟨h1, h2⟩ := List.getElem?_eq_some_iff.mp hd
      rw [← h2]; exact List.drop_eq_getElem_cons h1
    rw [hdrop] at hgk
    have hset : setTg δk (.one i) d = some (δk.set i (some (.im d))) := by
      unfold setTg isOwn
      simp only [hbk]
      rfl
    simp only [lcGo, hset] at hgk
    refine .inr ⟨j1, Lc (ee U.G T md false e) (tsts (ets U.G T md es)) M W σ H1 Dl i ls rs δE (k + 1), fun H2 p2 => ⟨ls.length - (k + 1), by omega, rfl, hlt, p2⟩, fun v H2 hy => ?_⟩
    obtain ⟨ex, rv⟩ := j2 v H2 hy
    have st2 := st.ext ex
    have il : i < δk.length := (List.getElem?_eq_some_iff.mp hbk).1
    have E2 : EnvR (Mp M Dl) W H2 ((wipe σ [i]).set i (some v)) (δk.set i (some (.im d))) := (st2.env.blank hbk none).set rv
    refine ⟨?_, ?_⟩
    · show (((σ.set i none).set i (some v)).set i none) = σ.set i none
      rw [List.set_set, List.set_set]
    -- the test
    have back : ∀ {H3 : Hp} {δ3 : TL.Env}, Stp (Mp M Dl) W ((wipe σ [i]).set i (some v)) δ3 H2 H3 → Stp (Mp M Dl) W σ (δ3.set i none) H1 H3 ∧ (δ3.set i none)[i]? = some none := fun {H3 δ3} s3 => by
      have l3 : i < δ3.length := by
        have e1 := s3.env.len
        have e2 := st2.env.len
        rw [List.length_set] at e1
        have e3 : (wipe σ [i]).length = σ.length := wipe_length σ [i]
        omega
      have hb3 : (δ3.set i none)[i]? = some none := List.getElem?_set_self l3
      refine ⟨⟨st2.xt.trans s3.xt, s3.good, ?_⟩, hb3⟩
      have z1 := (EnvR.forget (i := i) s3.env).unblank hb3
      exact EnvR.unblank (o := none) z1 hb3
    have body : ∀ {H3 : Hp} {δ3 : TL.Env}, Stp (Mp M Dl) W ((wipe σ [i]).set i (some v)) δ3 H2 H3 → (bR (ee U.G T md false e δ3) (fun _ _ => (none : Option (List D × TL.Env))) fun y δ4 => match lcGo (ee U.G T md false e) (tsts (ets U.G T md es)) (.one i) (ls.drop (k + 1)) (wipeT δ4 (Tg.one i).is) with
        | some (ys, δ2) => some (y :: ys, δ2)
        | none => none) = some (rest, δE) → wEb X scope elt ((wipe σ [i]).set i (some v)) H3 fun u H4 => ∃ acc, H4 Dl = some (.lst acc) ∧ acc.length < sizeLine ∧ Lc (ee U.G T md false e) (tsts (ets U.G T md es)) M W σ H1 Dl i ls rs δE (k + 1) (upd H4 Dl (.lst (acc ++ [u]))) := fun {H3 δ3} s3 hgo s' H0 C cl fp => by
      rcases bR_some hgo with ⟨_, _, _, z⟩ | ⟨r4, d4, δ4, h4, hd4, hrest⟩
      · cases z
      split at hrest
      · rename_i ys' δ2 h5
        cases hrest
        have tr := (he.je (X := X.blk s' H0 scope (compEnvC scope cl C X.env) fp) (ok.blk _ _ _ _ _) hN (rel_env hs) h4).tr hd4
        refine tr (Mp M Dl) W _ H3 _ s3.good s3.env fun u H4 s4 r4' => ?_
        have s34 := s3.trans s4
        obtain ⟨sb, hb4⟩ := back s34
        have h4D : H4 Dl = some (.lst acc) := s34.xt Dl _ nW (ex Dl _ hacc)
        refine ⟨acc, h4D, ?_, ⟨δ4.set i none, dn ++ [d4], ys', acc ++ [u], ⟨fun a o w h => ?_, sb.good.put, sb.env.upd (.inr rfl) nW⟩, hb4, upd_same, ?_, h5, by rw [← heq, List.append_assoc]; rfl, by rw [List.length_append]; simp; omega⟩⟩
        · have := racc.len
          exact Nat.lt_of_lt_of_le (by omega : acc.length < 100000) (by decide)
        · rw [upd_ne (ne_of_none h hD)]
          exact sb.xt a o w h
        · have Xm : Xt (Mp M Dl) H4 (upd H4 Dl (.lst (acc ++ [u]))) := fun a o n q => by rw [upd_ne (fun z => n (.inr z))]; exact q
          exact Reps.app (Reps.ex Xm _ (s34.reps (Reps.ex (Xt.of ex) dn racc))) ⟨u, [], rfl, Rep.ex Xm d4 r4', rfl⟩
      · cases hrest
    cases hf with
    | nil =>
      unfold tTs tYes
      dsimp only
      rw [if_pos rfl]
      exact body (Stp.refl st2.good E2) hgk
    | cons hf1 hf2 =>
      cases hf2 with
      | nil =>
        rename_i e1 f1
        show wTb X scope f1 _ H2 _
        intro s' H0 C cl fp
        simp only [ets, tsts] at hgk
        split at hgk
        · cases hgk
        · rename_i b δt ht
          split at ht
          · rename_i b' δt' ht'
            cases ht
            have tt : TT (X.blk s' H0 scope (compEnvC scope cl C X.env) fp) f1 (δk.set i (some (.im d))) b δt := hf1.jt (X := X.blk s' H0 scope (compEnvC scope cl C X.env) fp) (ok.blk _ _ _ _ _) hN (rel_env hs) ht'
            refine tt (Mp M Dl) W _ H2 _ st2.good E2 fun H3 s3 => ?_
            cases b with
            | true =>
              rw [if_pos rfl]
              exact body s3 hgk
            | false =>
              rw [if_neg Bool.false_ne_true]
              obtain ⟨sb, hb3⟩ := back s3
              exact ⟨δt.set i none, dn, rest, acc, sb, hb3, s3.xt Dl _ nW (ex Dl _ hacc), s3.reps (Reps.ex (Xt.of ex) dn racc), hgk, heq, by omega⟩
          · cases ht
      | cons _ _ =>
        simp only [ets, tsts] at hgk
        cases hgk
  · have hke : k = ls.length := by omega
    subst hke
    refine .inl ⟨wk.stop (Mp M Dl) W H' st.good rds, ?_⟩
    rw [List.drop_length] at hgk
    simp only [lcGo] at hgk
    cases hgk
    rw [List.append_nil] at heq
    subst heq
    exact kk Dl acc H' ⟨s1.xt.trans st.xt, st.good, st.env⟩ (s1.none g hD) hacc racc
theorem blank_one {i : Nat} (h : blank δ (Tg.one i).is = true) : δ[i]? = some none := by
  unfold blank Tg.is at h
  simp only [List.all_cons, List.all_nil, Bool.and_true] at h
  split at h
  · assumption
  · cases h
/-- what the matcher says of a comprehension's text -/
theorem lc_ok {i : Nat} {k : Ik} {its ifs : List E} {t it : Expr} {zz : Int} (h : okE N sc (.lc (.one i) k its ifs e) (.ListComp elt [⟨t, it, fs, zz⟩] scope pos) = true) : ∃ nm np, t = .Name nm np ∧ N[i]? = some nm ∧ (rel scope sc).names.lookup nm = some .local ∧ BlkOk N sc scope [(nm, i)] ∧ itB sc k it = true ∧ zz = 0 ∧ fs.length ≤ 1 := by
  have h' : ((decide (zz = 0) && decide (fs.length ≤ 1)) && (tgtB N (rel scope sc) (.one i) t && (blkC N sc scope (ownT (.one i) t) && (itB sc k it && (okEs N sc its (itXs k it) && (okEs N (rel scope sc) ifs fs && okE N (rel scope sc) e elt)))))) = true := h
  simp only [Bool.and_eq_true, decide_eq_true_eq] at h'
  obtain ⟨⟨h0, h9⟩, h1, h2, h3, _⟩ := h'
  unfold tgtB at h1
  simp only [tgB, Bool.and_true] at h1
  split at h1
  · rename_i nm np
    simp only [Bool.and_eq_true, decide_eq_true_eq, locB] at h1
    exact ⟨nm, np, rfl, h1.1, h1.2, blkOk_by h2, h3, h0, h9⟩
  · cases h1
theorem fold_set {it : Expr} {env : PySem.Env} (h : isSetE it = false) : ∀ v, foldedSetIterable it env v = pure v := by
  intro v
  cases it <;> first | rfl | cases h
theorem it_set {k : Ik} {it : Expr} {its : List E} (hb : itB sc k it = true) : isSetE it = false := by
  cases k with
  | seq =>
    have : (!isSetE it) = true := hb
    simpa using this
  | rng | zip | enu =>
    obtain ⟨_, _, _, rfl, _⟩ := itB_call (by intro z; cases z) hb
    rfl
theorem lc_inv {g : Tg} {f : TL.Env → Option (Rz × TL.Env)} {t : TL.Env → Option (Bool × TL.Env)} {ls : List D} {r : Rz} (h : lcD f t g ls δ1 = some (r, δ')) : ∃ rs, r = .fr rs ∧ blank δ1 g.is = true ∧ ls.length ≤ 100000 ∧ lcGo f t g ls δ1 = some (rs, δ') := by
  obtain ⟨⟨h1, h2⟩, h3⟩ := req_some h
  obtain ⟨⟨rs, δE⟩, h4, e⟩ := Option.map_eq_some_iff.mp h3
  cases e
  exact ⟨rs, rfl, h1, h2, h4⟩
theorem s_lc {i : Nat} {k : Ik} {its ifs : List E} {t it : Expr} {zz : Int} (h : okE N sc (.lc (.one i) k its ifs e) (.ListComp elt [⟨t, it, fs, zz⟩] scope pos) = true) (hi : A2 (SE U T lv md N sc) its (itXs k it)) (hf : A2 (SE U T lv md N (rel scope sc)) ifs fs) (he : SE U T lv md N (rel scope sc) e elt) : SE U T lv md N sc (.lc (.one i) k its ifs e) (.ListComp elt [⟨t, it, fs, zz⟩] scope pos) := ⟨h, fun X ok hN hs tst δ r δ' hev => by
  obtain ⟨nm, np, rfl, hn, hloc, blk, hib, rfl, hfl⟩ := lc_ok h
  refine s_fin (fun r δ' h => ?_) (fun _ => rfl) hev
  split at h
  · rename_i ds δ1 h1
    split at h
    case isFalse => cases h
    rename_i hcm
    obtain ⟨ls, hls, h2⟩ := Option.bind_eq_some_iff.mp h
    obtain ⟨rs, rfl, hb, hl, hgo⟩ := lc_inv h2
    obtain ⟨wi, pi, hwi⟩ := s_it (tg := .Name nm np) ok hN hs hib hi h1 hls
    have hN' : X.N[i]? = some nm := by rw [hN]; exact hn
    have blk' : BlkOk X.N X.env.scope scope [(nm, i)] := by rw [hN, hs]; exact blk
    refine fun M W σ H Q g E kk => wE_of (pe_lc (own := [(nm, i)]) (g := gName i) (ok.calm hcm) ok.nd pi blk' (fun _ _ _ _ _ => pg_name ok.nd hN' (.inl (by rw [rel_env hs]; exact hloc)) (.inr (by rw [rel_env hs]; exact hloc))) (pts_wb hfl) pe_wb (fold_set (it_set (its := its) hib))) ?_
    exact lc_read ok hN hs (it := it) he hf g (fun R hR => hwi M W σ H R g E hR) (blank_one hb) hl hgo kk
  · cases h⟩
/-! ### every expression -/
theorem bo_and : bo true = .And := rfl
mutual
theorem sE : ∀ (e : E) {sc : Scope} {x : Expr}, okE N sc e x = true → SE U T lv md N sc e x
  | .var i, sc, x, h => by
    cases x <;> first | (cases h; done) | exact s_var h
  | .glo n, sc, x, h => by
    cases x <;> first | (cases h; done) | exact s_glo h
  | .int i, sc, x, h => by
    cases x <;> first | (cases h; done) | (rename_i c _ _; cases c <;> first | (cases h; done) | exact s_int h)
  | .str i, sc, x, h => by
    cases x <;> first | (cases h; done) | (rename_i c _ _; cases c <;> first | (cases h; done) | exact s_str h)
  | .bl i, sc, x, h => by
    cases x <;> first | (cases h; done) | (rename_i c _ _; cases c <;> first | (cases h; done) | exact s_bl h)
  | .non, sc, x, h => by
    cases x <;> first | (cases h; done) | (rename_i c _ _; cases c <;> first | (cases h; done) | exact s_non)
  | .bin op a b, sc, x, h => by
    cases x <;> first | (cases h; done) | skip
    rename_i y o z pos
    have h' : (decide (op = o) && (okE N sc a y && okE N sc b z)) = true := h
    simp only [Bool.and_eq_true, decide_eq_true_eq] at h'
    obtain ⟨rfl, h1, h2⟩ := h'
    exact s_bin h (sE a h1) (sE b h2)
  | .neg a, sc, x, h => by
    cases x <;> first | (cases h; done) | skip
    rename_i o y pos
    cases o <;> first | (cases h; done) | exact s_neg h (sE a h)
  | .nt a, sc, x, h => by
    cases x <;> first | (cases h; done) | skip
    rename_i o y pos
    cases o <;> first | (cases h; done) | exact s_nt h (sE a h)
  | .bop isAnd es, sc, x, h => by
    cases x <;> first | (cases h; done) | skip
    rename_i o ys pos
    cases o with
    | And =>
      have h' : (isAnd && okEs N sc es ys) = true := h
      simp only [Bool.and_eq_true] at h'
      obtain ⟨rfl, h2⟩ := h'
      exact s_bop (isAnd := true) h (sEs es h2)
    | Or =>
      have h' : (!isAnd && okEs N sc es ys) = true := h
      simp only [Bool.and_eq_true, Bool.not_eq_true'] at h'
      obtain ⟨rfl, h2⟩ := h'
      exact s_bop (isAnd := false) h (sEs es h2)
  | .ifx c a b, sc, x, h => by
    cases x <;> first | (cases h; done) | skip
    rename_i y z w pos
    have h' : (okE N sc c y && (okE N sc a z && okE N sc b w)) = true := h
    simp only [Bool.and_eq_true] at h'
    exact s_ifx h (sE c h'.1) (sE a h'.2.1) (sE b h'.2.2)
  | .cmp op a b, sc, x, h => by
    cases x <;> first | (cases h; done) | skip
    rename_i y ops zs pos
    match ops, zs with
    | [o], [z] =>
      have h' : (decide (op = o) && (okE N sc a y && okE N sc b z)) = true := h
      simp only [Bool.and_eq_true, decide_eq_true_eq] at h'
      obtain ⟨rfl, h1, h2⟩ := h'
      exact s_cmp h (sE a h1) (sE b h2)
    | [], _ => cases h
    | _ :: _ :: _, _ => cases h
    | [_], [] => cases h
    | [_], _ :: _ :: _ => cases h
  | .call f as kn kv, sc, x, h => by
    cases x <;> first | (cases h; done) | skip
    rename_i fn ys ws pos
    cases fn <;> first | (cases h; done) | skip
    rename_i g p
    have h' : (decide (f = g) && (glB sc f && (okEs N sc as ys && (kwB kn ws && okEs N sc kv (ws.map (·.value)))))) = true := h
    simp only [Bool.and_eq_true] at h'
    exact s_call h (sEs as h'.2.2.1) (sEs kv h'.2.2.2.2)
  | .callO f i as, sc, x, h => by
    cases x <;> first | (cases h; done) | skip
    rename_i fn ys ws pos
    cases fn <;> first | (cases h; done) | skip
    cases ys <;> first | (cases h; done) | skip
    rename_i g p y ys
    cases y <;> first | (cases h; done) | skip
    rename_i n p2
    cases ws <;> first | (cases h; done) | skip
    have h' : (decide (f = g) && (glB sc f && (varB N sc i n && okEs N sc as ys))) = true := h
    simp only [Bool.and_eq_true] at h'
    exact s_callO h (sEs as h'.2.2.2)
  | .callF f a as, sc, x, h => by
    cases x <;> first | (cases h; done) | skip
    rename_i fn ys ws pos
    cases fn <;> first | (cases h; done) | skip
    cases ys <;> first | (cases h; done) | skip
    rename_i g p y ys
    cases ws <;> first | (cases h; done) | skip
    have h' : (decide (f = g) && (glB sc f && (okE N sc a y && okEs N sc as ys))) = true := h
    simp only [Bool.and_eq_true] at h'
    exact s_callF h (sE a h'.2.2.1) (sEs as h'.2.2.2)
  | .blt b as, sc, x, h => by
    cases x <;> first | (cases h; done) | skip
    rename_i fn ys ws pos
    cases fn <;> first | (cases h; done) | skip
    rename_i g p
    cases ws <;> first | (cases h; done) | skip
    have h' : (decide (b.nm = g) && (glB sc b.nm && okEs N sc as ys)) = true := h
    simp only [Bool.and_eq_true] at h'
    exact s_blt h (sEs as h'.2.2)
  | .isT a t, sc, x, h => by
    have h' := h
    unfold okE at h'
    split at h'
    · simp only [Bool.and_eq_true] at h'
      exact s_isT h (sE a h'.2.2.1)
    · cases h'
  | .isC a c, sc, x, h => by
    have h' := h
    unfold okE at h'
    split at h'
    · simp only [Bool.and_eq_true] at h'
      exact s_isC h (sE a h'.2.2.1)
    · cases h'
  | .meth o m as kn kv, sc, x, h => by
    cases x <;> first | (cases h; done) | skip
    rename_i fn ys ws pos
    cases fn <;> first | (cases h; done) | skip
    rename_i y m' ap
    have h' : ((decide (m = m') && ((ap.endLine == pos.line) && decide (ys.length + ws.length < 20))) && (okE N sc o y && (isNameE y && (okEs N sc as ys && (kwB kn ws && okEs N sc kv (ws.map (·.value))))))) = true := h
    simp only [Bool.and_eq_true] at h'
    obtain ⟨_, h2, h3, h4, _, h6⟩ := h'
    cases y <;> first | (cases h3; done) | skip
    exact s_meth h (sE o h2) (sEs as h4) (sEs kv h6)
  | .att o f, sc, x, h => by
    cases x <;> first | (cases h; done) | skip
    rename_i y g pos
    have h' : (decide (f = g) && (okE N sc o y && notC0 y)) = true := h
    simp only [Bool.and_eq_true] at h'
    exact s_att h (sE o h'.2.1)
  | .attO i f, sc, x, h => by
    cases x <;> first | (cases h; done) | skip
    rename_i y g pos
    cases y <;> first | (cases h; done) | exact s_attO h
  | .sub o i, sc, x, h => by
    cases x <;> first | (cases h; done) | skip
    rename_i y z pos
    have h' : (okE N sc o y && okE N sc i z) = true := h
    simp only [Bool.and_eq_true] at h'
    exact s_sub h (sE o h'.1) (sE i h'.2)
  | .subO k i, sc, x, h => by
    cases x <;> first | (cases h; done) | skip
    rename_i y z pos
    cases y <;> first | (cases h; done) | skip
    rename_i n p
    have h' : (varB N sc k n && okE N sc i z) = true := h
    simp only [Bool.and_eq_true] at h'
    exact s_subO h (sE i h'.2)
  | .slL o a, sc, x, h => by
    have h' := h
    unfold okE at h'
    split at h'
    · simp only [Bool.and_eq_true] at h'
      exact s_slL h (sE o h'.1) (sE a h'.2)
    · cases h'
  | .slH o a, sc, x, h => by
    have h' := h
    unfold okE at h'
    split at h'
    · simp only [Bool.and_eq_true] at h'
      exact s_slH h (sE o h'.1) (sE a h'.2)
    · cases h'
  | .lst es, sc, x, h => by
    cases x <;> first | (cases h; done) | exact s_lst h (sEs es h)
  | .tup es, sc, x, h => by
    cases x <;> first | (cases h; done) | exact s_tup h (sEs es h)
  | .lc g k its ifs elt, sc, x, h => by
    have h' := h
    unfold okE at h'
    split at h'
    · simp only [Bool.and_eq_true] at h'
      cases g with
      | one i => exact s_lc h (sEs its h'.2.2.2.2.1) (sEs ifs h'.2.2.2.2.2.1) (sE elt h'.2.2.2.2.2.2)
      | tup is =>
        have z := h'.2.1
        unfold tgtB at z
        dsimp only at z
        split at z <;> cases z
    · cases h'
  | .fst es, sc, x, h => by
    cases x <;> first | (cases h; done) | skip
    rename_i ys pos
    have h' : (okEs N sc es ys && decide (1 ≤ ys.length)) = true := h
    simp only [Bool.and_eq_true] at h'
    exact s_fst h (sEs es h'.1)
  | .fmt e, sc, x, h => by
    cases x <;> first | (cases h; done) | skip
    rename_i y c s pos
    cases s <;> first | (cases h; done) | skip
    have h' : (decide (c = -1) && okE N sc e y) = true := h
    simp only [Bool.and_eq_true, decide_eq_true_eq] at h'
    obtain ⟨rfl, h2⟩ := h'
    exact s_fmt h (sE e h2)
  | .dct ks es, sc, x, h => by
    cases x <;> first | (cases h; done) | skip
    rename_i kx ys pos
    have h' : ((dctB ks kx && decide (ks.length = es.length ∧ ks.length ≤ 15)) && okEs N sc es ys) = true := h
    rw [Bool.and_eq_true] at h'
    exact s_dct h (sEs es h'.2)
theorem sEs : ∀ (es : List E) {sc : Scope} {xs : List Expr}, okEs N sc es xs = true → A2 (SE U T lv md N sc) es xs
  | [], sc, xs, h => by
    cases xs with
    | nil => exact .nil
    | cons _ _ => cases h
  | e :: es, sc, xs, h => by
    cases xs with
    | nil => cases h
    | cons y ys =>
      have h' : (okE N sc e y && okEs N sc es ys) = true := h
      simp only [Bool.and_eq_true] at h'
      exact .cons (sE e h'.1) (sEs es h'.2)
end
end
end RE
set_option Elab.async false
set_option linter.all false
set_option maxRecDepth 100000
set_option autoImplicit false
set_option maxHeartbeats 1000000
/-! REp: what is its own stays its own through an expression. -/
namespace RE
open PySem PySem.Spec PyProof.Rows L2 TL
theorem _root_.TL.Sh.trans {a b c : TL.Env} (h : Sh a b) (k : Sh b c) : Sh a c := fun i xs e => let ⟨ys, e1⟩ := h i xs e; k i ys e1
section
variable {G : Gx} {T : Tb} {md : Md} {δ δ' δ1 : TL.Env}
def NoOwn (δ : TL.Env) (is : List Nat) : Prop := ∀ i ∈ is, ∀ oc, δ[i]? ≠ some (some (.own oc))
theorem get_setAll_ne : ∀ {is : List Nat} {ds : List D} {δ : TL.Env} {j : Nat}, j ∉ is → (setAll δ is ds)[j]? = δ[j]?
  | [], _, _, _, _ => by simp [setAll]
  | _ :: _, [], _, _, _ => by simp [setAll]
  | i :: is, d :: ds, δ, j, h => by
    simp only [List.mem_cons, not_or] at h
    rw [setAll, get_setAll_ne h.2, List.getElem?_set_ne (fun z => h.1 z.symm)]
theorem get_wipe_ne : ∀ {is : List Nat} {δ : TL.Env} {j : Nat}, j ∉ is → (wipeT δ is)[j]? = δ[j]?
  | [], _, _, _ => rfl
  | i :: is, δ, j, h => by
    simp only [List.mem_cons, not_or] at h
    rw [wipeT, List.getElem?_set_ne (fun z => h.1 z.symm), get_wipe_ne h.2]
theorem wipe_noOwn : ∀ (is : List Nat) (δ : TL.Env), NoOwn (wipeT δ is) is
  | [], _, i, h, _ => by cases h
  | k :: is, δ, i, h, oc => by
    rw [wipeT]
    by_cases hk : k = i
    · subst hk
      by_cases hl : k < (wipeT δ is).length
      · rw [List.getElem?_set_self hl]; exact fun z => nomatch z
      · rw [List.getElem?_eq_none (by rw [List.length_set]; omega)]; exact fun z => nomatch z
    · rw [List.getElem?_set_ne hk]
      rcases List.mem_cons.mp h with z | z
      · exact absurd z.symm hk
      · exact wipe_noOwn is δ i z oc
theorem setTg_sh {g : Tg} {d : D} (h : setTg δ g d = some δ') : Sh δ δ' ∧ ∀ j, j ∉ g.is → δ'[j]? = δ[j]? := by
  unfold setTg at h
  split at h
  · rename_i i
    split at h
    · cases h
    · rename_i hn
      cases h
      refine ⟨fun j xs e => ?_, fun j hj => by rw [List.getElem?_set_ne]; intro z; exact hj (by rw [z]; simp [Tg.is])⟩
      by_cases hj : i = j
      · subst hj; exact absurd (by unfold isOwn; rw [e]) hn
      · exact ⟨xs, by rw [List.getElem?_set_ne hj]; exact e⟩
  · split at h
    · rename_i is _ ds
      split at h
      · rename_i hc
        cases h
        refine ⟨fun j xs e => ?_, fun j hj => get_setAll_ne hj⟩
        have : j ∉ is := fun hm => by
          have := hc.2
          rw [List.any_eq_false] at this
          exact this j hm (by unfold isOwn; rw [e])
        exact ⟨xs, by rw [get_setAll_ne this]; exact e⟩
      · cases h
    · cases h
theorem wipe_sh {is : List Nat} (hn : NoOwn δ is) (h : Sh δ δ1) : Sh δ (wipeT δ1 is) := fun j xs e => by
  have hj : j ∉ is := fun hm => hn j hm xs e
  obtain ⟨ys, e1⟩ := h j xs e
  exact ⟨ys, by rw [get_wipe_ne hj]; exact e1⟩
theorem lcGo_sh {f : TL.Env → Option (Rz × TL.Env)} {t : TL.Env → Option (Bool × TL.Env)} {g : Tg} (hf : ∀ δ r δ', f δ = some (r, δ') → Sh δ δ') (ht : ∀ δ b δ', t δ = some (b, δ') → Sh δ δ') : ∀ {ls : List D} {δ δ' : TL.Env} {ys : List D}, NoOwn δ g.is → lcGo f t g ls δ = some (ys, δ') → Sh δ δ'
  | [], δ, δ', ys, _, h => by cases h; exact Sh.refl
  | x :: ls, δ, δ', ys, hn, h => by
    simp only [lcGo] at h
    split at h
    · cases h
    · rename_i δ0 h0
      obtain ⟨s0, _⟩ := setTg_sh h0
      split at h
      · cases h
      · rename_i b δt h1
        have s1 := s0.trans (ht _ _ _ h1)
        cases b with
        | false => exact (wipe_sh hn s1).trans (lcGo_sh hf ht (wipe_noOwn _ _) h)
        | true =>
          rcases bR_some h with ⟨_, _, _, z⟩ | ⟨r4, d4, δ4, h4, _, h5⟩
          · cases z
          · have s2 := s1.trans (hf _ _ _ h4)
            split at h5
            · rename_i h6
              cases h5
              exact (wipe_sh hn s2).trans (lcGo_sh hf ht (wipe_noOwn _ _) h6)
            · cases h5
theorem fin_sh {tst : Bool} {o : Option (Rz × TL.Env)} {r : Rz} (hv : ∀ r δ', o = some (r, δ') → Sh δ δ') (h : fin tst o = some (r, δ')) : Sh δ δ' := by
  cases tst with
  | false => exact hv _ _ h
  | true =>
    rcases bR_some h with ⟨x, δ1, h1, h2⟩ | ⟨r1, d1, δ1, h1, _, h2⟩
    · cases h2; exact hv _ _ h1
    · obtain ⟨k, _, e⟩ := Option.map_eq_some_iff.mp h2
      cases e; exact hv _ _ h1
theorem own_sh {o : Option (Rz × List S)} {i : Nat} {r : Rz} (ho : ∃ oc, δ1[i]? = some (some (.own oc))) (h : ownCall o i δ1 = some (r, δ')) : Sh δ1 δ' := by
  have key : ∀ oc2 : OC, Sh δ1 (δ1.set i (some (.own oc2))) := fun oc2 j xs e => by
    by_cases hj : i = j
    · subst hj; exact ⟨oc2, List.getElem?_set_self (List.getElem?_eq_some_iff.mp e).1⟩
    · exact ⟨xs, by rw [List.getElem?_set_ne hj]; exact e⟩
  unfold ownCall at h
  split at h <;> first | (cases h; exact key _) | (cases h; done)
theorem fr_sh {o : Option (Rz × List S)} {r : Rz} (h : frCall o δ1 = some (r, δ')) : Sh δ1 δ' := by
  unfold frCall at h
  split at h <;> first | (cases h; exact Sh.refl) | (cases h; done)
theorem sh1 {o : Option (Rz × TL.Env)} {k : D → TL.Env → Option (Rz × TL.Env)} {r : Rz} (h1 : ∀ r δ', o = some (r, δ') → Sh δ δ') (h2 : ∀ d δ1 r δ', k d δ1 = some (r, δ') → Sh δ1 δ') (h : bR o xR k = some (r, δ')) : Sh δ δ' := by
  rcases bR_some h with ⟨x, δ1, e1, e2⟩ | ⟨r1, d1, δ1, e1, _, e2⟩
  · cases e2; exact h1 _ _ e1
  · exact (h1 _ _ e1).trans (h2 _ _ _ _ e2)
theorem shA {o : Option (Sum (List D) Xn × TL.Env)} {k : List D → TL.Env → Option (Rz × TL.Env)} {r : Rz} (h1 : ∀ r δ', o = some (r, δ') → Sh δ δ') (h2 : ∀ d δ1 r δ', k d δ1 = some (r, δ') → Sh δ1 δ') (h : bA o k = some (r, δ')) : Sh δ δ' := by
  rcases bA_some h with ⟨x, δ1, e1, e2⟩ | ⟨ds, δ1, e1, e2⟩
  · cases e2; exact h1 _ _ e1
  · exact (h1 _ _ e1).trans (h2 _ _ _ _ e2)
theorem shB {o : Option (Rz × TL.Env)} {k : Bool → TL.Env → Option (Rz × TL.Env)} {r : Rz} (h1 : ∀ r δ', o = some (r, δ') → Sh δ δ') (h2 : ∀ d δ1 r δ', k d δ1 = some (r, δ') → Sh δ1 δ') (h : bB o k = some (r, δ')) : Sh δ δ' := by
  rcases bB_some h with ⟨x, δ1, e1, e2⟩ | ⟨ds, δ1, e1, e2⟩
  · cases e2; exact h1 _ _ e1
  · exact (h1 _ _ e1).trans (h2 _ _ _ _ e2)
theorem shM {α : Type} {o : Option α} {f : α → Rz} {r : Rz} (h : o.map (fun z => (f z, δ1)) = some (r, δ')) : Sh δ1 δ' := by
  obtain ⟨z, _, e⟩ := Option.map_eq_some_iff.mp h
  cases e; exact Sh.refl
theorem tsts_sh {fs : List (TL.Env → Option (Rz × TL.Env))} {b : Bool} (h : ∀ f ∈ fs, ∀ (δ : TL.Env) (r : Rz) (δ' : TL.Env), f δ = some (r, δ') → Sh δ δ') (ht : tsts fs δ = some (b, δ')) : Sh δ δ' := by
  unfold tsts at ht
  split at ht
  · cases ht; exact Sh.refl
  · split at ht
    · rename_i h2; cases ht; exact h _ (List.mem_singleton.mpr rfl) _ _ _ h2
    · cases ht
  · cases ht
mutual
theorem ee_sh : ∀ (e : E) (tst : Bool) {δ δ' : TL.Env} {r : Rz}, ee G T md tst e δ = some (r, δ') → Sh δ δ'
  | .var i, tst, δ, δ', r, h => fin_sh (fun r δ' h => by split at h <;> first | (cases h; exact Sh.refl) | (cases h; done)) h
  | .glo n, tst, δ, δ', r, h => fin_sh (fun r δ' h => by split at h <;> first | (cases h; exact Sh.refl) | (cases h; done)) h
  | .int i, tst, δ, δ', r, h => fin_sh (fun r δ' h => by cases h; exact Sh.refl) h
  | .str i, tst, δ, δ', r, h => fin_sh (fun r δ' h => by cases h; exact Sh.refl) h
  | .bl i, tst, δ, δ', r, h => fin_sh (fun r δ' h => by cases h; exact Sh.refl) h
  | .non, tst, δ, δ', r, h => fin_sh (fun r δ' h => by cases h; exact Sh.refl) h
  | .bin op a b, tst, δ, δ', r, h => fin_sh (fun r δ' h => sh1 (fun _ _ => ee_sh a false) (fun _ _ _ _ h => sh1 (fun _ _ => ee_sh b false) (fun _ _ _ _ h => shM h) h) h) h
  | .neg a, tst, δ, δ', r, h => fin_sh (fun r δ' h => sh1 (fun _ _ => ee_sh a false) (fun _ _ _ _ h => shM h) h) h
  | .nt a, tst, δ, δ', r, h => shB (fun _ _ => ee_sh a tst) (fun _ _ _ _ h => by cases h; exact Sh.refl) h
  | .bop isAnd es, tst, δ, δ', r, h => ebs_sh es tst isAnd h
  | .ifx c a b, tst, δ, δ', r, h => by
    cases tst with
    | true => cases h
    | false =>
      refine shB (fun _ _ => ee_sh c true) (fun k δ1 r δ' h => ?_) (show bB (ee G T md true c δ) _ = _ from h)
      cases k with
      | true => exact ee_sh a false (by simpa using h)
      | false => exact ee_sh b false (by simpa using h)
  | .cmp op a b, tst, δ, δ', r, h => fin_sh (fun r δ' h => sh1 (fun _ _ => ee_sh a false) (fun _ _ _ _ h => sh1 (fun _ _ => ee_sh b false) (fun _ _ _ _ h => shM h) h) h) h
  | .call f as kn kv, tst, δ, δ', r, h => fin_sh (fun r δ' h => by
      split at h
      · exact shA (fun _ _ => evs_sh as) (fun _ _ _ _ h => shA (fun _ _ => evs_sh kv) (fun _ _ _ _ h => shM h) h) h
      · cases h) h
  | .callO f i as, tst, δ, δ', r, h => fin_sh (fun r δ' h => by
      split at h
      · refine shA (fun _ _ => evs_sh as) (fun ds δ1 r δ' h => ?_) h
        split at h
        · rename_i ho _
          obtain ⟨fc, _, h⟩ := Option.bind_eq_some_iff.mp h
          split at h
          · exact own_sh ⟨_, ho⟩ h
          · cases h
        · cases h
      · cases h) h
  | .callF f a as, tst, δ, δ', r, h => fin_sh (fun r δ' h => by
      split at h
      · split at h
        · rename_i h1; cases h; exact ee_sh a false h1
        · rename_i h1
          refine (ee_sh a false h1).trans (shA (fun _ _ => evs_sh as) (fun ds δ1 r δ' h => ?_) h)
          split at h
          · obtain ⟨fc, _, h⟩ := Option.bind_eq_some_iff.mp h
            split at h
            · exact fr_sh h
            · cases h
          · cases h
        · cases h
      · cases h) h
  | .blt b as, tst, δ, δ', r, h => fin_sh (fun r δ' h => shA (fun _ _ => evs_sh as) (fun _ _ _ _ h => shM h) h) h
  | .isT a t, tst, δ, δ', r, h => fin_sh (fun r δ' h => sh1 (fun _ _ => ee_sh a false) (fun _ _ _ _ h => shM h) h) h
  | .isC a c, tst, δ, δ', r, h => fin_sh (fun r δ' h => sh1 (fun _ _ => ee_sh a false) (fun _ _ _ _ h => by split at h <;> first | exact shM h | (cases h; done)) h) h
  | .meth o m as kn kv, tst, δ, δ', r, h => fin_sh (fun r δ' h => sh1 (fun _ _ => ee_sh o false) (fun _ _ _ _ h => by
      split at h
      · exact shA (fun _ _ => evs_sh as) (fun _ _ _ _ h => shA (fun _ _ => evs_sh kv) (fun _ _ _ _ h => shM h) h) h
      · cases h) h) h
  | .att o f, tst, δ, δ', r, h => fin_sh (fun r δ' h => sh1 (fun _ _ => ee_sh o false) (fun _ _ _ _ h => shM h) h) h
  | .attO i f, tst, δ, δ', r, h => fin_sh (fun r δ' h => by
      split at h
      · split at h
        · obtain ⟨d, _, h⟩ := Option.bind_eq_some_iff.mp h
          split at h
          · cases h
          · cases h; exact Sh.refl
        · cases h
      · cases h) h
  | .sub o i, tst, δ, δ', r, h => fin_sh (fun r δ' h => sh1 (fun _ _ => ee_sh o false) (fun _ _ _ _ h => sh1 (fun _ _ => ee_sh i false) (fun _ _ _ _ h => shM h) h) h) h
  | .subO n i, tst, δ, δ', r, h => fin_sh (fun r δ' h => by
      split at h
      · exact sh1 (fun _ _ => ee_sh i false) (fun _ _ _ _ h => by split at h <;> first | exact shM h | (cases h; done)) h
      · cases h) h
  | .slL o a, tst, δ, δ', r, h => fin_sh (fun r δ' h => by
      split at h
      · rename_i h1
        split at h
        · split at h
          · rename_i h2
            split at h
            · obtain ⟨_, h⟩ := req_some h; cases h; exact (ee_sh o false h1).trans (ee_sh a false h2)
            · cases h
          · cases h
        · cases h
      · cases h) h
  | .slH o a, tst, δ, δ', r, h => fin_sh (fun r δ' h => by
      split at h
      · rename_i h1
        split at h
        · split at h
          · rename_i h2
            split at h
            · obtain ⟨_, h⟩ := req_some h; cases h; exact (ee_sh o false h1).trans (ee_sh a false h2)
            · cases h
          · cases h
        · cases h
      · cases h) h
  | .lst es, tst, δ, δ', r, h => fin_sh (fun r δ' h => shA (fun _ _ => evs_sh es) (fun _ _ _ _ h => by obtain ⟨_, h⟩ := req_some h; cases h; exact Sh.refl) h) h
  | .tup es, tst, δ, δ', r, h => fin_sh (fun r δ' h => shA (fun _ _ => evs_sh es) (fun _ _ _ _ h => by obtain ⟨_, h⟩ := req_some h; cases h; exact Sh.refl) h) h
  | .lc g k its ifs elt, tst, δ, δ', r, h => fin_sh (fun r δ' h => by
      split at h
      · rename_i h1
        split at h
        case isFalse => cases h
        obtain ⟨ls, _, h⟩ := Option.bind_eq_some_iff.mp h
        obtain ⟨rs, rfl, hb, _, hgo⟩ := lc_inv h
        refine (evs_sh its h1).trans (lcGo_sh (fun _ _ _ => ee_sh elt false) (fun δ b δ' ht => ?_) (fun i hi oc z => ?_) hgo)
        · exact tsts_sh (ets_sh ifs) ht
        · have := List.all_eq_true.mp hb i hi
          rw [z] at this
          cases this
      · cases h) h
  | .fst es, tst, δ, δ', r, h => fin_sh (fun r δ' h => by
      split at h
      · rename_i h1
        obtain ⟨ts, _, h⟩ := Option.bind_eq_some_iff.mp h
        obtain ⟨_, h⟩ := req_some h
        cases h; exact evs_sh es h1
      · cases h) h
  | .fmt e, tst, δ, δ', r, h => fin_sh (fun r δ' h => sh1 (fun _ _ => ee_sh e false) (fun _ _ _ _ h => by split at h <;> first | (obtain ⟨_, h⟩ := req_some h; cases h; exact Sh.refl) | (cases h; done)) h) h
  | .dct ks es, tst, δ, δ', r, h => fin_sh (fun r δ' h => shA (fun _ _ => evs_sh es) (fun _ _ _ _ h => by obtain ⟨_, h⟩ := req_some h; cases h; exact Sh.refl) h) h
theorem evs_sh : ∀ (es : List E) {δ δ' : TL.Env} {r : Sum (List D) Xn}, evs G T md es δ = some (r, δ') → Sh δ δ'
  | [], δ, δ', r, h => by cases h; exact Sh.refl
  | e :: es, δ, δ', r, h => by
    simp only [evs] at h
    rcases bR_some h with ⟨x, δ1, h1, h2⟩ | ⟨r1, d1, δ1, h1, _, h2⟩
    · cases h2; exact ee_sh e false h1
    · split at h2
      · rename_i h3; cases h2; exact (ee_sh e false h1).trans (evs_sh es h3)
      · rename_i h3; cases h2; exact (ee_sh e false h1).trans (evs_sh es h3)
      · cases h2
theorem ets_sh : ∀ (es : List E), ∀ f ∈ ets G T md es, ∀ (δ : TL.Env) (r : Rz) (δ' : TL.Env), f δ = some (r, δ') → Sh δ δ'
  | [], f, hm => by cases hm
  | e :: es, f, hm => by
    rcases List.mem_cons.mp (show f ∈ ee G T md true e :: ets G T md es from hm) with rfl | hm
    · exact fun δ r δ' h => ee_sh e true h
    · exact ets_sh es f hm
theorem ebs_sh : ∀ (es : List E) (tst isAnd : Bool) {δ δ' : TL.Env} {r : Rz}, ebs G T md tst isAnd es δ = some (r, δ') → Sh δ δ'
  | [], tst, isAnd, δ, δ', r, h => by cases h
  | [e], tst, isAnd, δ, δ', r, h => shB (fun _ _ => ee_sh e tst) (fun _ _ _ _ h => by cases h; exact Sh.refl) h
  | e :: e2 :: es, tst, isAnd, δ, δ', r, h => by
    refine shB (fun _ _ => ee_sh e tst) (fun k δ1 r δ' h => ?_) (show bB (ee G T md tst e δ) _ = _ from h)
    split at h
    · exact ebs_sh (e2 :: es) tst isAnd h
    · cases h; exact Sh.refl
end
end
end RE
set_option Elab.async false
set_option linter.all false
set_option maxRecDepth 100000
set_option autoImplicit false
set_option maxHeartbeats 1000000
/-! REq: statements. -/
namespace RE
open PySem PySem.Spec PyProof.Rows L2 TL
theorem not_own {δ : TL.Env} {i : Nat} (h : ¬ isOwn δ i = true) : ∀ oc, δ[i]? ≠ some (some (.own oc)) := fun oc z => h (by unfold isOwn; rw [z])
theorem swap_no {x : Expr} {t : Option Expr} {l : Nat} {env : PySem.Env} (h : isLc x = false) : swapsWith x t l env = pure false := by
  cases x <;> first | rfl | cases h
theorem assign_sub {N : List Str} {sc : Scope} {b : E} {y : Expr} {o : Expr} {pos : Pos} {env : PySem.Env} (h : okE N sc b y = true) : ∀ v, assign (.Subscript o y pos) env v = (do
    let ov ← holding [v] (eval o env)
    let iv ← holding [v, ov] (eval y env)
    standAt pos
    holding [v, ov, iv] (setItem ov iv v)
    release [v, ov, iv] []) := by
  intro v
  cases y <;> first
    | rfl
    | (exfalso; cases b <;> cases h)
section
variable {B : Bs} {M W : Addr → Prop} {σ : L2.St} {H H1 : Hp} {δ δ1 : TL.Env} {p : Addr} {X : Cx} {x : Xn} {Dn : Ends} {o : Ou}
theorem Sv.setD (v : Sv B M W σ H δ) {i : Nat} {d : D} {u : V} (hno : ∀ oc, δ[i]? ≠ some (some (.own oc))) (r : Rep M H d u) : Sv B M W (σ.set i (some u)) H (δ.set i (some (.im d))) := by
  refine ⟨v.good, v.env.set r, v.mm, v.mn, v.ww, v.wn, v.xt, fun j xs q => ?_⟩
  obtain ⟨ys, z1, z2⟩ := v.kp j xs q
  have hj : i ≠ j := fun e => by subst e; exact hno ys z1
  exact ⟨ys, by rw [List.getElem?_set_ne hj]; exact z1, by rw [List.getElem?_set_ne hj]; exact z2⟩
theorem PoS.sub (v : Sv B M W σ H δ) (k : PoS X B Dn o) : PoS X ⟨M, W, H, σ, δ⟩ Dn o := by
  cases o with
  | nx δ' => exact fun M' W' σ' H' u => k M' W' σ' H' (v.trans u)
  | bk δ' => exact fun M' W' σ' H' u => k M' W' σ' H' (v.trans u)
  | ct δ' => exact fun M' W' σ' H' u => k M' W' σ' H' (v.trans u)
  | rt r δ' =>
    cases r with
    | im d => exact fun M' W' σ' H' w u => k M' W' σ' H' w (v.trans u)
    | fr xs => exact fun M' W' σ' H' p vs u n1 n2 => k M' W' σ' H' p vs (v.trans u) (fun m => n1 (v.mm p m)) (v.back n2)
    | ex _ => trivial
  | xc y δ' =>
    obtain ⟨Wx, tk, h⟩ := k
    exact ⟨Wx, tk, fun M' W' σ' H' dx u r => h M' W' σ' H' dx (v.trans u) r⟩
end
/-- a def's body -/
structure Bod (X : Cx) : Prop where
  fn : ∀ n, X.fn n = true
  st : X.stack = X.env :: X.outer
  fr : X.env.frame = some X.env.locals
section
variable (U : Sd) (T : Tb) (lv : Nat) (md : Md) (N : List Str)
def SC (sc : Scope) (c : C) (st : Stmt) : Prop := ∀ (X : Cx), XOk U T lv md X → Bod X → X.N = N → X.env.scope = sc → ∀ (δ : TL.Env) (o : Ou), evC U.G T md c δ = some o → JS X st δ o
def SB (sc : Scope) (cs : List C) (sts : List Stmt) : Prop := ∀ (X : Cx), XOk U T lv md X → Bod X → X.N = N → X.env.scope = sc → ∀ (δ : TL.Env) (o : Ou), evB U.G T md cs δ = some o → JB X sts δ o
end
section
variable {U : Sd} {T : Tb} {lv : Nat} {md : Md} {N : List Str} {sc scope : Scope} {X : Cx} {e a b c : E} {x y z w elt : Expr} {es as kv : List E} {xs ys fs : List Expr} {pos p p2 p3 : Pos} {δ δ1 δ' : TL.Env} {cs ct : List C} {ss st : List Stmt}
theorem c_ret (he : SE U T lv md N sc e x) : SC U T lv md N sc (.ret e) (.Return (some x) pos) := fun X ok hfn hN hs δ o h B M W σ H Dn sv po => by
  refine wS_of (ps_ret pe_w) ?_
  simp only [evC] at h
  split at h
  · rename_i v δ1 h1
    cases h
    obtain ⟨Wx, tk, k⟩ := po
    exact (he.je ok hN hs h1).ke M W σ H _ sv.good sv.env (sv.kx (ee_sh e false h1) tk k)
  · rename_i r δ1 hnx h1
    cases h
    have sh := ee_sh e false h1
    cases r with
    | im d => exact (he.je ok hN hs h1).ke M W σ H _ sv.good sv.env fun v H' s r => po M W σ H' v (sv.step s sh) r
    | fr ls => exact (he.je ok hN hs h1).ke M W σ H _ sv.good sv.env fun p vs H' s n hp rr => po M W σ H' p vs (sv.stepF s n sh) (sv.nB n) (sv.back n) hp rr
    | ex v => exact absurd rfl (hnx v)
  · cases h
theorem c_retN : SC U T lv md N sc .retN (.Return none pos) := fun X ok hfn hN hs δ o h B M W σ H Dn sv po => by
  cases h
  exact wS_of ps_retN (po M W σ H .non sv rfl)
theorem c_pass : SC U T lv md N sc .pass (.Pass pos) := fun X ok hfn hN hs δ o h B M W σ H Dn sv po => by
  cases h
  exact wS_of ps_pass (po M W σ H sv)
/-- an expression ahead of something -/
theorem ex_case (ok : XOk U T lv md X) (hN : X.N = N) (hs : X.env.scope = sc) (he : SE U T lv md N sc e x) {B : Bs} {M W : Addr → Prop} {σ : L2.St} {H : Hp} {Dn : Ends} {Q : VK} {o : Ou} {k : D → TL.Env → Option Ou} (sv : Sv B M W σ H δ) (po : PoS X B Dn o) (h : bR (ee U.G T md false e δ) (fun x δ1 => some (.xc x δ1)) k = some o)
    (hk : ∀ d δ1 v H1, Sv B M W σ H1 δ1 → Rep M H1 d v → k d δ1 = some o → Stp M W σ δ1 H H1 → Q v H1) : wE X x σ H Q := by
  rcases bR_some h with ⟨v, δ1, h1, h2⟩ | ⟨r1, d1, δ1, h1, hd, h2⟩
  · cases h2
    obtain ⟨Wx, tk, k⟩ := po
    exact (he.je ok hN hs h1).ke M W σ H _ sv.good sv.env (sv.kx (ee_sh e false h1) tk k)
  · exact (he.je ok hN hs h1).tr hd M W σ H _ sv.good sv.env fun v H1 s1 r1 => hk d1 δ1 v H1 (sv.step s1 (ee_sh e false h1)) r1 h2 s1
theorem c_exp (he : SE U T lv md N sc e x) (hl : isLc x = false) : SC U T lv md N sc (.exp e) (.Expr x pos) := fun X ok hfn hN hs δ o h B M W σ H Dn sv po => by
  refine wS_of (ps_expr pe_w (swap_no hl)) (ex_case ok hN hs he sv po h fun d δ1 v H1 s1 r1 hk _ => ?_)
  cases hk
  exact po M W σ H1 s1
theorem c_set {i : Nat} {n : Str} (h1 : N[i]? = some n) (h2 : sc.names.lookup n = some .local ∨ sc.names.lookup n = some .cell) (hl : isLc x = false) (he : SE U T lv md N sc e x) : SC U T lv md N sc (.set i e) (.Assign [.Name n p] x pos) := fun X ok hfn hN hs δ o h B M W σ H Dn sv po => by
  refine wS_of (ps_set ok.nd (by rw [hN]; exact h1) (by rw [hs]; exact h2) pe_w (swap_no hl) (.inl (hfn.fn n))) (ex_case ok hN hs he sv po h fun d δ1 v H1 s1 r1 hk _ => ?_)
  split at hk
  · cases hk
  · rename_i hno
    cases hk
    exact po M W _ H1 (s1.setD (not_own hno) r1)
theorem c_setLc {i j : Nat} {n nm : Str} {k : Ik} {its ifs : List E} {t it : Expr} {zz : Int} (h0 : okC N sc (.set j (.lc (.one i) k its ifs e)) (.Assign [.Name n p] (.ListComp elt [⟨t, it, fs, zz⟩] scope p2) pos) = true) (hi : A2 (SE U T lv md N sc) its (itXs k it)) (hf : A2 (SE U T lv md N (rel scope sc)) ifs fs) (he : SE U T lv md N (rel scope sc) e elt) :
    SC U T lv md N sc (.set j (.lc (.one i) k its ifs e)) (.Assign [.Name n p] (.ListComp elt [⟨t, it, fs, zz⟩] scope p2) pos) := fun X ok hfn hN hs δ o h B M W σ H Dn sv po => by
  have h' : (decide (N[j]? = some n) && ((locB sc n || decide (sc.names.lookup n = some .cell)) && (okE N sc (.lc (.one i) k its ifs e) (.ListComp elt [⟨t, it, fs, zz⟩] scope p2) && (locB sc n && (decide (sc.kind = .function) && ((p.line == p2.line) && !(scope.names.any fun (m, k) => m == n && (k == .local || k == .cell)))))))) = true := h0
  rw [Bool.and_eq_true, Bool.and_eq_true, Bool.and_eq_true, Bool.and_eq_true, Bool.and_eq_true, Bool.and_eq_true] at h'
  obtain ⟨h1, _, h2, h3, h4, h5, h6⟩ := h'
  have h1 := of_decide_eq_true h1
  have h3 : sc.names.lookup n = some .local := of_decide_eq_true h3
  have h4 := of_decide_eq_true h4
  have h6 : (scope.names.any fun (m, k) => m == n && (k == .local || k == .cell)) = false := by simpa using h6
  obtain ⟨nm, np, rfl, hn, hloc, blk, hib, rfl, hfl⟩ := lc_ok h2
  have hN' : X.N[i]? = some nm := by rw [hN]; exact hn
  have blk' : BlkOk X.N X.env.scope scope [(nm, i)] := by rw [hN, hs]; exact blk
  rcases bR_some h with ⟨v, δ1, h7, h8⟩ | ⟨r1, d1, δ1, h7, hd, h8⟩
  · exfalso
    have h7 : (match evs U.G T md its δ with | some (.inl ds, δ1) => if md.calm = true then (itD U.G.K k ds).bind fun xs => lcD (ee U.G T md false e) (tsts (ets U.G T md ifs)) (.one i) xs δ1 else none | _ => none) = some (.ex v, δ1) := h7
    split at h7
    · split at h7
      case isFalse => cases h7
      obtain ⟨ls, hls, h9⟩ := Option.bind_eq_some_iff.mp h7
      obtain ⟨rs, e9, _⟩ := lc_inv h9
      cases e9
    · cases h7
  · have sh := ee_sh (.lc (.one i) k its ifs e) false h7
    have h7 : (match evs U.G T md its δ with | some (.inl ds, δ1) => if md.calm = true then (itD U.G.K k ds).bind fun xs => lcD (ee U.G T md false e) (tsts (ets U.G T md ifs)) (.one i) xs δ1 else none | _ => none) = some (r1, δ1) := h7
    split at h7
    · rename_i ds δ2 h9
      split at h7
      case isFalse => cases h7
      rename_i hcm
      obtain ⟨ls, hls, h10⟩ := Option.bind_eq_some_iff.mp h7
      obtain ⟨rs, rfl, hb, hl, hgo⟩ := lc_inv h10
      cases hd
      split at h8
      · cases h8
      · rename_i hno
        cases h8
        obtain ⟨wi, pi, hwi⟩ := s_it (tg := .Name nm np) ok hN hs hib hi h9 hls
        refine wS_of (ps_setLc (own := [(nm, i)]) (g := gName i) (ok.calm hcm) ok.nd (by rw [hN]; exact h1) (by rw [hs]; exact h3) (sw_true (by rw [hs]; exact h4) (by rw [hs]; exact h3) h5 h6) pi blk' (fun _ _ _ _ _ => pg_name ok.nd hN' (.inl (by rw [rel_env hs]; exact hloc)) (.inr (by rw [rel_env hs]; exact hloc))) (pts_wb hfl) pe_wb (fold_set (it_set (its := its) hib))) ?_
        refine lc_read (Q := fun v H1 => gName j v σ H1 Dn.nx) ok hN hs (it := it) he hf sv.good (fun R hR => hwi M W σ H R sv.good sv.env hR) (blank_one hb) hl hgo fun p' vs H' s n hp rr => ?_
        have sv' : Sv B M W σ H' δ1 := sv.step (s.anti sv.good.wm) sh
        exact po M W _ H' (sv'.setD (not_own hno) ⟨p', vs, rfl, sv.good.notM n, hp, Reps.anti (fun _ m => .inl m) rs rr⟩)
    · cases h7
theorem c_sto {i : Nat} {n : Str} (h0 : okC N sc (.sto i b e) (.Assign [.Subscript (.Name n p) y p2] x pos) = true) (hb : SE U T lv md N sc b y) (he : SE U T lv md N sc e x) : SC U T lv md N sc (.sto i b e) (.Assign [.Subscript (.Name n p) y p2] x pos) := fun X ok hfn hN hs δ o h B M W σ H Dn sv po => by
  have h' : (varB N sc i n && (okE N sc b y && (okE N sc e x && !isLc x))) = true := h0
  simp only [Bool.and_eq_true, Bool.not_eq_true'] at h'
  obtain ⟨hv, _, _, hl⟩ := h'
  obtain ⟨v1, v2, v3, v4⟩ := var_of hv hN hs
  refine wS_of (ps_asg pe_w (pg_sub (pe_var v1 v2 v3 v4) pe_w set_list (assign_sub hb.ok)) (by unfold swapsWithSole; exact swap_no hl) (by cases x <;> rfl) rfl) (ex_case ok hN hs he sv po h fun d δ1 v H1 s1 r1 hk st1 => ?_)
  split at hk
  · rename_i ho
    have ho : ∃ oc, δ1[i]? = some (some (.own oc)) := by
      unfold isOwn at ho
      split at ho
      · rename_i oc e; exact ⟨oc, e⟩
      · cases ho
    obtain ⟨oc0, ho⟩ := ho
    obtain ⟨a0, us0, hs0, hw0, hp0, ru0⟩ := s1.env.getO ho
    refine ⟨_, hs0, ?_⟩
    refine ex_case ok hN hs hb s1 po hk fun d2 δ2 v2 H2 s2 r2 hk2 st2 => ?_
    split at hk2
    · rename_i jx ls hls
      obtain ⟨k, hk3, e⟩ := Option.map_eq_some_iff.mp hk2
      cases e
      obtain ⟨a1, us1, hs1, hw1, hp1, vs', rfl, r'⟩ := s2.env.getO hls
      rw [hs0] at hs1
      cases hs1
      refine ⟨a0, vs', jx, k, rfl, r2, hp1, by rw [r'.len]; exact hk3, po M W σ _ ⟨s2.good.put, s2.env.put s2.good.wm hls hs0 hw0 ⟨_, rfl, Reps.set r' (st2.rep r1)⟩, s2.mm, s2.mn, s2.ww, s2.wn, s2.xt' (Xt.put hw0), fun l zs z => ?_⟩⟩
      obtain ⟨ys, z1, z2⟩ := s2.kp l zs z
      by_cases hl : i = l
      · subst hl
        exact ⟨_, List.getElem?_set_self (List.getElem?_eq_some_iff.mp hls).1, z2⟩
      · exact ⟨ys, by rw [List.getElem?_set_ne hl]; exact z1, z2⟩
    · cases hk2
  · cases hk
theorem c_fld {i : Nat} {n f g : Str} (h0 : okC N sc (.fld i f e) (.Assign [.Attribute (.Name n p) g p2] x pos) = true) (he : SE U T lv md N sc e x) : SC U T lv md N sc (.fld i f e) (.Assign [.Attribute (.Name n p) g p2] x pos) := fun X ok hfn hN hs δ o h B M W σ H Dn sv po => by
  have h' : (varB N sc i n && (decide (f = g) && (okE N sc e x && !isLc x))) = true := h0
  simp only [Bool.and_eq_true, Bool.not_eq_true', decide_eq_true_eq] at h'
  obtain ⟨hv, rfl, _, hl⟩ := h'
  obtain ⟨v1, v2, v3, v4⟩ := var_of hv hN hs
  refine wS_of (ps_fld (pe_var v1 v2 v3 v4) pe_w (swap_no hl)) (ex_case ok hN hs he sv po h fun d δ1 v H1 s1 r1 hk st1 => ?_)
  split at hk
  · rename_i A ns ds hA
    obtain ⟨⟨hfl, hlen⟩, e⟩ := req_some hk
    cases e
    obtain ⟨c, na⟩ := ok.wd.fld A f hfl
    rw [← ok.K] at c na
    obtain ⟨a0, ob, hs0, hW, hh, dx, vs, rfl, hle, r⟩ := s1.env.getO hA
    refine ⟨_, hs0, a0, A, dx, _, rfl, hh, c, na, ?_, ?_⟩
    · rw [List.length_zip]; omega
    obtain ⟨vs', e1, e2⟩ := putF_zip (fl := f) (.inl r1) hle r
    rw [e1]
    refine po M W σ _ ⟨s1.good.put, s1.env.put s1.good.wm hA hs0 hW ⟨dx, vs', rfl, putN_len hle, e2⟩, s1.mm, s1.mn, s1.ww, s1.wn, s1.xt' (Xt.put hW), fun l zs z => ?_⟩
    obtain ⟨ys, z1, z2⟩ := s1.kp l zs z
    by_cases hl : i = l
    · subst hl
      exact ⟨_, List.getElem?_set_self (List.getElem?_eq_some_iff.mp hA).1, z2⟩
    · exact ⟨ys, by rw [List.getElem?_set_ne hl]; exact z1, z2⟩
  · cases hk
end
end RE
set_option Elab.async false
set_option linter.all false
set_option maxRecDepth 100000
set_option autoImplicit false
set_option maxHeartbeats 1000000
/-! REr: several names at once, branches, loops, blocks. -/
namespace RE
open PySem PySem.Spec PyProof.Rows L2 TL
section
variable {U : Sd} {T : Tb} {lv : Nat} {md : Md} {N : List Str} {sc scope : Scope} {X : Cx} {e a b c : E} {x y z w elt : Expr} {es as kv : List E} {xs ys fs : List Expr} {pos p p2 p3 : Pos} {δ δ1 δ' : TL.Env} {cs ct cb : List C} {ss st sb : List Stmt}
/-! ### blocks -/
theorem b_nil : SB U T lv md N sc [] [] := fun X ok hfn hN hs δ o h B M W σ H Dn sv po => by
  cases h
  exact wB_of pss_nil (po M W σ H sv)
theorem b_cons {d : C} {s : Stmt} (h1 : SC U T lv md N sc d s) (h2 : SB U T lv md N sc cs ss) : SB U T lv md N sc (d :: cs) (s :: ss) := fun X ok hfn hN hs δ o h B M W σ H Dn sv po => by
  refine wB_of (pss_cons ps_w pss_w) ?_
  simp only [evB] at h
  split at h
  · rename_i δ1 h3
    exact h1 X ok hfn hN hs δ _ h3 B M W σ H _ sv fun M' W' σ' H' sv' => h2 X ok hfn hN hs δ1 o h B M' W' σ' H' Dn sv' po
  · rename_i hnx
    refine h1 X ok hfn hN hs δ o h B M W σ H _ sv ?_
    cases o with
    | nx δ1 => exact absurd h (hnx δ1)
    | bk δ1 => exact po
    | ct δ1 => exact po
    | rt r δ1 => cases r <;> exact po
    | xc v δ1 => exact po
/-! ### branches -/
theorem c_ifs (hc : SE U T lv md N sc c x) (h1 : SB U T lv md N sc cs ss) (h2 : SB U T lv md N sc ct st) : SC U T lv md N sc (.ifs c cs ct) (.If x ss st pos) := fun X ok hfn hN hs δ o h B M W σ H Dn sv po => by
  refine wS_of (ps_if pt_w pss_w pss_w) ?_
  simp only [evC] at h
  split at h
  · rename_i v δ1 h3
    cases h
    obtain ⟨Wx, tk, k⟩ := po
    have j : JXT X x δ v δ1 := hc.jt ok hN hs h3
    exact j M W σ H _ sv.good sv.env (sv.kx (ee_sh c true h3) tk k)
  · rename_i δ1 h3
    have j : TT X x δ true δ1 := hc.jt ok hN hs h3
    refine j M W σ H _ sv.good sv.env fun H1 s1 => ?_
    rw [if_pos rfl]
    exact h1 X ok hfn hN hs δ1 o h B M W σ H1 Dn (sv.step s1 (ee_sh c true h3)) po
  · rename_i δ1 h3
    have j : TT X x δ false δ1 := hc.jt ok hN hs h3
    refine j M W σ H _ sv.good sv.env fun H1 s1 => ?_
    rw [if_neg Bool.false_ne_true]
    exact h2 X ok hfn hN hs δ1 o h B M W σ H1 Dn (sv.step s1 (ee_sh c true h3)) po
  · cases h
/-! ### while -/
theorem c_whl (hc : SE U T lv md N sc c x) (h1 : SB U T lv md N sc cs ss) : SC U T lv md N sc (.whl c cs) (.While x ss [] pos) := fun X ok hfn hN hs δ o h B M W σ H Dn sv po => by
  refine wS_of (ps_while ok.pass pt_w pss_w) ⟨fun m σ' H' => ∃ M' W' δk, Sv B M' W' σ' H' δk ∧ whlGo (ee U.G T md true c) (evB U.G T md cs) m δk = some o, ⟨_, M, W, δ, sv, h⟩, ?_⟩
  rintro m σ' H' ⟨M', W', δk, sk, hk⟩
  cases m with
  | zero => cases hk
  | succ m =>
    simp only [whlGo] at hk
    split at hk
    · rename_i v δ2 h3
      cases hk
      obtain ⟨Wx, tk, k⟩ := po
      have j : JXT X x δk v δ2 := hc.jt ok hN hs h3
      exact j M' W' σ' H' _ sk.good sk.env (sk.kx (ee_sh c true h3) tk k)
    · rename_i δ2 h3
      have j : TT X x δk true δ2 := hc.jt ok hN hs h3
      refine j M' W' σ' H' _ sk.good sk.env fun H1 s1 => ?_
      rw [if_pos rfl]
      have s2 := sk.step s1 (ee_sh c true h3)
      refine ⟨fun σ2 H2 => ∃ M2 W2 δ3, Sv B M2 W2 σ2 H2 δ3 ∧ whlGo (ee U.G T md true c) (evB U.G T md cs) m δ3 = some o, fun σ2 H2 n => ⟨m, Nat.lt_succ_self m, n⟩, ?_⟩
      have key : ∀ ob, evB U.G T md cs δ2 = some ob → PoS X B { nx := fun σ2 H2 => ∃ M2 W2 δ3, Sv B M2 W2 σ2 H2 δ3 ∧ whlGo (ee U.G T md true c) (evB U.G T md cs) m δ3 = some o, rt := Dn.rt, bk := Dn.nx, ct := fun σ2 H2 => ∃ M2 W2 δ3, Sv B M2 W2 σ2 H2 δ3 ∧ whlGo (ee U.G T md true c) (evB U.G T md cs) m δ3 = some o } ob → wB X ss { Dn with nx := fun σ2 H2 => ∃ M2 W2 δ3, Sv B M2 W2 σ2 H2 δ3 ∧ whlGo (ee U.G T md true c) (evB U.G T md cs) m δ3 = some o, ct := fun σ2 H2 => ∃ M2 W2 δ3, Sv B M2 W2 σ2 H2 δ3 ∧ whlGo (ee U.G T md true c) (evB U.G T md cs) m δ3 = some o, bk := Dn.nx } σ' H1 := fun ob hob pob => h1 X ok hfn hN hs δ2 ob hob B M' W' σ' H1 _ s2 pob
      split at hk
      · rename_i δ3 h4; exact key _ h4 fun M2 W2 σ2 H2 sv2 => ⟨M2, W2, δ3, sv2, hk⟩
      · rename_i δ3 h4; exact key _ h4 fun M2 W2 σ2 H2 sv2 => ⟨M2, W2, δ3, sv2, hk⟩
      · rename_i δ3 h4; cases hk; exact key _ h4 po
      · rename_i n1 n2 n3
        refine key o hk ?_
        cases o with
        | nx δ3 => exact absurd hk (n1 δ3)
        | ct δ3 => exact absurd hk (n2 δ3)
        | bk δ3 => exact absurd hk (n3 δ3)
        | rt r δ3 => cases r <;> exact po
        | xc v δ3 => exact po
    · rename_i δ2 h3
      cases hk
      have j : TT X x δk false δ2 := hc.jt ok hN hs h3
      refine j M' W' σ' H' _ sk.good sk.env fun H1 s1 => ?_
      rw [if_neg Bool.false_ne_true]
      exact po M' W' σ' H1 (sk.step s1 (ee_sh c true h3))
    · cases hk
/-! ### for -/
theorem c_for {i : Nat} {n : Str} {k : Ik} {it : Expr} (hn : N[i]? = some n) (hloc : sc.names.lookup n = some .local) (hib : itB sc k it = true) (hi : A2 (SE U T lv md N sc) es (itXs k it)) (h1 : SB U T lv md N sc cs ss) : SC U T lv md N sc (.for_ (.one i) k es cs) (.For (.Name n p) it ss [] pos) := fun X ok hfn hN hs δ o h B M W σ H Dn sv po => by
  have hf := fold_set (env := X.env) (it_set (its := es) hib)
  have pg : PG X (.Name n p) (gName i) := pg_name ok.nd (by rw [hN]; exact hn) (.inl (by rw [hs]; exact hloc)) (.inl (hfn.fn n))
  simp only [evC] at h
  split at h
  · cases h
  · rename_i ds δ1 h2
    split at h
    case isFalse => cases h
    rename_i hcm
    obtain ⟨ls, hls, h⟩ := Option.bind_eq_some_iff.mp h
    obtain ⟨wi, pi, hwi⟩ := s_it (tg := .Name n p) ok hN hs hib hi h2 hls
    refine wS_of (ps_for ok.pass (ok.calm hcm) pi pg pss_w hf) (hwi M W σ H _ sv.good sv.env fun J vs H1 s1 r1 wk => ?_)
    refine ⟨fun q m σ' H' => m = ls.length - q ∧ q ≤ ls.length ∧ ∃ M' W' δk, Sv B M' W' σ' H' δk ∧ Reps M' H' ds vs ∧ forGo (evB U.G T md cs) (.one i) (ls.drop q) δk = some o, ⟨ls.length, by simp, Nat.zero_le _, M, W, δ1, sv.step s1 (evs_sh es h2), r1, by rw [List.drop_zero]; exact h⟩, ?_⟩
    rintro q m σ' H' ⟨rfl, hq, M', W', δk, sk, rds, hk⟩
    by_cases hlt : q < ls.length
    · obtain ⟨d, hd⟩ : ∃ d, ls[q]? = some d := ⟨_, List.getElem?_eq_getElem hlt⟩
      obtain ⟨j1, j2⟩ := wk.go M' W' H' q d sk.good rds hd
      have hdrop : ls.drop q = d :: ls.drop (q + 1) := by
        obtain ⟨h1, h2⟩ := List.getElem?_eq_some_iff.mp hd
        rw [← h2]; exact List.drop_eq_getElem_cons h1
      rw [hdrop] at hk
      simp only [forGo] at hk
      split at hk
      · cases hk
      · rename_i δ0 h0
        have h0 : (if isOwn δk i = true then none else some (δk.set i (some (.im d)))) = some δ0 := h0
        split at h0
        · cases h0
        · rename_i hno
          cases h0
          refine .inr ⟨j1, fun σ2 H2 => ∃ M' W' δk, Sv B M' W' σ2 H2 δk ∧ Reps M' H2 ds vs ∧ forGo (evB U.G T md cs) (.one i) (ls.drop (q + 1)) δk = some o, fun σ2 H2 p2 => ⟨ls.length - (q + 1), by omega, rfl, hlt, p2⟩, fun v H2 hy => ?_⟩
          obtain ⟨ex, rv⟩ := j2 v H2 hy
          have sk2 : Sv B M' W' σ' H2 δk := ⟨sk.good.ext ex, sk.env.ext ex, sk.mm, sk.mn, sk.ww, sk.wn, sk.xt' (Xt.of ex), sk.kp⟩
          have sk3 := sk2.setD (not_own hno) rv
          have rds2 : Reps M' H2 ds vs := Reps.ex (Xt.of ex) ds rds
          show wB X ss _ (σ'.set i (some v)) H2
          have key : ∀ ob, evB U.G T md cs (δk.set i (some (.im d))) = some ob → PoS X ⟨M', W', H2, σ'.set i (some v), δk.set i (some (.im d))⟩ { nx := fun σ2 H2 => ∃ M' W' δk, Sv B M' W' σ2 H2 δk ∧ Reps M' H2 ds vs ∧ forGo (evB U.G T md cs) (.one i) (ls.drop (q + 1)) δk = some o, rt := Dn.rt, bk := Dn.nx, ct := fun σ2 H2 => ∃ M' W' δk, Sv B M' W' σ2 H2 δk ∧ Reps M' H2 ds vs ∧ forGo (evB U.G T md cs) (.one i) (ls.drop (q + 1)) δk = some o } ob →
              wB X ss { Dn with nx := fun σ2 H2 => ∃ M' W' δk, Sv B M' W' σ2 H2 δk ∧ Reps M' H2 ds vs ∧ forGo (evB U.G T md cs) (.one i) (ls.drop (q + 1)) δk = some o, ct := fun σ2 H2 => ∃ M' W' δk, Sv B M' W' σ2 H2 δk ∧ Reps M' H2 ds vs ∧ forGo (evB U.G T md cs) (.one i) (ls.drop (q + 1)) δk = some o, bk := Dn.nx } (σ'.set i (some v)) H2 := fun ob hob pob => h1 X ok hfn hN hs _ ob hob _ M' W' _ H2 _ (Sv.refl sk3.good sk3.env) pob
          split at hk
          · rename_i δ3 h4; exact key _ h4 fun M2 W2 σ2 H3 sv2 => ⟨M2, W2, δ3, sk3.trans sv2, Sv.reps sk3.good sv2 rds2, hk⟩
          · rename_i δ3 h4; exact key _ h4 fun M2 W2 σ2 H3 sv2 => ⟨M2, W2, δ3, sk3.trans sv2, Sv.reps sk3.good sv2 rds2, hk⟩
          · rename_i δ3 h4; cases hk; exact key _ h4 fun M2 W2 σ2 H3 sv2 => po M2 W2 σ2 H3 (sk3.trans sv2)
          · rename_i n1 n2 n3
            refine key o hk ?_
            have po' := PoS.sub sk3 po
            cases o with
            | nx δ3 => exact absurd hk (n1 δ3)
            | ct δ3 => exact absurd hk (n2 δ3)
            | bk δ3 => exact absurd hk (n3 δ3)
            | rt r δ3 => cases r <;> exact po'
            | xc v δ3 => exact po'
    · have hke : q = ls.length := by omega
      subst hke
      rw [List.drop_length] at hk
      simp only [forGo] at hk
      cases hk
      exact .inl ⟨wk.stop M' W' H' sk.good rds, po M' W' σ' H' sk⟩
  · cases h
end
end RE
set_option Elab.async false
set_option linter.all false
set_option maxRecDepth 100000
set_option autoImplicit false
set_option maxHeartbeats 1000000
/-! REs: a, b = e1, e2; every statement; a def's body. -/
namespace RE
open PySem PySem.Spec PyProof.Rows L2 TL
theorem three_of {α : Type} : ∀ {l : List α}, l.length = 3 → ∃ a b c, l = [a, b, c]
  | [a, b, c], _ => ⟨a, b, c, rfl⟩
  | [], h => by cases h
  | [_], h => by cases h
  | [_, _], h => by cases h
  | _ :: _ :: _ :: _ :: _, h => by simp at h
theorem swapped2 {x y : Str} {px py pt : Pos} {kt k2 : Nat} {pt2 : Pos} {a b : Expr} {env : PySem.Env} (hk : env.scope.kind = .function) (hx : env.scope.names.lookup x = some .local) (hy : env.scope.names.lookup y = some .local) (hl : py.line = px.line) (hne : x ≠ y) (sa : isStar a = false) (sb : isStar b = false)
    (h1 : [a, b].all (foldedForSure 8) = false) (h2 : [a, b].all (constantsAlone 8) = false) : swappedStores [.Tuple [.Name x px, .Name y py] kt pt] (.Tuple [a, b] k2 pt2) env = pure (some [x, y]) := by
  have kx : env.kindOf x = some .local := hx
  have ky : env.kindOf y = some .local := hy
  have hb : env.blockKind = .function := by unfold Env.blockKind; rw [hk]; rfl
  have n1 : (y == x) = false := by rw [beq_eq_false_iff_ne]; exact fun z => hne z.symm
  have n2 : (x == y) = false := by rw [beq_eq_false_iff_ne]; exact hne
  unfold swappedStores
  simp only [hb, kx, ky, h1, h2, hl, Expr.pos, List.head?_cons, Option.map_some, Option.getD_some, List.filterMap_cons, List.filterMap_nil, beq_self_eq_true, Bool.and_self, if_true, List.eraseDups_cons, List.length_cons, List.length_nil, List.filter_cons, List.filter_nil, n1, n2, Bool.not_false, bne_self_eq_false]
  rw [if_neg (by decide), if_neg (by
    rw [Bool.not_eq_true, List.any_eq_false]
    intro e he
    have hs : isStar e = false := by
      rcases List.mem_cons.mp he with rfl | he
      · exact sa
      · rw [List.mem_singleton.mp he]; exact sb
    cases e <;> first | (intro z; cases z; done) | (cases hs; done)), if_neg (by decide), if_neg (by decide), if_neg (by decide)]
theorem swapped3 {x y w : Str} {px py pw pt : Pos} {kt k2 : Nat} {pt2 : Pos} {a b c : Expr} {env : PySem.Env} (hk : env.scope.kind = .function) (hx : env.scope.names.lookup x = some .local) (hy : env.scope.names.lookup y = some .local) (hw : env.scope.names.lookup w = some .local) (hl : py.line = px.line) (hl2 : pw.line = px.line) (hxy : x ≠ y) (hxw : x ≠ w) (hyw : y ≠ w) (sa : isStar a = false) (sb : isStar b = false) (sc : isStar c = false)
    (h1 : [a, b, c].all (foldedForSure 8) = false) (h2 : [a, b, c].all (constantsAlone 8) = false) : swappedStores [.Tuple [.Name x px, .Name y py, .Name w pw] kt pt] (.Tuple [a, b, c] k2 pt2) env = pure (some [x, y, w]) := by
  have kx : env.kindOf x = some .local := hx
  have ky : env.kindOf y = some .local := hy
  have kw : env.kindOf w = some .local := hw
  have hb : env.blockKind = .function := by unfold Env.blockKind; rw [hk]; rfl
  have ne : ∀ {p q : Str}, p ≠ q → (p == q) = false := fun h => by rw [beq_eq_false_iff_ne]; exact h
  have n1 := ne hxy
  have n2 := ne hxw
  have n3 := ne hyw
  have n4 := ne hxy.symm
  have n5 := ne hxw.symm
  have n6 := ne hyw.symm
  unfold swappedStores
  simp only [hb, kx, ky, kw, h1, h2, hl, hl2, Expr.pos, List.head?_cons, Option.map_some, Option.getD_some, List.filterMap_cons, List.filterMap_nil, beq_self_eq_true, Bool.and_self, if_true, List.eraseDups_cons, List.length_cons, List.length_nil, List.filter_cons, List.filter_nil, n1, n2, n3, n4, n5, n6, Bool.not_false, bne_self_eq_false]
  rw [if_neg (by decide), if_neg (by
    rw [Bool.not_eq_true, List.any_eq_false]
    intro e he
    have hs : isStar e = false := by
      rcases List.mem_cons.mp he with rfl | he
      · exact sa
      · rcases List.mem_cons.mp he with rfl | he
        · exact sb
        · rw [List.mem_singleton.mp he]; exact sc
    cases e <;> first | (intro z; cases z; done) | (cases hs; done)), if_neg (by decide), if_neg (by decide), if_neg (by decide)]
section
variable {U : Sd} {T : Tb} {lv : Nat} {md : Md} {N : List Str} {sc scope : Scope} {X : Cx} {e a b c : E} {x y z w elt : Expr} {es as kv : List E} {xs ys fs : List Expr} {pos p p2 p3 : Pos} {δ δ1 δ' : TL.Env} {cs ct cb : List C} {ss st sb : List Stmt}
theorem nm_ne {i j : Nat} {n m : Str} (hn : N[i]? = some n) (hm : N[j]? = some m) (hd : N.Nodup) (hij : i ≠ j) : n ≠ m := fun z => by
  subst z
  exact hij (nodup_ix hd hn hm)
theorem parB_len : ∀ {is : List Nat} {xs : List Expr} {l : Nat}, parB N sc is xs l = true → is.length = xs.length
  | [], [], _, _ => rfl
  | [], _ :: _, _, h => by cases h
  | _ :: _, [], _, h => by cases h
  | i :: is, x :: xs, l, h => by
    have h' := h
    unfold parB at h'
    rw [Bool.and_eq_true] at h'
    simp [parB_len h'.2]
theorem c_par {is : List Nat} {kt k2 : Nat} {pt pt2 : Pos} (hk : sc.kind = .function) (h0 : okC N sc (.par is es) (.Assign [.Tuple xs kt pt] (.Tuple ys k2 pt2) pos) = true) (ha : A2 (SE U T lv md N sc) es ys) : SC U T lv md N sc (.par is es) (.Assign [.Tuple xs kt pt] (.Tuple ys k2 pt2) pos) := fun X ok hfn hN hs δ o h B M W σ H Dn sv po => by
  have h' : (parB N sc is xs ((xs.head?.map (·.pos.line)).getD 0) && (okEs N sc es ys && (decide (ys.length = xs.length) && ((decide (xs.length = 2) || decide (xs.length = 3)) && (decide is.Nodup && (!ys.all (foldedForSure 8) && !ys.all (constantsAlone 8))))))) = true := h0
  simp only [Bool.and_eq_true, Bool.or_eq_true, decide_eq_true_eq, Bool.not_eq_true'] at h'
  obtain ⟨h1, _, h2, h3, h4, h5, h6⟩ := h'
  have hst := okEs_of ha
  have hnd := ok.nd
  rw [hN] at hnd
  simp only [evC] at h
  split at h
  case isFalse => cases h
  rename_i hcm
  have hev : (∃ v δ1, evs U.G T md es δ = some (.inr v, δ1) ∧ o = .xc v δ1) ∨ ∃ ds δ1, evs U.G T md es δ = some (.inl ds, δ1) ∧ is.any (isOwn δ1) = false ∧ o = .nx (setAll δ1 is ds) := by
    split at h
    · rename_i v δ1 hv; cases h; exact .inl ⟨v, δ1, hv, rfl⟩
    · rename_i ds δ1 hv
      split at h
      · cases h
      · rename_i hno; cases h; exact .inr ⟨ds, δ1, hv, by simpa using hno, rfl⟩
    · cases h
  have nown : ∀ {δ1 : TL.Env} {i : Nat}, is.any (isOwn δ1) = false → i ∈ is → ∀ oc, δ1[i]? ≠ some (some (.own oc)) := fun hno hi => not_own (List.any_eq_false.mp hno _ hi)
  have setne : ∀ {δ1 : TL.Env} {i j : Nat} {d : D}, i ≠ j → (∀ oc, δ1[j]? ≠ some (some (.own oc))) → ∀ oc, (δ1.set i (some (.im d)))[j]? ≠ some (some (.own oc)) := fun hij hn oc => by
    rw [List.getElem?_set_ne hij]; exact hn oc
  rcases h3 with h3 | h3
  · obtain ⟨x1, x2, rfl⟩ := two_of h3
    obtain ⟨y1, y2, rfl⟩ := two_of (h2.trans h3)
    obtain ⟨i, j, rfl⟩ := two_of ((parB_len h1).trans h3)
    · skip
      simp only [parB, Bool.and_true, Bool.and_eq_true] at h1
      obtain ⟨q1, q2⟩ := h1
      cases x1 <;> first | (cases q1; done) | skip
      cases x2 <;> first | (cases q2; done) | skip
      rename_i n1 p1 n2 p2
      simp only [Bool.and_eq_true, decide_eq_true_eq, locB, List.head?_cons, Option.map_some, Option.getD_some, Expr.pos] at q1 q2
      have hij : i ≠ j := by
        intro z; subst z; simp at h4
      have hw := swapped2 (px := p1) (py := p2) (pt := pt) (kt := kt) (k2 := k2) (pt2 := pt2) (env := X.env) (by rw [hs]; exact hk) (by rw [hs]; exact q1.2.1) (by rw [hs]; exact q2.2.1) (of_decide_eq_true q2.2.2) (nm_ne q1.1 q2.1 hnd hij) (hst y1 (by simp)) (hst y2 (by simp)) h5 h6
      refine wS_of (ps_par (ok.calm hcm) ok.nd (by rw [hN]; exact q1.1) (by rw [hN]; exact q2.1) hij (by rw [hs]; exact q1.2.1) (by rw [hs]; exact q2.2.1) pa_w hw (by unfold swapsWithSole; rfl)) ?_
      rcases hev with ⟨v, δ1, hv, rfl⟩ | ⟨ds, δ1, hv, hno, rfl⟩
      · obtain ⟨Wx, tk, k⟩ := po
        have j : JXA X [y1, y2] δ v δ1 := s_args ok hN hs ha hv
        exact j M W σ H _ sv.good sv.env (sv.kx (evs_sh es hv) tk k)
      · have ta : TA X [y1, y2] δ ds δ1 := s_args ok hN hs ha hv
        have hl : ds.length = 2 := by rw [evs_len hv, ha.len]; rfl
        obtain ⟨d1, d2, rfl⟩ := two_of hl
        refine ta M W σ H _ sv.good sv.env fun vs H1 s1 r1 => ?_
        obtain ⟨u1, u2, rfl, r1, r2⟩ := reps2 r1
        refine ⟨u1, u2, rfl, po M W _ H1 ?_⟩
        have s2 := sv.step s1 (evs_sh es hv)
        exact (s2.setD (nown hno (by simp)) r1).setD (setne hij (nown hno (by simp))) r2
  · obtain ⟨x1, x2, x3, rfl⟩ := three_of h3
    obtain ⟨y1, y2, y3, rfl⟩ := three_of (h2.trans h3)
    obtain ⟨i, j, l, rfl⟩ := three_of ((parB_len h1).trans h3)
    · skip
      simp only [parB, Bool.and_true, Bool.and_eq_true] at h1
      obtain ⟨q1, q2, q3⟩ := h1
      cases x1 <;> first | (cases q1; done) | skip
      cases x2 <;> first | (cases q2; done) | skip
      cases x3 <;> first | (cases q3; done) | skip
      rename_i n1 p1 n2 p2 n3 p3
      simp only [Bool.and_eq_true, decide_eq_true_eq, locB, List.head?_cons, Option.map_some, Option.getD_some, Expr.pos] at q1 q2 q3
      have hij : i ≠ j := by intro z; subst z; simp at h4
      have hil : i ≠ l := by intro z; subst z; simp at h4
      have hjl : j ≠ l := by intro z; subst z; simp at h4
      have hw := swapped3 (px := p1) (py := p2) (pw := p3) (pt := pt) (kt := kt) (k2 := k2) (pt2 := pt2) (env := X.env) (by rw [hs]; exact hk) (by rw [hs]; exact q1.2.1) (by rw [hs]; exact q2.2.1) (by rw [hs]; exact q3.2.1) (of_decide_eq_true q2.2.2) (of_decide_eq_true q3.2.2) (nm_ne q1.1 q2.1 hnd hij) (nm_ne q1.1 q3.1 hnd hil) (nm_ne q2.1 q3.1 hnd hjl) (hst y1 (by simp)) (hst y2 (by simp)) (hst y3 (by simp)) h5 h6
      refine wS_of (ps_par3 (ok.calm hcm) ok.nd (by rw [hN]; exact q1.1) (by rw [hN]; exact q2.1) (by rw [hN]; exact q3.1) hij hil hjl (by rw [hs]; exact q1.2.1) (by rw [hs]; exact q2.2.1) (by rw [hs]; exact q3.2.1) pa_w hw (by unfold swapsWithSole; rfl)) ?_
      rcases hev with ⟨v, δ1, hv, rfl⟩ | ⟨ds, δ1, hv, hno, rfl⟩
      · obtain ⟨Wx, tk, k⟩ := po
        have j : JXA X [y1, y2, y3] δ v δ1 := s_args ok hN hs ha hv
        exact j M W σ H _ sv.good sv.env (sv.kx (evs_sh es hv) tk k)
      · have ta : TA X [y1, y2, y3] δ ds δ1 := s_args ok hN hs ha hv
        have hl : ds.length = 3 := by rw [evs_len hv, ha.len]; rfl
        obtain ⟨d1, d2, d3, rfl⟩ := three_of hl
        refine ta M W σ H _ sv.good sv.env fun vs H1 s1 r1 => ?_
        obtain ⟨u1, r, rfl, r1, u2, r', rfl, r2, u3, r'', rfl, r3, e⟩ := r1
        have e : r'' = [] := e
        subst e
        refine ⟨u1, u2, u3, rfl, po M W _ H1 ?_⟩
        have s2 := sv.step s1 (evs_sh es hv)
        exact ((s2.setD (nown hno (by simp)) r1).setD (setne hij (nown hno (by simp))) r2).setD (setne hjl (setne hil (nown hno (by simp)))) r3
end
end RE
set_option Elab.async false
set_option linter.all false
set_option maxRecDepth 100000
set_option autoImplicit false
set_option maxHeartbeats 1000000
/-! REsa: raise; try with several handlers, with names or without. -/
namespace RE
open PySem PySem.Spec PyProof.Rows L2 TL
/-- the handlers of a try: their classes, their suites' readings -/
inductive HdM (X : Cx) : List ExceptHandler → List (Value × (Addr → Value → Option Addr → L2.TS)) → Prop
  | nil : HdM X [] []
  | plain {x : Str} {c : Value} {ts : Addr → Value → Option Addr → L2.TS} {b₀ : Stmt} {suite : List Stmt} {np pos' : Pos} {hds : List ExceptHandler} {l : List (Value × (Addr → Value → Option Addr → L2.TS))} (hc : Names X x c)
      (hsu : ∀ (ea : Addr) (oe : Obj) (cl : Value) (dd : Option Addr) (pn : List (Addr × Obj)), Zc cl dd oe → (∃ vs, oe.data = .fields vs) → PSs (X.suite ea ((ea, oe) :: pn)) (b₀ :: suite) (ts ea cl dd)) (r : HdM X hds l) :
      HdM X (.ExceptHandler (some (.Name x np)) none (b₀ :: suite) pos' :: hds) ((c, ts) :: l)
  | named {x n : Str} {i : Nat} {c : Value} {ts : Addr → Value → Option Addr → L2.TS} {b₀ : Stmt} {suite : List Stmt} {np pos' : Pos} {hds : List ExceptHandler} {l : List (Value × (Addr → Value → Option Addr → L2.TS))} (hc : Names X x c) (hN : X.N.Nodup) (hi : X.N[i]? = some n) (hln : X.env.kindOf n = some .local)
      (hsu : ∀ (ea : Addr) (oe : Obj) (cl : Value) (dd : Option Addr) (pn : List (Addr × Obj)), Zc cl dd oe → (∃ vs, oe.data = .fields vs) → PSs (X.suite ea ((ea, oe) :: pn)) (b₀ :: suite) (ts ea cl dd)) (r : HdM X hds l) :
      HdM X (.ExceptHandler (some (.Name x np)) (some n) (b₀ :: suite) pos' :: hds) ((c, fun ea cl dd D σ H => ts ea cl dd { nx := fun τ G => D.nx (τ.set i none) G, rt := D.rt, bk := fun τ G => D.bk (τ.set i none) G, ct := fun τ G => D.ct (τ.set i none) G } (σ.set i (some (.ref ea))) H) :: l)
section
variable {X : Cx} {body : List Stmt} {h₀ : ExceptHandler} {hds : List ExceptHandler} {l : List (Value × (Addr → Value → Option Addr → L2.TS))} {pos : Pos} {tb : WX → L2.TS} {Wout : WX}
theorem ps_tryM (hs : X.stack = X.env :: X.outer) (hf : X.env.frame = some X.env.locals) (tk : Takes X Wout)
    (hb : ∀ (W : WX) (pn : List (Addr × Obj)) (xe : Value → Shared → Prop), Takes (X.tr pn xe) W → PassesOwn (model X.prog X.w) X.A X.env xe → PSs (X.tr pn xe) body (tb W))
    (hh : HdM X (h₀ :: hds) l) : PS X (.Try body (h₀ :: hds) [] [] pos) (fun D σ H => tb (wMany X.K Wout D l) D σ H) := by
  refine ⟨fun pns s σ H D I h => ?_⟩
  have oks := I.ok
  have frs' : X.A.frames = some (X.env :: X.outer) := by rw [oks.frames, hs]
  refine wpAny_Try_except ?_
  refine wpAny_mono ((hb (wMany X.K Wout D l) (X.pn ++ pns) (fun er s1 => wpAny (model X.prog X.w) X.A (noteFrame er X.env) (fun _ s2 => wpAny (model X.prog X.w) X.A (setFlight er none) (fun _ s3 =>
    wpAny (model X.prog X.w) X.A (handleBy er X.env (h₀ :: hds)) (SP X pns D) X.xe s3) X.xe s2) X.xe s1) (fun er s1 thrown => ?_) PassesOwn.looking).run [] s σ H D (I.toTry _) h) (fun fl s1 fin => ?_) (fun _ _ z => z)
  · obtain ⟨ea, bh, sE, pns', τ, G, cl, dd, rfl, JT, nb, ups, sk, na, o1, a1, wish⟩ := thrown
    have Jx : Inv X pns τ G sE := JT.ofTry oks
    have sk' : Sky bh (X.env :: X.outer) ea (Zc cl dd) X.env.locals s1.heap := by rw [← hs]; exact sk
    show wpAny (model X.prog X.w) X.A (noteFrame (.ref ea) X.env) _ _ _
    refine Sky.land Zc.steady frs' hf sk' fun k3 fly3 ups3 => ?_
    have J3 : Inv X pns τ G { s1 with heap := k3 } := Jx.landed nb fly3.1 (ups.trans ups3) o1 a1
    obtain ⟨oe3, ws3, at3, z3, f3⟩ := fly3.there
    have nfr : ea ∉ frs (X.env :: X.outer) := fun hm => by
      obtain ⟨_, ob, e', hnf⟩ := fly3.2.2.1.mem hm
      rw [at3] at e'
      cases e'
      exact hnf _ f3
    have nL : ea ≠ X.env.locals := fun z => nfr (List.mem_filterMap.mpr ⟨X.env, List.mem_cons_self, by rw [hf, z]⟩)
    have nF : ea ∉ X.fs := fun hm => by
      obtain ⟨en, he, q⟩ := List.mem_filterMap.mp hm
      exact nfr (List.mem_filterMap.mpr ⟨en, List.mem_cons_of_mem _ he, q⟩)
    have S3 := J3.suite at3 f3 na nL nF
    have ask : ∀ {x : Str} {c : Value} {np : Pos} {Q : Value → Shared → Prop} {E : Value → Shared → Prop}, Names X x c → Q c { s1 with heap := k3 } → wpAny (model X.prog X.w) (X.A.mark (some (.ref ea))) (eval (.Name x np) X.env) Q E { s1 with heap := k3 } := fun {x c np Q E} hc q => by
      obtain ⟨hg, hdb, hm | ⟨hm, hv, hnn⟩⟩ := hc
      · exact ld_glob (X := X.suite ea ((ea, oe3) :: (X.pn ++ pns))) S3 hg hm q hdb
      · exact ld_blt (X := X.suite ea ((ea, oe3) :: (X.pn ++ pns))) S3 hg hm hv q hnn hdb
    have ty3 : PySem.W.Looks (model X.prog X.w) k3 (typeOf (.ref ea)) cl := fun A Q E s k q => wpAny_typeOf_ref (k _ _ at3) (by rw [z3.1]; exact q)
    have go : ∀ {hds' : List ExceptHandler} {l' : List (Value × (Addr → Value → Option Addr → L2.TS))}, HdM X hds' l' → wMany X.K Wout D l' cl dd τ G →
        wpAny (model X.prog X.w) X.A (handleBy (.ref ea) X.env hds') (SP X pns D) X.xe { s1 with heap := k3 } := by
      intro hds' l' hk
      induction hk with
      | nil =>
        intro wish
        refine wpAny_handleBy_nil ?_
        obtain ⟨y1, y2, y3, oy, ys, Ty, oT, us', hy, zy, dy, fy, ry⟩ := id fly3
        unfold PySem.passOn
        refine wpAny_bind (wpAny_field hy dy fy ?_)
        rw [if_neg (show ¬ ((Value.ref Ty == Value.none) = true) from by simp)]
        have out : wpAny (model X.prog X.w) X.A (setFlight (.ref ea) X.env.frame) (fun _ s4 => wpAny (model X.prog X.w) X.A (throw (.ref ea) : Sem Flow) (SP X pns D) X.xe s4) X.xe { s1 with heap := k3 } := by
          rw [hf]
          refine HandSPX.setFlight_upZ fly3 fun k4 held4 ups4 => wpAny_throw (tk _ _ ?_)
          exact ⟨ea, bh, sE, pns, τ, G, cl, dd, rfl, Jx, nb, (ups.trans ups3).trans ups4, .inr (.inr (by rw [hs]; exact held4)), na, o1, a1, wish⟩
        first
          | exact wpAny_bind (wpAny_pure (wpAny_bind out))
          | exact wpAny_bind out
      | @plain x c ts b₀ suite np pos' hds2 l2 hc hsu r ih =>
        intro wish
        obtain ⟨b, hb1, yes, no⟩ := wish
        refine wpAny_handleBy_cons (codeAny_handlers_test ?_) (by intro q; cases q)
        refine ask hc ((PySem.W.exm_one (M := model X.prog X.w) (J3.kIn) ty3 hb1).here ?_)
        cases b with
        | true =>
          refine codeAny_handlers_suite ?_
          refine HandSPX.lands_againZ fly3 fun k4 fly4 ups4 => ?_
          have J4 : Inv X pns τ G { s1 with heap := k4 } := Jx.landed nb fly4.1 ((ups.trans ups3).trans ups4) o1 a1
          obtain ⟨oe4, ws4, at4, z4, f4⟩ := fly4.there
          have S4 := J4.suite at4 f4 na nL nF
          refine wpAny_mono ((hsu ea oe4 cl dd (X.pn ++ pns) z4 ⟨_, f4⟩).run [] _ _ G _ S4 (yes rfl ea na)) (fun fl s6 hsp => ?_) (fun _ _ z => z.elim)
          cases fl with
          | next => obtain ⟨σ6, H6, S6, q6⟩ := hsp; exact ⟨_, _, S6.unsuite oks, q6⟩
          | brk => obtain ⟨σ6, H6, S6, q6⟩ := hsp; exact ⟨_, _, S6.unsuite oks, q6⟩
          | cont => obtain ⟨σ6, H6, S6, q6⟩ := hsp; exact ⟨_, _, S6.unsuite oks, q6⟩
          | ret u => obtain ⟨v6, σ6, H6, S6, r6, q6⟩ := hsp; exact ⟨_, _, _, S6.unsuite oks, r6, q6⟩
        | false =>
          show wpAny _ X.A (handleBy (.ref ea) X.env hds2) _ _ _
          exact ih (no rfl)
      | @named x n i c ts b₀ suite np pos' hds2 l2 hc hN hi hln hsu r ih =>
        intro wish
        obtain ⟨b, hb1, yes, no⟩ := wish
        refine wpAny_handleBy_cons (codeAny_handlers_test ?_) (by intro q; cases q)
        refine ask hc ((PySem.W.exm_one (M := model X.prog X.w) (J3.kIn) ty3 hb1).here ?_)
        cases b with
        | true =>
          refine codeAny_handlers_suite_as ?_
          refine HandSPX.lands_againZ fly3 fun k4 fly4 ups4 => ?_
          have J4 : Inv X pns τ G { s1 with heap := k4 } := Jx.landed nb fly4.1 ((ups.trans ups3).trans ups4) o1 a1
          obtain ⟨oe4, ws4, at4, z4, f4⟩ := fly4.there
          have S4 := J4.suite at4 f4 na nL nF
          refine store_ok (X := X.suite ea ((ea, oe4) :: (X.pn ++ pns))) (v := .ref ea) S4 hN hi (.inl hln) rfl (fun s5 S5 => ?_) (.inr hln)
          refine wpAny_mono ((hsu ea oe4 cl dd (X.pn ++ pns) z4 ⟨_, f4⟩).run [] s5 _ G _ S5 (yes rfl ea na)) (fun fl s6 hsp => ?_) (fun _ _ z => z.elim)
          have drop : ∀ {σ6 : L2.St} {H6 : Hp} {Q : Shared → Prop}, Inv (X.suite ea ((ea, oe4) :: (X.pn ++ pns))) [] σ6 H6 s6 → (∀ s7, Inv X pns (σ6.set i none) H6 s7 → Q s7) →
              wpAny (model X.prog X.w) X.A (do bindName X.env n .none; unbindBehindTheSuite X.env n pos') (fun _ s7 => Q s7) X.xe s6 := fun S6 hq => gone_ok (S6.unsuite oks) hN hi hln hq
          cases fl with
          | next => obtain ⟨σ6, H6, S6, q6⟩ := hsp; exact drop S6 fun s7 J7 => ⟨_, _, J7, q6⟩
          | brk => obtain ⟨σ6, H6, S6, q6⟩ := hsp; exact drop S6 fun s7 J7 => ⟨_, _, J7, q6⟩
          | cont => obtain ⟨σ6, H6, S6, q6⟩ := hsp; exact drop S6 fun s7 J7 => ⟨_, _, J7, q6⟩
          | ret u => obtain ⟨v6, σ6, H6, S6, r6, q6⟩ := hsp; exact drop S6 fun s7 J7 => ⟨_, _, _, J7, r6, q6⟩
        | false =>
          show wpAny _ X.A (handleBy (.ref ea) X.env hds2) _ _ _
          exact ih (no rfl)
    exact go hh wish
  · cases fl with
    | next => obtain ⟨τ, G, J', q⟩ := fin; exact wpAny_execs_nil ⟨τ, G, J'.ofTry oks, q⟩
    | brk => obtain ⟨τ, G, J', q⟩ := fin; exact ⟨τ, G, J'.ofTry oks, q⟩
    | cont => obtain ⟨τ, G, J', q⟩ := fin; exact ⟨τ, G, J'.ofTry oks, q⟩
    | ret u => obtain ⟨v, τ, G, J', r, q⟩ := fin; exact ⟨v, τ, G, J'.ofTry oks, r, q⟩
end
end RE
set_option Elab.async false
set_option linter.all false
set_option maxRecDepth 100000
set_option autoImplicit false
set_option maxHeartbeats 1000000
/-! REsb: the statements raise and try, read. -/
namespace RE
open PySem PySem.Spec PyProof.Rows L2 TL
structure CKM (X : Cx) (fv : Value) (σ : L2.St) (vs : List V) (H : Hp) (R : List (Addr × Obj) → Value → Shared → Prop) : Prop where
  run : ∀ (pins : List (Addr × Obj)) (s : Shared) (us : List Value), Inv X pins σ H s → Vals vs us → wpAny (model X.prog X.w) X.A (call fv us) (R pins) X.xe s
theorem callM {X : Cx} {fv : Value} {σ : L2.St} {H : Hp} {R : List (Addr × Obj) → Value → Shared → Prop} {pins : List (Addr × Obj)} {s : Shared} {xs : List Expr} {pos : Pos} (hk : PySem.W.keepIn X.K fv = true) (hs : ∀ x ∈ xs, isStar x = false)
    (I : Inv X pins σ H s) (h : wA X xs σ H fun vs H1 => CKM X fv σ vs H1 R) :
    wpAny (model X.prog X.w) X.A (callWith pos fv [] (backTo pos (starEach xs X.env)) (backToKw pos (keywordEach [] X.env))) (R pins) X.xe s := by
  have a4 := star_plain (env := X.env) (pos := pos) hs
  have a5 : ((backTo pos (starEach xs X.env)).any (·.1) || (backToKw pos (keywordEach [] X.env)).any (·.1.isNone)) = false := by rw [a4]; rfl
  cases xs with
  | cons x xs =>
    refine PySem.W.callWith_KW (h₀ := X.base) I.ok.mod.kin hk rfl (thn (h.run pos pins s I) fun us s1 ⟨vs, H1, I1, r, q⟩ => ?_) a5 (star_cons (hs x (List.mem_cons_self ..)))
    have wk : wK X [] σ H1 fun _ H2 => H2 = H1 := wK_of pk_nil rfl
    refine thn (wk.run pos pins s1 I1) fun ws s2 ⟨zs, H2, I2, rz, q2⟩ => ⟨I2.kIn, ?_⟩
    subst q2
    exact q.run pins s2 us I2 r
  | nil =>
    refine PySem.W.callWith_KW0 (h₀ := X.base) I.ok.mod.kin hk rfl ?_ a5
    have e0 : spliced (backTo pos (starEach [] X.env)) = pure [] := by rfl
    refine fun Γ p hΓ => ?_
    have h2 := h.run pos pins s I
    rw [e0] at h2
    have h3 : AP X pins σ (fun vs H1 => CKM X fv σ vs H1 R) [] s := h2 Γ p hΓ
    obtain ⟨vs, H1, I1, r, q⟩ := h3
    cases r
    have wk : wK X [] σ H1 fun _ H2 => H2 = H1 := wK_of pk_nil rfl
    have h4 := thn (Q' := fun ks s₂ => X.K.In s₂.heap ∧ wpAny (model X.prog X.w) X.A (call fv ([] ++ []) (((backToKw pos (keywordEach [] X.env)).filterMap (·.1)).zip ks)) (R pins) X.xe s₂) (wk.run pos pins s I1) fun ws s2 ⟨zs, H2, I2, rz, q2⟩ => ⟨I2.kIn, by
      subst q2
      exact q.run pins s2 [] I2 .nil⟩
    exact h4 Γ p hΓ
section
variable {U : Sd} {T : Tb} {lv : Nat} {md : Md} {N : List Str} {sc scope : Scope} {X : Cx} {e a b c : E} {x y z w elt : Expr} {es as kv : List E} {xs ys fs : List Expr} {pos p p2 p3 : Pos} {δ δ1 δ' : TL.Env} {cs ct cb : List C} {ss st sb : List Stmt}
/-- the reading of X(..) that is raised -/
def tRai (X : Cx) (A : Addr) (fs : List Str) (ys : List Expr) : L2.St → Hp → XK → Prop := fun σ H Q => wA X ys σ H fun vs H1 => vs.length = fs.length ∧ ∀ d H', ((fs = [] ∧ d = none ∧ H' = H1) ∨ ∃ dx, d = some dx ∧ H1 dx = none ∧ H' = upd H1 dx (.xd (fs.zip vs))) → Q (.ref A) d H'
theorem pmk_rai {A : Addr} {fs : List Str} {n : Str} (m : XMk X.K A fs) (hr : L2H.RoomH 2 X.A) (hc : X.calm = true) (hg : Gl X n) (hm : X.mg n = some (.ref A)) (hd : (n == ("__debug__" : Str)) = false) (hs : ∀ y ∈ ys, isStar y = false) : PMk X (.Call (.Name n p) ys [] p2) (tRai X A fs ys) := by
  intro pins s σ H Q I h
  refine wpAny_Call_Name_kw (ld_glob I hg hm (callM (R := fun pins => MkP X pins σ Q) m.kp hs I ?_) hd)
  refine ⟨fun pos pins s I => thn (h.run pos pins s I) fun us s1 ⟨vs, H1, I1, r, hl, q⟩ => ⟨vs, H1, I1, r, ⟨fun pins s us I rv => m.run X pins σ H1 s us vs Q rfl hr hc I rv hl q⟩⟩⟩
theorem c_rai {n : Str} (h0 : okC N sc (.rai n es) (.Raise (some (.Call (.Name n p) ys [] p2)) none pos) = true) (ha : A2 (SE U T lv md N sc) es ys) : SC U T lv md N sc (.rai n es) (.Raise (some (.Call (.Name n p) ys [] p2)) none pos) := fun X ok hfn hN hs δ o h B M W σ H Dn sv po => by
  have h' : (decide (n = n) && (glB sc n && okEs N sc es ys)) = true := h0
  simp only [Bool.and_eq_true] at h'
  obtain ⟨g1, g2⟩ := gl_of h'.2.1 hs
  have hst := okEs_of ha
  simp only [evC] at h
  split at h
  · rename_i A fs hx
    split at h
    case isFalse => cases h
    rename_i hcm
    have hm : X.mg n = some (.ref A) := by rw [ok.mg]; exact ok.wd.exc n A _ hx
    have mk : XMk X.K A fs := by rw [ok.K]; exact ok.wd.exr n A fs hx
    have pm := pmk_rai (p := p) (p2 := p2) mk (ok.room.mono (by omega)) (ok.calm hcm) g1 hm g2 hst
    split at h
    · rename_i v δ1 h1
      cases h
      obtain ⟨Wx, tk, k⟩ := po
      have j : JXA X ys δ v δ1 := s_args ok hN hs ha h1
      exact wS_of (ps_raise (ok.calm hcm) tk pm) (j M W σ H _ sv.good sv.env (sv.kx (evs_sh es h1) tk k))
    · rename_i ds δ1 h1
      split at h
      case isFalse => cases h
      rename_i hl
      cases h
      obtain ⟨Wx, tk, k⟩ := po
      have ta : TA X ys δ ds δ1 := s_args ok hN hs ha h1
      refine wS_of (ps_raise (ok.calm hcm) tk pm) (ta M W σ H _ sv.good sv.env fun vs H1 s1 r1 => ⟨by rw [r1.len, hl], fun d H' hd => ?_⟩)
      have sv1 := sv.step s1 (evs_sh es h1)
      rcases hd with ⟨rfl, rfl, rfl⟩ | ⟨dx, rfl, hn, rfl⟩
      · have e1 : ds = [] := List.length_eq_zero_iff.mp hl.symm
        exact k M W σ _ none sv1 (.inl ⟨rfl, e1, rfl⟩)
      · have ex := ext_new (o := HO.xd (fs.zip vs)) hn
        have sv2 : Sv B M W σ (upd H1 dx (.xd (fs.zip vs))) δ1 := ⟨sv1.good.ext ex, sv1.env.ext ex, sv1.mm, sv1.mn, sv1.ww, sv1.wn, sv1.xt' (Xt.of ex), sv1.kp⟩
        exact k M W σ _ (some dx) sv2 (.inr ⟨dx, vs, rfl, sv1.good.notM hn, upd_same, Reps.ex (Xt.of ex) ds r1⟩)
    · cases h
  · cases h
/-! ### a handler's suite -/
/-- the exception's dict stands -/
def PinX (M : Addr → Prop) (H : Hp) (x : Xn) (d : Option Addr) : Prop := RepX M H x d
theorem PinX.step {M W : Addr → Prop} {σ : L2.St} {δ : TL.Env} {H H1 : Hp} {xn : Xn} {d : Option Addr} (g : TL.Good M W H) (s : Stp M W σ δ H H1) (r : RepX M H xn d) : RepX M H1 xn d := by
  rcases r with r | ⟨dx, vs, e, m, hd, r⟩
  · exact .inl r
  · exact .inr ⟨dx, vs, e, m, s.xt dx _ (fun z => m (g.wm dx z)) hd, s.reps r⟩
theorem look_zipS {M : Addr → Prop} {H : Hp} : ∀ {ns : List Str} {ds : List D} {vs : List V} {fl : Str} {d : D}, Reps M H ds vs → (ns.zip ds).lookup fl = some d → ∃ v, (ns.zip vs).lookup fl = some v ∧ Rep M H d v
  | [], _, _, _, _, _, h => by simp at h
  | _ :: _, [], _, _, _, _, h => by simp at h
  | n :: ns, d0 :: ds, _, fl, d, ⟨v, r, e, r1, r2⟩, h => by
    subst e
    rw [List.zip_cons_cons, List.lookup_cons] at h
    rw [List.zip_cons_cons, List.lookup_cons]
    by_cases q : (fl == n) = true
    · rw [q] at h ⊢
      cases h
      exact ⟨v, rfl, r1⟩
    · rw [Bool.not_eq_true] at q
      rw [q] at h ⊢
      exact look_zipS r2 h
/-- what holds in a suite: the exception's dict, its name's slot -/
structure Su (xn : Xn) (dd : Option Addr) (ea : Addr) (nm : Option (Str × Nat)) (M W : Addr → Prop) (σ : L2.St) (H : Hp) : Prop where
  rep : RepX M H xn dd
  slot : ∀ n i, nm = some (n, i) → σ[i]? = some (some (.ref ea))
theorem Su.step {xn : Xn} {dd : Option Addr} {ea : Addr} {nm : Option (Str × Nat)} {M W : Addr → Prop} {σ : L2.St} {δ : TL.Env} {H H1 : Hp} (u : Su xn dd ea nm M W σ H) (g : TL.Good M W H) (s : Stp M W σ δ H H1) : Su xn dd ea nm M W σ H1 := ⟨PinX.step g s u.rep, u.slot⟩
/-- an expression of the suite gives d -/
def JH (X : Cx) (xn : Xn) (dd : Option Addr) (ea : Addr) (nm : Option (Str × Nat)) (e : Expr) (δ : TL.Env) (d : D) (δ' : TL.Env) : Prop := ∀ (M W : Addr → Prop) (σ : L2.St) (H : Hp) (Q : VK), TL.Good M W H → EnvR M W H σ δ → Su xn dd ea nm M W σ H → (∀ v H', Stp M W σ δ' H H' → Rep M H' d v → Q v H') → wE X e σ H Q
def JHs (X : Cx) (xn : Xn) (dd : Option Addr) (ea : Addr) (nm : Option (Str × Nat)) (es : List Expr) (δ : TL.Env) (ds : List D) (δ' : TL.Env) : Prop := ∀ (M W : Addr → Prop) (σ : L2.St) (H : Hp) (Q : List V → Hp → Prop), TL.Good M W H → EnvR M W H σ δ → Su xn dd ea nm M W σ H → (∀ vs H', Stp M W σ δ' H H' → Reps M H' ds vs → Q vs H') → wA X es σ H Q
mutual
theorem xe_ok {xn : Xn} {dd : Option Addr} {ea : Addr} {nm : Option (Str × Nat)} {oe : Obj} {pn : List (Addr × Obj)} {hot : Md} (okS : XOk U T lv hot (X.suite ea ((ea, oe) :: pn))) (hN : X.N = N) (hs : X.env.scope = sc) (hz : Zc (.ref xn.C) dd oe) (hfl : ∃ vs, oe.data = .fields vs) : ∀ (e : Xe) {x : Expr} {δ δ' : TL.Env} {d : D}, okX N sc nm e x = true → xe U.G T hot xn e δ = some (d, δ') → JH (X.suite ea ((ea, oe) :: pn)) xn dd ea nm x δ d δ'
  | .c e, x, δ, δ', d, h, he => by
    simp only [okX] at h
    simp only [xe] at he
    have se : SE U T lv hot N sc e x := sE e h
    split at he
    · rename_i d1 δ1 h1
      cases he
      have j : TR _ x δ d δ' := se.je okS hN hs h1
      exact fun M W σ H Q g E u k => j M W σ H Q g E k
    · rename_i ys δ1 h1
      cases he
      have j : TR _ x δ (.lst ys) δ' := (se.je okS hN hs h1).tr rfl
      exact fun M W σ H Q g E u k => j M W σ H Q g E k
    · cases he
  | .fl f, x, δ, δ', d, h, he => by
    simp only [okX] at h
    simp only [xe] at he
    split at h
    · rename_i n p1 g p2
      rw [Bool.and_eq_true] at h
      have e1 := of_decide_eq_true h.1
      subst e1
      split at he
      case isFalse => cases he
      rename_i hxf
      obtain ⟨d', hlk, e2⟩ := Option.map_eq_some_iff.mp he
      cases e2
      have h2 := h.2
      split at h2
      · rename_i m i
        rw [Bool.and_eq_true] at h2
        have e3 := of_decide_eq_true h2.1
        subst e3
        obtain ⟨v1, v2, v3, v4⟩ := var_of (X := X.suite ea ((ea, oe) :: pn)) h2.2 hN hs
        obtain ⟨tx, tno⟩ := okS.wd.xf xn.C f hxf
        rw [← okS.K] at tx tno
        refine fun M W σ H Q g E u k => wE_of (pe_xf tx tno hz hfl (pe_var v1 v2 v3 v4) (attr_base rfl)) ⟨_, u.slot m i rfl, rfl, rfl, ?_⟩
        rcases u.rep with ⟨e4, _⟩ | ⟨dx, vs, e4, m4, hd4, r4⟩
        · rw [e4] at hlk; simp at hlk
        · obtain ⟨v, hv, rv⟩ := look_zipS r4 hlk
          exact ⟨dx, _, v, e4, hd4, hv, k v H (Stp.refl g E) rv⟩
      · cases h2
    · cases h
  | .rep a, x, δ, δ', d, h, he => by
    simp only [okX] at h
    simp only [xe] at he
    split at h
    · rename_i g p1 y p2
      simp only [Bool.and_eq_true, Bool.not_eq_true'] at h
      obtain ⟨e1, hg, hy, hst⟩ := h
      have e1 := of_decide_eq_true e1
      subst e1
      split at he
      · rename_i d1 δ1 h1
        obtain ⟨gk, he⟩ := req_some he
        obtain ⟨t, ht, e2⟩ := Option.map_eq_some_iff.mp he
        cases e2
        obtain ⟨rc, c1, c2⟩ := repr_ca okS gk ht
        obtain ⟨g1, g2⟩ := gl_of (X := X.suite ea ((ea, oe) :: pn)) hg hs
        have j := xe_ok okS hN hs hz hfl a hy h1
        refine fun M W σ H Q g E u k => we_blt (bt := .repr) okS c1 g1 (fun z hz' => by rw [List.mem_singleton.mp hz']; exact hst) ?_
        exact wA_of (pa_cons pe_w pa_nil (star_cons hst)) (j M W σ H _ g E u fun v H1 s1 r1 => c2 M W H1 [v] Q s1.good ⟨v, [], rfl, r1, rfl⟩ fun w H2 e2 r2 => k w H2 (s1.ext e2) r2)
      · cases he
    · cases h
  | .tup as, x, δ, δ', d, h, he => by
    simp only [okX] at h
    simp only [xe] at he
    split at h
    · split at he
      · rename_i ds δ1 h1
        obtain ⟨hl, e2⟩ := req_some he
        cases e2
        have j := xes_ok okS hN hs hz hfl as h h1
        exact fun M W σ H Q g E u k => wE_of (pe_tup pa_w) (j M W σ H _ g E u fun vs H1 s1 r1 => ⟨by rw [r1.len]; exact Nat.le_trans hl (by decide), fun p hp => k _ _ (s1.ext (ext_new hp)) ⟨p, vs, rfl, s1.good.notM hp, Rd.of upd_same, Reps.ex (Xt.of (ext_new hp)) ds r1⟩⟩)
      · cases he
    · cases h
  | .eq a b, x, δ, δ', d, h, he => by
    simp only [okX] at h
    simp only [xe] at he
    split at h
    · rename_i y z p1
      simp only [Bool.and_eq_true, Bool.not_eq_true'] at h
      obtain ⟨hy, hz', hse⟩ := h
      split at he
      · rename_i t1 δ1 h1
        split at he
        · rename_i t2 δ2 h2
          cases he
          have j1 := xe_ok okS hN hs hz hfl a hy h1
          have j2 := xe_ok okS hN hs hz hfl b hz' h2
          have hm := mark_no (op := .Eq) hse
          exact fun M W σ H Q g E u k => wE_of (pe_cmpR op_eq pe_w pe_w hm) (j1 M W σ H _ g E u fun v1 H1 s1 r1 => j2 M W σ H1 _ s1.good s1.env (u.step g s1) fun v2 H2 s2 r2 => ot_eqS M W H2 v1 v2 Q s2.good (s2.rep r1) r2 fun w H3 ex r3 => k w H3 ((s1.trans s2).ext ex) r3)
        · cases he
      · cases he
    · cases h
  | .isN a, x, δ, δ', d, h, he => by
    simp only [okX] at h
    simp only [xe] at he
    split at h
    · rename_i y kc p1 p2
      split at he
      · rename_i d1 δ1 h1
        obtain ⟨kb, hk, e2⟩ := Option.map_eq_some_iff.mp he
        cases e2
        have j1 := xe_ok okS hN hs hz hfl a h h1
        exact fun M W σ H Q g E u k => wE_of (pe_cmpR op_isN pe_w pe_non (nomark _)) (j1 M W σ H _ g E u fun v1 H1 s1 r1 => ⟨rfl, k _ H1 s1 (by rw [non_rep hk r1]; exact rfl)⟩)
      · cases he
    · cases h
  | .and a b, x, δ, δ', d, h, he => by
    simp only [okX] at h
    simp only [xe] at he
    split at h
    · rename_i y z p1
      rw [Bool.and_eq_true] at h
      split at he
      · rename_i δ1 h1
        split at he
        · rename_i k2 δ2 h2
          cases he
          have j1 := xe_ok okS hN hs hz hfl a h.1 h1
          have j2 := xe_ok okS hN hs hz hfl b h.2 h2
          refine fun M W σ H Q g E u k => wE_of (pe_and pe_w (pe_one pe_w)) (j1 M W σ H _ g E u fun v1 H1 s1 r1 => ⟨true, r1, ?_⟩)
          rw [if_pos rfl]
          exact j2 M W σ H1 _ s1.good s1.env (u.step g s1) fun v2 H2 s2 r2 => k v2 H2 (s1.trans s2) r2
        · cases he
      · rename_i δ1 h1
        cases he
        have j1 := xe_ok okS hN hs hz hfl a h.1 h1
        refine fun M W σ H Q g E u k => wE_of (pe_and pe_w (pe_one pe_w)) (j1 M W σ H _ g E u fun v1 H1 s1 r1 => ⟨false, r1, ?_⟩)
        rw [if_neg Bool.false_ne_true]
        exact k _ H1 s1 rfl
      · cases he
    · cases h
theorem xes_ok {xn : Xn} {dd : Option Addr} {ea : Addr} {nm : Option (Str × Nat)} {oe : Obj} {pn : List (Addr × Obj)} {hot : Md} (okS : XOk U T lv hot (X.suite ea ((ea, oe) :: pn))) (hN : X.N = N) (hs : X.env.scope = sc) (hz : Zc (.ref xn.C) dd oe) (hfl : ∃ vs, oe.data = .fields vs) : ∀ (es : List Xe) {xs : List Expr} {δ δ' : TL.Env} {ds : List D}, okXs N sc nm es xs = true → xes U.G T hot xn es δ = some (ds, δ') → JHs (X.suite ea ((ea, oe) :: pn)) xn dd ea nm xs δ ds δ'
  | [], xs, δ, δ', ds, h, he => by
    cases xs with
    | nil =>
      simp only [xes] at he
      cases he
      exact fun M W σ H Q g E u k => wA_of pa_nil (k [] H (Stp.refl g E) rfl)
    | cons _ _ => simp only [okXs] at h; cases h
  | e :: es, xs, δ, δ', ds, h, he => by
    cases xs with
    | nil => simp only [okXs] at h; cases h
    | cons x xs =>
      simp only [okXs, Bool.and_eq_true, Bool.not_eq_true'] at h
      obtain ⟨hx, hst, hxs⟩ := h
      simp only [xes] at he
      split at he
      · rename_i d1 δ1 h1
        split at he
        · rename_i ds1 δ2 h2
          cases he
          have j1 := xe_ok okS hN hs hz hfl e hx h1
          have j2 := xes_ok okS hN hs hz hfl es hxs h2
          exact fun M W σ H Q g E u k => wA_of (pa_cons pe_w pa_w (star_cons hst)) (j1 M W σ H _ g E u fun v H1 s1 r1 => j2 M W σ H1 _ s1.good s1.env (u.step g s1) fun vs H2 s2 r2 => k (v :: vs) H2 (s1.trans s2) ⟨v, vs, rfl, s2.rep r1, r2⟩)
        · cases he
      · cases he
end
end
end RE
set_option Elab.async false
set_option linter.all false
set_option maxRecDepth 100000
set_option autoImplicit false
set_option maxHeartbeats 1000000
/-! REsc: try, read. -/
namespace RE
open PySem PySem.Spec PyProof.Rows L2 TL
mutual
theorem xe_sh {G : Gx} {T : Tb} {md : Md} {xn : Xn} : ∀ (e : Xe) {δ δ' : TL.Env} {d : D}, xe G T md xn e δ = some (d, δ') → Sh δ δ'
  | .c e, δ, δ', d, h => by
    simp only [xe] at h
    split at h
    · rename_i h1; cases h; exact ee_sh e false h1
    · rename_i h1; cases h; exact ee_sh e false h1
    · cases h
  | .fl f, δ, δ', d, h => by
    simp only [xe] at h
    split at h
    · obtain ⟨_, _, e⟩ := Option.map_eq_some_iff.mp h; cases e; exact Sh.refl
    · cases h
  | .rep a, δ, δ', d, h => by
    simp only [xe] at h
    split at h
    · rename_i h1
      obtain ⟨_, h⟩ := req_some h
      obtain ⟨_, _, e⟩ := Option.map_eq_some_iff.mp h; cases e; exact xe_sh a h1
    · cases h
  | .tup as, δ, δ', d, h => by
    simp only [xe] at h
    split at h
    · rename_i h1
      obtain ⟨_, h⟩ := req_some h
      cases h; exact xes_sh as h1
    · cases h
  | .eq a b, δ, δ', d, h => by
    simp only [xe] at h
    split at h
    · rename_i h1
      split at h
      · rename_i h2; cases h; exact (xe_sh a h1).trans (xe_sh b h2)
      · cases h
    · cases h
  | .isN a, δ, δ', d, h => by
    simp only [xe] at h
    split at h
    · rename_i h1
      obtain ⟨_, _, e⟩ := Option.map_eq_some_iff.mp h; cases e; exact xe_sh a h1
    · cases h
  | .and a b, δ, δ', d, h => by
    simp only [xe] at h
    split at h
    · rename_i h1
      split at h
      · rename_i h2; cases h; exact (xe_sh a h1).trans (xe_sh b h2)
      · cases h
    · rename_i h1; cases h; exact xe_sh a h1
    · cases h
theorem xes_sh {G : Gx} {T : Tb} {md : Md} {xn : Xn} : ∀ (es : List Xe) {δ δ' : TL.Env} {ds : List D}, xes G T md xn es δ = some (ds, δ') → Sh δ δ'
  | [], δ, δ', ds, h => by simp only [xes] at h; cases h; exact Sh.refl
  | e :: es, δ, δ', ds, h => by
    simp only [xes] at h
    split at h
    · rename_i h1
      split at h
      · rename_i h2; cases h; exact (xe_sh e h1).trans (xes_sh es h2)
      · cases h
    · cases h
end
/-- a blank slot gets a value that no data of the frame tells of -/
theorem env_blank {M W : Addr → Prop} {H : Hp} {σ : L2.St} {δ : TL.Env} {i : Nat} {v : V} (e : EnvR M W H σ δ) (h : δ[i]? = some none) : EnvR M W H (σ.set i (some v)) δ := by
  refine ⟨by rw [List.length_set]; exact e.len, fun j s q => ?_, fun j k p xs ys h1 h2 h3 h4 => ?_⟩
  · have hj : i ≠ j := fun z => by rw [← z, h] at q; cases q
    obtain ⟨u, a, b⟩ := e.at_ j s q
    exact ⟨u, by rw [List.getElem?_set_ne hj]; exact a, b⟩
  · have n1 : i ≠ j := fun z => by rw [← z, h] at h1; cases h1
    have n2 : i ≠ k := fun z => by rw [← z, h] at h2; cases h2
    rw [List.getElem?_set_ne n1] at h3
    rw [List.getElem?_set_ne n2] at h4
    exact e.ap j k p xs ys h1 h2 h3 h4
theorem Sv.blank {B : Bs} {M W : Addr → Prop} {H : Hp} {σ : L2.St} {δ : TL.Env} {i : Nat} {v : V} (sv : Sv B M W σ H δ) (h : δ[i]? = some none) : Sv B M W (σ.set i (some v)) H δ := by
  refine ⟨sv.good, env_blank sv.env h, sv.mm, sv.mn, sv.ww, sv.wn, sv.xt, fun j xs q => ?_⟩
  obtain ⟨ys, z1, z2⟩ := sv.kp j xs q
  have hj : i ≠ j := fun z => by rw [← z, h] at z1; cases z1
  exact ⟨ys, z1, by rw [List.getElem?_set_ne hj]; exact z2⟩
section
variable {U : Sd} {T : Tb} {lv : Nat} {md : Md} {N : List Str} {sc scope : Scope} {X : Cx} {cs : List C} {ss : List Stmt} {pos : Pos}
theorem XOk.tr (ok : XOk U T lv md X) (pn : List (Addr × Obj)) {xe : Value → Shared → Prop} (hp : PassesOwn (model X.prog X.w) X.A X.env xe) : XOk U T lv md (X.tr pn xe) :=
  ⟨ok.wd, ok.prog, ok.w, ok.K, ok.mg, ok.base, ok.nd, ok.room, ok.hd, ok.calm, ok.gd, hp⟩
theorem XOk.suite (ok : XOk U T lv md X) (ea : Addr) (pn : List (Addr × Obj)) : XOk U T lv ⟨md.gk, false⟩ (X.suite ea pn) :=
  ⟨ok.wd, ok.prog, ok.w, ok.K, ok.mg, ok.base, ok.nd, ⟨ok.room.dp, ok.room.un⟩, fun z => Bool.noConfusion z, fun z => Bool.noConfusion z, fun z => ok.gd z, PassesOwn.never⟩
/-- the suite's reading, in whatever way the exception stands -/
def tSu (X : Cx) (st : List Stmt) (ea : Addr) (cl : Value) (dd : Option Addr) : L2.TS := fun D σ H => ∀ (oe : Obj) (pn : List (Addr × Obj)), Zc cl dd oe → (∃ vs, oe.data = .fields vs) → wB (X.suite ea ((ea, oe) :: pn)) st D σ H
theorem pss_su {st : List Stmt} (ea : Addr) (oe : Obj) (cl : Value) (dd : Option Addr) (pn : List (Addr × Obj)) (hz : Zc cl dd oe) (hf : ∃ vs, oe.data = .fields vs) : PSs (X.suite ea ((ea, oe) :: pn)) st (tSu X st ea cl dd) :=
  ⟨fun pins s σ H D I h => pss_w.run pins s σ H D I (h oe pn hz hf)⟩
/-- the handlers: how they are read, and that they do what hdGo says -/
theorem hd_ok (ok : XOk U T lv md X) (bo : Bod X) (hN : X.N = N) (hs : X.env.scope = sc) {Wout : WX} {B : Bs} {Dn : Ends} {o : Ou} (hW : ∀ y δ2, o = .xc y δ2 → ∀ M W σ H dx, Sv B M W σ H δ2 → RepX M H y dx → Wout (.ref y.C) dx σ H) (hR : ∀ d δ2, o = .rt (.im d) δ2 → ∀ M W σ H v, Sv B M W σ H δ2 → Rep M H d v → Dn.rt v H) :
    ∀ {hs' : List Hd} {xs : List ExceptHandler}, okHs N sc hs' xs = true → hs'.all (fun h => (U.G.exc h.n).isSome) = true → ∃ l, HdM X xs l ∧ ∀ (xn : Xn) (δ1 : TL.Env), hdGo U.G T ⟨md.gk, false⟩ xn hs' δ1 = some o → ∀ M W σ H dx, Sv B M W σ H δ1 → RepX M H xn dx → wMany X.K Wout Dn l (.ref xn.C) dx σ H
  | [], [], _, _ => ⟨[], .nil, fun xn δ1 h M W σ H dx sv rx => by
      simp only [hdGo] at h
      cases h
      exact hW xn δ1 rfl M W σ H dx sv rx⟩
  | [], _ :: _, h, _ => by cases h
  | _ :: _, [], h, _ => by cases h
  | hd :: hs', x :: xs, h, hall => by
    have h' : (okH N sc hd x && okHs N sc hs' xs) = true := h
    rw [Bool.and_eq_true] at h'
    rw [List.all_cons, Bool.and_eq_true] at hall
    obtain ⟨l, hm, ih⟩ := hd_ok ok bo hN hs hW hR h'.2 hall.2
    obtain ⟨⟨A, fo⟩, hA⟩ := Option.isSome_iff_exists.mp hall.1
    have hmA : X.mg hd.n = some (.ref A) := by rw [ok.mg]; exact ok.wd.exc hd.n A fo hA
    have h1 := h'.1
    unfold okH at h1
    split at h1
    · rename_i g np nm y rp pos'
      rw [Bool.and_eq_true, Bool.and_eq_true] at h1
      obtain ⟨e1, hg, h2⟩ := h1
      have e1 := of_decide_eq_true e1
      subst e1
      obtain ⟨g1, g2⟩ := gl_of (X := X) hg hs
      have hn : Names X hd.n (.ref A) := ⟨g1, g2, .inl hmA⟩
      -- the suite's one statement
      have run : ∀ {nmo : Option (Str × Nat)} {xn : Xn} {δ1 δ2 : TL.Env} {d : D} {D : Ends} {ea : Addr} {dd : Option Addr} {M W : Addr → Prop} {σ : L2.St} {H : Hp}, okX N sc nmo hd.x y = true → xe U.G T ⟨md.gk, false⟩ xn hd.x δ1 = some (d, δ2) → o = .rt (.im d) δ2 → D.rt = Dn.rt → Sv B M W σ H δ1 → RepX M H xn dd → (∀ n i, nmo = some (n, i) → σ[i]? = some (some (.ref ea))) → tSu X [.Return (some y) rp] ea (.ref xn.C) dd D σ H := by
        intro nmo xn δ1 δ2 d D ea dd M W σ H hox hxe ho hD sv rx hsl oe pn hz hf
        have okS := ok.suite ea ((ea, oe) :: pn)
        have j := xe_ok (nm := nmo) (ea := ea) okS hN hs hz hf hd.x hox hxe
        refine wB_of (pss_cons (ps_ret pe_w) pss_nil) ?_
        refine j M W σ H _ sv.good sv.env ⟨rx, hsl⟩ fun v H' s r => ?_
        rw [hD]
        exact hR d δ2 ho M W σ H' v (sv.step s (xe_sh hd.x hxe)) r
      cases hi1 : hd.i with
      | none =>
        cases nm with
        | none =>
          rw [hi1] at h2
          have h2 : okX N sc none hd.x y = true := h2
          refine ⟨_, .plain hn (fun ea oe cl dd pn hz hf => pss_su ea oe cl dd pn hz hf) hm, fun xn δ1 hgo M W σ H dx sv rx => ?_⟩
          simp only [hdGo, hA] at hgo
          split at hgo
          · rename_i hx
            have ex : PySem.W.exmOne X.K (.ref xn.C) (.ref A) = some true := by rw [ok.K]; exact ok.wd.xm _ _ _ hx
            refine ⟨true, ex, fun _ ea hn => ?_, fun z => Bool.noConfusion z⟩
            rw [hi1] at hgo
            simp only at hgo
            split at hgo
            · rename_i d δ2 hxe
              cases hgo
              exact run h2 hxe rfl rfl sv rx (fun _ _ z => by cases z)
            · cases hgo
          · rename_i hx
            have ex : PySem.W.exmOne X.K (.ref xn.C) (.ref A) = some false := by rw [ok.K]; exact ok.wd.xm _ _ _ hx
            exact ⟨false, ex, fun z => Bool.noConfusion z, fun _ => ih xn δ1 hgo M W σ H dx sv rx⟩
          · cases hgo
        | some n => rw [hi1] at h2; cases h2
      | some i =>
        cases nm with
        | none => rw [hi1] at h2; cases h2
        | some n =>
          rw [hi1] at h2
          have h2 : (decide (N[i]? = some n) && (locB sc n && okX N sc (some (n, i)) hd.x y)) = true := h2
          rw [Bool.and_eq_true, Bool.and_eq_true] at h2
          obtain ⟨hni, hloc, hox⟩ := h2
          have hni := of_decide_eq_true hni
          have hloc : sc.names.lookup n = some .local := of_decide_eq_true hloc
          refine ⟨_, .named (i := i) hn ok.nd (by rw [hN]; exact hni) (by show X.env.scope.names.lookup n = _; rw [hs]; exact hloc) (fun ea oe cl dd pn hz hf => pss_su ea oe cl dd pn hz hf) hm, fun xn δ1 hgo M W σ H dx sv rx => ?_⟩
          simp only [hdGo, hA] at hgo
          split at hgo
          · rename_i hx
            have ex : PySem.W.exmOne X.K (.ref xn.C) (.ref A) = some true := by rw [ok.K]; exact ok.wd.xm _ _ _ hx
            refine ⟨true, ex, fun _ ea hn => ?_, fun z => Bool.noConfusion z⟩
            rw [hi1] at hgo
            simp only at hgo
            split at hgo
            · rename_i hbl
              split at hgo
              · rename_i d δ2 hxe
                cases hgo
                refine run hox hxe rfl rfl (sv.blank hbl) rx fun n' i' z => ?_
                cases z
                rw [List.getElem?_set_self]
                rw [sv.env.len]
                exact (List.getElem?_eq_some_iff.mp hbl).1
              · cases hgo
            · cases hgo
          · rename_i hx
            have ex : PySem.W.exmOne X.K (.ref xn.C) (.ref A) = some false := by rw [ok.K]; exact ok.wd.xm _ _ _ hx
            exact ⟨false, ex, fun z => Bool.noConfusion z, fun _ => ih xn δ1 hgo M W σ H dx sv rx⟩
          · cases hgo
    · cases h1
theorem c_try {hs' : List Hd} {h₀ : ExceptHandler} {ht : List ExceptHandler} (h1 : SB U T lv md N sc cs ss) (hh : okHs N sc hs' (h₀ :: ht) = true) : SC U T lv md N sc (.try_ cs hs') (.Try ss (h₀ :: ht) [] [] pos) := fun X ok bo hN hs δ o h B M W σ H Dn sv po => by
  simp only [evC] at h
  split at h
  case isFalse => cases h
  rename_i hc
  obtain ⟨hcm, hall⟩ := hc
  -- what is wanted of an exception that no handler takes
  obtain ⟨Wout, tko, hW⟩ : ∃ Wout : WX, Takes X Wout ∧ ∀ y δ2, o = .xc y δ2 → ∀ M W σ H dx, Sv B M W σ H δ2 → RepX M H y dx → Wout (.ref y.C) dx σ H := by
    cases o with
    | xc y δ2 =>
      obtain ⟨Wx, tk, k⟩ := po
      exact ⟨Wx, tk, fun y' δ' e => by cases e; exact k⟩
    | nx δ2 => exact ⟨fun _ _ _ _ => False, takes_no fun _ _ _ _ z => z, fun _ _ e => by cases e⟩
    | bk δ2 => exact ⟨fun _ _ _ _ => False, takes_no fun _ _ _ _ z => z, fun _ _ e => by cases e⟩
    | ct δ2 => exact ⟨fun _ _ _ _ => False, takes_no fun _ _ _ _ z => z, fun _ _ e => by cases e⟩
    | rt r δ2 => exact ⟨fun _ _ _ _ => False, takes_no fun _ _ _ _ z => z, fun _ _ e => by cases e⟩
  have hR : ∀ d δ2, o = .rt (.im d) δ2 → ∀ M W σ H v, Sv B M W σ H δ2 → Rep M H d v → Dn.rt v H := fun d δ2 e => by subst e; exact po
  obtain ⟨l, hm, sem⟩ := hd_ok ok bo hN hs (Dn := Dn) hW hR hh hall
  refine wS_of (ps_tryM (tb := fun W D σ H => ∀ (pn : List (Addr × Obj)) (xe : Value → Shared → Prop), Takes (X.tr pn xe) W → PassesOwn (model X.prog X.w) X.A X.env xe → wB (X.tr pn xe) ss D σ H) bo.st bo.fr tko (fun W pn xe tk hp => ⟨fun pins s σ H D I z => pss_w.run pins s σ H D I (z pn xe tk hp)⟩) hm) fun pn xe tk hp => ?_
  have okT := ok.tr pn hp
  have boT : Bod (X.tr pn xe) := ⟨bo.fn, bo.st, bo.fr⟩
  split at h
  · rename_i xn δ1 hb
    exact h1 (X.tr pn xe) okT boT hN hs δ _ hb B M W σ H Dn sv ⟨_, tk, fun M W σ H dx sv rx => sem xn δ1 h M W σ H dx sv rx⟩
  · rename_i hnx
    refine h1 (X.tr pn xe) okT boT hN hs δ o h B M W σ H Dn sv ?_
    cases o with
    | xc y δ2 => exact absurd h (hnx y δ2)
    | nx δ2 => exact po
    | bk δ2 => exact po
    | ct δ2 => exact po
    | rt r δ2 => cases r <;> exact po
end
end RE
set_option Elab.async false
set_option linter.all false
set_option maxRecDepth 100000
set_option autoImplicit false
set_option maxHeartbeats 1000000
/-! REt: every statement; every def; the law's end. -/
namespace RE
open PySem PySem.Spec PyProof.Rows L2 TL
section
variable {U : Sd} {T : Tb} {lv : Nat} {md : Md} {N : List Str} {sc : Scope}
mutual
theorem sC (hk : sc.kind = .function) : ∀ (c : C) {st : Stmt}, okC N sc c st = true → SC U T lv md N sc c st
  | .ret e, st, h => by
    have h' := h
    unfold okC at h'
    split at h'
    · exact c_ret (sE e h')
    · cases h'
  | .retN, st, h => by
    have h' := h
    unfold okC at h'
    split at h'
    · exact c_retN
    · cases h'
  | .exp e, st, h => by
    have h' := h
    unfold okC at h'
    split at h'
    · simp only [Bool.and_eq_true, Bool.not_eq_true'] at h'
      exact c_exp (sE e h'.1) h'.2
    · cases h'
  | .set i e, st, h => by
    have h' := h
    unfold okC at h'
    split at h'
    · rename_i n p y pos
      rw [Bool.and_eq_true, Bool.and_eq_true, Bool.and_eq_true, Bool.or_eq_true] at h'
      obtain ⟨h1, h2, h3, h4⟩ := h'
      have h1 := of_decide_eq_true h1
      have h2 : sc.names.lookup n = some .local ∨ sc.names.lookup n = some .cell := h2.elim (fun z => .inl (of_decide_eq_true z)) (fun z => .inr (of_decide_eq_true z))
      by_cases hl : isLc y = false
      · exact c_set h1 h2 hl (sE e h3)
      · cases y <;> first | (exact absurd rfl hl) | (cases h4; done) | skip
        rename_i elt gens s q
        cases e <;> first | (cases h3; done) | skip
        rename_i g k its ifs e'
        have h3' := h3
        unfold okE at h3'
        split at h3'
        · rename_i elt' t it fs' zz scope' pos' heq
          cases heq
          simp only [Bool.and_eq_true] at h3'
          cases g with
          | one i' => exact c_setLc (nm := n) h (sEs its h3'.2.2.2.2.1) (sEs ifs h3'.2.2.2.2.2.1) (sE e' h3'.2.2.2.2.2.2)
          | tup is =>
            have z := h3'.2.1
            unfold tgtB at z
            dsimp only at z
            split at z <;> cases z
        · cases h3'
    · cases h'
  | .par is es, st, h => by
    have h' := h
    unfold okC at h'
    split at h'
    · rw [Bool.and_eq_true, Bool.and_eq_true] at h'
      exact c_par hk h (sEs es h'.2.1)
    · cases h'
  | .sto k i e, st, h => by
    have h' := h
    unfold okC at h'
    split at h'
    · simp only [Bool.and_eq_true] at h'
      exact c_sto h (sE i h'.2.1) (sE e h'.2.2.1)
    · cases h'
  | .fld k f e, st, h => by
    have h' := h
    unfold okC at h'
    split at h'
    · simp only [Bool.and_eq_true] at h'
      exact c_fld h (sE e h'.2.2.1)
    · cases h'
  | .ifs c a b, st, h => by
    have h' := h
    unfold okC at h'
    split at h'
    · simp only [Bool.and_eq_true] at h'
      exact c_ifs (sE c h'.1) (sB hk a h'.2.1) (sB hk b h'.2.2)
    · cases h'
  | .whl c b, st, h => by
    have h' := h
    unfold okC at h'
    split at h'
    · simp only [Bool.and_eq_true] at h'
      exact c_whl (sE c h'.1) (sB hk b h'.2)
    · cases h'
  | .for_ g k its b, st, h => by
    have h' := h
    unfold okC at h'
    split at h'
    · simp only [Bool.and_eq_true] at h'
      obtain ⟨h1, h2, h3, h4⟩ := h'
      cases g with
      | one i =>
        unfold tgtB at h1
        simp only [tgB, Bool.and_true] at h1
        split at h1
        · simp only [Bool.and_eq_true, decide_eq_true_eq, locB] at h1
          exact c_for h1.1 h1.2 h2 (sEs its h3) (sB hk b h4)
        · cases h1
      | tup is =>
        unfold tgtB at h1
        dsimp only at h1
        split at h1 <;> cases h1
    · cases h'
  | .pass, st, h => by
    have h' := h
    unfold okC at h'
    split at h'
    · exact c_pass
    · cases h'
  | .bad, st, h => fun X ok hfn hN hs δ o h => by cases h
  | .rai n as, st, h => by
    have h' := h
    unfold okC at h'
    split at h'
    · rename_i g p ys p2 pos
      simp only [Bool.and_eq_true] at h'
      have e := of_decide_eq_true h'.1
      subst e
      exact c_rai h (sEs as h'.2.2)
    · cases h'
  | .try_ b hs, st, h => by
    have h' := h
    unfold okC at h'
    split at h'
    · rw [Bool.and_eq_true] at h'
      exact c_try (sB hk b h'.1) h'.2
    · cases h'
theorem sB (hk : sc.kind = .function) : ∀ (cs : List C) {sts : List Stmt}, okB N sc cs sts = true → SB U T lv md N sc cs sts
  | [], sts, h => by
    cases sts with
    | nil => exact b_nil
    | cons _ _ => cases h
  | c :: cs, sts, h => by
    cases sts with
    | nil => cases h
    | cons s ss =>
      have h' : (okC N sc c s && okB N sc cs ss) = true := h
      simp only [Bool.and_eq_true] at h'
      exact b_cons (sC hk c h'.1) (sB hk cs h'.2)
end
end
/-! ### defs -/
structure Df (U : Sd) (q : Str) (f : Fc) : Prop where
  ex : ∃ (name qual : Str) (params : Arguments) (body : List Stmt) (scope : Scope) (dV kV doc pm cdv ct oc : Value) (an od : Option Addr) (osl : Array (Option Value)), U.fd q = PySem.W.fnOf name qual params body scope dV kV doc pm an cdv ct ∧ U.K.lookup (U.ad q) = some ⟨oc, od, .func (U.fd q), osl⟩ ∧
    PySem.W.codeIn U.K cdv qual = true ∧ FnScope f.N f.ps scope ∧ okB f.N scope f.body body = true
structure Ws (U : Sd) : Prop where
  kk : U.G.K = U.K
  df : ∀ q f, U.G.fns q = some f → Df U q f
  bp : ∀ q f, U.G.fns q = some f → f.po = true → BndP U.K (U.fd q) f.ps
  bn : ∀ q n kn p, U.G.pat q n kn = some p → ∃ f, U.G.fns q = some f ∧ Bnd U.K (U.fd q) f.ps n kn p
  gf : ∀ f q, U.G.glo f = some (.fn q) → U.mg f = some (.ref (U.ad q)) ∧ PySem.W.keepIn U.K (.ref (U.ad q)) = true
  gc : ∀ f A q, U.G.glo f = some (.cls A q) → U.mg f = some (.ref A) ∧ Mk U.K A (U.ad q)
  gv : ∀ n d, U.G.glo n = some (.val d) → ∃ v u, U.mg n = some u ∧ RelV v u ∧ ∀ M H, Rep M H d v
  nb : ∀ b : Bt, U.mg b.nm = none
  nt : ∀ t : Ty, U.mg t.nm = none
  ni : U.mg "isinstance" = none
  nk : U.mg "range" = none ∧ U.mg "zip" = none ∧ U.mg "enumerate" = none
  prop : ∀ A f q, U.G.prop A f = some q → Cls U.K A ∧ ∃ p, PropOf U.K A f p (U.ad q)
  fld : ∀ A f, U.G.fld A f = true → Cls U.K A ∧ NoAttr U.K A f
  meth : ∀ A m q, U.G.meth A m = some q → Cls U.K A ∧ Meth U.K A m (U.ad q)
  own : ∀ A m q, U.G.own A m = some q → ClsO U.K A ∧ PySem.W.findIn U.K (.ref A) m = some (some (.ref (U.ad q))) ∧ PySem.W.isFn U.K (.ref (U.ad q)) = true
  one : ∀ A q, U.G.own A "__eq__" = some q → PySem.W.findIn U.K (.ref A) "__ne__" = some (some (.builtin "object.__ne__"))
  ri : ∀ A op, U.G.ri A op = true → PySem.W.findIn U.K (.ref A) (dunderR op.info.2) = some none ∧ PySem.W.subIn U.K (.type "int") (.ref A) = some false ∧
    ∃ fo ro, PySem.W.findIn U.K (.type "int") (PySem.dunder op.info.2) = some fo ∧ PySem.W.findIn U.K (.type "int") (dunderR op.info.2) = some ro
  isT : ∀ A t b, U.G.isT A t = some b → ClsO U.K A ∧ PySem.W.kitOne U.K (.ref A) (.type (tyS t)) = some b
  isC : ∀ A B b, U.G.isC A B = some b → ClsO U.K A ∧ PySem.W.kitOne U.K (.ref A) (.ref B) = some b
  kT : ∀ t : Ty, PySem.W.kitOne U.K (.type "NoneType") (.type (tyS t)) = some false ∧ PySem.W.kitOne U.K (.type "int") (.type (tyS t)) = some (match t with | .int => true | _ => false) ∧
    PySem.W.kitOne U.K (.type "bool") (.type (tyS t)) = some (match t with | .int => true | .bool => true | _ => false) ∧ PySem.W.kitOne U.K (.type "str") (.type (tyS t)) = some (match t with | .str => true | _ => false) ∧
    PySem.W.kitOne U.K (.type "list") (.type (tyS t)) = some (match t with | .list => true | _ => false) ∧ PySem.W.kitOne U.K (.type "tuple") (.type (tyS t)) = some (match t with | .tuple => true | _ => false)
  kD : ∀ t : Ty, PySem.W.kitOne U.K (.type "dict") (.type (tyS t)) = some false
  kC : ∀ f B q, U.G.glo f = some (.cls B q) → ∀ s : String, s ∈ ["NoneType", "int", "bool", "str", "list", "tuple", "dict"] → PySem.W.kitOne U.K (.type s) (.ref B) = some false
  nf : ∀ A d, U.G.nf A d = true → ∃ t, TyD U.K d t ∧ PySem.W.notFirst U.K A t = true
  exc : ∀ n A o, U.G.exc n = some (A, o) → U.mg n = some (.ref A)
  exr : ∀ n A fs, U.G.exc n = some (A, some fs) → XMk U.K A fs
  xm : ∀ A B b, U.G.xm A B = some b → PySem.W.exmOne U.K (.ref A) (.ref B) = some b
  xf : ∀ A f, U.G.xf A f = true → XfC U.K A ∧ PySem.W.findIn U.K (.ref A) f = some none
theorem back_im : ∀ {ss : List S} {δ : TL.Env} {ss' : List S}, (∀ s ∈ ss, ∃ d, s = .im d) → backS ss δ = some ss' → ss' = ss
  | [], _, _, _, h => by cases h; rfl
  | s :: r, δ, ss', hi, h => by
    obtain ⟨d, rfl⟩ := hi s (List.mem_cons_self ..)
    cases δ with
    | nil => cases h
    | cons a δ =>
      simp only [backS, Option.map_eq_some_iff] at h
      obtain ⟨t, h1, rfl⟩ := h
      rw [back_im (fun s hs => hi s (List.mem_cons_of_mem _ hs)) h1]
theorem run_inv {G : Gx} {T : Tb} {md : Md} {f : Fc} {ss ss' : List S} {r : Rz} (h : runF G T md f ss = some (r, ss')) : ss.length = f.ps.length ∧ ∃ o δ', evB G T md f.body (env0 f.N ss) = some o ∧ backS ss δ' = some ss' ∧ ((o = .rt r δ' ∧ ∀ x, r ≠ .ex x) ∨ (o = .nx δ' ∧ r = .im .non) ∨ ∃ x, o = .xc x δ' ∧ r = .ex x) := by
  obtain ⟨h1, h2⟩ := req_some h
  refine ⟨h1, ?_⟩
  split at h2
  · cases h2
  · rename_i r' δ hnx h3
    obtain ⟨t, h4, e⟩ := Option.map_eq_some_iff.mp h2
    cases e
    exact ⟨_, δ, h3, h4, .inl ⟨rfl, fun x z => hnx x (by rw [z])⟩⟩
  · rename_i δ h3
    obtain ⟨t, h4, e⟩ := Option.map_eq_some_iff.mp h2
    cases e
    exact ⟨_, δ, h3, h4, .inr (.inl ⟨rfl, rfl⟩)⟩
  · rename_i x δ h3
    obtain ⟨t, h4, e⟩ := Option.map_eq_some_iff.mp h2
    cases e
    exact ⟨_, δ, h3, h4, .inr (.inr ⟨x, rfl, rfl⟩)⟩
  · cases h2
theorem tn_inv {G : Gx} {k : Nat} {md : Md} {q : Str} {f : Fc} {ss ss' : List S} {r : Rz} (hf : G.fns q = some f) (h : Tn G (k + 1) md q ss = some (r, ss')) : runF G (Tn G k) md f ss = some (r, ss') := by
  simp only [Tn, hf, Option.bind_some] at h
  exact h
theorem Wd.of {U : Sd} (s : Ws U) (k : Nat) (h : ∀ q f, U.G.fns q = some f → FnX U.P U.w U.K U.mg U.base (Tn U.G k) (6 * k) q (U.ad q) (U.fd q) f.ps) : Wd U (Tn U.G k) (6 * k) := by
  refine ⟨s.kk, h, fun md q f ss ss' r hf hT => ?_, fun md q f ss ss' r hf hT hi => ?_, s.bp, s.bn, s.gf, s.gc, s.gv, s.nb, s.nt, s.ni, s.nk, s.prop, s.fld, s.meth, s.own, s.one, s.ri, s.isT, s.isC, s.kT, s.kD, s.kC, s.nf, s.exc, s.exr, s.xm, s.xf⟩
  · cases k with
    | zero => cases hT
    | succ k => exact (run_inv (tn_inv hf hT)).1
  · cases k with
    | zero => cases hT
    | succ k =>
      obtain ⟨_, o, δ', _, hb, _⟩ := run_inv (tn_inv hf hT)
      exact back_im hi hb
theorem wd_all {U : Sd} (s : Ws U) : ∀ k, Wd U (Tn U.G k) (6 * k)
  | 0 => Wd.of s 0 fun q f hf => ⟨fun md A outer s H args us vs Q Ex _ _ _ _ _ _ _ ⟨_, _, _, _, _, z, _⟩ => by cases z⟩
  | k + 1 => Wd.of s (k + 1) fun q f hf => by
    have ih := wd_all s k
    obtain ⟨name, qual, params, body, scope, dV, kV, doc, pm, cdv, ct, oc, an, od, osl, e1, e2, e3, e4, e5⟩ := (s.df q f hf).ex
    rw [e1] at e2 ⊢
    refine fn_runX (k := 6 * k + 5) e2 e3 e4 fun md A outer sh H Ex ss r ss' hr hcm hg hT hl => ?_
    obtain ⟨_, o, δ', h1, h2, h3⟩ := run_inv (tn_inv hf hT)
    refine ⟨o, δ', ?_, fin_of h2, h3⟩
    exact sB e4.kind f.body e5 _ ⟨ih, rfl, rfl, rfl, rfl, rfl, e4.nd, hr.mono (by omega), hcm, fun z => z, hg, passes_of rfl⟩ ⟨fun _ => rfl, rfl, rfl⟩ rfl rfl _ o h1
/-- the law keeps its promise -/
theorem law_K {U : Sd} (s : Ws U) (k : Nat) {f : Fc} (hf : U.G.fns "law" = some f) : FnK U.P U.w U.K U.mg U.base (6 * k) (U.ad "law") (U.fd "law") f.ps (RX (Tn U.G k) ⟨true, true⟩ "law") :=
  ((wd_all s k).fnx "law" f hf).toK
end RE
set_option Elab.async false
set_option linter.all false
set_option maxRecDepth 100000
set_option autoImplicit false
set_option maxHeartbeats 2000000
/-! XC: own exception classes whose __init__ keeps one argument. -/
namespace RE
open PySem PySem.W PySem.Calls PySem.Spec PyProof.Rows PySem.HandSPX L2 TL
/-- what the written part says of such a class, at C, and of its __init__, at fI -/
structure XTxt (K : PySem.W.Frag) (C fI : Addr) (f : Str) (B newId initId : String) (bmB : List Value) : Prop where
  eb : ExcBaseFacts B newId initId bmB
  sf : StoreFacts B bmB "object.__setattr__" "object"
  ini : excInitIn K C bmB newId = true
  ovr : excOver K C bmB = true
  hd : hasDictIn K C = true
  sa : findIn K (.ref C) "__setattr__" = some (some (.builtin "object.__setattr__"))
  no : findIn K (.ref C) f = some none
  it : findIn K (.ref C) "__init__" = some (some (.ref fI))
  ft : typeIn K (.ref fI) = some (.type "function")
  kp : keepIn K (.ref C) = true
  ex : subIn K (.ref C) (.type "BaseException") = some true
  ty : typeIn K (.ref C) = some (.type "type")
  fn : ∃ (name qual : Str) (params : Arguments) (body : List Stmt) (scope : Scope) (dV kV doc pm cdv ct oc : Value) (an od : Option Addr) (osl : Array (Option Value)) (q1 q2 q3 q4 : Pos), K.lookup fI = some ⟨oc, od, .func (fnOf name qual params body scope dV kV doc pm an cdv ct), osl⟩ ∧ codeIn K cdv qual = true ∧
    body = [.Assign [.Attribute (.Name "self" q1) f q2] (.Name f q3) q4] ∧ scope.kind = .function ∧ scope.names.lookup (Str.ofString "self") = some NameKind.local ∧ scope.names.lookup f = some NameKind.local ∧ scope.isCoroutine = false ∧ scope.isGenerator = false ∧ (f == ("__debug__" : Str)) = false ∧ (f == ("self" : Str)) = false ∧
    ∀ (s : Shared) (x v : Value), BindsTo s (fnOf name qual params body scope dV kV doc pm an cdv ct) ⟨[x, v], []⟩ [("self", x), (f, v)]
section
variable {prog : Program} {w : World} {A : Around} {E : Value → Shared → Prop} {R : Result → Shared → Prop} {K : PySem.W.Frag} {C fI : Addr} {f : Str} {B newId initId : String} {bmB : List Value}
open Builtin Builtin.ObjectAttr
theorem taker_none (h : findIn K (.ref C) f = some none) : takerIn K C f = some none := by
  unfold takerIn
  rw [h]
  rfl
/-- self.f = v on an exception without a dict -/
theorem x_store (T : XTxt K C fI f B newId initId bmB) {hp : Heap} {g : Array GenState} {dr : Drawn} {t : Nat} {os : OsState} {tk : Tok} {v : Value} {x : Addr} {fv : Array Value} (X : K.In hp) (hx : hp.get? x = some { cls := .ref C, data := .fields fv })
    (hq : ∀ h' tk' dx, (∀ b o, b ≠ x → hp.get? b = some o → h'.get? b = some o) → hp.objs.size ≤ dx → dx ≠ x → h'.get? x = some { cls := .ref C, dict := some dx, data := .fields fv } →
      h'.Ns1 dx (fun y => if y = f then some v else none) → R (.ok (.ret .none)) ⟨h', g, dr, tk', os⟩) :
    codeAny (model prog w) A (.call (.builtin "object.__setattr__") ⟨[.ref x, .str f tk, v], []⟩) R ⟨hp, g, dr, t, os⟩ := by
  have I : InstAt hp x { cls := .ref C, data := .fields fv } C none := ⟨hx, rfl, rfl, trivial⟩
  have hxs : x ≠ hp.objs.size := Nat.ne_of_lt (Heap.lt_size hx)
  obtain ⟨cd, hcd, hhd⟩ := any_some T.hd
  have hcls : Looks (model prog w) hp (classData C) cd := looks_clsIn X hcd
  refine osa_openX (s := ⟨hp, g, dr, t, os⟩) T.sf X I T.ovr (taker_none T.no) fun b => ?_
  show wpAny _ _ (storeInOwnDict (.ref x) (.ref C) (.str f tk) f v b) _ _ _
  obtain ⟨nm, bs, mro, ns, qn, hdd, sn, sb, ab, col, del⟩ := cd
  dsimp only at hhd
  subst hhd
  unfold storeInOwnDict ownDictForStores
  repeat (first | with_reducible refine store_in_new ?_ ?_ | with_reducible refine wpAny_loadPart_at hx ?_ | with_reducible refine hcls.at ?_ | wp_step)
  · exact ⟨_, #[], _, (Heap.get?_update_ne _ _ _ _ hxs.symm).trans (Heap.get?_push_at rfl rfl), rfl, fun e he => absurd he (by simp), fun _ => rfl⟩
  · intro h' tk' hn' hs
    have hx1 : (hp.push { cls := .type "dict", data := .dict #[] }).get? x = some { cls := .ref C, data := .fields fv } := Heap.get?_push_of_some _ hx
    refine hq h' tk' hp.objs.size (fun b o hb ho => ?_) (Nat.le_refl _) hxs.symm ?_ hn'
    · exact (hs.2 b (Nat.ne_of_lt (Heap.lt_size ho))).trans ((Heap.get?_update_ne _ _ _ _ hb).trans (Heap.get?_push_of_some _ ho))
    · exact (hs.2 x hxs).trans (Heap.get?_update_self _ hx1 rfl)
theorem ld_loc {M : Model} {s : Shared} {name : Str} {scope : Scope} {L a : Addr} {cd : Value} {m : Str → Option Value} {x : Str} {pos : Pos} {v : Value} {Q : Value → Shared → Prop} (hk : scope.kind = .function) (hl : scope.names.lookup x = some .local) (hd : (x == ("__debug__" : Str)) = false) (hn : s.heap.Ns L m) (hv : m x = some v) (h : Q v s) :
    wpAny M A (eval (.Name x pos) (envOfC name scope L a cd)) Q E s := wpAny_Name (wpAny_loadName_local hk hl hn hv h) hd
theorem x_init (T : XTxt K C fI f B newId initId bmB) {s : Shared} {x t0 : Addr} {v : Value} (X : K.In s.heap) (hlim : s.heap.NoLimit) (hx : s.heap.get? x = some (excO C t0)) (hroom : A.depth < recursionLimit)
    (hq : ∀ h' tk dx, (∀ b o, b ≠ x → s.heap.get? b = some o → h'.get? b = some o) → h'.get? x = some { cls := .ref C, dict := some dx, data := .fields #[.ref t0, .none, .none, .none, .bool false, .none] } → s.heap.objs.size ≤ dx → dx ≠ x → h'.Ns1 dx (fun y => if y = f then some v else none) → R (.ok (.ret .none)) { s with heap := h', toks := tk }) :
    codeAny (model prog w) A (.call (.ref fI) ⟨[.ref x, v], []⟩) R s := by
  obtain ⟨name, qual, params, body, scope, dV, kV, doc, pm, cdv, ct, oc, an, od, osl, q1, q2, q3, q4, ho, hcd, hbody, hk, hself, hf, hco, hge, hdb, hne, hbind⟩ := T.fn
  refine Att.call_fn (binds := [("self", .ref x), (f, v)]) X hlim ho hcd hroom (hbind s (.ref x) v) (by simp [hself, hf]) (fun s1 IC => ?_) hco hge hk
  obtain ⟨h1, tk1, rfl⟩ := IC.toInCall.same
  have keep : ∀ b o, s.heap.get? b = some o → h1.get? b = some o := IC.toInCall.keep
  have nsL := IC.toInCall.ns
  have X1 : K.In h1 := X.keeps keep
  have hx1 := keep _ _ hx
  subst hbody
  show wpAny _ _ (execs _ _) _ _ _
  refine wpAny_execs_cons (plainObj_wpAny_Assign_Attribute ?_)
  have kf : (envOfC qual scope s.heap.objs.size fI cdv).kindOf f = some .local := hf
  have ks : (envOfC qual scope s.heap.objs.size fI cdv).kindOf (Str.ofString "self") = some .local := hself
  have nd : ([(Str.ofString "self", Value.ref x), (f, v)].map (·.1)).Nodup := by
    have z : ¬ (Str.ofString "self" = f) := fun e => by rw [e] at hne; simp at hne
    simp [z]
  have mf : bindL (envOfC qual scope s.heap.objs.size fI cdv).kindOf [(Str.ofString "self", Value.ref x), (f, v)] (fun _ => none) f = some v := by
    simp only [bindL, kf, ks, if_true]
  have ms : bindL (envOfC qual scope s.heap.objs.size fI cdv).kindOf [(Str.ofString "self", Value.ref x), (f, v)] (fun _ => none) (Str.ofString "self") = some (.ref x) := by
    have z : ¬ (Str.ofString "self" = f) := fun e => by rw [e] at hne; simp at hne
    simp only [bindL, kf, ks, if_true, z, if_false]
  refine ld_loc hk hf hdb nsL mf (ld_loc hk hself (by decide) nsL ms ?_)
  refine set_plain X1 (ox := excO C t0) (od := none) ⟨hx1, rfl, rfl, trivial⟩ T.sa ?_
  refine x_store T X1 hx1 (fun h3 tk3 dx k3 dn dne hx3 hn3 => ?_)
  show wpAny _ _ (execs _ _) _ _ _
  have z : s.heap.objs.size < h1.objs.size := nsL.lt
  exact wpAny_execs_nil (hq h3 tk3 dx (fun b o hb e => k3 b o hb (keep b o e)) hx3 (Nat.le_of_lt (Nat.lt_of_lt_of_le z dn)) dne hn3)
end
theorem rel_one {f : Str} {v : V} {u : Value} (r : RelV v u) (g : Str) : RelO (List.lookup g [(f, v)]) (if g = f then some u else none) := by
  by_cases h : g = f
  · subst h
    rw [if_pos rfl]
    simp only [List.lookup, beq_self_eq_true]
    exact r
  · have e : (g == f) = false := by simpa using h
    rw [if_neg h]
    simp only [List.lookup, e]
    trivial
/-- such a class makes exceptions -/
theorem xmk_one {K : PySem.W.Frag} {C fI : Addr} {f : Str} {B newId initId : String} {bmB : List Value} (T : XTxt K C fI f B newId initId bmB) : XMk K C [f] := by
  refine ⟨T.kp, fun X pins σ H s us vs Q hK hr hc I rv hl q => ?_⟩
  subst hK
  obtain ⟨v, rfl⟩ : ∃ v, vs = [v] := by
    match vs, hl with
    | [v], _ => exact ⟨v, rfl⟩
  obtain ⟨u, rfl, ru⟩ := vals1 rv
  have hlim := I.nolimit
  obtain ⟨hp, g, dr, tk, os⟩ := s
  obtain ⟨nm, N', qn, bs, bm, hdct, sn, sub, ab, col, dd, k0, k1, k2, k3, k5, hC, hT⟩ := excInit_of I.kIn T.ini
  have keep : ∀ b o, hp.get? b = some o → ((hp.push (kdv_tup [u])).push (excO C hp.objs.size)).get? b = some o := fun b o e => Heap.get?_push_of_some _ (Heap.get?_push_of_some _ e)
  have hget : ((hp.push (kdv_tup [u])).push (excO C hp.objs.size)).get? (hp.objs.size + 1) = some (excO C hp.objs.size) := by heap_get
  refine wpAny_call (call_own T.eb hT hC (looks_findIn I.kIn T.it) (fun self => bind_fn I.kIn self T.ft) (by rw [sizeLine_eq]; show 1 ≤ 16777216; decide) ?_)
  refine x_init (s := ⟨(hp.push (kdv_tup [u])).push (excO C hp.objs.size), g, dr, tk, os⟩) T (I.kIn.keeps keep) (hlim.keeps keep) hget ?_ fun h' tk' dx k' hx dn dne hns => ?_
  · have := hr.dp
    rw [make_depth]
    omega
  · have old : ∀ b o, hp.get? b = some o → h'.get? b = some o := fun b o e => k' b o (Nat.ne_of_lt (Nat.lt_succ_of_lt (Heap.lt_size e))) (keep b o e)
    have big : hp.objs.size ≤ dx := by
      have z : ((hp.push (kdv_tup [u])).push (excO C hp.objs.size)).objs.size ≤ dx := dn
      rw [Heap.size_push, Heap.size_push] at z
      omega
    obtain ⟨G', g1, g2⟩ := restrict h' fun b => decide (b ≠ hp.objs.size + 1)
    have gk : ∀ b, b ≠ hp.objs.size + 1 → G'.get? b = h'.get? b := fun b hb => g1 b (decide_eq_true hb)
    have ge : G'.get? (hp.objs.size + 1) = none := g2 _ (by simp)
    have old2 : ∀ b o, hp.get? b = some o → G'.get? b = some o := fun b o z => (gk b (Nat.ne_of_lt (Nat.lt_succ_of_lt (Heap.lt_size z)))).trans (old b o z)
    have ob : ObjOk X.prog X.w (upd H dx (.xd [(f, v)])) G' dx (.xd [(f, v)]) := ⟨_, hns.at (fun o z => (gk dx dne).trans z), fun y => rel_one ru y⟩
    have J : Inv X pins σ (upd H dx (.xd [(f, v)])) ⟨G', g, dr, tk', os⟩ := I.laid (t' := tk') old2 big ob
    refine ⟨rfl, hp.objs.size + 1, _, _, ⟨G', g, dr, tk', os⟩, _, .ref C, some dx, rfl, J, fun b o z => ?_, ge, hx, ⟨rfl, rfl⟩, rfl, rfl, ?_, rfl, I.bare, raises_own T.ex T.ty, q _ _ (.inr ⟨dx, rfl, I.hok.fresh big, rfl⟩)⟩
    · by_cases hb : b = hp.objs.size + 1
      · have z' : G'.get? b = some o := z
        rw [hb, ge] at z'; cases z'
      · exact (gk b hb).symm.trans z
    · rw [upd_ne (Ne.symm dne)]
      exact I.hok.fresh (Nat.le_succ _)
end RE
set_option Elab.async false
set_option linter.all false
set_option maxRecDepth 100000
set_option autoImplicit false
set_option maxHeartbeats 1000000
/-! RM: the static world, from tables. -/
namespace RE
open PySem L2 TL
/-- one def: its name, whether the module holds it by that name, its code, where it lies, the calls' patterns -/
structure Row where
  q : Str
  m : Bool
  f : Fc
  a : Addr
  d : FuncData
  ps : List ((Nat × List Str) × Pat)
/-- one class -/
structure CRow where
  n : Str
  A : Addr
  q : Str
  prop : List (Str × Str)
  fld : List Str
  meth : List (Str × Str)
  own : List (Str × Str)
  ri : List Operator
  isT : Ty → Option Bool
  isC : List (Addr × Bool)
  nf : D → Bool
def rowOf (L : List Row) (q : Str) : Option Row := L.find? fun r => r.q == q
def clsOf (C : List CRow) (A : Addr) : Option CRow := C.find? fun c => c.A == A
def namOf (C : List CRow) (n : Str) : Option CRow := C.find? fun c => c.n == n
/-- exception classes: by name, which is caught by which, which fields are read -/
structure XTab where
  exc : List (Str × Addr × Option (List Str))
  xm : List ((Addr × Addr) × Bool)
  xf : List (Addr × Str)
def opL (os : List Operator) (op : Operator) : Bool := os.any fun o => decide (o = op)
noncomputable def mkG (K : PySem.W.Frag) (L : List Row) (C : List CRow) (V : List (Str × D)) (Y : XTab) : Gx where
  K := K
  fns q := (rowOf L q).map (·.f)
  glo n := match rowOf L n with
    | some r => if r.m = true then some (.fn n) else none
    | none => match namOf C n with
      | some c => some (.cls c.A c.q)
      | none => (V.lookup n).map .val
  pat q n kn := (rowOf L q).bind fun r => r.ps.lookup (n, kn)
  prop A f := (clsOf C A).bind fun c => c.prop.lookup f
  meth A f := (clsOf C A).bind fun c => c.meth.lookup f
  own A f := (clsOf C A).bind fun c => c.own.lookup f
  ri A op := match clsOf C A with
    | some c => opL c.ri op
    | none => false
  fld A f := match clsOf C A with
    | some c => c.fld.any (· == f)
    | none => false
  isT A t := (clsOf C A).bind fun c => c.isT t
  isC A B := (clsOf C A).bind fun c => c.isC.lookup B
  nf A d := match clsOf C A with
    | some c => c.nf d
    | none => false
  exc n := Y.exc.lookup n
  xm A B := Y.xm.lookup (A, B)
  xf A f := Y.xf.any fun z => decide (z = (A, f))
def adL (L : List Row) (q : Str) : Addr := match rowOf L q with
  | some r => r.a
  | none => 0
def fdL (L : List Row) (z : FuncData) (q : Str) : FuncData := match rowOf L q with
  | some r => r.d
  | none => z
noncomputable def mkU (P : Program) (w : World) (K : PySem.W.Frag) (mg : Str → Option Value) (base : Heap) (L : List Row) (C : List CRow) (V : List (Str × D)) (Y : XTab) (z : FuncData) : Sd :=
  ⟨mkG K L C V Y, P, w, K, mg, base, adL L, fdL L z⟩
theorem row_mem {L : List Row} {q : Str} {r : Row} (h : rowOf L q = some r) : r ∈ L ∧ r.q = q :=
  ⟨List.mem_of_find?_eq_some h, by have z := List.find?_some (p := fun r : Row => r.q == q) h; exact eq_of_beq z⟩
theorem cls_mem {C : List CRow} {A : Addr} {c : CRow} (h : clsOf C A = some c) : c ∈ C ∧ c.A = A :=
  ⟨List.mem_of_find?_eq_some h, by have z := List.find?_some (p := fun c : CRow => c.A == A) h; exact eq_of_beq z⟩
theorem nam_mem {C : List CRow} {n : Str} {c : CRow} (h : namOf C n = some c) : c ∈ C ∧ c.n = n :=
  ⟨List.mem_of_find?_eq_some h, by have z := List.find?_some (p := fun c : CRow => c.n == n) h; exact eq_of_beq z⟩
theorem lookup_mem {α β : Type} [BEq α] [LawfulBEq α] : ∀ {l : List (α × β)} {x : α} {y : β}, l.lookup x = some y → (x, y) ∈ l
  | [], _, _, h => by cases h
  | (a, b) :: r, x, y, h => by
    rw [List.lookup_cons] at h
    split at h
    · rename_i e
      cases h
      have e' := eq_of_beq e
      subst e'
      exact List.mem_cons_self ..
    · exact List.mem_cons_of_mem _ (lookup_mem h)
/-- what one def's row must bring -/
structure RowOk (K : PySem.W.Frag) (mg : Str → Option Value) (r : Row) : Prop where
  df : ∃ (name qual : Str) (params : Arguments) (body : List Stmt) (scope : Scope) (dV kV doc pm cdv ct oc : Value) (an od : Option Addr) (osl : Array (Option Value)), r.d = PySem.W.fnOf name qual params body scope dV kV doc pm an cdv ct ∧ K.lookup r.a = some ⟨oc, od, .func r.d, osl⟩ ∧
    PySem.W.codeIn K cdv qual = true ∧ FnScope r.f.N r.f.ps scope ∧ okB r.f.N scope r.f.body body = true
  bp : r.f.po = true → BndP K r.d r.f.ps
  bn : ∀ z ∈ r.ps, Bnd K r.d r.f.ps z.1.1 z.1.2 z.2
  gf : r.m = true → mg r.q = some (.ref r.a) ∧ PySem.W.keepIn K (.ref r.a) = true
structure CRowOk (K : PySem.W.Frag) (mg : Str → Option Value) (L : List Row) (c : CRow) : Prop where
  gc : mg c.n = some (.ref c.A) ∧ Mk K c.A (adL L c.q)
  co : ClsO K c.A
  prop : ∀ z ∈ c.prop, ∃ p, PropOf K c.A z.1 p (adL L z.2)
  fld : ∀ f ∈ c.fld, NoAttr K c.A f
  meth : ∀ z ∈ c.meth, Meth K c.A z.1 (adL L z.2)
  own : ∀ z ∈ c.own, PySem.W.findIn K (.ref c.A) z.1 = some (some (.ref (adL L z.2))) ∧ PySem.W.isFn K (.ref (adL L z.2)) = true
  one : ∀ q, c.own.lookup (Str.ofString "__eq__") = some q → PySem.W.findIn K (.ref c.A) "__ne__" = some (some (.builtin "object.__ne__"))
  ri : ∀ op ∈ c.ri, PySem.W.findIn K (.ref c.A) (dunderR op.info.2) = some none ∧ PySem.W.subIn K (.type "int") (.ref c.A) = some false ∧
    ∃ fo ro, PySem.W.findIn K (.type "int") (PySem.dunder op.info.2) = some fo ∧ PySem.W.findIn K (.type "int") (dunderR op.info.2) = some ro
  isT : ∀ t b, c.isT t = some b → PySem.W.kitOne K (.ref c.A) (.type (tyS t)) = some b
  isC : ∀ z ∈ c.isC, PySem.W.kitOne K (.ref c.A) (.ref z.1) = some z.2
  kC : ∀ s : String, s ∈ ["NoneType", "int", "bool", "str", "list", "tuple", "dict"] → PySem.W.kitOne K (.type s) (.ref c.A) = some false
  nf : ∀ d, c.nf d = true → ∃ t, TyD K d t ∧ PySem.W.notFirst K c.A t = true
structure WorldOk (K : PySem.W.Frag) (mg : Str → Option Value) (V : List (Str × D)) : Prop where
  gv : ∀ z ∈ V, ∃ v u, mg z.1 = some u ∧ RelV v u ∧ ∀ M H, Rep M H z.2 v
  nb : ∀ b : Bt, mg b.nm = none
  nt : ∀ t : Ty, mg t.nm = none
  ni : mg "isinstance" = none
  nk : mg "range" = none ∧ mg "zip" = none ∧ mg "enumerate" = none
  kT : ∀ t : Ty, PySem.W.kitOne K (.type "NoneType") (.type (tyS t)) = some false ∧ PySem.W.kitOne K (.type "int") (.type (tyS t)) = some (match t with | .int => true | _ => false) ∧
    PySem.W.kitOne K (.type "bool") (.type (tyS t)) = some (match t with | .int => true | .bool => true | _ => false) ∧ PySem.W.kitOne K (.type "str") (.type (tyS t)) = some (match t with | .str => true | _ => false) ∧
    PySem.W.kitOne K (.type "list") (.type (tyS t)) = some (match t with | .list => true | _ => false) ∧ PySem.W.kitOne K (.type "tuple") (.type (tyS t)) = some (match t with | .tuple => true | _ => false)
  kD : ∀ t : Ty, PySem.W.kitOne K (.type "dict") (.type (tyS t)) = some false
structure XTabOk (K : PySem.W.Frag) (mg : Str → Option Value) (Y : XTab) : Prop where
  exc : ∀ z ∈ Y.exc, mg z.1 = some (.ref z.2.1) ∧ ∀ fs, z.2.2 = some fs → XMk K z.2.1 fs
  xm : ∀ z ∈ Y.xm, PySem.W.exmOne K (.ref z.1.1) (.ref z.1.2) = some z.2
  xf : ∀ z ∈ Y.xf, XfC K z.1 ∧ PySem.W.findIn K (.ref z.1) z.2 = some none
section
variable {P : Program} {w : World} {K : PySem.W.Frag} {mg : Str → Option Value} {base : Heap} {L : List Row} {C : List CRow} {V : List (Str × D)} {Y : XTab} {z : FuncData}
theorem fns_row {q : Str} {f : Fc} (h : (mkG K L C V Y).fns q = some f) : ∃ r ∈ L, r.q = q ∧ r.f = f ∧ rowOf L q = some r ∧ adL L q = r.a ∧ fdL L z q = r.d := by
  obtain ⟨r, h1, h2⟩ := Option.map_eq_some_iff.mp h
  obtain ⟨h3, h4⟩ := row_mem h1
  exact ⟨r, h3, h4, h2, h1, by unfold adL; rw [h1], by unfold fdL; rw [h1]⟩
theorem glo_cases {n : Str} {g : Gk} (h : (mkG K L C V Y).glo n = some g) : (∃ r ∈ L, r.q = n ∧ r.m = true ∧ g = .fn n ∧ adL L n = r.a) ∨ (∃ c ∈ C, c.n = n ∧ g = .cls c.A c.q) ∨ ∃ d, (n, d) ∈ V ∧ g = .val d := by
  change (match rowOf L n with
    | some r => if r.m = true then some (.fn n) else none
    | none => match namOf C n with
      | some c => some (.cls c.A c.q)
      | none => (V.lookup n).map .val) = some g at h
  split at h
  · rename_i r hr
    split at h
    · rename_i hm
      cases h
      obtain ⟨h3, h4⟩ := row_mem hr
      exact .inl ⟨r, h3, h4, hm, rfl, by unfold adL; rw [hr]⟩
    · cases h
  · split at h
    · rename_i c hc
      cases h
      obtain ⟨h3, h4⟩ := nam_mem hc
      exact .inr (.inl ⟨c, h3, h4, rfl⟩)
    · obtain ⟨d, h1, rfl⟩ := Option.map_eq_some_iff.mp h
      exact .inr (.inr ⟨d, lookup_mem h1, rfl⟩)
theorem ws_of (hr : ∀ r ∈ L, RowOk K mg r) (hc : ∀ c ∈ C, CRowOk K mg L c) (hw : WorldOk K mg V) (hy : XTabOk K mg Y) : Ws (mkU P w K mg base L C V Y z) where
  kk := rfl
  df q f h := by
    obtain ⟨r, hm, rfl, rfl, e, ha, hd⟩ := fns_row (z := z) h
    refine ⟨?_⟩
    show ∃ (name qual : Str) (params : Arguments) (body : List Stmt) (scope : Scope) (dV kV doc pm cdv ct oc : Value) (an od : Option Addr) (osl : Array (Option Value)), fdL L z r.q = PySem.W.fnOf name qual params body scope dV kV doc pm an cdv ct ∧ K.lookup (adL L r.q) = some ⟨oc, od, .func (fdL L z r.q), osl⟩ ∧ PySem.W.codeIn K cdv qual = true ∧ FnScope r.f.N r.f.ps scope ∧ okB r.f.N scope r.f.body body = true
    rw [ha, hd]
    exact (hr r hm).df
  bp q f h hp := by
    obtain ⟨r, hm, rfl, rfl, e, ha, hd⟩ := fns_row (z := z) h
    show BndP K (fdL L z r.q) r.f.ps
    rw [hd]
    exact (hr r hm).bp hp
  bn q n kn p h := by
    obtain ⟨r, h1, h2⟩ := Option.bind_eq_some_iff.mp (show (rowOf L q).bind (fun r => r.ps.lookup (n, kn)) = some p from h)
    obtain ⟨hm, rfl⟩ := row_mem h1
    refine ⟨r.f, by show (rowOf L r.q).map (·.f) = some r.f; rw [h1]; rfl, ?_⟩
    show Bnd K (fdL L z r.q) r.f.ps n kn p
    rw [show fdL L z r.q = r.d by unfold fdL; rw [h1]]
    exact (hr r hm).bn ((n, kn), p) (lookup_mem h2)
  gf n q h := by
    rcases glo_cases h with ⟨r, hm, rfl, h1, e, ha⟩ | ⟨c, hm, rfl, e⟩ | ⟨d, hm, e⟩
    · cases e
      show mg r.q = some (.ref (adL L r.q)) ∧ PySem.W.keepIn K (.ref (adL L r.q)) = true
      rw [ha]
      exact (hr r hm).gf h1
    · cases e
    · cases e
  gc n A q h := by
    rcases glo_cases h with ⟨r, hm, rfl, h1, e, ha⟩ | ⟨c, hm, rfl, e⟩ | ⟨d, hm, e⟩
    · cases e
    · cases e
      exact (hc c hm).gc
    · cases e
  gv n d h := by
    rcases glo_cases h with ⟨r, hm, rfl, h1, e, ha⟩ | ⟨c, hm, rfl, e⟩ | ⟨d, hm, e⟩
    · cases e
    · cases e
    · cases e
      exact hw.gv (n, d) hm
  nb := hw.nb
  nt := hw.nt
  ni := hw.ni
  nk := hw.nk
  prop A f q h := by
    obtain ⟨c, h1, h2⟩ := Option.bind_eq_some_iff.mp (show (clsOf C A).bind (fun c => c.prop.lookup f) = some q from h)
    obtain ⟨hm, rfl⟩ := cls_mem h1
    exact ⟨(hc c hm).co.cl, (hc c hm).prop (f, q) (lookup_mem h2)⟩
  fld A f h := by
    have h' : (match clsOf C A with
      | some c => c.fld.any (· == f)
      | none => false) = true := h
    split at h'
    · rename_i c h1
      obtain ⟨hm, rfl⟩ := cls_mem h1
      obtain ⟨x, hx, e⟩ := List.any_eq_true.mp h'
      rw [← eq_of_beq e]
      exact ⟨(hc c hm).co.cl, (hc c hm).fld x hx⟩
    · cases h'
  meth A f q h := by
    obtain ⟨c, h1, h2⟩ := Option.bind_eq_some_iff.mp (show (clsOf C A).bind (fun c => c.meth.lookup f) = some q from h)
    obtain ⟨hm, rfl⟩ := cls_mem h1
    exact ⟨(hc c hm).co.cl, (hc c hm).meth (f, q) (lookup_mem h2)⟩
  own A f q h := by
    obtain ⟨c, h1, h2⟩ := Option.bind_eq_some_iff.mp (show (clsOf C A).bind (fun c => c.own.lookup f) = some q from h)
    obtain ⟨hm, rfl⟩ := cls_mem h1
    exact ⟨(hc c hm).co, (hc c hm).own (f, q) (lookup_mem h2)⟩
  one A q h := by
    obtain ⟨c, h1, h2⟩ := Option.bind_eq_some_iff.mp (show (clsOf C A).bind (fun c => c.own.lookup (Str.ofString "__eq__")) = some q from h)
    obtain ⟨hm, rfl⟩ := cls_mem h1
    exact (hc c hm).one q h2
  ri A op h := by
    have h' : (match clsOf C A with
      | some c => opL c.ri op
      | none => false) = true := h
    split at h'
    · rename_i c h1
      obtain ⟨hm, rfl⟩ := cls_mem h1
      obtain ⟨x, hx, e⟩ := List.any_eq_true.mp h'
      have e' := of_decide_eq_true e
      subst e'
      exact (hc c hm).ri x hx
    · cases h'
  isT A t b h := by
    obtain ⟨c, h1, h2⟩ := Option.bind_eq_some_iff.mp (show (clsOf C A).bind (fun c => c.isT t) = some b from h)
    obtain ⟨hm, rfl⟩ := cls_mem h1
    exact ⟨(hc c hm).co, (hc c hm).isT t b h2⟩
  isC A B b h := by
    obtain ⟨c, h1, h2⟩ := Option.bind_eq_some_iff.mp (show (clsOf C A).bind (fun c => c.isC.lookup B) = some b from h)
    obtain ⟨hm, rfl⟩ := cls_mem h1
    exact ⟨(hc c hm).co, (hc c hm).isC (B, b) (lookup_mem h2)⟩
  kT := hw.kT
  kD := hw.kD
  exc n A o h := (hy.exc (n, A, o) (lookup_mem (show Y.exc.lookup n = some (A, o) from h))).1
  exr n A fs h := (hy.exc (n, A, some fs) (lookup_mem (show Y.exc.lookup n = some (A, some fs) from h))).2 fs rfl
  xm A B b h := hy.xm ((A, B), b) (lookup_mem (show Y.xm.lookup (A, B) = some b from h))
  xf A f h := by
    obtain ⟨y, hy1, e⟩ := List.any_eq_true.mp (show (Y.xf.any fun z => decide (z = (A, f))) = true from h)
    have e := of_decide_eq_true e
    subst e
    exact hy.xf _ hy1
  kC n B q h s hs := by
    rcases glo_cases h with ⟨r, hm, rfl, h1, e, ha⟩ | ⟨c, hm, rfl, e⟩ | ⟨d, hm, e⟩
    · cases e
    · cases e
      exact (hc c hm).kC s hs
    · cases e
  nf A d h := by
    have h' : (match clsOf C A with
      | some c => c.nf d
      | none => false) = true := h
    split at h'
    · rename_i c h1
      obtain ⟨hm, rfl⟩ := cls_mem h1
      exact (hc c hm).nf d h'
    · cases h'
end
end RE
set_option Elab.async false
set_option linter.all false
set_option maxRecDepth 100000
set_option autoImplicit false
set_option maxHeartbeats 1000000
/-! RN: rows of the tables, made. -/
namespace RE
open PySem L2 TL
section
variable {K : PySem.W.Frag} {fd : FuncData} {x y z : Str}
theorem bnd0 (b : BndP K fd []) : Bnd K fd [] 0 [] [] := ⟨[], .nil, rfl, fun s us ws zs hk hu hw hp => by
  match us, ws, hu, hw with
  | [], [], _, _ => cases hp; exact b s [] hk rfl⟩
theorem bnd1 (b : BndP K fd [x]) : Bnd K fd [x] 1 [] [.inl 0] := ⟨[.inl 0], .inl 0 .nil, rfl, fun s us ws zs hk hu hw hp => by
  match us, ws, hu, hw with
  | [u], [], _, _ => cases hp; exact b s [u] hk rfl⟩
theorem bnd2 (b : BndP K fd [x, y]) : Bnd K fd [x, y] 2 [] [.inl 0, .inl 1] := ⟨[.inl 0, .inl 1], .inl 0 (.inl 1 .nil), rfl, fun s us ws zs hk hu hw hp => by
  match us, ws, hu, hw with
  | [u, v], [], _, _ => cases hp; exact b s [u, v] hk rfl⟩
theorem bnd3 (b : BndP K fd [x, y, z]) : Bnd K fd [x, y, z] 3 [] [.inl 0, .inl 1, .inl 2] := ⟨[.inl 0, .inl 1, .inl 2], .inl 0 (.inl 1 (.inl 2 .nil)), rfl, fun s us ws zs hk hu hw hp => by
  match us, ws, hu, hw with
  | [u, v, t], [], _, _ => cases hp; exact b s [u, v, t] hk rfl⟩
/-- a default behind -/
theorem bndD2 {v : V} {d : D} {ds : List Value} (hv : Vals [v] ds) (hd : ∀ M H, Rep M H d v) (b : Binds K fd [x, y, z] ds) : Bnd K fd [x, y, z] 2 [] [.inl 0, .inl 1, .inr d] := by
  cases hv with
  | cons r t =>
    cases t
    refine ⟨[.inl 0, .inl 1, .inr _], .inl 0 (.inl 1 (.inr hd r .nil)), rfl, fun s us ws zs hk hu hw hp => ?_⟩
    match us, ws, hu, hw with
    | [u, v], [], _, _ => cases hp; exact b s [u, v] hk rfl
/-- a def with a tuple of defaults -/
theorem bnd_def {T : Addr} {o : Obj} {its : List Value} {nT : Nat} {ps : List Str} {n : Nat} {kn : List Str} {p : Pat} {q : List (Sum Nat Value)} (lT : K.lookup T = some o) (oT : o.data = .seq its.toArray nT) (hq : PatV p q) (hl : ps.length = p.length)
    (h : ∀ us ws : List Value, us.length = n → ws.length = kn.length → ∃ k, bindArgs fd ⟨us, kn.zip ws⟩ = seqItems? (.ref T) >>= k ∧ ∀ zs, pickV q (us ++ ws) = some zs → k (some its.toArray) = pure (ps.zip zs)) : Bnd K fd ps n kn p :=
  ⟨q, hq, hl, fun s us ws zs X hu hw hp => by
    obtain ⟨k, e1, e2⟩ := h us ws hu hw
    refine BindsTo.of_looks fun M => ?_
    rw [e1]
    exact looks_items X lT oT (.of_pure (e2 zs hp))⟩
theorem bndP_def {T : Addr} {o : Obj} {its : List Value} {nT : Nat} {ps : List Str} (lT : K.lookup T = some o) (oT : o.data = .seq its.toArray nT)
    (h : ∀ us : List Value, us.length = ps.length → ∃ k, bindArgs fd ⟨us, []⟩ = seqItems? (.ref T) >>= k ∧ k (some its.toArray) = pure (ps.zip us)) : BndP K fd ps :=
  fun s us X hu => by
    obtain ⟨k, e1, e2⟩ := h us hu
    refine BindsTo.of_looks fun M => ?_
    rw [e1]
    exact looks_items X lT oT (.of_pure e2)
end
end RE
set_option Elab.async false
set_option linter.all false
set_option maxRecDepth 100000
set_option autoImplicit false
set_option maxHeartbeats 1000000
/-! RO: isinstance among the built-in types. -/
namespace RE
open PySem L2 TL
theorem kT_all (K : PySem.W.Frag) (t : Ty) : PySem.W.kitOne K (.type "NoneType") (.type (tyS t)) = some false ∧ PySem.W.kitOne K (.type "int") (.type (tyS t)) = some (match t with | .int => true | _ => false) ∧
    PySem.W.kitOne K (.type "bool") (.type (tyS t)) = some (match t with | .int => true | .bool => true | _ => false) ∧ PySem.W.kitOne K (.type "str") (.type (tyS t)) = some (match t with | .str => true | _ => false) ∧
    PySem.W.kitOne K (.type "list") (.type (tyS t)) = some (match t with | .list => true | _ => false) ∧ PySem.W.kitOne K (.type "tuple") (.type (tyS t)) = some (match t with | .tuple => true | _ => false) := by
  cases t <;> exact ⟨rfl, rfl, rfl, rfl, rfl, rfl⟩
theorem kD_all (K : PySem.W.Frag) (t : Ty) : PySem.W.kitOne K (.type "dict") (.type (tyS t)) = some false := by cases t <;> rfl
end RE
set_option Elab.async false
set_option linter.all false
set_option autoImplicit false
/-! RP: a row found by its name. -/
namespace RE
open PySem L2 TL
theorem row_hit {r : Row} {L : List Row} {q : Str} (h : (r.q == q) = true) : rowOf (r :: L) q = some r := by
  unfold rowOf
  rw [List.find?_cons, h]
theorem row_miss {r : Row} {L : List Row} {q : Str} (h : (r.q == q) = false) : rowOf (r :: L) q = rowOf L q := by
  unfold rowOf
  rw [List.find?_cons, h]
theorem cls_one {c : CRow} : clsOf [c] c.A = some c := by
  unfold clsOf
  rw [List.find?_cons, beq_self_eq_true]
end RE
set_option Elab.async false
set_option linter.all false
set_option maxRecDepth 100000
set_option autoImplicit false
set_option maxHeartbeats 1000000
/-! RQ: the tables' answers, by index. -/
namespace RE
open PySem L2 TL
theorem row_at {L : List Row} {r : Row} {i : Nat} (hnd : (L.map (·.q)).Nodup) (h : L[i]? = some r) : rowOf L r.q = some r := by
  induction L generalizing i with
  | nil => simp at h
  | cons a L ih =>
    have hn := List.nodup_cons.mp (show (_ :: _ : List _).Nodup from hnd)
    cases i with
    | zero => cases h; exact row_hit (by simp)
    | succ i =>
      have hi : L[i]? = some r := by simpa using h
      rw [row_miss, ih hn.2 hi]
      refine beq_eq_false_iff_ne.mpr fun e => hn.1 ?_
      dsimp only
      rw [e]
      exact List.mem_map.mpr ⟨r, List.mem_of_getElem? hi, rfl⟩
theorem row_none {L : List Row} {n : Str} (h : n ∉ L.map (·.q)) : rowOf L n = none := by
  unfold rowOf
  rw [List.find?_eq_none]
  intro r hr e
  exact h (List.mem_map.mpr ⟨r, hr, eq_of_beq e⟩)
theorem nam_at {C : List CRow} {c : CRow} {i : Nat} (hnd : (C.map (·.n)).Nodup) (h : C[i]? = some c) : namOf C c.n = some c := by
  unfold namOf
  induction C generalizing i with
  | nil => simp at h
  | cons a L ih =>
    have hn := List.nodup_cons.mp (show (_ :: _ : List _).Nodup from hnd)
    cases i with
    | zero => cases h; rw [List.find?_cons]; simp
    | succ i =>
      have hi : L[i]? = some c := by simpa using h
      have e : (a.n == c.n) = false := by
        refine beq_eq_false_iff_ne.mpr fun e => hn.1 ?_
        dsimp only
        rw [e]
        exact List.mem_map.mpr ⟨c, List.mem_of_getElem? hi, rfl⟩
      rw [List.find?_cons, e]
      exact ih hn.2 hi
theorem cls_at {C : List CRow} {c : CRow} {i : Nat} (hnd : (C.map (·.A)).Nodup) (h : C[i]? = some c) : clsOf C c.A = some c := by
  unfold clsOf
  induction C generalizing i with
  | nil => simp at h
  | cons a L ih =>
    have hn := List.nodup_cons.mp (show (_ :: _ : List _).Nodup from hnd)
    cases i with
    | zero => cases h; rw [List.find?_cons]; simp
    | succ i =>
      have hi : L[i]? = some c := by simpa using h
      have e : (a.A == c.A) = false := by
        refine beq_eq_false_iff_ne.mpr fun e => hn.1 ?_
        dsimp only
        rw [e]
        exact List.mem_map.mpr ⟨c, List.mem_of_getElem? hi, rfl⟩
      rw [List.find?_cons, e]
      exact ih hn.2 hi
section
variable {K : PySem.W.Frag} {L : List Row} {C : List CRow} {V : List (Str × D)} {Y : XTab} {r : Row} {c : CRow} {i : Nat}
theorem fns_at {q : Str} {f : Fc} (h : rowOf L q = some r) (hf : r.f = f) : (mkG K L C V Y).fns q = some f := by
  show (rowOf L q).map (·.f) = _
  rw [h, Option.map_some, hf]
theorem glo_at {q : Str} (h : rowOf L q = some r) (hm : r.m = true) : (mkG K L C V Y).glo q = some (.fn q) := by
  show (match rowOf L q with
    | some r => if r.m = true then some (Gk.fn q) else none
    | none => _) = _
  rw [h]
  exact if_pos hm
theorem pat_at {q : Str} {n : Nat} {kn : List Str} {p : Pat} (h : rowOf L q = some r) (hp : r.ps.lookup (n, kn) = some p) : (mkG K L C V Y).pat q n kn = some p := by
  show (rowOf L q).bind (fun r => r.ps.lookup (n, kn)) = _
  rw [h]
  exact hp
theorem ad_at {q : Str} {a : Addr} (h : rowOf L q = some r) (ha : r.a = a) : adL L q = a := by
  unfold adL
  rw [h]
  exact ha
theorem fd_at {q : Str} {z d : FuncData} (h : rowOf L q = some r) (hd : r.d = d) : fdL L z q = d := by
  unfold fdL
  rw [h]
  exact hd
theorem glo_cls {n : Str} {A : Addr} {q : Str} (hn : rowOf L n = none) (h : namOf C n = some c) (hA : c.A = A) (hq : c.q = q) : (mkG K L C V Y).glo n = some (.cls A q) := by
  show (match rowOf L n with
    | some r => if r.m = true then some (Gk.fn n) else none
    | none => match namOf C n with
      | some c => some (.cls c.A c.q)
      | none => (V.lookup n).map .val) = _
  rw [hn, h, ← hA, ← hq]
theorem glo_val {n : Str} {d : D} (hn : rowOf L n = none) (h : namOf C n = none) (hv : V.lookup n = some d) : (mkG K L C V Y).glo n = some (.val d) := by
  show (match rowOf L n with
    | some r => if r.m = true then some (Gk.fn n) else none
    | none => match namOf C n with
      | some c => some (.cls c.A c.q)
      | none => (V.lookup n).map .val) = _
  rw [hn, h, hv]
  rfl
theorem prop_at {A : Addr} {f : Str} {o : Option Str} (h : clsOf C A = some c) (hp : c.prop.lookup f = o) : (mkG K L C V Y).prop A f = o := by
  show (clsOf C A).bind (fun c => c.prop.lookup f) = _
  rw [h]
  exact hp
theorem meth_at {A : Addr} {f : Str} {o : Option Str} (h : clsOf C A = some c) (hp : c.meth.lookup f = o) : (mkG K L C V Y).meth A f = o := by
  show (clsOf C A).bind (fun c => c.meth.lookup f) = _
  rw [h]
  exact hp
theorem own_at {A : Addr} {f : Str} {o : Option Str} (h : clsOf C A = some c) (hp : c.own.lookup f = o) : (mkG K L C V Y).own A f = o := by
  show (clsOf C A).bind (fun c => c.own.lookup f) = _
  rw [h]
  exact hp
theorem fld_at {A : Addr} {f : Str} (h : clsOf C A = some c) (hp : c.fld.any (· == f) = true) : (mkG K L C V Y).fld A f = true := by
  show (match clsOf C A with
    | some c => c.fld.any (· == f)
    | none => false) = _
  rw [h]
  exact hp
theorem isC_at {A B : Addr} {o : Option Bool} (h : clsOf C A = some c) (hp : c.isC.lookup B = o) : (mkG K L C V Y).isC A B = o := by
  show (clsOf C A).bind (fun c => c.isC.lookup B) = _
  rw [h]
  exact hp
theorem isT_at {A : Addr} {t : Ty} {o : Option Bool} (h : clsOf C A = some c) (hp : c.isT t = o) : (mkG K L C V Y).isT A t = o := by
  show (clsOf C A).bind (fun c => c.isT t) = _
  rw [h]
  exact hp
theorem nf_at {A : Addr} {d : D} (h : clsOf C A = some c) (hp : c.nf d = true) : (mkG K L C V Y).nf A d = true := by
  show (match clsOf C A with
    | some c => c.nf d
    | none => false) = _
  rw [h]
  exact hp
end
theorem kit_rt {K : PySem.W.Frag} {C : Addr} {T : String} {b : Bool} (h1 : PySem.W.kitMeta T = true) (h2 : PySem.W.mroIn K C (.type T) = some b) : PySem.W.kitOne K (.ref C) (.type T) = some b := by
  show (if PySem.W.kitMeta T = true then PySem.W.subIn K (.ref C) (.type T) else none) = some b
  rw [if_pos h1]
  exact h2
theorem kit_tr {K : PySem.W.Frag} {C : Addr} {T : String} {b : Bool} {cd : ClassData} (h1 : PySem.W.clsIn K C = some cd) (h2 : PySem.W.typeIn K (.ref C) = some (.type "type")) (h3 : PySem.W.subIn K (.type T) (.ref C) = some b) : PySem.W.kitOne K (.type T) (.ref C) = some b := by
  show (if ((PySem.W.clsIn K C).isSome && PySem.W.typeIn K (.ref C) == some (.type "type")) = true then PySem.W.subIn K (.type T) (.ref C) else none) = some b
  rw [h1, h2, if_pos (by show (true && (some (Value.type "type") == some (Value.type "type"))) = true; decide)]
  exact h3
theorem kit_self {K : PySem.W.Frag} {C : Addr} : PySem.W.kitOne K (.ref C) (.ref C) = some true := by
  unfold PySem.W.kitOne
  rw [if_pos (by simp)]
theorem row_ex {K : PySem.W.Frag} {mg : Str → Option Value} {q : Str} {m : Bool} {c : Fc} {f : Addr} {d : FuncData} {ps : List ((Nat × List Str) × Pat)} (h : RowOk K mg ⟨q, m, c, f, d, ps⟩) : ∃ r : Row, RowOk K mg r ∧ r.q = q ∧ r.m = m ∧ r.f = c ∧ r.a = f ∧ r.d = d ∧ r.ps = ps := ⟨_, h, rfl, rfl, rfl, rfl, rfl, rfl⟩
theorem row_at' {L : List Row} {r : Row} {q : Str} {i : Nat} (hnd : (L.map (·.q)).Nodup) (h : L[i]? = some r) (hq : r.q = q) : rowOf L q = some r := hq ▸ row_at hnd h
theorem pat_at' {K : PySem.W.Frag} {L : List Row} {C : List CRow} {V : List (Str × D)} {Y : XTab} {r : Row} {q : Str} {n : Nat} {kn : List Str} {p : Pat} {ps : List ((Nat × List Str) × Pat)} (h : rowOf L q = some r) (hs : r.ps = ps) (hp : ps.lookup (n, kn) = some p) : (mkG K L C V Y).pat q n kn = some p := pat_at h (hs ▸ hp)
theorem rows_nil {K : PySem.W.Frag} {mg : Str → Option Value} : ∀ r ∈ ([] : List Row), RowOk K mg r := fun r h => by cases h
theorem rows_cons {K : PySem.W.Frag} {mg : Str → Option Value} {a : Row} {L : List Row} (h : RowOk K mg a) (t : ∀ r ∈ L, RowOk K mg r) : ∀ r ∈ a :: L, RowOk K mg r := fun r hr => by
  rcases List.mem_cons.mp hr with rfl | hr
  · exact h
  · exact t r hr
/-- the law's promise -/
def rLaw (K : PySem.W.Frag) : TL.Spec := fun ss r ss' => ∃ a ns, ss = [.im (.scr K a ns)] ∧ ns.length ≤ 63 ∧ r = .im (.bl true) ∧ ss' = [.im (.scr K a ns)]
end RE
set_option Elab.async false
set_option linter.all false
set_option maxRecDepth 100000
set_option autoImplicit false
set_option maxHeartbeats 1000000
/-! RU: exception rows of the tables. -/
namespace RE
open PySem L2 TL
theorem exm_rr {K : PySem.W.Frag} {A B : Addr} {b : Bool} {cd : ClassData} (h0 : PySem.W.subIn K (.ref B) (.type "BaseException") = some true) (h1 : PySem.W.clsIn K B = some cd) (h2 : PySem.W.typeIn K (.ref B) = some (.type "type")) (h3 : PySem.W.subIn K (.ref A) (.ref B) = some b) : PySem.W.exmOne K (.ref A) (.ref B) = some b := by
  unfold PySem.W.exmOne
  rw [h0, if_pos (by decide)]
  show (if ((PySem.W.clsIn K B).isSome && PySem.W.typeIn K (.ref B) == some (.type "type")) = true then PySem.W.subIn K (.ref A) (.ref B) else none) = some b
  rw [h1, h2, if_pos (by show (true && (some (Value.type "type") == some (Value.type "type"))) = true; decide)]
  exact h3
section
variable {K : PySem.W.Frag} {L : List Row} {C : List CRow} {V : List (Str × D)} {Y : XTab}
theorem exc_at {n : Str} {o : Option (Addr × Option (List Str))} (h : Y.exc.lookup n = o) : (mkG K L C V Y).exc n = o := h
theorem xm_at {A B : Addr} {o : Option Bool} (h : Y.xm.lookup (A, B) = o) : (mkG K L C V Y).xm A B = o := h
theorem xf_at {A : Addr} {f : Str} (h : (A, f) ∈ Y.xf) : (mkG K L C V Y).xf A f = true := by
  show (Y.xf.any fun z => decide (z = (A, f))) = true
  exact List.any_eq_true.mpr ⟨_, h, by simp⟩
end
theorem all_nil {α : Type} {p : α → Prop} : ∀ r ∈ ([] : List α), p r := fun r h => by cases h
theorem all_cons {α : Type} {p : α → Prop} {a : α} {L : List α} (h : p a) (t : ∀ r ∈ L, p r) : ∀ r ∈ a :: L, p r := fun r hr => by
  rcases List.mem_cons.mp hr with rfl | hr
  · exact h
  · exact t r hr
end RE
set_option Elab.async false
set_option linter.all false
set_option autoImplicit false
set_option maxHeartbeats 4000000
/-! MA: the plain mathematics of fractions in lowest terms, and of the purse. -/
namespace MA
theorem gcd_step {x y : Int} (hx : 0 ≤ x) (hy : 0 < y) : Int.gcd y (x % y) = Int.gcd x y := by
  obtain ⟨m, rfl⟩ := Int.eq_ofNat_of_zero_le hx
  obtain ⟨n, rfl⟩ := Int.eq_ofNat_of_zero_le (Int.le_of_lt hy)
  show Nat.gcd (Int.natAbs (n : Int)) (Int.natAbs ((m : Int) % (n : Int))) = Nat.gcd (Int.natAbs (m : Int)) (Int.natAbs (n : Int))
  rw [← Int.natCast_emod, Int.natAbs_natCast, Int.natAbs_natCast, Int.natAbs_natCast, Nat.gcd_comm n, ← Nat.gcd_rec, Nat.gcd_comm]
/-- the common divisor, with the sign of the bottom -/
def sh (t b : Int) : Int := if b > 0 then (Int.gcd t b : Int) else -(Int.gcd t b : Int)
def lN (t b : Int) : Int := t.fdiv (sh t b)
def lD (t b : Int) : Int := b.fdiv (sh t b)
theorem gcd_pos {t b : Int} (hb : b ≠ 0) : 0 < (Int.gcd t b : Int) := by
  have : Int.gcd t b ≠ 0 := fun h => hb (Int.gcd_eq_zero_iff.mp h).2
  omega
theorem sh_ne {t b : Int} (hb : b ≠ 0) : sh t b ≠ 0 := by
  have := gcd_pos (t := t) hb
  unfold sh
  split <;> omega
theorem sh_dvd_t (t b : Int) : sh t b ∣ t := by
  unfold sh
  split
  · exact Int.gcd_dvd_left ..
  · exact Int.neg_dvd.mpr (Int.gcd_dvd_left ..)
theorem sh_dvd_b (t b : Int) : sh t b ∣ b := by
  unfold sh
  split
  · exact Int.gcd_dvd_right ..
  · exact Int.neg_dvd.mpr (Int.gcd_dvd_right ..)
theorem lN_mul {t b : Int} : lN t b * sh t b = t := by
  unfold lN
  exact Int.fdiv_mul_cancel (sh_dvd_t t b)
theorem lD_mul {t b : Int} : lD t b * sh t b = b := by
  unfold lD
  exact Int.fdiv_mul_cancel (sh_dvd_b t b)
theorem lD_pos {t b : Int} (hb : b ≠ 0) : 0 < lD t b := by
  have h := lD_mul (t := t) (b := b)
  have hg := gcd_pos (t := t) hb
  unfold sh at h
  split at h
  · rename_i h0
    rcases Int.lt_trichotomy (lD t b) 0 with z | z | z
    · have : lD t b * (Int.gcd t b : Int) < 0 := Int.mul_neg_of_neg_of_pos z hg
      omega
    · rw [z] at h; omega
    · exact z
  · rename_i h0
    rcases Int.lt_trichotomy (lD t b) 0 with z | z | z
    · have : 0 < lD t b * -(Int.gcd t b : Int) := Int.mul_pos_of_neg_of_neg z (by omega)
      omega
    · rw [z] at h; omega
    · exact z
theorem l_cross {t b : Int} : lN t b * b = t * lD t b := by
  have h1 := lN_mul (t := t) (b := b)
  have h2 := lD_mul (t := t) (b := b)
  generalize sh t b = s at *
  rw [← h1, ← h2]
  grind
theorem natAbs_sh (t b : Int) : (sh t b).natAbs = Int.gcd t b := by
  unfold sh
  split <;> simp
theorem l_coprime {t b : Int} (hb : b ≠ 0) : Int.gcd (lN t b) (lD t b) = 1 := by
  have h1 := lN_mul (t := t) (b := b)
  have h2 := lD_mul (t := t) (b := b)
  have hg := gcd_pos (t := t) hb
  have : Int.gcd (lN t b * sh t b) (lD t b * sh t b) = Int.gcd (lN t b) (lD t b) * (sh t b).natAbs := Int.gcd_mul_right ..
  rw [h1, h2, natAbs_sh] at this
  have h3 : 0 < Int.gcd t b := by omega
  have h4 : 1 * Int.gcd t b = Int.gcd (lN t b) (lD t b) * Int.gcd t b := by rw [Nat.one_mul]; exact this
  exact (Nat.eq_of_mul_eq_mul_right h3 h4).symm
/-- fractions that are equal have one lowest form -/
theorem cop_uniq {n d m e : Int} (hd : 0 < d) (he : 0 < e) (h1 : Int.gcd n d = 1) (h2 : Int.gcd m e = 1) (h : n * e = m * d) : n = m ∧ d = e := by
  have a1 : d ∣ n * e := ⟨m, by rw [h]; exact Int.mul_comm ..⟩
  have a2 : e ∣ m * d := ⟨n, by rw [← h]; exact Int.mul_comm ..⟩
  have b1 : d ∣ e := by
    refine Int.natAbs_dvd_natAbs.mp (Nat.Coprime.dvd_of_dvd_mul_left (m := n.natAbs) ?_ ?_)
    · rw [Nat.coprime_comm]; exact h1
    · rw [← Int.natAbs_mul]; exact Int.natAbs_dvd_natAbs.mpr a1
  have b2 : e ∣ d := by
    refine Int.natAbs_dvd_natAbs.mp (Nat.Coprime.dvd_of_dvd_mul_left (m := m.natAbs) ?_ ?_)
    · rw [Nat.coprime_comm]; exact h2
    · rw [← Int.natAbs_mul]; exact Int.natAbs_dvd_natAbs.mpr a2
  have hde : d = e := Int.dvd_antisymm (Int.le_of_lt hd) (Int.le_of_lt he) b1 b2
  subst hde
  exact ⟨Int.eq_of_mul_eq_mul_right (Int.ne_of_gt hd) h, rfl⟩
theorem l_eq {t b u c : Int} (hb : b ≠ 0) (hc : c ≠ 0) (h : t * c = u * b) : lN t b = lN u c ∧ lD t b = lD u c := by
  refine cop_uniq (lD_pos hb) (lD_pos hc) (l_coprime hb) (l_coprime hc) ?_
  have h1 := lN_mul (t := t) (b := b)
  have h2 := lD_mul (t := t) (b := b)
  have h3 := lN_mul (t := u) (b := c)
  have h4 := lD_mul (t := u) (b := c)
  have hs := sh_ne (t := t) hb
  have hs' := sh_ne (t := u) hc
  generalize sh t b = s at *
  generalize sh u c = s' at *
  rw [← h1, ← h2, ← h3, ← h4] at h
  have : (lN t b * lD u c) * (s * s') = (lN u c * lD t b) * (s * s') := by grind
  exact Int.eq_of_mul_eq_mul_right (Int.mul_ne_zero hs hs') this
/-- what is in lowest terms stays -/
theorem l_self {n d : Int} (hd : 0 < d) (h : Int.gcd n d = 1) : lN n d = n ∧ lD n d = d := by
  have : sh n d = 1 := by unfold sh; rw [if_pos hd, h]; rfl
  unfold lN lD
  rw [this]
  simp
theorem l_int (n : Int) : lN n 1 = n ∧ lD n 1 = 1 := l_self (by decide) (by simp)
theorem fdiv_abs_le (a b : Int) (h : b ∣ a) : (a.fdiv b).natAbs ≤ a.natAbs := by
  by_cases hb : b = 0
  · subst hb; simp
  · have h1 := Int.fdiv_mul_cancel h
    have h2 : (a.fdiv b).natAbs * b.natAbs = a.natAbs := by rw [← Int.natAbs_mul, h1]
    have h3 : 1 ≤ b.natAbs := by omega
    calc (a.fdiv b).natAbs = (a.fdiv b).natAbs * 1 := by omega
      _ ≤ (a.fdiv b).natAbs * b.natAbs := Nat.mul_le_mul_left _ h3
      _ = a.natAbs := h2
theorem lN_le (t b : Int) : (lN t b).natAbs ≤ t.natAbs := fdiv_abs_le _ _ (sh_dvd_t t b)
theorem lD_le (t b : Int) : (lD t b).natAbs ≤ b.natAbs := fdiv_abs_le _ _ (sh_dvd_b t b)
theorem sh_le {t b : Int} (hb : b ≠ 0) : (sh t b).natAbs ≤ b.natAbs := by
  rw [natAbs_sh]
  exact Nat.le_of_dvd (by omega) (by have := Int.natAbs_dvd_natAbs.mpr (Int.gcd_dvd_right t b); simpa using this)
end MA
set_option Elab.async false
set_option linter.all false
set_option autoImplicit false
set_option maxHeartbeats 4000000
/-! PU: the purse, in plain Lean. -/
namespace PU
structure Pu where
  cells : List Int
  i : Int
  r : Int
  t : Int
def primes : List Int := [1000003, 1299709, 2750159, 3497861, 4256233, 5800079, 6700417, 7368787, 8460041, 9576901, 15485863]
def cs (p : Pu) : List Int := if p.cells = [] then [0] else p.cells
def ix (p : Pu) : Nat := (p.i % ((cs p).length : Int)).toNat
def cell (p : Pu) : Int := (cs p).getD (ix p) 0
def pr (t : Int) : Int := primes.getD (t % 11).toNat 1
def b1 (c t : Int) : Int := ((c + 1) * 48271 + (t + 1) * (t + 7) * 69621) % pr t
def b2 (c t : Int) : Int := (b1 c t ^ 3 + t * 40503) % 2147483647
def draw (p : Pu) (m : Int) : Int × Pu :=
  if 0 < p.r then (p.r % m, { p with r := p.r / m })
  else if (10 : Int) ^ 18 ≤ cell p then (cell p % m, { p with i := p.i + 1, r := cell p / m })
  else (b2 (cell p) p.t / 32 % m, { p with i := p.i + 1, t := p.t + 1 })
structure Ok (n : Nat) (p : Pu) : Prop where
  i0 : 0 ≤ p.i
  t0 : 0 ≤ p.t
  tn : p.t ≤ n
  c0 : ∀ c ∈ p.cells, 0 ≤ c
theorem cs_pos (p : Pu) : 0 < (cs p).length := by
  unfold cs
  split
  · decide
  · rename_i h; exact List.length_pos_iff.mpr h
theorem ix_lt (p : Pu) : ix p < (cs p).length := by
  have h := cs_pos p
  unfold ix
  have h1 := Int.emod_lt_of_pos p.i (b := ((cs p).length : Int)) (by omega)
  have h2 := Int.emod_nonneg p.i (b := ((cs p).length : Int)) (by omega)
  omega
theorem ix_eq (p : Pu) : ((ix p : Nat) : Int) = p.i % ((cs p).length : Int) := by
  have h := cs_pos p
  have h2 := Int.emod_nonneg p.i (b := ((cs p).length : Int)) (by omega)
  unfold ix
  omega
theorem cell_get (p : Pu) : (cs p)[ix p]? = some (cell p) := by
  have h := ix_lt p
  unfold cell
  rw [List.getD_eq_getElem?_getD, List.getElem?_eq_getElem h]
  rfl
theorem Ok.cell {n : Nat} {p : Pu} (h : Ok n p) : 0 ≤ cell p := by
  have := List.mem_of_getElem? (cell_get p)
  unfold cs at this
  split at this
  · simp at this; omega
  · exact h.c0 _ this
theorem pr_get {t : Int} (h : 0 ≤ t) : primes[(t % 11).toNat]? = some (pr t) := by
  have h1 := Int.emod_lt_of_pos t (b := 11) (by decide)
  have h2 := Int.emod_nonneg t (b := 11) (by decide)
  have hl : (t % 11).toNat < primes.length := by show _ < 11; omega
  unfold pr
  rw [List.getD_eq_getElem?_getD, List.getElem?_eq_getElem hl]
  rfl
theorem pr_pos {t : Int} (h : 0 ≤ t) : 0 < pr t ∧ pr t < 2 ^ 24 := by
  have hm := List.mem_of_getElem? (pr_get h)
  have : ∀ x ∈ primes, 0 < x ∧ x < 2 ^ 24 := by decide
  exact this _ hm
theorem b1_bd {c t : Int} (h : 0 ≤ t) : 0 ≤ b1 c t ∧ b1 c t < 2 ^ 24 := by
  have := pr_pos h
  unfold b1
  have h1 := Int.emod_nonneg ((c + 1) * 48271 + (t + 1) * (t + 7) * 69621) (b := pr t) (by omega)
  have h2 := Int.emod_lt_of_pos ((c + 1) * 48271 + (t + 1) * (t + 7) * 69621) (b := pr t) (by omega)
  omega
theorem b2_bd (c t : Int) : 0 ≤ b2 c t ∧ b2 c t < 2147483647 := by
  unfold b2
  have h1 := Int.emod_nonneg (b1 c t ^ 3 + t * 40503) (b := 2147483647) (by omega)
  have h2 := Int.emod_lt_of_pos (b1 c t ^ 3 + t * 40503) (b := 2147483647) (by omega)
  omega
theorem draw_ok {n : Nat} {p : Pu} {m : Int} (h : Ok n p) : Ok (n + 1) (draw p m).2 := by
  unfold draw
  have h1 := h.i0
  have h2 := h.t0
  have h3 := h.tn
  split
  · exact ⟨h1, h2, by show p.t ≤ _; omega, h.c0⟩
  · split
    · exact ⟨by show 0 ≤ p.i + 1; omega, h2, by show p.t ≤ _; omega, h.c0⟩
    · exact ⟨by show 0 ≤ p.i + 1; omega, by show 0 ≤ p.t + 1; omega, by show p.t + 1 ≤ _; omega, h.c0⟩
theorem draw_bd {p : Pu} {m : Int} (hm : 0 < m) : 0 ≤ (draw p m).1 ∧ (draw p m).1 < m := by
  unfold draw
  split
  · exact ⟨Int.emod_nonneg _ (by omega), Int.emod_lt_of_pos _ hm⟩
  · split
    · exact ⟨Int.emod_nonneg _ (by omega), Int.emod_lt_of_pos _ hm⟩
    · exact ⟨Int.emod_nonneg _ (by omega), Int.emod_lt_of_pos _ hm⟩
end PU
set_option Elab.async false
set_option linter.all false
set_option maxRecDepth 100000
set_option autoImplicit false
set_option maxHeartbeats 1000000
/-! RA: class Ratio and its helpers, read. -/
namespace RE
open PySem L2 TL MA
def cIsInteger : Fc := { ps := ["value"], N := ["value"], po := true, body := [.ret (.bop true [.isT (.var 0) .int, .nt (.isT (.var 0) .bool)])] }
def cCommon : Fc := { ps := ["one", "two"], N := ["one", "two", "high", "low"], po := true, body := [.par [2, 3] [.blt .abs [.var 0], .blt .abs [.var 1]],
    .whl (.cmp .Gt (.var 3) (.int 0)) [.par [2, 3] [.var 3, .bin .Mod (.var 2) (.var 3)]],
    .ret (.var 2)] }
def cRatioInit : Fc := { ps := ["self", "top", "bottom"], N := ["self", "top", "bottom", "shared"], po := true, body := [.ifs (.nt (.call "is_integer" [.var 1] [] [])) [.rai "InvalidNumber" [.var 1]] [],
    .ifs (.bop false [.nt (.call "is_integer" [.var 2] [] []), .cmp .Eq (.var 2) (.int 0)]) [.rai "InvalidNumber" [.var 2]] [],
    .set 3 (.ifx (.cmp .Gt (.var 2) (.int 0)) (.call "common" [.var 1, .var 2] [] []) (.neg (.call "common" [.var 1, .var 2] [] []))),
    .fld 0 "numerator_here" (.bin .FloorDiv (.var 1) (.var 3)),
    .fld 0 "denominator_here" (.bin .FloorDiv (.var 2) (.var 3))] }
def cRatioTop : Fc := { ps := ["self"], N := ["self"], po := true, body := [.ret (.att (.var 0) "numerator_here")] }
def cRatioBottom : Fc := { ps := ["self"], N := ["self"], po := true, body := [.ret (.att (.var 0) "denominator_here")] }
def cRatioEq : Fc := { ps := ["self", "other"], N := ["self", "other"], po := true, body := [.ret (.bop true [.isC (.var 1) "Ratio", .cmp .Eq (.att (.var 0) "top") (.att (.var 1) "top"), .cmp .Eq (.att (.var 0) "bottom") (.att (.var 1) "bottom")])] }
def cRatioBool : Fc := { ps := ["self"], N := ["self"], po := true, body := [.ret (.blt .bool [.att (.var 0) "top"])] }
def cRatioStr : Fc := { ps := ["self"], N := ["self"], po := true, body := [.ifs (.cmp .Eq (.att (.var 0) "bottom") (.int 1)) [.ret (.fst [.fmt (.att (.var 0) "top")])] [],
    .ret (.fst [.fmt (.att (.var 0) "top"), .str "/", .fmt (.att (.var 0) "bottom")])] }
def cRatioRepr : Fc := { ps := ["self"], N := ["self"], po := true, body := [.ret (.fst [.str "Ratio(", .fmt (.att (.var 0) "top"), .str ", ", .fmt (.att (.var 0) "bottom"), .str ")"])] }
/-- a def run -/
theorem tn_run {G : Gx} {k : Nat} {md : Md} {q : Str} {f : Fc} {ss : List S} (hf : G.fns q = some f) (hl : ss.length = f.ps.length) : Tn G (k + 1) md q ss = match evB G (Tn G k) md f.body (env0 f.N ss) with
    | some (.rt (.ex _) _) => none
    | some (.rt r δ) => (backS ss δ).map (r, ·)
    | some (.nx δ) => (backS ss δ).map (.im .non, ·)
    | some (.xc x δ) => (backS ss δ).map (.ex x, ·)
    | _ => none := by
  show (G.fns q).bind (fun f => runF G (Tn G k) md f ss) = _
  rw [hf]
  exact req_pos hl
theorem whl_nat {c : TL.Env → Option (Rz × TL.Env)} {b : TL.Env → Option Ou} {α : Type} (I : α → TL.Env) (J : α → Prop) (μ : α → Nat) (fin : α → TL.Env)
    (hs : ∀ x, J x → (c (I x) = some (.im (.bl false), I x) ∧ fin x = I x) ∨ ∃ y, c (I x) = some (.im (.bl true), I x) ∧ b (I x) = some (.nx (I y)) ∧ J y ∧ μ y < μ x ∧ fin x = fin y) : ∀ (n : Nat) (x : α), J x → μ x < n → whlGo c b n (I x) = some (.nx (fin x))
  | 0, x, _, h => by omega
  | n + 1, x, j, h => by
    rcases hs x j with ⟨h1, h2⟩ | ⟨y, h1, h2, jy, hm, hf⟩
    · simp only [whlGo, h1, h2]
    · simp only [whlGo, h1, h2, hf]
      exact whl_nat I J μ fin hs n y jy (by omega)
theorem evB_nx {G : Gx} {T : Tb} {md : Md} {c : C} {cs : List C} {δ δ1 : TL.Env} (h : evC G T md c δ = some (.nx δ1)) : evB G T md (c :: cs) δ = evB G T md cs δ1 := by
  simp only [evB, h]
theorem evB_rt {G : Gx} {T : Tb} {md : Md} {c : C} {cs : List C} {δ δ1 : TL.Env} {r : Rz} (h : evC G T md c δ = some (.rt r δ1)) : evB G T md (c :: cs) δ = some (.rt r δ1) := by
  simp only [evB, h]
theorem turns_big {b : Nat} (h : b < 2 ^ 9000) : b < turns := by
  unfold turns
  exact Nat.lt_of_lt_of_le h (Nat.pow_le_pow_right (by omega) (by omega))
theorem evC_whl {G : Gx} {T : Tb} {md : Md} {c : E} {b : List C} {δ : TL.Env} : evC G T md (.whl c b) δ = whlGo (ee G T md true c) (evB G T md b) turns δ := by simp only [evC]
theorem isInt_ok {G : Gx} (hf : G.fns "is_integer" = some cIsInteger) (k : Nat) (md : Md) (i : Int) : Tn G (k + 1) md "is_integer" [.im (.int i)] = some (.im (.bl true), [.im (.int i)]) := by
  rw [tn_run hf rfl]
  simp [cIsInteger, env0, evB, evC, ee, ebs, isTD, bB, bR, fin, backS, Rz.d]
/-- both loops for the greatest common divisor -/
theorem gcd_loop {G : Gx} {T : Tb} {md : Md} (hcm : md.calm = true) {e : E} (he : ∀ (δ : TL.Env) (a b : Int), 0 < b → δ[2]? = some (some (.im (.int a))) → δ[3]? = some (some (.im (.int b))) → ee G T md false e δ = some (.im (.int (a % b)), δ)) (x y : S) (a b : Nat) (hb : b < 2 ^ 9000) :
    whlGo (ee G T md true (.cmp .Gt (.var 3) (.int 0))) (evB G T md [.par [2, 3] [.var 3, e]]) turns [some x, some y, some (.im (.int (a : Int))), some (.im (.int (b : Int)))] = some (.nx [some x, some y, some (.im (.int (Nat.gcd a b : Int))), some (.im (.int 0))]) := by
  refine whl_nat (α := Nat × Nat) (fun z => [some x, some y, some (.im (.int (z.1 : Int))), some (.im (.int (z.2 : Int)))]) (fun _ => True) (fun z => z.2) (fun z => [some x, some y, some (.im (.int (Nat.gcd z.1 z.2 : Int))), some (.im (.int 0))]) (fun z _ => ?_) turns (a, b) trivial (turns_big hb)
  obtain ⟨a, b⟩ := z
  by_cases hb : b = 0
  · subst hb
    left
    simp [ee, cmpD, bR, fin, truD]
  · right
    have hb' : 0 < b := by omega
    refine ⟨(b, a % b), ?_, ?_, trivial, Nat.mod_lt _ hb', ?_⟩
    · simp [ee, cmpD, bR, fin, truD, hb']
    · have h1 := he [some x, some y, some (.im (.int (a : Int))), some (.im (.int (b : Int)))] a b (by omega) rfl rfl
      have h2 : ee G T md false (.var 3) [some x, some y, some (.im (.int (a : Int))), some (.im (.int (b : Int)))] = some (.im (.int b), [some x, some y, some (.im (.int (a : Int))), some (.im (.int (b : Int)))]) := rfl
      simp only [evB, evC, evs, h2, h1, bR, hcm]
      simp [isOwn, setAll]
    · have : Nat.gcd b (a % b) = Nat.gcd a b := by rw [Nat.gcd_comm b, ← Nat.gcd_rec, Nat.gcd_comm]
      simp only [this]
theorem abs_if (i : Int) : (if i < 0 then -i else i) = (i.natAbs : Int) := by split <;> omega
theorem common_ok {G : Gx} (hf : G.fns "common" = some cCommon) (k : Nat) (md : Md) (hcm : md.calm = true) (i j : Int) (hj : j.natAbs < 2 ^ 9000) : Tn G (k + 1) md "common" [.im (.int i), .im (.int j)] = some (.im (.int (Int.gcd i j : Int)), [.im (.int i), .im (.int j)]) := by
  rw [tn_run hf rfl]
  have key := gcd_loop (G := G) (T := Tn G k) (md := md) hcm (e := .bin .Mod (.var 2) (.var 3)) (fun δ a b hb h2 h3 => by simp [ee, h2, h3, binD, intOp, bR, fin, req_pos hb]) (.im (.int i)) (.im (.int j)) i.natAbs j.natAbs hj
  have s1 : evC G (Tn G k) md (.par [2, 3] [.blt .abs [.var 0], .blt .abs [.var 1]]) (env0 ["one", "two", "high", "low"] [.im (.int i), .im (.int j)]) = some (.nx [some (.im (.int i)), some (.im (.int j)), some (.im (.int (i.natAbs : Int))), some (.im (.int (j.natAbs : Int)))]) := by
    simp [env0, evC, evs, ee, bltD, bR, bA, fin, isOwn, setAll, abs_if, hcm]
  unfold cCommon
  dsimp only
  rw [evB_nx s1, evB_nx (evC_whl.trans key)]
  simp [evB, evC, ee, fin, backS, Int.gcd]
end RE
set_option Elab.async false
set_option linter.all false
set_option maxRecDepth 100000
set_option autoImplicit false
set_option maxHeartbeats 1000000
set_option exponentiation.threshold 20000
/-! RB: class Ratio, read. -/
namespace RE
open PySem L2 TL MA
abbrev nmN : Str := "numerator_here"
abbrev nmD : Str := "denominator_here"
def rat (A : Addr) (n d : Int) : D := .ins A ["numerator_here", "denominator_here"] [.int n, .int d]
structure HRat (G : Gx) (A : Addr) : Prop where
  fII : G.fns "is_integer" = some cIsInteger
  fCO : G.fns "common" = some cCommon
  fIT : G.fns "Ratio.__init__" = some cRatioInit
  fTP : G.fns "Ratio.top" = some cRatioTop
  fBT : G.fns "Ratio.bottom" = some cRatioBottom
  fEQ : G.fns "Ratio.__eq__" = some cRatioEq
  fBO : G.fns "Ratio.__bool__" = some cRatioBool
  fST : G.fns "Ratio.__str__" = some cRatioStr
  fRE : G.fns "Ratio.__repr__" = some cRatioRepr
  gII : G.glo "is_integer" = some (.fn "is_integer")
  gCO : G.glo "common" = some (.fn "common")
  gRA : G.glo "Ratio" = some (.cls A "Ratio.__init__")
  pII : G.pat "is_integer" 1 [] = some [.inl 0]
  pCO : G.pat "common" 2 [] = some [.inl 0, .inl 1]
  rTP : G.prop A "top" = some "Ratio.top"
  rBT : G.prop A "bottom" = some "Ratio.bottom"
  rN : G.prop A "numerator_here" = none
  rD : G.prop A "denominator_here" = none
  flN : G.fld A "numerator_here" = true
  flD : G.fld A "denominator_here" = true
  isC : G.isC A A = some true
  oEQ : G.own A "__eq__" = some "Ratio.__eq__"
  oBO : G.own A "__bool__" = some "Ratio.__bool__"
  oST : G.own A "__str__" = some "Ratio.__str__"
  oRE : G.own A "__repr__" = some "Ratio.__repr__"
theorem bNN : (Str.ofString "numerator_here" == Str.ofString "numerator_here") = true := by decide
theorem bDN : (Str.ofString "denominator_here" == Str.ofString "numerator_here") = false := by decide
theorem bND : (Str.ofString "numerator_here" == Str.ofString "denominator_here") = false := by decide
theorem bDD : (Str.ofString "denominator_here" == Str.ofString "denominator_here") = true := by decide
theorem eND : (Str.ofString "numerator_here" = Str.ofString "denominator_here") = False := by decide
theorem eDN : (Str.ofString "denominator_here" = Str.ofString "numerator_here") = False := by decide
section
variable {G : Gx} {A : Addr} (h : HRat G A) (k : Nat) (md : Md)
include h
theorem log_lt {n : Nat} (hn : n < 2 ^ 9000) : n.log2 < 9000 := by
  by_cases h0 : n = 0
  · subst h0; decide
  · exact (Nat.log2_lt h0).mpr hn
theorem init_ok (hcm : md.calm = true) (t b : Int) (hb : b ≠ 0) (hz : b.natAbs < 2 ^ 9000) : Tn G (k + 2) md "Ratio.__init__" [.own (.ins A [] []), .im (.int t), .im (.int b)] = some (.im .non, [.own (.ins A ["numerator_here", "denominator_here"] [.int (lN t b), .int (lD t b)]), .im (.int t), .im (.int b)]) := by
  have hs : CDiv (sh t b) := ⟨sh_ne hb, log_lt h (Nat.lt_of_le_of_lt (sh_le hb) hz)⟩
  rw [tn_run h.fIT rfl]
  have hco := common_ok h.fCO k md hcm t b hz
  have e1 := isInt_ok h.fII k md t
  have e2 := isInt_ok h.fII k md b
  have e3 : (if 0 < b then some (Rz.im (D.int (Int.gcd t b : Int))) else some (Rz.im (D.int (-(Int.gcd t b : Int))))) = some (Rz.im (D.int (sh t b))) := by
    unfold sh; split <;> rfl
  by_cases hp : 0 < b
  · have hsh : (Int.gcd t b : Int) = sh t b := by unfold sh; rw [if_pos hp]
    simp [cRatioInit, env0, evB, evC, ee, evs, ebs, bB, bR, bA, fin, isCal, gloCall, h.gII, h.gCO, h.pII, h.pCO, argsOf, e1, e2, hco, cmpD, eqD, hb, hp, binD, intOp, hsh, hs, isOwn, truD, negD, req, h.flN, h.flD, putN, putD, eND, eDN, backS, lN, lD]
  · have hsh : -(Int.gcd t b : Int) = sh t b := by unfold sh; rw [if_neg hp]
    simp [cRatioInit, env0, evB, evC, ee, evs, ebs, bB, bR, bA, fin, isCal, gloCall, h.gII, h.gCO, h.pII, h.pCO, argsOf, e1, e2, hco, cmpD, eqD, hb, hp, binD, intOp, hsh, hs, isOwn, truD, negD, req, h.flN, h.flD, putN, putD, eND, eDN, backS, lN, lD]
theorem make_ok (hcm : md.calm = true) (t b : Int) (hb : b ≠ 0) (hz : b.natAbs < 2 ^ 9000) : makeD (Tn G (k + 2)) md A "Ratio.__init__" [.int t, .int b] = some (.im (rat A (lN t b) (lD t b))) := by
  unfold makeD
  simp only [List.map_cons, List.map_nil]
  rw [init_ok h k md hcm t b hb hz]
  simp [rat]
theorem top_ok (n d : Int) : Tn G (k + 1) md "Ratio.top" [.im (rat A n d)] = some (.im (.int n), [.im (rat A n d)]) := by
  rw [tn_run h.fTP rfl]
  simp [cRatioTop, env0, evB, evC, ee, bR, fin, attD, rat, h.rN, h.flN, bNN, backS, List.lookup, unf]
theorem bottom_ok (n d : Int) : Tn G (k + 1) md "Ratio.bottom" [.im (rat A n d)] = some (.im (.int d), [.im (rat A n d)]) := by
  rw [tn_run h.fBT rfl]
  simp [cRatioBottom, env0, evB, evC, ee, bR, fin, attD, rat, h.rD, h.flD, bDN, bDD, backS, List.lookup, unf]
theorem att_top (n d : Int) : attD G (Tn G (k + 1)) md (rat A n d) "top" = some (.im (.int n)) := by
  have := top_ok h k ⟨false, md.calm⟩ n d
  unfold rat at *
  simp [attD, h.rTP, callD, h.fTP, this, Rz.d]
  rfl
theorem att_bottom (n d : Int) : attD G (Tn G (k + 1)) md (rat A n d) "bottom" = some (.im (.int d)) := by
  have := bottom_ok h k ⟨false, md.calm⟩ n d
  unfold rat at *
  simp [attD, h.rBT, callD, h.fBT, this, Rz.d]
  rfl
end
end RE
set_option Elab.async false
set_option linter.all false
set_option maxRecDepth 100000
set_option autoImplicit false
set_option maxHeartbeats 1000000
set_option exponentiation.threshold 20000
/-! RC: Ratio's ==, bool, str, repr. -/
namespace RE
open PySem L2 TL MA
/-- the texts of a fraction -/
def ratStr (n d : Int) : Str := if d = 1 then toString n else Str.ofString (toString n) ++ "/" ++ toString d
def ratRepr (n d : Int) : Str := "Ratio(" ++ Str.ofString (toString n) ++ ", " ++ toString d ++ ")"
/-- neither a fraction nor unknown -/
def plainD : D → Bool
  | .non | .bl _ | .int _ | .str _ | .lst _ | .tup _ => true
  | _ => false
theorem int_len {n : Int} (h : n.natAbs.log2 < 1000) : (Str.ofString (toString n)).length ≤ 1001 := by
  have h1 := int_text_length_le (a := n) (k := 1000) (by decide) h
  have e : (Str.ofString (toString n)).length = (toString n).length := by
    rw [Str.ofString_eq_toList]
    simp only [Str.length, List.size_toArray, List.length_map]
    exact String.length_toList
  omega
theorem app_len (a b : Str) : (a ++ b).length = a.length + b.length := by
  show (a.cps ++ b.cps).size = _
  simp [Str.length]
theorem catOk_of : ∀ {ts : List Str} {acc : Str}, acc.length + (ts.map Str.length).sum ≤ sizeLine → catOk acc ts
  | [], _, _ => trivial
  | t :: ts, acc, h => by
    simp only [List.map_cons, List.sum_cons] at h
    have e := app_len acc t
    exact ⟨by omega, catOk_of (by omega)⟩
section
variable {G : Gx} {A : Addr} (h : HRat G A) (k : Nat) (md : Md)
include h
theorem eq_ok (n d m e : Int) : Tn G (k + 2) md "Ratio.__eq__" [.im (rat A n d), .im (rat A m e)] = some (.im (.bl (decide (n = m ∧ d = e))), [.im (rat A n d), .im (rat A m e)]) := by
  rw [tn_run h.fEQ rfl]
  have a1 := att_top h k md n d
  have a2 := att_bottom h k md n d
  have a3 := att_top h k md m e
  have a4 := att_bottom h k md m e
  have a5 : isCD G A (rat A m e) = some true := h.isC
  rw [Bool.decide_and]
  cases hA : decide (n = m) <;> cases hB : decide (d = e) <;>
    simp only [cRatioEq, env0, evB, evC, ee, ebs, bB, bR, fin, h.gRA, a1, a2, a3, a4, a5, cmpD, eqD, backS, hA, hB, List.map_cons, List.map_nil, List.length_cons, List.length_nil, List.replicate, List.append_nil, List.cons_append, List.nil_append, List.getElem?_cons_zero, List.getElem?_cons_succ, Option.map_some, if_true, if_false, Bool.false_eq_true, reduceIte, Nat.sub_self, Bool.and_true, Bool.and_false, Bool.not_true] <;> rfl
theorem eq_other (n d : Int) (y : D) (hy : plainD y = true) : Tn G (k + 2) md "Ratio.__eq__" [.im (rat A n d), .im y] = some (.im (.bl false), [.im (rat A n d), .im y]) := by
  rw [tn_run h.fEQ rfl]
  have a5 : isCD G A y = some false := by cases y <;> first | rfl | cases hy
  simp [cRatioEq, env0, evB, evC, ee, ebs, bB, bR, fin, h.gRA, a5, backS]
theorem bool_ok (n d : Int) : Tn G (k + 2) md "Ratio.__bool__" [.im (rat A n d)] = some (.im (.bl (n != 0)), [.im (rat A n d)]) := by
  rw [tn_run h.fBO rfl]
  have a1 := att_top h k md n d
  simp [cRatioBool, env0, evB, evC, ee, evs, bR, bA, fin, a1, bltD, backS]
theorem str_ok (n d : Int) (hn : n.natAbs.log2 < 1000) (hd : d.natAbs.log2 < 1000) : Tn G (k + 2) md "Ratio.__str__" [.im (rat A n d)] = some (.im (.str (ratStr n d)), [.im (rat A n d)]) := by
  rw [tn_run h.fST rfl]
  have a1 := att_top h k md n d
  have a2 := att_bottom h k md n d
  have c1 : n.natAbs.log2 < 1920 := by omega
  have c2 : d.natAbs.log2 < 1920 := by omega
  have l1 := int_len hn
  have l2 := int_len hd
  cases h1 : decide (d = 1)
  · have hc : catOk Str.empty [Str.ofString (toString n), Str.ofString "/", Str.ofString (toString d)] := catOk_of (by
      rw [sizeLine_eq]; simp only [List.map_cons, List.map_nil, List.sum_cons, List.sum_nil]
      have : (Str.ofString "/").length = 1 := by decide
      have : Str.empty.length = 0 := rfl
      omega)
    have hs : ratStr n d = cat [Str.ofString (toString n), Str.ofString "/", Str.ofString (toString d)] := by
      unfold ratStr cat
      rw [if_neg (of_decide_eq_false h1)]
      simp only [List.foldl_cons, List.foldl_nil, str_empty_app]
    simp only [cRatioStr, env0, evB, evC, ee, evs, ebs, ets, fin, bR, bA, bB, truD, backS, Rz.d, isOwn, setAll, isCal, gloCall, argsOf, cmpD, eqD, negD, binD, intOp, bltD, List.map_cons, List.map_nil, List.length_cons, List.length_nil, List.replicate_succ, List.replicate_zero, List.append_nil, List.cons_append, List.nil_append, List.getElem?_cons_zero, List.getElem?_cons_succ, List.set_cons_zero, List.set_cons_succ, Option.map_some, Option.map_none, Option.bind_some, Option.bind_none, if_true, if_false, reduceIte, Bool.false_eq_true, Bool.not_true, Bool.not_false, Nat.reduceAdd, Nat.reduceSub, Nat.sub_self, List.any_cons, List.any_nil, Bool.or_false, Bool.false_or, Bool.or_self, Bool.and_true, Bool.and_self, Bool.and_false, Bool.false_and, Bool.true_and, Nat.reduceLeDiff, Nat.reduceEqDiff, decide_true, decide_false, Bool.true_eq_false, reduceCtorEq, and_self, and_true, true_and, ne_eq, not_true_eq_false, not_false_eq_true, a1, a2, h1, req_pos c1, req_pos c2, strD, req_pos hc, hs]
  · have hc : catOk Str.empty [Str.ofString (toString n)] := catOk_of (by
      rw [sizeLine_eq]; simp only [List.map_cons, List.map_nil, List.sum_cons, List.sum_nil]
      have : Str.empty.length = 0 := rfl
      omega)
    have hs : ratStr n d = cat [Str.ofString (toString n)] := by
      unfold ratStr cat
      rw [if_pos (of_decide_eq_true h1)]
      simp only [List.foldl_cons, List.foldl_nil, str_empty_app]
    simp only [cRatioStr, env0, evB, evC, ee, evs, ebs, ets, fin, bR, bA, bB, truD, backS, Rz.d, isOwn, setAll, isCal, gloCall, argsOf, cmpD, eqD, negD, binD, intOp, bltD, List.map_cons, List.map_nil, List.length_cons, List.length_nil, List.replicate_succ, List.replicate_zero, List.append_nil, List.cons_append, List.nil_append, List.getElem?_cons_zero, List.getElem?_cons_succ, List.set_cons_zero, List.set_cons_succ, Option.map_some, Option.map_none, Option.bind_some, Option.bind_none, if_true, if_false, reduceIte, Bool.false_eq_true, Bool.not_true, Bool.not_false, Nat.reduceAdd, Nat.reduceSub, Nat.sub_self, List.any_cons, List.any_nil, Bool.or_false, Bool.false_or, Bool.or_self, Bool.and_true, Bool.and_self, Bool.and_false, Bool.false_and, Bool.true_and, Nat.reduceLeDiff, Nat.reduceEqDiff, decide_true, decide_false, Bool.true_eq_false, reduceCtorEq, and_self, and_true, true_and, ne_eq, not_true_eq_false, not_false_eq_true, a1, a2, h1, req_pos c1, req_pos c2, strD, req_pos hc, hs]
theorem repr_ok (n d : Int) (hn : n.natAbs.log2 < 1000) (hd : d.natAbs.log2 < 1000) : Tn G (k + 2) md "Ratio.__repr__" [.im (rat A n d)] = some (.im (.str (ratRepr n d)), [.im (rat A n d)]) := by
  rw [tn_run h.fRE rfl]
  have a1 := att_top h k md n d
  have a2 := att_bottom h k md n d
  have c1 : n.natAbs.log2 < 1920 := by omega
  have c2 : d.natAbs.log2 < 1920 := by omega
  have l1 := int_len hn
  have l2 := int_len hd
  have hc : catOk Str.empty [Str.ofString "Ratio(", Str.ofString (toString n), Str.ofString ", ", Str.ofString (toString d), Str.ofString ")"] := catOk_of (by
    rw [sizeLine_eq]; simp only [List.map_cons, List.map_nil, List.sum_cons, List.sum_nil]
    have : (Str.ofString "Ratio(").length = 6 := by decide
    have : (Str.ofString ", ").length = 2 := by decide
    have : (Str.ofString ")").length = 1 := by decide
    have : Str.empty.length = 0 := rfl
    omega)
  have hs : ratRepr n d = cat [Str.ofString "Ratio(", Str.ofString (toString n), Str.ofString ", ", Str.ofString (toString d), Str.ofString ")"] := by
    unfold ratRepr cat
    simp only [List.foldl_cons, List.foldl_nil, str_empty_app]
  simp only [cRatioRepr, env0, evB, evC, ee, evs, ebs, ets, fin, bR, bA, bB, truD, backS, Rz.d, isOwn, setAll, isCal, gloCall, argsOf, cmpD, eqD, negD, binD, intOp, bltD, List.map_cons, List.map_nil, List.length_cons, List.length_nil, List.replicate_succ, List.replicate_zero, List.append_nil, List.cons_append, List.nil_append, List.getElem?_cons_zero, List.getElem?_cons_succ, List.set_cons_zero, List.set_cons_succ, Option.map_some, Option.map_none, Option.bind_some, Option.bind_none, if_true, if_false, reduceIte, Bool.false_eq_true, Bool.not_true, Bool.not_false, Nat.reduceAdd, Nat.reduceSub, Nat.sub_self, List.any_cons, List.any_nil, Bool.or_false, Bool.false_or, Bool.or_self, Bool.and_true, Bool.and_self, Bool.and_false, Bool.false_and, Bool.true_and, Nat.reduceLeDiff, Nat.reduceEqDiff, decide_true, decide_false, Bool.true_eq_false, reduceCtorEq, and_self, and_true, true_and, ne_eq, not_true_eq_false, not_false_eq_true, a1, a2, req_pos c1, req_pos c2, strD, req_pos hc, hs]
end
end RE
set_option Elab.async false
set_option linter.all false
set_option maxRecDepth 100000
set_option autoImplicit false
set_option maxHeartbeats 1000000
set_option exponentiation.threshold 20000
/-! RD: the purse, read. -/
namespace RE
open PySem L2 TL MA
def cLawPurse : Fc := { ps := ["_law_script"], N := ["_law_script", "_law_cell"], po := true, body := [.ret (.lst [.lc (.one 1) .seq [.var 0] [] (.bin .Mod (.blt .int [.var 1]) (.bin .Mult (.bin .Pow (.int 10) (.int 60)) (.bin .Pow (.int 10) (.int 60)))), .int 0, .int 0, .int 0])] }
def cLawDraw : Fc := { ps := ["_law_q", "_law_many"], N := ["_law_q", "_law_many", "_law_digit", "_law_cells", "_law_cell", "_law_turn", "_law_primes", "_law_blend"], po := true, body := [.ifs (.cmp .Gt (.subO 0 (.int 2)) (.int 0)) [.set 2 (.bin .Mod (.blt .int [.subO 0 (.int 2)]) (.var 1)), .sto 0 (.int 2) (.bin .FloorDiv (.subO 0 (.int 2)) (.var 1)), .ret (.var 2)] [],
    .set 3 (.ifx (.subO 0 (.int 0)) (.subO 0 (.int 0)) (.lst [.int 0])),
    .set 4 (.sub (.var 3) (.bin .Mod (.blt .int [.subO 0 (.int 1)]) (.blt .len [.var 3]))),
    .sto 0 (.int 1) (.bin .Add (.subO 0 (.int 1)) (.int 1)),
    .ifs (.cmp .GtE (.var 4) (.bin .Pow (.int 10) (.int 18))) [.sto 0 (.int 2) (.bin .FloorDiv (.var 4) (.var 1)), .ret (.bin .Mod (.blt .int [.var 4]) (.var 1))] [],
    .set 5 (.subO 0 (.int 3)),
    .sto 0 (.int 3) (.bin .Add (.var 5) (.int 1)),
    .set 6 (.lst [.int 1000003, .int 1299709, .int 2750159, .int 3497861, .int 4256233, .int 5800079, .int 6700417, .int 7368787, .int 8460041, .int 9576901, .int 15485863]),
    .set 7 (.bin .Mod (.blt .int [.bin .Add (.bin .Mult (.bin .Add (.var 4) (.int 1)) (.int 48271)) (.bin .Mult (.bin .Mult (.bin .Add (.var 5) (.int 1)) (.bin .Add (.var 5) (.int 7))) (.int 69621))]) (.sub (.var 6) (.bin .Mod (.blt .int [.var 5]) (.int 11)))),
    .set 7 (.bin .Mod (.blt .int [.bin .Add (.bin .Pow (.var 7) (.int 3)) (.bin .Mult (.var 5) (.int 40503))]) (.int 2147483647)),
    .ret (.bin .Mod (.blt .int [.bin .FloorDiv (.var 7) (.int 32)]) (.var 1))] }
def cLawFrom : Fc := { ps := ["_law_script", "_law_k"], N := ["_law_script", "_law_k"], po := true, body := [.ret (.call "_law_purse" [.bin .Add (.slL (.var 0) (.var 1)) (.slH (.var 0) (.var 1))] [] [])] }
/-- a purse as an object -/
def puD (p : PU.Pu) : OC := .lst [.lst (p.cells.map D.int), .int p.i, .int p.r, .int p.t]
def big : Int := 10 ^ 60 * 10 ^ 60
theorem cm_small {i j : Int} (h1 : i.natAbs < 2 ^ 100) (h2 : j.natAbs < 2 ^ 100) : CMulW i j := wide_mul h1 h2 (by decide) (by decide) (by decide)
theorem cdiv_small {j : Int} (h0 : 0 < j) (h : j < 1073741824) : CDiv j := ⟨by omega, by
  have : j.natAbs < 2 ^ 30 := by omega
  have := (Nat.log2_lt (n := j.natAbs) (k := 30) (by omega)).mpr this
  omega⟩
theorem fdiv_pos {i j : Int} (h : 0 < j) : i.fdiv j = i / j := Int.fdiv_eq_ediv_of_nonneg i (by omega)
theorem req_true {α : Type} {x : Option α} : req True x = x := req_pos trivial
theorem sub_l {xs : List D} {j : Int} : subD (.lst xs) (.int j) = atI xs j := rfl
theorem at0 {a b c d : D} : atI [a, b, c, d] 0 = some a := rfl
theorem at1 {a b c d : D} : atI [a, b, c, d] 1 = some b := rfl
theorem at2 {a b c d : D} : atI [a, b, c, d] 2 = some c := rfl
theorem at3 {a b c d : D} : atI [a, b, c, d] 3 = some d := rfl
theorem ix1 : ixN 4 1 = some 1 := rfl
theorem ix2 : ixN 4 2 = some 2 := rfl
theorem ix3 : ixN 4 3 = some 3 := rfl
section
variable {G : Gx} (hf : G.fns "_law_draw" = some cLawDraw) (k : Nat) (md : Md)
include hf
theorem draw_ok (p : PU.Pu) (m : Int) (n : Nat) (hok : PU.Ok n p) (hn : n ≤ 1000000) (hm0 : 0 < m) (hm1 : m < 1073741824) : Tn G (k + 1) md "_law_draw" [.own (puD p), .im (.int m)] = some (.im (.int (PU.draw p m).1), [.own (puD (PU.draw p m).2), .im (.int m)]) := by
  rw [tn_run hf rfl]
  have cd := cdiv_small hm0 hm1
  unfold cLawDraw
  dsimp only
  by_cases h0 : 0 < p.r
  · have hd : PU.draw p m = (p.r % m, { p with r := p.r / m }) := by unfold PU.draw; rw [if_pos h0]
    rw [hd]
    simp only [env0, evB, evC, ee, evs, ebs, ets, fin, bR, bA, bB, truD, backS, Rz.d, isOwn, setAll, isCal, gloCall, argsOf, cmpD, eqD, negD, binD, intOp, bltD, List.map_cons, List.map_nil, List.length_cons, List.length_nil, List.replicate_succ, List.replicate_zero, List.append_nil, List.cons_append, List.nil_append, List.getElem?_cons_zero, List.getElem?_cons_succ, List.set_cons_zero, List.set_cons_succ, Option.map_some, Option.map_none, Option.bind_some, Option.bind_none, if_true, if_false, reduceIte, Bool.false_eq_true, Bool.not_true, Bool.not_false, Nat.reduceAdd, Nat.reduceSub, Nat.sub_self, List.any_cons, List.any_nil, Bool.or_false, Bool.false_or, Bool.or_self, Bool.and_true, Bool.and_self, Bool.and_false, Bool.false_and, Bool.true_and, Nat.reduceLeDiff, Nat.reduceEqDiff, decide_true, decide_false, Bool.true_eq_false, reduceCtorEq, and_self, and_true, true_and, ne_eq, not_true_eq_false, not_false_eq_true, req_true, sub_l, puD, at0, at1, at2, at3, ix1, ix2, ix3, h0, req_pos hm0, req_pos cd, fdiv_pos hm0]
  · have c0 := hok.cell
    have t0 := hok.t0
    have tn := hok.tn
    have hix : atI ((PU.cs p).map D.int) (p.i % (((PU.cs p).map D.int).length : Int)) = some (.int (PU.cell p)) := by
      rw [List.length_map, ← PU.ix_eq]
      exact atI_nat (by rw [List.getElem?_map, PU.cell_get]; rfl)
    have hlen : (0 : Int) < (((PU.cs p).map D.int).length : Int) := by rw [List.length_map]; have := PU.cs_pos p; omega
    rw [evB_nx (δ1 := [some (.own (puD p)), some (.im (.int m)), none, none, none, none, none, none]) ?h]
    case h => simp only [env0, evB, evC, ee, evs, ebs, ets, fin, bR, bA, bB, truD, backS, Rz.d, isOwn, setAll, isCal, gloCall, argsOf, cmpD, eqD, negD, binD, intOp, bltD, List.map_cons, List.map_nil, List.length_cons, List.length_nil, List.replicate_succ, List.replicate_zero, List.append_nil, List.cons_append, List.nil_append, List.getElem?_cons_zero, List.getElem?_cons_succ, List.set_cons_zero, List.set_cons_succ, Option.map_some, Option.map_none, Option.bind_some, Option.bind_none, if_true, if_false, reduceIte, Bool.false_eq_true, Bool.not_true, Bool.not_false, Nat.reduceAdd, Nat.reduceSub, Nat.sub_self, List.any_cons, List.any_nil, Bool.or_false, Bool.false_or, Bool.or_self, Bool.and_true, Bool.and_self, Bool.and_false, Bool.false_and, Bool.true_and, Nat.reduceLeDiff, Nat.reduceEqDiff, decide_true, decide_false, Bool.true_eq_false, reduceCtorEq, and_self, and_true, true_and, ne_eq, not_true_eq_false, not_false_eq_true, req_true, sub_l, puD, at0, at1, at2, at3, ix1, ix2, ix3, h0]
    rw [evB_nx (δ1 := [some (.own (puD p)), some (.im (.int m)), none, some (.im (.lst ((PU.cs p).map D.int))), none, none, none, none]) ?h]
    case h =>
      cases hc : p.cells with
      | nil =>
        have hcs : PU.cs p = [0] := by unfold PU.cs; rw [if_pos hc]
        rw [hcs]
        simp only [env0, evB, evC, ee, evs, ebs, ets, fin, bR, bA, bB, truD, backS, Rz.d, isOwn, setAll, isCal, gloCall, argsOf, cmpD, eqD, negD, binD, intOp, bltD, List.map_cons, List.map_nil, List.length_cons, List.length_nil, List.replicate_succ, List.replicate_zero, List.append_nil, List.cons_append, List.nil_append, List.getElem?_cons_zero, List.getElem?_cons_succ, List.set_cons_zero, List.set_cons_succ, Option.map_some, Option.map_none, Option.bind_some, Option.bind_none, if_true, if_false, reduceIte, Bool.false_eq_true, Bool.not_true, Bool.not_false, Nat.reduceAdd, Nat.reduceSub, Nat.sub_self, List.any_cons, List.any_nil, Bool.or_false, Bool.false_or, Bool.or_self, Bool.and_true, Bool.and_self, Bool.and_false, Bool.false_and, Bool.true_and, Nat.reduceLeDiff, Nat.reduceEqDiff, decide_true, decide_false, Bool.true_eq_false, reduceCtorEq, and_self, and_true, true_and, ne_eq, not_true_eq_false, not_false_eq_true, req_true, sub_l, puD, hc, at0, at1, at2, at3, ix1, ix2, ix3, h0, List.isEmpty_nil]
      | cons x xs =>
        have hcs : PU.cs p = x :: xs := by unfold PU.cs; rw [hc]; rfl
        rw [hcs]
        simp only [env0, evB, evC, ee, evs, ebs, ets, fin, bR, bA, bB, truD, backS, Rz.d, isOwn, setAll, isCal, gloCall, argsOf, cmpD, eqD, negD, binD, intOp, bltD, List.map_cons, List.map_nil, List.length_cons, List.length_nil, List.replicate_succ, List.replicate_zero, List.append_nil, List.cons_append, List.nil_append, List.getElem?_cons_zero, List.getElem?_cons_succ, List.set_cons_zero, List.set_cons_succ, Option.map_some, Option.map_none, Option.bind_some, Option.bind_none, if_true, if_false, reduceIte, Bool.false_eq_true, Bool.not_true, Bool.not_false, Nat.reduceAdd, Nat.reduceSub, Nat.sub_self, List.any_cons, List.any_nil, Bool.or_false, Bool.false_or, Bool.or_self, Bool.and_true, Bool.and_self, Bool.and_false, Bool.false_and, Bool.true_and, Nat.reduceLeDiff, Nat.reduceEqDiff, decide_true, decide_false, Bool.true_eq_false, reduceCtorEq, and_self, and_true, true_and, ne_eq, not_true_eq_false, not_false_eq_true, req_true, sub_l, puD, hc, at0, at1, at2, at3, ix1, ix2, ix3, h0, List.isEmpty_cons]
    rw [evB_nx (δ1 := [some (.own (puD p)), some (.im (.int m)), none, some (.im (.lst ((PU.cs p).map D.int))), some (.im (.int (PU.cell p))), none, none, none]) ?h]
    case h =>
      simp only [env0, evB, evC, ee, evs, ebs, ets, fin, bR, bA, bB, truD, backS, Rz.d, isOwn, setAll, isCal, gloCall, argsOf, cmpD, eqD, negD, binD, intOp, bltD, List.map_cons, List.map_nil, List.length_cons, List.length_nil, List.replicate_succ, List.replicate_zero, List.append_nil, List.cons_append, List.nil_append, List.getElem?_cons_zero, List.getElem?_cons_succ, List.set_cons_zero, List.set_cons_succ, Option.map_some, Option.map_none, Option.bind_some, Option.bind_none, if_true, if_false, reduceIte, Bool.false_eq_true, Bool.not_true, Bool.not_false, Nat.reduceAdd, Nat.reduceSub, Nat.sub_self, List.any_cons, List.any_nil, Bool.or_false, Bool.false_or, Bool.or_self, Bool.and_true, Bool.and_self, Bool.and_false, Bool.false_and, Bool.true_and, Nat.reduceLeDiff, Nat.reduceEqDiff, decide_true, decide_false, Bool.true_eq_false, reduceCtorEq, and_self, and_true, true_and, ne_eq, not_true_eq_false, not_false_eq_true, req_true, sub_l, puD, at0, at1, at2, at3, ix1, ix2, ix3, req_pos hlen, hix]
    rw [evB_nx (δ1 := [some (.own (puD { p with i := p.i + 1 })), some (.im (.int m)), none, some (.im (.lst ((PU.cs p).map D.int))), some (.im (.int (PU.cell p))), none, none, none]) ?h]
    case h =>
      simp only [env0, evB, evC, ee, evs, ebs, ets, fin, bR, bA, bB, truD, backS, Rz.d, isOwn, setAll, isCal, gloCall, argsOf, cmpD, eqD, negD, binD, intOp, bltD, List.map_cons, List.map_nil, List.length_cons, List.length_nil, List.replicate_succ, List.replicate_zero, List.append_nil, List.cons_append, List.nil_append, List.getElem?_cons_zero, List.getElem?_cons_succ, List.set_cons_zero, List.set_cons_succ, Option.map_some, Option.map_none, Option.bind_some, Option.bind_none, if_true, if_false, reduceIte, Bool.false_eq_true, Bool.not_true, Bool.not_false, Nat.reduceAdd, Nat.reduceSub, Nat.sub_self, List.any_cons, List.any_nil, Bool.or_false, Bool.false_or, Bool.or_self, Bool.and_true, Bool.and_self, Bool.and_false, Bool.false_and, Bool.true_and, Nat.reduceLeDiff, Nat.reduceEqDiff, decide_true, decide_false, Bool.true_eq_false, reduceCtorEq, and_self, and_true, true_and, ne_eq, not_true_eq_false, not_false_eq_true, req_true, sub_l, puD, at0, at1, at2, at3, ix1, ix2, ix3]
    have p18 : CPow 10 18 := ⟨by decide, by decide, by decide +kernel⟩
    have e18 : (10 : Int) ^ (18 : Int).toNat = 10 ^ 18 := rfl
    by_cases h1 : (10 : Int) ^ 18 ≤ PU.cell p
    · have hd : PU.draw p m = (PU.cell p % m, { p with i := p.i + 1, r := PU.cell p / m }) := by unfold PU.draw; rw [if_neg h0, if_pos h1]
      rw [hd]
      simp only [env0, evB, evC, ee, evs, ebs, ets, fin, bR, bA, bB, truD, backS, Rz.d, isOwn, setAll, isCal, gloCall, argsOf, cmpD, eqD, negD, binD, intOp, bltD, List.map_cons, List.map_nil, List.length_cons, List.length_nil, List.replicate_succ, List.replicate_zero, List.append_nil, List.cons_append, List.nil_append, List.getElem?_cons_zero, List.getElem?_cons_succ, List.set_cons_zero, List.set_cons_succ, Option.map_some, Option.map_none, Option.bind_some, Option.bind_none, if_true, if_false, reduceIte, Bool.false_eq_true, Bool.not_true, Bool.not_false, Nat.reduceAdd, Nat.reduceSub, Nat.sub_self, List.any_cons, List.any_nil, Bool.or_false, Bool.false_or, Bool.or_self, Bool.and_true, Bool.and_self, Bool.and_false, Bool.false_and, Bool.true_and, Nat.reduceLeDiff, Nat.reduceEqDiff, decide_true, decide_false, Bool.true_eq_false, reduceCtorEq, and_self, and_true, true_and, ne_eq, not_true_eq_false, not_false_eq_true, req_true, sub_l, puD, at0, at1, at2, at3, ix1, ix2, ix3, req_pos p18, e18, ge_iff_le, h1, req_pos hm0, req_pos cd, fdiv_pos hm0]
    · have hd : PU.draw p m = (PU.b2 (PU.cell p) p.t / 32 % m, { p with i := p.i + 1, t := p.t + 1 }) := by unfold PU.draw; rw [if_neg h0, if_neg h1]
      rw [hd]
      have c1 : PU.cell p < 10 ^ 18 := Int.not_le.mp h1
      have pb := PU.pr_pos t0
      have bb := PU.b1_bd (c := PU.cell p) t0
      rw [evB_nx (δ1 := [some (.own (puD { p with i := p.i + 1 })), some (.im (.int m)), none, some (.im (.lst ((PU.cs p).map D.int))), some (.im (.int (PU.cell p))), none, none, none]) ?h]
      case h => simp only [env0, evB, evC, ee, evs, ebs, ets, fin, bR, bA, bB, truD, backS, Rz.d, isOwn, setAll, isCal, gloCall, argsOf, cmpD, eqD, negD, binD, intOp, bltD, List.map_cons, List.map_nil, List.length_cons, List.length_nil, List.replicate_succ, List.replicate_zero, List.append_nil, List.cons_append, List.nil_append, List.getElem?_cons_zero, List.getElem?_cons_succ, List.set_cons_zero, List.set_cons_succ, Option.map_some, Option.map_none, Option.bind_some, Option.bind_none, if_true, if_false, reduceIte, Bool.false_eq_true, Bool.not_true, Bool.not_false, Nat.reduceAdd, Nat.reduceSub, Nat.sub_self, List.any_cons, List.any_nil, Bool.or_false, Bool.false_or, Bool.or_self, Bool.and_true, Bool.and_self, Bool.and_false, Bool.false_and, Bool.true_and, Nat.reduceLeDiff, Nat.reduceEqDiff, decide_true, decide_false, Bool.true_eq_false, reduceCtorEq, and_self, and_true, true_and, ne_eq, not_true_eq_false, not_false_eq_true, req_true, sub_l, puD, at0, at1, at2, at3, ix1, ix2, ix3, req_pos p18, e18, ge_iff_le, h1]
      rw [evB_nx (δ1 := [some (.own (puD { p with i := p.i + 1 })), some (.im (.int m)), none, some (.im (.lst ((PU.cs p).map D.int))), some (.im (.int (PU.cell p))), some (.im (.int p.t)), none, none]) ?h]
      case h => simp only [env0, evB, evC, ee, evs, ebs, ets, fin, bR, bA, bB, truD, backS, Rz.d, isOwn, setAll, isCal, gloCall, argsOf, cmpD, eqD, negD, binD, intOp, bltD, List.map_cons, List.map_nil, List.length_cons, List.length_nil, List.replicate_succ, List.replicate_zero, List.append_nil, List.cons_append, List.nil_append, List.getElem?_cons_zero, List.getElem?_cons_succ, List.set_cons_zero, List.set_cons_succ, Option.map_some, Option.map_none, Option.bind_some, Option.bind_none, if_true, if_false, reduceIte, Bool.false_eq_true, Bool.not_true, Bool.not_false, Nat.reduceAdd, Nat.reduceSub, Nat.sub_self, List.any_cons, List.any_nil, Bool.or_false, Bool.false_or, Bool.or_self, Bool.and_true, Bool.and_self, Bool.and_false, Bool.false_and, Bool.true_and, Nat.reduceLeDiff, Nat.reduceEqDiff, decide_true, decide_false, Bool.true_eq_false, reduceCtorEq, and_self, and_true, true_and, ne_eq, not_true_eq_false, not_false_eq_true, req_true, sub_l, puD, at0, at1, at2, at3, ix1, ix2, ix3]
      rw [evB_nx (δ1 := [some (.own (puD { p with i := p.i + 1, t := p.t + 1 })), some (.im (.int m)), none, some (.im (.lst ((PU.cs p).map D.int))), some (.im (.int (PU.cell p))), some (.im (.int p.t)), none, none]) ?h]
      case h => simp only [env0, evB, evC, ee, evs, ebs, ets, fin, bR, bA, bB, truD, backS, Rz.d, isOwn, setAll, isCal, gloCall, argsOf, cmpD, eqD, negD, binD, intOp, bltD, List.map_cons, List.map_nil, List.length_cons, List.length_nil, List.replicate_succ, List.replicate_zero, List.append_nil, List.cons_append, List.nil_append, List.getElem?_cons_zero, List.getElem?_cons_succ, List.set_cons_zero, List.set_cons_succ, Option.map_some, Option.map_none, Option.bind_some, Option.bind_none, if_true, if_false, reduceIte, Bool.false_eq_true, Bool.not_true, Bool.not_false, Nat.reduceAdd, Nat.reduceSub, Nat.sub_self, List.any_cons, List.any_nil, Bool.or_false, Bool.false_or, Bool.or_self, Bool.and_true, Bool.and_self, Bool.and_false, Bool.false_and, Bool.true_and, Nat.reduceLeDiff, Nat.reduceEqDiff, decide_true, decide_false, Bool.true_eq_false, reduceCtorEq, and_self, and_true, true_and, ne_eq, not_true_eq_false, not_false_eq_true, req_true, sub_l, puD, at0, at1, at2, at3, ix1, ix2, ix3]
      rw [evB_nx (δ1 := [some (.own (puD { p with i := p.i + 1, t := p.t + 1 })), some (.im (.int m)), none, some (.im (.lst ((PU.cs p).map D.int))), some (.im (.int (PU.cell p))), some (.im (.int p.t)), some (.im (.lst (PU.primes.map D.int))), none]) ?h]
      case h => simp only [env0, evB, evC, ee, evs, ebs, ets, fin, bR, bA, bB, truD, backS, Rz.d, isOwn, setAll, isCal, gloCall, argsOf, cmpD, eqD, negD, binD, intOp, bltD, List.map_cons, List.map_nil, List.length_cons, List.length_nil, List.replicate_succ, List.replicate_zero, List.append_nil, List.cons_append, List.nil_append, List.getElem?_cons_zero, List.getElem?_cons_succ, List.set_cons_zero, List.set_cons_succ, Option.map_some, Option.map_none, Option.bind_some, Option.bind_none, if_true, if_false, reduceIte, Bool.false_eq_true, Bool.not_true, Bool.not_false, Nat.reduceAdd, Nat.reduceSub, Nat.sub_self, List.any_cons, List.any_nil, Bool.or_false, Bool.false_or, Bool.or_self, Bool.and_true, Bool.and_self, Bool.and_false, Bool.false_and, Bool.true_and, Nat.reduceLeDiff, Nat.reduceEqDiff, decide_true, decide_false, Bool.true_eq_false, reduceCtorEq, and_self, and_true, true_and, ne_eq, not_true_eq_false, not_false_eq_true, req_true, sub_l, PU.primes, List.map_cons, List.map_nil]
      have m1 : CMulW (PU.cell p + 1) 48271 := cm_small (by omega) (by decide +kernel)
      have m2 : CMulW (p.t + 1) (p.t + 7) := cm_small (by omega) (by omega)
      have m3 : CMulW ((p.t + 1) * (p.t + 7)) 69621 := cm_small (by
        have e1 : (p.t + 1).natAbs ≤ 2 ^ 40 := by omega
        have e2 : (p.t + 7).natAbs ≤ 2 ^ 40 := by omega
        rw [Int.natAbs_mul]
        exact Nat.lt_of_le_of_lt (Nat.mul_le_mul e1 e2) (by decide +kernel)) (by decide +kernel)
      have h11 : (0 : Int) < 11 := by decide
      have hpr : atI (PU.primes.map D.int) (p.t % 11) = some (.int (PU.pr p.t)) := by
        have : p.t % 11 = ((p.t % 11).toNat : Int) := by have := Int.emod_nonneg p.t (b := 11) (by decide); omega
        rw [this]
        exact atI_nat (by rw [List.getElem?_map, PU.pr_get t0]; rfl)
      rw [evB_nx (δ1 := [some (.own (puD { p with i := p.i + 1, t := p.t + 1 })), some (.im (.int m)), none, some (.im (.lst ((PU.cs p).map D.int))), some (.im (.int (PU.cell p))), some (.im (.int p.t)), some (.im (.lst (PU.primes.map D.int))), some (.im (.int (PU.b1 (PU.cell p) p.t)))]) ?h]
      case h => simp only [env0, evB, evC, ee, evs, ebs, ets, fin, bR, bA, bB, truD, backS, Rz.d, isOwn, setAll, isCal, gloCall, argsOf, cmpD, eqD, negD, binD, intOp, bltD, List.map_cons, List.map_nil, List.length_cons, List.length_nil, List.replicate_succ, List.replicate_zero, List.append_nil, List.cons_append, List.nil_append, List.getElem?_cons_zero, List.getElem?_cons_succ, List.set_cons_zero, List.set_cons_succ, Option.map_some, Option.map_none, Option.bind_some, Option.bind_none, if_true, if_false, reduceIte, Bool.false_eq_true, Bool.not_true, Bool.not_false, Nat.reduceAdd, Nat.reduceSub, Nat.sub_self, List.any_cons, List.any_nil, Bool.or_false, Bool.false_or, Bool.or_self, Bool.and_true, Bool.and_self, Bool.and_false, Bool.false_and, Bool.true_and, Nat.reduceLeDiff, Nat.reduceEqDiff, decide_true, decide_false, Bool.true_eq_false, reduceCtorEq, and_self, and_true, true_and, ne_eq, not_true_eq_false, not_false_eq_true, req_true, sub_l, req_pos m1, req_pos m2, req_pos m3, req_pos h11, hpr, req_pos pb.1, PU.b1]
      have p3 : CPow (PU.b1 (PU.cell p) p.t) 3 := ⟨by decide, by decide, by omega⟩
      have e3 : ∀ x : Int, x ^ (3 : Int).toNat = x ^ 3 := fun x => rfl
      have m4 : CMulW p.t 40503 := cm_small (by omega) (by decide +kernel)
      have hM : (0 : Int) < 2147483647 := by decide
      rw [evB_nx (δ1 := [some (.own (puD { p with i := p.i + 1, t := p.t + 1 })), some (.im (.int m)), none, some (.im (.lst ((PU.cs p).map D.int))), some (.im (.int (PU.cell p))), some (.im (.int p.t)), some (.im (.lst (PU.primes.map D.int))), some (.im (.int (PU.b2 (PU.cell p) p.t)))]) ?h]
      case h => simp only [env0, evB, evC, ee, evs, ebs, ets, fin, bR, bA, bB, truD, backS, Rz.d, isOwn, setAll, isCal, gloCall, argsOf, cmpD, eqD, negD, binD, intOp, bltD, List.map_cons, List.map_nil, List.length_cons, List.length_nil, List.replicate_succ, List.replicate_zero, List.append_nil, List.cons_append, List.nil_append, List.getElem?_cons_zero, List.getElem?_cons_succ, List.set_cons_zero, List.set_cons_succ, Option.map_some, Option.map_none, Option.bind_some, Option.bind_none, if_true, if_false, reduceIte, Bool.false_eq_true, Bool.not_true, Bool.not_false, Nat.reduceAdd, Nat.reduceSub, Nat.sub_self, List.any_cons, List.any_nil, Bool.or_false, Bool.false_or, Bool.or_self, Bool.and_true, Bool.and_self, Bool.and_false, Bool.false_and, Bool.true_and, Nat.reduceLeDiff, Nat.reduceEqDiff, decide_true, decide_false, Bool.true_eq_false, reduceCtorEq, and_self, and_true, true_and, ne_eq, not_true_eq_false, not_false_eq_true, req_true, sub_l, req_pos p3, e3, req_pos m4, req_pos hM, PU.b2]
      have cd32 : CDiv 32 := cdiv_small (by decide) (by decide)
      have e32 : ∀ x : Int, x.fdiv 32 = x / 32 := fun x => fdiv_pos (by decide)
      simp only [env0, evB, evC, ee, evs, ebs, ets, fin, bR, bA, bB, truD, backS, Rz.d, isOwn, setAll, isCal, gloCall, argsOf, cmpD, eqD, negD, binD, intOp, bltD, List.map_cons, List.map_nil, List.length_cons, List.length_nil, List.replicate_succ, List.replicate_zero, List.append_nil, List.cons_append, List.nil_append, List.getElem?_cons_zero, List.getElem?_cons_succ, List.set_cons_zero, List.set_cons_succ, Option.map_some, Option.map_none, Option.bind_some, Option.bind_none, if_true, if_false, reduceIte, Bool.false_eq_true, Bool.not_true, Bool.not_false, Nat.reduceAdd, Nat.reduceSub, Nat.sub_self, List.any_cons, List.any_nil, Bool.or_false, Bool.false_or, Bool.or_self, Bool.and_true, Bool.and_self, Bool.and_false, Bool.false_and, Bool.true_and, Nat.reduceLeDiff, Nat.reduceEqDiff, decide_true, decide_false, Bool.true_eq_false, reduceCtorEq, and_self, and_true, true_and, ne_eq, not_true_eq_false, not_false_eq_true, req_true, sub_l, puD, req_pos cd32, e32, req_pos hm0]
end
end RE
set_option Elab.async false
set_option linter.all false
set_option maxRecDepth 100000
set_option autoImplicit false
set_option maxHeartbeats 1000000
set_option exponentiation.threshold 20000
/-! RF: the purse's birth, read. -/
namespace RE
open PySem L2 TL MA
theorem set_back {δ : TL.Env} {i : Nat} {x : Option S} (h : δ[i]? = some none) : (δ.set i x).set i none = δ := by
  rw [List.set_set]
  apply List.ext_getElem?
  intro j
  rw [List.getElem?_set]
  split
  · rename_i e
    subst e
    have : i < δ.length := by
      cases hh : decide (i < δ.length) with
      | true => exact of_decide_eq_true hh
      | false => rw [List.getElem?_eq_none (Nat.le_of_not_lt (of_decide_eq_false hh))] at h; cases h
    rw [if_pos this, h]
  · rfl
theorem lc_map {f : TL.Env → Option (Rz × TL.Env)} {i : Nat} {δ : TL.Env} (hb : δ[i]? = some none) (g : D → D) : ∀ {xs : List D}, (∀ x ∈ xs, f (δ.set i (some (.im x))) = some (.im (g x), δ.set i (some (.im x)))) → lcGo f (tsts []) (.one i) xs δ = some (xs.map g, δ)
  | [], _ => rfl
  | x :: xs, h => by
    have hw : isOwn δ i = false := by unfold isOwn; rw [hb]
    have h1 := h x (List.mem_cons_self ..)
    have h2 := lc_map hb g (xs := xs) (fun y hy => h y (List.mem_cons_of_mem _ hy))
    simp only [lcGo, setTg, hw, Bool.false_eq_true, if_false, tsts, h1, bR, Tg.is, wipeT, set_back hb, h2, List.map_cons]
theorem ee_lc {G : Gx} {T : Tb} {md : Md} (hcm : md.calm = true) {g : Tg} {kd : Ik} {its ifs : List E} {elt : E} {δ δ1 δ2 : TL.Env} {ds xs ys : List D} (h1 : evs G T md its δ = some (.inl ds, δ1)) (h2 : itD G.K kd ds = some xs) (hb : blank δ1 g.is = true) (hl : xs.length ≤ 100000) (h3 : lcGo (ee G T md false elt) (tsts (ets G T md ifs)) g xs δ1 = some (ys, δ2)) : ee G T md false (.lc g kd its ifs elt) δ = some (.fr ys, δ2) := by
  simp only [ee, fin, h1, h2, Option.bind_some, lcD, req_pos (And.intro hb hl), h3, Option.map_some, if_pos hcm]
/-- the cells of a script -/
def cellsOf (ns : List Int) : List Int := ns.map fun c => c % big
def puOf (ns : List Int) : PU.Pu := ⟨cellsOf ns, 0, 0, 0⟩
theorem puOf_ok (ns : List Int) : PU.Ok 0 (puOf ns) := ⟨Int.le_refl _, Int.le_refl _, Int.le_refl _, fun c hc => by
  obtain ⟨x, _, rfl⟩ := List.mem_map.mp hc
  exact Int.emod_nonneg _ (by unfold big; decide +kernel)⟩
section
variable {G : Gx} (k : Nat) (md : Md)
theorem purse_ok (hcm : md.calm = true) (hf : G.fns "_law_purse" = some cLawPurse) (ns : List Int) (hn : ns.length ≤ 100000) : Tn G (k + 1) md "_law_purse" [.im (.lst (ns.map D.int))] = some (.fr [.lst ((cellsOf ns).map D.int), .int 0, .int 0, .int 0], [.im (.lst (ns.map D.int))]) := by
  rw [tn_run hf rfl]
  unfold cLawPurse
  dsimp only
  have p60 : CPow 10 60 := ⟨by decide, by decide, by decide +kernel⟩
  have e60 : (10 : Int) ^ (60 : Int).toNat = 10 ^ 60 := rfl
  have m60 : CMulW (10 ^ 60) (10 ^ 60) := wide_mul (a := 250) (b := 250) (by decide +kernel) (by decide +kernel) (by decide) (by decide) (by decide)
  have b0 : (0 : Int) < 10 ^ 60 * 10 ^ 60 := by decide +kernel
  have hl : (ns.map D.int).length ≤ 100000 := by rw [List.length_map]; exact hn
  have hg := lc_map (f := ee G (Tn G k) md false (.bin .Mod (.blt .int [.var 1]) (.bin .Mult (.bin .Pow (.int 10) (.int 60)) (.bin .Pow (.int 10) (.int 60))))) (i := 1) (δ := [some (.im (.lst (ns.map D.int))), none]) rfl (fun x => match x with
    | .int c => .int (c % big)
    | x => x) (xs := ns.map D.int) (fun x hx => by
      obtain ⟨c, _, rfl⟩ := List.mem_map.mp hx
      simp only [env0, evB, evC, ee, evs, ebs, ets, fin, bR, bA, bB, truD, backS, Rz.d, isOwn, setAll, isCal, gloCall, argsOf, cmpD, eqD, negD, binD, intOp, bltD, List.map_cons, List.map_nil, List.length_cons, List.length_nil, List.replicate_succ, List.replicate_zero, List.append_nil, List.cons_append, List.nil_append, List.getElem?_cons_zero, List.getElem?_cons_succ, List.set_cons_zero, List.set_cons_succ, Option.map_some, Option.map_none, Option.bind_some, Option.bind_none, if_true, if_false, reduceIte, Bool.false_eq_true, Bool.not_true, Bool.not_false, Nat.reduceAdd, Nat.reduceSub, Nat.sub_self, List.any_cons, List.any_nil, Bool.or_false, Bool.false_or, Bool.or_self, Bool.and_true, Bool.and_self, Bool.and_false, Bool.false_and, Bool.true_and, Nat.reduceLeDiff, Nat.reduceEqDiff, decide_true, decide_false, Bool.true_eq_false, reduceCtorEq, and_self, and_true, true_and, ne_eq, not_true_eq_false, not_false_eq_true, req_pos p60, e60, req_pos m60, req_pos b0, big])
  have e : (cellsOf ns).map D.int = (ns.map D.int).map (fun x => match x with
    | .int c => .int (c % big)
    | x => x) := by
    unfold cellsOf
    rw [List.map_map, List.map_map]
    rfl
  rw [e]
  have hlc := ee_lc (G := G) (T := Tn G k) (md := md) hcm (g := .one 1) (kd := .seq) (its := [.var 0]) (ifs := []) (ds := [.lst (ns.map D.int)]) (δ := [some (.im (.lst (ns.map D.int))), none]) (δ1 := [some (.im (.lst (ns.map D.int))), none]) (by simp only [env0, evB, evC, ee, evs, ebs, ets, fin, bR, bA, bB, truD, backS, Rz.d, isOwn, setAll, isCal, gloCall, argsOf, cmpD, eqD, negD, binD, intOp, bltD, List.map_cons, List.map_nil, List.length_cons, List.length_nil, List.replicate_succ, List.replicate_zero, List.append_nil, List.cons_append, List.nil_append, List.getElem?_cons_zero, List.getElem?_cons_succ, List.set_cons_zero, List.set_cons_succ, Option.map_some, Option.map_none, Option.bind_some, Option.bind_none, if_true, if_false, reduceIte, Bool.false_eq_true, Bool.not_true, Bool.not_false, Nat.reduceAdd, Nat.reduceSub, Nat.sub_self, List.any_cons, List.any_nil, Bool.or_false, Bool.false_or, Bool.or_self, Bool.and_true, Bool.and_self, Bool.and_false, Bool.false_and, Bool.true_and, Nat.reduceLeDiff, Nat.reduceEqDiff, decide_true, decide_false, Bool.true_eq_false, reduceCtorEq, and_self, and_true, true_and, ne_eq, not_true_eq_false, not_false_eq_true]) rfl rfl hl hg
  rw [show env0 ["_law_script", "_law_cell"] [S.im (.lst (ns.map D.int))] = [some (.im (.lst (ns.map D.int))), none] from rfl]
  simp only [env0, evB, evC, ee, evs, ebs, ets, fin, bR, bA, bB, truD, backS, Rz.d, isOwn, setAll, isCal, gloCall, argsOf, cmpD, eqD, negD, binD, intOp, bltD, List.map_cons, List.map_nil, List.length_cons, List.length_nil, List.replicate_succ, List.replicate_zero, List.append_nil, List.cons_append, List.nil_append, List.getElem?_cons_zero, List.getElem?_cons_succ, List.set_cons_zero, List.set_cons_succ, Option.map_some, Option.map_none, Option.bind_some, Option.bind_none, if_true, if_false, reduceIte, Bool.false_eq_true, Bool.not_true, Bool.not_false, Nat.reduceAdd, Nat.reduceSub, Nat.sub_self, List.any_cons, List.any_nil, Bool.or_false, Bool.false_or, Bool.or_self, Bool.and_true, Bool.and_self, Bool.and_false, Bool.false_and, Bool.true_and, Nat.reduceLeDiff, Nat.reduceEqDiff, decide_true, decide_false, Bool.true_eq_false, reduceCtorEq, and_self, and_true, true_and, ne_eq, not_true_eq_false, not_false_eq_true, req_true, ↓hlc]
theorem from_ok (hcm : md.calm = true) (hf : G.fns "_law_from" = some cLawFrom) (hp : G.fns "_law_purse" = some cLawPurse) (gp : G.glo "_law_purse" = some (.fn "_law_purse")) (pp : G.pat "_law_purse" 1 [] = some [.inl 0]) (a : Addr) (ns : List Int) (j : Int) (hn : ns.length ≤ 63) :
    ∃ ms : List Int, Tn G (k + 2) md "_law_from" [.im (.scr G.K a ns), .im (.int j)] = some (.fr [.lst ((cellsOf ms).map D.int), .int 0, .int 0, .int 0], [.im (.scr G.K a ns), .im (.int j)]) := by
  refine ⟨ns.drop (HT.sIx ns.length 0 (some j)) ++ ns.take (HT.sIx ns.length ns.length (some j)), ?_⟩
  have hl : (ns.drop (HT.sIx ns.length 0 (some j)) ++ ns.take (HT.sIx ns.length ns.length (some j))).length ≤ 100000 := by
    rw [List.length_append, List.length_drop, List.length_take]
    omega
  have hpo := purse_ok (G := G) k md hcm hp _ hl
  rw [tn_run hf rfl]
  unfold cLawFrom
  dsimp only
  have hl2 := hl
  rw [List.length_append] at hl2
  rw [List.map_append] at hpo
  simp only [env0, evB, evC, ee, evs, ebs, ets, fin, bR, bA, bB, truD, backS, Rz.d, isOwn, setAll, isCal, gloCall, argsOf, cmpD, eqD, negD, binD, intOp, bltD, List.map_cons, List.map_nil, List.length_cons, List.length_nil, List.replicate_succ, List.replicate_zero, List.append_nil, List.cons_append, List.nil_append, List.getElem?_cons_zero, List.getElem?_cons_succ, List.set_cons_zero, List.set_cons_succ, Option.map_some, Option.map_none, Option.bind_some, Option.bind_none, if_true, if_false, reduceIte, Bool.false_eq_true, Bool.not_true, Bool.not_false, Nat.reduceAdd, Nat.reduceSub, Nat.sub_self, List.any_cons, List.any_nil, Bool.or_false, Bool.false_or, Bool.or_self, Bool.and_true, Bool.and_self, Bool.and_false, Bool.false_and, Bool.true_and, Nat.reduceLeDiff, Nat.reduceEqDiff, decide_true, decide_false, Bool.true_eq_false, reduceCtorEq, and_self, and_true, true_and, ne_eq, not_true_eq_false, not_false_eq_true, req_true, gp, pp, List.length_map, req_pos hl2, hpo]
end
end RE
set_option Elab.async false
set_option linter.all false
set_option maxRecDepth 100000
set_option autoImplicit false
set_option maxHeartbeats 1000000
set_option exponentiation.threshold 20000
/-! TX: texts: their signs, their lengths. -/
namespace RE
open PySem L2 TL MA
theorem ok_ofS (s : String) : PyData.strOk (Str.ofString s) = true := by
  unfold PyData.strOk
  rw [Str.ofString_eq_toList]
  simp only [List.all_toArray, List.all_map, List.all_eq_true]
  intro c _
  refine decide_eq_true ?_
  show c.val.toNat < 0x110000
  have h : (c.val.toNat).isValidChar := c.valid
  unfold Nat.isValidChar at h
  omega
theorem ok_app (a b : Str) (h1 : PyData.strOk a = true) (h2 : PyData.strOk b = true) : PyData.strOk (a ++ b) = true := by
  unfold PyData.strOk at *
  rw [Str.cps_append, Array.all_append, h1, h2]
  rfl
theorem ok_iff (x : Str) : PyData.strOk x = true ↔ ∀ c ∈ x.cps.toList, c < 0x110000 := by
  unfold PyData.strOk
  rw [← Array.all_toList, List.all_eq_true]
  simp only [decide_eq_true_eq]
theorem hex_ok {w c z : Nat} (h : z ∈ List.replicate (w - ((Nat.toDigits 16 c).map Char.toNat).length) 48 ++ (Nat.toDigits 16 c).map Char.toNat) : z < 0x110000 := by
  rcases List.mem_append.mp h with h | h
  · rw [(List.mem_replicate.mp h).2]; decide
  · obtain ⟨d, _, rfl⟩ := List.mem_map.mp h
    have h : (d.val.toNat).isValidChar := d.valid
    unfold Nat.isValidChar at h
    show d.val.toNat < _
    omega
theorem sign_ok (q c : Nat) (hc : c < 0x110000) : ∀ z ∈ PySem.Builtin.Str.reprChar q c, z < 0x110000 := by
  intro z hz
  unfold PySem.Builtin.Str.reprChar at hz
  dsimp only at hz
  split at hz
  · simp only [List.mem_cons, List.not_mem_nil, or_false] at hz; omega
  split at hz
  · simp only [List.mem_cons, List.not_mem_nil, or_false] at hz; omega
  split at hz
  · simp only [List.mem_cons, List.not_mem_nil, or_false] at hz; omega
  split at hz
  · simp only [List.mem_cons, List.not_mem_nil, or_false] at hz; omega
  split at hz
  · simp only [List.mem_cons, List.not_mem_nil, or_false] at hz; omega
  split at hz
  · rcases List.mem_append.mp hz with hz | hz
    · simp only [List.mem_cons, List.not_mem_nil, or_false] at hz; omega
    · exact hex_ok hz
  split at hz
  · rcases List.mem_append.mp hz with hz | hz
    · simp only [List.mem_cons, List.not_mem_nil, or_false] at hz; omega
    · exact hex_ok hz
  · rcases List.mem_append.mp hz with hz | hz
    · simp only [List.mem_cons, List.not_mem_nil, or_false] at hz; omega
    · exact hex_ok hz
theorem fold_ok (q : Nat) : ∀ (l : List Nat) (acc : Array Nat), (∀ z ∈ acc.toList, z < 0x110000) → (∀ c ∈ l, c < 0x110000) → ∀ z ∈ (l.foldl (fun out c => out ++ (PySem.Builtin.Str.reprChar q c).toArray) acc).toList, z < 0x110000
  | [], acc, h, _ => h
  | c :: r, acc, h, hl => by
    refine fold_ok q r (acc ++ (PySem.Builtin.Str.reprChar q c).toArray) (fun z hz => ?_) (fun d hd => hl d (List.mem_cons_of_mem _ hd))
    rw [Array.toList_append] at hz
    rcases List.mem_append.mp hz with hz | hz
    · exact h z hz
    · exact sign_ok q c (hl c (List.mem_cons_self ..)) z hz
theorem ok_rep (x : Str) (h : PyData.strOk x = true) : PyData.strOk (reprText x) = true := by
  rw [ok_iff] at h ⊢
  have hq : reprQuote x < 0x110000 := by unfold reprQuote; split <;> decide
  unfold reprText
  intro z hz
  rw [Array.toList_push, ← Array.foldl_toList] at hz
  rcases List.mem_append.mp hz with hz | hz
  · refine fold_ok (reprQuote x) x.cps.toList #[reprQuote x] (fun y hy => ?_) h z hz
    have : y = reprQuote x := by simpa using hy
    omega
  · have : z = reprQuote x := by simpa using hz
    omega
theorem ok_join (s : Str) (hs : PyData.strOk s = true) : ∀ ts : List Str, (∀ t ∈ ts, PyData.strOk t = true) → PyData.strOk (Str.join s ts) = true
  | [], _ => by unfold Str.join; rw [ok_iff]; intro c hc; cases hc
  | [x], h => h x (List.mem_cons_self ..)
  | x :: y :: r, h => ok_app _ _ (ok_app _ _ (h x (List.mem_cons_self ..)) hs) (ok_join s hs (y :: r) (fun t ht => h t (List.mem_cons_of_mem _ ht)))
theorem ok_list (ts : List Str) (h : ∀ t ∈ ts, PyData.strOk t = true) : PyData.strOk (listText ts) = true := by
  rw [listText_eq_join]
  exact ok_app _ _ (ok_app _ _ (ok_ofS "[") (ok_join _ (ok_ofS ", ") ts h)) (ok_ofS "]")
theorem ok_tuple (ts : List Str) (h : ∀ t ∈ ts, PyData.strOk t = true) : PyData.strOk (tupleText ts) = true := by
  unfold tupleText
  refine ok_app _ _ (ok_app _ _ (ok_ofS "(") (ok_join _ (ok_ofS ", ") ts h)) ?_
  split
  · exact ok_ofS _
  · exact ok_ofS _
theorem ok_dict (ts : List Str) (h : ∀ t ∈ ts, PyData.strOk t = true) : PyData.strOk (dictText ts) = true :=
  ok_app _ _ (ok_app _ _ (ok_ofS "{") (ok_join _ (ok_ofS ", ") ts h)) (ok_ofS "}")
theorem len_ratStr {n d : Int} (hn : n.natAbs.log2 < 1000) (hd : d.natAbs.log2 < 1000) : (ratStr n d).length ≤ 2003 := by
  have ln := int_len hn
  have ld := int_len hd
  unfold ratStr
  split
  · exact Nat.le_trans ln (by decide)
  · rw [app_len, app_len]
    have : (Str.ofString "/").length = 1 := rfl
    omega
theorem len_ratRepr {n d : Int} (hn : n.natAbs.log2 < 1000) (hd : d.natAbs.log2 < 1000) : (ratRepr n d).length ≤ 2011 := by
  have ln := int_len hn
  have ld := int_len hd
  unfold ratRepr
  rw [app_len, app_len, app_len, app_len]
  have : (Str.ofString "Ratio(").length = 6 := rfl
  have : (Str.ofString ", ").length = 2 := rfl
  have : (Str.ofString ")").length = 1 := rfl
  omega
theorem ok_ratStr (n d : Int) : PyData.strOk (ratStr n d) = true := by
  unfold ratStr
  split
  · exact ok_ofS _
  · exact ok_app _ _ (ok_app _ _ (ok_ofS _) (ok_ofS _)) (ok_ofS _)
theorem ok_ratRepr (n d : Int) : PyData.strOk (ratRepr n d) = true := by
  unfold ratRepr
  exact ok_app _ _ (ok_app _ _ (ok_app _ _ (ok_app _ _ (ok_ofS _) (ok_ofS _)) (ok_ofS _)) (ok_ofS _)) (ok_ofS _)
theorem len_rep (x : Str) (h : PyData.strOk x = true) : (reprText x).length ≤ 10 * x.length + 2 :=
  StrLaws.reprText_len x fun c hc => Nat.lt_of_lt_of_le ((ok_iff x).mp h c hc) (by decide)
end RE
set_option Elab.async false
set_option linter.all false
set_option maxRecDepth 100000
set_option autoImplicit false
set_option maxHeartbeats 1000000
set_option exponentiation.threshold 20000
/-! OD: data of any kind (fractions among it) and its text. -/
namespace RE
open PySem L2 TL MA
mutual
/-- data of any kind; A is the class of fractions -/
def Odd (A : Addr) : D → Prop
  | .non => True
  | .bl _ => True
  | .int i => i.natAbs < 2 ^ 500
  | .str x => PyData.strOk x = true ∧ x.length ≤ 10000
  | .ins C ns ds => ∃ a b : Int, D.ins C ns ds = rat A a b ∧ a.natAbs < 2 ^ 500 ∧ b.natAbs < 2 ^ 500 ∧ 0 < b ∧ Int.gcd a b = 1
  | .lst xs => Odds A xs
  | .tup xs => Odds A xs
  | .dct ks xs => ks.length = xs.length ∧ (∀ k ∈ ks, PyData.strOk k = true ∧ k.length ≤ 10) ∧ Odds A xs
  | _ => False
def Odds (A : Addr) : List D → Prop
  | [] => True
  | x :: xs => Odd A x ∧ Odds A xs
end
mutual
/-- its text -/
def txD : D → Str
  | .non => "None"
  | .bl b => if b then "True" else "False"
  | .int i => toString i
  | .str x => reprText x
  | .ins _ _ ds => match ds with
    | [.int a, .int b] => ratRepr a b
    | _ => ""
  | .lst xs => listText (txDs xs)
  | .tup xs => tupleText (txDs xs)
  | .dct ks xs => dictText (entT ks (txDs xs))
  | _ => ""
def txDs : List D → List Str
  | [] => []
  | x :: xs => txD x :: txDs xs
end
mutual
/-- no text is longer -/
def lnD : D → Nat
  | .non => 4
  | .bl _ => 5
  | .int _ => 1001
  | .str x => 10 * x.length + 2
  | .ins _ _ _ => 2011
  | .lst xs => lnDs xs + 3
  | .tup xs => lnDs xs + 3
  | .dct ks xs => lnDs xs + 120 * ks.length + 3
  | _ => 0
def lnDs : List D → Nat
  | [] => 0
  | x :: xs => lnD x + 2 + lnDs xs
end
theorem log500 {n : Nat} (h : n < 2 ^ 500) : n.log2 < 500 := by
  by_cases h0 : n = 0
  · subst h0; decide
  · exact (Nat.log2_lt h0).mpr h
theorem log1000 {n : Nat} (h : n < 2 ^ 500) : n.log2 < 1000 := by have := log500 h; omega
theorem tx_rat (A : Addr) (a b : Int) : txD (rat A a b) = ratRepr a b := by unfold rat; simp only [txD]
theorem odd_rat {A : Addr} {a b : Int} (h1 : a.natAbs < 2 ^ 500) (h2 : b.natAbs < 2 ^ 500) (h3 : 0 < b) (h4 : Int.gcd a b = 1) : Odd A (rat A a b) := by
  have e : Odd A (rat A a b) ↔ ∃ a' b' : Int, rat A a b = rat A a' b' ∧ a'.natAbs < 2 ^ 500 ∧ b'.natAbs < 2 ^ 500 ∧ 0 < b' ∧ Int.gcd a' b' = 1 := by
    conv => lhs; unfold rat
    simp only [Odd]
    exact Iff.rfl
  exact e.mpr ⟨a, b, rfl, h1, h2, h3, h4⟩
theorem odd_ins {A C : Addr} {ns : List Str} {ds : List D} (h : Odd A (.ins C ns ds)) : ∃ a b : Int, D.ins C ns ds = rat A a b ∧ a.natAbs < 2 ^ 500 ∧ b.natAbs < 2 ^ 500 ∧ 0 < b ∧ Int.gcd a b = 1 := by
  simpa only [Odd] using h
theorem ent_ok : ∀ (ks ts : List Str), (∀ k ∈ ks, PyData.strOk k = true) → (∀ t ∈ ts, PyData.strOk t = true) → ∀ t ∈ entT ks ts, PyData.strOk t = true
  | [], _, _, _, t, h => by simp only [entT] at h; cases h
  | k :: ks, [], _, _, t, h => by simp only [entT] at h; cases h
  | k :: ks, u :: ts, hk, ht, t, h => by
    simp only [entT] at h
    rcases List.mem_cons.mp h with rfl | h
    · exact ok_app _ _ (ok_app _ _ (ok_rep _ (hk k (List.mem_cons_self ..))) (ok_ofS ": ")) (ht u (List.mem_cons_self ..))
    · exact ent_ok ks ts (fun z hz => hk z (List.mem_cons_of_mem _ hz)) (fun z hz => ht z (List.mem_cons_of_mem _ hz)) t h
mutual
theorem tx_ok (A : Addr) : ∀ d : D, Odd A d → PyData.strOk (txD d) = true
  | .non, _ => by simp only [txD]; exact ok_ofS _
  | .bl b, _ => by simp only [txD]; cases b <;> exact ok_ofS _
  | .int i, _ => by simp only [txD]; exact ok_ofS _
  | .str x, h => by simp only [txD]; exact ok_rep x (by simp only [Odd] at h; exact h.1)
  | .ins C ns ds, h => by
    obtain ⟨a, b, e, _⟩ := odd_ins h
    rw [e, tx_rat]
    exact ok_ratRepr a b
  | .lst xs, h => by simp only [txD]; exact ok_list _ (tx_oks A xs (by simpa only [Odd] using h))
  | .tup xs, h => by simp only [txD]; exact ok_tuple _ (tx_oks A xs (by simpa only [Odd] using h))
  | .dct ks xs, h => by
    simp only [txD]
    simp only [Odd] at h
    exact ok_dict _ (ent_ok ks _ (fun k hk => (h.2.1 k hk).1) (tx_oks A xs h.2.2))
  | .scr _ _ _, h => by simp only [Odd] at h
  | .vl _, h => by simp only [Odd] at h
  | .tme, h => by simp only [Odd] at h
theorem tx_oks (A : Addr) : ∀ xs : List D, Odds A xs → ∀ t ∈ txDs xs, PyData.strOk t = true
  | [], _, t, h => by simp only [txDs] at h; cases h
  | x :: xs, o, t, h => by
    simp only [Odds] at o
    simp only [txDs] at h
    rcases List.mem_cons.mp h with rfl | h
    · exact tx_ok A x o.1
    · exact tx_oks A xs o.2 t h
end
theorem txs_len : ∀ xs : List D, (txDs xs).length = xs.length
  | [] => by simp only [txDs]; rfl
  | x :: xs => by simp only [txDs, List.length_cons, txs_len xs]
theorem ent_sz : ∀ (ks ts : List Str), (∀ k ∈ ks, PyData.strOk k = true ∧ k.length ≤ 10) → ((entT ks ts).map (·.length)).sum + 2 * (entT ks ts).length ≤ (ts.map (·.length)).sum + 2 * ts.length + 120 * ks.length
  | [], ts, _ => by simp only [entT, List.map_nil, List.sum_nil, List.length_nil]; omega
  | k :: ks, [], _ => by simp only [entT, List.map_nil, List.sum_nil, List.length_nil]; omega
  | k :: ks, u :: ts, hk => by
    have ih := ent_sz ks ts (fun z hz => hk z (List.mem_cons_of_mem _ hz))
    obtain ⟨k1, k2⟩ := hk k (List.mem_cons_self ..)
    have l1 := len_rep k k1
    simp only [entT, List.map_cons, List.sum_cons, List.length_cons]
    have e : (reprText k ++ Str.ofString ": " ++ u).length = (reprText k).length + 2 + u.length := by
      rw [app_len, app_len]; rfl
    rw [e]
    omega
mutual
theorem tx_len (A : Addr) : ∀ d : D, Odd A d → (txD d).length ≤ lnD d
  | .non, _ => by simp only [txD, lnD]; decide
  | .bl b, _ => by simp only [txD, lnD]; cases b <;> decide
  | .int i, h => by
    simp only [txD, lnD]
    simp only [Odd] at h
    exact int_len (log1000 h)
  | .str x, h => by
    simp only [txD, lnD]
    simp only [Odd] at h
    exact len_rep x h.1
  | .ins C ns ds, h => by
    obtain ⟨a, b, e, h1, h2, _⟩ := odd_ins h
    rw [e, tx_rat]
    unfold rat
    simp only [lnD]
    exact len_ratRepr (log1000 h1) (log1000 h2)
  | .lst xs, h => by
    simp only [txD, lnD]
    have := tx_lens A xs (by simpa only [Odd] using h)
    have l := listText_len_le (txDs xs)
    rw [txs_len] at l
    omega
  | .tup xs, h => by
    simp only [txD, lnD]
    have := tx_lens A xs (by simpa only [Odd] using h)
    have l := tupleText_len_le (txDs xs)
    rw [txs_len] at l
    omega
  | .dct ks xs, h => by
    simp only [txD, lnD]
    simp only [Odd] at h
    have := tx_lens A xs h.2.2
    have l := dictText_len_le (entT ks (txDs xs))
    have e := ent_sz ks (txDs xs) h.2.1
    rw [txs_len] at e
    omega
  | .scr _ _ _, h => by simp only [Odd] at h
  | .vl _, h => by simp only [Odd] at h
  | .tme, h => by simp only [Odd] at h
theorem tx_lens (A : Addr) : ∀ xs : List D, Odds A xs → ((txDs xs).map (·.length)).sum + 2 * xs.length ≤ lnDs xs
  | [], _ => by simp only [txDs, lnDs, List.map_nil, List.sum_nil, List.length_nil]; omega
  | x :: xs, o => by
    simp only [Odds] at o
    have h1 := tx_len A x o.1
    have h2 := tx_lens A xs o.2
    simp only [txDs, lnDs, List.map_cons, List.sum_cons, List.length_cons]
    omega
end
mutual
/-- plain data's text -/
theorem tx_py : ∀ d : D, d.Ok → d.py.shown = txD d
  | .non, _ => by simp only [txD, D.py, PyData.shown]
  | .bl b, _ => by simp only [txD, D.py, PyData.shown]
  | .int i, _ => by simp only [txD, D.py, PyData.shown]
  | .str x, _ => by simp only [txD, D.py, PyData.shown]
  | .lst xs, h => by simp only [txD, D.py, PyData.shown]; rw [tx_pys xs h]
  | .tup xs, h => by simp only [txD, D.py, PyData.shown]; rw [tx_pys xs h]
  | .scr _ _ _, h | .ins _ _ _, h | .vl _, h | .dct _ _, h | .tme, h => False.elim h
theorem tx_pys : ∀ xs : List D, D.Oks xs → PyData.shownAll (D.pys xs) = txDs xs
  | [], _ => by simp only [txDs, D.pys, PyData.shownAll]
  | x :: xs, h => by simp only [txDs, D.pys, PyData.shownAll]; rw [tx_py x h.1, tx_pys xs h.2]
end
section
variable {G : Gx} {A : Addr} (h : HRat G A) (k : Nat) (md : Md)
include h
theorem sh_rat (n d : Int) (hn : n.natAbs.log2 < 1000) (hd : d.natAbs.log2 < 1000) : shD G (Tn G (k + 2)) md (rat A n d) = some (ratRepr n d) := by
  have := repr_ok h k ⟨false, md.calm⟩ n d hn hd
  unfold rat at *
  simp only [shD, (show G.own A "__repr__" = some (Str.ofString "Ratio.__repr__") from h.oRE), callD, h.fRE, Option.bind_some, cRatioRepr, if_true, List.map_cons, List.map_nil, this, Option.map_some]
theorem rep_rat (n d : Int) (hn : n.natAbs.log2 < 1000) (hd : d.natAbs.log2 < 1000) : reprD G (Tn G (k + 2)) md (rat A n d) = some (ratRepr n d) := by
  have := repr_ok h k md n d hn hd
  unfold rat at *
  simp only [reprD, (show G.own A "__repr__" = some (Str.ofString "Ratio.__repr__") from h.oRE), callD, h.fRE, Option.bind_some, cRatioRepr, if_true, List.map_cons, List.map_nil, this, Option.map_some]
mutual
theorem sh_odd : ∀ d : D, Odd A d → shD G (Tn G (k + 2)) md d = some (txD d)
  | .non, _ => by simp only [shD, txD]
  | .bl b, _ => by simp only [shD, txD]
  | .int i, o => by
    simp only [Odd] at o
    have : i.natAbs.log2 < 1920 := by have := log500 o; omega
    simp only [shD, txD, req_pos this]
  | .str x, o => by
    simp only [Odd] at o
    have : (reprText x).length ≤ sizeLine := by
      have := len_rep x o.1
      rw [sizeLine_eq]
      omega
    simp only [shD, txD, req_pos this]
  | .ins C ns ds, o => by
    obtain ⟨a, b, e, h1, h2, _⟩ := odd_ins o
    rw [e, tx_rat]
    exact sh_rat h k md a b (log1000 h1) (log1000 h2)
  | .lst xs, o => by
    have := sh_odds xs (by simpa only [Odd] using o)
    simp only [shD, txD, this, Option.map_some]
  | .tup xs, o => by
    have := sh_odds xs (by simpa only [Odd] using o)
    simp only [shD, txD, this, Option.map_some]
  | .dct ks xs, o => by
    simp only [Odd] at o
    have := sh_odds xs o.2.2
    simp only [shD, txD, this, Option.map_some, req_pos o.1]
  | .scr _ _ _, o => by simp only [Odd] at o
  | .vl _, o => by simp only [Odd] at o
  | .tme, o => by simp only [Odd] at o
theorem sh_odds : ∀ xs : List D, Odds A xs → shDs G (Tn G (k + 2)) md xs = some (txDs xs)
  | [], _ => by simp only [shDs, txDs]
  | x :: xs, o => by
    simp only [Odds] at o
    simp only [shDs, txDs, sh_odd x o.1, sh_odds xs o.2, Option.bind_some, Option.map_some]
end
theorem con_odd (d : D) (o : Odd A d) (hp : dpD d ≤ 4) (hs : lnD d ≤ sizeLine) : conD G (Tn G (k + 2)) md d = some (txD d) := by
  have q : dpD d ≤ 4 ∧ (txD d).length ≤ sizeLine := ⟨hp, Nat.le_trans (tx_len A d o) hs⟩
  simp only [conD, sh_odd h k md d o, Option.bind_some, req_pos q]
/-- repr, in calm and in suites -/
theorem rep_odd (d : D) (o : Odd A d) (hp : dpD d ≤ 4) (hs : lnD d ≤ sizeLine) : reprD G (Tn G (k + 2)) md d = some (txD d) := by
  have c := con_odd h k md d o hp hs
  cases d with
  | ins C ns ds =>
    obtain ⟨a, b, e, h1, h2, _⟩ := odd_ins o
    rw [e, tx_rat]
    exact rep_rat h k md a b (log1000 h1) (log1000 h2)
  | lst xs =>
    unfold reprD
    dsimp only
    split
    · rename_i z
      rw [tx_py _ z.1]
    · exact c
  | tup xs =>
    unfold reprD
    dsimp only
    split
    · rename_i z
      rw [tx_py _ z.1]
    · exact c
  | scr _ _ _ => simp only [Odd] at o
  | vl _ => simp only [Odd] at o
  | tme => simp only [Odd] at o
  | non => exact c
  | bl _ => exact c
  | int _ => exact c
  | str _ => exact c
  | dct _ _ => exact c
end
end RE
set_option Elab.async false
set_option linter.all false
set_option maxRecDepth 100000
set_option autoImplicit false
set_option maxHeartbeats 1000000
set_option exponentiation.threshold 20000
/-! LW: helpers that stand in many laws: common, lowest, great, sign_text, odd. -/
namespace RE
open PySem L2 TL MA
def cLawCommon : Fc := { ps := ["_law_one", "_law_two"], N := ["_law_one", "_law_two", "_law_high", "_law_low"], po := true, body := [.par [2, 3] [.blt .abs [.var 0], .blt .abs [.var 1]],
    .whl (.cmp .Gt (.var 3) (.int 0)) [.par [2, 3] [.var 3, .bin .Mod (.blt .int [.var 2]) (.var 3)]],
    .ret (.var 2)] }
def cLawLowest : Fc := { ps := ["_law_high", "_law_under"], N := ["_law_high", "_law_under", "_law_both"], po := true, body := [.set 2 (.ifx (.cmp .Gt (.var 1) (.int 0)) (.call "_law_common" [.var 0, .var 1] [] []) (.neg (.call "_law_common" [.var 0, .var 1] [] []))),
    .ret (.tup [.bin .FloorDiv (.var 0) (.var 2), .bin .FloorDiv (.var 1) (.var 2)])] }
def cLawGreat : Fc := { ps := ["_law_q"], N := ["_law_q", "_law_far"], po := true, body := [.set 1 (.sub (.lst [.int 1, .int 1, .int 10, .bin .Pow (.int 10) (.int 3), .bin .Pow (.int 10) (.int 9), .bin .Pow (.int 10) (.int 20), .bin .Pow (.int 10) (.int 39)]) (.callO "_law_draw" 0 [.int 7])),
    .ret (.bin .Mult (.sub (.lst [.int 1, .neg (.int 1)]) (.callO "_law_draw" 0 [.int 2])) (.bin .Add (.bin .Sub (.var 1) (.int 1)) (.bin .Mult (.callO "_law_draw" 0 [.int 60]) (.bin .Add (.bin .FloorDiv (.var 1) (.int 7)) (.int 1)))))] }
def signs : Str := " !\"#$&'()*+,-./0123456789:;<=>?@ABCDEFGHIJKLMNOPQRSTUVWXYZ[\\]^_abcdefghijklmnopqrstuvwxyz{|}~"
def cLawSignText : Fc := { ps := ["_law_q"], N := ["_law_q", "_law_signs"], po := true, body := [.set 1 (.str signs),
    .ret (.sub (.var 1) (.callO "_law_draw" 0 [.blt .len [.var 1]]))] }
structure HDr (G : Gx) : Prop where
  fDR : G.fns "_law_draw" = some cLawDraw
  gDR : G.glo "_law_draw" = some (.fn "_law_draw")
structure HLo (G : Gx) : Prop where
  fCM : G.fns "_law_common" = some cLawCommon
  fLO : G.fns "_law_lowest" = some cLawLowest
  gCM : G.glo "_law_common" = some (.fn "_law_common")
  gLO : G.glo "_law_lowest" = some (.fn "_law_lowest")
  pCM : G.pat "_law_common" 2 [] = some [.inl 0, .inl 1]
  pLO : G.pat "_law_lowest" 2 [] = some [.inl 0, .inl 1]
structure HGr (G : Gx) : Prop where
  fGR : G.fns "_law_great" = some cLawGreat
  gGR : G.glo "_law_great" = some (.fn "_law_great")
structure HSi (G : Gx) : Prop where
  fSI : G.fns "_law_sign_text" = some cLawSignText
  gSI : G.glo "_law_sign_text" = some (.fn "_law_sign_text")
theorem logL {n : Nat} (hn : n < 2 ^ 9000) : n.log2 < 9000 := by
  by_cases h0 : n = 0
  · subst h0; decide
  · exact (Nat.log2_lt h0).mpr hn
theorem log_of {n j : Nat} (hj : 0 < j) (h : n < 2 ^ j) : n.log2 < j := by
  by_cases h0 : n = 0
  · subst h0; simpa using hj
  · exact (Nat.log2_lt h0).mpr h
theorem lt9000 {n : Nat} (h : n < 2 ^ 500) : n < 2 ^ 9000 := Nat.lt_of_lt_of_le h (Nat.pow_le_pow_right (by decide) (by decide))
theorem lt2 {n m : Nat} (h : n < 2 ^ m) (hm : m ≤ 500) : n < 2 ^ 500 := Nat.lt_of_lt_of_le h (Nat.pow_le_pow_right (by decide) hm)
theorem Ok_mono {n m : Nat} {p : PU.Pu} (h : PU.Ok n p) (hm : n ≤ m) : PU.Ok m p := ⟨h.i0, h.t0, by have := h.tn; omega, h.c0⟩
section
variable {G : Gx} (l : HLo G) (k : Nat) (md : Md)
include l
theorem lcommon_ok (hcm : md.calm = true) (i j : Int) (hj : j.natAbs < 2 ^ 9000) : Tn G (k + 1) md "_law_common" [.im (.int i), .im (.int j)] = some (.im (.int (Int.gcd i j : Int)), [.im (.int i), .im (.int j)]) := by
  rw [tn_run l.fCM rfl]
  have key := gcd_loop (G := G) (T := Tn G k) (md := md) hcm (e := .bin .Mod (.blt .int [.var 2]) (.var 3)) (fun δ a b hb h2 h3 => by simp [ee, evs, h2, h3, binD, intOp, bltD, bR, bA, fin, req_pos hb]) (.im (.int i)) (.im (.int j)) i.natAbs j.natAbs hj
  have s1 : evC G (Tn G k) md (.par [2, 3] [.blt .abs [.var 0], .blt .abs [.var 1]]) (env0 ["_law_one", "_law_two", "_law_high", "_law_low"] [.im (.int i), .im (.int j)]) = some (.nx [some (.im (.int i)), some (.im (.int j)), some (.im (.int (i.natAbs : Int))), some (.im (.int (j.natAbs : Int)))]) := by
    simp [env0, evC, evs, ee, bltD, bR, bA, fin, isOwn, setAll, abs_if, hcm]
  unfold cLawCommon
  dsimp only
  rw [evB_nx s1, evB_nx (evC_whl.trans key)]
  simp [evB, evC, ee, fin, backS, Int.gcd]
theorem lowest_ok (hcm : md.calm = true) (t b : Int) (hb : b ≠ 0) (hz : b.natAbs < 2 ^ 9000) : Tn G (k + 2) md "_law_lowest" [.im (.int t), .im (.int b)] = some (.im (.tup [.int (lN t b), .int (lD t b)]), [.im (.int t), .im (.int b)]) := by
  have hs : CDiv (sh t b) := ⟨sh_ne hb, logL (Nat.lt_of_le_of_lt (sh_le hb) hz)⟩
  rw [tn_run l.fLO rfl]
  have hco := lcommon_ok l k md hcm t b hz
  unfold cLawLowest
  dsimp only
  by_cases hp : 0 < b
  · have hsh : (Int.gcd t b : Int) = sh t b := by unfold sh; rw [if_pos hp]
    simp only [env0, evB, evC, ee, evs, ebs, ets, fin, bR, bA, bB, truD, backS, Rz.d, isOwn, setAll, isCal, gloCall, argsOf, cmpD, eqD, negD, binD, intOp, bltD, List.map_cons, List.map_nil, List.length_cons, List.length_nil, List.replicate_succ, List.replicate_zero, List.append_nil, List.cons_append, List.nil_append, List.getElem?_cons_zero, List.getElem?_cons_succ, List.set_cons_zero, List.set_cons_succ, Option.map_some, Option.map_none, Option.bind_some, Option.bind_none, if_true, if_false, reduceIte, Bool.false_eq_true, Bool.not_true, Bool.not_false, Nat.reduceAdd, Nat.reduceSub, Nat.sub_self, List.any_cons, List.any_nil, Bool.or_false, Bool.false_or, Bool.or_self, Bool.and_true, Bool.and_self, Bool.and_false, Bool.false_and, Bool.true_and, Nat.reduceLeDiff, Nat.reduceEqDiff, decide_true, decide_false, Bool.true_eq_false, reduceCtorEq, and_self, and_true, true_and, ne_eq, not_true_eq_false, not_false_eq_true, req_true, hp, l.gCM, l.pCM, hco, hsh, req_pos hs, lN, lD]
  · have hsh : -(Int.gcd t b : Int) = sh t b := by unfold sh; rw [if_neg hp]
    simp only [env0, evB, evC, ee, evs, ebs, ets, fin, bR, bA, bB, truD, backS, Rz.d, isOwn, setAll, isCal, gloCall, argsOf, cmpD, eqD, negD, binD, intOp, bltD, List.map_cons, List.map_nil, List.length_cons, List.length_nil, List.replicate_succ, List.replicate_zero, List.append_nil, List.cons_append, List.nil_append, List.getElem?_cons_zero, List.getElem?_cons_succ, List.set_cons_zero, List.set_cons_succ, Option.map_some, Option.map_none, Option.bind_some, Option.bind_none, if_true, if_false, reduceIte, Bool.false_eq_true, Bool.not_true, Bool.not_false, Nat.reduceAdd, Nat.reduceSub, Nat.sub_self, List.any_cons, List.any_nil, Bool.or_false, Bool.false_or, Bool.or_self, Bool.and_true, Bool.and_self, Bool.and_false, Bool.false_and, Bool.true_and, Nat.reduceLeDiff, Nat.reduceEqDiff, decide_true, decide_false, Bool.true_eq_false, reduceCtorEq, and_self, and_true, true_and, ne_eq, not_true_eq_false, not_false_eq_true, req_true, hp, l.gCM, l.pCM, hco, hsh, req_pos hs, lN, lD]
end
section
variable {G : Gx} (dr : HDr G) (k : Nat) (md : Md)
include dr
/-- a draw, its result and the purse behind it -/
theorem dr_ok (p : PU.Pu) (n : Nat) (hok : PU.Ok n p) (hn : n ≤ 1000000) (m : Int) (hm0 : 0 < m) (hm1 : m < 1073741824) : ∃ x p', Tn G (k + 1) md "_law_draw" [.own (puD p), .im (.int m)] = some (.im (.int x), [.own (puD p'), .im (.int m)]) ∧ PU.Ok (n + 1) p' ∧ 0 ≤ x ∧ x < m :=
  ⟨_, _, draw_ok dr.fDR k md p m n hok hn hm0 hm1, PU.draw_ok hok, PU.draw_bd hm0⟩
theorem great_ok (gr : HGr G) (p : PU.Pu) (n : Nat) (hok : PU.Ok n p) (hn : n ≤ 900000) : ∃ v p', Tn G (k + 2) md "_law_great" [.own (puD p)] = some (.im (.int v), [.own (puD p')]) ∧ PU.Ok (n + 3) p' ∧ v.natAbs ≤ 10 ^ 41 := by
  obtain ⟨x1, p1, d1, k1, r1⟩ := dr_ok dr k md p n hok (by omega) 7 (by decide) (by decide)
  obtain ⟨x2, p2, d2, k2, r2⟩ := dr_ok dr k md p1 _ k1 (by omega) 2 (by decide) (by decide)
  obtain ⟨x3, p3, d3, k3, r3⟩ := dr_ok dr k md p2 _ k2 (by omega) 60 (by decide) (by decide)
  have c3 : CPow 10 3 := ⟨by decide, by decide, by decide +kernel⟩
  have c9 : CPow 10 9 := ⟨by decide, by decide, by decide +kernel⟩
  have c20 : CPow 10 20 := ⟨by decide, by decide, by decide +kernel⟩
  have c39 : CPow 10 39 := ⟨by decide, by decide, by decide +kernel⟩
  have e3 : (10 : Int) ^ (3 : Int).toNat = 10 ^ 3 := rfl
  have e9 : (10 : Int) ^ (9 : Int).toNat = 10 ^ 9 := rfl
  have e20 : (10 : Int) ^ (20 : Int).toNat = 10 ^ 20 := rfl
  have e39 : (10 : Int) ^ (39 : Int).toNat = 10 ^ 39 := rfl
  have cd7 : CDiv 7 := cdiv_small (by decide) (by decide)
  have e7 : ∀ x : Int, x.fdiv 7 = x / 7 := fun x => fdiv_pos (by decide)
  obtain ⟨f, hf, f0, f1⟩ : ∃ f : Int, atI [D.int 1, .int 1, .int 10, .int (10 ^ 3), .int (10 ^ 9), .int (10 ^ 20), .int (10 ^ 39)] x1 = some (.int f) ∧ 1 ≤ f ∧ f ≤ 10 ^ 39 := by
    have : x1 = 0 ∨ x1 = 1 ∨ x1 = 2 ∨ x1 = 3 ∨ x1 = 4 ∨ x1 = 5 ∨ x1 = 6 := by omega
    rcases this with rfl | rfl | rfl | rfl | rfl | rfl | rfl
    · exact ⟨1, rfl, by decide, by decide⟩
    · exact ⟨1, rfl, by decide, by decide⟩
    · exact ⟨10, rfl, by decide, by decide⟩
    · exact ⟨10 ^ 3, rfl, by decide, by decide⟩
    · exact ⟨10 ^ 9, rfl, by decide, by decide⟩
    · exact ⟨10 ^ 20, rfl, by decide, by decide⟩
    · exact ⟨10 ^ 39, rfl, by decide, by decide⟩
  obtain ⟨s, hs, s1⟩ : ∃ s : Int, atI [D.int 1, .int (-1)] x2 = some (.int s) ∧ (s = 1 ∨ s = -1) := by
    have : x2 = 0 ∨ x2 = 1 := by omega
    rcases this with rfl | rfl
    · exact ⟨1, rfl, .inl rfl⟩
    · exact ⟨-1, rfl, .inr rfl⟩
  have q0 : 0 ≤ f / 7 + 1 ∧ f / 7 + 1 ≤ 10 ^ 39 := by omega
  have w0 : (f / 7 + 1).natAbs < 2 ^ 200 := Nat.lt_of_le_of_lt (by omega : (f / 7 + 1).natAbs ≤ 10 ^ 39) (by decide +kernel)
  have m1 : CMulW x3 (f / 7 + 1) := wide_mul (a := 200) (b := 200) (by omega) w0 (by decide) (by decide) (by decide)
  have b0 : 0 ≤ x3 * (f / 7 + 1) := Int.mul_nonneg r3.1 q0.1
  have b1 : x3 * (f / 7 + 1) ≤ 60 * 10 ^ 39 := Int.mul_le_mul (by omega) q0.2 q0.1 (by decide)
  have w1 : (f - 1 + x3 * (f / 7 + 1)).natAbs < 2 ^ 200 := Nat.lt_of_le_of_lt (by omega : (f - 1 + x3 * (f / 7 + 1)).natAbs ≤ 10 ^ 41) (by decide +kernel)
  have m2 : CMulW s (f - 1 + x3 * (f / 7 + 1)) := wide_mul (a := 200) (b := 200) (by omega) w1 (by decide) (by decide) (by decide)
  refine ⟨s * (f - 1 + x3 * (f / 7 + 1)), p3, ?_, k3, ?_⟩
  · rw [tn_run gr.fGR rfl]
    unfold cLawGreat
    dsimp only
    simp only [env0, evB, evC, ee, evs, ebs, ets, fin, bR, bA, bB, truD, backS, Rz.d, isOwn, setAll, isCal, gloCall, argsOf, cmpD, eqD, negD, binD, intOp, bltD, List.map_cons, List.map_nil, List.length_cons, List.length_nil, List.replicate_succ, List.replicate_zero, List.append_nil, List.cons_append, List.nil_append, List.getElem?_cons_zero, List.getElem?_cons_succ, List.set_cons_zero, List.set_cons_succ, Option.map_some, Option.map_none, Option.bind_some, Option.bind_none, if_true, if_false, reduceIte, Bool.false_eq_true, Bool.not_true, Bool.not_false, Nat.reduceAdd, Nat.reduceSub, Nat.sub_self, List.any_cons, List.any_nil, Bool.or_false, Bool.false_or, Bool.or_self, Bool.and_true, Bool.and_self, Bool.and_false, Bool.false_and, Bool.true_and, Nat.reduceLeDiff, Nat.reduceEqDiff, decide_true, decide_false, Bool.true_eq_false, reduceCtorEq, and_self, and_true, true_and, ne_eq, not_true_eq_false, not_false_eq_true, req_true, sub_l, dr.gDR, dr.fDR, cLawDraw, ownCall, d1, d2, d3, req_pos c3, e3, req_pos c9, e9, req_pos c20, e20, req_pos c39, e39, hf, hs, req_pos cd7, e7, req_pos m1, req_pos m2]
  · rcases s1 with rfl | rfl <;> omega
theorem sign_ok' (si : HSi G) (p : PU.Pu) (n : Nat) (hok : PU.Ok n p) (hn : n ≤ 900000) : ∃ c p', Tn G (k + 2) md "_law_sign_text" [.own (puD p)] = some (.im (.str ⟨#[c]⟩), [.own (puD p')]) ∧ PU.Ok (n + 1) p' ∧ c < 127 := by
  obtain ⟨x1, p1, d1, k1, r1⟩ := dr_ok dr k md p n hok (by omega) 93 (by decide) (by decide)
  have hl : signs.length = 93 := by decide +kernel
  have hz : signs.length ≤ sizeLine := by rw [hl, sizeLine_eq]; decide
  have hal : signs.cps.toList.all (fun c => decide (c < 127)) = true := by decide +kernel
  have hcl : signs.cps.toList.length = 93 := by decide +kernel
  have hg : signs.cps.toList[x1.toNat]? = some (signs.cps.toList[x1.toNat]'(by omega)) := List.getElem?_eq_getElem _
  have hc := List.all_eq_true.mp hal _ (List.getElem_mem (by omega : x1.toNat < signs.cps.toList.length))
  have ha : atI signs.cps.toList x1 = some (signs.cps.toList[x1.toNat]'(by omega)) := by
    have e : x1 = ((x1.toNat : Nat) : Int) := by omega
    have := atI_nat hg
    rw [← e] at this
    exact this
  have hs : subD (.str signs) (.int x1) = some (.str ⟨#[signs.cps.toList[x1.toNat]'(by omega)]⟩) := by
    simp only [subD, req_pos hz, ha, Option.map_some]
  have hn : ((signs.length : Nat) : Int) = 93 := by rw [hl]; rfl
  refine ⟨_, p1, ?_, k1, of_decide_eq_true hc⟩
  rw [tn_run si.fSI rfl]
  unfold cLawSignText
  dsimp only
  simp only [env0, evB, evC, ee, evs, ebs, ets, fin, bR, bA, bB, truD, backS, Rz.d, isOwn, setAll, isCal, gloCall, argsOf, cmpD, eqD, negD, binD, intOp, bltD, List.map_cons, List.map_nil, List.length_cons, List.length_nil, List.replicate_succ, List.replicate_zero, List.append_nil, List.cons_append, List.nil_append, List.getElem?_cons_zero, List.getElem?_cons_succ, List.set_cons_zero, List.set_cons_succ, Option.map_some, Option.map_none, Option.bind_some, Option.bind_none, if_true, if_false, reduceIte, Bool.false_eq_true, Bool.not_true, Bool.not_false, Nat.reduceAdd, Nat.reduceSub, Nat.sub_self, List.any_cons, List.any_nil, Bool.or_false, Bool.false_or, Bool.or_self, Bool.and_true, Bool.and_self, Bool.and_false, Bool.false_and, Bool.true_and, Nat.reduceLeDiff, Nat.reduceEqDiff, decide_true, decide_false, Bool.true_eq_false, reduceCtorEq, and_self, and_true, true_and, ne_eq, not_true_eq_false, not_false_eq_true, req_true, dr.gDR, dr.fDR, cLawDraw, ownCall, d1, req_pos hz, hn, hs]
end
end RE
set_option Elab.async false
set_option linter.all false
set_option maxRecDepth 100000
set_option autoImplicit false
set_option maxHeartbeats 1000000
set_option exponentiation.threshold 20000
/-! LO: _law_odd, read. -/
namespace RE
open PySem L2 TL MA
def cLawOdd : Fc := { ps := ["_law_q", "_law_deep"], N := ["_law_q", "_law_deep", "_law_way", "_law_one"], po := true, body := [.set 2 (.callO "_law_draw" 0 [.int 14]),
    .ifs (.cmp .Lt (.var 2) (.int 6)) [.ret (.sub (.lst [.non, .bl true, .bl false, .str "", .int 1, .int 0]) (.var 2))] [],
    .ifs (.cmp .Eq (.var 2) (.int 6)) [.ret (.callO "_law_great" 0 [])] [],
    .ifs (.cmp .Eq (.var 2) (.int 7)) [.ret (.bin .Add (.callO "_law_sign_text" 0 []) (.bin .Mult (.callO "_law_sign_text" 0 []) (.callO "_law_draw" 0 [.int 3])))] [],
    .ifs (.cmp .Eq (.var 2) (.int 8)) [.ret (.call "Ratio" [.bin .Sub (.callO "_law_draw" 0 [.int 9]) (.int 4), .bin .Add (.int 1) (.callO "_law_draw" 0 [.int 3])] [] [])] [],
    .ifs (.bop false [.cmp .Eq (.var 2) (.int 9), .cmp .Lt (.var 1) (.int 1)]) [.ret (.sub (.lst [.tup [], .lst [], .dct [] []]) (.callO "_law_draw" 0 [.int 3]))] [],
    .set 3 (.callO "_law_odd" 0 [.bin .Sub (.var 1) (.int 1)]),
    .ifs (.cmp .Eq (.var 2) (.int 10)) [.ret (.tup [.var 3])] [],
    .ifs (.cmp .Eq (.var 2) (.int 11)) [.ret (.lst [.var 3])] [],
    .ifs (.cmp .Eq (.var 2) (.int 12)) [.ret (.tup [.var 3, .callO "_law_odd" 0 [.bin .Sub (.var 1) (.int 1)]])] [],
    .ret (.dct ["a"] [.var 3])] }
structure HOd (G : Gx) : Prop where
  dr : HDr G
  gr : HGr G
  si : HSi G
  fOD : G.fns "_law_odd" = some cLawOdd
  gOD : G.glo "_law_odd" = some (.fn "_law_odd")
  p3 : G.pat "Ratio.__init__" 3 [] = some [.inl 0, .inl 1, .inl 2]
theorem ownCall_d {r : Rz} {d : D} (h : r.d = some d) (oc : OC) (l : List S) (i : Nat) (δ : TL.Env) : ownCall (some (r, .own oc :: l)) i δ = some (.im d, δ.set i (some (.own oc))) := by
  cases r with
  | im x => cases h; rfl
  | fr xs => cases h; rfl
  | ex x => cases h
theorem int_ok {A : Addr} {v : Int} (h : v.natAbs ≤ 10 ^ 41) : Odd A (.int v) := by
  simp only [Odd]
  exact Nat.lt_of_le_of_lt h (by decide +kernel)
/-- a value of any kind: what is known of it -/
structure Odv (A : Addr) (m : Nat) (d : D) : Prop where
  o : Odd A d
  p : dpD d ≤ m + 1
  l : lnD d ≤ 2100 * 3 ^ m
theorem reps_len (a : Str) (n : Nat) : (reps a n).length = n * a.length := by
  have key : ∀ (l : List (Array Nat)) (acc : Array Nat), (l.foldl (· ++ ·) acc).size = acc.size + (l.map Array.size).sum := by
    intro l
    induction l with
    | nil => intro acc; simp
    | cons x l ih => intro acc; simp only [List.foldl_cons, ih, Array.size_append, List.map_cons, List.sum_cons]; omega
  show ((List.replicate n a.cps).foldl (· ++ ·) #[]).size = _
  rw [key]
  simp [List.map_replicate, List.sum_replicate_nat, Str.length]
theorem reps_mem (a : Str) (n : Nat) : ∀ c ∈ (reps a n).cps.toList, c ∈ a.cps.toList := by
  have key : ∀ (l : List (Array Nat)) (acc : Array Nat), ∀ c ∈ (l.foldl (· ++ ·) acc).toList, c ∈ acc.toList ∨ ∃ x ∈ l, c ∈ x.toList := by
    intro l
    induction l with
    | nil => intro acc c h; exact .inl h
    | cons x l ih =>
      intro acc c h
      rcases ih (acc ++ x) c h with h | ⟨y, hy, h⟩
      · rw [Array.toList_append] at h
        rcases List.mem_append.mp h with h | h
        · exact .inl h
        · exact .inr ⟨x, List.mem_cons_self .., h⟩
      · exact .inr ⟨y, List.mem_cons_of_mem _ hy, h⟩
  intro c hc
  rcases key _ _ c hc with h | ⟨y, hy, h⟩
  · cases h
  · rw [(List.mem_replicate.mp hy).2] at h; exact h
theorem ok_one {c : Nat} (h : c < 127) : PyData.strOk ⟨#[c]⟩ = true := by
  rw [ok_iff]
  intro z hz
  have : z = c := by simpa using hz
  omega
theorem ok_reps {c n : Nat} (h : c < 127) : PyData.strOk (reps ⟨#[c]⟩ n) = true := by
  rw [ok_iff]
  intro z hz
  have := reps_mem _ _ z hz
  have : z = c := by simpa using this
  omega
section
variable {G : Gx} {A : Addr} (h : HRat G A) (od : HOd G) (K : Nat) (md : Md) (hcm : md.calm = true)
include h od hcm
theorem odd_body (deep : Int) (m : Nat) (hd : 1 ≤ deep → ∀ p n, PU.Ok n p → n + 5 * 3 ^ m + 10 ≤ 900000 → ∃ r d p', Tn G (K + 2) md "_law_odd" [.own (puD p), .im (.int (deep - 1))] = some (r, [.own (puD p'), .im (.int (deep - 1))]) ∧ r.d = some d ∧ Odv A m d ∧ PU.Ok (n + 5 * 3 ^ m) p') (p : PU.Pu) (n : Nat) (hok : PU.Ok n p) (hn0 : n + 10 ≤ 900000) (hn : 1 ≤ deep → n + 5 * 3 ^ (m + 1) + 10 ≤ 900000) :
    ∃ r d p', Tn G (K + 3) md "_law_odd" [.own (puD p), .im (.int deep)] = some (r, [.own (puD p'), .im (.int deep)]) ∧ r.d = some d ∧ Odv A (m + 1) d ∧ PU.Ok (n + 5 * 3 ^ (m + 1)) p' ∧ (deep < 1 → Odv A 0 d ∧ PU.Ok (n + 5) p') := by
  have e3 : 3 ^ (m + 1) = 3 * 3 ^ m := by rw [Nat.pow_succ]; omega
  have p3 : 1 ≤ 3 ^ m := Nat.one_le_pow _ _ (by decide)
  obtain ⟨x1, p1, d1, k1, r1⟩ := dr_ok od.dr (K + 1) md p n hok (by omega) 14 (by decide) (by decide)
  rw [tn_run od.fOD rfl]
  unfold cLawOdd
  dsimp only
  rw [evB_nx (δ1 := [some (.own (puD p1)), some (.im (.int deep)), some (.im (.int x1)), none]) ?h]
  case h => simp only [env0, evB, evC, ee, evs, ebs, ets, fin, bR, bA, bB, truD, backS, Rz.d, isOwn, setAll, isCal, gloCall, argsOf, cmpD, eqD, negD, binD, intOp, bltD, List.map_cons, List.map_nil, List.length_cons, List.length_nil, List.replicate_succ, List.replicate_zero, List.append_nil, List.cons_append, List.nil_append, List.getElem?_cons_zero, List.getElem?_cons_succ, List.set_cons_zero, List.set_cons_succ, Option.map_some, Option.map_none, Option.bind_some, Option.bind_none, if_true, if_false, reduceIte, Bool.false_eq_true, Bool.not_true, Bool.not_false, Nat.reduceAdd, Nat.reduceSub, Nat.sub_self, List.any_cons, List.any_nil, Bool.or_false, Bool.false_or, Bool.or_self, Bool.and_true, Bool.and_self, Bool.and_false, Bool.false_and, Bool.true_and, Nat.reduceLeDiff, Nat.reduceEqDiff, decide_true, decide_false, Bool.true_eq_false, reduceCtorEq, and_self, and_true, true_and, ne_eq, not_true_eq_false, not_false_eq_true, req_true, od.dr.gDR, od.dr.fDR, cLawDraw, ownCall, d1]
  have lf : ∀ {d : D}, Odd A d → dpD d ≤ 1 → lnD d ≤ 2100 → ∀ j, Odv A j d := fun {d} a b c j => ⟨a, by omega, by have : 1 ≤ 3 ^ j := Nat.one_le_pow _ _ (by decide); omega⟩
  by_cases w6 : x1 < 6
  · obtain ⟨d, hd, ho⟩ : ∃ d, subD (.lst [.non, .bl true, .bl false, .str "", .int 1, .int 0]) (.int x1) = some d ∧ ∀ j, Odv A j d := by
      have : x1 = 0 ∨ x1 = 1 ∨ x1 = 2 ∨ x1 = 3 ∨ x1 = 4 ∨ x1 = 5 := by omega
      have e0 : ∀ v : Int, v.natAbs ≤ 1 → Odd A (.int v) := fun v hv => int_ok (Nat.le_trans hv (by decide +kernel))
      rcases this with rfl | rfl | rfl | rfl | rfl | rfl
      · exact ⟨_, rfl, lf (by simp only [Odd]) (by simp only [dpD]; omega) (by simp only [lnD]; omega)⟩
      · exact ⟨_, rfl, lf (by simp only [Odd]) (by simp only [dpD]; omega) (by simp only [lnD]; omega)⟩
      · exact ⟨_, rfl, lf (by simp only [Odd]) (by simp only [dpD]; omega) (by simp only [lnD]; omega)⟩
      · exact ⟨_, rfl, lf (by simp only [Odd]; exact ⟨ok_ofS _, by decide⟩) (by simp only [dpD]; omega) (by simp only [lnD]; decide)⟩
      · exact ⟨_, rfl, lf (e0 _ (by decide)) (by simp only [dpD]; omega) (by simp only [lnD]; omega)⟩
      · exact ⟨_, rfl, lf (e0 _ (by decide)) (by simp only [dpD]; omega) (by simp only [lnD]; omega)⟩
    refine ⟨.im d, d, p1, ?_, rfl, ho _, Ok_mono k1 (by omega), fun _ => ⟨ho _, Ok_mono k1 (by omega)⟩⟩
    simp only [env0, evB, evC, ee, evs, ebs, ets, fin, bR, bA, bB, truD, backS, Rz.d, isOwn, setAll, isCal, gloCall, argsOf, cmpD, eqD, negD, binD, intOp, bltD, List.map_cons, List.map_nil, List.length_cons, List.length_nil, List.replicate_succ, List.replicate_zero, List.append_nil, List.cons_append, List.nil_append, List.getElem?_cons_zero, List.getElem?_cons_succ, List.set_cons_zero, List.set_cons_succ, Option.map_some, Option.map_none, Option.bind_some, Option.bind_none, if_true, if_false, reduceIte, Bool.false_eq_true, Bool.not_true, Bool.not_false, Nat.reduceAdd, Nat.reduceSub, Nat.sub_self, List.any_cons, List.any_nil, Bool.or_false, Bool.false_or, Bool.or_self, Bool.and_true, Bool.and_self, Bool.and_false, Bool.false_and, Bool.true_and, Nat.reduceLeDiff, Nat.reduceEqDiff, decide_true, decide_false, Bool.true_eq_false, reduceCtorEq, and_self, and_true, true_and, ne_eq, not_true_eq_false, not_false_eq_true, req_true, w6, hd]
  rw [evB_nx (δ1 := [some (.own (puD p1)), some (.im (.int deep)), some (.im (.int x1)), none]) ?h]
  case h => simp only [env0, evB, evC, ee, evs, ebs, ets, fin, bR, bA, bB, truD, backS, Rz.d, isOwn, setAll, isCal, gloCall, argsOf, cmpD, eqD, negD, binD, intOp, bltD, List.map_cons, List.map_nil, List.length_cons, List.length_nil, List.replicate_succ, List.replicate_zero, List.append_nil, List.cons_append, List.nil_append, List.getElem?_cons_zero, List.getElem?_cons_succ, List.set_cons_zero, List.set_cons_succ, Option.map_some, Option.map_none, Option.bind_some, Option.bind_none, if_true, if_false, reduceIte, Bool.false_eq_true, Bool.not_true, Bool.not_false, Nat.reduceAdd, Nat.reduceSub, Nat.sub_self, List.any_cons, List.any_nil, Bool.or_false, Bool.false_or, Bool.or_self, Bool.and_true, Bool.and_self, Bool.and_false, Bool.false_and, Bool.true_and, Nat.reduceLeDiff, Nat.reduceEqDiff, decide_true, decide_false, Bool.true_eq_false, reduceCtorEq, and_self, and_true, true_and, ne_eq, not_true_eq_false, not_false_eq_true, req_true, w6]
  by_cases w7 : x1 = 6
  · obtain ⟨v, p2, d2, k2, r2⟩ := great_ok od.dr K md od.gr p1 _ k1 (by omega)
    refine ⟨.im (.int v), .int v, p2, ?_, rfl, lf (int_ok r2) (by simp only [dpD]; omega) (by simp only [lnD]; omega) _, Ok_mono k2 (by omega), fun _ => ⟨lf (int_ok r2) (by simp only [dpD]; omega) (by simp only [lnD]; omega) _, Ok_mono k2 (by omega)⟩⟩
    simp only [env0, evB, evC, ee, evs, ebs, ets, fin, bR, bA, bB, truD, backS, Rz.d, isOwn, setAll, isCal, gloCall, argsOf, cmpD, eqD, negD, binD, intOp, bltD, List.map_cons, List.map_nil, List.length_cons, List.length_nil, List.replicate_succ, List.replicate_zero, List.append_nil, List.cons_append, List.nil_append, List.getElem?_cons_zero, List.getElem?_cons_succ, List.set_cons_zero, List.set_cons_succ, Option.map_some, Option.map_none, Option.bind_some, Option.bind_none, if_true, if_false, reduceIte, Bool.false_eq_true, Bool.not_true, Bool.not_false, Nat.reduceAdd, Nat.reduceSub, Nat.sub_self, List.any_cons, List.any_nil, Bool.or_false, Bool.false_or, Bool.or_self, Bool.and_true, Bool.and_self, Bool.and_false, Bool.false_and, Bool.true_and, Nat.reduceLeDiff, Nat.reduceEqDiff, decide_true, decide_false, Bool.true_eq_false, reduceCtorEq, and_self, and_true, true_and, ne_eq, not_true_eq_false, not_false_eq_true, req_true, w7, od.gr.gGR, od.gr.fGR, cLawGreat, ownCall, d2]
  rw [evB_nx (δ1 := [some (.own (puD p1)), some (.im (.int deep)), some (.im (.int x1)), none]) ?h]
  case h => simp only [env0, evB, evC, ee, evs, ebs, ets, fin, bR, bA, bB, truD, backS, Rz.d, isOwn, setAll, isCal, gloCall, argsOf, cmpD, eqD, negD, binD, intOp, bltD, List.map_cons, List.map_nil, List.length_cons, List.length_nil, List.replicate_succ, List.replicate_zero, List.append_nil, List.cons_append, List.nil_append, List.getElem?_cons_zero, List.getElem?_cons_succ, List.set_cons_zero, List.set_cons_succ, Option.map_some, Option.map_none, Option.bind_some, Option.bind_none, if_true, if_false, reduceIte, Bool.false_eq_true, Bool.not_true, Bool.not_false, Nat.reduceAdd, Nat.reduceSub, Nat.sub_self, List.any_cons, List.any_nil, Bool.or_false, Bool.false_or, Bool.or_self, Bool.and_true, Bool.and_self, Bool.and_false, Bool.false_and, Bool.true_and, Nat.reduceLeDiff, Nat.reduceEqDiff, decide_true, decide_false, Bool.true_eq_false, reduceCtorEq, and_self, and_true, true_and, ne_eq, not_true_eq_false, not_false_eq_true, req_true, w7]
  by_cases w8 : x1 = 7
  · obtain ⟨c2, p2, d2, k2, r2⟩ := sign_ok' od.dr K md od.si p1 _ k1 (by omega)
    obtain ⟨c3, p3, d3, k3, r3⟩ := sign_ok' od.dr K md od.si p2 _ k2 (by omega)
    obtain ⟨x4, p4, d4, k4, r4⟩ := dr_ok od.dr (K + 1) md p3 _ k3 (by omega) 3 (by decide) (by decide)
    have l2 : (⟨#[c2]⟩ : Str).length = 1 := rfl
    have l3 : (⟨#[c3]⟩ : Str).length = 1 := rfl
    have q1 : 0 ≤ x4 ∧ x4 ≤ 1000 ∧ (⟨#[c3]⟩ : Str).length ≤ 1000 := ⟨by omega, by omega, by omega⟩
    have lr : (reps ⟨#[c3]⟩ x4.toNat).length ≤ 3 := by rw [reps_len, l3]; omega
    have q2 : (⟨#[c2]⟩ : Str).length + (reps ⟨#[c3]⟩ x4.toNat).length ≤ sizeLine := by rw [sizeLine_eq]; omega
    have ho : ∀ j, Odv A j (.str (⟨#[c2]⟩ ++ reps ⟨#[c3]⟩ x4.toNat)) := lf (by simp only [Odd]; exact ⟨ok_app _ _ (ok_one r2) (ok_reps r3), by rw [app_len]; omega⟩) (by simp only [dpD]; omega) (by simp only [lnD]; rw [app_len]; omega)
    refine ⟨.im (.str (⟨#[c2]⟩ ++ reps ⟨#[c3]⟩ x4.toNat)), .str (⟨#[c2]⟩ ++ reps ⟨#[c3]⟩ x4.toNat), p4, ?_, rfl, ho _, Ok_mono k4 (by omega), fun _ => ⟨ho _, Ok_mono k4 (by omega)⟩⟩
    simp only [env0, evB, evC, ee, evs, ebs, ets, fin, bR, bA, bB, truD, backS, Rz.d, isOwn, setAll, isCal, gloCall, argsOf, cmpD, eqD, negD, binD, intOp, bltD, List.map_cons, List.map_nil, List.length_cons, List.length_nil, List.replicate_succ, List.replicate_zero, List.append_nil, List.cons_append, List.nil_append, List.getElem?_cons_zero, List.getElem?_cons_succ, List.set_cons_zero, List.set_cons_succ, Option.map_some, Option.map_none, Option.bind_some, Option.bind_none, if_true, if_false, reduceIte, Bool.false_eq_true, Bool.not_true, Bool.not_false, Nat.reduceAdd, Nat.reduceSub, Nat.sub_self, List.any_cons, List.any_nil, Bool.or_false, Bool.false_or, Bool.or_self, Bool.and_true, Bool.and_self, Bool.and_false, Bool.false_and, Bool.true_and, Nat.reduceLeDiff, Nat.reduceEqDiff, decide_true, decide_false, Bool.true_eq_false, reduceCtorEq, and_self, and_true, true_and, ne_eq, not_true_eq_false, not_false_eq_true, req_true, w8, od.si.gSI, od.si.fSI, cLawSignText, od.dr.gDR, od.dr.fDR, cLawDraw, ownCall, d2, d3, d4, req_pos q1, req_pos q2]
  rw [evB_nx (δ1 := [some (.own (puD p1)), some (.im (.int deep)), some (.im (.int x1)), none]) ?h]
  case h => simp only [env0, evB, evC, ee, evs, ebs, ets, fin, bR, bA, bB, truD, backS, Rz.d, isOwn, setAll, isCal, gloCall, argsOf, cmpD, eqD, negD, binD, intOp, bltD, List.map_cons, List.map_nil, List.length_cons, List.length_nil, List.replicate_succ, List.replicate_zero, List.append_nil, List.cons_append, List.nil_append, List.getElem?_cons_zero, List.getElem?_cons_succ, List.set_cons_zero, List.set_cons_succ, Option.map_some, Option.map_none, Option.bind_some, Option.bind_none, if_true, if_false, reduceIte, Bool.false_eq_true, Bool.not_true, Bool.not_false, Nat.reduceAdd, Nat.reduceSub, Nat.sub_self, List.any_cons, List.any_nil, Bool.or_false, Bool.false_or, Bool.or_self, Bool.and_true, Bool.and_self, Bool.and_false, Bool.false_and, Bool.true_and, Nat.reduceLeDiff, Nat.reduceEqDiff, decide_true, decide_false, Bool.true_eq_false, reduceCtorEq, and_self, and_true, true_and, ne_eq, not_true_eq_false, not_false_eq_true, req_true, w8]
  by_cases w9 : x1 = 8
  · obtain ⟨x2, p2, d2, k2, r2⟩ := dr_ok od.dr (K + 1) md p1 _ k1 (by omega) 9 (by decide) (by decide)
    obtain ⟨x3, p3, d3, k3, r3⟩ := dr_ok od.dr (K + 1) md p2 _ k2 (by omega) 3 (by decide) (by decide)
    have hb : (1 + x3) ≠ 0 := by omega
    have z : (1 + x3).natAbs < 2 ^ 10 := by omega
    have z2 : (x2 - 4).natAbs < 2 ^ 10 := by omega
    have hz : (1 + x3).natAbs < 2 ^ 9000 := lt9000 (lt2 z (by decide))
    have mk := make_ok h K md hcm (x2 - 4) (1 + x3) hb hz
    have ho : ∀ j, Odv A j (rat A (lN (x2 - 4) (1 + x3)) (lD (x2 - 4) (1 + x3))) := lf (odd_rat (lt2 (Nat.lt_of_le_of_lt (lN_le _ _) z2) (by decide)) (lt2 (Nat.lt_of_le_of_lt (lD_le _ _) z) (by decide)) (lD_pos hb) (l_coprime hb)) (by unfold rat; simp only [dpD]; omega) (by unfold rat; simp only [lnD]; omega)
    refine ⟨.im (rat A (lN (x2 - 4) (1 + x3)) (lD (x2 - 4) (1 + x3))), _, p3, ?_, rfl, ho _, Ok_mono k3 (by omega), fun _ => ⟨ho _, Ok_mono k3 (by omega)⟩⟩
    simp only [env0, evB, evC, ee, evs, ebs, ets, fin, bR, bA, bB, truD, backS, Rz.d, isOwn, setAll, isCal, gloCall, argsOf, cmpD, eqD, negD, binD, intOp, bltD, List.map_cons, List.map_nil, List.length_cons, List.length_nil, List.replicate_succ, List.replicate_zero, List.append_nil, List.cons_append, List.nil_append, List.getElem?_cons_zero, List.getElem?_cons_succ, List.set_cons_zero, List.set_cons_succ, Option.map_some, Option.map_none, Option.bind_some, Option.bind_none, if_true, if_false, reduceIte, Bool.false_eq_true, Bool.not_true, Bool.not_false, Nat.reduceAdd, Nat.reduceSub, Nat.sub_self, List.any_cons, List.any_nil, Bool.or_false, Bool.false_or, Bool.or_self, Bool.and_true, Bool.and_self, Bool.and_false, Bool.false_and, Bool.true_and, Nat.reduceLeDiff, Nat.reduceEqDiff, decide_true, decide_false, Bool.true_eq_false, reduceCtorEq, and_self, and_true, true_and, ne_eq, not_true_eq_false, not_false_eq_true, req_true, w9, od.dr.gDR, od.dr.fDR, cLawDraw, ownCall, d2, d3, h.gRA, od.p3, behind, mk]
  rw [evB_nx (δ1 := [some (.own (puD p1)), some (.im (.int deep)), some (.im (.int x1)), none]) ?h]
  case h => simp only [env0, evB, evC, ee, evs, ebs, ets, fin, bR, bA, bB, truD, backS, Rz.d, isOwn, setAll, isCal, gloCall, argsOf, cmpD, eqD, negD, binD, intOp, bltD, List.map_cons, List.map_nil, List.length_cons, List.length_nil, List.replicate_succ, List.replicate_zero, List.append_nil, List.cons_append, List.nil_append, List.getElem?_cons_zero, List.getElem?_cons_succ, List.set_cons_zero, List.set_cons_succ, Option.map_some, Option.map_none, Option.bind_some, Option.bind_none, if_true, if_false, reduceIte, Bool.false_eq_true, Bool.not_true, Bool.not_false, Nat.reduceAdd, Nat.reduceSub, Nat.sub_self, List.any_cons, List.any_nil, Bool.or_false, Bool.false_or, Bool.or_self, Bool.and_true, Bool.and_self, Bool.and_false, Bool.false_and, Bool.true_and, Nat.reduceLeDiff, Nat.reduceEqDiff, decide_true, decide_false, Bool.true_eq_false, reduceCtorEq, and_self, and_true, true_and, ne_eq, not_true_eq_false, not_false_eq_true, req_true, w9]
  by_cases w10 : x1 = 9 ∨ deep < 1
  · obtain ⟨x2, p2, d2, k2, r2⟩ := dr_ok od.dr (K + 1) md p1 _ k1 (by omega) 3 (by decide) (by decide)
    obtain ⟨d, hd, ho⟩ : ∃ d, subD (.lst [.tup [], .lst [], .dct [] []]) (.int x2) = some d ∧ ∀ j, Odv A j d := by
      have : x2 = 0 ∨ x2 = 1 ∨ x2 = 2 := by omega
      rcases this with rfl | rfl | rfl
      · exact ⟨_, rfl, lf (by simp only [Odd, Odds]) (by simp only [dpD, dpDs]; omega) (by simp only [lnD, lnDs]; omega)⟩
      · exact ⟨_, rfl, lf (by simp only [Odd, Odds]) (by simp only [dpD, dpDs]; omega) (by simp only [lnD, lnDs]; omega)⟩
      · exact ⟨_, rfl, lf (by simp only [Odd, Odds]; exact ⟨rfl, fun k (hk : k ∈ []) => (List.not_mem_nil hk).elim, trivial⟩) (by simp only [dpD, dpDs]; omega) (by simp only [lnD, lnDs, List.length_nil]; omega)⟩
    refine ⟨.im d, d, p2, ?_, rfl, ho _, Ok_mono k2 (by omega), fun _ => ⟨ho _, Ok_mono k2 (by omega)⟩⟩
    by_cases w : x1 = 9
    · simp only [env0, evB, evC, ee, evs, ebs, ets, fin, bR, bA, bB, truD, backS, Rz.d, isOwn, setAll, isCal, gloCall, argsOf, cmpD, eqD, negD, binD, intOp, bltD, List.map_cons, List.map_nil, List.length_cons, List.length_nil, List.replicate_succ, List.replicate_zero, List.append_nil, List.cons_append, List.nil_append, List.getElem?_cons_zero, List.getElem?_cons_succ, List.set_cons_zero, List.set_cons_succ, Option.map_some, Option.map_none, Option.bind_some, Option.bind_none, if_true, if_false, reduceIte, Bool.false_eq_true, Bool.not_true, Bool.not_false, Nat.reduceAdd, Nat.reduceSub, Nat.sub_self, List.any_cons, List.any_nil, Bool.or_false, Bool.false_or, Bool.or_self, Bool.and_true, Bool.and_self, Bool.and_false, Bool.false_and, Bool.true_and, Nat.reduceLeDiff, Nat.reduceEqDiff, decide_true, decide_false, Bool.true_eq_false, reduceCtorEq, and_self, and_true, true_and, ne_eq, not_true_eq_false, not_false_eq_true, req_true, w, od.dr.gDR, od.dr.fDR, cLawDraw, ownCall, d2, hd, List.nodup_nil, List.nodup_cons, List.not_mem_nil]
    · have w' : deep < 1 := by omega
      simp only [env0, evB, evC, ee, evs, ebs, ets, fin, bR, bA, bB, truD, backS, Rz.d, isOwn, setAll, isCal, gloCall, argsOf, cmpD, eqD, negD, binD, intOp, bltD, List.map_cons, List.map_nil, List.length_cons, List.length_nil, List.replicate_succ, List.replicate_zero, List.append_nil, List.cons_append, List.nil_append, List.getElem?_cons_zero, List.getElem?_cons_succ, List.set_cons_zero, List.set_cons_succ, Option.map_some, Option.map_none, Option.bind_some, Option.bind_none, if_true, if_false, reduceIte, Bool.false_eq_true, Bool.not_true, Bool.not_false, Nat.reduceAdd, Nat.reduceSub, Nat.sub_self, List.any_cons, List.any_nil, Bool.or_false, Bool.false_or, Bool.or_self, Bool.and_true, Bool.and_self, Bool.and_false, Bool.false_and, Bool.true_and, Nat.reduceLeDiff, Nat.reduceEqDiff, decide_true, decide_false, Bool.true_eq_false, reduceCtorEq, and_self, and_true, true_and, ne_eq, not_true_eq_false, not_false_eq_true, req_true, w, w', od.dr.gDR, od.dr.fDR, cLawDraw, ownCall, d2, hd, List.nodup_nil, List.nodup_cons, List.not_mem_nil]
  have wa : ¬ x1 = 9 := fun e => w10 (.inl e)
  have wb : ¬ deep < 1 := fun e => w10 (.inr e)
  rw [evB_nx (δ1 := [some (.own (puD p1)), some (.im (.int deep)), some (.im (.int x1)), none]) ?h]
  case h => simp only [env0, evB, evC, ee, evs, ebs, ets, fin, bR, bA, bB, truD, backS, Rz.d, isOwn, setAll, isCal, gloCall, argsOf, cmpD, eqD, negD, binD, intOp, bltD, List.map_cons, List.map_nil, List.length_cons, List.length_nil, List.replicate_succ, List.replicate_zero, List.append_nil, List.cons_append, List.nil_append, List.getElem?_cons_zero, List.getElem?_cons_succ, List.set_cons_zero, List.set_cons_succ, Option.map_some, Option.map_none, Option.bind_some, Option.bind_none, if_true, if_false, reduceIte, Bool.false_eq_true, Bool.not_true, Bool.not_false, Nat.reduceAdd, Nat.reduceSub, Nat.sub_self, List.any_cons, List.any_nil, Bool.or_false, Bool.false_or, Bool.or_self, Bool.and_true, Bool.and_self, Bool.and_false, Bool.false_and, Bool.true_and, Nat.reduceLeDiff, Nat.reduceEqDiff, decide_true, decide_false, Bool.true_eq_false, reduceCtorEq, and_self, and_true, true_and, ne_eq, not_true_eq_false, not_false_eq_true, req_true, wa, wb]
  obtain ⟨r2, y2, p2, d2, e2, o2, k2⟩ := hd (by omega) p1 _ k1 (by omega)
  have oc2 := fun (δ : TL.Env) l => ownCall_d e2 (puD p2) l 0 δ
  rw [evB_nx (δ1 := [some (.own (puD p2)), some (.im (.int deep)), some (.im (.int x1)), some (.im y2)]) ?h]
  case h => simp only [env0, evB, evC, ee, evs, ebs, ets, fin, bR, bA, bB, truD, backS, Rz.d, isOwn, setAll, isCal, gloCall, argsOf, cmpD, eqD, negD, binD, intOp, bltD, List.map_cons, List.map_nil, List.length_cons, List.length_nil, List.replicate_succ, List.replicate_zero, List.append_nil, List.cons_append, List.nil_append, List.getElem?_cons_zero, List.getElem?_cons_succ, List.set_cons_zero, List.set_cons_succ, Option.map_some, Option.map_none, Option.bind_some, Option.bind_none, if_true, if_false, reduceIte, Bool.false_eq_true, Bool.not_true, Bool.not_false, Nat.reduceAdd, Nat.reduceSub, Nat.sub_self, List.any_cons, List.any_nil, Bool.or_false, Bool.false_or, Bool.or_self, Bool.and_true, Bool.and_self, Bool.and_false, Bool.false_and, Bool.true_and, Nat.reduceLeDiff, Nat.reduceEqDiff, decide_true, decide_false, Bool.true_eq_false, reduceCtorEq, and_self, and_true, true_and, ne_eq, not_true_eq_false, not_false_eq_true, req_true, od.gOD, od.fOD, cLawOdd, d2, oc2]
  by_cases w11 : x1 = 10
  · refine ⟨.im (.tup [y2]), .tup [y2], p2, ?_, rfl, ⟨by simp only [Odd, Odds]; exact ⟨o2.o, trivial⟩, by simp only [dpD, dpDs]; have := o2.p; omega, by simp only [lnD, lnDs]; have := o2.l; omega⟩, Ok_mono k2 (by omega), fun z => absurd z wb⟩
    simp only [env0, evB, evC, ee, evs, ebs, ets, fin, bR, bA, bB, truD, backS, Rz.d, isOwn, setAll, isCal, gloCall, argsOf, cmpD, eqD, negD, binD, intOp, bltD, List.map_cons, List.map_nil, List.length_cons, List.length_nil, List.replicate_succ, List.replicate_zero, List.append_nil, List.cons_append, List.nil_append, List.getElem?_cons_zero, List.getElem?_cons_succ, List.set_cons_zero, List.set_cons_succ, Option.map_some, Option.map_none, Option.bind_some, Option.bind_none, if_true, if_false, reduceIte, Bool.false_eq_true, Bool.not_true, Bool.not_false, Nat.reduceAdd, Nat.reduceSub, Nat.sub_self, List.any_cons, List.any_nil, Bool.or_false, Bool.false_or, Bool.or_self, Bool.and_true, Bool.and_self, Bool.and_false, Bool.false_and, Bool.true_and, Nat.reduceLeDiff, Nat.reduceEqDiff, decide_true, decide_false, Bool.true_eq_false, reduceCtorEq, and_self, and_true, true_and, ne_eq, not_true_eq_false, not_false_eq_true, req_true, w11]
  rw [evB_nx (δ1 := [some (.own (puD p2)), some (.im (.int deep)), some (.im (.int x1)), some (.im y2)]) ?h]
  case h => simp only [env0, evB, evC, ee, evs, ebs, ets, fin, bR, bA, bB, truD, backS, Rz.d, isOwn, setAll, isCal, gloCall, argsOf, cmpD, eqD, negD, binD, intOp, bltD, List.map_cons, List.map_nil, List.length_cons, List.length_nil, List.replicate_succ, List.replicate_zero, List.append_nil, List.cons_append, List.nil_append, List.getElem?_cons_zero, List.getElem?_cons_succ, List.set_cons_zero, List.set_cons_succ, Option.map_some, Option.map_none, Option.bind_some, Option.bind_none, if_true, if_false, reduceIte, Bool.false_eq_true, Bool.not_true, Bool.not_false, Nat.reduceAdd, Nat.reduceSub, Nat.sub_self, List.any_cons, List.any_nil, Bool.or_false, Bool.false_or, Bool.or_self, Bool.and_true, Bool.and_self, Bool.and_false, Bool.false_and, Bool.true_and, Nat.reduceLeDiff, Nat.reduceEqDiff, decide_true, decide_false, Bool.true_eq_false, reduceCtorEq, and_self, and_true, true_and, ne_eq, not_true_eq_false, not_false_eq_true, req_true, w11]
  by_cases w12 : x1 = 11
  · refine ⟨.fr [y2], .lst [y2], p2, ?_, rfl, ⟨by simp only [Odd, Odds]; exact ⟨o2.o, trivial⟩, by simp only [dpD, dpDs]; have := o2.p; omega, by simp only [lnD, lnDs]; have := o2.l; omega⟩, Ok_mono k2 (by omega), fun z => absurd z wb⟩
    simp only [env0, evB, evC, ee, evs, ebs, ets, fin, bR, bA, bB, truD, backS, Rz.d, isOwn, setAll, isCal, gloCall, argsOf, cmpD, eqD, negD, binD, intOp, bltD, List.map_cons, List.map_nil, List.length_cons, List.length_nil, List.replicate_succ, List.replicate_zero, List.append_nil, List.cons_append, List.nil_append, List.getElem?_cons_zero, List.getElem?_cons_succ, List.set_cons_zero, List.set_cons_succ, Option.map_some, Option.map_none, Option.bind_some, Option.bind_none, if_true, if_false, reduceIte, Bool.false_eq_true, Bool.not_true, Bool.not_false, Nat.reduceAdd, Nat.reduceSub, Nat.sub_self, List.any_cons, List.any_nil, Bool.or_false, Bool.false_or, Bool.or_self, Bool.and_true, Bool.and_self, Bool.and_false, Bool.false_and, Bool.true_and, Nat.reduceLeDiff, Nat.reduceEqDiff, decide_true, decide_false, Bool.true_eq_false, reduceCtorEq, and_self, and_true, true_and, ne_eq, not_true_eq_false, not_false_eq_true, req_true, w12]
  rw [evB_nx (δ1 := [some (.own (puD p2)), some (.im (.int deep)), some (.im (.int x1)), some (.im y2)]) ?h]
  case h => simp only [env0, evB, evC, ee, evs, ebs, ets, fin, bR, bA, bB, truD, backS, Rz.d, isOwn, setAll, isCal, gloCall, argsOf, cmpD, eqD, negD, binD, intOp, bltD, List.map_cons, List.map_nil, List.length_cons, List.length_nil, List.replicate_succ, List.replicate_zero, List.append_nil, List.cons_append, List.nil_append, List.getElem?_cons_zero, List.getElem?_cons_succ, List.set_cons_zero, List.set_cons_succ, Option.map_some, Option.map_none, Option.bind_some, Option.bind_none, if_true, if_false, reduceIte, Bool.false_eq_true, Bool.not_true, Bool.not_false, Nat.reduceAdd, Nat.reduceSub, Nat.sub_self, List.any_cons, List.any_nil, Bool.or_false, Bool.false_or, Bool.or_self, Bool.and_true, Bool.and_self, Bool.and_false, Bool.false_and, Bool.true_and, Nat.reduceLeDiff, Nat.reduceEqDiff, decide_true, decide_false, Bool.true_eq_false, reduceCtorEq, and_self, and_true, true_and, ne_eq, not_true_eq_false, not_false_eq_true, req_true, w12]
  by_cases w13 : x1 = 12
  · obtain ⟨r3, y3, p3, d3, e3, o3, k3⟩ := hd (by omega) p2 _ k2 (by omega)
    have oc3 := fun (δ : TL.Env) l => ownCall_d e3 (puD p3) l 0 δ
    refine ⟨.im (.tup [y2, y3]), .tup [y2, y3], p3, ?_, rfl, ⟨by simp only [Odd, Odds]; exact ⟨o2.o, o3.o, trivial⟩, by simp only [dpD, dpDs]; have := o2.p; have := o3.p; omega, by simp only [lnD, lnDs]; have := o2.l; have := o3.l; omega⟩, Ok_mono k3 (by omega), fun z => absurd z wb⟩
    simp only [env0, evB, evC, ee, evs, ebs, ets, fin, bR, bA, bB, truD, backS, Rz.d, isOwn, setAll, isCal, gloCall, argsOf, cmpD, eqD, negD, binD, intOp, bltD, List.map_cons, List.map_nil, List.length_cons, List.length_nil, List.replicate_succ, List.replicate_zero, List.append_nil, List.cons_append, List.nil_append, List.getElem?_cons_zero, List.getElem?_cons_succ, List.set_cons_zero, List.set_cons_succ, Option.map_some, Option.map_none, Option.bind_some, Option.bind_none, if_true, if_false, reduceIte, Bool.false_eq_true, Bool.not_true, Bool.not_false, Nat.reduceAdd, Nat.reduceSub, Nat.sub_self, List.any_cons, List.any_nil, Bool.or_false, Bool.false_or, Bool.or_self, Bool.and_true, Bool.and_self, Bool.and_false, Bool.false_and, Bool.true_and, Nat.reduceLeDiff, Nat.reduceEqDiff, decide_true, decide_false, Bool.true_eq_false, reduceCtorEq, and_self, and_true, true_and, ne_eq, not_true_eq_false, not_false_eq_true, req_true, w13, od.gOD, od.fOD, cLawOdd, d3, oc3]
  rw [evB_nx (δ1 := [some (.own (puD p2)), some (.im (.int deep)), some (.im (.int x1)), some (.im y2)]) ?h]
  case h => simp only [env0, evB, evC, ee, evs, ebs, ets, fin, bR, bA, bB, truD, backS, Rz.d, isOwn, setAll, isCal, gloCall, argsOf, cmpD, eqD, negD, binD, intOp, bltD, List.map_cons, List.map_nil, List.length_cons, List.length_nil, List.replicate_succ, List.replicate_zero, List.append_nil, List.cons_append, List.nil_append, List.getElem?_cons_zero, List.getElem?_cons_succ, List.set_cons_zero, List.set_cons_succ, Option.map_some, Option.map_none, Option.bind_some, Option.bind_none, if_true, if_false, reduceIte, Bool.false_eq_true, Bool.not_true, Bool.not_false, Nat.reduceAdd, Nat.reduceSub, Nat.sub_self, List.any_cons, List.any_nil, Bool.or_false, Bool.false_or, Bool.or_self, Bool.and_true, Bool.and_self, Bool.and_false, Bool.false_and, Bool.true_and, Nat.reduceLeDiff, Nat.reduceEqDiff, decide_true, decide_false, Bool.true_eq_false, reduceCtorEq, and_self, and_true, true_and, ne_eq, not_true_eq_false, not_false_eq_true, req_true, w13]
  refine ⟨.im (.dct ["a"] [y2]), .dct ["a"] [y2], p2, ?_, rfl, ⟨by simp only [Odd, Odds]; exact ⟨rfl, fun k hk => by rw [List.mem_singleton.mp hk]; exact ⟨ok_ofS _, by decide⟩, o2.o, trivial⟩, by simp only [dpD, dpDs]; have := o2.p; omega, by simp only [lnD, lnDs, List.length_cons, List.length_nil]; have := o2.l; omega⟩, Ok_mono k2 (by omega), fun z => absurd z wb⟩
  simp only [env0, evB, evC, ee, evs, ebs, ets, fin, bR, bA, bB, truD, backS, Rz.d, isOwn, setAll, isCal, gloCall, argsOf, cmpD, eqD, negD, binD, intOp, bltD, List.map_cons, List.map_nil, List.length_cons, List.length_nil, List.replicate_succ, List.replicate_zero, List.append_nil, List.cons_append, List.nil_append, List.getElem?_cons_zero, List.getElem?_cons_succ, List.set_cons_zero, List.set_cons_succ, Option.map_some, Option.map_none, Option.bind_some, Option.bind_none, if_true, if_false, reduceIte, Bool.false_eq_true, Bool.not_true, Bool.not_false, Nat.reduceAdd, Nat.reduceSub, Nat.sub_self, List.any_cons, List.any_nil, Bool.or_false, Bool.false_or, Bool.or_self, Bool.and_true, Bool.and_self, Bool.and_false, Bool.false_and, Bool.true_and, Nat.reduceLeDiff, Nat.reduceEqDiff, decide_true, decide_false, Bool.true_eq_false, reduceCtorEq, and_self, and_true, true_and, ne_eq, not_true_eq_false, not_false_eq_true, req_true, List.nodup_nil, List.nodup_cons, List.not_mem_nil]
theorem odd_ok : ∀ (m : Nat) (p : PU.Pu) (n : Nat), PU.Ok n p → n + 5 * 3 ^ m + 10 ≤ 900000 → 
    ∃ r d p', Tn G (K + m + 3) md "_law_odd" [.own (puD p), .im (.int (m : Int))] = some (r, [.own (puD p'), .im (.int (m : Int))]) ∧ r.d = some d ∧ Odv A m d ∧ PU.Ok (n + 5 * 3 ^ m) p'
  | 0, p, n, hok, hn => by
    obtain ⟨r, d, p', h1, h2, _, _, h3⟩ := odd_body h od K md hcm 0 0 (fun z => absurd z (by decide)) p n hok (by omega) (fun z => absurd z (by decide))
    exact ⟨r, d, p', h1, h2, (h3 (by decide)).1, (h3 (by decide)).2⟩
  | m + 1, p, n, hok, hn => by
    have e : ((m + 1 : Nat) : Int) - 1 = (m : Int) := by omega
    obtain ⟨r, d, p', h1, h2, h3, h4, _⟩ := odd_body h od (K + m + 1) md hcm ((m + 1 : Nat) : Int) m (fun _ p n hok hn => by
      rw [e]
      exact odd_ok m p n hok hn) p n hok (by omega) (fun _ => hn)
    exact ⟨r, d, p', h1, h2, h3, h4⟩
end
end RE
set_option Elab.async false
set_option linter.all false
set_option maxRecDepth 100000
set_option autoImplicit false
set_option maxHeartbeats 1000000
set_option exponentiation.threshold 20000
/-! S5a: k05: what is refused, read. -/
namespace RE
open PySem L2 TL MA
def cIsNumber : Fc := { ps := ["value"], N := ["value"], po := true, body := [.ret (.bop false [.call "is_integer" [.var 0] [] [], .isC (.var 0) "Ratio"])] }
def cAsRatio : Fc := { ps := ["number"], N := ["number"], po := true, body := [.ret (.ifx (.isC (.var 0) "Ratio") (.var 0) (.call "Ratio" [.var 0] [] []))] }
def cRatioOver : Fc := { ps := ["self", "other"], N := ["self", "other", "divisor"], po := true, body := [.ifs (.bop false [.nt (.call "is_number" [.var 1] [] []), .cmp .Eq (.att (.call "as_ratio" [.var 1] [] []) "top") (.int 0)]) [.rai "InvalidNumber" [.var 1]] [],
    .set 2 (.call "as_ratio" [.var 1] [] []),
    .ret (.call "Ratio" [.bin .Mult (.att (.var 0) "top") (.att (.var 2) "bottom"), .bin .Mult (.att (.var 0) "bottom") (.att (.var 2) "top")] [] [])] }
/-- an int, no truth -/
def isW : D → Bool
  | .int _ => true
  | _ => false
/-- a number -/
def isNu : D → Bool
  | .int _ => true
  | .ins _ _ _ => true
  | _ => false
structure HRef (G : Gx) (A C : Addr) : Prop where
  iT : G.isT A .int = some false
  p3 : G.pat "Ratio.__init__" 3 [] = some [.inl 0, .inl 1, .inl 2]
  p2 : G.pat "Ratio.__init__" 2 [] = some [.inl 0, .inl 1, .inr (.int 1)]
  ex : G.exc "InvalidNumber" = some (C, some [Str.ofString "given"])
  xm : G.xm C C = some true
  xf : G.xf C "given" = true
structure HNum (G : Gx) (A : Addr) : Prop where
  fIN : G.fns "is_number" = some cIsNumber
  fAR : G.fns "as_ratio" = some cAsRatio
  gIN : G.glo "is_number" = some (.fn "is_number")
  gAR : G.glo "as_ratio" = some (.fn "as_ratio")
  pIN : G.pat "is_number" 1 [] = some [.inl 0]
  pAR : G.pat "as_ratio" 1 [] = some [.inl 0]
structure HOv (G : Gx) (A : Addr) : Prop where
  fOV : G.fns "Ratio.over" = some cRatioOver
  mOV : G.meth A "over" = some (Str.ofString "Ratio.over")
  pOV : G.pat "Ratio.over" 2 [] = some [.inl 0, .inl 1]
section
variable {G : Gx} {A C : Addr} (h : HRat G A) (f : HRef G A C) (k : Nat) (md : Md)
include h f
theorem isT_odd (d : D) (o : Odd A d) : (isTD G .int d = some false ∧ isW d = false) ∨ (isTD G .int d = some true ∧ isTD G .bool d = some (!isW d)) := by
  cases d with
  | ins C ns ds =>
    obtain ⟨a, b, e, _⟩ := odd_ins o
    unfold rat at e
    cases e
    exact .inl ⟨f.iT, rfl⟩
  | int i => exact .inr ⟨rfl, rfl⟩
  | bl b => exact .inr ⟨rfl, rfl⟩
  | non => exact .inl ⟨rfl, rfl⟩
  | str x => exact .inl ⟨rfl, rfl⟩
  | lst x => exact .inl ⟨rfl, rfl⟩
  | tup x => exact .inl ⟨rfl, rfl⟩
  | dct x y => exact .inl ⟨rfl, rfl⟩
  | scr _ _ _ => simp only [Odd] at o
  | vl _ => simp only [Odd] at o
  | tme => simp only [Odd] at o
theorem isC_odd (d : D) (o : Odd A d) : (isCD G A d = some true ∧ ∃ a b : Int, d = rat A a b ∧ a.natAbs < 2 ^ 500 ∧ b.natAbs < 2 ^ 500 ∧ 0 < b ∧ Int.gcd a b = 1) ∨ (isCD G A d = some false ∧ isNu d = isW d) := by
  cases d with
  | ins C ns ds =>
    obtain ⟨a, b, e, h1⟩ := odd_ins o
    unfold rat at e
    cases e
    exact .inl ⟨h.isC, a, b, rfl, h1⟩
  | int i => exact .inr ⟨rfl, rfl⟩
  | bl b => exact .inr ⟨rfl, rfl⟩
  | non => exact .inr ⟨rfl, rfl⟩
  | str x => exact .inr ⟨rfl, rfl⟩
  | lst x => exact .inr ⟨rfl, rfl⟩
  | tup x => exact .inr ⟨rfl, rfl⟩
  | dct x y => exact .inr ⟨rfl, rfl⟩
  | scr _ _ _ => simp only [Odd] at o
  | vl _ => simp only [Odd] at o
  | tme => simp only [Odd] at o
theorem isInt_odd (d : D) (o : Odd A d) : Tn G (k + 1) md "is_integer" [.im d] = some (.im (.bl (isW d)), [.im d]) := by
  rw [tn_run h.fII rfl]
  unfold cIsInteger
  dsimp only
  rcases isT_odd h f d o with ⟨e1, e2⟩ | ⟨e1, e2⟩
  · simp only [env0, evB, evC, ee, evs, ebs, ets, fin, bR, bA, bB, truD, backS, Rz.d, isOwn, setAll, isCal, gloCall, argsOf, cmpD, eqD, negD, binD, intOp, bltD, List.map_cons, List.map_nil, List.length_cons, List.length_nil, List.replicate_succ, List.replicate_zero, List.append_nil, List.cons_append, List.nil_append, List.getElem?_cons_zero, List.getElem?_cons_succ, List.set_cons_zero, List.set_cons_succ, Option.map_some, Option.map_none, Option.bind_some, Option.bind_none, if_true, if_false, reduceIte, Bool.false_eq_true, Bool.not_true, Bool.not_false, Nat.reduceAdd, Nat.reduceSub, Nat.sub_self, List.any_cons, List.any_nil, Bool.or_false, Bool.false_or, Bool.or_self, Bool.and_true, Bool.and_self, Bool.and_false, Bool.false_and, Bool.true_and, Nat.reduceLeDiff, Nat.reduceEqDiff, decide_true, decide_false, Bool.true_eq_false, reduceCtorEq, and_self, and_true, true_and, ne_eq, not_true_eq_false, not_false_eq_true, e1, e2]
  · simp only [env0, evB, evC, ee, evs, ebs, ets, fin, bR, bA, bB, truD, backS, Rz.d, isOwn, setAll, isCal, gloCall, argsOf, cmpD, eqD, negD, binD, intOp, bltD, List.map_cons, List.map_nil, List.length_cons, List.length_nil, List.replicate_succ, List.replicate_zero, List.append_nil, List.cons_append, List.nil_append, List.getElem?_cons_zero, List.getElem?_cons_succ, List.set_cons_zero, List.set_cons_succ, Option.map_some, Option.map_none, Option.bind_some, Option.bind_none, if_true, if_false, reduceIte, Bool.false_eq_true, Bool.not_true, Bool.not_false, Nat.reduceAdd, Nat.reduceSub, Nat.sub_self, List.any_cons, List.any_nil, Bool.or_false, Bool.false_or, Bool.or_self, Bool.and_true, Bool.and_self, Bool.and_false, Bool.false_and, Bool.true_and, Nat.reduceLeDiff, Nat.reduceEqDiff, decide_true, decide_false, Bool.true_eq_false, reduceCtorEq, and_self, and_true, true_and, ne_eq, not_true_eq_false, not_false_eq_true, e1, e2, Bool.not_not]
theorem isW_int {d : D} (e : isW d = true) : ∃ i, d = .int i := by
  cases d with
  | int i => exact ⟨i, rfl⟩
  | _ => cases e
/-- which of two is refused -/
def badOf (x y : D) : Option D := if isW x = false then some x else if isW y = false then some y else match y with
  | .int 0 => some (.int 0)
  | _ => none
theorem init_bad (hcm : md.calm = true) (x y z : D) (ox : Odd A x) (oy : Odd A y) (hb : badOf x y = some z) : Tn G (k + 2) md "Ratio.__init__" [.own (.ins A [] []), .im x, .im y] = some (.ex ⟨C, ["given"], [z]⟩, [.own (.ins A [] []), .im x, .im y]) := by
  have e1 := isInt_odd h f k md x ox
  have e2 := isInt_odd h f k md y oy
  rw [tn_run h.fIT rfl]
  unfold cRatioInit
  dsimp only
  unfold badOf at hb
  cases w1 : isW x with
  | false =>
    rw [w1, if_pos rfl] at hb
    cases hb
    rw [w1] at e1
    simp only [env0, evB, evC, ee, evs, ebs, ets, fin, bR, bA, bB, truD, backS, Rz.d, isOwn, setAll, isCal, gloCall, argsOf, cmpD, eqD, negD, binD, intOp, bltD, List.map_cons, List.map_nil, List.length_cons, List.length_nil, List.replicate_succ, List.replicate_zero, List.append_nil, List.cons_append, List.nil_append, List.getElem?_cons_zero, List.getElem?_cons_succ, List.set_cons_zero, List.set_cons_succ, Option.map_some, Option.map_none, Option.bind_some, Option.bind_none, if_true, if_false, reduceIte, Bool.false_eq_true, Bool.not_true, Bool.not_false, Nat.reduceAdd, Nat.reduceSub, Nat.sub_self, List.any_cons, List.any_nil, Bool.or_false, Bool.false_or, Bool.or_self, Bool.and_true, Bool.and_self, Bool.and_false, Bool.false_and, Bool.true_and, Nat.reduceLeDiff, Nat.reduceEqDiff, decide_true, decide_false, Bool.true_eq_false, reduceCtorEq, and_self, and_true, true_and, ne_eq, not_true_eq_false, not_false_eq_true, h.gII, h.pII, e1, f.ex, hcm]
  | true =>
    rw [w1, if_neg (by decide)] at hb
    rw [w1] at e1
    cases w2 : isW y with
    | false =>
      rw [w2, if_pos rfl] at hb
      cases hb
      rw [w2] at e2
      simp only [env0, evB, evC, ee, evs, ebs, ets, fin, bR, bA, bB, truD, backS, Rz.d, isOwn, setAll, isCal, gloCall, argsOf, cmpD, eqD, negD, binD, intOp, bltD, List.map_cons, List.map_nil, List.length_cons, List.length_nil, List.replicate_succ, List.replicate_zero, List.append_nil, List.cons_append, List.nil_append, List.getElem?_cons_zero, List.getElem?_cons_succ, List.set_cons_zero, List.set_cons_succ, Option.map_some, Option.map_none, Option.bind_some, Option.bind_none, if_true, if_false, reduceIte, Bool.false_eq_true, Bool.not_true, Bool.not_false, Nat.reduceAdd, Nat.reduceSub, Nat.sub_self, List.any_cons, List.any_nil, Bool.or_false, Bool.false_or, Bool.or_self, Bool.and_true, Bool.and_self, Bool.and_false, Bool.false_and, Bool.true_and, Nat.reduceLeDiff, Nat.reduceEqDiff, decide_true, decide_false, Bool.true_eq_false, reduceCtorEq, and_self, and_true, true_and, ne_eq, not_true_eq_false, not_false_eq_true, h.gII, h.pII, e1, e2, f.ex, hcm]
    | true =>
      rw [w2, if_neg (by decide)] at hb
      rw [w2] at e2
      obtain ⟨j, rfl⟩ := isW_int h f w2
      have hj : j = 0 ∧ z = .int 0 := by
        split at hb
        · rename_i hh; cases hh; cases hb; exact ⟨rfl, rfl⟩
        · cases hb
      obtain ⟨rfl, rfl⟩ := hj
      simp only [env0, evB, evC, ee, evs, ebs, ets, fin, bR, bA, bB, truD, backS, Rz.d, isOwn, setAll, isCal, gloCall, argsOf, cmpD, eqD, negD, binD, intOp, bltD, List.map_cons, List.map_nil, List.length_cons, List.length_nil, List.replicate_succ, List.replicate_zero, List.append_nil, List.cons_append, List.nil_append, List.getElem?_cons_zero, List.getElem?_cons_succ, List.set_cons_zero, List.set_cons_succ, Option.map_some, Option.map_none, Option.bind_some, Option.bind_none, if_true, if_false, reduceIte, Bool.false_eq_true, Bool.not_true, Bool.not_false, Nat.reduceAdd, Nat.reduceSub, Nat.sub_self, List.any_cons, List.any_nil, Bool.or_false, Bool.false_or, Bool.or_self, Bool.and_true, Bool.and_self, Bool.and_false, Bool.false_and, Bool.true_and, Nat.reduceLeDiff, Nat.reduceEqDiff, decide_true, decide_false, Bool.true_eq_false, reduceCtorEq, and_self, and_true, true_and, ne_eq, not_true_eq_false, not_false_eq_true, h.gII, h.pII, e1, e2, f.ex, hcm]
theorem mk_bad (hcm : md.calm = true) (x y z : D) (ox : Odd A x) (oy : Odd A y) (hb : badOf x y = some z) : makeD (Tn G (k + 2)) md A "Ratio.__init__" [x, y] = some (.ex ⟨C, ["given"], [z]⟩) := by
  unfold makeD
  simp only [List.map_cons, List.map_nil]
  rw [init_bad h f k md hcm x y z ox oy hb]
theorem good_of {x y : D} (hb : badOf x y = none) : ∃ t b : Int, x = .int t ∧ y = .int b ∧ b ≠ 0 := by
  unfold badOf at hb
  cases w1 : isW x with
  | false => rw [w1, if_pos rfl] at hb; cases hb
  | true =>
    rw [w1, if_neg (by decide)] at hb
    cases w2 : isW y with
    | false => rw [w2, if_pos rfl] at hb; cases hb
    | true =>
      rw [w2, if_neg (by decide)] at hb
      obtain ⟨i, rfl⟩ := isW_int h f w1
      obtain ⟨j, rfl⟩ := isW_int h f w2
      refine ⟨i, j, rfl, rfl, fun e => ?_⟩
      subst e
      cases hb
theorem isNum_odd (nu : HNum G A) (d : D) (o : Odd A d) : Tn G (k + 2) md "is_number" [.im d] = some (.im (.bl (isNu d)), [.im d]) := by
  have e1 := isInt_odd h f k md d o
  rw [tn_run nu.fIN rfl]
  unfold cIsNumber
  dsimp only
  cases w : isW d with
  | true =>
    obtain ⟨i, rfl⟩ := isW_int h f w
    rw [w] at e1
    simp only [env0, evB, evC, ee, evs, ebs, ets, fin, bR, bA, bB, truD, backS, Rz.d, isOwn, setAll, isCal, gloCall, argsOf, cmpD, eqD, negD, binD, intOp, bltD, List.map_cons, List.map_nil, List.length_cons, List.length_nil, List.replicate_succ, List.replicate_zero, List.append_nil, List.cons_append, List.nil_append, List.getElem?_cons_zero, List.getElem?_cons_succ, List.set_cons_zero, List.set_cons_succ, Option.map_some, Option.map_none, Option.bind_some, Option.bind_none, if_true, if_false, reduceIte, Bool.false_eq_true, Bool.not_true, Bool.not_false, Nat.reduceAdd, Nat.reduceSub, Nat.sub_self, List.any_cons, List.any_nil, Bool.or_false, Bool.false_or, Bool.or_self, Bool.and_true, Bool.and_self, Bool.and_false, Bool.false_and, Bool.true_and, Nat.reduceLeDiff, Nat.reduceEqDiff, decide_true, decide_false, Bool.true_eq_false, reduceCtorEq, and_self, and_true, true_and, ne_eq, not_true_eq_false, not_false_eq_true, h.gII, h.pII, e1, isNu]
  | false =>
    rw [w] at e1
    rcases isC_odd h f d o with ⟨e2, a, b, rfl, _⟩ | ⟨e2, e3⟩
    · simp only [env0, evB, evC, ee, evs, ebs, ets, fin, bR, bA, bB, truD, backS, Rz.d, isOwn, setAll, isCal, gloCall, argsOf, cmpD, eqD, negD, binD, intOp, bltD, List.map_cons, List.map_nil, List.length_cons, List.length_nil, List.replicate_succ, List.replicate_zero, List.append_nil, List.cons_append, List.nil_append, List.getElem?_cons_zero, List.getElem?_cons_succ, List.set_cons_zero, List.set_cons_succ, Option.map_some, Option.map_none, Option.bind_some, Option.bind_none, if_true, if_false, reduceIte, Bool.false_eq_true, Bool.not_true, Bool.not_false, Nat.reduceAdd, Nat.reduceSub, Nat.sub_self, List.any_cons, List.any_nil, Bool.or_false, Bool.false_or, Bool.or_self, Bool.and_true, Bool.and_self, Bool.and_false, Bool.false_and, Bool.true_and, Nat.reduceLeDiff, Nat.reduceEqDiff, decide_true, decide_false, Bool.true_eq_false, reduceCtorEq, and_self, and_true, true_and, ne_eq, not_true_eq_false, not_false_eq_true, h.gII, h.pII, e1, h.gRA, e2]
      rfl
    · rw [w] at e3
      simp only [env0, evB, evC, ee, evs, ebs, ets, fin, bR, bA, bB, truD, backS, Rz.d, isOwn, setAll, isCal, gloCall, argsOf, cmpD, eqD, negD, binD, intOp, bltD, List.map_cons, List.map_nil, List.length_cons, List.length_nil, List.replicate_succ, List.replicate_zero, List.append_nil, List.cons_append, List.nil_append, List.getElem?_cons_zero, List.getElem?_cons_succ, List.set_cons_zero, List.set_cons_succ, Option.map_some, Option.map_none, Option.bind_some, Option.bind_none, if_true, if_false, reduceIte, Bool.false_eq_true, Bool.not_true, Bool.not_false, Nat.reduceAdd, Nat.reduceSub, Nat.sub_self, List.any_cons, List.any_nil, Bool.or_false, Bool.false_or, Bool.or_self, Bool.and_true, Bool.and_self, Bool.and_false, Bool.false_and, Bool.true_and, Nat.reduceLeDiff, Nat.reduceEqDiff, decide_true, decide_false, Bool.true_eq_false, reduceCtorEq, and_self, and_true, true_and, ne_eq, not_true_eq_false, not_false_eq_true, h.gII, h.pII, e1, h.gRA, e2, e3]
theorem asR_rat (nu : HNum G A) (a b : Int) : Tn G (k + 1) md "as_ratio" [.im (rat A a b)] = some (.im (rat A a b), [.im (rat A a b)]) := by
  have e : isCD G A (rat A a b) = some true := h.isC
  rw [tn_run nu.fAR rfl]
  unfold cAsRatio
  dsimp only
  simp only [env0, evB, evC, ee, evs, ebs, ets, fin, bR, bA, bB, truD, backS, Rz.d, isOwn, setAll, isCal, gloCall, argsOf, cmpD, eqD, negD, binD, intOp, bltD, List.map_cons, List.map_nil, List.length_cons, List.length_nil, List.replicate_succ, List.replicate_zero, List.append_nil, List.cons_append, List.nil_append, List.getElem?_cons_zero, List.getElem?_cons_succ, List.set_cons_zero, List.set_cons_succ, Option.map_some, Option.map_none, Option.bind_some, Option.bind_none, if_true, if_false, reduceIte, Bool.false_eq_true, Bool.not_true, Bool.not_false, Nat.reduceAdd, Nat.reduceSub, Nat.sub_self, List.any_cons, List.any_nil, Bool.or_false, Bool.false_or, Bool.or_self, Bool.and_true, Bool.and_self, Bool.and_false, Bool.false_and, Bool.true_and, Nat.reduceLeDiff, Nat.reduceEqDiff, decide_true, decide_false, Bool.true_eq_false, reduceCtorEq, and_self, and_true, true_and, ne_eq, not_true_eq_false, not_false_eq_true, h.gRA, e]
theorem asR_int (hcm : md.calm = true) (nu : HNum G A) (i : Int) : Tn G (k + 3) md "as_ratio" [.im (.int i)] = some (.im (rat A i 1), [.im (.int i)]) := by
  have mk := make_ok h k md hcm i 1 (by decide) (lt9000 (lt2 (by decide : (1 : Int).natAbs < 2 ^ 1) (by decide)))
  rw [(l_int i).1, (l_int i).2] at mk
  rw [tn_run nu.fAR rfl]
  unfold cAsRatio
  dsimp only
  simp only [env0, evB, evC, ee, evs, ebs, ets, fin, bR, bA, bB, truD, backS, Rz.d, isOwn, setAll, isCal, gloCall, argsOf, cmpD, eqD, negD, binD, intOp, bltD, List.map_cons, List.map_nil, List.length_cons, List.length_nil, List.replicate_succ, List.replicate_zero, List.append_nil, List.cons_append, List.nil_append, List.getElem?_cons_zero, List.getElem?_cons_succ, List.set_cons_zero, List.set_cons_succ, Option.map_some, Option.map_none, Option.bind_some, Option.bind_none, if_true, if_false, reduceIte, Bool.false_eq_true, Bool.not_true, Bool.not_false, Nat.reduceAdd, Nat.reduceSub, Nat.sub_self, List.any_cons, List.any_nil, Bool.or_false, Bool.false_or, Bool.or_self, Bool.and_true, Bool.and_self, Bool.and_false, Bool.false_and, Bool.true_and, Nat.reduceLeDiff, Nat.reduceEqDiff, decide_true, decide_false, Bool.true_eq_false, reduceCtorEq, and_self, and_true, true_and, ne_eq, not_true_eq_false, not_false_eq_true, h.gRA, isCD, f.p2, behind, mk]
/-- the pair of a number, 0 / 1 for what is none -/
def halfT : D → Int × Int
  | .int i => (i, 1)
  | .ins _ _ ds => match ds with
    | [.int a, .int b] => (a, b)
    | _ => (0, 1)
  | _ => (0, 1)
theorem half_rat (a b : Int) : halfT (rat A a b) = (a, b) := rfl
theorem over_bad (hcm : md.calm = true) (nu : HNum G A) (ov : HOv G A) (n e : Int) (d : D) (o : Odd A d) (hz : (halfT d).1 = 0) : Tn G (k + 4) md "Ratio.over" [.im (rat A n e), .im d] = some (.ex ⟨C, ["given"], [d]⟩, [.im (rat A n e), .im d]) := by
  have e1 := isNum_odd h f (k + 1) md nu d o
  rw [tn_run ov.fOV rfl]
  unfold cRatioOver
  dsimp only
  cases w : isNu d with
  | false =>
    rw [w] at e1
    simp only [env0, evB, evC, ee, evs, ebs, ets, fin, bR, bA, bB, truD, backS, Rz.d, isOwn, setAll, isCal, gloCall, argsOf, cmpD, eqD, negD, binD, intOp, bltD, List.map_cons, List.map_nil, List.length_cons, List.length_nil, List.replicate_succ, List.replicate_zero, List.append_nil, List.cons_append, List.nil_append, List.getElem?_cons_zero, List.getElem?_cons_succ, List.set_cons_zero, List.set_cons_succ, Option.map_some, Option.map_none, Option.bind_some, Option.bind_none, if_true, if_false, reduceIte, Bool.false_eq_true, Bool.not_true, Bool.not_false, Nat.reduceAdd, Nat.reduceSub, Nat.sub_self, List.any_cons, List.any_nil, Bool.or_false, Bool.false_or, Bool.or_self, Bool.and_true, Bool.and_self, Bool.and_false, Bool.false_and, Bool.true_and, Nat.reduceLeDiff, Nat.reduceEqDiff, decide_true, decide_false, Bool.true_eq_false, reduceCtorEq, and_self, and_true, true_and, ne_eq, not_true_eq_false, not_false_eq_true, nu.gIN, nu.pIN, e1, f.ex, hcm]
  | true =>
    rw [w] at e1
    rcases isC_odd h f d o with ⟨e2, a, b, rfl, _⟩ | ⟨e2, e3⟩
    · have r := asR_rat h f (k + 2) md nu a b
      have t := att_top h (k + 2) md a b
      rw [half_rat h f] at hz
      dsimp only at hz
      subst hz
      simp only [env0, evB, evC, ee, evs, ebs, ets, fin, bR, bA, bB, truD, backS, Rz.d, isOwn, setAll, isCal, gloCall, argsOf, cmpD, eqD, negD, binD, intOp, bltD, List.map_cons, List.map_nil, List.length_cons, List.length_nil, List.replicate_succ, List.replicate_zero, List.append_nil, List.cons_append, List.nil_append, List.getElem?_cons_zero, List.getElem?_cons_succ, List.set_cons_zero, List.set_cons_succ, Option.map_some, Option.map_none, Option.bind_some, Option.bind_none, if_true, if_false, reduceIte, Bool.false_eq_true, Bool.not_true, Bool.not_false, Nat.reduceAdd, Nat.reduceSub, Nat.sub_self, List.any_cons, List.any_nil, Bool.or_false, Bool.false_or, Bool.or_self, Bool.and_true, Bool.and_self, Bool.and_false, Bool.false_and, Bool.true_and, Nat.reduceLeDiff, Nat.reduceEqDiff, decide_true, decide_false, Bool.true_eq_false, reduceCtorEq, and_self, and_true, true_and, ne_eq, not_true_eq_false, not_false_eq_true, nu.gIN, nu.pIN, e1, nu.gAR, nu.pAR, r, t, f.ex, hcm]
    · rw [w] at e3
      obtain ⟨i, rfl⟩ := isW_int h f e3.symm
      have r := asR_int h f k md hcm nu i
      have t := att_top h (k + 2) md i 1
      have hz' : i = 0 := hz
      subst hz'
      simp only [env0, evB, evC, ee, evs, ebs, ets, fin, bR, bA, bB, truD, backS, Rz.d, isOwn, setAll, isCal, gloCall, argsOf, cmpD, eqD, negD, binD, intOp, bltD, List.map_cons, List.map_nil, List.length_cons, List.length_nil, List.replicate_succ, List.replicate_zero, List.append_nil, List.cons_append, List.nil_append, List.getElem?_cons_zero, List.getElem?_cons_succ, List.set_cons_zero, List.set_cons_succ, Option.map_some, Option.map_none, Option.bind_some, Option.bind_none, if_true, if_false, reduceIte, Bool.false_eq_true, Bool.not_true, Bool.not_false, Nat.reduceAdd, Nat.reduceSub, Nat.sub_self, List.any_cons, List.any_nil, Bool.or_false, Bool.false_or, Bool.or_self, Bool.and_true, Bool.and_self, Bool.and_false, Bool.false_and, Bool.true_and, Nat.reduceLeDiff, Nat.reduceEqDiff, decide_true, decide_false, Bool.true_eq_false, reduceCtorEq, and_self, and_true, true_and, ne_eq, not_true_eq_false, not_false_eq_true, nu.gIN, nu.pIN, e1, nu.gAR, nu.pAR, r, t, f.ex, hcm]
theorem over_good (hcm : md.calm = true) (nu : HNum G A) (ov : HOv G A) (n e : Int) (hn : n.natAbs < 2 ^ 400) (he : e.natAbs < 2 ^ 400) (he0 : e ≠ 0) (d : D) (o : Odd A d) (hz : (halfT d).1 ≠ 0) : Tn G (k + 4) md "Ratio.over" [.im (rat A n e), .im d] = some (.im (rat A (lN (n * (halfT d).2) (e * (halfT d).1)) (lD (n * (halfT d).2) (e * (halfT d).1))), [.im (rat A n e), .im d]) := by
  have e1 := isNum_odd h f (k + 1) md nu d o
  have t1 := att_top h (k + 2) md n e
  have t2 := att_bottom h (k + 2) md n e
  obtain ⟨a, b, hh, ha, hb, hr, w⟩ : ∃ a b : Int, halfT d = (a, b) ∧ a.natAbs < 2 ^ 500 ∧ b.natAbs < 2 ^ 500 ∧ Tn G (k + 3) md "as_ratio" [.im d] = some (.im (rat A a b), [.im d]) ∧ isNu d = true := by
    rcases isC_odd h f d o with ⟨e2, a, b, rfl, h1, h2, _⟩ | ⟨e2, e3⟩
    · exact ⟨a, b, rfl, h1, h2, asR_rat h f (k + 2) md nu a b, rfl⟩
    · cases w : isNu d with
      | false =>
        refine absurd ?_ hz
        cases d with
        | int i => cases w
        | ins _ _ _ => cases w
        | _ => rfl
      | true =>
        rw [w] at e3
        obtain ⟨i, rfl⟩ := isW_int h f e3.symm
        exact ⟨i, 1, rfl, o, lt2 (by decide : (1 : Int).natAbs < 2 ^ 1) (by decide), asR_int h f k md hcm nu i, rfl⟩
  rw [hh] at hz ⊢
  rw [w] at e1
  dsimp only at hz ⊢
  have t3 := att_top h (k + 2) md a b
  have t4 := att_bottom h (k + 2) md a b
  have m1 : CMulW n b := wide_mul (a := 400) (b := 500) hn hb (by decide) (by decide) (by decide)
  have m2 : CMulW e a := wide_mul (a := 400) (b := 500) he ha (by decide) (by decide) (by decide)
  have nz : e * a ≠ 0 := Int.mul_ne_zero he0 hz
  have bz : (e * a).natAbs < 2 ^ 9000 := by
    rw [Int.natAbs_mul]
    exact Nat.lt_of_lt_of_le (Nat.mul_lt_mul'' he ha) (by rw [← Nat.pow_add]; exact Nat.pow_le_pow_right (by decide) (by decide))
  have mk := make_ok h (k + 1) md hcm (n * b) (e * a) nz bz
  rw [tn_run ov.fOV rfl]
  unfold cRatioOver
  dsimp only
  simp only [env0, evB, evC, ee, evs, ebs, ets, fin, bR, bA, bB, truD, backS, Rz.d, isOwn, setAll, isCal, gloCall, argsOf, cmpD, eqD, negD, binD, intOp, bltD, List.map_cons, List.map_nil, List.length_cons, List.length_nil, List.replicate_succ, List.replicate_zero, List.append_nil, List.cons_append, List.nil_append, List.getElem?_cons_zero, List.getElem?_cons_succ, List.set_cons_zero, List.set_cons_succ, Option.map_some, Option.map_none, Option.bind_some, Option.bind_none, if_true, if_false, reduceIte, Bool.false_eq_true, Bool.not_true, Bool.not_false, Nat.reduceAdd, Nat.reduceSub, Nat.sub_self, List.any_cons, List.any_nil, Bool.or_false, Bool.false_or, Bool.or_self, Bool.and_true, Bool.and_self, Bool.and_false, Bool.false_and, Bool.true_and, Nat.reduceLeDiff, Nat.reduceEqDiff, decide_true, decide_false, Bool.true_eq_false, reduceCtorEq, and_self, and_true, true_and, ne_eq, not_true_eq_false, not_false_eq_true, nu.gIN, nu.pIN, e1, nu.gAR, nu.pAR, hr, t3, t4, hz, t1, t2, req_pos m1, req_pos m2, h.gRA, f.p3, behind, mk]
end
end RE
set_option Elab.async false
set_option linter.all false
set_option maxRecDepth 100000
set_option autoImplicit false
set_option maxHeartbeats 1000000
set_option exponentiation.threshold 20000
/-! S5b: k05: the law's helpers, read. -/
namespace RE
open PySem L2 TL MA
def cLawIsWhole : Fc := { ps := ["_law_thing_here"], N := ["_law_thing_here"], po := true, body := [.ret (.bop true [.isT (.var 0) .int, .nt (.isT (.var 0) .bool)])] }
def cLawIsDigit : Fc := { ps := ["_law_thing_here"], N := ["_law_thing_here"], po := true, body := [.ret (.bop false [.call "_law_is_whole" [.var 0] [] [], .isC (.var 0) "Ratio"])] }
def cLawMade : Fc := { ps := ["_law_one", "_law_two"], N := ["_law_one", "_law_two", "_law_found", "e"], po := true, body := [.try_ [.set 2 (.call "Ratio" [.var 0, .var 1] [] [])] [⟨"InvalidNumber", some 3, .tup [.c (.str "raised"), .rep (.fl "given")]⟩],
    .ret (.tup [.str "told", .blt .repr [.var 2]])] }
def cLawParted : Fc := { ps := ["_law_one", "_law_two"], N := ["_law_one", "_law_two", "_law_found", "e"], po := true, body := [.try_ [.set 2 (.meth (.var 0) "over" [.var 1] [] [])] [⟨"InvalidNumber", some 3, .tup [.c (.str "raised"), .rep (.fl "given")]⟩],
    .ret (.tup [.str "told", .blt .repr [.var 2]])] }
def cLawShown : Fc := { ps := ["_law_pair"], N := ["_law_pair"], po := true, body := [.ret (.bin .Add (.bin .Add (.bin .Add (.bin .Add (.str "Ratio(") (.blt .str [.sub (.var 0) (.int 0)])) (.str ", ")) (.blt .str [.sub (.var 0) (.int 1)])) (.str ")"))] }
def cLawDue : Fc := { ps := ["_law_one", "_law_two"], N := ["_law_one", "_law_two"], po := true, body := [.ifs (.nt (.call "_law_is_whole" [.var 0] [] [])) [.ret (.tup [.str "raised", .blt .repr [.var 0]])] [],
    .ifs (.bop false [.nt (.call "_law_is_whole" [.var 1] [] []), .cmp .Eq (.var 1) (.int 0)]) [.ret (.tup [.str "raised", .blt .repr [.var 1]])] [],
    .ret (.tup [.str "told", .call "_law_shown" [.call "_law_lowest" [.var 0, .var 1] [] []] [] []])] }
def cLawHalf : Fc := { ps := ["_law_thing_here"], N := ["_law_thing_here"], po := true, body := [.ifs (.nt (.call "_law_is_digit" [.var 0] [] [])) [.ret (.tup [.int 0, .int 1])] [],
    .ret (.ifx (.isT (.var 0) .int) (.tup [.var 0, .int 1]) (.tup [.att (.var 0) "top", .att (.var 0) "bottom"]))] }
def cLawThing : Fc := { ps := ["_law_q"], N := ["_law_q"], po := true, body := [.ret (.sub (.lst [.int 0, .int 1, .neg (.int 7), .callO "_law_great" 0 [], .callO "_law_odd" 0 [.int 2], .callO "_law_odd" 0 [.int 2]]) (.callO "_law_draw" 0 [.int 6]))] }
structure HK5 (G : Gx) : Prop where
  fWH : G.fns "_law_is_whole" = some cLawIsWhole
  fDG : G.fns "_law_is_digit" = some cLawIsDigit
  fMA : G.fns "_law_made" = some cLawMade
  fPA : G.fns "_law_parted" = some cLawParted
  fSH : G.fns "_law_shown" = some cLawShown
  fDU : G.fns "_law_due" = some cLawDue
  fHA : G.fns "_law_half" = some cLawHalf
  fTH : G.fns "_law_thing" = some cLawThing
  gWH : G.glo "_law_is_whole" = some (.fn "_law_is_whole")
  gDG : G.glo "_law_is_digit" = some (.fn "_law_is_digit")
  gMA : G.glo "_law_made" = some (.fn "_law_made")
  gPA : G.glo "_law_parted" = some (.fn "_law_parted")
  gSH : G.glo "_law_shown" = some (.fn "_law_shown")
  gDU : G.glo "_law_due" = some (.fn "_law_due")
  gHA : G.glo "_law_half" = some (.fn "_law_half")
  gTH : G.glo "_law_thing" = some (.fn "_law_thing")
  pWH : G.pat "_law_is_whole" 1 [] = some [.inl 0]
  pDG : G.pat "_law_is_digit" 1 [] = some [.inl 0]
  pMA : G.pat "_law_made" 2 [] = some [.inl 0, .inl 1]
  pPA : G.pat "_law_parted" 2 [] = some [.inl 0, .inl 1]
  pSH : G.pat "_law_shown" 1 [] = some [.inl 0]
  pDU : G.pat "_law_due" 2 [] = some [.inl 0, .inl 1]
  pHA : G.pat "_law_half" 1 [] = some [.inl 0]
/-- what is due for a top and a bottom -/
def dueT (x y : D) : Str × Str := match badOf x y with
  | some z => ("raised", txD z)
  | none => ("told", ratRepr (lN (halfT x).1 (halfT y).1) (lD (halfT x).1 (halfT y).1))
def prD (t : Str × Str) : D := .tup [.str t.1, .str t.2]
theorem lk1 (z : D) : ([Str.ofString "given"].zip [z]).lookup (Str.ofString "given") = some z := by
  simp only [List.zip_cons_cons, List.zip_nil_right, List.lookup, show (Str.ofString "given" == Str.ofString "given") = true by decide]
theorem mul_log {a b : Int} (ha : a.natAbs < 2 ^ 400) (hb : b.natAbs < 2 ^ 500) : (a * b).natAbs < 2 ^ 900 := by
  rw [Int.natAbs_mul]
  exact Nat.lt_of_lt_of_le (Nat.mul_lt_mul'' ha hb) (by rw [← Nat.pow_add]; exact Nat.pow_le_pow_right (by decide) (by decide))
theorem log900 {n : Nat} (h : n < 2 ^ 900) : n.log2 < 1000 := by have := log_of (by decide) h; omega
section
variable {G : Gx} {A C : Addr} (h : HRat G A) (f : HRef G A C) (q : HK5 G) (k : Nat) (md : Md)
include h f q
theorem whole_odd (d : D) (o : Odd A d) : Tn G (k + 1) md "_law_is_whole" [.im d] = some (.im (.bl (isW d)), [.im d]) := by
  rw [tn_run q.fWH rfl]
  unfold cLawIsWhole
  dsimp only
  rcases isT_odd h f d o with ⟨e1, e2⟩ | ⟨e1, e2⟩
  · simp only [env0, evB, evC, ee, evs, ebs, ets, fin, bR, bA, bB, truD, backS, Rz.d, isOwn, setAll, isCal, gloCall, argsOf, cmpD, eqD, negD, binD, intOp, bltD, List.map_cons, List.map_nil, List.length_cons, List.length_nil, List.replicate_succ, List.replicate_zero, List.append_nil, List.cons_append, List.nil_append, List.getElem?_cons_zero, List.getElem?_cons_succ, List.set_cons_zero, List.set_cons_succ, Option.map_some, Option.map_none, Option.bind_some, Option.bind_none, if_true, if_false, reduceIte, Bool.false_eq_true, Bool.not_true, Bool.not_false, Nat.reduceAdd, Nat.reduceSub, Nat.sub_self, List.any_cons, List.any_nil, Bool.or_false, Bool.false_or, Bool.or_self, Bool.and_true, Bool.and_self, Bool.and_false, Bool.false_and, Bool.true_and, Nat.reduceLeDiff, Nat.reduceEqDiff, decide_true, decide_false, Bool.true_eq_false, reduceCtorEq, and_self, and_true, true_and, ne_eq, not_true_eq_false, not_false_eq_true, e1, e2]
  · simp only [env0, evB, evC, ee, evs, ebs, ets, fin, bR, bA, bB, truD, backS, Rz.d, isOwn, setAll, isCal, gloCall, argsOf, cmpD, eqD, negD, binD, intOp, bltD, List.map_cons, List.map_nil, List.length_cons, List.length_nil, List.replicate_succ, List.replicate_zero, List.append_nil, List.cons_append, List.nil_append, List.getElem?_cons_zero, List.getElem?_cons_succ, List.set_cons_zero, List.set_cons_succ, Option.map_some, Option.map_none, Option.bind_some, Option.bind_none, if_true, if_false, reduceIte, Bool.false_eq_true, Bool.not_true, Bool.not_false, Nat.reduceAdd, Nat.reduceSub, Nat.sub_self, List.any_cons, List.any_nil, Bool.or_false, Bool.false_or, Bool.or_self, Bool.and_true, Bool.and_self, Bool.and_false, Bool.false_and, Bool.true_and, Nat.reduceLeDiff, Nat.reduceEqDiff, decide_true, decide_false, Bool.true_eq_false, reduceCtorEq, and_self, and_true, true_and, ne_eq, not_true_eq_false, not_false_eq_true, e1, e2, Bool.not_not]
theorem digit_odd (d : D) (o : Odd A d) : Tn G (k + 2) md "_law_is_digit" [.im d] = some (.im (.bl (isNu d)), [.im d]) := by
  have e1 := whole_odd h f q k md d o
  rw [tn_run q.fDG rfl]
  unfold cLawIsDigit
  dsimp only
  cases w : isW d with
  | true =>
    obtain ⟨i, rfl⟩ := isW_int h f w
    rw [w] at e1
    simp only [env0, evB, evC, ee, evs, ebs, ets, fin, bR, bA, bB, truD, backS, Rz.d, isOwn, setAll, isCal, gloCall, argsOf, cmpD, eqD, negD, binD, intOp, bltD, List.map_cons, List.map_nil, List.length_cons, List.length_nil, List.replicate_succ, List.replicate_zero, List.append_nil, List.cons_append, List.nil_append, List.getElem?_cons_zero, List.getElem?_cons_succ, List.set_cons_zero, List.set_cons_succ, Option.map_some, Option.map_none, Option.bind_some, Option.bind_none, if_true, if_false, reduceIte, Bool.false_eq_true, Bool.not_true, Bool.not_false, Nat.reduceAdd, Nat.reduceSub, Nat.sub_self, List.any_cons, List.any_nil, Bool.or_false, Bool.false_or, Bool.or_self, Bool.and_true, Bool.and_self, Bool.and_false, Bool.false_and, Bool.true_and, Nat.reduceLeDiff, Nat.reduceEqDiff, decide_true, decide_false, Bool.true_eq_false, reduceCtorEq, and_self, and_true, true_and, ne_eq, not_true_eq_false, not_false_eq_true, q.gWH, q.pWH, e1, isNu]
  | false =>
    rw [w] at e1
    rcases isC_odd h f d o with ⟨e2, a, b, rfl, _⟩ | ⟨e2, e3⟩
    · simp only [env0, evB, evC, ee, evs, ebs, ets, fin, bR, bA, bB, truD, backS, Rz.d, isOwn, setAll, isCal, gloCall, argsOf, cmpD, eqD, negD, binD, intOp, bltD, List.map_cons, List.map_nil, List.length_cons, List.length_nil, List.replicate_succ, List.replicate_zero, List.append_nil, List.cons_append, List.nil_append, List.getElem?_cons_zero, List.getElem?_cons_succ, List.set_cons_zero, List.set_cons_succ, Option.map_some, Option.map_none, Option.bind_some, Option.bind_none, if_true, if_false, reduceIte, Bool.false_eq_true, Bool.not_true, Bool.not_false, Nat.reduceAdd, Nat.reduceSub, Nat.sub_self, List.any_cons, List.any_nil, Bool.or_false, Bool.false_or, Bool.or_self, Bool.and_true, Bool.and_self, Bool.and_false, Bool.false_and, Bool.true_and, Nat.reduceLeDiff, Nat.reduceEqDiff, decide_true, decide_false, Bool.true_eq_false, reduceCtorEq, and_self, and_true, true_and, ne_eq, not_true_eq_false, not_false_eq_true, q.gWH, q.pWH, e1, h.gRA, e2]
      rfl
    · rw [w] at e3
      simp only [env0, evB, evC, ee, evs, ebs, ets, fin, bR, bA, bB, truD, backS, Rz.d, isOwn, setAll, isCal, gloCall, argsOf, cmpD, eqD, negD, binD, intOp, bltD, List.map_cons, List.map_nil, List.length_cons, List.length_nil, List.replicate_succ, List.replicate_zero, List.append_nil, List.cons_append, List.nil_append, List.getElem?_cons_zero, List.getElem?_cons_succ, List.set_cons_zero, List.set_cons_succ, Option.map_some, Option.map_none, Option.bind_some, Option.bind_none, if_true, if_false, reduceIte, Bool.false_eq_true, Bool.not_true, Bool.not_false, Nat.reduceAdd, Nat.reduceSub, Nat.sub_self, List.any_cons, List.any_nil, Bool.or_false, Bool.false_or, Bool.or_self, Bool.and_true, Bool.and_self, Bool.and_false, Bool.false_and, Bool.true_and, Nat.reduceLeDiff, Nat.reduceEqDiff, decide_true, decide_false, Bool.true_eq_false, reduceCtorEq, and_self, and_true, true_and, ne_eq, not_true_eq_false, not_false_eq_true, q.gWH, q.pWH, e1, h.gRA, e2, e3]
theorem half_odd (d : D) (o : Odd A d) : Tn G (k + 3) md "_law_half" [.im d] = some (.im (.tup [.int (halfT d).1, .int (halfT d).2]), [.im d]) := by
  have e1 := digit_odd h f q k md d o
  rw [tn_run q.fHA rfl]
  unfold cLawHalf
  dsimp only
  rcases isC_odd h f d o with ⟨e2, a, b, rfl, _⟩ | ⟨e2, e3⟩
  · have w : isNu (rat A a b) = true := rfl
    rw [w] at e1
    have t : isTD G .int (rat A a b) = some false := f.iT
    have t1 := att_top h (k + 1) md a b
    have t2 := att_bottom h (k + 1) md a b
    rw [half_rat h f]
    simp only [env0, evB, evC, ee, evs, ebs, ets, fin, bR, bA, bB, truD, backS, Rz.d, isOwn, setAll, isCal, gloCall, argsOf, cmpD, eqD, negD, binD, intOp, bltD, List.map_cons, List.map_nil, List.length_cons, List.length_nil, List.replicate_succ, List.replicate_zero, List.append_nil, List.cons_append, List.nil_append, List.getElem?_cons_zero, List.getElem?_cons_succ, List.set_cons_zero, List.set_cons_succ, Option.map_some, Option.map_none, Option.bind_some, Option.bind_none, if_true, if_false, reduceIte, Bool.false_eq_true, Bool.not_true, Bool.not_false, Nat.reduceAdd, Nat.reduceSub, Nat.sub_self, List.any_cons, List.any_nil, Bool.or_false, Bool.false_or, Bool.or_self, Bool.and_true, Bool.and_self, Bool.and_false, Bool.false_and, Bool.true_and, Nat.reduceLeDiff, Nat.reduceEqDiff, decide_true, decide_false, Bool.true_eq_false, reduceCtorEq, and_self, and_true, true_and, ne_eq, not_true_eq_false, not_false_eq_true, req_true, q.gDG, q.pDG, e1, t, t1, t2]
  · cases w : isNu d with
    | true =>
      rw [w] at e3 e1
      obtain ⟨i, rfl⟩ := isW_int h f e3.symm
      simp only [env0, evB, evC, ee, evs, ebs, ets, fin, bR, bA, bB, truD, backS, Rz.d, isOwn, setAll, isCal, gloCall, argsOf, cmpD, eqD, negD, binD, intOp, bltD, List.map_cons, List.map_nil, List.length_cons, List.length_nil, List.replicate_succ, List.replicate_zero, List.append_nil, List.cons_append, List.nil_append, List.getElem?_cons_zero, List.getElem?_cons_succ, List.set_cons_zero, List.set_cons_succ, Option.map_some, Option.map_none, Option.bind_some, Option.bind_none, if_true, if_false, reduceIte, Bool.false_eq_true, Bool.not_true, Bool.not_false, Nat.reduceAdd, Nat.reduceSub, Nat.sub_self, List.any_cons, List.any_nil, Bool.or_false, Bool.false_or, Bool.or_self, Bool.and_true, Bool.and_self, Bool.and_false, Bool.false_and, Bool.true_and, Nat.reduceLeDiff, Nat.reduceEqDiff, decide_true, decide_false, Bool.true_eq_false, reduceCtorEq, and_self, and_true, true_and, ne_eq, not_true_eq_false, not_false_eq_true, req_true, q.gDG, q.pDG, e1, isTD, halfT]
    | false =>
      have hz : halfT d = (0, 1) := by
        cases d with
        | int i => cases w
        | ins _ _ _ => cases w
        | _ => rfl
      rw [w] at e1
      rw [hz]
      simp only [env0, evB, evC, ee, evs, ebs, ets, fin, bR, bA, bB, truD, backS, Rz.d, isOwn, setAll, isCal, gloCall, argsOf, cmpD, eqD, negD, binD, intOp, bltD, List.map_cons, List.map_nil, List.length_cons, List.length_nil, List.replicate_succ, List.replicate_zero, List.append_nil, List.cons_append, List.nil_append, List.getElem?_cons_zero, List.getElem?_cons_succ, List.set_cons_zero, List.set_cons_succ, Option.map_some, Option.map_none, Option.bind_some, Option.bind_none, if_true, if_false, reduceIte, Bool.false_eq_true, Bool.not_true, Bool.not_false, Nat.reduceAdd, Nat.reduceSub, Nat.sub_self, List.any_cons, List.any_nil, Bool.or_false, Bool.false_or, Bool.or_self, Bool.and_true, Bool.and_self, Bool.and_false, Bool.false_and, Bool.true_and, Nat.reduceLeDiff, Nat.reduceEqDiff, decide_true, decide_false, Bool.true_eq_false, reduceCtorEq, and_self, and_true, true_and, ne_eq, not_true_eq_false, not_false_eq_true, req_true, q.gDG, q.pDG, e1]
theorem shown_ok (n d : Int) (hn : n.natAbs.log2 < 1000) (hd : d.natAbs.log2 < 1000) : Tn G (k + 1) md "_law_shown" [.im (.tup [.int n, .int d])] = some (.im (.str (ratRepr n d)), [.im (.tup [.int n, .int d])]) := by
  have wn : n.natAbs.log2 < 1920 := by omega
  have wd : d.natAbs.log2 < 1920 := by omega
  have ln := int_len hn
  have ld := int_len hd
  have z1 : (Str.ofString "Ratio(").length = 6 := rfl
  have z2 : (Str.ofString ", ").length = 2 := rfl
  have z3 : (Str.ofString ")").length = 1 := rfl
  have z : 5000 ≤ sizeLine := by decide
  have l1 : (Str.ofString "Ratio(").length + (Str.ofString (toString n)).length ≤ sizeLine := by omega
  have l2 : (Str.ofString "Ratio(" ++ Str.ofString (toString n)).length + (Str.ofString ", ").length ≤ sizeLine := by rw [app_len]; omega
  have l3 : (Str.ofString "Ratio(" ++ Str.ofString (toString n) ++ Str.ofString ", ").length + (Str.ofString (toString d)).length ≤ sizeLine := by rw [app_len, app_len]; omega
  have l4 : (Str.ofString "Ratio(" ++ Str.ofString (toString n) ++ Str.ofString ", " ++ Str.ofString (toString d)).length + (Str.ofString ")").length ≤ sizeLine := by rw [app_len, app_len, app_len]; omega
  have hr : Str.ofString "Ratio(" ++ Str.ofString (toString n) ++ Str.ofString ", " ++ Str.ofString (toString d) ++ Str.ofString ")" = ratRepr n d := rfl
  have a0 : subD (.tup [.int n, .int d]) (.int 0) = some (.int n) := rfl
  have a1 : subD (.tup [.int n, .int d]) (.int 1) = some (.int d) := rfl
  rw [tn_run q.fSH rfl]
  unfold cLawShown
  dsimp only
  simp only [env0, evB, evC, ee, evs, ebs, ets, fin, bR, bA, bB, truD, backS, Rz.d, isOwn, setAll, isCal, gloCall, argsOf, cmpD, eqD, negD, binD, intOp, bltD, List.map_cons, List.map_nil, List.length_cons, List.length_nil, List.replicate_succ, List.replicate_zero, List.append_nil, List.cons_append, List.nil_append, List.getElem?_cons_zero, List.getElem?_cons_succ, List.set_cons_zero, List.set_cons_succ, Option.map_some, Option.map_none, Option.bind_some, Option.bind_none, if_true, if_false, reduceIte, Bool.false_eq_true, Bool.not_true, Bool.not_false, Nat.reduceAdd, Nat.reduceSub, Nat.sub_self, List.any_cons, List.any_nil, Bool.or_false, Bool.false_or, Bool.or_self, Bool.and_true, Bool.and_self, Bool.and_false, Bool.false_and, Bool.true_and, Nat.reduceLeDiff, Nat.reduceEqDiff, decide_true, decide_false, Bool.true_eq_false, reduceCtorEq, and_self, and_true, true_and, ne_eq, not_true_eq_false, not_false_eq_true, req_true, a0, a1, req_pos wn, req_pos wd, req_pos l1, req_pos l2, req_pos l3, req_pos l4, hr]
/-- data that may be shown -/
theorem blt_rep (hk : md.gk = true) (d : D) (o : Odd A d) (hp : dpD d ≤ 4) (hs : lnD d ≤ sizeLine) : bltD G (Tn G (k + 2)) md .repr [d] = some (.im (.str (txD d))) := by
  have e := rep_odd h k md d o hp hs
  have : bltD G (Tn G (k + 2)) md .repr [d] = req (md.gk = true) ((reprD G (Tn G (k + 2)) md d).map fun t => .im (.str t)) := by
    cases d <;> rfl
  rw [this, req_pos hk, e]
  rfl
theorem bad_is {x y z : D} (hb : badOf x y = some z) : z = x ∨ z = y := by
  unfold badOf at hb
  split at hb
  · cases hb; exact .inl rfl
  · split at hb
    · cases hb; exact .inr rfl
    · split at hb
      · cases hb; exact .inr rfl
      · cases hb
structure Shw (A : Addr) (d : D) : Prop where
  o : Odd A d
  p : dpD d ≤ 4
  l : lnD d ≤ sizeLine
theorem made_ok (hcm : md.calm = true) (hk : md.gk = true) (x y : D) (ox : Shw A x) (oy : Shw A y) : Tn G (k + 3) md "_law_made" [.im x, .im y] = some (.im (prD (dueT x y)), [.im x, .im y]) := by
  rw [tn_run q.fMA rfl]
  unfold cLawMade
  dsimp only
  unfold dueT
  cases hb : badOf x y with
  | some z =>
    have oz : Shw A z := by
      rcases bad_is h f q hb with rfl | rfl
      · exact ox
      · exact oy
    have mb := mk_bad h f k md hcm x y z ox.o oy.o hb
    have re := rep_odd h k ⟨md.gk, false⟩ z oz.o oz.p oz.l
    have lk := lk1 z
    dsimp only [prD]
    rw [evB_rt (δ1 := [some (.im x), some (.im y), none, none]) (r := .im (.tup [.str "raised", .str (txD z)])) ?h]
    case h => simp only [env0, evB, evC, ee, evs, ebs, ets, fin, bR, bA, bB, truD, backS, Rz.d, isOwn, setAll, isCal, gloCall, argsOf, cmpD, eqD, negD, binD, intOp, bltD, List.map_cons, List.map_nil, List.length_cons, List.length_nil, List.replicate_succ, List.replicate_zero, List.append_nil, List.cons_append, List.nil_append, List.getElem?_cons_zero, List.getElem?_cons_succ, List.set_cons_zero, List.set_cons_succ, Option.map_some, Option.map_none, Option.bind_some, Option.bind_none, if_true, if_false, reduceIte, Bool.false_eq_true, Bool.not_true, Bool.not_false, Nat.reduceAdd, Nat.reduceSub, Nat.sub_self, List.any_cons, List.any_nil, Bool.or_false, Bool.false_or, Bool.or_self, Bool.and_true, Bool.and_self, Bool.and_false, Bool.false_and, Bool.true_and, Nat.reduceLeDiff, Nat.reduceEqDiff, decide_true, decide_false, Bool.true_eq_false, reduceCtorEq, and_self, and_true, true_and, ne_eq, not_true_eq_false, not_false_eq_true, req_true, h.gRA, f.p3, behind, mb, hcm, f.ex, List.all_cons, List.all_nil, Option.isSome_some, hdGo, f.xm, xe, xes, f.xf, lk, req_pos hk, re]
    simp only [env0, evB, evC, ee, evs, ebs, ets, fin, bR, bA, bB, truD, backS, Rz.d, isOwn, setAll, isCal, gloCall, argsOf, cmpD, eqD, negD, binD, intOp, bltD, List.map_cons, List.map_nil, List.length_cons, List.length_nil, List.replicate_succ, List.replicate_zero, List.append_nil, List.cons_append, List.nil_append, List.getElem?_cons_zero, List.getElem?_cons_succ, List.set_cons_zero, List.set_cons_succ, Option.map_some, Option.map_none, Option.bind_some, Option.bind_none, if_true, if_false, reduceIte, Bool.false_eq_true, Bool.not_true, Bool.not_false, Nat.reduceAdd, Nat.reduceSub, Nat.sub_self, List.any_cons, List.any_nil, Bool.or_false, Bool.false_or, Bool.or_self, Bool.and_true, Bool.and_self, Bool.and_false, Bool.false_and, Bool.true_and, Nat.reduceLeDiff, Nat.reduceEqDiff, decide_true, decide_false, Bool.true_eq_false, reduceCtorEq, and_self, and_true, true_and, ne_eq, not_true_eq_false, not_false_eq_true]
  | none =>
    obtain ⟨t, b, rfl, rfl, b0⟩ := good_of h f hb
    have ot := ox.o
    have ob := oy.o
    simp only [Odd] at ot ob
    have mk := make_ok h k md hcm t b b0 (lt9000 ob)
    have lr := rep_rat h k md (lN t b) (lD t b) (log1000 (Nat.lt_of_le_of_lt (lN_le t b) ot)) (log1000 (Nat.lt_of_le_of_lt (lD_le t b) ob))
    have br : bltD G (Tn G (k + 2)) md .repr [rat A (lN t b) (lD t b)] = some (.im (.str (ratRepr (lN t b) (lD t b)))) := by
      show req (md.gk = true) ((reprD G (Tn G (k + 2)) md (rat A (lN t b) (lD t b))).map fun t => Rz.im (.str t)) = _
      rw [req_pos hk, lr]; rfl
    dsimp only [prD, halfT]
    rw [evB_nx (δ1 := [some (.im (.int t)), some (.im (.int b)), some (.im (rat A (lN t b) (lD t b))), none]) ?h]
    case h => simp only [env0, evB, evC, ee, evs, ebs, ets, fin, bR, bA, bB, truD, backS, Rz.d, isOwn, setAll, isCal, gloCall, argsOf, cmpD, eqD, negD, binD, intOp, bltD, List.map_cons, List.map_nil, List.length_cons, List.length_nil, List.replicate_succ, List.replicate_zero, List.append_nil, List.cons_append, List.nil_append, List.getElem?_cons_zero, List.getElem?_cons_succ, List.set_cons_zero, List.set_cons_succ, Option.map_some, Option.map_none, Option.bind_some, Option.bind_none, if_true, if_false, reduceIte, Bool.false_eq_true, Bool.not_true, Bool.not_false, Nat.reduceAdd, Nat.reduceSub, Nat.sub_self, List.any_cons, List.any_nil, Bool.or_false, Bool.false_or, Bool.or_self, Bool.and_true, Bool.and_self, Bool.and_false, Bool.false_and, Bool.true_and, Nat.reduceLeDiff, Nat.reduceEqDiff, decide_true, decide_false, Bool.true_eq_false, reduceCtorEq, and_self, and_true, true_and, ne_eq, not_true_eq_false, not_false_eq_true, req_true, h.gRA, f.p3, behind, mk, hcm, f.ex, List.all_cons, List.all_nil, Option.isSome_some]
    simp only [env0, evB, evC, ee, evs, ebs, ets, fin, bR, bA, bB, truD, backS, Rz.d, isOwn, setAll, isCal, gloCall, argsOf, cmpD, eqD, negD, binD, intOp, bltD, List.map_cons, List.map_nil, List.length_cons, List.length_nil, List.replicate_succ, List.replicate_zero, List.append_nil, List.cons_append, List.nil_append, List.getElem?_cons_zero, List.getElem?_cons_succ, List.set_cons_zero, List.set_cons_succ, Option.map_some, Option.map_none, Option.bind_some, Option.bind_none, if_true, if_false, reduceIte, Bool.false_eq_true, Bool.not_true, Bool.not_false, Nat.reduceAdd, Nat.reduceSub, Nat.sub_self, List.any_cons, List.any_nil, Bool.or_false, Bool.false_or, Bool.or_self, Bool.and_true, Bool.and_self, Bool.and_false, Bool.false_and, Bool.true_and, Nat.reduceLeDiff, Nat.reduceEqDiff, decide_true, decide_false, Bool.true_eq_false, reduceCtorEq, and_self, and_true, true_and, ne_eq, not_true_eq_false, not_false_eq_true, req_true, ↓br]
theorem due_ok (lo : HLo G) (hcm : md.calm = true) (hk : md.gk = true) (x y : D) (ox : Shw A x) (oy : Shw A y) : Tn G (k + 3) md "_law_due" [.im x, .im y] = some (.im (prD (dueT x y)), [.im x, .im y]) := by
  have w1 := whole_odd h f q (k + 1) md x ox.o
  have w2 := whole_odd h f q (k + 1) md y oy.o
  have b1 := blt_rep h f q k md hk x ox.o ox.p ox.l
  have b2 := blt_rep h f q k md hk y oy.o oy.p oy.l
  rw [tn_run q.fDU rfl]
  unfold cLawDue
  dsimp only
  cases wx : isW x with
  | false =>
    have e : dueT x y = (Str.ofString "raised", txD x) := by unfold dueT badOf; rw [wx, if_pos rfl]
    rw [wx] at w1
    rw [e]
    simp only [env0, evB, evC, ee, evs, ebs, ets, fin, bR, bA, bB, truD, backS, Rz.d, isOwn, setAll, isCal, gloCall, argsOf, cmpD, eqD, negD, binD, intOp, bltD, List.map_cons, List.map_nil, List.length_cons, List.length_nil, List.replicate_succ, List.replicate_zero, List.append_nil, List.cons_append, List.nil_append, List.getElem?_cons_zero, List.getElem?_cons_succ, List.set_cons_zero, List.set_cons_succ, Option.map_some, Option.map_none, Option.bind_some, Option.bind_none, if_true, if_false, reduceIte, Bool.false_eq_true, Bool.not_true, Bool.not_false, Nat.reduceAdd, Nat.reduceSub, Nat.sub_self, List.any_cons, List.any_nil, Bool.or_false, Bool.false_or, Bool.or_self, Bool.and_true, Bool.and_self, Bool.and_false, Bool.false_and, Bool.true_and, Nat.reduceLeDiff, Nat.reduceEqDiff, decide_true, decide_false, Bool.true_eq_false, reduceCtorEq, and_self, and_true, true_and, ne_eq, not_true_eq_false, not_false_eq_true, req_true, q.gWH, q.pWH, w1, ↓b1, prD]
  | true =>
    rw [wx] at w1
    cases wy : isW y with
    | false =>
      have e : dueT x y = (Str.ofString "raised", txD y) := by unfold dueT badOf; rw [wx, if_neg (by decide), wy, if_pos rfl]
      rw [wy] at w2
      rw [e]
      simp only [env0, evB, evC, ee, evs, ebs, ets, fin, bR, bA, bB, truD, backS, Rz.d, isOwn, setAll, isCal, gloCall, argsOf, cmpD, eqD, negD, binD, intOp, bltD, List.map_cons, List.map_nil, List.length_cons, List.length_nil, List.replicate_succ, List.replicate_zero, List.append_nil, List.cons_append, List.nil_append, List.getElem?_cons_zero, List.getElem?_cons_succ, List.set_cons_zero, List.set_cons_succ, Option.map_some, Option.map_none, Option.bind_some, Option.bind_none, if_true, if_false, reduceIte, Bool.false_eq_true, Bool.not_true, Bool.not_false, Nat.reduceAdd, Nat.reduceSub, Nat.sub_self, List.any_cons, List.any_nil, Bool.or_false, Bool.false_or, Bool.or_self, Bool.and_true, Bool.and_self, Bool.and_false, Bool.false_and, Bool.true_and, Nat.reduceLeDiff, Nat.reduceEqDiff, decide_true, decide_false, Bool.true_eq_false, reduceCtorEq, and_self, and_true, true_and, ne_eq, not_true_eq_false, not_false_eq_true, req_true, q.gWH, q.pWH, w1, w2, ↓b2, prD]
    | true =>
      rw [wy] at w2
      obtain ⟨t, rfl⟩ := isW_int h f wx
      obtain ⟨b, rfl⟩ := isW_int h f wy
      by_cases b0 : b = 0
      · subst b0
        have e : dueT (.int t) (.int 0) = (Str.ofString "raised", txD (.int 0)) := rfl
        rw [e]
        simp only [env0, evB, evC, ee, evs, ebs, ets, fin, bR, bA, bB, truD, backS, Rz.d, isOwn, setAll, isCal, gloCall, argsOf, cmpD, eqD, negD, binD, intOp, bltD, List.map_cons, List.map_nil, List.length_cons, List.length_nil, List.replicate_succ, List.replicate_zero, List.append_nil, List.cons_append, List.nil_append, List.getElem?_cons_zero, List.getElem?_cons_succ, List.set_cons_zero, List.set_cons_succ, Option.map_some, Option.map_none, Option.bind_some, Option.bind_none, if_true, if_false, reduceIte, Bool.false_eq_true, Bool.not_true, Bool.not_false, Nat.reduceAdd, Nat.reduceSub, Nat.sub_self, List.any_cons, List.any_nil, Bool.or_false, Bool.false_or, Bool.or_self, Bool.and_true, Bool.and_self, Bool.and_false, Bool.false_and, Bool.true_and, Nat.reduceLeDiff, Nat.reduceEqDiff, decide_true, decide_false, Bool.true_eq_false, reduceCtorEq, and_self, and_true, true_and, ne_eq, not_true_eq_false, not_false_eq_true, req_true, q.gWH, q.pWH, w1, w2, ↓b2, prD]
      · have e : dueT (.int t) (.int b) = (Str.ofString "told", ratRepr (lN t b) (lD t b)) := by
          have : badOf (.int t) (.int b) = none := by
            unfold badOf
            rw [if_neg (by rw [wx]; decide), if_neg (by rw [wy]; decide)]
            split
            · rename_i hh; cases hh; exact absurd rfl b0
            · rfl
          unfold dueT
          rw [this]
          rfl
        have ot := ox.o
        have ob := oy.o
        simp only [Odd] at ot ob
        have lo1 := lowest_ok lo k md hcm t b b0 (lt9000 ob)
        have sh1 := shown_ok h f q (k + 1) md (lN t b) (lD t b) (log1000 (Nat.lt_of_le_of_lt (lN_le t b) ot)) (log1000 (Nat.lt_of_le_of_lt (lD_le t b) ob))
        rw [e]
        simp only [env0, evB, evC, ee, evs, ebs, ets, fin, bR, bA, bB, truD, backS, Rz.d, isOwn, setAll, isCal, gloCall, argsOf, cmpD, eqD, negD, binD, intOp, bltD, List.map_cons, List.map_nil, List.length_cons, List.length_nil, List.replicate_succ, List.replicate_zero, List.append_nil, List.cons_append, List.nil_append, List.getElem?_cons_zero, List.getElem?_cons_succ, List.set_cons_zero, List.set_cons_succ, Option.map_some, Option.map_none, Option.bind_some, Option.bind_none, if_true, if_false, reduceIte, Bool.false_eq_true, Bool.not_true, Bool.not_false, Nat.reduceAdd, Nat.reduceSub, Nat.sub_self, List.any_cons, List.any_nil, Bool.or_false, Bool.false_or, Bool.or_self, Bool.and_true, Bool.and_self, Bool.and_false, Bool.false_and, Bool.true_and, Nat.reduceLeDiff, Nat.reduceEqDiff, decide_true, decide_false, Bool.true_eq_false, reduceCtorEq, and_self, and_true, true_and, ne_eq, not_true_eq_false, not_false_eq_true, req_true, q.gWH, q.pWH, w1, w2, b0, lo.gLO, lo.pLO, lo1, q.gSH, q.pSH, sh1, prD]
theorem half_bd (x : D) (o : Odd A x) : (halfT x).1.natAbs < 2 ^ 500 ∧ (halfT x).2.natAbs < 2 ^ 500 := by
  have one : (1 : Int).natAbs < 2 ^ 500 := lt2 (by decide : (1 : Int).natAbs < 2 ^ 1) (by decide)
  have zero : (0 : Int).natAbs < 2 ^ 500 := lt2 (by decide : (0 : Int).natAbs < 2 ^ 1) (by decide)
  rcases isC_odd h f x o with ⟨e2, a, b, rfl, h1, h2, _⟩ | ⟨e2, e3⟩
  · exact ⟨h1, h2⟩
  · cases x with
    | int i => exact ⟨o, one⟩
    | ins _ _ _ => cases e3
    | _ => exact ⟨zero, one⟩
theorem parted_ok (nu : HNum G A) (ov : HOv G A) (hcm : md.calm = true) (hk : md.gk = true) (n e : Int) (hn : n.natAbs < 2 ^ 200) (he : e.natAbs < 2 ^ 200) (he0 : e ≠ 0) (x : D) (ox : Shw A x) :
    Tn G (k + 5) md "_law_parted" [.im (rat A n e), .im x] = some (.im (prD (if (halfT x).1 = 0 then (Str.ofString "raised", txD x) else (Str.ofString "told", ratRepr (lN (n * (halfT x).2) (e * (halfT x).1)) (lD (n * (halfT x).2) (e * (halfT x).1))))), [.im (rat A n e), .im x]) := by
  have hm : hasM G (rat A n e) "over" = true := by
    show ((G.meth A (Str.ofString "over")).isSome && (([Str.ofString "numerator_here", Str.ofString "denominator_here"].zip [D.int n, D.int e]).lookup (Str.ofString "over")).isNone) = true
    rw [ov.mOV]
    simp only [List.zip_cons_cons, List.zip_nil_right, List.lookup, show (Str.ofString "over" == Str.ofString "numerator_here") = false by decide, show (Str.ofString "over" == Str.ofString "denominator_here") = false by decide]
    rfl
  have hn4 : n.natAbs < 2 ^ 400 := Nat.lt_of_lt_of_le hn (Nat.pow_le_pow_right (by decide) (by decide))
  have he4 : e.natAbs < 2 ^ 400 := Nat.lt_of_lt_of_le he (Nat.pow_le_pow_right (by decide) (by decide))
  have mc : ∀ r, Tn G (k + 4) md "Ratio.over" [.im (rat A n e), .im x] = some (r, [.im (rat A n e), .im x]) → methCall G (Tn G (k + 4)) md (rat A n e) "over" 1 [] [x] = some r := by
    intro r hr
    show (G.meth A (Str.ofString "over")).bind _ = _
    rw [ov.mOV]
    simp only [Option.bind_some, Nat.reduceAdd, ov.pOV, argsOf, List.getElem?_cons_zero, List.getElem?_cons_succ, Option.map_some]
    show Option.map (fun x => x.fst) (Tn G (k + 4) md (Str.ofString "Ratio.over") [.im (rat A n e), .im x]) = some r
    rw [hr]
    rfl
  rw [tn_run q.fPA rfl]
  unfold cLawParted
  dsimp only
  by_cases hz : (halfT x).1 = 0
  · have ob := mc _ (over_bad h f k md hcm nu ov n e x ox.o hz)
    have re := rep_odd h (k + 2) ⟨md.gk, false⟩ x ox.o ox.p ox.l
    have lk := lk1 x
    rw [if_pos hz]
    dsimp only [prD]
    rw [evB_rt (δ1 := [some (.im (rat A n e)), some (.im x), none, none]) (r := .im (.tup [.str "raised", .str (txD x)])) ?h]
    case h => simp only [env0, evB, evC, ee, evs, ebs, ets, fin, bR, bA, bB, truD, backS, Rz.d, isOwn, setAll, isCal, gloCall, argsOf, cmpD, eqD, negD, binD, intOp, bltD, List.map_cons, List.map_nil, List.length_cons, List.length_nil, List.replicate_succ, List.replicate_zero, List.append_nil, List.cons_append, List.nil_append, List.getElem?_cons_zero, List.getElem?_cons_succ, List.set_cons_zero, List.set_cons_succ, Option.map_some, Option.map_none, Option.bind_some, Option.bind_none, if_true, if_false, reduceIte, Bool.false_eq_true, Bool.not_true, Bool.not_false, Nat.reduceAdd, Nat.reduceSub, Nat.sub_self, List.any_cons, List.any_nil, Bool.or_false, Bool.false_or, Bool.or_self, Bool.and_true, Bool.and_self, Bool.and_false, Bool.false_and, Bool.true_and, Nat.reduceLeDiff, Nat.reduceEqDiff, decide_true, decide_false, Bool.true_eq_false, reduceCtorEq, and_self, and_true, true_and, ne_eq, not_true_eq_false, not_false_eq_true, req_true, hm, ob, hcm, f.ex, List.all_cons, List.all_nil, Option.isSome_some, hdGo, f.xm, xe, xes, f.xf, lk, req_pos hk, re]
    simp only [env0, evB, evC, ee, evs, ebs, ets, fin, bR, bA, bB, truD, backS, Rz.d, isOwn, setAll, isCal, gloCall, argsOf, cmpD, eqD, negD, binD, intOp, bltD, List.map_cons, List.map_nil, List.length_cons, List.length_nil, List.replicate_succ, List.replicate_zero, List.append_nil, List.cons_append, List.nil_append, List.getElem?_cons_zero, List.getElem?_cons_succ, List.set_cons_zero, List.set_cons_succ, Option.map_some, Option.map_none, Option.bind_some, Option.bind_none, if_true, if_false, reduceIte, Bool.false_eq_true, Bool.not_true, Bool.not_false, Nat.reduceAdd, Nat.reduceSub, Nat.sub_self, List.any_cons, List.any_nil, Bool.or_false, Bool.false_or, Bool.or_self, Bool.and_true, Bool.and_self, Bool.and_false, Bool.false_and, Bool.true_and, Nat.reduceLeDiff, Nat.reduceEqDiff, decide_true, decide_false, Bool.true_eq_false, reduceCtorEq, and_self, and_true, true_and, ne_eq, not_true_eq_false, not_false_eq_true]
  · have og := mc _ (over_good h f k md hcm nu ov n e hn4 he4 he0 x ox.o hz)
    rw [if_neg hz]
    obtain ⟨ha, hb⟩ : (halfT x).1.natAbs < 2 ^ 500 ∧ (halfT x).2.natAbs < 2 ^ 500 := half_bd h f q x ox.o
    generalize halfT x = ab at *
    obtain ⟨a, b⟩ := ab
    dsimp only at *
    have lr := rep_rat h (k + 2) md (lN (n * b) (e * a)) (lD (n * b) (e * a)) (log900 (Nat.lt_of_le_of_lt (lN_le _ _) (mul_log hn4 hb))) (log900 (Nat.lt_of_le_of_lt (lD_le _ _) (mul_log he4 ha)))
    have br : bltD G (Tn G (k + 4)) md .repr [rat A (lN (n * b) (e * a)) (lD (n * b) (e * a))] = some (.im (.str (ratRepr (lN (n * b) (e * a)) (lD (n * b) (e * a))))) := by
      show req (md.gk = true) ((reprD G (Tn G (k + 4)) md (rat A (lN (n * b) (e * a)) (lD (n * b) (e * a)))).map fun t => Rz.im (.str t)) = _
      rw [req_pos hk, lr]; rfl
    dsimp only [prD]
    rw [evB_nx (δ1 := [some (.im (rat A n e)), some (.im x), some (.im (rat A (lN (n * b) (e * a)) (lD (n * b) (e * a)))), none]) ?h]
    case h => simp only [env0, evB, evC, ee, evs, ebs, ets, fin, bR, bA, bB, truD, backS, Rz.d, isOwn, setAll, isCal, gloCall, argsOf, cmpD, eqD, negD, binD, intOp, bltD, List.map_cons, List.map_nil, List.length_cons, List.length_nil, List.replicate_succ, List.replicate_zero, List.append_nil, List.cons_append, List.nil_append, List.getElem?_cons_zero, List.getElem?_cons_succ, List.set_cons_zero, List.set_cons_succ, Option.map_some, Option.map_none, Option.bind_some, Option.bind_none, if_true, if_false, reduceIte, Bool.false_eq_true, Bool.not_true, Bool.not_false, Nat.reduceAdd, Nat.reduceSub, Nat.sub_self, List.any_cons, List.any_nil, Bool.or_false, Bool.false_or, Bool.or_self, Bool.and_true, Bool.and_self, Bool.and_false, Bool.false_and, Bool.true_and, Nat.reduceLeDiff, Nat.reduceEqDiff, decide_true, decide_false, Bool.true_eq_false, reduceCtorEq, and_self, and_true, true_and, ne_eq, not_true_eq_false, not_false_eq_true, req_true, hm, og, hcm, f.ex, List.all_cons, List.all_nil, Option.isSome_some]
    simp only [env0, evB, evC, ee, evs, ebs, ets, fin, bR, bA, bB, truD, backS, Rz.d, isOwn, setAll, isCal, gloCall, argsOf, cmpD, eqD, negD, binD, intOp, bltD, List.map_cons, List.map_nil, List.length_cons, List.length_nil, List.replicate_succ, List.replicate_zero, List.append_nil, List.cons_append, List.nil_append, List.getElem?_cons_zero, List.getElem?_cons_succ, List.set_cons_zero, List.set_cons_succ, Option.map_some, Option.map_none, Option.bind_some, Option.bind_none, if_true, if_false, reduceIte, Bool.false_eq_true, Bool.not_true, Bool.not_false, Nat.reduceAdd, Nat.reduceSub, Nat.sub_self, List.any_cons, List.any_nil, Bool.or_false, Bool.false_or, Bool.or_self, Bool.and_true, Bool.and_self, Bool.and_false, Bool.false_and, Bool.true_and, Nat.reduceLeDiff, Nat.reduceEqDiff, decide_true, decide_false, Bool.true_eq_false, reduceCtorEq, and_self, and_true, true_and, ne_eq, not_true_eq_false, not_false_eq_true, req_true, ↓br]
end
end RE
set_option Elab.async false
set_option linter.all false
set_option maxRecDepth 100000
set_option autoImplicit false
set_option maxHeartbeats 1000000
set_option exponentiation.threshold 20000
/-! S5c: k05: the law, read. -/
namespace RE
open PySem L2 TL MA
def forB5 : List C := [.set 8 (.tup [.str "raised", .blt .repr [.var 7]]), .set 9 (.call "_law_half" [.var 7] [] []), .ifs (.cmp .NotEq (.sub (.var 9) (.int 0)) (.int 0)) [.set 8 (.tup [.str "told", .call "_law_shown" [.call "_law_lowest" [.bin .Mult (.sub (.var 4) (.int 0)) (.sub (.var 9) (.int 1)), .bin .Mult (.sub (.var 4) (.int 1)) (.sub (.var 9) (.int 0))] [] []] [] []])] [], .ifs (.cmp .NotEq (.call "_law_parted" [.var 5, .var 7] [] []) (.var 8)) [.ret (.bl false)] []]
def cLawRight : Fc := { ps := ["_law_q"], N := ["_law_q", "_law_one", "_law_two", "_law_kept", "_law_pair", "_law_mine", "_law_zero", "_law_thing_here", "_law_due_here", "_law_half_here"], po := true, body := [.par [1, 2] [.callO "_law_thing" 0 [], .callO "_law_thing" 0 []],
    .set 3 (.lst [.blt .repr [.var 1], .blt .repr [.var 2]]),
    .ifs (.bop false [.cmp .NotEq (.call "_law_made" [.var 1, .var 2] [] []) (.call "_law_due" [.var 1, .var 2] [] []), .cmp .NotEq (.call "_law_made" [.var 1, .int 1] [] []) (.call "_law_due" [.var 1, .int 1] [] [])]) [.ret (.bl false)] [],
    .ifs (.bop false [.cmp .NotEq (.call "_law_made" [.int 3, .var 2] [] []) (.call "_law_due" [.int 3, .var 2] [] []), .cmp .NotEq (.lst [.blt .repr [.var 1], .blt .repr [.var 2]]) (.var 3)]) [.ret (.bl false)] [],
    .set 4 (.call "_law_lowest" [.callO "_law_great" 0 [], .bin .Add (.int 1) (.callO "_law_draw" 0 [.int 50])] [] []),
    .set 5 (.call "Ratio" [.sub (.var 4) (.int 0), .sub (.var 4) (.int 1)] [] []),
    .set 6 (.call "Ratio" [.int 0, .bin .Add (.int 1) (.callO "_law_draw" 0 [.int 9])] [] []),
    .for_ (.one 7) .seq [.lst [.var 2, .var 6, .int 0, .call "Ratio" [.neg (.int 2), .int 3] [] []]] forB5,
    .ret (.cmp .Eq (.blt .repr [.var 5]) (.call "_law_shown" [.var 4] [] []))] }
def cLaw : Fc := { ps := ["_law_script"], N := ["_law_script", "_law_k"], po := true, body := [.ifs (.bop false [.cmp .NotEq (.call "_law_made" [.bl true, .int 0] [] []) (.tup [.str "raised", .str "True"]), .cmp .NotEq (.call "_law_made" [.int 1, .bl false] [] []) (.tup [.str "raised", .str "False"])]) [.ret (.bl false)] [],
    .ifs (.bop false [.cmp .NotEq (.call "_law_made" [.non, .non] [] []) (.tup [.str "raised", .str "None"]), .cmp .NotEq (.call "_law_made" [.int 5, .int 0] [] []) (.tup [.str "raised", .str "0"])]) [.ret (.bl false)] [],
    .ret (.blt .all [.lc (.one 1) .rng [.blt .max [.int 1, .blt .min [.blt .len [.var 0], .int 6]]] [] (.callF "_law_right" (.call "_law_from" [.var 0, .var 1] [] []) [])])] }
structure HL5 (G : Gx) (A C : Addr) : Prop where
  h : HRat G A
  f : HRef G A C
  q : HK5 G
  od : HOd G
  lo : HLo G
  nu : HNum G A
  ov : HOv G A
/-- two pairs of texts are alike -/
theorem eq_pr {G : Gx} {T : Tb} {md : Md} {t : Str × Str} (h1 : PyData.strOk t.1 = true) (h2 : PyData.strOk t.2 = true) : eqD G T md (prD t) (prD t) = some true := by
  have hx : (prD t).Ok := ⟨h1, h2, trivial⟩
  have hd : (prD t).py.depth ≤ 64 := Nat.le_of_ble_eq_true rfl
  have hq : (prD t).Ok ∧ (prD t).Ok ∧ (prD t).py.depth ≤ 64 ∧ (prD t).py.depth ≤ 64 := ⟨hx, hx, hd, hd⟩
  have e : PyData.eqv (prD t).py (prD t).py = true := by
    show PyData.eqv (.tuple [.str t.1, .str t.2]) (.tuple [.str t.1, .str t.2]) = true
    simp [PyData.eqv, PyData.eqvAll]
  unfold prD at *
  simp only [eqD, req_pos hq, e]
theorem eq_ls {G : Gx} {T : Tb} {md : Md} {a b : Str} (h1 : PyData.strOk a = true) (h2 : PyData.strOk b = true) : eqD G T md (.lst [.str a, .str b]) (.lst [.str a, .str b]) = some true := by
  have hx : (D.lst [.str a, .str b]).Ok := ⟨h1, h2, trivial⟩
  have hd : (D.lst [.str a, .str b]).py.depth ≤ 64 := Nat.le_of_ble_eq_true rfl
  have hq : (D.lst [.str a, .str b]).Ok ∧ (D.lst [.str a, .str b]).Ok ∧ (D.lst [.str a, .str b]).py.depth ≤ 64 ∧ (D.lst [.str a, .str b]).py.depth ≤ 64 := ⟨hx, hx, hd, hd⟩
  have e : PyData.eqv (D.lst [.str a, .str b]).py (D.lst [.str a, .str b]).py = true := by
    show PyData.eqv (.list [.str a, .str b]) (.list [.str a, .str b]) = true
    simp [PyData.eqv, PyData.eqvAll]
  simp only [eqD, req_pos hq, e]
theorem for_inv {b : TL.Env → Option Ou} {g : Tg} (I : TL.Env → Prop) : ∀ (xs : List D) (δ : TL.Env), I δ → (∀ x ∈ xs, ∀ δ, I δ → ∃ δ0 δ2, setTg δ g x = some δ0 ∧ b δ0 = some (.nx δ2) ∧ I δ2) → ∃ δ', forGo b g xs δ = some (.nx δ') ∧ I δ'
  | [], δ, hi, _ => ⟨δ, rfl, hi⟩
  | x :: xs, δ, hi, hs => by
    obtain ⟨δ0, δ2, h1, h2, h3⟩ := hs x (List.mem_cons_self ..) δ hi
    obtain ⟨δ', h4, h5⟩ := for_inv I xs δ2 h3 (fun y hy => hs y (List.mem_cons_of_mem _ hy))
    exact ⟨δ', by simp only [forGo, h1, h2, h4], h5⟩
theorem evC_for {G : Gx} {T : Tb} {md : Md} (hcm : md.calm = true) {g : Tg} {kd : Ik} {its : List E} {b : List C} {δ δ1 : TL.Env} {ds xs : List D} {o : Ou} (h1 : evs G T md its δ = some (.inl ds, δ1)) (h2 : itD G.K kd ds = some xs) (h3 : forGo (evB G T md b) g xs δ1 = some o) : evC G T md (.for_ g kd its b) δ = some o := by
  simp only [evC, h1, h2, Option.bind_some, h3, if_pos hcm]
theorem ownCall_im (d : D) (oc : OC) (l : List S) (i : Nat) (δ : TL.Env) : ownCall (some (.im d, .own oc :: l)) i δ = some (.im d, δ.set i (some (.own oc))) := rfl
section
variable {G : Gx} {A C : Addr} (w : HL5 G A C) (k : Nat) (md : Md) (hcm : md.calm = true)
include w hcm
theorem due_tx (x y : D) (ox : Shw A x) (oy : Shw A y) : PyData.strOk (dueT x y).1 = true ∧ PyData.strOk (dueT x y).2 = true := by
  unfold dueT
  cases hb : badOf x y with
  | some z =>
    rcases bad_is w.h w.f w.q hb with rfl | rfl
    · exact ⟨ok_ofS _, tx_ok A _ ox.o⟩
    · exact ⟨ok_ofS _, tx_ok A _ oy.o⟩
  | none => exact ⟨ok_ofS _, ok_ratRepr _ _⟩
theorem shw_int {i : Int} (h : i.natAbs < 2 ^ 500) : Shw A (.int i) := ⟨by simp only [Odd]; exact h, by simp only [dpD]; omega, by simp only [lnD]; rw [sizeLine_eq]; omega⟩
theorem shw_rat {a b : Int} (h1 : a.natAbs < 2 ^ 500) (h2 : b.natAbs < 2 ^ 500) (h3 : 0 < b) (h4 : Int.gcd a b = 1) : Shw A (rat A a b) := ⟨odd_rat h1 h2 h3 h4, by unfold rat; simp only [dpD]; omega, by unfold rat; simp only [lnD]; rw [sizeLine_eq]; omega⟩
theorem shw_odv {d : D} (h : Odv A 2 d) : Shw A d := ⟨h.o, by have := h.p; omega, by have := h.l; rw [sizeLine_eq]; omega⟩
theorem thing_ok (p : PU.Pu) (n : Nat) (hok : PU.Ok n p) (hn : n ≤ 1000) : ∃ d p', Tn G (k + 6) md "_law_thing" [.own (puD p)] = some (.im d, [.own (puD p')]) ∧ Shw A d ∧ PU.Ok (n + 100) p' := by
  obtain ⟨v, p1, d1, k1, r1⟩ := great_ok w.od.dr (k + 3) md w.od.gr p n hok (by omega)
  obtain ⟨r2, y2, p2, d2, e2, o2, k2⟩ := odd_ok w.h w.od k md hcm 2 p1 _ k1 (by omega)
  obtain ⟨r3, y3, p3, d3, e3, o3, k3⟩ := odd_ok w.h w.od k md hcm 2 p2 _ k2 (by omega)
  obtain ⟨x4, p4, d4, k4, r4⟩ := dr_ok w.od.dr (k + 4) md p3 _ k3 (by omega) 6 (by decide) (by decide)
  have c2 := fun (δ : TL.Env) l => ownCall_d e2 (puD p2) l 0 δ
  have c3 := fun (δ : TL.Env) l => ownCall_d e3 (puD p3) l 0 δ
  have i2 : ((2 : Nat) : Int) = 2 := rfl
  rw [i2] at d2 d3
  have d2' : Tn G (k + 5) md "_law_odd" [.own (puD p1), .im (.int 2)] = some (r2, [.own (puD p2), .im (.int 2)]) := d2
  have d3' : Tn G (k + 5) md "_law_odd" [.own (puD p2), .im (.int 2)] = some (r3, [.own (puD p3), .im (.int 2)]) := d3
  have big : 10 ^ 41 < 2 ^ 500 := Nat.lt_of_lt_of_le (by decide +kernel : 10 ^ 41 < 2 ^ 200) (Nat.pow_le_pow_right (by decide) (by decide))
  have sm : ∀ i : Int, i.natAbs ≤ 10 ^ 41 → Shw A (.int i) := fun i hi => shw_int w md hcm (Nat.lt_of_le_of_lt hi big)
  obtain ⟨d, hd, so⟩ : ∃ d, subD (.lst [.int 0, .int 1, .int (-7), .int v, y2, y3]) (.int x4) = some d ∧ Shw A d := by
    have : x4 = 0 ∨ x4 = 1 ∨ x4 = 2 ∨ x4 = 3 ∨ x4 = 4 ∨ x4 = 5 := by omega
    rcases this with rfl | rfl | rfl | rfl | rfl | rfl
    · exact ⟨_, rfl, sm _ (by decide)⟩
    · exact ⟨_, rfl, sm _ (by decide)⟩
    · exact ⟨_, rfl, sm _ (by decide)⟩
    · exact ⟨_, rfl, sm _ r1⟩
    · exact ⟨_, rfl, shw_odv w md hcm o2⟩
    · exact ⟨_, rfl, shw_odv w md hcm o3⟩
  refine ⟨d, p4, ?_, so, Ok_mono k4 (by omega)⟩
  rw [tn_run w.q.fTH rfl]
  unfold cLawThing
  dsimp only
  simp only [env0, evB, evC, ee, evs, ebs, ets, fin, bR, bA, bB, truD, backS, Rz.d, isOwn, setAll, isCal, gloCall, argsOf, cmpD, eqD, negD, binD, intOp, bltD, List.map_cons, List.map_nil, List.length_cons, List.length_nil, List.replicate_succ, List.replicate_zero, List.append_nil, List.cons_append, List.nil_append, List.getElem?_cons_zero, List.getElem?_cons_succ, List.set_cons_zero, List.set_cons_succ, Option.map_some, Option.map_none, Option.bind_some, Option.bind_none, if_true, if_false, reduceIte, Bool.false_eq_true, Bool.not_true, Bool.not_false, Nat.reduceAdd, Nat.reduceSub, Nat.sub_self, List.any_cons, List.any_nil, Bool.or_false, Bool.false_or, Bool.or_self, Bool.and_true, Bool.and_self, Bool.and_false, Bool.false_and, Bool.true_and, Nat.reduceLeDiff, Nat.reduceEqDiff, decide_true, decide_false, Bool.true_eq_false, reduceCtorEq, and_self, and_true, true_and, ne_eq, not_true_eq_false, not_false_eq_true, req_true, w.od.gr.gGR, w.od.gr.fGR, cLawGreat, w.od.gOD, w.od.fOD, cLawOdd, w.od.dr.gDR, w.od.dr.fDR, cLawDraw, ownCall_im, d1, d2', c2, d3', c3, d4, hd]
theorem body_ok (hk : md.gk = true) (s0 s1 s2 s3 s6 s8 s9 : Option S) (hs8 : ∀ oc, s8 ≠ some (.own oc)) (hs9 : ∀ oc, s9 ≠ some (.own oc)) (n e : Int) (hn : n.natAbs < 2 ^ 200) (he : e.natAbs < 2 ^ 200) (he0 : e ≠ 0) (x : D) (ox : Shw A x) :
    ∃ y z : D, evB G (Tn G (k + 6)) md forB5 [s0, s1, s2, s3, some (.im (.tup [.int n, .int e])), some (.im (rat A n e)), s6, some (.im x), s8, s9] = some (.nx [s0, s1, s2, s3, some (.im (.tup [.int n, .int e])), some (.im (rat A n e)), s6, some (.im x), some (.im y), some (.im z)]) := by
  have hn4 : n.natAbs < 2 ^ 400 := Nat.lt_of_lt_of_le hn (Nat.pow_le_pow_right (by decide) (by decide))
  have he4 : e.natAbs < 2 ^ 400 := Nat.lt_of_lt_of_le he (Nat.pow_le_pow_right (by decide) (by decide))
  have br := blt_rep w.h w.f w.q (k + 4) md hk x ox.o ox.p ox.l
  have ha := half_odd w.h w.f w.q (k + 3) md x ox.o
  have pa := parted_ok w.h w.f w.q (k + 1) md w.nu w.ov hcm hk n e hn he he0 x ox
  obtain ⟨b1, b2⟩ := half_bd w.h w.f w.q x ox.o
  generalize halfT x = ab at *
  obtain ⟨a, b⟩ := ab
  dsimp only at *
  have a0 : subD (.tup [.int n, .int e]) (.int 0) = some (.int n) := rfl
  have a1 : subD (.tup [.int n, .int e]) (.int 1) = some (.int e) := rfl
  have c0 : subD (.tup [.int a, .int b]) (.int 0) = some (.int a) := rfl
  have c1 : subD (.tup [.int a, .int b]) (.int 1) = some (.int b) := rfl
  have w8 : isOwn [s0, s1, s2, s3, some (.im (.tup [.int n, .int e])), some (.im (rat A n e)), s6, some (.im x), s8, s9] 8 = false := by
    unfold isOwn
    simp only [List.getElem?_cons_zero, List.getElem?_cons_succ]
    split
    · rename_i hh; cases hh; exact absurd rfl (hs8 _)
    · rfl
  have w9 : isOwn [s0, s1, s2, s3, some (.im (.tup [.int n, .int e])), some (.im (rat A n e)), s6, some (.im x), some (.im (prD (Str.ofString "raised", txD x))), s9] 9 = false := by
    unfold isOwn
    simp only [List.getElem?_cons_zero, List.getElem?_cons_succ]
    split
    · rename_i hh; cases hh; exact absurd rfl (hs9 _)
    · rfl
  unfold forB5
  rw [evB_nx (δ1 := [s0, s1, s2, s3, some (.im (.tup [.int n, .int e])), some (.im (rat A n e)), s6, some (.im x), some (.im (prD (Str.ofString "raised", txD x))), s9]) ?h]
  case h =>
    have ev : ee G (Tn G (k + 6)) md false (.tup [.str "raised", .blt .repr [.var 7]]) [s0, s1, s2, s3, some (.im (.tup [.int n, .int e])), some (.im (rat A n e)), s6, some (.im x), s8, s9] = some (.im (prD (Str.ofString "raised", txD x)), [s0, s1, s2, s3, some (.im (.tup [.int n, .int e])), some (.im (rat A n e)), s6, some (.im x), s8, s9]) := by
      simp only [env0, evB, evC, ee, evs, ebs, ets, fin, bR, bA, bB, truD, backS, Rz.d, isOwn, setAll, isCal, gloCall, argsOf, cmpD, eqD, negD, binD, intOp, bltD, List.map_cons, List.map_nil, List.length_cons, List.length_nil, List.replicate_succ, List.replicate_zero, List.append_nil, List.cons_append, List.nil_append, List.getElem?_cons_zero, List.getElem?_cons_succ, List.set_cons_zero, List.set_cons_succ, Option.map_some, Option.map_none, Option.bind_some, Option.bind_none, if_true, if_false, reduceIte, Bool.false_eq_true, Bool.not_true, Bool.not_false, Nat.reduceAdd, Nat.reduceSub, Nat.sub_self, List.any_cons, List.any_nil, Bool.or_false, Bool.false_or, Bool.or_self, Bool.and_true, Bool.and_self, Bool.and_false, Bool.false_and, Bool.true_and, Nat.reduceLeDiff, Nat.reduceEqDiff, decide_true, decide_false, Bool.true_eq_false, reduceCtorEq, and_self, and_true, true_and, ne_eq, not_true_eq_false, not_false_eq_true, req_true, ↓br, prD]
    simp only [evC, ev, bR, w8, Bool.false_eq_true, if_false, List.set_cons_zero, List.set_cons_succ]
  rw [evB_nx (δ1 := [s0, s1, s2, s3, some (.im (.tup [.int n, .int e])), some (.im (rat A n e)), s6, some (.im x), some (.im (prD (Str.ofString "raised", txD x))), some (.im (.tup [.int a, .int b]))]) ?h]
  case h =>
    have ev : ee G (Tn G (k + 6)) md false (.call "_law_half" [.var 7] [] []) [s0, s1, s2, s3, some (.im (.tup [.int n, .int e])), some (.im (rat A n e)), s6, some (.im x), some (.im (prD (Str.ofString "raised", txD x))), s9] = some (.im (.tup [.int a, .int b]), [s0, s1, s2, s3, some (.im (.tup [.int n, .int e])), some (.im (rat A n e)), s6, some (.im x), some (.im (prD (Str.ofString "raised", txD x))), s9]) := by
      simp only [env0, evB, evC, ee, evs, ebs, ets, fin, bR, bA, bB, truD, backS, Rz.d, isOwn, setAll, isCal, gloCall, argsOf, cmpD, eqD, negD, binD, intOp, bltD, List.map_cons, List.map_nil, List.length_cons, List.length_nil, List.replicate_succ, List.replicate_zero, List.append_nil, List.cons_append, List.nil_append, List.getElem?_cons_zero, List.getElem?_cons_succ, List.set_cons_zero, List.set_cons_succ, Option.map_some, Option.map_none, Option.bind_some, Option.bind_none, if_true, if_false, reduceIte, Bool.false_eq_true, Bool.not_true, Bool.not_false, Nat.reduceAdd, Nat.reduceSub, Nat.sub_self, List.any_cons, List.any_nil, Bool.or_false, Bool.false_or, Bool.or_self, Bool.and_true, Bool.and_self, Bool.and_false, Bool.false_and, Bool.true_and, Nat.reduceLeDiff, Nat.reduceEqDiff, decide_true, decide_false, Bool.true_eq_false, reduceCtorEq, and_self, and_true, true_and, ne_eq, not_true_eq_false, not_false_eq_true, req_true, w.q.gHA, w.q.pHA, ha]
    simp only [evC, ev, bR, w9, Bool.false_eq_true, if_false, List.set_cons_zero, List.set_cons_succ]
  by_cases hz : a = 0
  · rw [if_pos hz] at pa
    subst hz
    have eq := eq_pr (G := G) (T := Tn G (k + 6)) (md := md) (t := (Str.ofString "raised", txD x)) (ok_ofS _) (tx_ok A x ox.o)
    refine ⟨prD (Str.ofString "raised", txD x), .tup [.int 0, .int b], ?_⟩
    rw [evB_nx (δ1 := [s0, s1, s2, s3, some (.im (.tup [.int n, .int e])), some (.im (rat A n e)), s6, some (.im x), some (.im (prD (Str.ofString "raised", txD x))), some (.im (.tup [.int 0, .int b]))]) ?h]
    case h => simp only [env0, evB, evC, ee, evs, ebs, ets, fin, bR, bA, bB, truD, backS, Rz.d, isOwn, setAll, isCal, gloCall, argsOf, cmpD, eqD, negD, binD, intOp, bltD, List.map_cons, List.map_nil, List.length_cons, List.length_nil, List.replicate_succ, List.replicate_zero, List.append_nil, List.cons_append, List.nil_append, List.getElem?_cons_zero, List.getElem?_cons_succ, List.set_cons_zero, List.set_cons_succ, Option.map_some, Option.map_none, Option.bind_some, Option.bind_none, if_true, if_false, reduceIte, Bool.false_eq_true, Bool.not_true, Bool.not_false, Nat.reduceAdd, Nat.reduceSub, Nat.sub_self, List.any_cons, List.any_nil, Bool.or_false, Bool.false_or, Bool.or_self, Bool.and_true, Bool.and_self, Bool.and_false, Bool.false_and, Bool.true_and, Nat.reduceLeDiff, Nat.reduceEqDiff, decide_true, decide_false, Bool.true_eq_false, reduceCtorEq, and_self, and_true, true_and, ne_eq, not_true_eq_false, not_false_eq_true, req_true, c0]
    simp only [env0, evB, evC, ee, evs, ebs, ets, fin, bR, bA, bB, truD, backS, Rz.d, isOwn, setAll, isCal, gloCall, argsOf, cmpD, eqD, negD, binD, intOp, bltD, List.map_cons, List.map_nil, List.length_cons, List.length_nil, List.replicate_succ, List.replicate_zero, List.append_nil, List.cons_append, List.nil_append, List.getElem?_cons_zero, List.getElem?_cons_succ, List.set_cons_zero, List.set_cons_succ, Option.map_some, Option.map_none, Option.bind_some, Option.bind_none, if_true, if_false, reduceIte, Bool.false_eq_true, Bool.not_true, Bool.not_false, Nat.reduceAdd, Nat.reduceSub, Nat.sub_self, List.any_cons, List.any_nil, Bool.or_false, Bool.false_or, Bool.or_self, Bool.and_true, Bool.and_self, Bool.and_false, Bool.false_and, Bool.true_and, Nat.reduceLeDiff, Nat.reduceEqDiff, decide_true, decide_false, Bool.true_eq_false, reduceCtorEq, and_self, and_true, true_and, ne_eq, not_true_eq_false, not_false_eq_true, req_true, w.q.gPA, w.q.pPA, pa, ↓eq]
  · rw [if_neg hz] at pa
    have m1 : CMulW n b := wide_mul (a := 400) (b := 500) hn4 b2 (by decide) (by decide) (by decide)
    have m2 : CMulW e a := wide_mul (a := 400) (b := 500) he4 b1 (by decide) (by decide) (by decide)
    have nz : e * a ≠ 0 := Int.mul_ne_zero he0 hz
    have zz := mul_log he4 b1
    have lo := lowest_ok w.lo (k + 4) md hcm (n * b) (e * a) nz (Nat.lt_of_lt_of_le zz (Nat.pow_le_pow_right (by decide) (by decide)))
    have sh := shown_ok w.h w.f w.q (k + 5) md (lN (n * b) (e * a)) (lD (n * b) (e * a)) (log900 (Nat.lt_of_le_of_lt (lN_le _ _) (mul_log hn4 b2))) (log900 (Nat.lt_of_le_of_lt (lD_le _ _) zz))
    have eq := eq_pr (G := G) (T := Tn G (k + 6)) (md := md) (t := (Str.ofString "told", ratRepr (lN (n * b) (e * a)) (lD (n * b) (e * a)))) (ok_ofS _) (ok_ratRepr _ _)
    refine ⟨prD (Str.ofString "told", ratRepr (lN (n * b) (e * a)) (lD (n * b) (e * a))), .tup [.int a, .int b], ?_⟩
    rw [evB_nx (δ1 := [s0, s1, s2, s3, some (.im (.tup [.int n, .int e])), some (.im (rat A n e)), s6, some (.im x), some (.im (prD (Str.ofString "told", ratRepr (lN (n * b) (e * a)) (lD (n * b) (e * a))))), some (.im (.tup [.int a, .int b]))]) ?h]
    case h => simp only [env0, evB, evC, ee, evs, ebs, ets, fin, bR, bA, bB, truD, backS, Rz.d, isOwn, setAll, isCal, gloCall, argsOf, cmpD, eqD, negD, binD, intOp, bltD, List.map_cons, List.map_nil, List.length_cons, List.length_nil, List.replicate_succ, List.replicate_zero, List.append_nil, List.cons_append, List.nil_append, List.getElem?_cons_zero, List.getElem?_cons_succ, List.set_cons_zero, List.set_cons_succ, Option.map_some, Option.map_none, Option.bind_some, Option.bind_none, if_true, if_false, reduceIte, Bool.false_eq_true, Bool.not_true, Bool.not_false, Nat.reduceAdd, Nat.reduceSub, Nat.sub_self, List.any_cons, List.any_nil, Bool.or_false, Bool.false_or, Bool.or_self, Bool.and_true, Bool.and_self, Bool.and_false, Bool.false_and, Bool.true_and, Nat.reduceLeDiff, Nat.reduceEqDiff, decide_true, decide_false, Bool.true_eq_false, reduceCtorEq, and_self, and_true, true_and, ne_eq, not_true_eq_false, not_false_eq_true, req_true, c0, c1, a0, a1, hz, req_pos m1, req_pos m2, w.lo.gLO, w.lo.pLO, lo, w.q.gSH, w.q.pSH, sh, prD]
    simp only [env0, evB, evC, ee, evs, ebs, ets, fin, bR, bA, bB, truD, backS, Rz.d, isOwn, setAll, isCal, gloCall, argsOf, cmpD, eqD, negD, binD, intOp, bltD, List.map_cons, List.map_nil, List.length_cons, List.length_nil, List.replicate_succ, List.replicate_zero, List.append_nil, List.cons_append, List.nil_append, List.getElem?_cons_zero, List.getElem?_cons_succ, List.set_cons_zero, List.set_cons_succ, Option.map_some, Option.map_none, Option.bind_some, Option.bind_none, if_true, if_false, reduceIte, Bool.false_eq_true, Bool.not_true, Bool.not_false, Nat.reduceAdd, Nat.reduceSub, Nat.sub_self, List.any_cons, List.any_nil, Bool.or_false, Bool.false_or, Bool.or_self, Bool.and_true, Bool.and_self, Bool.and_false, Bool.false_and, Bool.true_and, Nat.reduceLeDiff, Nat.reduceEqDiff, decide_true, decide_false, Bool.true_eq_false, reduceCtorEq, and_self, and_true, true_and, ne_eq, not_true_eq_false, not_false_eq_true, req_true, w.q.gPA, w.q.pPA, pa, ↓eq]
theorem right_ok (hk : md.gk = true) (hr : G.fns "_law_right" = some cLawRight) (p : PU.Pu) (n : Nat) (hok : PU.Ok n p) (hn : n ≤ 100) : ∃ p', Tn G (k + 7) md "_law_right" [.own (puD p)] = some (.im (.bl true), [.own (puD p')]) := by
  obtain ⟨x, p1, d1, ox, k1⟩ := thing_ok w k md hcm p n hok (by omega)
  obtain ⟨y, p2, d2, oy, k2⟩ := thing_ok w k md hcm p1 _ k1 (by omega)
  obtain ⟨v, p3, d3, k3, r3⟩ := great_ok w.od.dr (k + 4) md w.od.gr p2 _ k2 (by omega)
  obtain ⟨x4, p4, d4, k4, r4⟩ := dr_ok w.od.dr (k + 5) md p3 _ k3 (by omega) 50 (by decide) (by decide)
  obtain ⟨x5, p5, d5, k5, r5⟩ := dr_ok w.od.dr (k + 5) md p4 _ k4 (by omega) 9 (by decide) (by decide)
  have b1 := blt_rep w.h w.f w.q (k + 4) md hk x ox.o ox.p ox.l
  have b2 := blt_rep w.h w.f w.q (k + 4) md hk y oy.o oy.p oy.l
  have o1 : Shw A (.int 1) := shw_int w md hcm (lt2 (by decide : (1 : Int).natAbs < 2 ^ 1) (by decide))
  have o3 : Shw A (.int 3) := shw_int w md hcm (lt2 (by decide : (3 : Int).natAbs < 2 ^ 2) (by decide))
  have o0 : Shw A (.int 0) := shw_int w md hcm (lt2 (by decide : (0 : Int).natAbs < 2 ^ 2) (by decide))
  have q1 := made_ok w.h w.f w.q (k + 3) md hcm hk x y ox oy
  have q2 := due_ok w.h w.f w.q (k + 3) md w.lo hcm hk x y ox oy
  have q3 := made_ok w.h w.f w.q (k + 3) md hcm hk x (.int 1) ox o1
  have q4 := due_ok w.h w.f w.q (k + 3) md w.lo hcm hk x (.int 1) ox o1
  have q5 := made_ok w.h w.f w.q (k + 3) md hcm hk (.int 3) y o3 oy
  have q6 := due_ok w.h w.f w.q (k + 3) md w.lo hcm hk (.int 3) y o3 oy
  obtain ⟨t1, t2⟩ := due_tx w md hcm x y ox oy
  obtain ⟨t3, t4⟩ := due_tx w md hcm x (.int 1) ox o1
  obtain ⟨t5, t6⟩ := due_tx w md hcm (.int 3) y o3 oy
  have e1 := eq_pr (G := G) (T := Tn G (k + 6)) (md := md) t1 t2
  have e2 := eq_pr (G := G) (T := Tn G (k + 6)) (md := md) t3 t4
  have e3 := eq_pr (G := G) (T := Tn G (k + 6)) (md := md) t5 t6
  have e4 := eq_ls (G := G) (T := Tn G (k + 6)) (md := md) (tx_ok A x ox.o) (tx_ok A y oy.o)
  rw [tn_run hr rfl]
  unfold cLawRight
  dsimp only
  rw [evB_nx (δ1 := [some (.own (puD p2)), some (.im x), some (.im y), none, none, none, none, none, none, none]) ?h]
  case h => simp only [env0, evB, evC, ee, evs, ebs, ets, fin, bR, bA, bB, truD, backS, Rz.d, isOwn, setAll, isCal, gloCall, argsOf, cmpD, eqD, negD, binD, intOp, bltD, List.map_cons, List.map_nil, List.length_cons, List.length_nil, List.replicate_succ, List.replicate_zero, List.append_nil, List.cons_append, List.nil_append, List.getElem?_cons_zero, List.getElem?_cons_succ, List.set_cons_zero, List.set_cons_succ, Option.map_some, Option.map_none, Option.bind_some, Option.bind_none, if_true, if_false, reduceIte, Bool.false_eq_true, Bool.not_true, Bool.not_false, Nat.reduceAdd, Nat.reduceSub, Nat.sub_self, List.any_cons, List.any_nil, Bool.or_false, Bool.false_or, Bool.or_self, Bool.and_true, Bool.and_self, Bool.and_false, Bool.false_and, Bool.true_and, Nat.reduceLeDiff, Nat.reduceEqDiff, decide_true, decide_false, Bool.true_eq_false, reduceCtorEq, and_self, and_true, true_and, ne_eq, not_true_eq_false, not_false_eq_true, req_true, hcm, w.q.gTH, w.q.fTH, cLawThing, ownCall_im, d1, d2]
  rw [evB_nx (δ1 := [some (.own (puD p2)), some (.im x), some (.im y), some (.im (.lst [.str (txD x), .str (txD y)])), none, none, none, none, none, none]) ?h]
  case h => simp only [env0, evB, evC, ee, evs, ebs, ets, fin, bR, bA, bB, truD, backS, Rz.d, isOwn, setAll, isCal, gloCall, argsOf, cmpD, eqD, negD, binD, intOp, bltD, List.map_cons, List.map_nil, List.length_cons, List.length_nil, List.replicate_succ, List.replicate_zero, List.append_nil, List.cons_append, List.nil_append, List.getElem?_cons_zero, List.getElem?_cons_succ, List.set_cons_zero, List.set_cons_succ, Option.map_some, Option.map_none, Option.bind_some, Option.bind_none, if_true, if_false, reduceIte, Bool.false_eq_true, Bool.not_true, Bool.not_false, Nat.reduceAdd, Nat.reduceSub, Nat.sub_self, List.any_cons, List.any_nil, Bool.or_false, Bool.false_or, Bool.or_self, Bool.and_true, Bool.and_self, Bool.and_false, Bool.false_and, Bool.true_and, Nat.reduceLeDiff, Nat.reduceEqDiff, decide_true, decide_false, Bool.true_eq_false, reduceCtorEq, and_self, and_true, true_and, ne_eq, not_true_eq_false, not_false_eq_true, req_true, ↓b1, ↓b2]
  rw [evB_nx (δ1 := [some (.own (puD p2)), some (.im x), some (.im y), some (.im (.lst [.str (txD x), .str (txD y)])), none, none, none, none, none, none]) ?h]
  case h => simp only [env0, evB, evC, ee, evs, ebs, ets, fin, bR, bA, bB, truD, backS, Rz.d, isOwn, setAll, isCal, gloCall, argsOf, cmpD, eqD, negD, binD, intOp, bltD, List.map_cons, List.map_nil, List.length_cons, List.length_nil, List.replicate_succ, List.replicate_zero, List.append_nil, List.cons_append, List.nil_append, List.getElem?_cons_zero, List.getElem?_cons_succ, List.set_cons_zero, List.set_cons_succ, Option.map_some, Option.map_none, Option.bind_some, Option.bind_none, if_true, if_false, reduceIte, Bool.false_eq_true, Bool.not_true, Bool.not_false, Nat.reduceAdd, Nat.reduceSub, Nat.sub_self, List.any_cons, List.any_nil, Bool.or_false, Bool.false_or, Bool.or_self, Bool.and_true, Bool.and_self, Bool.and_false, Bool.false_and, Bool.true_and, Nat.reduceLeDiff, Nat.reduceEqDiff, decide_true, decide_false, Bool.true_eq_false, reduceCtorEq, and_self, and_true, true_and, ne_eq, not_true_eq_false, not_false_eq_true, req_true, w.q.gMA, w.q.pMA, w.q.gDU, w.q.pDU, q1, q2, q3, q4, ↓e1, ↓e2]
  rw [evB_nx (δ1 := [some (.own (puD p2)), some (.im x), some (.im y), some (.im (.lst [.str (txD x), .str (txD y)])), none, none, none, none, none, none]) ?h]
  case h => simp only [env0, evB, evC, ee, evs, ebs, ets, fin, bR, bA, bB, truD, backS, Rz.d, isOwn, setAll, isCal, gloCall, argsOf, cmpD, eqD, negD, binD, intOp, bltD, List.map_cons, List.map_nil, List.length_cons, List.length_nil, List.replicate_succ, List.replicate_zero, List.append_nil, List.cons_append, List.nil_append, List.getElem?_cons_zero, List.getElem?_cons_succ, List.set_cons_zero, List.set_cons_succ, Option.map_some, Option.map_none, Option.bind_some, Option.bind_none, if_true, if_false, reduceIte, Bool.false_eq_true, Bool.not_true, Bool.not_false, Nat.reduceAdd, Nat.reduceSub, Nat.sub_self, List.any_cons, List.any_nil, Bool.or_false, Bool.false_or, Bool.or_self, Bool.and_true, Bool.and_self, Bool.and_false, Bool.false_and, Bool.true_and, Nat.reduceLeDiff, Nat.reduceEqDiff, decide_true, decide_false, Bool.true_eq_false, reduceCtorEq, and_self, and_true, true_and, ne_eq, not_true_eq_false, not_false_eq_true, req_true, w.q.gMA, w.q.pMA, w.q.gDU, w.q.pDU, q5, q6, ↓e3, ↓b1, ↓b2, ↓e4]
  have nz : (1 + x4) ≠ 0 := by omega
  have z4 : (1 + x4).natAbs < 2 ^ 10 := by omega
  have lo := lowest_ok w.lo (k + 4) md hcm v (1 + x4) nz (lt9000 (lt2 z4 (by decide)))
  have hN : (lN v (1 + x4)).natAbs < 2 ^ 200 := Nat.lt_of_le_of_lt (Nat.le_trans (lN_le _ _) r3) (by decide +kernel)
  have hE : (lD v (1 + x4)).natAbs < 2 ^ 200 := Nat.lt_of_le_of_lt (lD_le _ _) (Nat.lt_of_lt_of_le z4 (Nat.pow_le_pow_right (by decide) (by decide)))
  have pE := lD_pos (t := v) nz
  have gE := l_coprime (t := v) nz
  generalize lN v (1 + x4) = N at *
  generalize lD v (1 + x4) = E at *
  rw [evB_nx (δ1 := [some (.own (puD p4)), some (.im x), some (.im y), some (.im (.lst [.str (txD x), .str (txD y)])), some (.im (.tup [.int N, .int E])), none, none, none, none, none]) ?h]
  case h => simp only [env0, evB, evC, ee, evs, ebs, ets, fin, bR, bA, bB, truD, backS, Rz.d, isOwn, setAll, isCal, gloCall, argsOf, cmpD, eqD, negD, binD, intOp, bltD, List.map_cons, List.map_nil, List.length_cons, List.length_nil, List.replicate_succ, List.replicate_zero, List.append_nil, List.cons_append, List.nil_append, List.getElem?_cons_zero, List.getElem?_cons_succ, List.set_cons_zero, List.set_cons_succ, Option.map_some, Option.map_none, Option.bind_some, Option.bind_none, if_true, if_false, reduceIte, Bool.false_eq_true, Bool.not_true, Bool.not_false, Nat.reduceAdd, Nat.reduceSub, Nat.sub_self, List.any_cons, List.any_nil, Bool.or_false, Bool.false_or, Bool.or_self, Bool.and_true, Bool.and_self, Bool.and_false, Bool.false_and, Bool.true_and, Nat.reduceLeDiff, Nat.reduceEqDiff, decide_true, decide_false, Bool.true_eq_false, reduceCtorEq, and_self, and_true, true_and, ne_eq, not_true_eq_false, not_false_eq_true, req_true, w.lo.gLO, w.lo.pLO, w.od.gr.gGR, w.od.gr.fGR, cLawGreat, w.od.dr.gDR, w.od.dr.fDR, cLawDraw, ownCall_im, d3, d4, lo]
  have a0 : subD (.tup [.int N, .int E]) (.int 0) = some (.int N) := rfl
  have a1 : subD (.tup [.int N, .int E]) (.int 1) = some (.int E) := rfl
  have hE0 : E ≠ 0 := by omega
  have mk := make_ok w.h (k + 4) md hcm N E hE0 (lt9000 (lt2 hE (by decide)))
  rw [(l_self pE gE).1, (l_self pE gE).2] at mk
  rw [evB_nx (δ1 := [some (.own (puD p4)), some (.im x), some (.im y), some (.im (.lst [.str (txD x), .str (txD y)])), some (.im (.tup [.int N, .int E])), some (.im (rat A N E)), none, none, none, none]) ?h]
  case h => simp only [env0, evB, evC, ee, evs, ebs, ets, fin, bR, bA, bB, truD, backS, Rz.d, isOwn, setAll, isCal, gloCall, argsOf, cmpD, eqD, negD, binD, intOp, bltD, List.map_cons, List.map_nil, List.length_cons, List.length_nil, List.replicate_succ, List.replicate_zero, List.append_nil, List.cons_append, List.nil_append, List.getElem?_cons_zero, List.getElem?_cons_succ, List.set_cons_zero, List.set_cons_succ, Option.map_some, Option.map_none, Option.bind_some, Option.bind_none, if_true, if_false, reduceIte, Bool.false_eq_true, Bool.not_true, Bool.not_false, Nat.reduceAdd, Nat.reduceSub, Nat.sub_self, List.any_cons, List.any_nil, Bool.or_false, Bool.false_or, Bool.or_self, Bool.and_true, Bool.and_self, Bool.and_false, Bool.false_and, Bool.true_and, Nat.reduceLeDiff, Nat.reduceEqDiff, decide_true, decide_false, Bool.true_eq_false, reduceCtorEq, and_self, and_true, true_and, ne_eq, not_true_eq_false, not_false_eq_true, req_true, w.h.gRA, w.f.p3, behind, a0, a1, mk]
  have nz5 : (1 + x5) ≠ 0 := by omega
  have z5 : (1 + x5).natAbs < 2 ^ 10 := by omega
  have mk0 := make_ok w.h (k + 4) md hcm 0 (1 + x5) nz5 (lt9000 (lt2 z5 (by decide)))
  have oz : Shw A (rat A (lN 0 (1 + x5)) (lD 0 (1 + x5))) := shw_rat w md hcm (lt2 (Nat.lt_of_le_of_lt (lN_le _ _) (by decide : (0 : Int).natAbs < 2 ^ 1)) (by decide)) (lt2 (Nat.lt_of_le_of_lt (lD_le _ _) z5) (by decide)) (lD_pos nz5) (l_coprime nz5)
  generalize rat A (lN 0 (1 + x5)) (lD 0 (1 + x5)) = zr at *
  rw [evB_nx (δ1 := [some (.own (puD p5)), some (.im x), some (.im y), some (.im (.lst [.str (txD x), .str (txD y)])), some (.im (.tup [.int N, .int E])), some (.im (rat A N E)), some (.im zr), none, none, none]) ?h]
  case h => simp only [env0, evB, evC, ee, evs, ebs, ets, fin, bR, bA, bB, truD, backS, Rz.d, isOwn, setAll, isCal, gloCall, argsOf, cmpD, eqD, negD, binD, intOp, bltD, List.map_cons, List.map_nil, List.length_cons, List.length_nil, List.replicate_succ, List.replicate_zero, List.append_nil, List.cons_append, List.nil_append, List.getElem?_cons_zero, List.getElem?_cons_succ, List.set_cons_zero, List.set_cons_succ, Option.map_some, Option.map_none, Option.bind_some, Option.bind_none, if_true, if_false, reduceIte, Bool.false_eq_true, Bool.not_true, Bool.not_false, Nat.reduceAdd, Nat.reduceSub, Nat.sub_self, List.any_cons, List.any_nil, Bool.or_false, Bool.false_or, Bool.or_self, Bool.and_true, Bool.and_self, Bool.and_false, Bool.false_and, Bool.true_and, Nat.reduceLeDiff, Nat.reduceEqDiff, decide_true, decide_false, Bool.true_eq_false, reduceCtorEq, and_self, and_true, true_and, ne_eq, not_true_eq_false, not_false_eq_true, req_true, w.h.gRA, w.f.p3, behind, w.od.dr.gDR, w.od.dr.fDR, cLawDraw, ownCall_im, d5, mk0]
  have mk3 := make_ok w.h (k + 4) md hcm (-2) 3 (by decide) (lt9000 (lt2 (by decide : (3 : Int).natAbs < 2 ^ 2) (by decide)))
  have o23 : Shw A (rat A (lN (-2) 3) (lD (-2) 3)) := shw_rat w md hcm (lt2 (Nat.lt_of_le_of_lt (lN_le _ _) (by decide : (-2 : Int).natAbs < 2 ^ 2)) (by decide)) (lt2 (Nat.lt_of_le_of_lt (lD_le _ _) (by decide : (3 : Int).natAbs < 2 ^ 2)) (by decide)) (lD_pos (by decide)) (l_coprime (by decide))
  generalize rat A (lN (-2) 3) (lD (-2) 3) = r23 at *
  have its : evs G (Tn G (k + 6)) md [.lst [.var 2, .var 6, .int 0, .call "Ratio" [.neg (.int 2), .int 3] [] []]] [some (.own (puD p5)), some (.im x), some (.im y), some (.im (.lst [.str (txD x), .str (txD y)])), some (.im (.tup [.int N, .int E])), some (.im (rat A N E)), some (.im zr), none, none, none] = some (.inl [.lst [y, zr, .int 0, r23]], [some (.own (puD p5)), some (.im x), some (.im y), some (.im (.lst [.str (txD x), .str (txD y)])), some (.im (.tup [.int N, .int E])), some (.im (rat A N E)), some (.im zr), none, none, none]) := by
    simp only [env0, evB, evC, ee, evs, ebs, ets, fin, bR, bA, bB, truD, backS, Rz.d, isOwn, setAll, isCal, gloCall, argsOf, cmpD, eqD, negD, binD, intOp, bltD, List.map_cons, List.map_nil, List.length_cons, List.length_nil, List.replicate_succ, List.replicate_zero, List.append_nil, List.cons_append, List.nil_append, List.getElem?_cons_zero, List.getElem?_cons_succ, List.set_cons_zero, List.set_cons_succ, Option.map_some, Option.map_none, Option.bind_some, Option.bind_none, if_true, if_false, reduceIte, Bool.false_eq_true, Bool.not_true, Bool.not_false, Nat.reduceAdd, Nat.reduceSub, Nat.sub_self, List.any_cons, List.any_nil, Bool.or_false, Bool.false_or, Bool.or_self, Bool.and_true, Bool.and_self, Bool.and_false, Bool.false_and, Bool.true_and, Nat.reduceLeDiff, Nat.reduceEqDiff, decide_true, decide_false, Bool.true_eq_false, reduceCtorEq, and_self, and_true, true_and, ne_eq, not_true_eq_false, not_false_eq_true, req_true, w.h.gRA, w.f.p3, behind, mk3]
  obtain ⟨δ', hfor, t, b, c, hδ⟩ := for_inv (b := evB G (Tn G (k + 6)) md forB5) (g := .one 7) (fun δ => ∃ t b c : Option D, δ = [some (.own (puD p5)), some (.im x), some (.im y), some (.im (.lst [.str (txD x), .str (txD y)])), some (.im (.tup [.int N, .int E])), some (.im (rat A N E)), some (.im zr), t.map S.im, b.map S.im, c.map S.im]) [y, zr, .int 0, r23] _ ⟨none, none, none, rfl⟩ (by
    intro z hz δ ⟨t, b, c, hδ⟩
    subst hδ
    have oz' : Shw A z := by
      simp only [List.mem_cons, List.not_mem_nil, or_false] at hz
      rcases hz with rfl | rfl | rfl | rfl
      · exact oy
      · exact oz
      · exact o0
      · exact o23
    obtain ⟨y', z', hb⟩ := body_ok w k md hcm hk (some (.own (puD p5))) (some (.im x)) (some (.im y)) (some (.im (.lst [.str (txD x), .str (txD y)]))) (some (.im zr)) (b.map S.im) (c.map S.im) (by cases b <;> intro oc h <;> cases h) (by cases c <;> intro oc h <;> cases h) N E hN hE hE0 z oz'
    refine ⟨_, _, ?_, hb, some z, some y', some z', rfl⟩
    cases t <;> rfl)
  rw [evB_nx (evC_for hcm its rfl hfor)]
  subst hδ
  have lr := rep_rat w.h (k + 4) md N E (log1000 (lt2 hN (by decide))) (log1000 (lt2 hE (by decide)))
  have br : bltD G (Tn G (k + 6)) md .repr [rat A N E] = some (.im (.str (ratRepr N E))) := by
    show req (md.gk = true) ((reprD G (Tn G (k + 6)) md (rat A N E)).map fun t => Rz.im (.str t)) = _
    rw [req_pos hk, lr]; rfl
  have sh := shown_ok w.h w.f w.q (k + 5) md N E (log1000 (lt2 hN (by decide))) (log1000 (lt2 hE (by decide)))
  refine ⟨p5, ?_⟩
  simp only [env0, evB, evC, ee, evs, ebs, ets, fin, bR, bA, bB, truD, backS, Rz.d, isOwn, setAll, isCal, gloCall, argsOf, cmpD, eqD, negD, binD, intOp, bltD, List.map_cons, List.map_nil, List.length_cons, List.length_nil, List.replicate_succ, List.replicate_zero, List.append_nil, List.cons_append, List.nil_append, List.getElem?_cons_zero, List.getElem?_cons_succ, List.set_cons_zero, List.set_cons_succ, Option.map_some, Option.map_none, Option.bind_some, Option.bind_none, if_true, if_false, reduceIte, Bool.false_eq_true, Bool.not_true, Bool.not_false, Nat.reduceAdd, Nat.reduceSub, Nat.sub_self, List.any_cons, List.any_nil, Bool.or_false, Bool.false_or, Bool.or_self, Bool.and_true, Bool.and_self, Bool.and_false, Bool.false_and, Bool.true_and, Nat.reduceLeDiff, Nat.reduceEqDiff, decide_true, decide_false, Bool.true_eq_false, reduceCtorEq, and_self, and_true, true_and, ne_eq, not_true_eq_false, not_false_eq_true, req_true, ↓br, w.q.gSH, w.q.pSH, sh]
end
end RE
set_option Elab.async false
set_option linter.all false
set_option maxRecDepth 100000
set_option autoImplicit false
set_option maxHeartbeats 1000000
set_option exponentiation.threshold 20000
/-! S5d: the law k05, read. -/
namespace RE
open PySem L2 TL MA
theorem all_bl : ∀ {xs : List D}, (∀ x ∈ xs, x = .bl true) → bools xs = some (xs.map fun _ => true)
  | [], _ => rfl
  | x :: xs, h => by
    rw [h x (List.mem_cons_self ..)]
    simp only [bools, all_bl (xs := xs) (fun y hy => h y (List.mem_cons_of_mem _ hy)), Option.map_some, List.map_cons]
structure HPu (G : Gx) : Prop where
  fPU : G.fns "_law_purse" = some cLawPurse
  gPU : G.glo "_law_purse" = some (.fn "_law_purse")
  pPU : G.pat "_law_purse" 1 [] = some [.inl 0]
  fFR : G.fns "_law_from" = some cLawFrom
  gFR : G.glo "_law_from" = some (.fn "_law_from")
  pFR : G.pat "_law_from" 2 [] = some [.inl 0, .inl 1]
/-- all([_law_right(_law_from(script, k)) for k in range(max(1, min(len(script), m)))]) -/
theorem all_right {G : Gx} (pu : HPu G) (k : Nat) (md : Md) (hcm : md.calm = true) (m : Int) (hm0 : 0 ≤ m) (hm : m ≤ 100) (fR : Fc) (hpo : fR.po = true) (hr : G.fns "_law_right" = some fR) (gr : G.glo "_law_right" = some (.fn "_law_right"))
    (right : ∀ p : PU.Pu, PU.Ok 0 p → ∃ p', Tn G (k + 2) md "_law_right" [.own (puD p)] = some (.im (.bl true), [.own (puD p')])) (a : Addr) (ns : List Int) (hn : ns.length ≤ 63) :
    ee G (Tn G (k + 2)) md false (.blt .all [.lc (.one 1) .rng [.blt .max [.int 1, .blt .min [.blt .len [.var 0], .int m]]] [] (.callF "_law_right" (.call "_law_from" [.var 0, .var 1] [] []) [])]) [some (.im (.scr G.K a ns)), none] = some (.im (.bl true), [some (.im (.scr G.K a ns)), none]) := by
  obtain ⟨c, hc0, hc1, hc⟩ : ∃ c : Int, 0 ≤ c ∧ c ≤ 100 ∧ evs G (Tn G (k + 2)) md [.blt .max [.int 1, .blt .min [.blt .len [.var 0], .int m]]] [some (.im (.scr G.K a ns)), none] = some (.inl [.int c], [some (.im (.scr G.K a ns)), none]) := by
    refine ⟨if (if m < (ns.length : Int) then m else (ns.length : Int)) > 1 then (if m < (ns.length : Int) then m else (ns.length : Int)) else 1, ?_, ?_, ?_⟩
    · split <;> split <;> omega
    · split <;> split <;> omega
    · simp only [env0, evB, evC, ee, evs, ebs, ets, fin, bR, bA, bB, truD, backS, Rz.d, isOwn, setAll, isCal, gloCall, argsOf, cmpD, eqD, negD, binD, intOp, bltD, List.map_cons, List.map_nil, List.length_cons, List.length_nil, List.replicate_succ, List.replicate_zero, List.append_nil, List.cons_append, List.nil_append, List.getElem?_cons_zero, List.getElem?_cons_succ, List.set_cons_zero, List.set_cons_succ, Option.map_some, Option.map_none, Option.bind_some, Option.bind_none, if_true, if_false, reduceIte, Bool.false_eq_true, Bool.not_true, Bool.not_false, Nat.reduceAdd, Nat.reduceSub, Nat.sub_self, List.any_cons, List.any_nil, Bool.or_false, Bool.false_or, Bool.or_self, Bool.and_true, Bool.and_self, Bool.and_false, Bool.false_and, Bool.true_and, Nat.reduceLeDiff, Nat.reduceEqDiff, decide_true, decide_false, Bool.true_eq_false, reduceCtorEq, and_self, and_true, true_and, ne_eq, not_true_eq_false, not_false_eq_true, req_true, hcm]
  have hi : itD G.K .rng [.int c] = some (rngD 0 c) := by
    have : -(2 ^ 62) ≤ c ∧ c < 2 ^ 62 := by omega
    simp only [itD, req_pos this]
  have hb := lc_map (f := ee G (Tn G (k + 2)) md false (.callF "_law_right" (.call "_law_from" [.var 0, .var 1] [] []) [])) (i := 1) (δ := [some (.im (.scr G.K a ns)), none]) rfl (fun _ => .bl true) (xs := rngD 0 c) (fun x hx => by
    obtain ⟨j, _, rfl⟩ := List.mem_map.mp hx
    obtain ⟨ms, fr⟩ := from_ok k md hcm pu.fFR pu.fPU pu.gPU pu.pPU a ns (0 + (j : Int)) hn
    obtain ⟨q, ro⟩ := right (puOf ms) (puOf_ok ms)
    unfold puOf puD at ro
    simp only [env0, evB, evC, ee, evs, ebs, ets, fin, bR, bA, bB, truD, backS, Rz.d, isOwn, setAll, isCal, gloCall, argsOf, cmpD, eqD, negD, binD, intOp, bltD, List.map_cons, List.map_nil, List.length_cons, List.length_nil, List.replicate_succ, List.replicate_zero, List.append_nil, List.cons_append, List.nil_append, List.getElem?_cons_zero, List.getElem?_cons_succ, List.set_cons_zero, List.set_cons_succ, Option.map_some, Option.map_none, Option.bind_some, Option.bind_none, if_true, if_false, reduceIte, Bool.false_eq_true, Bool.not_true, Bool.not_false, Nat.reduceAdd, Nat.reduceSub, Nat.sub_self, List.any_cons, List.any_nil, Bool.or_false, Bool.false_or, Bool.or_self, Bool.and_true, Bool.and_self, Bool.and_false, Bool.false_and, Bool.true_and, Nat.reduceLeDiff, Nat.reduceEqDiff, decide_true, decide_false, Bool.true_eq_false, reduceCtorEq, and_self, and_true, true_and, ne_eq, not_true_eq_false, not_false_eq_true, req_true, gr, hr, pu.gFR, pu.pFR, fr, frCall, hpo] at ro ⊢
    simp only [ro])
  have hl := ee_lc (G := G) (T := Tn G (k + 2)) (md := md) hcm (g := .one 1) (kd := .rng) (ifs := []) hc hi rfl (by unfold rngD; rw [List.length_map, List.length_range]; omega) hb
  have hbs : bools ((rngD 0 c).map fun _ => D.bl true) = some (((rngD 0 c).map fun _ => D.bl true).map fun _ => true) := all_bl (fun x hx => by obtain ⟨_, _, rfl⟩ := List.mem_map.mp hx; rfl)
  have hal : (((rngD 0 c).map fun _ => D.bl true).map fun _ => true).all id = true := by
    rw [List.all_eq_true]
    intro x hx
    obtain ⟨_, _, rfl⟩ := List.mem_map.mp hx
    rfl
  simp only [env0, evB, evC, ee, evs, ebs, ets, fin, bR, bA, bB, truD, backS, Rz.d, isOwn, setAll, isCal, gloCall, argsOf, cmpD, eqD, negD, binD, intOp, bltD, List.map_cons, List.map_nil, List.length_cons, List.length_nil, List.replicate_succ, List.replicate_zero, List.append_nil, List.cons_append, List.nil_append, List.getElem?_cons_zero, List.getElem?_cons_succ, List.set_cons_zero, List.set_cons_succ, Option.map_some, Option.map_none, Option.bind_some, Option.bind_none, if_true, if_false, reduceIte, Bool.false_eq_true, Bool.not_true, Bool.not_false, Nat.reduceAdd, Nat.reduceSub, Nat.sub_self, List.any_cons, List.any_nil, Bool.or_false, Bool.false_or, Bool.or_self, Bool.and_true, Bool.and_self, Bool.and_false, Bool.false_and, Bool.true_and, Nat.reduceLeDiff, Nat.reduceEqDiff, decide_true, decide_false, Bool.true_eq_false, reduceCtorEq, and_self, and_true, true_and, ne_eq, not_true_eq_false, not_false_eq_true, req_true, ↓hl, ↓hbs, ↓hal, hcm]
theorem law_ok {G : Gx} {A C : Addr} (w : HL5 G A C) (pu : HPu G) (k : Nat) (md : Md) (hcm : md.calm = true) (hk : md.gk = true) (hf : G.fns "law" = some cLaw) (hr : G.fns "_law_right" = some cLawRight) (gr : G.glo "_law_right" = some (.fn "_law_right")) (a : Addr) (ns : List Int) (hn : ns.length ≤ 63) :
    Tn G (k + 8) md "law" [.im (.scr G.K a ns)] = some (.im (.bl true), [.im (.scr G.K a ns)]) := by
  have oi : ∀ i : Int, i.natAbs < 2 ^ 10 → Shw A (.int i) := fun i hi => shw_int w md hcm (lt2 hi (by decide))
  have ob : ∀ b : Bool, Shw A (.bl b) := fun b => ⟨by simp only [Odd], by simp only [dpD]; omega, by simp only [lnD]; rw [sizeLine_eq]; omega⟩
  have on : Shw A .non := ⟨by simp only [Odd], by simp only [dpD]; omega, by simp only [lnD]; rw [sizeLine_eq]; omega⟩
  have q1 := made_ok w.h w.f w.q (k + 4) md hcm hk (.bl true) (.int 0) (ob true) (oi 0 (by decide))
  have q2 := made_ok w.h w.f w.q (k + 4) md hcm hk (.int 1) (.bl false) (oi 1 (by decide)) (ob false)
  have q3 := made_ok w.h w.f w.q (k + 4) md hcm hk .non .non on on
  have q4 := made_ok w.h w.f w.q (k + 4) md hcm hk (.int 5) (.int 0) (oi 5 (by decide)) (oi 0 (by decide))
  have u1 : prD (dueT (.bl true) (.int 0)) = prD (Str.ofString "raised", Str.ofString "True") := by
    have : dueT (.bl true) (.int 0) = (Str.ofString "raised", txD (.bl true)) := rfl
    rw [this]; simp only [txD, if_true]
  have u2 : prD (dueT (.int 1) (.bl false)) = prD (Str.ofString "raised", Str.ofString "False") := by
    have : dueT (.int 1) (.bl false) = (Str.ofString "raised", txD (.bl false)) := rfl
    rw [this]; simp only [txD, Bool.false_eq_true, if_false]
  have u3 : prD (dueT .non .non) = prD (Str.ofString "raised", Str.ofString "None") := by
    have : dueT .non .non = (Str.ofString "raised", txD .non) := rfl
    rw [this]; simp only [txD]
  have u4 : prD (dueT (.int 5) (.int 0)) = prD (Str.ofString "raised", Str.ofString "0") := by
    have : dueT (.int 5) (.int 0) = (Str.ofString "raised", txD (.int 0)) := rfl
    rw [this]; simp only [txD]
    rfl
  rw [u1] at q1; rw [u2] at q2; rw [u3] at q3; rw [u4] at q4
  have e1 := eq_pr (G := G) (T := Tn G (k + 7)) (md := md) (t := (Str.ofString "raised", Str.ofString "True")) (ok_ofS _) (ok_ofS _)
  have e2 := eq_pr (G := G) (T := Tn G (k + 7)) (md := md) (t := (Str.ofString "raised", Str.ofString "False")) (ok_ofS _) (ok_ofS _)
  have e3 := eq_pr (G := G) (T := Tn G (k + 7)) (md := md) (t := (Str.ofString "raised", Str.ofString "None")) (ok_ofS _) (ok_ofS _)
  have e4 := eq_pr (G := G) (T := Tn G (k + 7)) (md := md) (t := (Str.ofString "raised", Str.ofString "0")) (ok_ofS _) (ok_ofS _)
  have al := all_right pu (k + 5) md hcm 6 (by decide) (by decide) cLawRight rfl hr gr (fun p hp => right_ok w k md hcm hk hr p 0 hp (by decide)) a ns hn
  unfold prD at q1 q2 q3 q4 e1 e2 e3 e4
  rw [tn_run hf rfl]
  unfold cLaw
  dsimp only
  rw [evB_nx (δ1 := [some (.im (.scr G.K a ns)), none]) ?h]
  case h => simp only [env0, evB, evC, ee, evs, ebs, ets, fin, bR, bA, bB, truD, backS, Rz.d, isOwn, setAll, isCal, gloCall, argsOf, cmpD, eqD, negD, binD, intOp, bltD, List.map_cons, List.map_nil, List.length_cons, List.length_nil, List.replicate_succ, List.replicate_zero, List.append_nil, List.cons_append, List.nil_append, List.getElem?_cons_zero, List.getElem?_cons_succ, List.set_cons_zero, List.set_cons_succ, Option.map_some, Option.map_none, Option.bind_some, Option.bind_none, if_true, if_false, reduceIte, Bool.false_eq_true, Bool.not_true, Bool.not_false, Nat.reduceAdd, Nat.reduceSub, Nat.sub_self, List.any_cons, List.any_nil, Bool.or_false, Bool.false_or, Bool.or_self, Bool.and_true, Bool.and_self, Bool.and_false, Bool.false_and, Bool.true_and, Nat.reduceLeDiff, Nat.reduceEqDiff, decide_true, decide_false, Bool.true_eq_false, reduceCtorEq, and_self, and_true, true_and, ne_eq, not_true_eq_false, not_false_eq_true, req_true, w.q.gMA, w.q.pMA, q1, q2, ↓e1, ↓e2]
  rw [evB_nx (δ1 := [some (.im (.scr G.K a ns)), none]) ?h]
  case h => simp only [env0, evB, evC, ee, evs, ebs, ets, fin, bR, bA, bB, truD, backS, Rz.d, isOwn, setAll, isCal, gloCall, argsOf, cmpD, eqD, negD, binD, intOp, bltD, List.map_cons, List.map_nil, List.length_cons, List.length_nil, List.replicate_succ, List.replicate_zero, List.append_nil, List.cons_append, List.nil_append, List.getElem?_cons_zero, List.getElem?_cons_succ, List.set_cons_zero, List.set_cons_succ, Option.map_some, Option.map_none, Option.bind_some, Option.bind_none, if_true, if_false, reduceIte, Bool.false_eq_true, Bool.not_true, Bool.not_false, Nat.reduceAdd, Nat.reduceSub, Nat.sub_self, List.any_cons, List.any_nil, Bool.or_false, Bool.false_or, Bool.or_self, Bool.and_true, Bool.and_self, Bool.and_false, Bool.false_and, Bool.true_and, Nat.reduceLeDiff, Nat.reduceEqDiff, decide_true, decide_false, Bool.true_eq_false, reduceCtorEq, and_self, and_true, true_and, ne_eq, not_true_eq_false, not_false_eq_true, req_true, w.q.gMA, w.q.pMA, q3, q4, ↓e3, ↓e4]
  rw [evB_rt (r := .im (.bl true)) (δ1 := [some (.im (.scr G.K a ns)), none]) ?h]
  case h => simp only [evC, ↓al]
  simp only [env0, evB, evC, ee, evs, ebs, ets, fin, bR, bA, bB, truD, backS, Rz.d, isOwn, setAll, isCal, gloCall, argsOf, cmpD, eqD, negD, binD, intOp, bltD, List.map_cons, List.map_nil, List.length_cons, List.length_nil, List.replicate_succ, List.replicate_zero, List.append_nil, List.cons_append, List.nil_append, List.getElem?_cons_zero, List.getElem?_cons_succ, List.set_cons_zero, List.set_cons_succ, Option.map_some, Option.map_none, Option.bind_some, Option.bind_none, if_true, if_false, reduceIte, Bool.false_eq_true, Bool.not_true, Bool.not_false, Nat.reduceAdd, Nat.reduceSub, Nat.sub_self, List.any_cons, List.any_nil, Bool.or_false, Bool.false_or, Bool.or_self, Bool.and_true, Bool.and_self, Bool.and_false, Bool.false_and, Bool.true_and, Nat.reduceLeDiff, Nat.reduceEqDiff, decide_true, decide_false, Bool.true_eq_false, reduceCtorEq, and_self, and_true, true_and, ne_eq, not_true_eq_false, not_false_eq_true]
end RE
set_option Elab.async false
set_option linter.all false
set_option maxRecDepth 100000
set_option autoImplicit false
set_option maxHeartbeats 2000000
namespace K05
open PySem L2 TL RE
def top (i : Nat) : Stmt := PySem.Challenge.pw_matrixforms_k05_ratios_refused.main.body.getD i (.Pass ⟨0, 0, 0, 0⟩)
abbrev sIsInteger : Stmt := top 6
theorem scIsInteger : FnScope cIsInteger.N cIsInteger.ps (defScope sIsInteger) := ⟨rfl, rfl, rfl, by decide +kernel, rfl, by decide +kernel, by decide +kernel⟩
theorem okIsInteger : okB cIsInteger.N (defScope sIsInteger) cIsInteger.body (defBody sIsInteger) = true := by decide +kernel
abbrev sCommon : Stmt := top 7
theorem scCommon : FnScope cCommon.N cCommon.ps (defScope sCommon) := ⟨rfl, rfl, rfl, by decide +kernel, rfl, by decide +kernel, by decide +kernel⟩
theorem okCommon : okB cCommon.N (defScope sCommon) cCommon.body (defBody sCommon) = true := by decide +kernel
abbrev sIsNumber : Stmt := top 9
theorem scIsNumber : FnScope cIsNumber.N cIsNumber.ps (defScope sIsNumber) := ⟨rfl, rfl, rfl, by decide +kernel, rfl, by decide +kernel, by decide +kernel⟩
theorem okIsNumber : okB cIsNumber.N (defScope sIsNumber) cIsNumber.body (defBody sIsNumber) = true := by decide +kernel
abbrev sAsRatio : Stmt := top 10
theorem scAsRatio : FnScope cAsRatio.N cAsRatio.ps (defScope sAsRatio) := ⟨rfl, rfl, rfl, by decide +kernel, rfl, by decide +kernel, by decide +kernel⟩
theorem okAsRatio : okB cAsRatio.N (defScope sAsRatio) cAsRatio.body (defBody sAsRatio) = true := by decide +kernel
abbrev sLawPurse : Stmt := top 14
theorem scLawPurse : FnScope cLawPurse.N cLawPurse.ps (defScope sLawPurse) := ⟨rfl, rfl, rfl, by decide +kernel, rfl, by decide +kernel, by decide +kernel⟩
theorem okLawPurse : okB cLawPurse.N (defScope sLawPurse) cLawPurse.body (defBody sLawPurse) = true := by decide +kernel
abbrev sLawDraw : Stmt := top 15
theorem scLawDraw : FnScope cLawDraw.N cLawDraw.ps (defScope sLawDraw) := ⟨rfl, rfl, rfl, by decide +kernel, rfl, by decide +kernel, by decide +kernel⟩
theorem okLawDraw : okB cLawDraw.N (defScope sLawDraw) cLawDraw.body (defBody sLawDraw) = true := by decide +kernel
abbrev sLawGreat : Stmt := top 16
theorem scLawGreat : FnScope cLawGreat.N cLawGreat.ps (defScope sLawGreat) := ⟨rfl, rfl, rfl, by decide +kernel, rfl, by decide +kernel, by decide +kernel⟩
theorem okLawGreat : okB cLawGreat.N (defScope sLawGreat) cLawGreat.body (defBody sLawGreat) = true := by decide +kernel
abbrev sLawCommon : Stmt := top 17
theorem scLawCommon : FnScope cLawCommon.N cLawCommon.ps (defScope sLawCommon) := ⟨rfl, rfl, rfl, by decide +kernel, rfl, by decide +kernel, by decide +kernel⟩
theorem okLawCommon : okB cLawCommon.N (defScope sLawCommon) cLawCommon.body (defBody sLawCommon) = true := by decide +kernel
abbrev sLawLowest : Stmt := top 18
theorem scLawLowest : FnScope cLawLowest.N cLawLowest.ps (defScope sLawLowest) := ⟨rfl, rfl, rfl, by decide +kernel, rfl, by decide +kernel, by decide +kernel⟩
theorem okLawLowest : okB cLawLowest.N (defScope sLawLowest) cLawLowest.body (defBody sLawLowest) = true := by decide +kernel
abbrev sLawFrom : Stmt := top 19
theorem scLawFrom : FnScope cLawFrom.N cLawFrom.ps (defScope sLawFrom) := ⟨rfl, rfl, rfl, by decide +kernel, rfl, by decide +kernel, by decide +kernel⟩
theorem okLawFrom : okB cLawFrom.N (defScope sLawFrom) cLawFrom.body (defBody sLawFrom) = true := by decide +kernel
abbrev sLawSignText : Stmt := top 20
theorem scLawSignText : FnScope cLawSignText.N cLawSignText.ps (defScope sLawSignText) := ⟨rfl, rfl, rfl, by decide +kernel, rfl, by decide +kernel, by decide +kernel⟩
theorem okLawSignText : okB cLawSignText.N (defScope sLawSignText) cLawSignText.body (defBody sLawSignText) = true := by decide +kernel
abbrev sLawOdd : Stmt := top 21
theorem scLawOdd : FnScope cLawOdd.N cLawOdd.ps (defScope sLawOdd) := ⟨rfl, rfl, rfl, by decide +kernel, rfl, by decide +kernel, by decide +kernel⟩
theorem okLawOdd : okB cLawOdd.N (defScope sLawOdd) cLawOdd.body (defBody sLawOdd) = true := by decide +kernel
abbrev sLawIsWhole : Stmt := top 22
theorem scLawIsWhole : FnScope cLawIsWhole.N cLawIsWhole.ps (defScope sLawIsWhole) := ⟨rfl, rfl, rfl, by decide +kernel, rfl, by decide +kernel, by decide +kernel⟩
theorem okLawIsWhole : okB cLawIsWhole.N (defScope sLawIsWhole) cLawIsWhole.body (defBody sLawIsWhole) = true := by decide +kernel
abbrev sLawIsDigit : Stmt := top 23
theorem scLawIsDigit : FnScope cLawIsDigit.N cLawIsDigit.ps (defScope sLawIsDigit) := ⟨rfl, rfl, rfl, by decide +kernel, rfl, by decide +kernel, by decide +kernel⟩
theorem okLawIsDigit : okB cLawIsDigit.N (defScope sLawIsDigit) cLawIsDigit.body (defBody sLawIsDigit) = true := by decide +kernel
abbrev sLawMade : Stmt := top 24
theorem scLawMade : FnScope cLawMade.N cLawMade.ps (defScope sLawMade) := ⟨rfl, rfl, rfl, by decide +kernel, rfl, by decide +kernel, by decide +kernel⟩
theorem okLawMade : okB cLawMade.N (defScope sLawMade) cLawMade.body (defBody sLawMade) = true := by decide +kernel
abbrev sLawParted : Stmt := top 25
theorem scLawParted : FnScope cLawParted.N cLawParted.ps (defScope sLawParted) := ⟨rfl, rfl, rfl, by decide +kernel, rfl, by decide +kernel, by decide +kernel⟩
theorem okLawParted : okB cLawParted.N (defScope sLawParted) cLawParted.body (defBody sLawParted) = true := by decide +kernel
abbrev sLawShown : Stmt := top 26
theorem scLawShown : FnScope cLawShown.N cLawShown.ps (defScope sLawShown) := ⟨rfl, rfl, rfl, by decide +kernel, rfl, by decide +kernel, by decide +kernel⟩
theorem okLawShown : okB cLawShown.N (defScope sLawShown) cLawShown.body (defBody sLawShown) = true := by decide +kernel
abbrev sLawDue : Stmt := top 27
theorem scLawDue : FnScope cLawDue.N cLawDue.ps (defScope sLawDue) := ⟨rfl, rfl, rfl, by decide +kernel, rfl, by decide +kernel, by decide +kernel⟩
theorem okLawDue : okB cLawDue.N (defScope sLawDue) cLawDue.body (defBody sLawDue) = true := by decide +kernel
abbrev sLawHalf : Stmt := top 28
theorem scLawHalf : FnScope cLawHalf.N cLawHalf.ps (defScope sLawHalf) := ⟨rfl, rfl, rfl, by decide +kernel, rfl, by decide +kernel, by decide +kernel⟩
theorem okLawHalf : okB cLawHalf.N (defScope sLawHalf) cLawHalf.body (defBody sLawHalf) = true := by decide +kernel
abbrev sLawThing : Stmt := top 29
theorem scLawThing : FnScope cLawThing.N cLawThing.ps (defScope sLawThing) := ⟨rfl, rfl, rfl, by decide +kernel, rfl, by decide +kernel, by decide +kernel⟩
theorem okLawThing : okB cLawThing.N (defScope sLawThing) cLawThing.body (defBody sLawThing) = true := by decide +kernel
abbrev sLawRight : Stmt := top 30
theorem scLawRight : FnScope cLawRight.N cLawRight.ps (defScope sLawRight) := ⟨rfl, rfl, rfl, by decide +kernel, rfl, by decide +kernel, by decide +kernel⟩
theorem okLawRight : okB cLawRight.N (defScope sLawRight) cLawRight.body (defBody sLawRight) = true := by decide +kernel
abbrev sLaw : Stmt := top 31
theorem scLaw : FnScope cLaw.N cLaw.ps (defScope sLaw) := ⟨rfl, rfl, rfl, by decide +kernel, rfl, by decide +kernel, by decide +kernel⟩
theorem okLaw : okB cLaw.N (defScope sLaw) cLaw.body (defBody sLaw) = true := by decide +kernel
abbrev sRatioTop : Stmt := inClass (top 8) 1
theorem scRatioTop : FnScope cRatioTop.N cRatioTop.ps (defScope sRatioTop) := ⟨rfl, rfl, rfl, by decide +kernel, rfl, by decide +kernel, by decide +kernel⟩
theorem okRatioTop : okB cRatioTop.N (defScope sRatioTop) cRatioTop.body (defBody sRatioTop) = true := by decide +kernel
abbrev sRatioBottom : Stmt := inClass (top 8) 2
theorem scRatioBottom : FnScope cRatioBottom.N cRatioBottom.ps (defScope sRatioBottom) := ⟨rfl, rfl, rfl, by decide +kernel, rfl, by decide +kernel, by decide +kernel⟩
theorem okRatioBottom : okB cRatioBottom.N (defScope sRatioBottom) cRatioBottom.body (defBody sRatioBottom) = true := by decide +kernel
abbrev sRatioOver : Stmt := inClass (top 8) 4
theorem scRatioOver : FnScope cRatioOver.N cRatioOver.ps (defScope sRatioOver) := ⟨rfl, rfl, rfl, by decide +kernel, rfl, by decide +kernel, by decide +kernel⟩
theorem okRatioOver : okB cRatioOver.N (defScope sRatioOver) cRatioOver.body (defBody sRatioOver) = true := by decide +kernel
abbrev sRatioEq : Stmt := inClass (top 8) 9
theorem scRatioEq : FnScope cRatioEq.N cRatioEq.ps (defScope sRatioEq) := ⟨rfl, rfl, rfl, by decide +kernel, rfl, by decide +kernel, by decide +kernel⟩
theorem okRatioEq : okB cRatioEq.N (defScope sRatioEq) cRatioEq.body (defBody sRatioEq) = true := by decide +kernel
abbrev sRatioBool : Stmt := inClass (top 8) 10
theorem scRatioBool : FnScope cRatioBool.N cRatioBool.ps (defScope sRatioBool) := ⟨rfl, rfl, rfl, by decide +kernel, rfl, by decide +kernel, by decide +kernel⟩
theorem okRatioBool : okB cRatioBool.N (defScope sRatioBool) cRatioBool.body (defBody sRatioBool) = true := by decide +kernel
abbrev sRatioStr : Stmt := inClass (top 8) 11
theorem scRatioStr : FnScope cRatioStr.N cRatioStr.ps (defScope sRatioStr) := ⟨rfl, rfl, rfl, by decide +kernel, rfl, by decide +kernel, by decide +kernel⟩
theorem okRatioStr : okB cRatioStr.N (defScope sRatioStr) cRatioStr.body (defBody sRatioStr) = true := by decide +kernel
abbrev sRatioRepr : Stmt := inClass (top 8) 12
theorem scRatioRepr : FnScope cRatioRepr.N cRatioRepr.ps (defScope sRatioRepr) := ⟨rfl, rfl, rfl, by decide +kernel, rfl, by decide +kernel, by decide +kernel⟩
theorem okRatioRepr : okB cRatioRepr.N (defScope sRatioRepr) cRatioRepr.body (defBody sRatioRepr) = true := by decide +kernel
abbrev sRatioInit : Stmt := inClass (top 8) 0
theorem scRatioInit : FnScope cRatioInit.N cRatioInit.ps (defScope sRatioInit) := ⟨rfl, rfl, rfl, by decide +kernel, rfl, by decide +kernel, by decide +kernel⟩
theorem okRatioInit : okB cRatioInit.N (defScope sRatioInit) cRatioInit.body (defBody sRatioInit) = true := by decide +kernel
abbrev sInvalidNumberInit : Stmt := inClass (top 2) 0
end K05
set_option Elab.async false
set_option linter.all false
set_option maxRecDepth 100000
set_option autoImplicit false
set_option maxHeartbeats 2000000
namespace K05
open PySem L2 TL RE
theorem init_rowC0 {K : PySem.W.Frag} {mg : Str → Option Value} {fIC0 fTC0 : Addr} {odIC0 anIC0 odTC0 : Option Addr} {slIC0 slTC0 : Array (Option Value)} {ocIC0 kVIC0 dcIC0 pmIC0 cdIC0 ctIC0 ocTC0 : Value} {tkC00 : Tok} {nTC0 : Nat}
    (lIC0 : K.lookup fIC0 = some ⟨ocIC0, odIC0, .func (PySem.W.fnOf "__init__" "Ratio.__init__" (defArgs sRatioInit) (defBody sRatioInit) (defScope sRatioInit) (.ref fTC0) kVIC0 dcIC0 pmIC0 anIC0 cdIC0 ctIC0), slIC0⟩)
    (cIC0 : PySem.W.codeIn K cdIC0 "Ratio.__init__" = true) (lTC0 : K.lookup fTC0 = some ⟨ocTC0, odTC0, .seq #[.int 1 tkC00] nTC0, slTC0⟩) :
    RowOk K mg ⟨"Ratio.__init__", false, cRatioInit, fIC0, (PySem.W.fnOf "__init__" "Ratio.__init__" (defArgs sRatioInit) (defBody sRatioInit) (defScope sRatioInit) (.ref fTC0) kVIC0 dcIC0 pmIC0 anIC0 cdIC0 ctIC0), [((3, []), [.inl 0, .inl 1, .inl 2]), ((2, []), [.inl 0, .inl 1, .inr (.int 1)])]⟩ := by
  have hd0 : ∀ M H, Rep M H (.int 1) (V.int 1) := fun M H => rfl
  have hv0 : RelV (V.int 1) (.int 1 tkC00) := ⟨tkC00, rfl⟩
  have b : BndP K (PySem.W.fnOf "__init__" "Ratio.__init__" (defArgs sRatioInit) (defBody sRatioInit) (defScope sRatioInit) (.ref fTC0) kVIC0 dcIC0 pmIC0 anIC0 cdIC0 ctIC0) ["self", "top", "bottom"] :=
    bndP_def (its := [.int 1 tkC00]) lTC0 rfl fun us hl => match us, hl with | [_, _, _], _ => ⟨_, rfl, rfl⟩
  refine ⟨⟨_, _, _, _, _, _, _, _, _, _, _, _, _, _, _, rfl, lIC0, cIC0, scRatioInit, okRatioInit⟩, fun _ => b, fun z hz => ?_, fun z => by cases z⟩
  simp only [List.mem_cons, List.not_mem_nil, or_false] at hz
  rcases hz with rfl | rfl
  · exact bnd3 b
  · exact bnd_def (ps := ["self", "top", "bottom"]) (its := [.int 1 tkC00]) (q := [.inl 0, .inl 1, .inr (.int 1 tkC00)]) lTC0 rfl (.inl 0 (.inl 1 (.inr hd0 hv0 .nil))) rfl fun us ws hu hw => match us, ws, hu, hw with | [_, _], [], _, _ => ⟨_, rfl, fun zs hz => by cases hz; rfl⟩
theorem xtxX0 {K : PySem.W.Frag} {X0 fX0 : Addr} {odX0 anX0 : Option Addr} {slX0 : Array (Option Value)} {ocX0 kVX0 dcX0 pmX0 cdX0 ctX0 : Value}
    (xsX0 : PySem.W.subIn K (.ref X0) (.type "BaseException") = some true)
    (xtX0 : PySem.W.typeIn K (.ref X0) = some (.type "type"))
    (xiX0 : PySem.W.excInitIn K X0 [.type "ValueError", .type "Exception", .type "BaseException", .type "object"] "ValueError.__new__" = true)
    (xoX0 : PySem.W.excOver K X0 [.type "ValueError", .type "Exception", .type "BaseException", .type "object"] = true)
    (xhX0 : PySem.W.hasDictIn K X0 = true)
    (xaX0 : PySem.W.findIn K (.ref X0) "__setattr__" = some (some (.builtin "object.__setattr__")))
    (xnX0 : PySem.W.findIn K (.ref X0) "given" = some none)
    (xitX0 : PySem.W.findIn K (.ref X0) "__init__" = some (some (.ref fX0)))
    (xftX0 : PySem.W.typeIn K (.ref fX0) = some (.type "function"))
    (xkX0 : PySem.W.keepIn K (.ref X0) = true)
    (lX0 : K.lookup fX0 = some ⟨ocX0, odX0, .func (PySem.W.fnOf "__init__" "InvalidNumber.__init__" (defArgs sInvalidNumberInit) (defBody sInvalidNumberInit) (defScope sInvalidNumberInit) .none kVX0 dcX0 pmX0 anX0 cdX0 ctX0), slX0⟩)
    (cX0 : PySem.W.codeIn K cdX0 "InvalidNumber.__init__" = true) :
    XTxt K X0 fX0 "given" "ValueError" "ValueError.__new__" "ValueError.__init__" [.type "ValueError", .type "Exception", .type "BaseException", .type "object"] :=
  ⟨PySem.F.excBase_ValueError, PySem.F.store_ValueError, xiX0, xoX0, xhX0, xaX0, xnX0, xitX0, xftX0, xkX0, xsX0, xtX0, ⟨_, _, _, _, _, _, _, _, _, _, _, _, _, _, _, _, _, _, _, lX0, cX0, rfl, rfl, by decide +kernel, by decide +kernel, rfl, rfl, by decide, by decide, fun s x v => .of_eq rfl⟩⟩
theorem all_mk {l : PySem.W.OpenLaw} {w : World} {K : PySem.W.Frag} {h : Heap} {mg : Str → Option Value} {fa : Addr} {C0 X0 fm0 fm1 fm2 fm3 fm4 fm5 fm6 fm7 fm8 fm9 fm10 fm11 fm12 fm13 fm14 fm15 fm16 fm17 fm18 fm19 fm20 fm21 fp0x0 pp0x0 fp0x1 pp0x1 fm0x0 fo0x0 fo0x1 fo0x2 fo0x3 fIC0 fTC0 fX0 : Addr} (X : K.In h) (G : h.Ns mainGlobals mg) (hfa : mg "law" = some (.ref fa))
    {odm0 anm0 : Option Addr} {slm0 : Array (Option Value)} {ocm0 kVm0 dcm0 pmm0 cdm0 ctm0 : Value}
    {odm1 anm1 : Option Addr} {slm1 : Array (Option Value)} {ocm1 kVm1 dcm1 pmm1 cdm1 ctm1 : Value}
    {odm2 anm2 : Option Addr} {slm2 : Array (Option Value)} {ocm2 kVm2 dcm2 pmm2 cdm2 ctm2 : Value}
    {odm3 anm3 : Option Addr} {slm3 : Array (Option Value)} {ocm3 kVm3 dcm3 pmm3 cdm3 ctm3 : Value}
    {odm4 anm4 : Option Addr} {slm4 : Array (Option Value)} {ocm4 kVm4 dcm4 pmm4 cdm4 ctm4 : Value}
    {odm5 anm5 : Option Addr} {slm5 : Array (Option Value)} {ocm5 kVm5 dcm5 pmm5 cdm5 ctm5 : Value}
    {odm6 anm6 : Option Addr} {slm6 : Array (Option Value)} {ocm6 kVm6 dcm6 pmm6 cdm6 ctm6 : Value}
    {odm7 anm7 : Option Addr} {slm7 : Array (Option Value)} {ocm7 kVm7 dcm7 pmm7 cdm7 ctm7 : Value}
    {odm8 anm8 : Option Addr} {slm8 : Array (Option Value)} {ocm8 kVm8 dcm8 pmm8 cdm8 ctm8 : Value}
    {odm9 anm9 : Option Addr} {slm9 : Array (Option Value)} {ocm9 kVm9 dcm9 pmm9 cdm9 ctm9 : Value}
    {odm10 anm10 : Option Addr} {slm10 : Array (Option Value)} {ocm10 kVm10 dcm10 pmm10 cdm10 ctm10 : Value}
    {odm11 anm11 : Option Addr} {slm11 : Array (Option Value)} {ocm11 kVm11 dcm11 pmm11 cdm11 ctm11 : Value}
    {odm12 anm12 : Option Addr} {slm12 : Array (Option Value)} {ocm12 kVm12 dcm12 pmm12 cdm12 ctm12 : Value}
    {odm13 anm13 : Option Addr} {slm13 : Array (Option Value)} {ocm13 kVm13 dcm13 pmm13 cdm13 ctm13 : Value}
    {odm14 anm14 : Option Addr} {slm14 : Array (Option Value)} {ocm14 kVm14 dcm14 pmm14 cdm14 ctm14 : Value}
    {odm15 anm15 : Option Addr} {slm15 : Array (Option Value)} {ocm15 kVm15 dcm15 pmm15 cdm15 ctm15 : Value}
    {odm16 anm16 : Option Addr} {slm16 : Array (Option Value)} {ocm16 kVm16 dcm16 pmm16 cdm16 ctm16 : Value}
    {odm17 anm17 : Option Addr} {slm17 : Array (Option Value)} {ocm17 kVm17 dcm17 pmm17 cdm17 ctm17 : Value}
    {odm18 anm18 : Option Addr} {slm18 : Array (Option Value)} {ocm18 kVm18 dcm18 pmm18 cdm18 ctm18 : Value}
    {odm19 anm19 : Option Addr} {slm19 : Array (Option Value)} {ocm19 kVm19 dcm19 pmm19 cdm19 ctm19 : Value}
    {odm20 anm20 : Option Addr} {slm20 : Array (Option Value)} {ocm20 kVm20 dcm20 pmm20 cdm20 ctm20 : Value}
    {odm21 anm21 : Option Addr} {slm21 : Array (Option Value)} {ocm21 kVm21 dcm21 pmm21 cdm21 ctm21 : Value}
    {rp0x0 : List Value}
    {odp0x0 anp0x0 : Option Addr} {slp0x0 : Array (Option Value)} {ocp0x0 kVp0x0 dcp0x0 pmp0x0 cdp0x0 ctp0x0 : Value}
    {rp0x1 : List Value}
    {odp0x1 anp0x1 : Option Addr} {slp0x1 : Array (Option Value)} {ocp0x1 kVp0x1 dcp0x1 pmp0x1 cdp0x1 ctp0x1 : Value}
    {odm0x0 anm0x0 : Option Addr} {slm0x0 : Array (Option Value)} {ocm0x0 kVm0x0 dcm0x0 pmm0x0 cdm0x0 ctm0x0 : Value}
    {odo0x0 ano0x0 : Option Addr} {slo0x0 : Array (Option Value)} {oco0x0 kVo0x0 dco0x0 pmo0x0 cdo0x0 cto0x0 : Value}
    {odo0x1 ano0x1 : Option Addr} {slo0x1 : Array (Option Value)} {oco0x1 kVo0x1 dco0x1 pmo0x1 cdo0x1 cto0x1 : Value}
    {odo0x2 ano0x2 : Option Addr} {slo0x2 : Array (Option Value)} {oco0x2 kVo0x2 dco0x2 pmo0x2 cdo0x2 cto0x2 : Value}
    {odo0x3 ano0x3 : Option Addr} {slo0x3 : Array (Option Value)} {oco0x3 kVo0x3 dco0x3 pmo0x3 cdo0x3 cto0x3 : Value}
    {odIC0 anIC0 : Option Addr} {slIC0 : Array (Option Value)} {ocIC0 kVIC0 dcIC0 pmIC0 cdIC0 ctIC0 : Value}
    {odTC0 : Option Addr} {slTC0 : Array (Option Value)} {ocTC0 : Value} {tkC00 : Tok} {nTC0 : Nat}
    {cd_C0 : ClassData}
    {cd_X0 : ClassData}
    {odX0 anX0 : Option Addr} {slX0 : Array (Option Value)} {ocX0 kVX0 dcX0 pmX0 cdX0 ctX0 : Value}
    (aC0 : PySem.W.nsIn K mainGlobals "Ratio" = some (some (.ref C0)))
    (aX0 : PySem.W.nsIn K mainGlobals "InvalidNumber" = some (some (.ref X0)))
    (am0 : PySem.W.nsIn K mainGlobals "is_integer" = some (some (.ref fm0)))
    (lm0 : K.lookup fm0 = some ⟨ocm0, odm0, .func (PySem.W.fnOf "is_integer" "is_integer" (defArgs sIsInteger) (defBody sIsInteger) (defScope sIsInteger) .none kVm0 dcm0 pmm0 anm0 cdm0 ctm0), slm0⟩)
    (cm0 : PySem.W.codeIn K cdm0 "is_integer" = true)
    (km0 : PySem.W.keepIn K (.ref fm0) = true)
    (am1 : PySem.W.nsIn K mainGlobals "common" = some (some (.ref fm1)))
    (lm1 : K.lookup fm1 = some ⟨ocm1, odm1, .func (PySem.W.fnOf "common" "common" (defArgs sCommon) (defBody sCommon) (defScope sCommon) .none kVm1 dcm1 pmm1 anm1 cdm1 ctm1), slm1⟩)
    (cm1 : PySem.W.codeIn K cdm1 "common" = true)
    (km1 : PySem.W.keepIn K (.ref fm1) = true)
    (am2 : PySem.W.nsIn K mainGlobals "is_number" = some (some (.ref fm2)))
    (lm2 : K.lookup fm2 = some ⟨ocm2, odm2, .func (PySem.W.fnOf "is_number" "is_number" (defArgs sIsNumber) (defBody sIsNumber) (defScope sIsNumber) .none kVm2 dcm2 pmm2 anm2 cdm2 ctm2), slm2⟩)
    (cm2 : PySem.W.codeIn K cdm2 "is_number" = true)
    (km2 : PySem.W.keepIn K (.ref fm2) = true)
    (am3 : PySem.W.nsIn K mainGlobals "as_ratio" = some (some (.ref fm3)))
    (lm3 : K.lookup fm3 = some ⟨ocm3, odm3, .func (PySem.W.fnOf "as_ratio" "as_ratio" (defArgs sAsRatio) (defBody sAsRatio) (defScope sAsRatio) .none kVm3 dcm3 pmm3 anm3 cdm3 ctm3), slm3⟩)
    (cm3 : PySem.W.codeIn K cdm3 "as_ratio" = true)
    (km3 : PySem.W.keepIn K (.ref fm3) = true)
    (am4 : PySem.W.nsIn K mainGlobals "_law_purse" = some (some (.ref fm4)))
    (lm4 : K.lookup fm4 = some ⟨ocm4, odm4, .func (PySem.W.fnOf "_law_purse" "_law_purse" (defArgs sLawPurse) (defBody sLawPurse) (defScope sLawPurse) .none kVm4 dcm4 pmm4 anm4 cdm4 ctm4), slm4⟩)
    (cm4 : PySem.W.codeIn K cdm4 "_law_purse" = true)
    (km4 : PySem.W.keepIn K (.ref fm4) = true)
    (am5 : PySem.W.nsIn K mainGlobals "_law_draw" = some (some (.ref fm5)))
    (lm5 : K.lookup fm5 = some ⟨ocm5, odm5, .func (PySem.W.fnOf "_law_draw" "_law_draw" (defArgs sLawDraw) (defBody sLawDraw) (defScope sLawDraw) .none kVm5 dcm5 pmm5 anm5 cdm5 ctm5), slm5⟩)
    (cm5 : PySem.W.codeIn K cdm5 "_law_draw" = true)
    (km5 : PySem.W.keepIn K (.ref fm5) = true)
    (am6 : PySem.W.nsIn K mainGlobals "_law_great" = some (some (.ref fm6)))
    (lm6 : K.lookup fm6 = some ⟨ocm6, odm6, .func (PySem.W.fnOf "_law_great" "_law_great" (defArgs sLawGreat) (defBody sLawGreat) (defScope sLawGreat) .none kVm6 dcm6 pmm6 anm6 cdm6 ctm6), slm6⟩)
    (cm6 : PySem.W.codeIn K cdm6 "_law_great" = true)
    (km6 : PySem.W.keepIn K (.ref fm6) = true)
    (am7 : PySem.W.nsIn K mainGlobals "_law_common" = some (some (.ref fm7)))
    (lm7 : K.lookup fm7 = some ⟨ocm7, odm7, .func (PySem.W.fnOf "_law_common" "_law_common" (defArgs sLawCommon) (defBody sLawCommon) (defScope sLawCommon) .none kVm7 dcm7 pmm7 anm7 cdm7 ctm7), slm7⟩)
    (cm7 : PySem.W.codeIn K cdm7 "_law_common" = true)
    (km7 : PySem.W.keepIn K (.ref fm7) = true)
    (am8 : PySem.W.nsIn K mainGlobals "_law_lowest" = some (some (.ref fm8)))
    (lm8 : K.lookup fm8 = some ⟨ocm8, odm8, .func (PySem.W.fnOf "_law_lowest" "_law_lowest" (defArgs sLawLowest) (defBody sLawLowest) (defScope sLawLowest) .none kVm8 dcm8 pmm8 anm8 cdm8 ctm8), slm8⟩)
    (cm8 : PySem.W.codeIn K cdm8 "_law_lowest" = true)
    (km8 : PySem.W.keepIn K (.ref fm8) = true)
    (am9 : PySem.W.nsIn K mainGlobals "_law_from" = some (some (.ref fm9)))
    (lm9 : K.lookup fm9 = some ⟨ocm9, odm9, .func (PySem.W.fnOf "_law_from" "_law_from" (defArgs sLawFrom) (defBody sLawFrom) (defScope sLawFrom) .none kVm9 dcm9 pmm9 anm9 cdm9 ctm9), slm9⟩)
    (cm9 : PySem.W.codeIn K cdm9 "_law_from" = true)
    (km9 : PySem.W.keepIn K (.ref fm9) = true)
    (am10 : PySem.W.nsIn K mainGlobals "_law_sign_text" = some (some (.ref fm10)))
    (lm10 : K.lookup fm10 = some ⟨ocm10, odm10, .func (PySem.W.fnOf "_law_sign_text" "_law_sign_text" (defArgs sLawSignText) (defBody sLawSignText) (defScope sLawSignText) .none kVm10 dcm10 pmm10 anm10 cdm10 ctm10), slm10⟩)
    (cm10 : PySem.W.codeIn K cdm10 "_law_sign_text" = true)
    (km10 : PySem.W.keepIn K (.ref fm10) = true)
    (am11 : PySem.W.nsIn K mainGlobals "_law_odd" = some (some (.ref fm11)))
    (lm11 : K.lookup fm11 = some ⟨ocm11, odm11, .func (PySem.W.fnOf "_law_odd" "_law_odd" (defArgs sLawOdd) (defBody sLawOdd) (defScope sLawOdd) .none kVm11 dcm11 pmm11 anm11 cdm11 ctm11), slm11⟩)
    (cm11 : PySem.W.codeIn K cdm11 "_law_odd" = true)
    (km11 : PySem.W.keepIn K (.ref fm11) = true)
    (am12 : PySem.W.nsIn K mainGlobals "_law_is_whole" = some (some (.ref fm12)))
    (lm12 : K.lookup fm12 = some ⟨ocm12, odm12, .func (PySem.W.fnOf "_law_is_whole" "_law_is_whole" (defArgs sLawIsWhole) (defBody sLawIsWhole) (defScope sLawIsWhole) .none kVm12 dcm12 pmm12 anm12 cdm12 ctm12), slm12⟩)
    (cm12 : PySem.W.codeIn K cdm12 "_law_is_whole" = true)
    (km12 : PySem.W.keepIn K (.ref fm12) = true)
    (am13 : PySem.W.nsIn K mainGlobals "_law_is_digit" = some (some (.ref fm13)))
    (lm13 : K.lookup fm13 = some ⟨ocm13, odm13, .func (PySem.W.fnOf "_law_is_digit" "_law_is_digit" (defArgs sLawIsDigit) (defBody sLawIsDigit) (defScope sLawIsDigit) .none kVm13 dcm13 pmm13 anm13 cdm13 ctm13), slm13⟩)
    (cm13 : PySem.W.codeIn K cdm13 "_law_is_digit" = true)
    (km13 : PySem.W.keepIn K (.ref fm13) = true)
    (am14 : PySem.W.nsIn K mainGlobals "_law_made" = some (some (.ref fm14)))
    (lm14 : K.lookup fm14 = some ⟨ocm14, odm14, .func (PySem.W.fnOf "_law_made" "_law_made" (defArgs sLawMade) (defBody sLawMade) (defScope sLawMade) .none kVm14 dcm14 pmm14 anm14 cdm14 ctm14), slm14⟩)
    (cm14 : PySem.W.codeIn K cdm14 "_law_made" = true)
    (km14 : PySem.W.keepIn K (.ref fm14) = true)
    (am15 : PySem.W.nsIn K mainGlobals "_law_parted" = some (some (.ref fm15)))
    (lm15 : K.lookup fm15 = some ⟨ocm15, odm15, .func (PySem.W.fnOf "_law_parted" "_law_parted" (defArgs sLawParted) (defBody sLawParted) (defScope sLawParted) .none kVm15 dcm15 pmm15 anm15 cdm15 ctm15), slm15⟩)
    (cm15 : PySem.W.codeIn K cdm15 "_law_parted" = true)
    (km15 : PySem.W.keepIn K (.ref fm15) = true)
    (am16 : PySem.W.nsIn K mainGlobals "_law_shown" = some (some (.ref fm16)))
    (lm16 : K.lookup fm16 = some ⟨ocm16, odm16, .func (PySem.W.fnOf "_law_shown" "_law_shown" (defArgs sLawShown) (defBody sLawShown) (defScope sLawShown) .none kVm16 dcm16 pmm16 anm16 cdm16 ctm16), slm16⟩)
    (cm16 : PySem.W.codeIn K cdm16 "_law_shown" = true)
    (km16 : PySem.W.keepIn K (.ref fm16) = true)
    (am17 : PySem.W.nsIn K mainGlobals "_law_due" = some (some (.ref fm17)))
    (lm17 : K.lookup fm17 = some ⟨ocm17, odm17, .func (PySem.W.fnOf "_law_due" "_law_due" (defArgs sLawDue) (defBody sLawDue) (defScope sLawDue) .none kVm17 dcm17 pmm17 anm17 cdm17 ctm17), slm17⟩)
    (cm17 : PySem.W.codeIn K cdm17 "_law_due" = true)
    (km17 : PySem.W.keepIn K (.ref fm17) = true)
    (am18 : PySem.W.nsIn K mainGlobals "_law_half" = some (some (.ref fm18)))
    (lm18 : K.lookup fm18 = some ⟨ocm18, odm18, .func (PySem.W.fnOf "_law_half" "_law_half" (defArgs sLawHalf) (defBody sLawHalf) (defScope sLawHalf) .none kVm18 dcm18 pmm18 anm18 cdm18 ctm18), slm18⟩)
    (cm18 : PySem.W.codeIn K cdm18 "_law_half" = true)
    (km18 : PySem.W.keepIn K (.ref fm18) = true)
    (am19 : PySem.W.nsIn K mainGlobals "_law_thing" = some (some (.ref fm19)))
    (lm19 : K.lookup fm19 = some ⟨ocm19, odm19, .func (PySem.W.fnOf "_law_thing" "_law_thing" (defArgs sLawThing) (defBody sLawThing) (defScope sLawThing) .none kVm19 dcm19 pmm19 anm19 cdm19 ctm19), slm19⟩)
    (cm19 : PySem.W.codeIn K cdm19 "_law_thing" = true)
    (km19 : PySem.W.keepIn K (.ref fm19) = true)
    (am20 : PySem.W.nsIn K mainGlobals "_law_right" = some (some (.ref fm20)))
    (lm20 : K.lookup fm20 = some ⟨ocm20, odm20, .func (PySem.W.fnOf "_law_right" "_law_right" (defArgs sLawRight) (defBody sLawRight) (defScope sLawRight) .none kVm20 dcm20 pmm20 anm20 cdm20 ctm20), slm20⟩)
    (cm20 : PySem.W.codeIn K cdm20 "_law_right" = true)
    (km20 : PySem.W.keepIn K (.ref fm20) = true)
    (am21 : PySem.W.nsIn K mainGlobals "law" = some (some (.ref fm21)))
    (lm21 : K.lookup fm21 = some ⟨ocm21, odm21, .func (PySem.W.fnOf "law" "law" (defArgs sLaw) (defBody sLaw) (defScope sLaw) .none kVm21 dcm21 pmm21 anm21 cdm21 ctm21), slm21⟩)
    (cm21 : PySem.W.codeIn K cdm21 "law" = true)
    (km21 : PySem.W.keepIn K (.ref fm21) = true)
    (ap0x0 : PySem.W.findIn K (.ref C0) "top" = some (some (.ref pp0x0)))
    (gp0x0 : PySem.W.specialIn K (.ref pp0x0) "__get__" = some (some (.builtin "property.__get__")))
    (tp0x0 : PySem.W.takesIn K (.ref pp0x0) = some true)
    (rp0x0h : PySem.W.recIn K pp0x0 "property" = some (.ref fp0x0 :: rp0x0))
    (lp0x0 : K.lookup fp0x0 = some ⟨ocp0x0, odp0x0, .func (PySem.W.fnOf "top" "Ratio.top" (defArgs sRatioTop) (defBody sRatioTop) (defScope sRatioTop) .none kVp0x0 dcp0x0 pmp0x0 anp0x0 cdp0x0 ctp0x0), slp0x0⟩)
    (cp0x0 : PySem.W.codeIn K cdp0x0 "Ratio.top" = true)
    (ap0x1 : PySem.W.findIn K (.ref C0) "bottom" = some (some (.ref pp0x1)))
    (gp0x1 : PySem.W.specialIn K (.ref pp0x1) "__get__" = some (some (.builtin "property.__get__")))
    (tp0x1 : PySem.W.takesIn K (.ref pp0x1) = some true)
    (rp0x1h : PySem.W.recIn K pp0x1 "property" = some (.ref fp0x1 :: rp0x1))
    (lp0x1 : K.lookup fp0x1 = some ⟨ocp0x1, odp0x1, .func (PySem.W.fnOf "bottom" "Ratio.bottom" (defArgs sRatioBottom) (defBody sRatioBottom) (defScope sRatioBottom) .none kVp0x1 dcp0x1 pmp0x1 anp0x1 cdp0x1 ctp0x1), slp0x1⟩)
    (cp0x1 : PySem.W.codeIn K cdp0x1 "Ratio.bottom" = true)
    (am0x0 : PySem.W.findIn K (.ref C0) "over" = some (some (.ref fm0x0)))
    (im0x0 : PySem.W.isFn K (.ref fm0x0) = true)
    (km0x0 : PySem.W.keepIn K (.ref fm0x0) = true)
    (lm0x0 : K.lookup fm0x0 = some ⟨ocm0x0, odm0x0, .func (PySem.W.fnOf "over" "Ratio.over" (defArgs sRatioOver) (defBody sRatioOver) (defScope sRatioOver) .none kVm0x0 dcm0x0 pmm0x0 anm0x0 cdm0x0 ctm0x0), slm0x0⟩)
    (cm0x0 : PySem.W.codeIn K cdm0x0 "Ratio.over" = true)
    (ao0x0 : PySem.W.findIn K (.ref C0) "__eq__" = some (some (.ref fo0x0)))
    (io0x0 : PySem.W.isFn K (.ref fo0x0) = true)
    (lo0x0 : K.lookup fo0x0 = some ⟨oco0x0, odo0x0, .func (PySem.W.fnOf "__eq__" "Ratio.__eq__" (defArgs sRatioEq) (defBody sRatioEq) (defScope sRatioEq) .none kVo0x0 dco0x0 pmo0x0 ano0x0 cdo0x0 cto0x0), slo0x0⟩)
    (co0x0 : PySem.W.codeIn K cdo0x0 "Ratio.__eq__" = true)
    (ao0x1 : PySem.W.findIn K (.ref C0) "__bool__" = some (some (.ref fo0x1)))
    (io0x1 : PySem.W.isFn K (.ref fo0x1) = true)
    (lo0x1 : K.lookup fo0x1 = some ⟨oco0x1, odo0x1, .func (PySem.W.fnOf "__bool__" "Ratio.__bool__" (defArgs sRatioBool) (defBody sRatioBool) (defScope sRatioBool) .none kVo0x1 dco0x1 pmo0x1 ano0x1 cdo0x1 cto0x1), slo0x1⟩)
    (co0x1 : PySem.W.codeIn K cdo0x1 "Ratio.__bool__" = true)
    (ao0x2 : PySem.W.findIn K (.ref C0) "__str__" = some (some (.ref fo0x2)))
    (io0x2 : PySem.W.isFn K (.ref fo0x2) = true)
    (lo0x2 : K.lookup fo0x2 = some ⟨oco0x2, odo0x2, .func (PySem.W.fnOf "__str__" "Ratio.__str__" (defArgs sRatioStr) (defBody sRatioStr) (defScope sRatioStr) .none kVo0x2 dco0x2 pmo0x2 ano0x2 cdo0x2 cto0x2), slo0x2⟩)
    (co0x2 : PySem.W.codeIn K cdo0x2 "Ratio.__str__" = true)
    (ao0x3 : PySem.W.findIn K (.ref C0) "__repr__" = some (some (.ref fo0x3)))
    (io0x3 : PySem.W.isFn K (.ref fo0x3) = true)
    (lo0x3 : K.lookup fo0x3 = some ⟨oco0x3, odo0x3, .func (PySem.W.fnOf "__repr__" "Ratio.__repr__" (defArgs sRatioRepr) (defBody sRatioRepr) (defScope sRatioRepr) .none kVo0x3 dco0x3 pmo0x3 ano0x3 cdo0x3 cto0x3), slo0x3⟩)
    (co0x3 : PySem.W.codeIn K cdo0x3 "Ratio.__repr__" = true)
    (aIC0 : PySem.W.findIn K (.ref C0) "__init__" = some (some (.ref fIC0)))
    (iIC0 : PySem.W.isFn K (.ref fIC0) = true)
    (lIC0 : K.lookup fIC0 = some ⟨ocIC0, odIC0, .func (PySem.W.fnOf "__init__" "Ratio.__init__" (defArgs sRatioInit) (defBody sRatioInit) (defScope sRatioInit) (.ref fTC0) kVIC0 dcIC0 pmIC0 anIC0 cdIC0 ctIC0), slIC0⟩)
    (cIC0 : PySem.W.codeIn K cdIC0 "Ratio.__init__" = true)
    (lTC0 : K.lookup fTC0 = some ⟨ocTC0, odTC0, .seq #[.int 1 tkC00] nTC0, slTC0⟩)
    (pgC0 : PySem.W.plainGet K C0 Str.empty = true)
    (hdC0 : PySem.W.hasDictIn K C0 = true)
    (poC0 : PySem.W.plainOver K C0 = true)
    (saC0 : PySem.W.findIn K (.ref C0) "__setattr__" = some (some (.builtin "object.__setattr__")))
    (mkC0 : PySem.W.makesIn K C0 = true)
    (kcC0 : PySem.W.keepIn K (.ref C0) = true)
    (caC0 : PySem.W.findIn K (.ref C0) "__class__" = some (some (.builtin "object.__class__")))
    (cmC0 : PySem.W.mroIn K C0 (.type "object") = some true)
    (sfC0 : PySem.W.selfFirst K C0 = true)
    (hciC0 : PySem.W.clsIn K C0 = some cd_C0)
    (htyC0 : PySem.W.typeIn K (.ref C0) = some (.type "type"))
    (hneC0 : PySem.W.findIn K (.ref C0) "__ne__" = some (some (.builtin "object.__ne__")))
    (nC0f0 : PySem.W.findIn K (.ref C0) "numerator_here" = some none)
    (nC0f1 : PySem.W.findIn K (.ref C0) "denominator_here" = some none)
    (siC0NoneType : PySem.W.subIn K (.type "NoneType") (.ref C0) = some false)
    (siC0int : PySem.W.subIn K (.type "int") (.ref C0) = some false)
    (siC0bool : PySem.W.subIn K (.type "bool") (.ref C0) = some false)
    (siC0str : PySem.W.subIn K (.type "str") (.ref C0) = some false)
    (siC0list : PySem.W.subIn K (.type "list") (.ref C0) = some false)
    (siC0tuple : PySem.W.subIn K (.type "tuple") (.ref C0) = some false)
    (siC0dict : PySem.W.subIn K (.type "dict") (.ref C0) = some false)
    (miC0int : PySem.W.mroIn K C0 (.type "int") = some false)
    (cn : PySem.W.specialIn K (.builtin "object.__class__") "__get__" = some (some (.builtin "getset_descriptor.__get__")))
    (ct : PySem.W.takesIn K (.builtin "object.__class__") = some true)
    (xsX0 : PySem.W.subIn K (.ref X0) (.type "BaseException") = some true)
    (xcX0 : PySem.W.clsIn K X0 = some cd_X0)
    (xtX0 : PySem.W.typeIn K (.ref X0) = some (.type "type"))
    (xiX0 : PySem.W.excInitIn K X0 [.type "ValueError", .type "Exception", .type "BaseException", .type "object"] "ValueError.__new__" = true)
    (xoX0 : PySem.W.excOver K X0 [.type "ValueError", .type "Exception", .type "BaseException", .type "object"] = true)
    (xhX0 : PySem.W.hasDictIn K X0 = true)
    (xaX0 : PySem.W.findIn K (.ref X0) "__setattr__" = some (some (.builtin "object.__setattr__")))
    (xnX0 : PySem.W.findIn K (.ref X0) "given" = some none)
    (xitX0 : PySem.W.findIn K (.ref X0) "__init__" = some (some (.ref fX0)))
    (xftX0 : PySem.W.typeIn K (.ref fX0) = some (.type "function"))
    (xkX0 : PySem.W.keepIn K (.ref X0) = true)
    (xgaX0 : PySem.W.findIn K (.ref X0) "__getattribute__" = some (some (.builtin "BaseException.__getattribute__")))
    (xggX0 : PySem.W.findIn K (.ref X0) "__getattr__" = some none)
    (lX0 : K.lookup fX0 = some ⟨ocX0, odX0, .func (PySem.W.fnOf "__init__" "InvalidNumber.__init__" (defArgs sInvalidNumberInit) (defBody sInvalidNumberInit) (defScope sInvalidNumberInit) .none kVX0 dcX0 pmX0 anX0 cdX0 ctX0), slX0⟩)
    (cX0 : PySem.W.codeIn K cdX0 "InvalidNumber.__init__" = true)
    (xm0 : PySem.W.subIn K (.ref X0) (.ref X0) = some true)
    (b_abs : PySem.W.nsIn K mainGlobals "abs" = some none)
    (b_int : PySem.W.nsIn K mainGlobals "int" = some none)
    (b_len : PySem.W.nsIn K mainGlobals "len" = some none)
    (b_max : PySem.W.nsIn K mainGlobals "max" = some none)
    (b_min : PySem.W.nsIn K mainGlobals "min" = some none)
    (b_all : PySem.W.nsIn K mainGlobals "all" = some none)
    (b_any : PySem.W.nsIn K mainGlobals "any" = some none)
    (b_str : PySem.W.nsIn K mainGlobals "str" = some none)
    (b_repr : PySem.W.nsIn K mainGlobals "repr" = some none)
    (b_bool : PySem.W.nsIn K mainGlobals "bool" = some none)
    (b_tuple : PySem.W.nsIn K mainGlobals "tuple" = some none)
    (b_list : PySem.W.nsIn K mainGlobals "list" = some none)
    (b_isinstance : PySem.W.nsIn K mainGlobals "isinstance" = some none)
    (b_range : PySem.W.nsIn K mainGlobals "range" = some none)
    (b_zip : PySem.W.nsIn K mainGlobals "zip" = some none)
    (b_enumerate : PySem.W.nsIn K mainGlobals "enumerate" = some none) :
    ∃ fd : FuncData, (∀ (s : Shared) (v : Value), BindsTo s fd ⟨[v], []⟩ [("_law_script", v)]) ∧ ∀ base : Heap, K.In base → base.Ns mainGlobals mg → FnK l.prog w K mg base 48 fa fd ["_law_script"] (rLaw K) := by
  have eF : fa = fm21 := by
    have e := hfa.symm.trans (PySem.W.mg_of X G am21)
    cases e
    rfl
  rw [eF]
  have rm0' : RowOk K mg ⟨"is_integer", true, cIsInteger, fm0, (PySem.W.fnOf "is_integer" "is_integer" (defArgs sIsInteger) (defBody sIsInteger) (defScope sIsInteger) .none kVm0 dcm0 pmm0 anm0 cdm0 ctm0), [((1, []), [.inl 0])]⟩ := by
    have b : BndP K (PySem.W.fnOf "is_integer" "is_integer" (defArgs sIsInteger) (defBody sIsInteger) (defScope sIsInteger) .none kVm0 dcm0 pmm0 anm0 cdm0 ctm0) ["value"] := fun s us _ hl => match us, hl with | [_], _ => .of_eq rfl
    exact ⟨⟨_, _, _, _, _, _, _, _, _, _, _, _, _, _, _, rfl, lm0, cm0, scIsInteger, okIsInteger⟩, fun _ => b, fun z hz => by cases List.mem_singleton.mp hz; exact bnd1 b, fun _ => ⟨PySem.W.mg_of X G am0, km0⟩⟩
  have rm1' : RowOk K mg ⟨"common", true, cCommon, fm1, (PySem.W.fnOf "common" "common" (defArgs sCommon) (defBody sCommon) (defScope sCommon) .none kVm1 dcm1 pmm1 anm1 cdm1 ctm1), [((2, []), [.inl 0, .inl 1])]⟩ := by
    have b : BndP K (PySem.W.fnOf "common" "common" (defArgs sCommon) (defBody sCommon) (defScope sCommon) .none kVm1 dcm1 pmm1 anm1 cdm1 ctm1) ["one", "two"] := fun s us _ hl => match us, hl with | [_, _], _ => .of_eq rfl
    exact ⟨⟨_, _, _, _, _, _, _, _, _, _, _, _, _, _, _, rfl, lm1, cm1, scCommon, okCommon⟩, fun _ => b, fun z hz => by cases List.mem_singleton.mp hz; exact bnd2 b, fun _ => ⟨PySem.W.mg_of X G am1, km1⟩⟩
  have rm2' : RowOk K mg ⟨"is_number", true, cIsNumber, fm2, (PySem.W.fnOf "is_number" "is_number" (defArgs sIsNumber) (defBody sIsNumber) (defScope sIsNumber) .none kVm2 dcm2 pmm2 anm2 cdm2 ctm2), [((1, []), [.inl 0])]⟩ := by
    have b : BndP K (PySem.W.fnOf "is_number" "is_number" (defArgs sIsNumber) (defBody sIsNumber) (defScope sIsNumber) .none kVm2 dcm2 pmm2 anm2 cdm2 ctm2) ["value"] := fun s us _ hl => match us, hl with | [_], _ => .of_eq rfl
    exact ⟨⟨_, _, _, _, _, _, _, _, _, _, _, _, _, _, _, rfl, lm2, cm2, scIsNumber, okIsNumber⟩, fun _ => b, fun z hz => by cases List.mem_singleton.mp hz; exact bnd1 b, fun _ => ⟨PySem.W.mg_of X G am2, km2⟩⟩
  have rm3' : RowOk K mg ⟨"as_ratio", true, cAsRatio, fm3, (PySem.W.fnOf "as_ratio" "as_ratio" (defArgs sAsRatio) (defBody sAsRatio) (defScope sAsRatio) .none kVm3 dcm3 pmm3 anm3 cdm3 ctm3), [((1, []), [.inl 0])]⟩ := by
    have b : BndP K (PySem.W.fnOf "as_ratio" "as_ratio" (defArgs sAsRatio) (defBody sAsRatio) (defScope sAsRatio) .none kVm3 dcm3 pmm3 anm3 cdm3 ctm3) ["number"] := fun s us _ hl => match us, hl with | [_], _ => .of_eq rfl
    exact ⟨⟨_, _, _, _, _, _, _, _, _, _, _, _, _, _, _, rfl, lm3, cm3, scAsRatio, okAsRatio⟩, fun _ => b, fun z hz => by cases List.mem_singleton.mp hz; exact bnd1 b, fun _ => ⟨PySem.W.mg_of X G am3, km3⟩⟩
  have rm4' : RowOk K mg ⟨"_law_purse", true, cLawPurse, fm4, (PySem.W.fnOf "_law_purse" "_law_purse" (defArgs sLawPurse) (defBody sLawPurse) (defScope sLawPurse) .none kVm4 dcm4 pmm4 anm4 cdm4 ctm4), [((1, []), [.inl 0])]⟩ := by
    have b : BndP K (PySem.W.fnOf "_law_purse" "_law_purse" (defArgs sLawPurse) (defBody sLawPurse) (defScope sLawPurse) .none kVm4 dcm4 pmm4 anm4 cdm4 ctm4) ["_law_script"] := fun s us _ hl => match us, hl with | [_], _ => .of_eq rfl
    exact ⟨⟨_, _, _, _, _, _, _, _, _, _, _, _, _, _, _, rfl, lm4, cm4, scLawPurse, okLawPurse⟩, fun _ => b, fun z hz => by cases List.mem_singleton.mp hz; exact bnd1 b, fun _ => ⟨PySem.W.mg_of X G am4, km4⟩⟩
  have rm5' : RowOk K mg ⟨"_law_draw", true, cLawDraw, fm5, (PySem.W.fnOf "_law_draw" "_law_draw" (defArgs sLawDraw) (defBody sLawDraw) (defScope sLawDraw) .none kVm5 dcm5 pmm5 anm5 cdm5 ctm5), [((2, []), [.inl 0, .inl 1])]⟩ := by
    have b : BndP K (PySem.W.fnOf "_law_draw" "_law_draw" (defArgs sLawDraw) (defBody sLawDraw) (defScope sLawDraw) .none kVm5 dcm5 pmm5 anm5 cdm5 ctm5) ["_law_q", "_law_many"] := fun s us _ hl => match us, hl with | [_, _], _ => .of_eq rfl
    exact ⟨⟨_, _, _, _, _, _, _, _, _, _, _, _, _, _, _, rfl, lm5, cm5, scLawDraw, okLawDraw⟩, fun _ => b, fun z hz => by cases List.mem_singleton.mp hz; exact bnd2 b, fun _ => ⟨PySem.W.mg_of X G am5, km5⟩⟩
  have rm6' : RowOk K mg ⟨"_law_great", true, cLawGreat, fm6, (PySem.W.fnOf "_law_great" "_law_great" (defArgs sLawGreat) (defBody sLawGreat) (defScope sLawGreat) .none kVm6 dcm6 pmm6 anm6 cdm6 ctm6), [((1, []), [.inl 0])]⟩ := by
    have b : BndP K (PySem.W.fnOf "_law_great" "_law_great" (defArgs sLawGreat) (defBody sLawGreat) (defScope sLawGreat) .none kVm6 dcm6 pmm6 anm6 cdm6 ctm6) ["_law_q"] := fun s us _ hl => match us, hl with | [_], _ => .of_eq rfl
    exact ⟨⟨_, _, _, _, _, _, _, _, _, _, _, _, _, _, _, rfl, lm6, cm6, scLawGreat, okLawGreat⟩, fun _ => b, fun z hz => by cases List.mem_singleton.mp hz; exact bnd1 b, fun _ => ⟨PySem.W.mg_of X G am6, km6⟩⟩
  have rm7' : RowOk K mg ⟨"_law_common", true, cLawCommon, fm7, (PySem.W.fnOf "_law_common" "_law_common" (defArgs sLawCommon) (defBody sLawCommon) (defScope sLawCommon) .none kVm7 dcm7 pmm7 anm7 cdm7 ctm7), [((2, []), [.inl 0, .inl 1])]⟩ := by
    have b : BndP K (PySem.W.fnOf "_law_common" "_law_common" (defArgs sLawCommon) (defBody sLawCommon) (defScope sLawCommon) .none kVm7 dcm7 pmm7 anm7 cdm7 ctm7) ["_law_one", "_law_two"] := fun s us _ hl => match us, hl with | [_, _], _ => .of_eq rfl
    exact ⟨⟨_, _, _, _, _, _, _, _, _, _, _, _, _, _, _, rfl, lm7, cm7, scLawCommon, okLawCommon⟩, fun _ => b, fun z hz => by cases List.mem_singleton.mp hz; exact bnd2 b, fun _ => ⟨PySem.W.mg_of X G am7, km7⟩⟩
  have rm8' : RowOk K mg ⟨"_law_lowest", true, cLawLowest, fm8, (PySem.W.fnOf "_law_lowest" "_law_lowest" (defArgs sLawLowest) (defBody sLawLowest) (defScope sLawLowest) .none kVm8 dcm8 pmm8 anm8 cdm8 ctm8), [((2, []), [.inl 0, .inl 1])]⟩ := by
    have b : BndP K (PySem.W.fnOf "_law_lowest" "_law_lowest" (defArgs sLawLowest) (defBody sLawLowest) (defScope sLawLowest) .none kVm8 dcm8 pmm8 anm8 cdm8 ctm8) ["_law_high", "_law_under"] := fun s us _ hl => match us, hl with | [_, _], _ => .of_eq rfl
    exact ⟨⟨_, _, _, _, _, _, _, _, _, _, _, _, _, _, _, rfl, lm8, cm8, scLawLowest, okLawLowest⟩, fun _ => b, fun z hz => by cases List.mem_singleton.mp hz; exact bnd2 b, fun _ => ⟨PySem.W.mg_of X G am8, km8⟩⟩
  have rm9' : RowOk K mg ⟨"_law_from", true, cLawFrom, fm9, (PySem.W.fnOf "_law_from" "_law_from" (defArgs sLawFrom) (defBody sLawFrom) (defScope sLawFrom) .none kVm9 dcm9 pmm9 anm9 cdm9 ctm9), [((2, []), [.inl 0, .inl 1])]⟩ := by
    have b : BndP K (PySem.W.fnOf "_law_from" "_law_from" (defArgs sLawFrom) (defBody sLawFrom) (defScope sLawFrom) .none kVm9 dcm9 pmm9 anm9 cdm9 ctm9) ["_law_script", "_law_k"] := fun s us _ hl => match us, hl with | [_, _], _ => .of_eq rfl
    exact ⟨⟨_, _, _, _, _, _, _, _, _, _, _, _, _, _, _, rfl, lm9, cm9, scLawFrom, okLawFrom⟩, fun _ => b, fun z hz => by cases List.mem_singleton.mp hz; exact bnd2 b, fun _ => ⟨PySem.W.mg_of X G am9, km9⟩⟩
  have rm10' : RowOk K mg ⟨"_law_sign_text", true, cLawSignText, fm10, (PySem.W.fnOf "_law_sign_text" "_law_sign_text" (defArgs sLawSignText) (defBody sLawSignText) (defScope sLawSignText) .none kVm10 dcm10 pmm10 anm10 cdm10 ctm10), [((1, []), [.inl 0])]⟩ := by
    have b : BndP K (PySem.W.fnOf "_law_sign_text" "_law_sign_text" (defArgs sLawSignText) (defBody sLawSignText) (defScope sLawSignText) .none kVm10 dcm10 pmm10 anm10 cdm10 ctm10) ["_law_q"] := fun s us _ hl => match us, hl with | [_], _ => .of_eq rfl
    exact ⟨⟨_, _, _, _, _, _, _, _, _, _, _, _, _, _, _, rfl, lm10, cm10, scLawSignText, okLawSignText⟩, fun _ => b, fun z hz => by cases List.mem_singleton.mp hz; exact bnd1 b, fun _ => ⟨PySem.W.mg_of X G am10, km10⟩⟩
  have rm11' : RowOk K mg ⟨"_law_odd", true, cLawOdd, fm11, (PySem.W.fnOf "_law_odd" "_law_odd" (defArgs sLawOdd) (defBody sLawOdd) (defScope sLawOdd) .none kVm11 dcm11 pmm11 anm11 cdm11 ctm11), [((2, []), [.inl 0, .inl 1])]⟩ := by
    have b : BndP K (PySem.W.fnOf "_law_odd" "_law_odd" (defArgs sLawOdd) (defBody sLawOdd) (defScope sLawOdd) .none kVm11 dcm11 pmm11 anm11 cdm11 ctm11) ["_law_q", "_law_deep"] := fun s us _ hl => match us, hl with | [_, _], _ => .of_eq rfl
    exact ⟨⟨_, _, _, _, _, _, _, _, _, _, _, _, _, _, _, rfl, lm11, cm11, scLawOdd, okLawOdd⟩, fun _ => b, fun z hz => by cases List.mem_singleton.mp hz; exact bnd2 b, fun _ => ⟨PySem.W.mg_of X G am11, km11⟩⟩
  have rm12' : RowOk K mg ⟨"_law_is_whole", true, cLawIsWhole, fm12, (PySem.W.fnOf "_law_is_whole" "_law_is_whole" (defArgs sLawIsWhole) (defBody sLawIsWhole) (defScope sLawIsWhole) .none kVm12 dcm12 pmm12 anm12 cdm12 ctm12), [((1, []), [.inl 0])]⟩ := by
    have b : BndP K (PySem.W.fnOf "_law_is_whole" "_law_is_whole" (defArgs sLawIsWhole) (defBody sLawIsWhole) (defScope sLawIsWhole) .none kVm12 dcm12 pmm12 anm12 cdm12 ctm12) ["_law_thing_here"] := fun s us _ hl => match us, hl with | [_], _ => .of_eq rfl
    exact ⟨⟨_, _, _, _, _, _, _, _, _, _, _, _, _, _, _, rfl, lm12, cm12, scLawIsWhole, okLawIsWhole⟩, fun _ => b, fun z hz => by cases List.mem_singleton.mp hz; exact bnd1 b, fun _ => ⟨PySem.W.mg_of X G am12, km12⟩⟩
  have rm13' : RowOk K mg ⟨"_law_is_digit", true, cLawIsDigit, fm13, (PySem.W.fnOf "_law_is_digit" "_law_is_digit" (defArgs sLawIsDigit) (defBody sLawIsDigit) (defScope sLawIsDigit) .none kVm13 dcm13 pmm13 anm13 cdm13 ctm13), [((1, []), [.inl 0])]⟩ := by
    have b : BndP K (PySem.W.fnOf "_law_is_digit" "_law_is_digit" (defArgs sLawIsDigit) (defBody sLawIsDigit) (defScope sLawIsDigit) .none kVm13 dcm13 pmm13 anm13 cdm13 ctm13) ["_law_thing_here"] := fun s us _ hl => match us, hl with | [_], _ => .of_eq rfl
    exact ⟨⟨_, _, _, _, _, _, _, _, _, _, _, _, _, _, _, rfl, lm13, cm13, scLawIsDigit, okLawIsDigit⟩, fun _ => b, fun z hz => by cases List.mem_singleton.mp hz; exact bnd1 b, fun _ => ⟨PySem.W.mg_of X G am13, km13⟩⟩
  have rm14' : RowOk K mg ⟨"_law_made", true, cLawMade, fm14, (PySem.W.fnOf "_law_made" "_law_made" (defArgs sLawMade) (defBody sLawMade) (defScope sLawMade) .none kVm14 dcm14 pmm14 anm14 cdm14 ctm14), [((2, []), [.inl 0, .inl 1])]⟩ := by
    have b : BndP K (PySem.W.fnOf "_law_made" "_law_made" (defArgs sLawMade) (defBody sLawMade) (defScope sLawMade) .none kVm14 dcm14 pmm14 anm14 cdm14 ctm14) ["_law_one", "_law_two"] := fun s us _ hl => match us, hl with | [_, _], _ => .of_eq rfl
    exact ⟨⟨_, _, _, _, _, _, _, _, _, _, _, _, _, _, _, rfl, lm14, cm14, scLawMade, okLawMade⟩, fun _ => b, fun z hz => by cases List.mem_singleton.mp hz; exact bnd2 b, fun _ => ⟨PySem.W.mg_of X G am14, km14⟩⟩
  have rm15' : RowOk K mg ⟨"_law_parted", true, cLawParted, fm15, (PySem.W.fnOf "_law_parted" "_law_parted" (defArgs sLawParted) (defBody sLawParted) (defScope sLawParted) .none kVm15 dcm15 pmm15 anm15 cdm15 ctm15), [((2, []), [.inl 0, .inl 1])]⟩ := by
    have b : BndP K (PySem.W.fnOf "_law_parted" "_law_parted" (defArgs sLawParted) (defBody sLawParted) (defScope sLawParted) .none kVm15 dcm15 pmm15 anm15 cdm15 ctm15) ["_law_one", "_law_two"] := fun s us _ hl => match us, hl with | [_, _], _ => .of_eq rfl
    exact ⟨⟨_, _, _, _, _, _, _, _, _, _, _, _, _, _, _, rfl, lm15, cm15, scLawParted, okLawParted⟩, fun _ => b, fun z hz => by cases List.mem_singleton.mp hz; exact bnd2 b, fun _ => ⟨PySem.W.mg_of X G am15, km15⟩⟩
  have rm16' : RowOk K mg ⟨"_law_shown", true, cLawShown, fm16, (PySem.W.fnOf "_law_shown" "_law_shown" (defArgs sLawShown) (defBody sLawShown) (defScope sLawShown) .none kVm16 dcm16 pmm16 anm16 cdm16 ctm16), [((1, []), [.inl 0])]⟩ := by
    have b : BndP K (PySem.W.fnOf "_law_shown" "_law_shown" (defArgs sLawShown) (defBody sLawShown) (defScope sLawShown) .none kVm16 dcm16 pmm16 anm16 cdm16 ctm16) ["_law_pair"] := fun s us _ hl => match us, hl with | [_], _ => .of_eq rfl
    exact ⟨⟨_, _, _, _, _, _, _, _, _, _, _, _, _, _, _, rfl, lm16, cm16, scLawShown, okLawShown⟩, fun _ => b, fun z hz => by cases List.mem_singleton.mp hz; exact bnd1 b, fun _ => ⟨PySem.W.mg_of X G am16, km16⟩⟩
  have rm17' : RowOk K mg ⟨"_law_due", true, cLawDue, fm17, (PySem.W.fnOf "_law_due" "_law_due" (defArgs sLawDue) (defBody sLawDue) (defScope sLawDue) .none kVm17 dcm17 pmm17 anm17 cdm17 ctm17), [((2, []), [.inl 0, .inl 1])]⟩ := by
    have b : BndP K (PySem.W.fnOf "_law_due" "_law_due" (defArgs sLawDue) (defBody sLawDue) (defScope sLawDue) .none kVm17 dcm17 pmm17 anm17 cdm17 ctm17) ["_law_one", "_law_two"] := fun s us _ hl => match us, hl with | [_, _], _ => .of_eq rfl
    exact ⟨⟨_, _, _, _, _, _, _, _, _, _, _, _, _, _, _, rfl, lm17, cm17, scLawDue, okLawDue⟩, fun _ => b, fun z hz => by cases List.mem_singleton.mp hz; exact bnd2 b, fun _ => ⟨PySem.W.mg_of X G am17, km17⟩⟩
  have rm18' : RowOk K mg ⟨"_law_half", true, cLawHalf, fm18, (PySem.W.fnOf "_law_half" "_law_half" (defArgs sLawHalf) (defBody sLawHalf) (defScope sLawHalf) .none kVm18 dcm18 pmm18 anm18 cdm18 ctm18), [((1, []), [.inl 0])]⟩ := by
    have b : BndP K (PySem.W.fnOf "_law_half" "_law_half" (defArgs sLawHalf) (defBody sLawHalf) (defScope sLawHalf) .none kVm18 dcm18 pmm18 anm18 cdm18 ctm18) ["_law_thing_here"] := fun s us _ hl => match us, hl with | [_], _ => .of_eq rfl
    exact ⟨⟨_, _, _, _, _, _, _, _, _, _, _, _, _, _, _, rfl, lm18, cm18, scLawHalf, okLawHalf⟩, fun _ => b, fun z hz => by cases List.mem_singleton.mp hz; exact bnd1 b, fun _ => ⟨PySem.W.mg_of X G am18, km18⟩⟩
  have rm19' : RowOk K mg ⟨"_law_thing", true, cLawThing, fm19, (PySem.W.fnOf "_law_thing" "_law_thing" (defArgs sLawThing) (defBody sLawThing) (defScope sLawThing) .none kVm19 dcm19 pmm19 anm19 cdm19 ctm19), [((1, []), [.inl 0])]⟩ := by
    have b : BndP K (PySem.W.fnOf "_law_thing" "_law_thing" (defArgs sLawThing) (defBody sLawThing) (defScope sLawThing) .none kVm19 dcm19 pmm19 anm19 cdm19 ctm19) ["_law_q"] := fun s us _ hl => match us, hl with | [_], _ => .of_eq rfl
    exact ⟨⟨_, _, _, _, _, _, _, _, _, _, _, _, _, _, _, rfl, lm19, cm19, scLawThing, okLawThing⟩, fun _ => b, fun z hz => by cases List.mem_singleton.mp hz; exact bnd1 b, fun _ => ⟨PySem.W.mg_of X G am19, km19⟩⟩
  have rm20' : RowOk K mg ⟨"_law_right", true, cLawRight, fm20, (PySem.W.fnOf "_law_right" "_law_right" (defArgs sLawRight) (defBody sLawRight) (defScope sLawRight) .none kVm20 dcm20 pmm20 anm20 cdm20 ctm20), [((1, []), [.inl 0])]⟩ := by
    have b : BndP K (PySem.W.fnOf "_law_right" "_law_right" (defArgs sLawRight) (defBody sLawRight) (defScope sLawRight) .none kVm20 dcm20 pmm20 anm20 cdm20 ctm20) ["_law_q"] := fun s us _ hl => match us, hl with | [_], _ => .of_eq rfl
    exact ⟨⟨_, _, _, _, _, _, _, _, _, _, _, _, _, _, _, rfl, lm20, cm20, scLawRight, okLawRight⟩, fun _ => b, fun z hz => by cases List.mem_singleton.mp hz; exact bnd1 b, fun _ => ⟨PySem.W.mg_of X G am20, km20⟩⟩
  have rm21' : RowOk K mg ⟨"law", true, cLaw, fm21, (PySem.W.fnOf "law" "law" (defArgs sLaw) (defBody sLaw) (defScope sLaw) .none kVm21 dcm21 pmm21 anm21 cdm21 ctm21), [((1, []), [.inl 0])]⟩ := by
    have b : BndP K (PySem.W.fnOf "law" "law" (defArgs sLaw) (defBody sLaw) (defScope sLaw) .none kVm21 dcm21 pmm21 anm21 cdm21 ctm21) ["_law_script"] := fun s us _ hl => match us, hl with | [_], _ => .of_eq rfl
    exact ⟨⟨_, _, _, _, _, _, _, _, _, _, _, _, _, _, _, rfl, lm21, cm21, scLaw, okLaw⟩, fun _ => b, fun z hz => by cases List.mem_singleton.mp hz; exact bnd1 b, fun _ => ⟨PySem.W.mg_of X G am21, km21⟩⟩
  have rp0x0' : RowOk K mg ⟨"Ratio.top", false, cRatioTop, fp0x0, (PySem.W.fnOf "top" "Ratio.top" (defArgs sRatioTop) (defBody sRatioTop) (defScope sRatioTop) .none kVp0x0 dcp0x0 pmp0x0 anp0x0 cdp0x0 ctp0x0), [((1, []), [.inl 0])]⟩ := by
    have b : BndP K (PySem.W.fnOf "top" "Ratio.top" (defArgs sRatioTop) (defBody sRatioTop) (defScope sRatioTop) .none kVp0x0 dcp0x0 pmp0x0 anp0x0 cdp0x0 ctp0x0) ["self"] := fun s us _ hl => match us, hl with | [_], _ => .of_eq rfl
    exact ⟨⟨_, _, _, _, _, _, _, _, _, _, _, _, _, _, _, rfl, lp0x0, cp0x0, scRatioTop, okRatioTop⟩, fun _ => b, fun z hz => by cases List.mem_singleton.mp hz; exact bnd1 b, fun z => by cases z⟩
  have rp0x1' : RowOk K mg ⟨"Ratio.bottom", false, cRatioBottom, fp0x1, (PySem.W.fnOf "bottom" "Ratio.bottom" (defArgs sRatioBottom) (defBody sRatioBottom) (defScope sRatioBottom) .none kVp0x1 dcp0x1 pmp0x1 anp0x1 cdp0x1 ctp0x1), [((1, []), [.inl 0])]⟩ := by
    have b : BndP K (PySem.W.fnOf "bottom" "Ratio.bottom" (defArgs sRatioBottom) (defBody sRatioBottom) (defScope sRatioBottom) .none kVp0x1 dcp0x1 pmp0x1 anp0x1 cdp0x1 ctp0x1) ["self"] := fun s us _ hl => match us, hl with | [_], _ => .of_eq rfl
    exact ⟨⟨_, _, _, _, _, _, _, _, _, _, _, _, _, _, _, rfl, lp0x1, cp0x1, scRatioBottom, okRatioBottom⟩, fun _ => b, fun z hz => by cases List.mem_singleton.mp hz; exact bnd1 b, fun z => by cases z⟩
  have rm0x0' : RowOk K mg ⟨"Ratio.over", false, cRatioOver, fm0x0, (PySem.W.fnOf "over" "Ratio.over" (defArgs sRatioOver) (defBody sRatioOver) (defScope sRatioOver) .none kVm0x0 dcm0x0 pmm0x0 anm0x0 cdm0x0 ctm0x0), [((2, []), [.inl 0, .inl 1])]⟩ := by
    have b : BndP K (PySem.W.fnOf "over" "Ratio.over" (defArgs sRatioOver) (defBody sRatioOver) (defScope sRatioOver) .none kVm0x0 dcm0x0 pmm0x0 anm0x0 cdm0x0 ctm0x0) ["self", "other"] := fun s us _ hl => match us, hl with | [_, _], _ => .of_eq rfl
    exact ⟨⟨_, _, _, _, _, _, _, _, _, _, _, _, _, _, _, rfl, lm0x0, cm0x0, scRatioOver, okRatioOver⟩, fun _ => b, fun z hz => by cases List.mem_singleton.mp hz; exact bnd2 b, fun z => by cases z⟩
  have ro0x0' : RowOk K mg ⟨"Ratio.__eq__", false, cRatioEq, fo0x0, (PySem.W.fnOf "__eq__" "Ratio.__eq__" (defArgs sRatioEq) (defBody sRatioEq) (defScope sRatioEq) .none kVo0x0 dco0x0 pmo0x0 ano0x0 cdo0x0 cto0x0), [((2, []), [.inl 0, .inl 1])]⟩ := by
    have b : BndP K (PySem.W.fnOf "__eq__" "Ratio.__eq__" (defArgs sRatioEq) (defBody sRatioEq) (defScope sRatioEq) .none kVo0x0 dco0x0 pmo0x0 ano0x0 cdo0x0 cto0x0) ["self", "other"] := fun s us _ hl => match us, hl with | [_, _], _ => .of_eq rfl
    exact ⟨⟨_, _, _, _, _, _, _, _, _, _, _, _, _, _, _, rfl, lo0x0, co0x0, scRatioEq, okRatioEq⟩, fun _ => b, fun z hz => by cases List.mem_singleton.mp hz; exact bnd2 b, fun z => by cases z⟩
  have ro0x1' : RowOk K mg ⟨"Ratio.__bool__", false, cRatioBool, fo0x1, (PySem.W.fnOf "__bool__" "Ratio.__bool__" (defArgs sRatioBool) (defBody sRatioBool) (defScope sRatioBool) .none kVo0x1 dco0x1 pmo0x1 ano0x1 cdo0x1 cto0x1), [((1, []), [.inl 0])]⟩ := by
    have b : BndP K (PySem.W.fnOf "__bool__" "Ratio.__bool__" (defArgs sRatioBool) (defBody sRatioBool) (defScope sRatioBool) .none kVo0x1 dco0x1 pmo0x1 ano0x1 cdo0x1 cto0x1) ["self"] := fun s us _ hl => match us, hl with | [_], _ => .of_eq rfl
    exact ⟨⟨_, _, _, _, _, _, _, _, _, _, _, _, _, _, _, rfl, lo0x1, co0x1, scRatioBool, okRatioBool⟩, fun _ => b, fun z hz => by cases List.mem_singleton.mp hz; exact bnd1 b, fun z => by cases z⟩
  have ro0x2' : RowOk K mg ⟨"Ratio.__str__", false, cRatioStr, fo0x2, (PySem.W.fnOf "__str__" "Ratio.__str__" (defArgs sRatioStr) (defBody sRatioStr) (defScope sRatioStr) .none kVo0x2 dco0x2 pmo0x2 ano0x2 cdo0x2 cto0x2), [((1, []), [.inl 0])]⟩ := by
    have b : BndP K (PySem.W.fnOf "__str__" "Ratio.__str__" (defArgs sRatioStr) (defBody sRatioStr) (defScope sRatioStr) .none kVo0x2 dco0x2 pmo0x2 ano0x2 cdo0x2 cto0x2) ["self"] := fun s us _ hl => match us, hl with | [_], _ => .of_eq rfl
    exact ⟨⟨_, _, _, _, _, _, _, _, _, _, _, _, _, _, _, rfl, lo0x2, co0x2, scRatioStr, okRatioStr⟩, fun _ => b, fun z hz => by cases List.mem_singleton.mp hz; exact bnd1 b, fun z => by cases z⟩
  have ro0x3' : RowOk K mg ⟨"Ratio.__repr__", false, cRatioRepr, fo0x3, (PySem.W.fnOf "__repr__" "Ratio.__repr__" (defArgs sRatioRepr) (defBody sRatioRepr) (defScope sRatioRepr) .none kVo0x3 dco0x3 pmo0x3 ano0x3 cdo0x3 cto0x3), [((1, []), [.inl 0])]⟩ := by
    have b : BndP K (PySem.W.fnOf "__repr__" "Ratio.__repr__" (defArgs sRatioRepr) (defBody sRatioRepr) (defScope sRatioRepr) .none kVo0x3 dco0x3 pmo0x3 ano0x3 cdo0x3 cto0x3) ["self"] := fun s us _ hl => match us, hl with | [_], _ => .of_eq rfl
    exact ⟨⟨_, _, _, _, _, _, _, _, _, _, _, _, _, _, _, rfl, lo0x3, co0x3, scRatioRepr, okRatioRepr⟩, fun _ => b, fun z hz => by cases List.mem_singleton.mp hz; exact bnd1 b, fun z => by cases z⟩
  have rIC0'  := init_rowC0 (mg := mg) lIC0 cIC0 lTC0
  obtain ⟨wm0r, okm0, qm0, mm0, em0f, em0a, em0d, em0p⟩ := row_ex rm0'
  clear rm0'
  obtain ⟨wm1r, okm1, qm1, mm1, em1f, em1a, em1d, em1p⟩ := row_ex rm1'
  clear rm1'
  obtain ⟨wm2r, okm2, qm2, mm2, em2f, em2a, em2d, em2p⟩ := row_ex rm2'
  clear rm2'
  obtain ⟨wm3r, okm3, qm3, mm3, em3f, em3a, em3d, em3p⟩ := row_ex rm3'
  clear rm3'
  obtain ⟨wm4r, okm4, qm4, mm4, em4f, em4a, em4d, em4p⟩ := row_ex rm4'
  clear rm4'
  obtain ⟨wm5r, okm5, qm5, mm5, em5f, em5a, em5d, em5p⟩ := row_ex rm5'
  clear rm5'
  obtain ⟨wm6r, okm6, qm6, mm6, em6f, em6a, em6d, em6p⟩ := row_ex rm6'
  clear rm6'
  obtain ⟨wm7r, okm7, qm7, mm7, em7f, em7a, em7d, em7p⟩ := row_ex rm7'
  clear rm7'
  obtain ⟨wm8r, okm8, qm8, mm8, em8f, em8a, em8d, em8p⟩ := row_ex rm8'
  clear rm8'
  obtain ⟨wm9r, okm9, qm9, mm9, em9f, em9a, em9d, em9p⟩ := row_ex rm9'
  clear rm9'
  obtain ⟨wm10r, okm10, qm10, mm10, em10f, em10a, em10d, em10p⟩ := row_ex rm10'
  clear rm10'
  obtain ⟨wm11r, okm11, qm11, mm11, em11f, em11a, em11d, em11p⟩ := row_ex rm11'
  clear rm11'
  obtain ⟨wm12r, okm12, qm12, mm12, em12f, em12a, em12d, em12p⟩ := row_ex rm12'
  clear rm12'
  obtain ⟨wm13r, okm13, qm13, mm13, em13f, em13a, em13d, em13p⟩ := row_ex rm13'
  clear rm13'
  obtain ⟨wm14r, okm14, qm14, mm14, em14f, em14a, em14d, em14p⟩ := row_ex rm14'
  clear rm14'
  obtain ⟨wm15r, okm15, qm15, mm15, em15f, em15a, em15d, em15p⟩ := row_ex rm15'
  clear rm15'
  obtain ⟨wm16r, okm16, qm16, mm16, em16f, em16a, em16d, em16p⟩ := row_ex rm16'
  clear rm16'
  obtain ⟨wm17r, okm17, qm17, mm17, em17f, em17a, em17d, em17p⟩ := row_ex rm17'
  clear rm17'
  obtain ⟨wm18r, okm18, qm18, mm18, em18f, em18a, em18d, em18p⟩ := row_ex rm18'
  clear rm18'
  obtain ⟨wm19r, okm19, qm19, mm19, em19f, em19a, em19d, em19p⟩ := row_ex rm19'
  clear rm19'
  obtain ⟨wm20r, okm20, qm20, mm20, em20f, em20a, em20d, em20p⟩ := row_ex rm20'
  clear rm20'
  obtain ⟨wm21r, okm21, qm21, mm21, em21f, em21a, em21d, em21p⟩ := row_ex rm21'
  clear rm21'
  obtain ⟨wp0x0r, okp0x0, qp0x0, mp0x0, ep0x0f, ep0x0a, ep0x0d, ep0x0p⟩ := row_ex rp0x0'
  clear rp0x0'
  obtain ⟨wp0x1r, okp0x1, qp0x1, mp0x1, ep0x1f, ep0x1a, ep0x1d, ep0x1p⟩ := row_ex rp0x1'
  clear rp0x1'
  obtain ⟨wm0x0r, okm0x0, qm0x0, mm0x0, em0x0f, em0x0a, em0x0d, em0x0p⟩ := row_ex rm0x0'
  clear rm0x0'
  obtain ⟨wo0x0r, oko0x0, qo0x0, mo0x0, eo0x0f, eo0x0a, eo0x0d, eo0x0p⟩ := row_ex ro0x0'
  clear ro0x0'
  obtain ⟨wo0x1r, oko0x1, qo0x1, mo0x1, eo0x1f, eo0x1a, eo0x1d, eo0x1p⟩ := row_ex ro0x1'
  clear ro0x1'
  obtain ⟨wo0x2r, oko0x2, qo0x2, mo0x2, eo0x2f, eo0x2a, eo0x2d, eo0x2p⟩ := row_ex ro0x2'
  clear ro0x2'
  obtain ⟨wo0x3r, oko0x3, qo0x3, mo0x3, eo0x3f, eo0x3a, eo0x3d, eo0x3p⟩ := row_ex ro0x3'
  clear ro0x3'
  obtain ⟨wIC0r, okIC0, qIC0, mIC0, eIC0f, eIC0a, eIC0d, eIC0p⟩ := row_ex rIC0'
  clear rIC0'
  obtain ⟨L, hL⟩ : ∃ L : List Row, L = [wm0r, wm1r, wm2r, wm3r, wm4r, wm5r, wm6r, wm7r, wm8r, wm9r, wm10r, wm11r, wm12r, wm13r, wm14r, wm15r, wm16r, wm17r, wm18r, wm19r, wm20r, wm21r, wp0x0r, wp0x1r, wm0x0r, wo0x0r, wo0x1r, wo0x2r, wo0x3r, wIC0r] := ⟨_, rfl⟩
  have hr0 : ∀ r ∈ ([] : List Row), RowOk K mg r := rows_nil
  have hr1 := rows_cons okIC0 hr0
  have hr2 := rows_cons oko0x3 hr1
  have hr3 := rows_cons oko0x2 hr2
  have hr4 := rows_cons oko0x1 hr3
  have hr5 := rows_cons oko0x0 hr4
  have hr6 := rows_cons okm0x0 hr5
  have hr7 := rows_cons okp0x1 hr6
  have hr8 := rows_cons okp0x0 hr7
  have hr9 := rows_cons okm21 hr8
  have hr10 := rows_cons okm20 hr9
  have hr11 := rows_cons okm19 hr10
  have hr12 := rows_cons okm18 hr11
  have hr13 := rows_cons okm17 hr12
  have hr14 := rows_cons okm16 hr13
  have hr15 := rows_cons okm15 hr14
  have hr16 := rows_cons okm14 hr15
  have hr17 := rows_cons okm13 hr16
  have hr18 := rows_cons okm12 hr17
  have hr19 := rows_cons okm11 hr18
  have hr20 := rows_cons okm10 hr19
  have hr21 := rows_cons okm9 hr20
  have hr22 := rows_cons okm8 hr21
  have hr23 := rows_cons okm7 hr22
  have hr24 := rows_cons okm6 hr23
  have hr25 := rows_cons okm5 hr24
  have hr26 := rows_cons okm4 hr25
  have hr27 := rows_cons okm3 hr26
  have hr28 := rows_cons okm2 hr27
  have hr29 := rows_cons okm1 hr28
  have hr30 := rows_cons okm0 hr29
  have hr : ∀ r ∈ L, RowOk K mg r := by
    rw [hL]
    exact hr30
  have hnm : L.map (·.q) = (["is_integer", "common", "is_number", "as_ratio", "_law_purse", "_law_draw", "_law_great", "_law_common", "_law_lowest", "_law_from", "_law_sign_text", "_law_odd", "_law_is_whole", "_law_is_digit", "_law_made", "_law_parted", "_law_shown", "_law_due", "_law_half", "_law_thing", "_law_right", "law", "Ratio.top", "Ratio.bottom", "Ratio.over", "Ratio.__eq__", "Ratio.__bool__", "Ratio.__str__", "Ratio.__repr__", "Ratio.__init__"] : List Str) := by
    rw [hL]
    simp only [List.map_cons, List.map_nil, qm0, qm1, qm2, qm3, qm4, qm5, qm6, qm7, qm8, qm9, qm10, qm11, qm12, qm13, qm14, qm15, qm16, qm17, qm18, qm19, qm20, qm21, qp0x0, qp0x1, qm0x0, qo0x0, qo0x1, qo0x2, qo0x3, qIC0]
  have hnd : (L.map (·.q)).Nodup := by
    rw [hnm]
    decide +kernel
  have wm0 : rowOf L "is_integer" = some wm0r := row_at' (i := 0) hnd (by rw [hL]; rfl) qm0
  have dm0' := ad_at wm0 em0a
  have wm1 : rowOf L "common" = some wm1r := row_at' (i := 1) hnd (by rw [hL]; rfl) qm1
  have dm1' := ad_at wm1 em1a
  have wm2 : rowOf L "is_number" = some wm2r := row_at' (i := 2) hnd (by rw [hL]; rfl) qm2
  have dm2' := ad_at wm2 em2a
  have wm3 : rowOf L "as_ratio" = some wm3r := row_at' (i := 3) hnd (by rw [hL]; rfl) qm3
  have dm3' := ad_at wm3 em3a
  have wm4 : rowOf L "_law_purse" = some wm4r := row_at' (i := 4) hnd (by rw [hL]; rfl) qm4
  have dm4' := ad_at wm4 em4a
  have wm5 : rowOf L "_law_draw" = some wm5r := row_at' (i := 5) hnd (by rw [hL]; rfl) qm5
  have dm5' := ad_at wm5 em5a
  have wm6 : rowOf L "_law_great" = some wm6r := row_at' (i := 6) hnd (by rw [hL]; rfl) qm6
  have dm6' := ad_at wm6 em6a
  have wm7 : rowOf L "_law_common" = some wm7r := row_at' (i := 7) hnd (by rw [hL]; rfl) qm7
  have dm7' := ad_at wm7 em7a
  have wm8 : rowOf L "_law_lowest" = some wm8r := row_at' (i := 8) hnd (by rw [hL]; rfl) qm8
  have dm8' := ad_at wm8 em8a
  have wm9 : rowOf L "_law_from" = some wm9r := row_at' (i := 9) hnd (by rw [hL]; rfl) qm9
  have dm9' := ad_at wm9 em9a
  have wm10 : rowOf L "_law_sign_text" = some wm10r := row_at' (i := 10) hnd (by rw [hL]; rfl) qm10
  have dm10' := ad_at wm10 em10a
  have wm11 : rowOf L "_law_odd" = some wm11r := row_at' (i := 11) hnd (by rw [hL]; rfl) qm11
  have dm11' := ad_at wm11 em11a
  have wm12 : rowOf L "_law_is_whole" = some wm12r := row_at' (i := 12) hnd (by rw [hL]; rfl) qm12
  have dm12' := ad_at wm12 em12a
  have wm13 : rowOf L "_law_is_digit" = some wm13r := row_at' (i := 13) hnd (by rw [hL]; rfl) qm13
  have dm13' := ad_at wm13 em13a
  have wm14 : rowOf L "_law_made" = some wm14r := row_at' (i := 14) hnd (by rw [hL]; rfl) qm14
  have dm14' := ad_at wm14 em14a
  have wm15 : rowOf L "_law_parted" = some wm15r := row_at' (i := 15) hnd (by rw [hL]; rfl) qm15
  have dm15' := ad_at wm15 em15a
  have wm16 : rowOf L "_law_shown" = some wm16r := row_at' (i := 16) hnd (by rw [hL]; rfl) qm16
  have dm16' := ad_at wm16 em16a
  have wm17 : rowOf L "_law_due" = some wm17r := row_at' (i := 17) hnd (by rw [hL]; rfl) qm17
  have dm17' := ad_at wm17 em17a
  have wm18 : rowOf L "_law_half" = some wm18r := row_at' (i := 18) hnd (by rw [hL]; rfl) qm18
  have dm18' := ad_at wm18 em18a
  have wm19 : rowOf L "_law_thing" = some wm19r := row_at' (i := 19) hnd (by rw [hL]; rfl) qm19
  have dm19' := ad_at wm19 em19a
  have wm20 : rowOf L "_law_right" = some wm20r := row_at' (i := 20) hnd (by rw [hL]; rfl) qm20
  have dm20' := ad_at wm20 em20a
  have wm21 : rowOf L "law" = some wm21r := row_at' (i := 21) hnd (by rw [hL]; rfl) qm21
  have dm21' := ad_at wm21 em21a
  have wp0x0 : rowOf L "Ratio.top" = some wp0x0r := row_at' (i := 22) hnd (by rw [hL]; rfl) qp0x0
  have dp0x0' := ad_at wp0x0 ep0x0a
  have wp0x1 : rowOf L "Ratio.bottom" = some wp0x1r := row_at' (i := 23) hnd (by rw [hL]; rfl) qp0x1
  have dp0x1' := ad_at wp0x1 ep0x1a
  have wm0x0 : rowOf L "Ratio.over" = some wm0x0r := row_at' (i := 24) hnd (by rw [hL]; rfl) qm0x0
  have dm0x0' := ad_at wm0x0 em0x0a
  have wo0x0 : rowOf L "Ratio.__eq__" = some wo0x0r := row_at' (i := 25) hnd (by rw [hL]; rfl) qo0x0
  have do0x0' := ad_at wo0x0 eo0x0a
  have wo0x1 : rowOf L "Ratio.__bool__" = some wo0x1r := row_at' (i := 26) hnd (by rw [hL]; rfl) qo0x1
  have do0x1' := ad_at wo0x1 eo0x1a
  have wo0x2 : rowOf L "Ratio.__str__" = some wo0x2r := row_at' (i := 27) hnd (by rw [hL]; rfl) qo0x2
  have do0x2' := ad_at wo0x2 eo0x2a
  have wo0x3 : rowOf L "Ratio.__repr__" = some wo0x3r := row_at' (i := 28) hnd (by rw [hL]; rfl) qo0x3
  have do0x3' := ad_at wo0x3 eo0x3a
  have wIC0 : rowOf L "Ratio.__init__" = some wIC0r := row_at' (i := 29) hnd (by rw [hL]; rfl) qIC0
  have dIC0' := ad_at wIC0 eIC0a
  have nrC0 : rowOf L "Ratio" = none := row_none (by
    rw [hnm]
    decide +kernel)
  have clC0 : Cls K C0 := ⟨pgC0, hdC0, poC0, saC0⟩
  have coC0 : ClsO K C0 := ⟨clC0, caC0, cn, ct, cmC0, sfC0⟩
  obtain ⟨cC0, hcEC0⟩ : ∃ c : CRow, c = ⟨"Ratio", C0, "Ratio.__init__", [("top", "Ratio.top"), ("bottom", "Ratio.bottom")], ["numerator_here", "denominator_here"], [("over", "Ratio.over")], [("__eq__", "Ratio.__eq__"), ("__bool__", "Ratio.__bool__"), ("__str__", "Ratio.__str__"), ("__repr__", "Ratio.__repr__")], [], fun t => match t with | .int => some false | _ => none, [(C0, true)], fun _ => false⟩ := ⟨_, rfl⟩
  have zp0x0 : ∃ p, PropOf K C0 "top" p (adL L "Ratio.top") := by
    refine ⟨pp0x0, ?_⟩
    rw [dp0x0']
    exact ⟨ap0x0, gp0x0, tp0x0, _, rp0x0h⟩
  have zp0x1 : ∃ p, PropOf K C0 "bottom" p (adL L "Ratio.bottom") := by
    refine ⟨pp0x1, ?_⟩
    rw [dp0x1']
    exact ⟨ap0x1, gp0x1, tp0x1, _, rp0x1h⟩
  have zm0x0 : Meth K C0 "over" (adL L "Ratio.over") := by
    rw [dm0x0']
    exact ⟨am0x0, im0x0, km0x0⟩
  have zo0x0 : PySem.W.findIn K (.ref C0) "__eq__" = some (some (.ref (adL L "Ratio.__eq__"))) ∧ PySem.W.isFn K (.ref (adL L "Ratio.__eq__")) = true := by
    rw [do0x0']
    exact ⟨ao0x0, io0x0⟩
  have zo0x1 : PySem.W.findIn K (.ref C0) "__bool__" = some (some (.ref (adL L "Ratio.__bool__"))) ∧ PySem.W.isFn K (.ref (adL L "Ratio.__bool__")) = true := by
    rw [do0x1']
    exact ⟨ao0x1, io0x1⟩
  have zo0x2 : PySem.W.findIn K (.ref C0) "__str__" = some (some (.ref (adL L "Ratio.__str__"))) ∧ PySem.W.isFn K (.ref (adL L "Ratio.__str__")) = true := by
    rw [do0x2']
    exact ⟨ao0x2, io0x2⟩
  have zo0x3 : PySem.W.findIn K (.ref C0) "__repr__" = some (some (.ref (adL L "Ratio.__repr__"))) ∧ PySem.W.isFn K (.ref (adL L "Ratio.__repr__")) = true := by
    rw [do0x3']
    exact ⟨ao0x3, io0x3⟩
  have hcC0 : CRowOk K mg L cC0 := by
    rw [hcEC0]
    refine { gc := ⟨PySem.W.mg_of X G aC0, ?_⟩, co := coC0, prop := ?_, fld := ?_, meth := ?_, own := ?_, one := fun _ _ => hneC0, ri := all_nil, isT := ?_, isC := ?_, kC := ?_, nf := ?_ }
    · show Mk K C0 (adL L "Ratio.__init__")
      rw [dIC0']
      exact ⟨mkC0, aIC0, iIC0, kcC0⟩
    · exact (all_cons zp0x0 (all_cons zp0x1 all_nil))
    · exact (all_cons nC0f0 (all_cons nC0f1 all_nil))
    · exact (all_cons zm0x0 all_nil)
    · exact (all_cons zo0x0 (all_cons zo0x1 (all_cons zo0x2 (all_cons zo0x3 all_nil))))
    · intro t b ht
      cases t
      · cases ht; exact kit_rt rfl miC0int
      · cases ht
      · cases ht
      · cases ht
      · cases ht
    · exact all_cons kit_self all_nil
    · exact (all_cons (kit_tr hciC0 htyC0 siC0NoneType) (all_cons (kit_tr hciC0 htyC0 siC0int) (all_cons (kit_tr hciC0 htyC0 siC0bool) (all_cons (kit_tr hciC0 htyC0 siC0str) (all_cons (kit_tr hciC0 htyC0 siC0list) (all_cons (kit_tr hciC0 htyC0 siC0tuple) (all_cons (kit_tr hciC0 htyC0 siC0dict) all_nil)))))))
    · exact fun d h => by cases h
  have hw : WorldOk K mg [] := ⟨all_nil, fun b => match b with
    | .abs => PySem.W.mg_none_of X G b_abs
    | .int => PySem.W.mg_none_of X G b_int
    | .len => PySem.W.mg_none_of X G b_len
    | .str => PySem.W.mg_none_of X G b_str
    | .repr => PySem.W.mg_none_of X G b_repr
    | .bool => PySem.W.mg_none_of X G b_bool
    | .all => PySem.W.mg_none_of X G b_all
    | .any => PySem.W.mg_none_of X G b_any
    | .max => PySem.W.mg_none_of X G b_max
    | .min => PySem.W.mg_none_of X G b_min, fun t => match t with
    | .int => PySem.W.mg_none_of X G b_int
    | .bool => PySem.W.mg_none_of X G b_bool
    | .str => PySem.W.mg_none_of X G b_str
    | .tuple => PySem.W.mg_none_of X G b_tuple
    | .list => PySem.W.mg_none_of X G b_list, PySem.W.mg_none_of X G b_isinstance, ⟨PySem.W.mg_none_of X G b_range, PySem.W.mg_none_of X G b_zip, PySem.W.mg_none_of X G b_enumerate⟩, kT_all K, kD_all K⟩
  have xkX0' : XMk K X0 [Str.ofString "given"] := xmk_one (xtxX0 (xsX0 := xsX0) (xtX0 := xtX0) (xiX0 := xiX0) (xoX0 := xoX0) (xhX0 := xhX0) (xaX0 := xaX0) (xnX0 := xnX0) (xitX0 := xitX0) (xftX0 := xftX0) (xkX0 := xkX0) (lX0 := lX0) (cX0 := cX0))
  obtain ⟨Y, hY⟩ : ∃ Y : XTab, Y = ⟨[("InvalidNumber", X0, some [Str.ofString "given"])], [((X0, X0), true)], [(X0, "given")]⟩ := ⟨_, rfl⟩
  have hy : XTabOk K mg Y := by
    rw [hY]
    refine ⟨?_, ?_, ?_⟩
    · exact (all_cons ⟨PySem.W.mg_of X G aX0, fun fs e => by cases e; exact xkX0'⟩ all_nil)
    · exact (all_cons (exm_rr xsX0 xcX0 xtX0 xm0) all_nil)
    · exact (all_cons ⟨⟨xgaX0, xggX0, xsX0, xhX0⟩, xnX0⟩ all_nil)
  obtain ⟨CL, hCL⟩ : ∃ CL : List CRow, CL = [cC0] := ⟨_, rfl⟩
  have hcs : ∀ c ∈ CL, CRowOk K mg L c := by
    rw [hCL]
    exact (all_cons hcC0 all_nil)
  have namC0 : namOf CL "Ratio" = some cC0 := nam_at (i := 0) (c := cC0) (C := [cC0]) (by simp) rfl |> fun z => by rw [hCL]; rw [hcEC0] at z ⊢; exact z
  have catC0 : clsOf CL C0 = some cC0 := by
    have z : clsOf [cC0] cC0.A = some cC0 := cls_one
    rw [hCL]
    rw [hcEC0] at z ⊢
    exact z
  obtain ⟨Gx, hG⟩ : ∃ g, g = mkG K L CL [] Y := ⟨_, rfl⟩
  have Fm0 : Gx.fns "is_integer" = some cIsInteger := by
    rw [hG]
    exact fns_at wm0 em0f
  have Glm0 : Gx.glo "is_integer" = some (.fn "is_integer") := by
    rw [hG]
    exact glo_at wm0 mm0
  have Pm0_0 : Gx.pat "is_integer" 1 [] = some [.inl 0] := by
    rw [hG]
    exact pat_at' wm0 em0p rfl
  have Fm1 : Gx.fns "common" = some cCommon := by
    rw [hG]
    exact fns_at wm1 em1f
  have Glm1 : Gx.glo "common" = some (.fn "common") := by
    rw [hG]
    exact glo_at wm1 mm1
  have Pm1_0 : Gx.pat "common" 2 [] = some [.inl 0, .inl 1] := by
    rw [hG]
    exact pat_at' wm1 em1p rfl
  have Fm2 : Gx.fns "is_number" = some cIsNumber := by
    rw [hG]
    exact fns_at wm2 em2f
  have Glm2 : Gx.glo "is_number" = some (.fn "is_number") := by
    rw [hG]
    exact glo_at wm2 mm2
  have Pm2_0 : Gx.pat "is_number" 1 [] = some [.inl 0] := by
    rw [hG]
    exact pat_at' wm2 em2p rfl
  have Fm3 : Gx.fns "as_ratio" = some cAsRatio := by
    rw [hG]
    exact fns_at wm3 em3f
  have Glm3 : Gx.glo "as_ratio" = some (.fn "as_ratio") := by
    rw [hG]
    exact glo_at wm3 mm3
  have Pm3_0 : Gx.pat "as_ratio" 1 [] = some [.inl 0] := by
    rw [hG]
    exact pat_at' wm3 em3p rfl
  have Fm4 : Gx.fns "_law_purse" = some cLawPurse := by
    rw [hG]
    exact fns_at wm4 em4f
  have Glm4 : Gx.glo "_law_purse" = some (.fn "_law_purse") := by
    rw [hG]
    exact glo_at wm4 mm4
  have Pm4_0 : Gx.pat "_law_purse" 1 [] = some [.inl 0] := by
    rw [hG]
    exact pat_at' wm4 em4p rfl
  have Fm5 : Gx.fns "_law_draw" = some cLawDraw := by
    rw [hG]
    exact fns_at wm5 em5f
  have Glm5 : Gx.glo "_law_draw" = some (.fn "_law_draw") := by
    rw [hG]
    exact glo_at wm5 mm5
  have Pm5_0 : Gx.pat "_law_draw" 2 [] = some [.inl 0, .inl 1] := by
    rw [hG]
    exact pat_at' wm5 em5p rfl
  have Fm6 : Gx.fns "_law_great" = some cLawGreat := by
    rw [hG]
    exact fns_at wm6 em6f
  have Glm6 : Gx.glo "_law_great" = some (.fn "_law_great") := by
    rw [hG]
    exact glo_at wm6 mm6
  have Pm6_0 : Gx.pat "_law_great" 1 [] = some [.inl 0] := by
    rw [hG]
    exact pat_at' wm6 em6p rfl
  have Fm7 : Gx.fns "_law_common" = some cLawCommon := by
    rw [hG]
    exact fns_at wm7 em7f
  have Glm7 : Gx.glo "_law_common" = some (.fn "_law_common") := by
    rw [hG]
    exact glo_at wm7 mm7
  have Pm7_0 : Gx.pat "_law_common" 2 [] = some [.inl 0, .inl 1] := by
    rw [hG]
    exact pat_at' wm7 em7p rfl
  have Fm8 : Gx.fns "_law_lowest" = some cLawLowest := by
    rw [hG]
    exact fns_at wm8 em8f
  have Glm8 : Gx.glo "_law_lowest" = some (.fn "_law_lowest") := by
    rw [hG]
    exact glo_at wm8 mm8
  have Pm8_0 : Gx.pat "_law_lowest" 2 [] = some [.inl 0, .inl 1] := by
    rw [hG]
    exact pat_at' wm8 em8p rfl
  have Fm9 : Gx.fns "_law_from" = some cLawFrom := by
    rw [hG]
    exact fns_at wm9 em9f
  have Glm9 : Gx.glo "_law_from" = some (.fn "_law_from") := by
    rw [hG]
    exact glo_at wm9 mm9
  have Pm9_0 : Gx.pat "_law_from" 2 [] = some [.inl 0, .inl 1] := by
    rw [hG]
    exact pat_at' wm9 em9p rfl
  have Fm10 : Gx.fns "_law_sign_text" = some cLawSignText := by
    rw [hG]
    exact fns_at wm10 em10f
  have Glm10 : Gx.glo "_law_sign_text" = some (.fn "_law_sign_text") := by
    rw [hG]
    exact glo_at wm10 mm10
  have Pm10_0 : Gx.pat "_law_sign_text" 1 [] = some [.inl 0] := by
    rw [hG]
    exact pat_at' wm10 em10p rfl
  have Fm11 : Gx.fns "_law_odd" = some cLawOdd := by
    rw [hG]
    exact fns_at wm11 em11f
  have Glm11 : Gx.glo "_law_odd" = some (.fn "_law_odd") := by
    rw [hG]
    exact glo_at wm11 mm11
  have Pm11_0 : Gx.pat "_law_odd" 2 [] = some [.inl 0, .inl 1] := by
    rw [hG]
    exact pat_at' wm11 em11p rfl
  have Fm12 : Gx.fns "_law_is_whole" = some cLawIsWhole := by
    rw [hG]
    exact fns_at wm12 em12f
  have Glm12 : Gx.glo "_law_is_whole" = some (.fn "_law_is_whole") := by
    rw [hG]
    exact glo_at wm12 mm12
  have Pm12_0 : Gx.pat "_law_is_whole" 1 [] = some [.inl 0] := by
    rw [hG]
    exact pat_at' wm12 em12p rfl
  have Fm13 : Gx.fns "_law_is_digit" = some cLawIsDigit := by
    rw [hG]
    exact fns_at wm13 em13f
  have Glm13 : Gx.glo "_law_is_digit" = some (.fn "_law_is_digit") := by
    rw [hG]
    exact glo_at wm13 mm13
  have Pm13_0 : Gx.pat "_law_is_digit" 1 [] = some [.inl 0] := by
    rw [hG]
    exact pat_at' wm13 em13p rfl
  have Fm14 : Gx.fns "_law_made" = some cLawMade := by
    rw [hG]
    exact fns_at wm14 em14f
  have Glm14 : Gx.glo "_law_made" = some (.fn "_law_made") := by
    rw [hG]
    exact glo_at wm14 mm14
  have Pm14_0 : Gx.pat "_law_made" 2 [] = some [.inl 0, .inl 1] := by
    rw [hG]
    exact pat_at' wm14 em14p rfl
  have Fm15 : Gx.fns "_law_parted" = some cLawParted := by
    rw [hG]
    exact fns_at wm15 em15f
  have Glm15 : Gx.glo "_law_parted" = some (.fn "_law_parted") := by
    rw [hG]
    exact glo_at wm15 mm15
  have Pm15_0 : Gx.pat "_law_parted" 2 [] = some [.inl 0, .inl 1] := by
    rw [hG]
    exact pat_at' wm15 em15p rfl
  have Fm16 : Gx.fns "_law_shown" = some cLawShown := by
    rw [hG]
    exact fns_at wm16 em16f
  have Glm16 : Gx.glo "_law_shown" = some (.fn "_law_shown") := by
    rw [hG]
    exact glo_at wm16 mm16
  have Pm16_0 : Gx.pat "_law_shown" 1 [] = some [.inl 0] := by
    rw [hG]
    exact pat_at' wm16 em16p rfl
  have Fm17 : Gx.fns "_law_due" = some cLawDue := by
    rw [hG]
    exact fns_at wm17 em17f
  have Glm17 : Gx.glo "_law_due" = some (.fn "_law_due") := by
    rw [hG]
    exact glo_at wm17 mm17
  have Pm17_0 : Gx.pat "_law_due" 2 [] = some [.inl 0, .inl 1] := by
    rw [hG]
    exact pat_at' wm17 em17p rfl
  have Fm18 : Gx.fns "_law_half" = some cLawHalf := by
    rw [hG]
    exact fns_at wm18 em18f
  have Glm18 : Gx.glo "_law_half" = some (.fn "_law_half") := by
    rw [hG]
    exact glo_at wm18 mm18
  have Pm18_0 : Gx.pat "_law_half" 1 [] = some [.inl 0] := by
    rw [hG]
    exact pat_at' wm18 em18p rfl
  have Fm19 : Gx.fns "_law_thing" = some cLawThing := by
    rw [hG]
    exact fns_at wm19 em19f
  have Glm19 : Gx.glo "_law_thing" = some (.fn "_law_thing") := by
    rw [hG]
    exact glo_at wm19 mm19
  have Pm19_0 : Gx.pat "_law_thing" 1 [] = some [.inl 0] := by
    rw [hG]
    exact pat_at' wm19 em19p rfl
  have Fm20 : Gx.fns "_law_right" = some cLawRight := by
    rw [hG]
    exact fns_at wm20 em20f
  have Glm20 : Gx.glo "_law_right" = some (.fn "_law_right") := by
    rw [hG]
    exact glo_at wm20 mm20
  have Pm20_0 : Gx.pat "_law_right" 1 [] = some [.inl 0] := by
    rw [hG]
    exact pat_at' wm20 em20p rfl
  have Fm21 : Gx.fns "law" = some cLaw := by
    rw [hG]
    exact fns_at wm21 em21f
  have Glm21 : Gx.glo "law" = some (.fn "law") := by
    rw [hG]
    exact glo_at wm21 mm21
  have Pm21_0 : Gx.pat "law" 1 [] = some [.inl 0] := by
    rw [hG]
    exact pat_at' wm21 em21p rfl
  have Fp0x0 : Gx.fns "Ratio.top" = some cRatioTop := by
    rw [hG]
    exact fns_at wp0x0 ep0x0f
  have Pp0x0_0 : Gx.pat "Ratio.top" 1 [] = some [.inl 0] := by
    rw [hG]
    exact pat_at' wp0x0 ep0x0p rfl
  have Fp0x1 : Gx.fns "Ratio.bottom" = some cRatioBottom := by
    rw [hG]
    exact fns_at wp0x1 ep0x1f
  have Pp0x1_0 : Gx.pat "Ratio.bottom" 1 [] = some [.inl 0] := by
    rw [hG]
    exact pat_at' wp0x1 ep0x1p rfl
  have Fm0x0 : Gx.fns "Ratio.over" = some cRatioOver := by
    rw [hG]
    exact fns_at wm0x0 em0x0f
  have Pm0x0_0 : Gx.pat "Ratio.over" 2 [] = some [.inl 0, .inl 1] := by
    rw [hG]
    exact pat_at' wm0x0 em0x0p rfl
  have Fo0x0 : Gx.fns "Ratio.__eq__" = some cRatioEq := by
    rw [hG]
    exact fns_at wo0x0 eo0x0f
  have Po0x0_0 : Gx.pat "Ratio.__eq__" 2 [] = some [.inl 0, .inl 1] := by
    rw [hG]
    exact pat_at' wo0x0 eo0x0p rfl
  have Fo0x1 : Gx.fns "Ratio.__bool__" = some cRatioBool := by
    rw [hG]
    exact fns_at wo0x1 eo0x1f
  have Po0x1_0 : Gx.pat "Ratio.__bool__" 1 [] = some [.inl 0] := by
    rw [hG]
    exact pat_at' wo0x1 eo0x1p rfl
  have Fo0x2 : Gx.fns "Ratio.__str__" = some cRatioStr := by
    rw [hG]
    exact fns_at wo0x2 eo0x2f
  have Po0x2_0 : Gx.pat "Ratio.__str__" 1 [] = some [.inl 0] := by
    rw [hG]
    exact pat_at' wo0x2 eo0x2p rfl
  have Fo0x3 : Gx.fns "Ratio.__repr__" = some cRatioRepr := by
    rw [hG]
    exact fns_at wo0x3 eo0x3f
  have Po0x3_0 : Gx.pat "Ratio.__repr__" 1 [] = some [.inl 0] := by
    rw [hG]
    exact pat_at' wo0x3 eo0x3p rfl
  have FIC0 : Gx.fns "Ratio.__init__" = some cRatioInit := by
    rw [hG]
    exact fns_at wIC0 eIC0f
  have PIC0_0 : Gx.pat "Ratio.__init__" 3 [] = some [.inl 0, .inl 1, .inl 2] := by
    rw [hG]
    exact pat_at' wIC0 eIC0p rfl
  have PIC0_1 : Gx.pat "Ratio.__init__" 2 [] = some [.inl 0, .inl 1, .inr (.int 1)] := by
    rw [hG]
    exact pat_at' wIC0 eIC0p rfl
  have GlC0 : Gx.glo "Ratio" = some (.cls C0 "Ratio.__init__") := by
    rw [hG]
    exact glo_cls nrC0 namC0 (by rw [hcEC0]) (by rw [hcEC0])
  have pr_C0_top : Gx.prop C0 "top" = some "Ratio.top" := by
    rw [hG]
    exact prop_at catC0 (by rw [hcEC0]; rfl)
  have pr_C0_bottom : Gx.prop C0 "bottom" = some "Ratio.bottom" := by
    rw [hG]
    exact prop_at catC0 (by rw [hcEC0]; rfl)
  have pn_C0_numerator_here : Gx.prop C0 "numerator_here" = none := by
    rw [hG]
    exact prop_at catC0 (by rw [hcEC0]; rfl)
  have fl_C0_numerator_here : Gx.fld C0 "numerator_here" = true := by
    rw [hG]
    exact fld_at catC0 (by rw [hcEC0]; rfl)
  have pn_C0_denominator_here : Gx.prop C0 "denominator_here" = none := by
    rw [hG]
    exact prop_at catC0 (by rw [hcEC0]; rfl)
  have fl_C0_denominator_here : Gx.fld C0 "denominator_here" = true := by
    rw [hG]
    exact fld_at catC0 (by rw [hcEC0]; rfl)
  have ow_C0___eq__ : Gx.own C0 "__eq__" = some "Ratio.__eq__" := by
    rw [hG]
    exact own_at catC0 (by rw [hcEC0]; rfl)
  have ow_C0___bool__ : Gx.own C0 "__bool__" = some "Ratio.__bool__" := by
    rw [hG]
    exact own_at catC0 (by rw [hcEC0]; rfl)
  have ow_C0___str__ : Gx.own C0 "__str__" = some "Ratio.__str__" := by
    rw [hG]
    exact own_at catC0 (by rw [hcEC0]; rfl)
  have ow_C0___repr__ : Gx.own C0 "__repr__" = some "Ratio.__repr__" := by
    rw [hG]
    exact own_at catC0 (by rw [hcEC0]; rfl)
  have me_C0_over : Gx.meth C0 "over" = some (Str.ofString "Ratio.over") := by
    rw [hG]
    exact meth_at catC0 (by rw [hcEC0]; rfl)
  have ic_C0 : Gx.isC C0 C0 = some true := by
    rw [hG]
    exact isC_at catC0 (by rw [hcEC0]; simp)
  have it_C0_int : Gx.isT C0 .int = some false := by
    rw [hG]
    exact isT_at catC0 (by rw [hcEC0])
  have ex_X0 : Gx.exc "InvalidNumber" = some (X0, some [Str.ofString "given"]) := by
    rw [hG]
    exact exc_at (by rw [hY]; rfl)
  have xmf0 : Gx.xm X0 X0 = some true := by
    rw [hG]
    exact xm_at (by rw [hY]; simp [List.lookup])
  have xff0 : Gx.xf X0 "given" = true := by
    rw [hG]
    exact xf_at (by rw [hY]; simp)
  have hRat : HRat Gx C0 := by constructor <;> with_reducible assumption
  have hRef : HRef Gx C0 X0 := by constructor <;> with_reducible assumption
  have hK5 : HK5 Gx := by constructor <;> with_reducible assumption
  have hDr : HDr Gx := by constructor <;> with_reducible assumption
  have hGr : HGr Gx := by constructor <;> with_reducible assumption
  have hSi : HSi Gx := by constructor <;> with_reducible assumption
  have hOd : HOd Gx := by constructor <;> with_reducible assumption
  have hLo : HLo Gx := by constructor <;> with_reducible assumption
  have hNu : HNum Gx C0 := by constructor <;> with_reducible assumption
  have hOv : HOv Gx C0 := by constructor <;> with_reducible assumption
  have hL5 : HL5 Gx C0 X0 := ⟨hRat, hRef, hK5, hOd, hLo, hNu, hOv⟩
  have hPu : HPu Gx := by constructor <;> with_reducible assumption
  have fLa : Gx.fns "law" = some cLaw := by with_reducible assumption
  have fRi : Gx.fns "_law_right" = some cLawRight := by with_reducible assumption
  have gRi : Gx.glo "_law_right" = some (.fn "_law_right") := by with_reducible assumption
  have hK : Gx.K = K := by rw [hG]; rfl
  have hLaw : ∀ a ns, List.length ns ≤ 63 → Tn Gx 8 ⟨true, true⟩ "law" [.im (.scr K a ns)] = some (.im (.bl true), [.im (.scr K a ns)]) := by
    intro a ns hn
    have z := law_ok hL5 hPu 0 ⟨true, true⟩ rfl rfl fLa fRi gRi a ns hn
    rw [hK] at z
    exact z
  refine ⟨(PySem.W.fnOf "law" "law" (defArgs sLaw) (defBody sLaw) (defScope sLaw) .none kVm21 dcm21 pmm21 anm21 cdm21 ctm21), fun s v => .of_eq rfl, fun base _ _ => ?_⟩
  have ws := ws_of (P := l.prog) (w := w) (base := base) (z := (PySem.W.fnOf "law" "law" (defArgs sLaw) (defBody sLaw) (defScope sLaw) .none kVm21 dcm21 pmm21 anm21 cdm21 ctm21)) hr hcs hw hy
  have lk := law_K ws 8 (f := cLaw) (fns_at wm21 em21f)
  have lk' : FnK l.prog w K mg base 48 (adL L "law") (fdL L (PySem.W.fnOf "law" "law" (defArgs sLaw) (defBody sLaw) (defScope sLaw) .none kVm21 dcm21 pmm21 anm21 cdm21 ctm21) "law") ["_law_script"] (RX (Tn (mkG K L CL [] Y) 8) ⟨true, true⟩ "law") := lk
  rw [dm21', fd_at wm21 em21d, ← hG] at lk'
  refine lk'.imp ?_
  rintro ss r ss' ⟨a, ns, rfl, hn, rfl, rfl⟩
  exact hLaw a ns hn
end K05
set_option Elab.async false
set_option linter.all false
set_option autoImplicit false
open PySem PySem.W PyProof.Rows
set_option maxRecDepth 100000 in
set_option maxHeartbeats 0 in
theorem PySem.Challenge.cw_matrixforms_k05_ratios_refused_holds : PySem.Challenge.rw_matrixforms_k05_ratios_refused.Holds := by
  w_on; o_law; k_head; (case hw => w_witness2)
  k_fill
  refine TL.walk_tree (l := PySem.Challenge.rw_matrixforms_k05_ratios_refused) (n := 63) (k := 48) (x := "_law_script") (R := RE.rLaw) rfl (by decide) rfl ⟨rfl, by decide, by decide⟩ (fun w h Y => PySem.W.kIn_of Y) ?F (fun K a ns hl => ⟨a, ns, rfl, hl, rfl, rfl⟩)
  case F =>
    intro w mg fa h KX G hmg
    refine' K05.all_mk KX G hmg ?aC0 ?aX0 ?am0 ?lm0 ?cm0 ?km0 ?am1 ?lm1 ?cm1 ?km1 ?am2 ?lm2 ?cm2 ?km2 ?am3 ?lm3 ?cm3 ?km3 ?am4 ?lm4 ?cm4 ?km4 ?am5 ?lm5 ?cm5 ?km5 ?am6 ?lm6 ?cm6 ?km6 ?am7 ?lm7 ?cm7 ?km7 ?am8 ?lm8 ?cm8 ?km8 ?am9 ?lm9 ?cm9 ?km9 ?am10 ?lm10 ?cm10 ?km10 ?am11 ?lm11 ?cm11 ?km11 ?am12 ?lm12 ?cm12 ?km12 ?am13 ?lm13 ?cm13 ?km13 ?am14 ?lm14 ?cm14 ?km14 ?am15 ?lm15 ?cm15 ?km15 ?am16 ?lm16 ?cm16 ?km16 ?am17 ?lm17 ?cm17 ?km17 ?am18 ?lm18 ?cm18 ?km18 ?am19 ?lm19 ?cm19 ?km19 ?am20 ?lm20 ?cm20 ?km20 ?am21 ?lm21 ?cm21 ?km21 ?ap0x0 ?gp0x0 ?tp0x0 ?rp0x0h ?lp0x0 ?cp0x0 ?ap0x1 ?gp0x1 ?tp0x1 ?rp0x1h ?lp0x1 ?cp0x1 ?am0x0 ?im0x0 ?km0x0 ?lm0x0 ?cm0x0 ?ao0x0 ?io0x0 ?lo0x0 ?co0x0 ?ao0x1 ?io0x1 ?lo0x1 ?co0x1 ?ao0x2 ?io0x2 ?lo0x2 ?co0x2 ?ao0x3 ?io0x3 ?lo0x3 ?co0x3 ?aIC0 ?iIC0 ?lIC0 ?cIC0 ?lTC0 ?pgC0 ?hdC0 ?poC0 ?saC0 ?mkC0 ?kcC0 ?caC0 ?cmC0 ?sfC0 ?hciC0 ?htyC0 ?hneC0 ?nC0f0 ?nC0f1 ?siC0NoneType ?siC0int ?siC0bool ?siC0str ?siC0list ?siC0tuple ?siC0dict ?miC0int ?cn ?ct ?xsX0 ?xcX0 ?xtX0 ?xiX0 ?xoX0 ?xhX0 ?xaX0 ?xnX0 ?xitX0 ?xftX0 ?xkX0 ?xgaX0 ?xggX0 ?lX0 ?cX0 ?xm0 ?b_abs ?b_int ?b_len ?b_max ?b_min ?b_all ?b_any ?b_str ?b_repr ?b_bool ?b_tuple ?b_list ?b_isinstance ?b_range ?b_zip ?b_enumerate
    (case aC0 => k_is)
    (case aX0 => k_is)
    (case am0 => k_is)
    (case lm0 => k_is)
    (case cm0 => k_is)
    (case km0 => k_is)
    (case am1 => k_is)
    (case lm1 => k_is)
    (case cm1 => k_is)
    (case km1 => k_is)
    (case am2 => k_is)
    (case lm2 => k_is)
    (case cm2 => k_is)
    (case km2 => k_is)
    (case am3 => k_is)
    (case lm3 => k_is)
    (case cm3 => k_is)
    (case km3 => k_is)
    (case am4 => k_is)
    (case lm4 => k_is)
    (case cm4 => k_is)
    (case km4 => k_is)
    (case am5 => k_is)
    (case lm5 => k_is)
    (case cm5 => k_is)
    (case km5 => k_is)
    (case am6 => k_is)
    (case lm6 => k_is)
    (case cm6 => k_is)
    (case km6 => k_is)
    (case am7 => k_is)
    (case lm7 => k_is)
    (case cm7 => k_is)
    (case km7 => k_is)
    (case am8 => k_is)
    (case lm8 => k_is)
    (case cm8 => k_is)
    (case km8 => k_is)
    (case am9 => k_is)
    (case lm9 => k_is)
    (case cm9 => k_is)
    (case km9 => k_is)
    (case am10 => k_is)
    (case lm10 => k_is)
    (case cm10 => k_is)
    (case km10 => k_is)
    (case am11 => k_is)
    (case lm11 => k_is)
    (case cm11 => k_is)
    (case km11 => k_is)
    (case am12 => k_is)
    (case lm12 => k_is)
    (case cm12 => k_is)
    (case km12 => k_is)
    (case am13 => k_is)
    (case lm13 => k_is)
    (case cm13 => k_is)
    (case km13 => k_is)
    (case am14 => k_is)
    (case lm14 => k_is)
    (case cm14 => k_is)
    (case km14 => k_is)
    (case am15 => k_is)
    (case lm15 => k_is)
    (case cm15 => k_is)
    (case km15 => k_is)
    (case am16 => k_is)
    (case lm16 => k_is)
    (case cm16 => k_is)
    (case km16 => k_is)
    (case am17 => k_is)
    (case lm17 => k_is)
    (case cm17 => k_is)
    (case km17 => k_is)
    (case am18 => k_is)
    (case lm18 => k_is)
    (case cm18 => k_is)
    (case km18 => k_is)
    (case am19 => k_is)
    (case lm19 => k_is)
    (case cm19 => k_is)
    (case km19 => k_is)
    (case am20 => k_is)
    (case lm20 => k_is)
    (case cm20 => k_is)
    (case km20 => k_is)
    (case am21 => k_is)
    (case lm21 => k_is)
    (case cm21 => k_is)
    (case km21 => k_is)
    (case ap0x0 => k_is)
    (case gp0x0 => k_is)
    (case tp0x0 => k_is)
    (case rp0x0h => k_is)
    (case lp0x0 => k_is)
    (case cp0x0 => k_is)
    (case ap0x1 => k_is)
    (case gp0x1 => k_is)
    (case tp0x1 => k_is)
    (case rp0x1h => k_is)
    (case lp0x1 => k_is)
    (case cp0x1 => k_is)
    (case am0x0 => k_is)
    (case im0x0 => k_is)
    (case km0x0 => k_is)
    (case lm0x0 => k_is)
    (case cm0x0 => k_is)
    (case ao0x0 => k_is)
    (case io0x0 => k_is)
    (case lo0x0 => k_is)
    (case co0x0 => k_is)
    (case ao0x1 => k_is)
    (case io0x1 => k_is)
    (case lo0x1 => k_is)
    (case co0x1 => k_is)
    (case ao0x2 => k_is)
    (case io0x2 => k_is)
    (case lo0x2 => k_is)
    (case co0x2 => k_is)
    (case ao0x3 => k_is)
    (case io0x3 => k_is)
    (case lo0x3 => k_is)
    (case co0x3 => k_is)
    (case aIC0 => k_is)
    (case iIC0 => k_is)
    (case lIC0 => k_is)
    (case cIC0 => k_is)
    (case lTC0 => k_is)
    (case pgC0 => k_is)
    (case hdC0 => k_is)
    (case poC0 => k_is)
    (case saC0 => k_is)
    (case mkC0 => k_is)
    (case kcC0 => k_is)
    (case caC0 => k_is)
    (case cmC0 => k_is)
    (case sfC0 => k_is)
    (case hciC0 => k_is)
    (case htyC0 => k_is)
    (case hneC0 => k_is)
    (case nC0f0 => k_is)
    (case nC0f1 => k_is)
    (case siC0NoneType => k_is)
    (case siC0int => k_is)
    (case siC0bool => k_is)
    (case siC0str => k_is)
    (case siC0list => k_is)
    (case siC0tuple => k_is)
    (case siC0dict => k_is)
    (case miC0int => k_is)
    (case cn => k_is)
    (case ct => k_is)
    (case xsX0 => k_is)
    (case xcX0 => k_is)
    (case xtX0 => k_is)
    (case xiX0 => kx_is)
    (case xoX0 => kx_is)
    (case xhX0 => k_is)
    (case xaX0 => k_is)
    (case xnX0 => k_is)
    (case xitX0 => k_is)
    (case xftX0 => k_is)
    (case xkX0 => k_is)
    (case xgaX0 => k_is)
    (case xggX0 => k_is)
    (case lX0 => k_is)
    (case cX0 => k_is)
    (case xm0 => k_is)
    (case b_abs => k_is)
    (case b_int => k_is)
    (case b_len => k_is)
    (case b_max => k_is)
    (case b_min => k_is)
    (case b_all => k_is)
    (case b_any => k_is)
    (case b_str => k_is)
    (case b_repr => k_is)
    (case b_bool => k_is)
    (case b_tuple => k_is)
    (case b_list => k_is)
    (case b_isinstance => k_is)
    (case b_range => k_is)
    (case b_zip => k_is)
    (case b_enumerate => k_is)
