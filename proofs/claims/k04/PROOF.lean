import PyProof.Rows.All
import HandS.ForMost
import HandS.Exc
import HandS.IsInst
import HandS.Strs
import HandS.StrMore
import HandS.WordsExc
import HandS.CallSlots
import HandS.ExcOwn
import HandS.Words
import HandS.Comp
import HandS.Iter
import HandS.NoneIn
import HandS.Text
import HandS.Wide
import HandS.More
import PyProof.ListStr
import HandS.Conv
import HandS.Ends
import PySem.Challenge.RW_handcarried_k04_rule_words
set_option Elab.async false
set_option linter.all false
set_option maxRecDepth 100000
open PySem PySem.Spec PyProof.Rows L2
namespace Mi

/-! ## values, slots, results -/
inductive D where
  | non
  | bl (b : Bool)
  | int (i : Int)
  | str (s : List Nat)
  | tup (ds : List D)
  | lst (ds : List D)
  | loc (n : Nat)
  | dct (ks : List (List Nat)) (ds : List D)

/-- a shared object -/
inductive MO where
  | lst (ds : List D)
abbrev MH := List MO
/-- a name's slot: nothing known, a value, a list that only this name holds -/
inductive Sl where
  | un
  | v (d : D)
  | own (ds : List D)
abbrev Ev := List Sl
/-- a result: a value, or a new list that nobody else holds -/
inductive R where
  | v (d : D)
  | own (ds : List D)
/-- an exception of an own class: the class's name, its fields -/
structure Xc where
  cls : Str
  ks : List Str
  ds : List D
inductive Rs (α : Type) where
  | ok (a : α) (env : Ev) (h : MH)
  | err (x : Xc) (env : Ev) (h : MH)
  | no
def Rs.bind {α β : Type} (r : Rs α) (f : α → Ev → MH → Rs β) : Rs β := match r with
  | .ok a e h => f a e h
  | .err x e h => .err x e h
  | .no => .no
@[simp] theorem Rs.bind_ok {α β : Type} (a : α) (e : Ev) (h : MH) (f : α → Ev → MH → Rs β) : (Rs.ok a e h).bind f = f a e h := rfl
@[simp] theorem Rs.bind_err {α β : Type} (x : Xc) (e : Ev) (h : MH) (f : α → Ev → MH → Rs β) : (Rs.err x e h : Rs α).bind f = .err x e h := rfl
@[simp] theorem Rs.bind_no {α β : Type} (f : α → Ev → MH → Rs β) : (Rs.no : Rs α).bind f = .no := rfl

/-! ## ghosts: frozen addresses, the places of shared objects -/
structure Gh where
  Fz : Addr → Prop
  ρ : Nat → Addr
  top : Nat
def S (s : List Nat) : Str := ⟨s.toArray⟩
theorem S_inj {s t : List Nat} (h : S s = S t) : s = t := by
  unfold S at h
  injection h with h
  simpa using h
theorem S_list (s : List Nat) : (S s).cps.toList = s := by simp [S]
theorem S_of (x : Str) : S x.cps.toList = x := by simp [S]
theorem S_length (s : List Nat) : (S s).length = s.length := by simp [S, Str.length]

def KLst (K : PySem.W.Frag) (a : Addr) (xs : List V) : Prop :=
  ∃ (o : Obj) (its : Array Value) (n : Nat), K.lookup a = some o ∧ o.cls = .type "list" ∧ o.dict = none ∧ o.data = .seq its n ∧ its.size ≤ sizeLine ∧ Vals xs its.toList
def KTup (K : PySem.W.Frag) (a : Addr) (xs : List V) : Prop :=
  ∃ (o : Obj) (its : Array Value) (n : Nat), K.lookup a = some o ∧ o.cls = .type "tuple" ∧ o.data = .seq its n ∧ its.size ≤ sizeLine ∧ Vals xs its.toList
def LAt (K : PySem.W.Frag) (g : Gh) (H : Hp) (a : Addr) (xs : List V) : Prop := (g.Fz a ∧ Rd H a (.lst xs)) ∨ KLst K a xs
def TAt (K : PySem.W.Frag) (g : Gh) (H : Hp) (a : Addr) (xs : List V) : Prop := (g.Fz a ∧ Rd H a (.tup xs)) ∨ KTup K a xs
/-- a dict of the written part with text keys -/
def KDc (K : PySem.W.Frag) (w : World) (a : Addr) (ks : List (List Nat)) (vs : List V) : Prop :=
  ∃ es n, K.lookup a = some ⟨.type "dict", none, .dict es n, #[]⟩ ∧ PySem.W.KeysLit w.params es.toList ∧ (a == sysModules) = false ∧
    ∀ x : List Nat, match (ks.zip vs).lookup x with
      | some v => ∃ u, PySem.W.nsIn K a (S x) = some (some u) ∧ RelV v u
      | none => PySem.W.nsIn K a (S x) = some none
section
variable (K : PySem.W.Frag) (w : World)
mutual
/-- the value v is the data d -/
def Rep (g : Gh) (H : Hp) : V → D → Prop
  | x, .non => x = .non
  | x, .bl b => x = .bl b
  | x, .int i => x = .int i
  | x, .str s => x = .str (S s)
  | x, .tup ds => ∃ a vs, x = .ref a ∧ TAt K g H a vs ∧ Reps g H vs ds
  | x, .lst ds => ∃ a vs, x = .ref a ∧ LAt K g H a vs ∧ Reps g H vs ds
  | x, .loc n => n < g.top ∧ x = .ref (g.ρ n)
  | x, .dct ks ds => ∃ a vs, x = .ref a ∧ KDc K w a ks vs ∧ Reps g H vs ds
def Reps (g : Gh) (H : Hp) : List V → List D → Prop
  | vs, [] => vs = []
  | vs, d :: ds => ∃ v r, vs = v :: r ∧ Rep g H v d ∧ Reps g H r ds
end
end
/-- frozen objects stand, shared ones keep their places -/
structure Step (g : Gh) (H : Hp) (g' : Gh) (H' : Hp) : Prop where
  fz : ∀ a, g.Fz a → g'.Fz a
  st : ∀ a, g.Fz a → H' a = H a
  top : g.top ≤ g'.top
  ρ : ∀ n, n < g.top → g'.ρ n = g.ρ n
theorem Step.refl (g : Gh) (H : Hp) : Step g H g H := ⟨fun _ h => h, fun _ _ => rfl, Nat.le_refl _, fun _ _ => rfl⟩
theorem Step.trans {g g1 g2 : Gh} {H H1 H2 : Hp} (a : Step g H g1 H1) (b : Step g1 H1 g2 H2) : Step g H g2 H2 :=
  ⟨fun x h => b.fz x (a.fz x h), fun x h => (b.st x (a.fz x h)).trans (a.st x h), Nat.le_trans a.top b.top, fun n h => (b.ρ n (Nat.lt_of_lt_of_le h a.top)).trans (a.ρ n h)⟩
section
variable {K : PySem.W.Frag} {w : World} {g g' : Gh} {H H' : Hp}
theorem Rd.step (s : Step g H g' H') {a : Addr} {u : HO} (f : g.Fz a) (r : Rd H a u) : Rd H' a u := by
  unfold Rd at *
  rw [s.st a f]
  exact r
theorem LAt.step (s : Step g H g' H') {a : Addr} {xs : List V} (h : LAt K g H a xs) : LAt K g' H' a xs := by
  rcases h with ⟨f, r⟩ | h
  · exact .inl ⟨s.fz a f, Rd.step s f r⟩
  · exact .inr h
theorem TAt.step (s : Step g H g' H') {a : Addr} {xs : List V} (h : TAt K g H a xs) : TAt K g' H' a xs := by
  rcases h with ⟨f, r⟩ | h
  · exact .inl ⟨s.fz a f, Rd.step s f r⟩
  · exact .inr h
theorem LAt.sq {a : Addr} {xs : List V} (h : LAt K g H a xs) : SqL K H a xs := by
  rcases h with ⟨_, r⟩ | h
  · exact .inl r
  · exact .inr h
theorem TAt.sq {a : Addr} {xs : List V} (h : TAt K g H a xs) : SqT K H a xs := by
  rcases h with ⟨_, r⟩ | h
  · exact .inl r
  · exact .inr h
mutual
theorem Rep.step (s : Step g H g' H') : ∀ (d : D) {x : V}, Rep K w g H x d → Rep K w g' H' x d
  | .non, _, h => by simpa [Rep] using h
  | .bl _, _, h => by simpa [Rep] using h
  | .int _, _, h => by simpa [Rep] using h
  | .str _, _, h => by simpa [Rep] using h
  | .tup ds, _, h => by
    simp only [Rep] at h ⊢
    obtain ⟨a, vs, e, t, r⟩ := h
    exact ⟨a, vs, e, t.step s, Reps.step s ds r⟩
  | .lst ds, _, h => by
    simp only [Rep] at h ⊢
    obtain ⟨a, vs, e, t, r⟩ := h
    exact ⟨a, vs, e, t.step s, Reps.step s ds r⟩
  | .loc n, _, h => by
    simp only [Rep] at h ⊢
    exact ⟨Nat.lt_of_lt_of_le h.1 s.top, by rw [s.ρ n h.1]; exact h.2⟩
  | .dct ks ds, _, h => by
    simp only [Rep] at h ⊢
    obtain ⟨a, vs, e, t, r⟩ := h
    exact ⟨a, vs, e, t, Reps.step s ds r⟩
theorem Reps.step (s : Step g H g' H') : ∀ (ds : List D) {vs : List V}, Reps K w g H vs ds → Reps K w g' H' vs ds
  | [], _, h => by simpa [Reps] using h
  | d :: ds, _, h => by
    simp only [Reps] at h ⊢
    obtain ⟨v, r, e, h1, h2⟩ := h
    exact ⟨v, r, e, Rep.step s d h1, Reps.step s ds h2⟩
end
theorem Reps.nil : Reps K w g H [] [] := by simp [Reps]
theorem Reps.cons {v : V} {d : D} {vs : List V} {ds : List D} (h : Rep K w g H v d) (t : Reps K w g H vs ds) : Reps K w g H (v :: vs) (d :: ds) := by
  simp only [Reps]
  exact ⟨v, vs, rfl, h, t⟩
theorem Reps.nil_iff {vs : List V} : Reps K w g H vs [] ↔ vs = [] := by simp [Reps]
theorem Reps.cons_iff {vs : List V} {d : D} {ds : List D} : Reps K w g H vs (d :: ds) ↔ ∃ v r, vs = v :: r ∧ Rep K w g H v d ∧ Reps K w g H r ds := by simp only [Reps]
theorem Reps.length : ∀ {ds : List D} {vs : List V}, Reps K w g H vs ds → vs.length = ds.length
  | [], _, h => by rw [Reps.nil_iff] at h; rw [h]; rfl
  | d :: ds, _, h => by
    rw [Reps.cons_iff] at h
    obtain ⟨v, r, rfl, _, t⟩ := h
    rw [List.length_cons, List.length_cons, Reps.length t]
theorem Reps.get : ∀ {ds : List D} {vs : List V} {i : Nat} {v : V}, Reps K w g H vs ds → vs[i]? = some v → ∃ d, ds[i]? = some d ∧ Rep K w g H v d
  | [], _, _, _, h, e => by rw [Reps.nil_iff] at h; rw [h] at e; simp at e
  | d :: ds, _, i, v, h, e => by
    rw [Reps.cons_iff] at h
    obtain ⟨v0, r, rfl, h1, t⟩ := h
    cases i with
    | zero => simp at e; subst e; exact ⟨d, by simp, h1⟩
    | succ i =>
      obtain ⟨d', e1, e2⟩ := Reps.get (i := i) t (by simpa using e)
      exact ⟨d', by simpa using e1, e2⟩
theorem Reps.get' {ds : List D} {vs : List V} {i : Nat} {d : D} (h : Reps K w g H vs ds) (e : ds[i]? = some d) : ∃ v, vs[i]? = some v ∧ Rep K w g H v d := by
  have hl := h.length
  have hi : i < ds.length := (List.getElem?_eq_some_iff.mp e).1
  have hi2 : i < vs.length := by omega
  obtain ⟨d', e1, r⟩ := h.get (List.getElem?_eq_getElem hi2)
  rw [e] at e1
  cases e1
  exact ⟨_, List.getElem?_eq_getElem hi2, r⟩
theorem Reps.append : ∀ {ds es : List D} {vs us : List V}, Reps K w g H vs ds → Reps K w g H us es → Reps K w g H (vs ++ us) (ds ++ es)
  | [], _, _, _, h, t => by rw [Reps.nil_iff] at h; rw [h]; simpa using t
  | d :: ds, _, _, _, h, t => by
    rw [Reps.cons_iff] at h
    obtain ⟨v, r, rfl, h1, h2⟩ := h
    exact Reps.cons h1 (Reps.append h2 t)
theorem Reps.of_get : ∀ {ds : List D} {vs : List V}, vs.length = ds.length → (∀ (i : Nat) (v : V) (d : D), vs[i]? = some v → ds[i]? = some d → Rep K w g H v d) → Reps K w g H vs ds
  | [], vs, hl, _ => by
    have : vs = [] := List.length_eq_zero_iff.mp (by simpa using hl)
    rw [this]; exact Reps.nil
  | d :: ds, [], hl, _ => by simp at hl
  | d :: ds, v :: vs, hl, hg => Reps.cons (hg 0 v d (by simp) (by simp)) (Reps.of_get (by simpa using hl) fun i v' d' e1 e2 => hg (i + 1) v' d' (by simpa using e1) (by simpa using e2))
theorem Reps.take {ds : List D} {vs : List V} (n : Nat) (h : Reps K w g H vs ds) : Reps K w g H (vs.take n) (ds.take n) := by
  refine Reps.of_get (by rw [List.length_take, List.length_take, h.length]) fun i v d e1 e2 => ?_
  rw [List.getElem?_take] at e1 e2
  split at e1
  · rename_i hn
    rw [if_pos hn] at e2
    obtain ⟨d', e3, r⟩ := h.get e1
    rw [e2] at e3; cases e3; exact r
  · cases e1
theorem Reps.drop {ds : List D} {vs : List V} (n : Nat) (h : Reps K w g H vs ds) : Reps K w g H (vs.drop n) (ds.drop n) := by
  refine Reps.of_get (by rw [List.length_drop, List.length_drop, h.length]) fun i v d e1 e2 => ?_
  rw [List.getElem?_drop] at e1 e2
  obtain ⟨d', e3, r⟩ := h.get e1
  rw [e2] at e3; cases e3; exact r
theorem Reps.set {ds : List D} {vs : List V} (n : Nat) {v : V} {d : D} (h : Reps K w g H vs ds) (r : Rep K w g H v d) : Reps K w g H (vs.set n v) (ds.set n d) := by
  have hl := h.length
  refine Reps.of_get (by rw [List.length_set, List.length_set, hl]) fun i v' d' e1 e2 => ?_
  rw [List.getElem?_set] at e1 e2
  by_cases hn : n = i
  · rw [if_pos hn] at e1 e2
    by_cases hi : n < ds.length
    · rw [if_pos (by omega)] at e1
      rw [if_pos (by omega)] at e2
      cases e1; cases e2; exact r
    · rw [if_neg (by omega)] at e1
      cases e1
  · rw [if_neg hn] at e1 e2
    obtain ⟨d2, e3, r2⟩ := h.get e1
    rw [e2] at e3; cases e3; exact r2
theorem Reps.eraseIdx {ds : List D} {vs : List V} (n : Nat) (h : Reps K w g H vs ds) : Reps K w g H (vs.eraseIdx n) (ds.eraseIdx n) := by
  rw [List.eraseIdx_eq_take_drop_succ, List.eraseIdx_eq_take_drop_succ]
  exact (h.take n).append (h.drop (n + 1))
theorem Reps.reverse : ∀ {ds : List D} {vs : List V}, Reps K w g H vs ds → Reps K w g H vs.reverse ds.reverse
  | [], _, h => by rw [Reps.nil_iff] at h; rw [h]; exact Reps.nil
  | d :: ds, _, h => by
    rw [Reps.cons_iff] at h
    obtain ⟨v, r, rfl, h1, h2⟩ := h
    rw [List.reverse_cons, List.reverse_cons]
    exact (Reps.reverse h2).append (Reps.cons h1 Reps.nil)
end

/-! ## the state of a frame -/
section
variable (K : PySem.W.Frag) (w : World)
def ORep (g : Gh) (H : Hp) (a : Addr) : MO → Prop
  | .lst ds => ∃ vs, H a = some (.lst vs) ∧ Reps K w g H vs ds
/-- a list at a that only one holds; Hk: the heap at the entry -/
structure OwnAt (Hk : Hp) (g : Gh) (H : Hp) (a : Addr) (ds : List D) : Prop where
  at_ : ∃ vs, H a = some (.lst vs) ∧ Reps K w g H vs ds
  nf : ¬ g.Fz a
  nρ : ∀ n, n < g.top → g.ρ n ≠ a
  nk : Hk a = none
/-- the shared objects -/
structure HAt (h : MH) (g : Gh) (H : Hp) : Prop where
  top : g.top = h.length
  fz : ∀ a, g.Fz a → H a ≠ none
  obj : ∀ n o, h[n]? = some o → ORep K w g H (g.ρ n) o ∧ ¬ g.Fz (g.ρ n)
  inj : ∀ n m, n < g.top → m < g.top → g.ρ n = g.ρ m → n = m
end
/-- from gk, Hk to g, H: nothing that stood is changed but shared objects -/
structure FStep (gk : Gh) (Hk : Hp) (g : Gh) (H : Hp) : Prop extends Step gk Hk g H where
  keep : ∀ a o, Hk a = some o → (∀ n, n < gk.top → gk.ρ n ≠ a) → H a = some o
  newρ : ∀ n, gk.top ≤ n → n < g.top → Hk (g.ρ n) = none
  newF : ∀ a, g.Fz a → gk.Fz a ∨ Hk a = none
section
variable (K : PySem.W.Frag) (w : World)
/-- Hk, gk: the heap and the ghosts at the entry -/
structure At (Hk : Hp) (gk : Gh) (σ : L2.St) (env : Ev) (h : MH) (g : Gh) (H : Hp) : Prop where
  hat : HAt K w h g H
  fs : FStep gk Hk g H
  len : env.length = σ.length
  val : ∀ (i : Nat) (d : D), env[i]? = some (.v d) → ∃ x, σ[i]? = some (some x) ∧ Rep K w g H x d
  own : ∀ (i : Nat) (ds : List D), env[i]? = some (.own ds) → ∃ a, σ[i]? = some (some (.ref a)) ∧ OwnAt K w Hk g H a ds
  dist : ∀ (i j : Nat) (ds es : List D) (a : Addr), env[i]? = some (.own ds) → env[j]? = some (.own es) → σ[i]? = some (some (.ref a)) → σ[j]? = some (some (.ref a)) → i = j
/-- a result's value -/
def RR (Hk : Hp) (σ : L2.St) (env : Ev) (g : Gh) (H : Hp) (x : V) : R → Prop
  | .v d => Rep K w g H x d
  | .own ds => ∃ a, x = .ref a ∧ OwnAt K w Hk g H a ds ∧ ∀ (i : Nat) (es : List D), env[i]? = some (.own es) → σ[i]? ≠ some (some (.ref a))
/-- an exception's -/
def XR (mg : Str → Option Value) (g : Gh) (H : Hp) (x : Xc) (cls : Value) (d : Option Addr) : Prop :=
  mg x.cls = some cls ∧ ∃ dx vs, d = some dx ∧ g.Fz dx ∧ H dx = some (.xd (x.ks.zip vs)) ∧ Reps K w g H vs x.ds
/-- what is to hold behind -/
def post {α : Type} (mg : Str → Option Value) (W : WX) (Hk : Hp) (gk : Gh) (σ : L2.St) (g : Gh) (H : Hp) (r : Rs α) (C : α → Ev → MH → Gh → Hp → Prop) : Prop := match r with
  | .ok a env' h' => ∀ g' H', Step g H g' H' → At K w Hk gk σ env' h' g' H' → C a env' h' g' H'
  | .err x env' h' => ∀ g' H' cls d, Step g H g' H' → At K w Hk gk σ env' h' g' H' → XR K w mg g' H' x cls d → W cls d σ H'
  | .no => False
end
section
variable {K : PySem.W.Frag} {w : World} {mg : Str → Option Value} {W : WX} {Hk : Hp} {gk : Gh} {σ : L2.St} {g g1 g' : Gh} {H H1 H' : Hp} {env : Ev} {h h' : MH}
theorem post.step {α : Type} {r : Rs α} {C : α → Ev → MH → Gh → Hp → Prop} (s : Step g H g1 H1) (p : post K w mg W Hk gk σ g H r C) : post K w mg W Hk gk σ g1 H1 r C := by
  cases r with
  | ok a e h => exact fun g' H' s' x => p g' H' (s.trans s') x
  | err x e h => exact fun g' H' c d s' a q => p g' H' c d (s.trans s') a q
  | no => exact p
theorem post.bind {α β : Type} {r : Rs α} {f : α → Ev → MH → Rs β} {C : β → Ev → MH → Gh → Hp → Prop} (p : post K w mg W Hk gk σ g H (r.bind f) C) :
    post K w mg W Hk gk σ g H r (fun a e h g' H' => post K w mg W Hk gk σ g' H' (f a e h) C) := by
  cases r with
  | ok a e h => exact fun g' H' s' _ => post.step s' p
  | err x e h => exact p
  | no => exact p
theorem post.imp {α : Type} {r : Rs α} {C C' : α → Ev → MH → Gh → Hp → Prop} (p : post K w mg W Hk gk σ g H r C) (h : ∀ a e h' g' H', Step g H g' H' → At K w Hk gk σ e h' g' H' → C a e h' g' H' → C' a e h' g' H') : post K w mg W Hk gk σ g H r C' := by
  cases r with
  | ok a e h' => exact fun g' H' s' q => h a e h' g' H' s' q (p g' H' s' q)
  | err x e h => exact p
  | no => exact p
theorem ORep.ne {a : Addr} {o : MO} (h : ORep K w g H a o) : H a ≠ none := by
  cases o with
  | lst ds => obtain ⟨vs, h1, _⟩ := h; rw [h1]; exact fun z => nomatch z
theorem ORep.step (s : Step g H g' H') {a : Addr} {o : MO} (e : ∀ u, H a = some u → H' a = some u) (h : ORep K w g H a o) : ORep K w g' H' a o := by
  cases o with
  | lst ds =>
    obtain ⟨vs, h1, h2⟩ := h
    exact ⟨vs, e _ h1, h2.step s⟩
theorem HAt.ρsome (x : HAt K w h g H) {n : Nat} (hn : n < g.top) : H (g.ρ n) ≠ none := by
  have hl : n < h.length := by rw [← x.top]; exact hn
  exact (x.obj n _ (List.getElem?_eq_getElem hl)).1.ne
theorem FStep.refl (x : HAt K w h g H) : FStep g H g H := ⟨Step.refl g H, fun _ _ e _ => e, fun n h1 h2 => absurd h2 (Nat.not_lt_of_le h1), fun _ f => .inl f⟩
/-- where the heap at the entry had something, there is something -/
theorem FStep.back (s : FStep gk Hk g H) (x : HAt K w h g H) {a : Addr} (e : H a = none) : Hk a = none := by
  cases q : Hk a with
  | none => rfl
  | some o =>
    by_cases hn : ∃ n, n < gk.top ∧ gk.ρ n = a
    · obtain ⟨n, hn, e2⟩ := hn
      have := x.ρsome (Nat.lt_of_lt_of_le hn s.top)
      rw [s.ρ n hn, e2] at this
      exact absurd e this
    · have := s.keep a o q fun n hn' e' => hn ⟨n, hn', e'⟩
      rw [this] at e; cases e
theorem FStep.trans (s : FStep gk Hk g H) (x : HAt K w h g H) (t : FStep g H g' H') : FStep gk Hk g' H' where
  toStep := s.toStep.trans t.toStep
  keep := fun a o e n => t.keep a o (s.keep a o e n) fun m hm q => by
    by_cases hk : m < gk.top
    · exact n m hk (by rw [← s.ρ m hk]; exact q)
    · have := s.newρ m (Nat.le_of_not_lt hk) hm
      rw [q, e] at this; cases this
  newρ := fun n h1 h2 => by
    by_cases hk : n < g.top
    · rw [t.ρ n hk]; exact s.newρ n h1 hk
    · exact s.back x (t.newρ n (Nat.le_of_not_lt hk) h2)
  newF := fun a f => by
    rcases t.newF a f with f | f
    · exact s.newF a f
    · exact .inr (s.back x f)
theorem OwnAt.fstep {a : Addr} {ds : List D} (o : OwnAt K w Hk g H a ds) (t : FStep g H g' H') : OwnAt K w Hk g' H' a ds := by
  obtain ⟨⟨vs, h3, h4⟩, nf, nρ, nk⟩ := o
  refine ⟨⟨vs, t.keep _ _ h3 nρ, h4.step t.toStep⟩, fun f => ?_, fun n hn q => ?_, nk⟩
  · rcases t.newF _ f with f | f
    · exact nf f
    · rw [h3] at f; cases f
  · by_cases hk : n < g.top
    · rw [t.ρ n hk] at q; exact nρ n hk q
    · have := t.newρ n (Nat.le_of_not_lt hk) hn
      rw [q, h3] at this; cases this
theorem At.fstep (a : At K w Hk gk σ env h g H) (t : FStep g H g' H') (x : HAt K w h' g' H') : At K w Hk gk σ env h' g' H' where
  hat := x
  fs := a.fs.trans a.hat t
  len := a.len
  val := fun i d e => by
    obtain ⟨x, h1, h2⟩ := a.val i d e
    exact ⟨x, h1, h2.step t.toStep⟩
  own := fun i ds e => by
    obtain ⟨x, h1, h2⟩ := a.own i ds e
    exact ⟨x, h1, h2.fstep t⟩
  dist := a.dist
/-- nothing but new objects: all that stood stands -/
structure Grow (g : Gh) (H : Hp) (g' : Gh) (H' : Hp) : Prop where
  ext : ∀ a o, H a = some o → H' a = some o
  fz : ∀ a, g.Fz a → g'.Fz a
  fn : ∀ a, g'.Fz a → g.Fz a ∨ H a = none
  fh : ∀ a, g'.Fz a → H' a ≠ none
  ρ : g'.ρ = g.ρ
  top : g'.top = g.top
theorem Grow.refl (x : HAt K w h g H) : Grow g H g H := ⟨fun _ _ e => e, fun _ h => h, fun _ h => .inl h, x.fz, rfl, rfl⟩
theorem Grow.fstep (gr : Grow g H g' H') (x : HAt K w h g H) : FStep g H g' H' where
  fz := gr.fz
  st := fun a f => by
    cases e : H a with
    | none => exact absurd e (x.fz a f)
    | some o => rw [gr.ext a o e]
  top := by rw [gr.top]; exact Nat.le_refl _
  ρ := fun n _ => by rw [gr.ρ]
  keep := fun a o e _ => gr.ext a o e
  newρ := fun n h1 h2 => by rw [gr.top] at h2; exact absurd h2 (Nat.not_lt_of_le h1)
  newF := gr.fn
theorem Grow.hat (gr : Grow g H g' H') (x : HAt K w h g H) : HAt K w h g' H' where
  top := gr.top.trans x.top
  fz := gr.fh
  obj := fun n o e => by
    obtain ⟨h1, h2⟩ := x.obj n o e
    refine ⟨by rw [gr.ρ]; exact ORep.step (gr.fstep x).toStep (fun u q => gr.ext _ u q) h1, fun f => ?_⟩
    rw [gr.ρ] at f
    rcases gr.fn _ f with f | f
    · exact h2 f
    · exact h1.ne f
  inj := by rw [gr.ρ, gr.top]; exact x.inj
theorem Grow.at (gr : Grow g H g' H') (a : At K w Hk gk σ env h g H) : At K w Hk gk σ env h g' H' := a.fstep (gr.fstep a.hat) (gr.hat a.hat)
theorem Grow.trans {g2 : Gh} {H2 : Hp} (a : Grow g H g' H') (b : Grow g' H' g2 H2) : Grow g H g2 H2 where
  ext := fun x o e => b.ext x o (a.ext x o e)
  fz := fun x f => b.fz x (a.fz x f)
  fn := fun x f => by
    rcases b.fn x f with f | f
    · exact a.fn x f
    · cases e : H x with
      | none => exact .inr rfl
      | some o => rw [a.ext x o e] at f; cases f
  fh := b.fh
  ρ := b.ρ.trans a.ρ
  top := b.top.trans a.top
/-- g with the address x frozen -/
def Gh.fr (g : Gh) (x : Addr) : Gh := ⟨fun b => g.Fz b ∨ b = x, g.ρ, g.top⟩
/-- a new object that is frozen at once -/
theorem grow_fr (x : HAt K w h g H) {p : Addr} {o : HO} (n : H p = none) : Grow g H (g.fr p) (upd H p o) where
  ext := fun a u e => by rw [upd_ne (ne_of_none e n)]; exact e
  fz := fun a f => .inl f
  fn := fun a f => by
    rcases f with f | rfl
    · exact .inl f
    · exact .inr n
  fh := fun a f => by
    rcases f with f | rfl
    · by_cases e : a = p
      · subst e; rw [upd_same]; exact fun z => nomatch z
      · rw [upd_ne e]; exact x.fz a f
    · rw [upd_same]; exact fun z => nomatch z
  ρ := rfl
  top := rfl
/-- a new object that is not frozen -/
theorem grow_new (x : HAt K w h g H) {p : Addr} {o : HO} (n : H p = none) : Grow g H g (upd H p o) where
  ext := fun a u e => by rw [upd_ne (ne_of_none e n)]; exact e
  fz := fun a f => f
  fn := fun a f => .inl f
  fh := fun a f => by
    by_cases e : a = p
    · subst e; rw [upd_same]; exact fun z => nomatch z
    · rw [upd_ne e]; exact x.fz a f
  ρ := rfl
  top := rfl
/-- an address where nothing was tracked belongs to nobody -/
theorem At.fresh (a : At K w Hk gk σ env h g H) {p : Addr} (n : H p = none) : Hk p = none ∧ (¬ g.Fz p) ∧ (∀ n, n < g.top → g.ρ n ≠ p) ∧ ∀ (i : Nat) (es : List D), env[i]? = some (.own es) → σ[i]? ≠ some (some (.ref p)) := by
  refine ⟨a.fs.back a.hat n, fun f => a.hat.fz p f n, fun m hm e => ?_, fun i es e q => ?_⟩
  · have := a.hat.ρsome hm
    rw [e] at this
    exact this n
  · obtain ⟨b, h1, h2⟩ := a.own i es e
    rw [q] at h1
    cases h1
    obtain ⟨vs, h3, _⟩ := h2.at_
    rw [n] at h3; cases h3
/-- what an operation hands back: data, or a list just made -/
def RN (K : PySem.W.Frag) (w : World) (H : Hp) (g' : Gh) (H' : Hp) (z : V) : R → Prop
  | .v d => Rep K w g' H' z d
  | .own ds => ∃ a vs, z = .ref a ∧ H a = none ∧ H' a = some (.lst vs) ∧ Reps K w g' H' vs ds ∧ ¬ g'.Fz a
theorem RN.rr {r : R} {z : V} (a : At K w Hk gk σ env h g H) (gr : Grow g H g' H') (q : RN K w H g' H' z r) : RR K w Hk σ env g' H' z r := by
  cases r with
  | v d => exact q
  | own ds =>
    obtain ⟨p, vs, e, n, e2, rs, nf⟩ := q
    obtain ⟨f1, f2, f3, f4⟩ := a.fresh n
    exact ⟨p, e, ⟨⟨vs, e2, rs⟩, nf, by rw [gr.ρ, gr.top]; exact f3, f1⟩, f4⟩

/-! ### slots -/
theorem At.unset (a : At K w Hk gk σ env h g H) (i : Nat) : At K w Hk gk σ (env.set i .un) h g H where
  hat := a.hat
  fs := a.fs
  len := by rw [List.length_set]; exact a.len
  val := fun j d e => by
    rw [List.getElem?_set] at e
    split at e
    · split at e <;> cases e
    · exact a.val j d e
  own := fun j d e => by
    rw [List.getElem?_set] at e
    split at e
    · split at e <;> cases e
    · exact a.own j d e
  dist := fun j k ds es b e1 e2 => by
    rw [List.getElem?_set] at e1 e2
    split at e1
    · split at e1 <;> cases e1
    · split at e2
      · split at e2 <;> cases e2
      · exact a.dist j k ds es b e1 e2
theorem At.setv (a : At K w Hk gk σ env h g H) {i : Nat} {x : V} {d : D} (e : σ[i]? = some (some x)) (r : Rep K w g H x d) : At K w Hk gk σ (env.set i (.v d)) h g H where
  hat := a.hat
  fs := a.fs
  len := by rw [List.length_set]; exact a.len
  val := fun j d' e' => by
    rw [List.getElem?_set] at e'
    split at e'
    · rename_i hij
      subst hij
      split at e'
      · cases e'; exact ⟨x, e, r⟩
      · cases e'
    · exact a.val j d' e'
  own := fun j d e => by
    rw [List.getElem?_set] at e
    split at e
    · split at e <;> cases e
    · exact a.own j d e
  dist := fun j k ds es b e1 e2 => by
    rw [List.getElem?_set] at e1 e2
    split at e1
    · split at e1 <;> cases e1
    · split at e2
      · split at e2 <;> cases e2
      · exact a.dist j k ds es b e1 e2
/-- a list that only one holds, frozen -/
theorem At.freeze (a : At K w Hk gk σ env h g H) {x : Addr} {ds : List D} (o : OwnAt K w Hk g H x ds) (n : ∀ (i : Nat) (es : List D), env[i]? = some (.own es) → σ[i]? ≠ some (some (.ref x))) :
    At K w Hk gk σ env h (g.fr x) H ∧ Step g H (g.fr x) H ∧ Rep K w (g.fr x) H (.ref x) (.lst ds) := by
  have s : Step g H (g.fr x) H := ⟨fun b f => .inl f, fun _ _ => rfl, Nat.le_refl _, fun _ _ => rfl⟩
  obtain ⟨vs, h3, h4⟩ := o.at_
  refine ⟨⟨⟨a.hat.top, fun b f => ?_, fun m ob e => ?_, a.hat.inj⟩, ⟨a.fs.toStep.trans s, a.fs.keep, a.fs.newρ, fun b f => ?_⟩, a.len, fun i d e => ?_, fun i es e => ?_, a.dist⟩, s, ?_⟩
  · rcases f with f | rfl
    · exact a.hat.fz b f
    · rw [h3]; exact fun z => nomatch z
  · obtain ⟨h1, h2⟩ := a.hat.obj m ob e
    refine ⟨ORep.step s (fun _ q => q) h1, fun f => ?_⟩
    rcases f with f | f
    · exact h2 f
    · exact o.nρ m (by rw [a.hat.top]; exact (List.getElem?_eq_some_iff.mp e).1) f
  · rcases f with f | rfl
    · exact a.fs.newF b f
    · exact .inr o.nk
  · obtain ⟨y, h1, h2⟩ := a.val i d e
    exact ⟨y, h1, h2.step s⟩
  · obtain ⟨y, h1, h2⟩ := a.own i es e
    obtain ⟨us, h5, h6⟩ := h2.at_
    refine ⟨y, h1, ⟨us, h5, h6.step s⟩, fun f => ?_, h2.nρ, h2.nk⟩
    rcases f with f | f
    · exact h2.nf f
    · rw [f] at h1; exact n i es e h1
  · simp only [Rep]
    exact ⟨x, vs, rfl, .inl ⟨.inr rfl, .inl h3⟩, h4.step s⟩
/-- a name's own list frozen, the name holds it still -/
theorem At.freezeAt (a : At K w Hk gk σ env h g H) {i : Nat} {ds : List D} (e : env[i]? = some (.own ds)) :
    ∃ x, σ[i]? = some (some (.ref x)) ∧ At K w Hk gk σ (env.set i (.v (.lst ds))) h (g.fr x) H ∧ Step g H (g.fr x) H ∧ Rep K w (g.fr x) H (.ref x) (.lst ds) := by
  obtain ⟨x, h1, h2⟩ := a.own i ds e
  have hi : i < env.length := (List.getElem?_eq_some_iff.mp e).1
  obtain ⟨b1, b2, b3⟩ := (a.unset i).freeze h2 fun j es e' q => by
    rw [List.getElem?_set] at e'
    by_cases hij : i = j
    · rw [if_pos hij, if_pos hi] at e'; cases e'
    · rw [if_neg hij] at e'
      exact hij (a.dist i j ds es x e e' h1 q)
  refine ⟨x, h1, ?_, b2, b3⟩
  have := b1.setv h1 b3
  rw [List.set_set] at this
  exact this
def R.sl : R → Sl
  | .v d => .v d
  | .own ds => .own ds
/-- a name is stored -/
theorem At.asg (a : At K w Hk gk σ env h g H) {x : V} {r : R} (i : Nat) (q : RR K w Hk σ env g H x r) : At K w Hk gk (σ.set i (some x)) (env.set i r.sl) h g H where
  hat := a.hat
  fs := a.fs
  len := by rw [List.length_set, List.length_set]; exact a.len
  val := fun j d e => by
    rw [List.getElem?_set] at e ⊢
    by_cases hij : i = j
    · subst hij
      rw [if_pos rfl] at e ⊢
      by_cases hi : i < env.length
      · rw [if_pos hi] at e
        rw [if_pos (by rw [← a.len]; exact hi)]
        cases r with
        | v d' => cases e; exact ⟨x, rfl, q⟩
        | own ds => cases e
      · rw [if_neg hi] at e; cases e
    · rw [if_neg hij] at e ⊢
      exact a.val j d e
  own := fun j d e => by
    rw [List.getElem?_set] at e ⊢
    by_cases hij : i = j
    · subst hij
      rw [if_pos rfl] at e ⊢
      by_cases hi : i < env.length
      · rw [if_pos hi] at e
        rw [if_pos (by rw [← a.len]; exact hi)]
        cases r with
        | v d' => cases e
        | own ds =>
          cases e
          obtain ⟨p, rfl, o, _⟩ := q
          exact ⟨p, rfl, o⟩
      · rw [if_neg hi] at e; cases e
    · rw [if_neg hij] at e ⊢
      exact a.own j d e
  dist := fun j k ds es b e1 e2 e3 e4 => by
    rw [List.getElem?_set] at e1 e2 e3 e4
    by_cases hj : i = j
    · by_cases hk : i = k
      · exact hj.symm.trans hk
      · exfalso
        rw [if_pos hj] at e1 e3
        rw [if_neg hk] at e2 e4
        split at e1
        · split at e3
          · cases r with
            | v d' => cases e1
            | own ds' =>
              obtain ⟨p, rfl, o, n⟩ := q
              cases e3
              exact n k es e2 e4
          · cases e3
        · cases e1
    · by_cases hk : i = k
      · exfalso
        rw [if_neg hj] at e1 e3
        rw [if_pos hk] at e2 e4
        split at e2
        · split at e4
          · cases r with
            | v d' => cases e2
            | own ds' =>
              obtain ⟨p, rfl, o, n⟩ := q
              cases e4
              exact n j ds e1 e3
          · cases e4
        · cases e2
      · rw [if_neg hj] at e1 e3
        rw [if_neg hk] at e2 e4
        exact a.dist j k ds es b e1 e2 e3 e4
/-- a name's own list is changed -/
theorem At.mut (a : At K w Hk gk σ env h g H) {i : Nat} {x : Addr} {ds es : List D} {us : List V} (e : env[i]? = some (.own ds)) (e2 : σ[i]? = some (some (.ref x))) (r : Reps K w g H us es) :
    At K w Hk gk σ (env.set i (.own es)) h g (upd H x (.lst us)) ∧ Step g H g (upd H x (.lst us)) := by
  obtain ⟨x', h1, h2⟩ := a.own i ds e
  rw [e2] at h1
  cases h1
  have hi : i < env.length := (List.getElem?_eq_some_iff.mp e).1
  have s : Step g H g (upd H x (.lst us)) := ⟨fun _ f => f, fun b f => upd_ne fun z => h2.nf (by rw [← z]; exact f), Nat.le_refl _, fun _ _ => rfl⟩
  refine ⟨⟨⟨a.hat.top, fun b f => ?_, fun m ob e' => ?_, a.hat.inj⟩, ⟨a.fs.toStep.trans s, fun b o e' n => ?_, a.fs.newρ, a.fs.newF⟩, by rw [List.length_set]; exact a.len, fun j d e' => ?_, fun j d e' => ?_, fun j k d1 d2 b e1 e3 => ?_⟩, s⟩
  · rw [upd_ne (show b ≠ x from fun z => h2.nf (by rw [← z]; exact f))]
    exact a.hat.fz b f
  · obtain ⟨h3, h4⟩ := a.hat.obj m ob e'
    have hm : g.ρ m ≠ x := h2.nρ m (by rw [a.hat.top]; exact (List.getElem?_eq_some_iff.mp e').1)
    exact ⟨ORep.step s (fun u q => by rw [upd_ne hm]; exact q) h3, h4⟩
  · rw [upd_ne (show b ≠ x from fun z => by rw [z, h2.nk] at e'; cases e')]
    exact a.fs.keep b o e' n
  · rw [List.getElem?_set] at e'
    by_cases hij : i = j
    · rw [if_pos hij, if_pos hi] at e'; cases e'
    · rw [if_neg hij] at e'
      obtain ⟨y, h5, h6⟩ := a.val j d e'
      exact ⟨y, h5, h6.step s⟩
  · rw [List.getElem?_set] at e'
    by_cases hij : i = j
    · rw [if_pos hij, if_pos hi] at e'
      cases e'
      subst hij
      exact ⟨x, e2, ⟨us, upd_same, r.step s⟩, h2.nf, h2.nρ, h2.nk⟩
    · rw [if_neg hij] at e'
      obtain ⟨y, h5, h6⟩ := a.own j d e'
      obtain ⟨ws, h7, h8⟩ := h6.at_
      have hy : y ≠ x := fun z => hij (a.dist i j ds d x e e' e2 (by rw [h5, z]))
      exact ⟨y, h5, ⟨ws, by rw [upd_ne hy]; exact h7, h8.step s⟩, h6.nf, h6.nρ, h6.nk⟩
  · have fix : ∀ (m : Nat) (dd : List D), (env.set i (.own es))[m]? = some (.own dd) → ∃ d', env[m]? = some (.own d') := fun m dd q => by
      rw [List.getElem?_set] at q
      by_cases hm : i = m
      · subst hm; exact ⟨ds, e⟩
      · rw [if_neg hm] at q; exact ⟨dd, q⟩
    obtain ⟨d1', q1⟩ := fix j d1 e1
    obtain ⟨d2', q2⟩ := fix k d2 e3
    exact a.dist j k d1' d2' b q1 q2
/-- a shared list is changed -/
theorem At.mutLoc (a : At K w Hk gk σ env h g H) {n : Nat} {ds es : List D} {us : List V} (e : h[n]? = some (.lst ds)) (r : Reps K w g H us es) :
    At K w Hk gk σ env (h.set n (.lst es)) g (upd H (g.ρ n) (.lst us)) ∧ Step g H g (upd H (g.ρ n) (.lst us)) := by
  have hn : n < h.length := (List.getElem?_eq_some_iff.mp e).1
  have hn' : n < g.top := by rw [a.hat.top]; exact hn
  obtain ⟨_, nf⟩ := a.hat.obj n _ e
  have s : Step g H g (upd H (g.ρ n) (.lst us)) := ⟨fun _ f => f, fun b f => upd_ne fun z => nf (by rw [← z]; exact f), Nat.le_refl _, fun _ _ => rfl⟩
  refine ⟨⟨⟨by rw [List.length_set]; exact a.hat.top, fun b f => ?_, fun m ob e' => ?_, a.hat.inj⟩, ⟨a.fs.toStep.trans s, fun b o e' q => ?_, a.fs.newρ, a.fs.newF⟩, a.len, fun j d e' => ?_, fun j d e' => ?_, a.dist⟩, s⟩
  · rw [upd_ne (show b ≠ g.ρ n from fun z => nf (by rw [← z]; exact f))]
    exact a.hat.fz b f
  · rw [List.getElem?_set] at e'
    by_cases hm : n = m
    · rw [if_pos hm, if_pos hn] at e'
      cases e'
      subst hm
      exact ⟨⟨us, upd_same, r.step s⟩, nf⟩
    · rw [if_neg hm] at e'
      obtain ⟨h3, h4⟩ := a.hat.obj m ob e'
      have hml : m < g.top := by rw [a.hat.top]; exact (List.getElem?_eq_some_iff.mp e').1
      exact ⟨ORep.step s (fun u q => by rw [upd_ne fun z => hm (a.hat.inj _ _ hn' hml z.symm)]; exact q) h3, h4⟩
  · have : b ≠ g.ρ n := fun z => by
      by_cases hk : n < gk.top
      · exact q n hk (by rw [← a.fs.ρ n hk]; exact z.symm)
      · have := a.fs.newρ n (Nat.le_of_not_lt hk) hn'
        rw [← z, e'] at this; cases this
    rw [upd_ne this]
    exact a.fs.keep b o e' q
  · obtain ⟨y, h5, h6⟩ := a.val j d e'
    exact ⟨y, h5, h6.step s⟩
  · obtain ⟨y, h5, h6⟩ := a.own j d e'
    obtain ⟨ws, h7, h8⟩ := h6.at_
    exact ⟨y, h5, ⟨ws, by rw [upd_ne fun z => h6.nρ n hn' z.symm]; exact h7, h8.step s⟩, h6.nf, h6.nρ, h6.nk⟩
/-- a new shared list -/
theorem At.newLoc (a : At K w Hk gk σ env h g H) {p : Addr} {ds : List D} {us : List V} (n : H p = none) (r : Reps K w g H us ds) :
    ∃ g', g'.top = h.length + 1 ∧ g'.ρ h.length = p ∧ At K w Hk gk σ env (h ++ [.lst ds]) g' (upd H p (.lst us)) ∧ Step g H g' (upd H p (.lst us)) := by
  obtain ⟨f1, f2, f3, f4⟩ := a.fresh n
  have ht := a.hat.top
  refine ⟨⟨g.Fz, fun m => if m = h.length then p else g.ρ m, h.length + 1⟩, rfl, if_pos rfl, ?_⟩
  have hρ : ∀ m, m < g.top → (if m = h.length then p else g.ρ m) = g.ρ m := fun m hm => if_neg (by omega)
  have s : Step g H ⟨g.Fz, fun m => if m = h.length then p else g.ρ m, h.length + 1⟩ (upd H p (.lst us)) :=
    ⟨fun _ f => f, fun b f => upd_ne fun z => f2 (by rw [← z]; exact f), by show g.top ≤ h.length + 1; omega, fun m hm => hρ m hm⟩
  have kp : ∀ b u, H b = some u → upd H p (.lst us) b = some u := fun b u e => by rw [upd_ne (ne_of_none e n)]; exact e
  refine ⟨⟨⟨by rw [List.length_append]; rfl, fun b f => ?_, fun m ob e' => ?_, fun m k hm hk e' => ?_⟩, ⟨a.fs.toStep.trans s, fun b o e' q => kp b o (a.fs.keep b o e' q), fun m h1 h2 => ?_, fun b f => a.fs.newF b f⟩, a.len, fun j d e' => ?_, fun j d e' => ?_, a.dist⟩, s⟩
  · rw [upd_ne (show b ≠ p from fun z => f2 (by rw [← z]; exact f))]; exact a.hat.fz b f
  · by_cases hm : m < h.length
    · rw [List.getElem?_append_left hm] at e'
      obtain ⟨h3, h4⟩ := a.hat.obj m ob e'
      have e2 := hρ m (by omega)
      show ORep K w _ _ (if m = h.length then p else g.ρ m) ob ∧ ¬ g.Fz (if m = h.length then p else g.ρ m)
      rw [e2]
      exact ⟨ORep.step s (fun u q => kp _ u q) h3, h4⟩
    · have hm2 : m = h.length := by
        have := (List.getElem?_eq_some_iff.mp e').1
        rw [List.length_append] at this
        simp at this
        omega
      subst hm2
      rw [List.getElem?_append_right (Nat.le_refl _)] at e'
      simp at e'
      subst e'
      show ORep K w _ _ (if h.length = h.length then p else g.ρ h.length) _ ∧ ¬ g.Fz (if h.length = h.length then p else g.ρ h.length)
      rw [if_pos rfl]
      exact ⟨⟨us, upd_same, r.step s⟩, f2⟩
  · have hm : m < h.length + 1 := hm
    have hk : k < h.length + 1 := hk
    have e' : (if m = h.length then p else g.ρ m) = (if k = h.length then p else g.ρ k) := e'
    by_cases h1 : m = h.length
    · by_cases h2 : k = h.length
      · omega
      · rw [if_pos h1, if_neg h2] at e'
        exact absurd e'.symm (f3 k (by omega))
    · by_cases h2 : k = h.length
      · rw [if_neg h1, if_pos h2] at e'
        exact absurd e' (f3 m (by omega))
      · rw [if_neg h1, if_neg h2] at e'
        exact a.hat.inj m k (by omega) (by omega) e'
  · have h2 : m < h.length + 1 := h2
    show Hk (if m = h.length then p else g.ρ m) = none
    by_cases h3 : m = h.length
    · rw [if_pos h3]; exact f1
    · rw [if_neg h3]; exact a.fs.newρ m h1 (by omega)
  · obtain ⟨y, h5, h6⟩ := a.val j d e'
    exact ⟨y, h5, h6.step s⟩
  · obtain ⟨y, h5, h6⟩ := a.own j d e'
    obtain ⟨ws, h7, h8⟩ := h6.at_
    refine ⟨y, h5, ⟨ws, kp _ _ h7, h8.step s⟩, h6.nf, fun m hm => ?_, h6.nk⟩
    have hm : m < h.length + 1 := hm
    show (if m = h.length then p else g.ρ m) ≠ y
    by_cases h3 : m = h.length
    · rw [if_pos h3]; exact fun z => by rw [← z, n] at h7; cases h7
    · rw [if_neg h3]; exact h6.nρ m (by omega)
end
end Mi
set_option Elab.async false
set_option linter.all false
set_option maxRecDepth 100000
open PySem PySem.Spec PyProof.Rows L2
namespace Mi

/-! ## judgements -/
structure Fr where
  P : Program
  w : World
  K : PySem.W.Frag
  mg : Str → Option Value
  base : Heap
  N : List Str
  sc : Scope
  k : Nat
  fn : Str → Bool
structure Good (F : Fr) (X : Cx) : Prop where
  prog : X.prog = F.P
  w : X.w = F.w
  K : X.K = F.K
  mg : X.mg = F.mg
  base : X.base = F.base
  N : X.N = F.N
  nd : X.N.Nodup
  sc : X.env.scope = F.sc
  kf : F.sc.kind = .function
  room : Room F.k X.A
  calm : X.calm = true
  fn : ∀ x, F.fn x = true → X.fn x = true
abbrev ME := Ev → MH → Rs R
abbrev MV := Ev → MH → Rs D
abbrev MB := Ev → MH → Rs Bool
abbrev MA := Ev → MH → Rs (List D)
section
variable (X : Cx)
def uE (e : Expr) : TE := fun σ H Q => ∀ pins s, Inv X pins σ H s → wpAny (model X.prog X.w) X.A (eval e X.env) (EP X pins σ Q) X.xe s
def uT (e : Expr) : TT := fun σ H Q => ∀ pins s, Inv X pins σ H s → wpAny (model X.prog X.w) X.A (isTrue e X.env (eval e X.env)) (TP X pins σ Q) X.xe s
def uW (e : Expr) : TT := fun σ H Q => ∀ whole pins s, Inv X pins σ H s → wpAny (model X.prog X.w) X.A (isTrue e X.env whole) (TP X pins σ Q) X.xe s
def uA (es : List Expr) : TA := fun σ H Q => ∀ pos pins s, Inv X pins σ H s → wpAny (model X.prog X.w) X.A (spliced (backTo pos (starEach es X.env))) (AP X pins σ Q) X.xe s
def uS (st : Stmt) : TS := fun D σ H => ∀ pins s, Inv X pins σ H s → wpAny (model X.prog X.w) X.A (exec st X.env) (SP X pins D) X.xe s
def uSs (st : List Stmt) : TS := fun D σ H => ∀ pins s, Inv X pins σ H s → wpAny (model X.prog X.w) X.A (execs st X.env) (SP X pins D) X.xe s
def uOp (f : Value → Value → Sem Value) : R2 := fun x y H Q => ∀ pins s σ v u, Inv X pins σ H s → RelV x v → RelV y u → wpAny (model X.prog X.w) X.A (f v u) (EP X pins σ Q) X.xe s
def uUn (f : Value → Sem Value) : V → Hp → VK → Prop := fun x H Q => ∀ pins s σ v, Inv X pins σ H s → RelV x v → wpAny (model X.prog X.w) X.A (f v) (EP X pins σ Q) X.xe s
def uCl (f : Value) : List V → Hp → VK → Prop := fun xs H Q => ∀ pins s σ us, Inv X pins σ H s → Vals xs us → wpAny (model X.prog X.w) X.A (call f us) (EP X pins σ Q) X.xe s
def uMt (id : String) : V → List V → Hp → VK → Prop := fun x xs H Q => ∀ pins s σ v us, Inv X pins σ H s → RelV x v → Vals xs us → wpAny (model X.prog X.w) X.A (call (.builtin id) (v :: us)) (EP X pins σ Q) X.xe s
def uIx : R2 := fun x y H Q => ∀ (value slice : Expr) pins s σ v u, Inv X pins σ H s → RelV x v → RelV y u → subscripted slice false v u = operate [v, u] (getItem v u) → wpAny (model X.prog X.w) X.A (subscriptTail value slice v u) (EP X pins σ Q) X.xe s
variable {X}
theorem pe_u {e : Expr} : PE X e (uE X e) := ⟨fun pins s σ H Q I h => h pins s I⟩
theorem pt_u {e : Expr} : PT X e (uT X e) := ⟨fun pins s σ H Q I h => h pins s I⟩
theorem pw_u {e : Expr} : PW X e (uW X e) := ⟨fun whole pins s σ H Q I h => h whole pins s I⟩
theorem pa_u {es : List Expr} : PA X es (uA X es) := ⟨fun pos pins s σ H Q I h => h pos pins s I⟩
theorem ps_u {st : Stmt} : PS X st (uS X st) := ⟨fun pins s σ H D I h => h pins s I⟩
theorem pss_u {st : List Stmt} : PSs X st (uSs X st) := ⟨fun pins s σ H D I h => h pins s I⟩
theorem op_u {f : Value → Value → Sem Value} : OpR X f (uOp X f) := fun pins s σ H x y v u Q I rx ry h => h pins s σ v u I rx ry
theorem un_u {f : Value → Sem Value} : UnR X f (uUn X f) := fun pins s σ H x v Q I rx h => h pins s σ v I rx
theorem cl_u {f : Value} : CallR X f (uCl X f) := fun pins s σ H xs us Q I r h => h pins s σ us I r
theorem mt_u {id : String} : MtR X id (uMt X id) := fun pins s σ H x xs v us Q I rx r h => h pins s σ v us I rx r
theorem ix_u : IxR X (uIx X) := fun value slice pins s σ H x y v u Q I rx ry h e => h value slice pins s σ v u I rx ry e
theorem uE_of {e : Expr} {t : TE} (h : PE X e t) {σ : L2.St} {H : Hp} {Q : VK} (q : t σ H Q) : uE X e σ H Q := fun pins s I => h.run pins s σ H Q I q
theorem uT_of {e : Expr} {t : TT} (h : PT X e t) {σ : L2.St} {H : Hp} {Q : Bool → Hp → Prop} (q : t σ H Q) : uT X e σ H Q := fun pins s I => h.run pins s σ H Q I q
theorem uW_of {e : Expr} {t : TT} (h : PW X e t) {σ : L2.St} {H : Hp} {Q : Bool → Hp → Prop} (q : t σ H Q) : uW X e σ H Q := fun whole pins s I => h.run whole pins s σ H Q I q
theorem uA_of {es : List Expr} {t : TA} (h : PA X es t) {σ : L2.St} {H : Hp} {Q : List V → Hp → Prop} (q : t σ H Q) : uA X es σ H Q := fun pos pins s I => h.run pos pins s σ H Q I q
theorem uS_of {st : Stmt} {t : TS} (h : PS X st t) {σ : L2.St} {H : Hp} {D : Ends} (q : t D σ H) : uS X st D σ H := fun pins s I => h.run pins s σ H D I q
theorem uSs_of {st : List Stmt} {t : TS} (h : PSs X st t) {σ : L2.St} {H : Hp} {D : Ends} (q : t D σ H) : uSs X st D σ H := fun pins s I => h.run pins s σ H D I q
theorem uOp_of {f : Value → Value → Sem Value} {r : R2} (h : OpR X f r) {x y : V} {H : Hp} {Q : VK} (q : r x y H Q) : uOp X f x y H Q := fun pins s σ v u I rx ry => h pins s σ H x y v u Q I rx ry q
theorem uUn_of {f : Value → Sem Value} {r : V → Hp → VK → Prop} (h : UnR X f r) {x : V} {H : Hp} {Q : VK} (q : r x H Q) : uUn X f x H Q := fun pins s σ v I rx => h pins s σ H x v Q I rx q
theorem uCl_of {f : Value} {r : List V → Hp → VK → Prop} (h : CallR X f r) {xs : List V} {H : Hp} {Q : VK} (q : r xs H Q) : uCl X f xs H Q := fun pins s σ us I r' => h pins s σ H xs us Q I r' q
theorem uMt_of {id : String} {r : V → List V → Hp → VK → Prop} (h : MtR X id r) {x : V} {xs : List V} {H : Hp} {Q : VK} (q : r x xs H Q) : uMt X id x xs H Q := fun pins s σ v us I rx r' => h pins s σ H x xs v us Q I rx r' q
theorem uIx_of {r : R2} (h : IxR X r) {x y : V} {H : Hp} {Q : VK} (q : r x y H Q) : uIx X x y H Q := fun value slice pins s σ v u I rx ry e => h value slice pins s σ H x y v u Q I rx ry q e
end
def R.d : R → D
  | .v d => d
  | .own ds => .lst ds
def fz (m : ME) : MV := fun env h => (m env h).bind fun r env h => .ok r.d env h
section
variable (F : Fr)
def SE (e : Expr) (m : ME) : Prop := ∀ X W, Good F X → Takes X W → ∀ Hk gk σ env h g H (Q : VK), At X.K X.w Hk gk σ env h g H →
  post X.K X.w X.mg W Hk gk σ g H (m env h) (fun r env' _ g' H' => ∀ x, RR X.K X.w Hk σ env' g' H' x r → Q x H') → uE X e σ H Q
def SV (e : Expr) (m : MV) : Prop := ∀ X W, Good F X → Takes X W → ∀ Hk gk σ env h g H (Q : VK), At X.K X.w Hk gk σ env h g H →
  post X.K X.w X.mg W Hk gk σ g H (m env h) (fun d _ _ g' H' => ∀ x, Rep X.K X.w g' H' x d → Q x H') → uE X e σ H Q
def SB (e : Expr) (m : MB) : Prop := ∀ X W, Good F X → Takes X W → ∀ Hk gk σ env h g H (Q : Bool → Hp → Prop), At X.K X.w Hk gk σ env h g H →
  post X.K X.w X.mg W Hk gk σ g H (m env h) (fun b _ _ _ H' => Q b H') → uT X e σ H Q
def SW (e : Expr) (m : MB) : Prop := ∀ X W, Good F X → Takes X W → ∀ Hk gk σ env h g H (Q : Bool → Hp → Prop), At X.K X.w Hk gk σ env h g H →
  post X.K X.w X.mg W Hk gk σ g H (m env h) (fun b _ _ _ H' => Q b H') → uW X e σ H Q
structure SA (es : List Expr) (m : MA) : Prop where
  run : ∀ X W, Good F X → Takes X W → ∀ Hk gk σ env h g H (Q : List V → Hp → Prop), At X.K X.w Hk gk σ env h g H →
    post X.K X.w X.mg W Hk gk σ g H (m env h) (fun ds _ _ g' H' => ∀ xs, Reps X.K X.w g' H' xs ds → Q xs H') → uA X es σ H Q
  len : ∀ env h ds env' h', m env h = .ok ds env' h' → ds.length = es.length
end
section
variable {F : Fr} {e a b c : Expr} {es : List Expr} {pos : Pos} {X : Cx} {W : WX} {Hk : Hp} {gk g : Gh} {σ : L2.St} {env : Ev} {h : MH} {H : Hp}
theorem SE.sv {m : ME} (s : SE F e m) : SV F e (fz m) := fun X W gd tk Hk gk σ env h g H Q at_ p => by
  refine s X W gd tk Hk gk σ env h g H Q at_ ((post.bind p).imp fun r env' h' g' H' st a' q x rx => ?_)
  cases r with
  | v d => exact q g' H' (Step.refl _ _) a' x rx
  | own ds =>
    obtain ⟨y, rfl, o, n⟩ := rx
    obtain ⟨b1, b2, b3⟩ := a'.freeze o n
    exact q _ H' b2 b1 (.ref y) b3
theorem SV.go {m : MV} (s : SV F e m) (gd : Good F X) (tk : Takes X W) (at_ : At X.K X.w Hk gk σ env h g H) {β : Type} {f : D → Ev → MH → Rs β} {C : β → Ev → MH → Gh → Hp → Prop} {Q : VK} (p : post X.K X.w X.mg W Hk gk σ g H ((m env h).bind f) C)
    (k : ∀ d env1 h1 g1 H1 x, Step g H g1 H1 → At X.K X.w Hk gk σ env1 h1 g1 H1 → Rep X.K X.w g1 H1 x d → post X.K X.w X.mg W Hk gk σ g1 H1 (f d env1 h1) C → Q x H1) : uE X e σ H Q :=
  s X W gd tk Hk gk σ env h g H Q at_ ((post.bind p).imp fun d env1 h1 g1 H1 st a1 q x rx => k d env1 h1 g1 H1 x st a1 rx q)
theorem SE.go {m : ME} (s : SE F e m) (gd : Good F X) (tk : Takes X W) (at_ : At X.K X.w Hk gk σ env h g H) {β : Type} {f : R → Ev → MH → Rs β} {C : β → Ev → MH → Gh → Hp → Prop} {Q : VK} (p : post X.K X.w X.mg W Hk gk σ g H ((m env h).bind f) C)
    (k : ∀ r env1 h1 g1 H1 x, Step g H g1 H1 → At X.K X.w Hk gk σ env1 h1 g1 H1 → RR X.K X.w Hk σ env1 g1 H1 x r → post X.K X.w X.mg W Hk gk σ g1 H1 (f r env1 h1) C → Q x H1) : uE X e σ H Q :=
  s X W gd tk Hk gk σ env h g H Q at_ ((post.bind p).imp fun d env1 h1 g1 H1 st a1 q x rx => k d env1 h1 g1 H1 x st a1 rx q)
theorem SB.go {m : MB} (s : SB F e m) (gd : Good F X) (tk : Takes X W) (at_ : At X.K X.w Hk gk σ env h g H) {β : Type} {f : Bool → Ev → MH → Rs β} {C : β → Ev → MH → Gh → Hp → Prop} {Q : Bool → Hp → Prop} (p : post X.K X.w X.mg W Hk gk σ g H ((m env h).bind f) C)
    (k : ∀ b env1 h1 g1 H1, Step g H g1 H1 → At X.K X.w Hk gk σ env1 h1 g1 H1 → post X.K X.w X.mg W Hk gk σ g1 H1 (f b env1 h1) C → Q b H1) : uT X e σ H Q :=
  s X W gd tk Hk gk σ env h g H Q at_ ((post.bind p).imp fun d env1 h1 g1 H1 st a1 q => k d env1 h1 g1 H1 st a1 q)
theorem SW.go {m : MB} (s : SW F e m) (gd : Good F X) (tk : Takes X W) (at_ : At X.K X.w Hk gk σ env h g H) {β : Type} {f : Bool → Ev → MH → Rs β} {C : β → Ev → MH → Gh → Hp → Prop} {Q : Bool → Hp → Prop} (p : post X.K X.w X.mg W Hk gk σ g H ((m env h).bind f) C)
    (k : ∀ b env1 h1 g1 H1, Step g H g1 H1 → At X.K X.w Hk gk σ env1 h1 g1 H1 → post X.K X.w X.mg W Hk gk σ g1 H1 (f b env1 h1) C → Q b H1) : uW X e σ H Q :=
  s X W gd tk Hk gk σ env h g H Q at_ ((post.bind p).imp fun d env1 h1 g1 H1 st a1 q => k d env1 h1 g1 H1 st a1 q)
theorem SA.go {m : MA} (s : SA F es m) (gd : Good F X) (tk : Takes X W) (at_ : At X.K X.w Hk gk σ env h g H) {β : Type} {f : List D → Ev → MH → Rs β} {C : β → Ev → MH → Gh → Hp → Prop} {Q : List V → Hp → Prop} (p : post X.K X.w X.mg W Hk gk σ g H ((m env h).bind f) C)
    (k : ∀ ds env1 h1 g1 H1 xs, Step g H g1 H1 → At X.K X.w Hk gk σ env1 h1 g1 H1 → Reps X.K X.w g1 H1 xs ds → post X.K X.w X.mg W Hk gk σ g1 H1 (f ds env1 h1) C → Q xs H1) : uA X es σ H Q :=
  s.run X W gd tk Hk gk σ env h g H Q at_ ((post.bind p).imp fun d env1 h1 g1 H1 st a1 q x rx => k d env1 h1 g1 H1 x st a1 rx q)

/-! ## names and constants -/
def eC (d : D) : ME := fun env h => .ok (.v d) env h
def eVar (i : Nat) : ME := fun env h => match env[i]? with
  | some (.v d) => .ok (.v d) env h
  | some (.own ds) => .ok (.v (.lst ds)) (env.set i (.v (.lst ds))) h
  | _ => .no
theorem se_const {v : V} {d : D} (hp : ∀ X : Cx, PE X e (tC v)) (r : ∀ K w g H, Rep K w g H v d) : SE F e (eC d) := fun X W gd tk Hk gk σ env h g H Q at_ p =>
  uE_of (hp X) (p g H (Step.refl _ _) at_ v (r _ _ _ _))
theorem se_int {i : Int} {j : Nat} : SE F (.Constant (.int i) j pos) (eC (.int i)) := se_const (fun _ => pe_int) fun _ _ _ _ => by simp [Rep]
theorem se_bl {b : Bool} {j : Nat} : SE F (.Constant (.bool b) j pos) (eC (.bl b)) := se_const (fun _ => pe_bl) fun _ _ _ _ => by simp [Rep]
theorem se_non {j : Nat} : SE F (.Constant .none j pos) (eC .non) := se_const (fun _ => pe_non) fun _ _ _ _ => by simp [Rep]
theorem se_str {x : Str} {s : List Nat} {j : Nat} (hx : x = S s := by decide +kernel) : SE F (.Constant (.str x) j pos) (eC (.str s)) := se_const (fun _ => pe_str) fun _ _ _ _ => by simp [Rep, hx]
theorem se_var {i : Nat} {x : Str} (hN : F.N[i]? = some x := by rfl) (hv : Vis F.sc x := by first | exact Or.inl rfl | exact Or.inr (Or.inl rfl) | exact Or.inr (Or.inr rfl)) (hd : (x == ("__debug__" : Str)) = false := by decide) (hcd : (x == ("__classdict__" : Str)) = false := by decide) : SE F (.Name x pos) (eVar i) := fun X W gd tk Hk gk σ env h g H Q at_ p => by
  refine uE_of (pe_var (i := i) (by rw [gd.N]; exact hN) (by rw [gd.sc]; exact hv) hd hcd) ?_
  unfold eVar at p
  split at p
  · rename_i d e
    obtain ⟨x, h1, h2⟩ := at_.val i d e
    exact ⟨x, h1, p g H (Step.refl _ _) at_ x h2⟩
  · rename_i ds e
    obtain ⟨x, h1, b1, b2, b3⟩ := at_.freezeAt e
    exact ⟨_, h1, p _ H b2 b1 _ b3⟩
  · exact p.elim
theorem se_glob {x : Str} {u : Value} {v : V} {d : D} (hm : F.mg x = some u) (r : RelV v u) (rp : ∀ g H, Rep F.K F.w g H v d) (hg : F.sc.names.lookup x = some .globalImplicit := by rfl) (hd : (x == ("__debug__" : Str)) = false := by decide) : SE F (.Name x pos) (eC d) := fun X W gd tk Hk gk σ env h g H Q at_ p => by
  refine uE_of (pe_glob (by show X.env.scope.names.lookup x = _; rw [gd.sc]; exact hg) (by rw [gd.mg]; exact hm) r hd) ?_
  exact p g H (Step.refl _ _) at_ v (by rw [gd.K, gd.w]; exact rp g H)

/-! ## operations by values -/
def ofO (o : Option R) : ME := fun env h => match o with
  | some r => .ok r env h
  | none => .no
theorem ofO_go {r : Option R} (at_ : At X.K X.w Hk gk σ env h g H) {Q : VK} (p : post X.K X.w X.mg W Hk gk σ g H (ofO r env h) (fun r env' _ g' H' => ∀ x, RR X.K X.w Hk σ env' g' H' x r → Q x H')) :
    ∃ r', r = some r' ∧ ∀ z g' H', Grow g H g' H' → RN X.K X.w H g' H' z r' → Q z H' := by
  cases r with
  | none => exact p.elim
  | some r' => exact ⟨r', rfl, fun z g' H' gr q => p g' H' (gr.fstep at_.hat).toStep (gr.at at_) z (q.rr at_ gr)⟩
/-- a two-place operation -/
def OpOk (F : Fr) (f : Value → Value → Sem Value) (op : MH → D → D → Option R) : Prop := ∀ X, Good F X → ∀ h g H, HAt X.K X.w h g H → ∀ x y dx dy r, Rep X.K X.w g H x dx → Rep X.K X.w g H y dy → op h dx dy = some r →
  ∀ Q : VK, (∀ z g' H', Grow g H g' H' → RN X.K X.w H g' H' z r → Q z H') → uOp X f x y H Q
def eOp2 (op : MH → D → D → Option R) (ma mb : MV) : ME := fun env h => (ma env h).bind fun x env h => (mb env h).bind fun y env h => ofO (op h x y) env h
theorem op2_go {f : Value → Value → Sem Value} {o : MH → D → D → Option R} {ma mb : MV} (ho : OpOk F f o) (ha : SV F a ma) (hb : SV F b mb) (gd : Good F X) (tk : Takes X W) (at_ : At X.K X.w Hk gk σ env h g H) {Q : VK}
    (p : post X.K X.w X.mg W Hk gk σ g H (eOp2 o ma mb env h) (fun r env' _ g' H' => ∀ x, RR X.K X.w Hk σ env' g' H' x r → Q x H')) : tOp (uOp X f) (uE X a) (uE X b) σ H Q := by
  refine ha.go gd tk at_ p fun dx env1 h1 g1 H1 x s1 a1 rx p1 => ?_
  refine hb.go gd tk a1 p1 fun dy env2 h2 g2 H2 y s2 a2 ry p2 => ?_
  obtain ⟨r, e, k⟩ := ofO_go a2 p2
  exact ho X gd h2 g2 H2 a2.hat x y dx dy r (rx.step s2) ry e Q k
theorem se_bin {op : Operator} {o : MH → D → D → Option R} {ma mb : MV} (ho : OpOk F (binaryOp op) o) (ha : SV F a ma) (hb : SV F b mb) : SE F (.BinOp a op b pos) (eOp2 o ma mb) := fun X W gd tk Hk gk σ env h g H Q at_ p =>
  uE_of (pe_op op_u pe_u pe_u) (op2_go ho ha hb gd tk at_ p)
theorem se_cmp {op : CmpOp} {o : MH → D → D → Option R} {ma mb : MV} (ho : OpOk F (compareOp op) o) (ha : SV F a ma) (hb : SV F b mb) (hm : behindInMarks op b = false := by rfl) : SE F (.Compare a [op] [b] pos) (eOp2 o ma mb) := fun X W gd tk Hk gk σ env h g H Q at_ p =>
  uE_of (pe_cmpR op_u pe_u pe_u hm) (op2_go ho ha hb gd tk at_ p)
/-- a one-place operation -/
def UnOk (F : Fr) (f : Value → Sem Value) (op : MH → D → Option R) : Prop := ∀ X, Good F X → ∀ h g H, HAt X.K X.w h g H → ∀ x dx r, Rep X.K X.w g H x dx → op h dx = some r →
  ∀ Q : VK, (∀ z g' H', Grow g H g' H' → RN X.K X.w H g' H' z r → Q z H') → uUn X f x H Q
def eOp1 (op : MH → D → Option R) (ma : MV) : ME := fun env h => (ma env h).bind fun x env h => ofO (op h x) env h
theorem se_un {op : UnaryOp} {o : MH → D → Option R} {ma : MV} (ho : UnOk F (unaryOp op) o) (ha : SV F a ma) : SE F (.UnaryOp op a pos) (eOp1 o ma) := fun X W gd tk Hk gk σ env h g H Q at_ p => by
  refine uE_of (pe_un un_u pe_u) ?_
  refine ha.go gd tk at_ p fun dx env1 h1 g1 H1 x s1 a1 rx p1 => ?_
  obtain ⟨r, e, k⟩ := ofO_go a1 p1
  exact ho X gd h1 g1 H1 a1.hat x dx r rx e Q k
/-- a chain of two comparisons -/
def eChain (o o' : MH → D → D → Option R) (ma mb mc : MV) : ME := fun env h => (ma env h).bind fun x env h => (mb env h).bind fun y env h => match o h x y with
  | some (.v (.bl true)) => (mc env h).bind fun z env h => ofO (o' h y z) env h
  | some (.v (.bl false)) => .ok (.v (.bl false)) env h
  | _ => .no
theorem chain_go {op op' : CmpOp} {o o' : MH → D → D → Option R} {ma mb mc : MV} (ho : OpOk F (compareOp op) o) (ho' : OpOk F (compareOp op') o') (ha : SV F a ma) (hb : SV F b mb) (hc : SV F c mc) (gd : Good F X) (tk : Takes X W) (at_ : At X.K X.w Hk gk σ env h g H) {Q : VK}
    (p : post X.K X.w X.mg W Hk gk σ g H (eChain o o' ma mb mc env h) (fun r env' _ g' H' => ∀ x, RR X.K X.w Hk σ env' g' H' x r → Q x H')) :
    tChain (uOp X (compareOp op)) (uOp X (compareOp op')) (uE X a) (uE X b) (uE X c) σ H Q := by
  refine ha.go gd tk at_ p fun dx env1 h1 g1 H1 x s1 a1 rx p1 => ?_
  refine hb.go gd tk a1 p1 fun dy env2 h2 g2 H2 y s2 a2 ry p2 => ?_
  split at p2
  · rename_i e
    refine ho X gd h2 g2 H2 a2.hat x y dx dy _ (rx.step s2) ry e _ fun z g3 H3 gr q => ?_
    have q : z = .bl true := by simpa [RN, Rep] using q
    refine ⟨true, q, iteT ?_⟩
    refine hc.go gd tk (gr.at a2) (post.step (gr.fstep a2.hat).toStep p2) fun dz env4 h4 g4 H4 z' s4 a4 rz p4 => ?_
    obtain ⟨r, e', k⟩ := ofO_go a4 p4
    exact ho' X gd h4 g4 H4 a4.hat y z' dy dz r ((ry.step (gr.fstep a2.hat).toStep).step s4) rz e' Q k
  · rename_i e
    refine ho X gd h2 g2 H2 a2.hat x y dx dy _ (rx.step s2) ry e _ fun z g3 H3 gr q => ?_
    have q : z = .bl false := by simpa [RN, Rep] using q
    refine ⟨false, q, iteF ?_⟩
    exact p2 g3 H3 (gr.fstep a2.hat).toStep (gr.at a2) _ (by simp [RR, Rep])
  · exact p2.elim
theorem se_chain {op op' : CmpOp} {o o' : MH → D → D → Option R} {ma mb mc : MV} (ho : OpOk F (compareOp op) o) (ho' : OpOk F (compareOp op') o') (ha : SV F a ma) (hb : SV F b mb) (hc : SV F c mc) (hm : lastMarks [op, op'] [b, c] = false := by with_unfolding_all rfl) :
    SE F (.Compare a [op, op'] [b, c] pos) (eChain o o' ma mb mc) := fun X W gd tk Hk gk σ env h g H Q at_ p =>
  uE_of (pe_chain op_u op_u pe_u pe_u pe_u hm) (chain_go ho ho' ha hb hc gd tk at_ p)

/-! ## tests -/
def toB (m : ME) : MB := fun env h => (m env h).bind fun r env h => match r with
  | .v (.bl b) => .ok b env h
  | _ => .no
theorem tb_go {t : TE} {m : ME} (hs : ∀ Q : VK, post X.K X.w X.mg W Hk gk σ g H (m env h) (fun r env' _ g' H' => ∀ x, RR X.K X.w Hk σ env' g' H' x r → Q x H') → t σ H Q) {Q : Bool → Hp → Prop}
    (p : post X.K X.w X.mg W Hk gk σ g H (toB m env h) (fun b _ _ _ H' => Q b H')) : tTest t σ H Q := by
  refine hs _ ((post.bind p).imp fun r env' h' g' H' st a' q x rx => ?_)
  split at q
  · rename_i b
    have : x = .bl b := by simpa [RR, Rep] using rx
    exact ⟨b, this, q g' H' (Step.refl _ _) a'⟩
  · exact q.elim
theorem sb_cmp {op : CmpOp} {o : MH → D → D → Option R} {ma mb : MV} (ho : OpOk F (compareOp op) o) (ha : SV F a ma) (hb : SV F b mb) (hm : behindInMarks op b = false := by rfl) : SB F (.Compare a [op] [b] pos) (toB (eOp2 o ma mb)) := fun X W gd tk Hk gk σ env h g H Q at_ p =>
  uT_of (pt_cmpR op_u pe_u pe_u hm) (tb_go (fun Q p => op2_go ho ha hb gd tk at_ p) p)
theorem sb_chain {op op' : CmpOp} {o o' : MH → D → D → Option R} {ma mb mc : MV} (ho : OpOk F (compareOp op) o) (ho' : OpOk F (compareOp op') o') (ha : SV F a ma) (hb : SV F b mb) (hc : SV F c mc) (hm : lastMarks [op, op'] [b, c] = false := by with_unfolding_all rfl) :
    SB F (.Compare a [op, op'] [b, c] pos) (toB (eChain o o' ma mb mc)) := fun X W gd tk Hk gk σ env h g H Q at_ p =>
  uT_of (pt_chain op_u op_u pe_u pe_u pe_u hm) (tb_go (fun Q p => chain_go ho ho' ha hb hc gd tk at_ p) p)
/-- the truth of data -/
def truD (h : MH) : D → Option Bool
  | .non => some false
  | .bl b => some b
  | .int i => some (i != 0)
  | .str s => if s.length ≤ sizeLine then some (!s.isEmpty) else none
  | .tup ds => some (!ds.isEmpty)
  | .lst ds => some (!ds.isEmpty)
  | .loc n => match h[n]? with
    | some (.lst ds) => some (!ds.isEmpty)
    | none => none
  | .dct _ _ => none
theorem isEmpty_reps {K : PySem.W.Frag} {w : World} {g : Gh} {H : Hp} {vs : List V} {ds : List D} (r : Reps K w g H vs ds) : vs.isEmpty = ds.isEmpty := by
  have := r.length
  cases vs <;> cases ds <;> simp_all
theorem truD_ok {K : PySem.W.Frag} {w : World} {h : MH} {g : Gh} {H : Hp} (hat : HAt K w h g H) {x : V} {d : D} {b : Bool} (r : Rep K w g H x d) (e : truD h d = some b) : TruV K x H b := by
  cases d with
  | non => simp only [Rep] at r; subst r; simp [truD] at e; subst e; rfl
  | bl c => simp only [Rep] at r; subst r; simp [truD] at e; subst e; rfl
  | int i => simp only [Rep] at r; subst r; simp [truD] at e; subst e; rfl
  | str s =>
    simp only [Rep] at r; subst r
    simp only [truD] at e
    split at e
    · rename_i hs
      refine ⟨by rw [S_length]; exact hs, ?_⟩
      rw [S_length]
      cases e
      cases s with
      | nil => rfl
      | cons c t => simp; omega
    · cases e
  | tup ds =>
    simp only [Rep] at r
    obtain ⟨a, vs, rfl, t, rs⟩ := r
    simp only [truD, Option.some.injEq] at e
    exact .inr (.inl ⟨vs, t.sq, by rw [isEmpty_reps rs]; exact e.symm⟩)
  | lst ds =>
    simp only [Rep] at r
    obtain ⟨a, vs, rfl, t, rs⟩ := r
    simp only [truD, Option.some.injEq] at e
    exact .inl ⟨vs, t.sq, by rw [isEmpty_reps rs]; exact e.symm⟩
  | loc n =>
    simp only [Rep] at r
    obtain ⟨_, rfl⟩ := r
    simp only [truD] at e
    split at e
    · rename_i ds e2
      obtain ⟨⟨vs, h1, h2⟩, _⟩ := hat.obj n _ e2
      cases e
      exact .inl ⟨vs, .of h1, by rw [isEmpty_reps h2]⟩
    · cases e
  | dct ks ds => simp [truD] at e
def bTru (m : MV) : MB := fun env h => (m env h).bind fun d env h => match truD h d with
  | some b => .ok b env h
  | none => .no
theorem sb_tru {m : MV} (ha : SV F a m) (he : ∀ env whole, isTrue a env whole = (do let v ← whole; standAt a.pos; holding [v] (truthy v)) := by intros; rfl) : SB F a (bTru m) := fun X W gd tk Hk gk σ env h g H Q at_ p => by
  refine uT_of (pt_truth pe_u (he _)) ?_
  refine ha.go gd tk at_ p fun d env1 h1 g1 H1 x s1 a1 rx p1 => ?_
  split at p1
  · rename_i b e
    exact ⟨b, truD_ok a1.hat rx e, p1 g1 H1 (Step.refl _ _) a1⟩
  · exact p1.elim
def bNot (m : MB) : MB := fun env h => (m env h).bind fun b env h => .ok (!b) env h
theorem sb_not {m : MB} (ha : SB F a m) : SB F (.UnaryOp .Not a pos) (bNot m) := fun X W gd tk Hk gk σ env h g H Q at_ p => by
  refine uT_of (pt_not pt_u) ?_
  exact ha.go gd tk at_ p fun b env1 h1 g1 H1 s1 a1 p1 => p1 g1 H1 (Step.refl _ _) a1
def bAnd (m n : MB) : MB := fun env h => (m env h).bind fun b env h => if b = true then n env h else .ok false env h
def bOr (m n : MB) : MB := fun env h => (m env h).bind fun b env h => if b = true then .ok true env h else n env h
theorem sw_one {op : BoolOp} {m : MB} (ha : SB F a m) : SW F (.BoolOp op [a] pos) m := fun X W gd tk Hk gk σ env h g H Q at_ p => by
  cases op with
  | And => exact uW_of (pw_and1 pt_u) (ha X W gd tk Hk gk σ env h g H Q at_ p)
  | Or => exact uW_of (pw_or1 pt_u) (ha X W gd tk Hk gk σ env h g H Q at_ p)
theorem sw_and {m n : MB} {rest : List Expr} (ha : SB F a m) (hb : SW F (.BoolOp .And (b :: rest) pos) n) : SW F (.BoolOp .And (a :: b :: rest) pos) (bAnd m n) := fun X W gd tk Hk gk σ env h g H Q at_ p => by
  refine uW_of (pw_and pt_u pw_u) ?_
  refine ha.go gd tk at_ p fun c env1 h1 g1 H1 s1 a1 p1 => ?_
  cases c with
  | true => rw [if_pos rfl] at p1 ⊢; exact hb X W gd tk Hk gk σ env1 h1 g1 H1 Q a1 p1
  | false => rw [if_neg (by decide)] at p1 ⊢; exact p1 g1 H1 (Step.refl _ _) a1
theorem sw_or {m n : MB} {rest : List Expr} (ha : SB F a m) (hb : SW F (.BoolOp .Or (b :: rest) pos) n) : SW F (.BoolOp .Or (a :: b :: rest) pos) (bOr m n) := fun X W gd tk Hk gk σ env h g H Q at_ p => by
  refine uW_of (pw_or pt_u pw_u) ?_
  refine ha.go gd tk at_ p fun c env1 h1 g1 H1 s1 a1 p1 => ?_
  cases c with
  | true => rw [if_pos rfl] at p1 ⊢; exact p1 g1 H1 (Step.refl _ _) a1
  | false => rw [if_neg (by decide)] at p1 ⊢; exact hb X W gd tk Hk gk σ env1 h1 g1 H1 Q a1 p1
theorem sb_w {m : MB} (hw : SW F e m) : SB F e m := fun X W gd tk Hk gk σ env h g H Q at_ p => uT_of (pw_u.pt) (hw X W gd tk Hk gk σ env h g H Q at_ p)

/-! ## tests as values, choices -/
def eNot (m : MV) : ME := fun env h => (m env h).bind fun d env h => match d with
  | .bl b => .ok (.v (.bl (!b))) env h
  | _ => .no
theorem se_not {m : MV} (ha : SV F a m) : SE F (.UnaryOp .Not a pos) (eNot m) := fun X W gd tk Hk gk σ env h g H Q at_ p => by
  refine uE_of (pe_not pe_u) ?_
  refine ha.go gd tk at_ p fun d env1 h1 g1 H1 x s1 a1 rx p1 => ?_
  split at p1
  · rename_i b
    exact ⟨b, by simpa [Rep] using rx, p1 g1 H1 (Step.refl _ _) a1 _ (by simp [RR, Rep])⟩
  · exact p1.elim
def eAnd (m : MV) (n : ME) : ME := fun env h => (m env h).bind fun d env h => match d with
  | .bl true => n env h
  | .bl false => .ok (.v (.bl false)) env h
  | _ => .no
def eOr (m : MV) (n : ME) : ME := fun env h => (m env h).bind fun d env h => match d with
  | .bl true => .ok (.v (.bl true)) env h
  | .bl false => n env h
  | _ => .no
theorem se_one {op : BoolOp} {m : ME} (ha : SE F a m) : SE F (.BoolOp op [a] pos) m := fun X W gd tk Hk gk σ env h g H Q at_ p => uE_of (pe_one pe_u) (ha X W gd tk Hk gk σ env h g H Q at_ p)
theorem se_and {m : MV} {n : ME} {rest : List Expr} (ha : SV F a m) (hb : SE F (.BoolOp .And (b :: rest) pos) n) : SE F (.BoolOp .And (a :: b :: rest) pos) (eAnd m n) := fun X W gd tk Hk gk σ env h g H Q at_ p => by
  refine uE_of (pe_and pe_u pe_u) ?_
  refine ha.go gd tk at_ p fun d env1 h1 g1 H1 x s1 a1 rx p1 => ?_
  split at p1
  · exact ⟨true, by simpa [Rep] using rx, iteT (hb X W gd tk Hk gk σ env1 h1 g1 H1 Q a1 p1)⟩
  · exact ⟨false, by simpa [Rep] using rx, iteF (p1 g1 H1 (Step.refl _ _) a1 _ (by simp [RR, Rep]))⟩
  · exact p1.elim
theorem se_or {m : MV} {n : ME} {rest : List Expr} (ha : SV F a m) (hb : SE F (.BoolOp .Or (b :: rest) pos) n) : SE F (.BoolOp .Or (a :: b :: rest) pos) (eOr m n) := fun X W gd tk Hk gk σ env h g H Q at_ p => by
  refine uE_of (pe_or pe_u pe_u) ?_
  refine ha.go gd tk at_ p fun d env1 h1 g1 H1 x s1 a1 rx p1 => ?_
  split at p1
  · exact ⟨true, by simpa [Rep] using rx, iteT (p1 g1 H1 (Step.refl _ _) a1 _ (by simp [RR, Rep]))⟩
  · exact ⟨false, by simpa [Rep] using rx, iteF (hb X W gd tk Hk gk σ env1 h1 g1 H1 Q a1 p1)⟩
  · exact p1.elim
def eIf (c : MB) (m n : ME) : ME := fun env h => (c env h).bind fun b env h => if b = true then m env h else n env h
theorem se_if {mc : MB} {m n : ME} (hc : SB F c mc) (ha : SE F a m) (hb : SE F b n) : SE F (.IfExp c a b pos) (eIf mc m n) := fun X W gd tk Hk gk σ env h g H Q at_ p => by
  refine uE_of (pe_ifExp pt_u pe_u pe_u) ?_
  refine hc.go gd tk at_ p fun c env1 h1 g1 H1 s1 a1 p1 => ?_
  cases c with
  | true => rw [if_pos rfl] at p1 ⊢; exact ha X W gd tk Hk gk σ env1 h1 g1 H1 Q a1 p1
  | false => rw [if_neg (by decide)] at p1 ⊢; exact hb X W gd tk Hk gk σ env1 h1 g1 H1 Q a1 p1

/-! ## arguments, displays -/
def aNil : MA := fun env h => .ok [] env h
def aCons (m : MV) (n : MA) : MA := fun env h => (m env h).bind fun d env h => (n env h).bind fun ds env h => .ok (d :: ds) env h
theorem sa_nil : SA F [] aNil := ⟨fun X W gd tk Hk gk σ env h g H Q at_ p => uA_of pa_nil (p g H (Step.refl _ _) at_ [] Reps.nil), fun env h ds env' h' e => by cases e; rfl⟩
theorem sa_cons {m : MV} {n : MA} (ha : SV F e m) (hr : SA F es n) (hs : ∀ env, starEach (e :: es) env = (false, eval e env) :: starEach es env := by intros; rfl) : SA F (e :: es) (aCons m n) := by
  refine ⟨fun X W gd tk Hk gk σ env h g H Q at_ p => ?_, fun env h ds env' h' q => ?_⟩
  · refine uA_of (pa_cons pe_u pa_u (hs _)) ?_
    refine ha.go gd tk at_ p fun d env1 h1 g1 H1 x s1 a1 rx p1 => ?_
    refine hr.go gd tk a1 p1 fun ds env2 h2 g2 H2 xs s2 a2 rs p2 => ?_
    exact p2 g2 H2 (Step.refl _ _) a2 (x :: xs) (Reps.cons (rx.step s2) rs)
  · unfold aCons at q
    cases e1 : m env h with
    | no => rw [e1] at q; cases q
    | err x e2 h2 => rw [e1] at q; cases q
    | ok d e2 h2 =>
      rw [e1] at q
      have q : (n e2 h2).bind (fun ds env h => .ok (d :: ds) env h) = .ok ds env' h' := q
      cases e3 : n e2 h2 with
      | no => rw [e3] at q; cases q
      | err x e4 h4 => rw [e3] at q; cases q
      | ok ds2 e4 h4 =>
        rw [e3] at q
        cases q
        rw [List.length_cons, List.length_cons, hr.len _ _ _ _ _ e3]
def eTup (m : MA) : ME := fun env h => (m env h).bind fun ds env h => if ds.length ≤ sizeLine then .ok (.v (.tup ds)) env h else .no
def eLst (m : MA) : ME := fun env h => (m env h).bind fun ds env h => if ds.length ≤ sizeLine then .ok (.own ds) env h else .no
def eLoc (m : MA) : ME := fun env h => (m env h).bind fun ds env h => if ds.length ≤ sizeLine then .ok (.v (.loc h.length)) env (h ++ [.lst ds]) else .no
theorem rep_newTup {K : PySem.W.Frag} {w : World} {h : MH} {g : Gh} {H : Hp} (hat : HAt K w h g H) {p : Addr} {vs : List V} {ds : List D} (n : H p = none) (r : Reps K w g H vs ds) : Rep K w (g.fr p) (upd H p (.tup vs)) (.ref p) (.tup ds) := by
  simp only [Rep]
  exact ⟨p, vs, rfl, .inl ⟨.inr rfl, .inl upd_same⟩, r.step ((grow_fr hat n).fstep hat).toStep⟩
theorem rep_newLst {K : PySem.W.Frag} {w : World} {h : MH} {g : Gh} {H : Hp} (hat : HAt K w h g H) {p : Addr} {vs : List V} {ds : List D} (n : H p = none) (r : Reps K w g H vs ds) : RN K w H g (upd H p (.lst vs)) (.ref p) (.own ds) :=
  ⟨p, vs, rfl, n, upd_same, r.step ((grow_new hat n).fstep hat).toStep, fun f => hat.fz p f n⟩
theorem se_tup {m : MA} {k : Nat} (ha : SA F es m) : SE F (.Tuple es k pos) (eTup m) := fun X W gd tk Hk gk σ env h g H Q at_ p => by
  refine uE_of (pe_tup pa_u) ?_
  refine ha.go gd tk at_ p fun ds env1 h1 g1 H1 xs s1 a1 rs p1 => ?_
  split at p1
  · rename_i hl
    exact ⟨by rw [rs.length]; exact hl, fun q nq => p1 _ _ ((grow_fr a1.hat nq).fstep a1.hat).toStep ((grow_fr a1.hat nq).at a1) _ (rep_newTup a1.hat nq rs)⟩
  · exact p1.elim
theorem se_lst {m : MA} (ha : SA F es m) : SE F (.List es pos) (eLst m) := fun X W gd tk Hk gk σ env h g H Q at_ p => by
  refine uE_of (pe_lst pa_u) ?_
  refine ha.go gd tk at_ p fun ds env1 h1 g1 H1 xs s1 a1 rs p1 => ?_
  split at p1
  · rename_i hl
    exact ⟨by rw [rs.length]; exact hl, fun q nq => p1 _ _ ((grow_new a1.hat nq).fstep a1.hat).toStep ((grow_new a1.hat nq).at a1) _ ((rep_newLst a1.hat nq rs).rr a1 (grow_new a1.hat nq))⟩
  · exact p1.elim
theorem se_loc {m : MA} (ha : SA F es m) : SE F (.List es pos) (eLoc m) := fun X W gd tk Hk gk σ env h g H Q at_ p => by
  refine uE_of (pe_lst pa_u) ?_
  refine ha.go gd tk at_ p fun ds env1 h1 g1 H1 xs s1 a1 rs p1 => ?_
  split at p1
  · rename_i hl
    refine ⟨by rw [rs.length]; exact hl, fun q nq => ?_⟩
    obtain ⟨g', t1, t2, t3, t4⟩ := a1.newLoc nq rs
    refine p1 g' _ t4 t3 _ ?_
    simp only [RR, Rep]
    exact ⟨by rw [t1]; exact Nat.lt_succ_self _, by rw [t2]⟩
  · exact p1.elim
end
end Mi
set_option Elab.async false
set_option linter.all false
set_option maxRecDepth 100000
open PySem PySem.Spec PyProof.Rows L2
namespace Mi

/-! ## calls of defs -/
inductive FR where
  | ok (r : R) (h : MH)
  | err (x : Xc) (h : MH)
  | no
abbrev MF := List D → MH → FR
def RF (K : PySem.W.Frag) (w : World) (H : Hp) (g' : Gh) (H' : Hp) (v : V) : R → Prop
  | .v d => Rep K w g' H' v d
  | .own ds => ∃ a vs, v = .ref a ∧ H a = none ∧ H' a = some (.lst vs) ∧ Reps K w g' H' vs ds ∧ ¬ g'.Fz a ∧ ∀ n, n < g'.top → g'.ρ n ≠ a
/-- what a def promises: it hands back what m tells -/
def spM (K : PySem.W.Frag) (w : World) (mg : Str → Option Value) (n : Nat) (m : MF) : Sp := fun vs H Q E => vs.length = n ∧ ∃ g ds h, HAt K w h g H ∧ Reps K w g H vs ds ∧ match m ds h with
  | .ok r h' => ∀ v g' H', FStep g H g' H' → HAt K w h' g' H' → RF K w H g' H' v r → Q v H'
  | .err x h' => ∀ cls d g' H', FStep g H g' H' → HAt K w h' g' H' → XR K w mg g' H' x cls d → E cls d H'
  | .no => False
/-- the def of this name keeps the promise -/
def FnF (F : Fr) (x : Str) (n : Nat) (m : MF) : Prop :=
  ∃ f fd ps, FnOk F.P F.w F.K F.mg F.base (L2.CX F.P F.w) F.k f fd ps (spM F.K F.w F.mg n m) ∧ F.mg x = some (.ref f) ∧ PySem.W.keepIn F.K (.ref f) = true ∧ Binds F.K fd ps []
def eCall (mf : MF) (m : MA) : ME := fun env h => (m env h).bind fun ds env h => match mf ds h with
  | .ok r h' => .ok r env h'
  | .err x h' => .err x env h'
  | .no => .no
section
variable {F : Fr} {e a b c : Expr} {es : List Expr} {pos : Pos} {X : Cx} {W : WX} {Hk : Hp} {gk g : Gh} {σ : L2.St} {env : Ev} {h : MH} {H : Hp}
theorem se_call {x : Str} {n : Nat} {mf : MF} {m : MA} {p : Pos} (hf : FnF F x n mf) (ha : SA F (e :: es) m) (hl : (e :: es).length = n := by rfl) (hg : F.sc.names.lookup x = some .globalImplicit := by rfl) (hdb : (x == ("__debug__" : Str)) = false := by decide)
    (he : ∀ env, starEach (e :: es) env = (false, eval e env) :: starEach es env := by intros; rfl) (hpl : ∀ env, (backTo pos (starEach es env)).any (·.1) = false := by intros; rfl) :
    SE F (.Call (.Name x p) (e :: es) [] pos) (eCall mf m) := fun X W gd tk Hk gk σ env h g H Q at_ p => by
  obtain ⟨f, fd, ps, G, hm, hk, hb⟩ := hf
  have G' : FnOk X.prog X.w X.K X.mg X.base (L2.CX X.prog X.w) F.k f fd ps (spM X.K X.w X.mg n mf) := by rw [gd.prog, gd.w, gd.K, gd.mg, gd.base]; exact G
  refine uE_of (pe_callS (E := WE W) G' gd.room (by show X.env.scope.names.lookup x = _; rw [gd.sc]; exact hg) (by rw [gd.mg]; exact hm) (by rw [gd.K]; exact hk) (by rw [gd.K]; exact hb) (fun σ => passAt tk σ) pa_u hdb (he _) (hpl _)) ?_
  show uA X (e :: es) σ H fun vs H1 => spM X.K X.w X.mg n mf vs H1 Q (WE W σ)
  have hlen : ∀ ds1 env1 h1, m env h = .ok ds1 env1 h1 → ds1.length = n := fun ds1 env1 h1 q => (ha.len _ _ _ _ _ q).trans hl
  refine ha.run X W gd tk Hk gk σ env h g H _ at_ ?_
  have p := post.bind p
  cases em : m env h with
  | no => rw [em] at p; exact p.elim
  | err x2 e2 h2 => rw [em] at p; exact p
  | ok ds env1 h1 =>
    rw [em] at p
    refine fun g1 H1 s1 a1 xs rs => ?_
    have p1 := p g1 H1 s1 a1
    dsimp only at p1
    refine ⟨by rw [rs.length]; exact hlen _ _ _ em, g1, ds, h1, a1.hat, rs, ?_⟩
    cases er : mf ds h1 with
    | no => rw [er] at p1; exact p1.elim
    | err x2 h2 =>
      rw [er] at p1
      exact fun cls d g' H' fs hat xr => p1 g' H' cls d fs.toStep (a1.fstep fs hat) xr
    | ok r h2 =>
      rw [er] at p1
      refine fun v g' H' fs hat rf => p1 g' H' fs.toStep (a1.fstep fs hat) v ?_
      cases r with
      | v d => exact rf
      | own ds' =>
        obtain ⟨q, us, rfl, n1, e1, r1, nf, nρ⟩ := rf
        obtain ⟨f1, f2, f3, f4⟩ := a1.fresh n1
        exact ⟨q, rfl, ⟨⟨us, e1, r1⟩, nf, nρ, f1⟩, f4⟩
end

/-! ## statements -/
inductive Fl where
  | nx (env : Ev) (h : MH)
  | rt (r : R) (env : Ev) (h : MH)
  | bk (env : Ev) (h : MH)
  | ct (env : Ev) (h : MH)
  | err (x : Xc) (env : Ev) (h : MH)
  | no
abbrev MS := Ev → MH → Fl
def Rs.bindS {α : Type} (r : Rs α) (f : α → Ev → MH → Fl) : Fl := match r with
  | .ok a e h => f a e h
  | .err x e h => .err x e h
  | .no => .no
@[simp] theorem Rs.bindS_ok {α : Type} (a : α) (e : Ev) (h : MH) (f : α → Ev → MH → Fl) : (Rs.ok a e h).bindS f = f a e h := rfl
@[simp] theorem Rs.bindS_err {α : Type} (x : Xc) (e : Ev) (h : MH) (f : α → Ev → MH → Fl) : (Rs.err x e h : Rs α).bindS f = .err x e h := rfl
@[simp] theorem Rs.bindS_no {α : Type} (f : α → Ev → MH → Fl) : (Rs.no : Rs α).bindS f = .no := rfl
section
variable (K : PySem.W.Frag) (w : World)
def postS (mg : Str → Option Value) (W : WX) (Hk : Hp) (gk : Gh) (g : Gh) (H : Hp) (r : Fl) (Dn : Ends) : Prop := match r with
  | .nx env' h' => ∀ σ' g' H', Step g H g' H' → At K w Hk gk σ' env' h' g' H' → Dn.nx σ' H'
  | .rt r env' h' => ∀ v σ' g' H', Step g H g' H' → At K w Hk gk σ' env' h' g' H' → RR K w Hk σ' env' g' H' v r → Dn.rt v H'
  | .bk env' h' => ∀ σ' g' H', Step g H g' H' → At K w Hk gk σ' env' h' g' H' → Dn.bk σ' H'
  | .ct env' h' => ∀ σ' g' H', Step g H g' H' → At K w Hk gk σ' env' h' g' H' → Dn.ct σ' H'
  | .err x env' h' => ∀ σ' g' H' cls d, Step g H g' H' → At K w Hk gk σ' env' h' g' H' → XR K w mg g' H' x cls d → W cls d σ' H'
  | .no => False
end
section
variable {K : PySem.W.Frag} {w : World} {mg : Str → Option Value} {W : WX} {Hk : Hp} {gk : Gh} {σ : L2.St} {g g1 : Gh} {H H1 : Hp}
theorem postS.step {r : Fl} {Dn : Ends} (s : Step g H g1 H1) (p : postS K w mg W Hk gk g H r Dn) : postS K w mg W Hk gk g1 H1 r Dn := by
  cases r with
  | nx e h => exact fun σ' g' H' s' x => p σ' g' H' (s.trans s') x
  | rt r e h => exact fun v σ' g' H' s' x q => p v σ' g' H' (s.trans s') x q
  | bk e h => exact fun σ' g' H' s' x => p σ' g' H' (s.trans s') x
  | ct e h => exact fun σ' g' H' s' x => p σ' g' H' (s.trans s') x
  | err x e h => exact fun σ' g' H' c d s' a q => p σ' g' H' c d (s.trans s') a q
  | no => exact p
theorem postS.bind {α : Type} {r : Rs α} {f : α → Ev → MH → Fl} {Dn : Ends} (p : postS K w mg W Hk gk g H (r.bindS f) Dn) :
    post K w mg W Hk gk σ g H r (fun a e h g' H' => postS K w mg W Hk gk g' H' (f a e h) Dn) := by
  cases r with
  | ok a e h => exact fun g' H' s' _ => postS.step s' p
  | err x e h => exact fun g' H' c d s' a q => p σ g' H' c d s' a q
  | no => exact p
/-- another end -/
theorem postS.imp {r : Fl} {Dn Dn' : Ends} (p : postS K w mg W Hk gk g H r Dn) (h1 : ∀ e h σ' g' H', r = .nx e h → Step g H g' H' → At K w Hk gk σ' e h g' H' → Dn.nx σ' H' → Dn'.nx σ' H') (h2 : ∀ v H', Dn.rt v H' → Dn'.rt v H')
    (h3 : ∀ e h σ' g' H', r = .bk e h → Step g H g' H' → At K w Hk gk σ' e h g' H' → Dn.bk σ' H' → Dn'.bk σ' H') (h4 : ∀ e h σ' g' H', r = .ct e h → Step g H g' H' → At K w Hk gk σ' e h g' H' → Dn.ct σ' H' → Dn'.ct σ' H') : postS K w mg W Hk gk g H r Dn' := by
  cases r with
  | nx e h => exact fun σ' g' H' s' x => h1 e h σ' g' H' rfl s' x (p σ' g' H' s' x)
  | rt r e h => exact fun v σ' g' H' s' x q => h2 v H' (p v σ' g' H' s' x q)
  | bk e h => exact fun σ' g' H' s' x => h3 e h σ' g' H' rfl s' x (p σ' g' H' s' x)
  | ct e h => exact fun σ' g' H' s' x => h4 e h σ' g' H' rfl s' x (p σ' g' H' s' x)
  | err x e h => exact p
  | no => exact p
end
structure GoodS (F : Fr) (X : Cx) : Prop extends Good F X where
  po : PassesOwn (model X.prog X.w) X.A X.env X.xe
  stk : X.stack = X.env :: X.outer
  frm : X.env.frame = some X.env.locals
  nex : X.ex = []
section
variable (F : Fr)
def SS (st : Stmt) (m : MS) : Prop := ∀ X W, GoodS F X → Takes X W → ∀ Hk gk σ env h g H (Dn : Ends), At X.K X.w Hk gk σ env h g H →
  postS X.K X.w X.mg W Hk gk g H (m env h) Dn → uS X st Dn σ H
def SSs (st : List Stmt) (m : MS) : Prop := ∀ X W, GoodS F X → Takes X W → ∀ Hk gk σ env h g H (Dn : Ends), At X.K X.w Hk gk σ env h g H →
  postS X.K X.w X.mg W Hk gk g H (m env h) Dn → uSs X st Dn σ H
end
section
variable {F : Fr} {e a b c : Expr} {es : List Expr} {pos : Pos} {X : Cx} {W : WX} {Hk : Hp} {gk g : Gh} {σ : L2.St} {env : Ev} {h : MH} {H : Hp} {st : Stmt} {sts : List Stmt}
theorem SE.goS {m : ME} (s : SE F e m) (gd : Good F X) (tk : Takes X W) (at_ : At X.K X.w Hk gk σ env h g H) {f : R → Ev → MH → Fl} {Dn : Ends} {Q : VK} (p : postS X.K X.w X.mg W Hk gk g H ((m env h).bindS f) Dn)
    (k : ∀ r env1 h1 g1 H1 x, Step g H g1 H1 → At X.K X.w Hk gk σ env1 h1 g1 H1 → RR X.K X.w Hk σ env1 g1 H1 x r → postS X.K X.w X.mg W Hk gk g1 H1 (f r env1 h1) Dn → Q x H1) : uE X e σ H Q :=
  s X W gd tk Hk gk σ env h g H Q at_ ((postS.bind p).imp fun d env1 h1 g1 H1 st a1 q x rx => k d env1 h1 g1 H1 x st a1 rx q)
theorem SV.goS {m : MV} (s : SV F e m) (gd : Good F X) (tk : Takes X W) (at_ : At X.K X.w Hk gk σ env h g H) {f : D → Ev → MH → Fl} {Dn : Ends} {Q : VK} (p : postS X.K X.w X.mg W Hk gk g H ((m env h).bindS f) Dn)
    (k : ∀ d env1 h1 g1 H1 x, Step g H g1 H1 → At X.K X.w Hk gk σ env1 h1 g1 H1 → Rep X.K X.w g1 H1 x d → postS X.K X.w X.mg W Hk gk g1 H1 (f d env1 h1) Dn → Q x H1) : uE X e σ H Q :=
  s X W gd tk Hk gk σ env h g H Q at_ ((postS.bind p).imp fun d env1 h1 g1 H1 st a1 q x rx => k d env1 h1 g1 H1 x st a1 rx q)
theorem SB.goS {m : MB} (s : SB F e m) (gd : Good F X) (tk : Takes X W) (at_ : At X.K X.w Hk gk σ env h g H) {f : Bool → Ev → MH → Fl} {Dn : Ends} {Q : Bool → Hp → Prop} (p : postS X.K X.w X.mg W Hk gk g H ((m env h).bindS f) Dn)
    (k : ∀ b env1 h1 g1 H1, Step g H g1 H1 → At X.K X.w Hk gk σ env1 h1 g1 H1 → postS X.K X.w X.mg W Hk gk g1 H1 (f b env1 h1) Dn → Q b H1) : uT X e σ H Q :=
  s X W gd tk Hk gk σ env h g H Q at_ ((postS.bind p).imp fun d env1 h1 g1 H1 st a1 q => k d env1 h1 g1 H1 st a1 q)
def sNil : MS := fun env h => .nx env h
def sSeq (m n : MS) : MS := fun env h => match m env h with
  | .nx env h => n env h
  | r => r
theorem sss_nil : SSs F [] sNil := fun X W gd tk Hk gk σ env h g H Dn at_ p => uSs_of pss_nil (p σ g H (Step.refl _ _) at_)
theorem seq_post {K : PySem.W.Frag} {w : World} {mg : Str → Option Value} {r : Fl} {n : MS} {Dn : Ends} {T : TS}
    (k : ∀ env h σ g H, At K w Hk gk σ env h g H → postS K w mg W Hk gk g H (n env h) Dn → T Dn σ H)
    (p : postS K w mg W Hk gk g H (match r with | .nx env h => n env h | r => r) Dn) : postS K w mg W Hk gk g H r { Dn with nx := T Dn } := by
  cases r with
  | nx e h => exact fun σ' g' H' s' x => k e h σ' g' H' x (postS.step s' p)
  | rt r e h => exact p
  | bk e h => exact p
  | ct e h => exact p
  | err x e h => exact p
  | no => exact p
theorem sss_cons {m n : MS} (h1 : SS F st m) (h2 : SSs F sts n) : SSs F (st :: sts) (sSeq m n) := fun X W gd tk Hk gk σ env h g H Dn at_ p => by
  refine uSs_of (pss_cons ps_u pss_u) ?_
  refine h1 X W gd tk Hk gk σ env h g H _ at_ (seq_post (fun env' h' σ' g' H' a' q => h2 X W gd tk Hk gk σ' env' h' g' H' Dn a' q) ?_)
  exact p
theorem sss_one {m : MS} (h1 : SS F st m) : SSs F [st] m := fun X W gd tk Hk gk σ env h g H Dn at_ p => uSs_of (pss_one ps_u) (h1 X W gd tk Hk gk σ env h g H Dn at_ p)
def sExpr (m : ME) : MS := fun env h => (m env h).bindS fun _ env h => .nx env h
theorem ss_expr {m : ME} (he : SE F e m) (hs : ∀ env, swapsWith e none pos.line env = pure false := by intros; rfl) : SS F (.Expr e pos) (sExpr m) := fun X W gd tk Hk gk σ env h g H Dn at_ p => by
  refine uS_of (ps_expr pe_u (hs _)) ?_
  exact he.goS gd.toGood tk at_ p fun r env1 h1 g1 H1 x s1 a1 rx p1 => p1 σ g1 H1 (Step.refl _ _) a1
def sRet (m : ME) : MS := fun env h => (m env h).bindS fun r env h => .rt r env h
theorem ss_ret {m : ME} (he : SE F e m) : SS F (.Return (some e) pos) (sRet m) := fun X W gd tk Hk gk σ env h g H Dn at_ p => by
  refine uS_of (ps_ret pe_u) ?_
  exact he.goS gd.toGood tk at_ p fun r env1 h1 g1 H1 x s1 a1 rx p1 => p1 x σ g1 H1 (Step.refl _ _) a1 rx
def sRetN : MS := fun env h => .rt (.v .non) env h
theorem ss_retN : SS F (.Return none pos) sRetN := fun X W gd tk Hk gk σ env h g H Dn at_ p => uS_of ps_retN (p .non σ g H (Step.refl _ _) at_ (by simp [RR, Rep]))
def sBk : MS := fun env h => .bk env h
def sCt : MS := fun env h => .ct env h
theorem ss_pass : SS F (.Pass pos) sNil := fun X W gd tk Hk gk σ env h g H Dn at_ p => uS_of ps_pass (p σ g H (Step.refl _ _) at_)
theorem ss_break : SS F (.Break pos) sBk := fun X W gd tk Hk gk σ env h g H Dn at_ p => uS_of ps_break (p σ g H (Step.refl _ _) at_)
theorem ss_cont : SS F (.Continue pos) sCt := fun X W gd tk Hk gk σ env h g H Dn at_ p => uS_of ps_continue (p σ g H (Step.refl _ _) at_)
def sNo : MS := fun _ _ => .no
theorem ss_no : SS F st sNo := fun X W gd tk Hk gk σ env h g H Dn at_ p => p.elim
def sIf (c : MB) (m n : MS) : MS := fun env h => (c env h).bindS fun b env h => if b = true then m env h else n env h
theorem ss_if {mc : MB} {m n : MS} {A B : List Stmt} (hc : SB F c mc) (ha : SSs F A m) (hb : SSs F B n) : SS F (.If c A B pos) (sIf mc m n) := fun X W gd tk Hk gk σ env h g H Dn at_ p => by
  refine uS_of (ps_if pt_u pss_u pss_u) ?_
  refine hc.goS gd.toGood tk at_ p fun b env1 h1 g1 H1 s1 a1 p1 => ?_
  cases b with
  | true => rw [if_pos rfl] at p1 ⊢; exact ha X W gd tk Hk gk σ env1 h1 g1 H1 Dn a1 p1
  | false => rw [if_neg (by decide)] at p1 ⊢; exact hb X W gd tk Hk gk σ env1 h1 g1 H1 Dn a1 p1
def sSet (i : Nat) (m : ME) : MS := fun env h => (m env h).bindS fun r env h => .nx (env.set i r.sl) h
theorem ss_set {i : Nat} {x : Str} {m : ME} {pos' : Pos} (hN : F.N[i]? = some x := by rfl) (hx : F.sc.names.lookup x = some .local ∨ (F.sc.names.lookup x = some .cell ∧ F.fn x = true) := by first | exact Or.inl rfl | exact Or.inr ⟨rfl, rfl⟩) (he : SE F e m) (hs : ∀ env, swapsWith e (some (.Name x pos')) pos.line env = pure false := by intros; rfl) :
    SS F (.Assign [.Name x pos'] e pos) (sSet i m) := fun X W gd tk Hk gk σ env h g H Dn at_ p => by
  have hl : X.fn x = true ∨ X.env.scope.names.lookup x = some .local := by
    rw [gd.sc]
    rcases hx with hx | hx
    · exact .inr hx
    · exact .inl (gd.fn x hx.2)
  refine uS_of (ps_set (i := i) gd.nd (by rw [gd.N]; exact hN) (by unfold L2.Loc; rw [gd.sc]; exact hx.imp id (·.1)) pe_u (hs _) hl) ?_
  exact he.goS gd.toGood tk at_ p fun r env1 h1 g1 H1 x s1 a1 rx p1 => p1 _ g1 H1 (Step.refl _ _) (a1.asg i rx)
def sAug (i : Nat) (op : MH → D → D → Option R) (m : MV) : MS := fun env h => match env[i]? with
  | some (.v d) => (m env h).bindS fun y env h => match op h d y with
    | some r => .nx (env.set i r.sl) h
    | none => .no
  | _ => .no
theorem ss_aug {i : Nat} {x : Str} {op : Operator} {o : MH → D → D → Option R} {m : MV} {pos' : Pos} (hN : F.N[i]? = some x := by rfl) (hx : F.sc.names.lookup x = some .local ∨ (F.sc.names.lookup x = some .cell ∧ F.fn x = true) := by first | exact Or.inl rfl | exact Or.inr ⟨rfl, rfl⟩) (ho : OpOk F (inplaceOp op) o) (he : SV F e m) :
    SS F (.AugAssign (.Name x pos') op e pos) (sAug i o m) := fun X W gd tk Hk gk σ env h g H Dn at_ p => by
  have hl : X.fn x = true ∨ X.env.scope.names.lookup x = some .local := by
    rw [gd.sc]
    rcases hx with hx | hx
    · exact .inr hx
    · exact .inl (gd.fn x hx.2)
  refine uS_of (ps_aug (i := i) (ti := uOp X (inplaceOp op)) gd.nd (by rw [gd.N]; exact hN) (by unfold L2.Loc; rw [gd.sc]; exact hx.imp id (·.1)) pe_u op_u hl) ?_
  unfold sAug at p
  split at p
  · rename_i d ed
    obtain ⟨v, h1, h2⟩ := at_.val i d ed
    refine ⟨v, h1, ?_⟩
    refine he.goS gd.toGood tk at_ p fun y env1 h1 g1 H1 z s1 a1 rz p1 => ?_
    split at p1
    · rename_i r er
      refine ho X gd.toGood h1 g1 H1 a1.hat v z d y r (h2.step s1) rz er _ fun z' g' H' gr q => ?_
      exact p1 _ g' H' (gr.fstep a1.hat).toStep ((gr.at a1).asg i (q.rr a1 gr))
    · exact p1.elim
  · exact p.elim

/-! ## a def's body -/
def runF (n : Nat) (mb : MS) : MF := fun ds h => match mb (ds.map Sl.v ++ List.replicate (n - ds.length) .un) h with
  | .nx _ h' => .ok (.v .non) h'
  | .rt r _ h' => .ok r h'
  | .err x _ h' => .err x h'
  | _ => .no
theorem at_start {K : PySem.W.Frag} {w : World} {N : List Str} {vs : List V} {ds : List D} (hat : HAt K w h g H) (rs : Reps K w g H vs ds) : At K w H g (L2.start N vs) (ds.map Sl.v ++ List.replicate (N.length - ds.length) .un) h g H where
  hat := hat
  fs := FStep.refl hat
  len := by unfold L2.start; rw [List.length_append, List.length_append, List.length_map, List.length_map, List.length_replicate, List.length_replicate, rs.length]
  val := fun i d e => by
    by_cases hi : i < ds.length
    · rw [List.getElem?_append_left (by rw [List.length_map]; exact hi), List.getElem?_map] at e
      rw [List.getElem?_eq_getElem hi] at e
      simp at e
      obtain ⟨v, e1, r⟩ := rs.get' (List.getElem?_eq_getElem hi)
      refine ⟨v, ?_, by rw [← e]; exact r⟩
      unfold L2.start
      rw [List.getElem?_append_left (by rw [List.length_map, rs.length]; exact hi), List.getElem?_map, e1]
      rfl
    · rw [List.getElem?_append_right (by rw [List.length_map]; omega), List.getElem?_replicate] at e
      split at e <;> cases e
  own := fun i d e => by
    by_cases hi : i < ds.length
    · rw [List.getElem?_append_left (by rw [List.length_map]; exact hi), List.getElem?_map] at e
      rw [List.getElem?_eq_getElem hi] at e
      simp at e
    · rw [List.getElem?_append_right (by rw [List.length_map]; omega), List.getElem?_replicate] at e
      split at e <;> cases e
  dist := fun i j d1 d2 a e => by
    by_cases hi : i < ds.length
    · rw [List.getElem?_append_left (by rw [List.length_map]; exact hi), List.getElem?_map] at e
      rw [List.getElem?_eq_getElem hi] at e
      simp at e
    · rw [List.getElem?_append_right (by rw [List.length_map]; omega), List.getElem?_replicate] at e
      split at e <;> cases e
theorem RR.rf {K : PySem.W.Frag} {w : World} {g' : Gh} {H' : Hp} {v : V} {r : R} (q : RR K w H σ env g' H' v r) : RF K w H g' H' v r := by
  cases r with
  | v d => exact q
  | own ds =>
    obtain ⟨a, e, ⟨⟨vs, h1, h2⟩, h3, h4, h5⟩, _⟩ := q
    exact ⟨a, vs, e, h5, h1, h2, h3, h4⟩
/-- THE RULE for a def: the body's mirror is the def's -/
theorem fn_ok {P : Program} {w : World} {K : PySem.W.Frag} {mg : Str → Option Value} {base : Heap} {x qual : Str} {st : Stmt} {f : Addr} {fd : FuncData} {N ps : List Str} {k : Nat} {mb : MS} (F0 : Fun K x qual st f fd) (Sc : FnScope N ps (defScope st))
    (body : SSs ⟨P, w, K, mg, base, N, defScope st, k, fun _ => true⟩ (defBody st) mb) : FnOk P w K mg base (L2.CX P w) (k + 1) f fd ps (spM K w mg ps.length (runF N.length mb)) := by
  refine F0.okX Sc (fun vs H Q E hsp => hsp.1) (fun cdv A outer s H vs Q E hr hsp => ⟨uSs _ _, pss_u, ?_⟩)
  obtain ⟨hl, g, ds, h, hat, rs, hm⟩ := hsp
  refine body _ (fun cls d _ H => E cls d H) ⟨⟨rfl, rfl, rfl, rfl, rfl, rfl, Sc.nd, rfl, Sc.kind, hr, rfl, fun _ _ => rfl⟩, passes_of rfl, rfl, rfl, rfl⟩ (takes_of rfl rfl rfl rfl) H g _ _ h g H _ (at_start hat rs) ?_
  unfold runF at hm
  cases er : mb (ds.map Sl.v ++ List.replicate (N.length - ds.length) .un) h with
  | nx e h' => rw [er] at hm; exact fun σ' g' H' s' a' => hm .non g' H' a'.fs a'.hat (by simp [RF, Rep])
  | rt r e h' => rw [er] at hm; exact fun v σ' g' H' s' a' q => hm v g' H' a'.fs a'.hat q.rf
  | bk e h' => rw [er] at hm; exact hm.elim
  | ct e h' => rw [er] at hm; exact hm.elim
  | err x e h' => rw [er] at hm; exact fun σ' g' H' cls d s' a' q => hm cls d g' H' a'.fs a'.hat q
  | no => rw [er] at hm; exact hm.elim
end
end Mi
set_option Elab.async false
set_option linter.all false
set_option maxRecDepth 100000
open PySem PySem.Spec PyProof.Rows L2
namespace Mi

/-! ## targets -/
abbrev Tg := D → Ev → Option Ev
section
variable (X : Cx)
def uG (t : Expr) : TG := fun v σ H Q => ∀ pins s u, Inv X pins σ H s → RelV v u → wpAny (model X.prog X.w) X.A (assign t X.env u) (fun _ s' => ∃ σ' H', Inv X pins σ' H' s' ∧ Q σ' H') X.xe s
def uGs (ts : List Expr) : TGs := fun vs σ H Q => ∀ pins s us, Inv X pins σ H s → Vals vs us → wpAny (model X.prog X.w) X.A (assignInOrder ((assignEach ts X.env).map (·.2)) us) (fun _ s' => ∃ σ' H', Inv X pins σ' H' s' ∧ Q σ' H') X.xe s
def uI (tg it : Expr) : TI := fun σ H R => ∀ pins s, Inv X pins σ H s → wpAny (model X.prog X.w) X.A (eval it X.env) (fun v s1 => wpAny (model X.prog X.w) X.A (pyIter v) (PIE X pins σ tg R) X.xe s1) X.xe s
variable {X}
theorem pg_u {t : Expr} : PG X t (uG X t) := ⟨fun pins s σ H v u Q I r h => h pins s u I r⟩
theorem pgs_u {ts : List Expr} : PGs X ts (uGs X ts) := ⟨fun pins s σ H vs us Q I r h => h pins s us I r⟩
theorem pi_u {tg it : Expr} : PI X tg it (uI X tg it) := ⟨fun pins s σ H R I h => h pins s I⟩
theorem uG_of {t : Expr} {g : TG} (h : PG X t g) {v : V} {σ : L2.St} {H : Hp} {Q : L2.St → Hp → Prop} (q : g v σ H Q) : uG X t v σ H Q := fun pins s u I r => h.run pins s σ H v u Q I r q
theorem uGs_of {ts : List Expr} {g : TGs} (h : PGs X ts g) {vs : List V} {σ : L2.St} {H : Hp} {Q : L2.St → Hp → Prop} (q : g vs σ H Q) : uGs X ts vs σ H Q := fun pins s us I r => h.run pins s σ H vs us Q I r q
theorem uI_of {tg it : Expr} {w : TI} (h : PI X tg it w) {σ : L2.St} {H : Hp} {R : It → Hp → Prop} (q : w σ H R) : uI X tg it σ H R := fun pins s I => h.run pins s σ H R I q
end
/-- agree but at these places -/
def Agree (vs : List Nat) (σ σ' : L2.St) : Prop := σ'.length = σ.length ∧ ∀ i, i ∉ vs → σ'[i]? = σ[i]?
theorem wipe_get {σ : L2.St} {i : Nat} : ∀ {vs : List Nat}, i ∈ vs → i < σ.length → (wipe σ vs)[i]? = some none
  | [], h, _ => by simp at h
  | v :: vs, h, hl => by
    unfold wipe
    by_cases e : v = i
    · subst e
      rw [List.getElem?_set_self (by rw [wipe_length]; exact hl)]
    · rw [List.getElem?_set_ne e]
      refine wipe_get ?_ hl
      rcases List.mem_cons.mp h with q | q
      · exact absurd q.symm e
      · exact q
theorem Agree.wipe {vs : List Nat} {σ σ' : L2.St} (a : Agree vs σ σ') : L2.wipe σ' vs = L2.wipe σ vs := by
  apply List.ext_getElem?
  intro i
  by_cases h : i ∈ vs
  · by_cases hl : i < σ.length
    · rw [wipe_get h hl, wipe_get h (by rw [a.1]; exact hl)]
    · rw [List.getElem?_eq_none (by rw [wipe_length, a.1]; omega), List.getElem?_eq_none (by rw [wipe_length]; omega)]
  · rw [wipe_out h, wipe_out h, a.2 i h]
def SG (F : Fr) (t : Expr) (vs : List Nat) (m : Tg) : Prop := ∀ X, Good F X → ∀ Hk gk σ env h g H x d env', At X.K X.w Hk gk σ env h g H → Rep X.K X.w g H x d → m d env = some env' →
  ∀ Q : L2.St → Hp → Prop, (∀ σ', Agree vs σ σ' → At X.K X.w Hk gk σ' env' h g H → Q σ' H) → uG X t x σ H Q
def SGs (F : Fr) (ts : List Expr) (vs : List Nat) (m : List D → Ev → Option Ev) : Prop := ∀ X, Good F X → ∀ Hk gk σ env h g H xs ds env', At X.K X.w Hk gk σ env h g H → Reps X.K X.w g H xs ds → m ds env = some env' →
  ∀ Q : L2.St → Hp → Prop, (∀ σ', Agree vs σ σ' → At X.K X.w Hk gk σ' env' h g H → Q σ' H) → uGs X ts xs σ H Q
def tN (i : Nat) : Tg := fun d env => some (env.set i (.v d))
def tsNil : List D → Ev → Option Ev := fun ds env => match ds with
  | [] => some env
  | _ => none
def tsCons (m : Tg) (n : List D → Ev → Option Ev) : List D → Ev → Option Ev := fun ds env => match ds with
  | d :: ds => (match m d env with
    | some env => n ds env
    | none => none)
  | [] => none
def tT (n : List D → Ev → Option Ev) (k : Nat) : Tg := fun d env => match d with
  | .tup ds => if ds.length = k then n ds env else none
  | _ => none
section
variable {F : Fr} {e a b c : Expr} {es : List Expr} {pos : Pos} {X : Cx} {W : WX} {Hk : Hp} {gk g : Gh} {σ : L2.St} {env : Ev} {h : MH} {H : Hp}
theorem sg_name {i : Nat} {nm : Str} (hN : F.N[i]? = some nm := by rfl) (hx : F.sc.names.lookup nm = some .local ∨ (F.sc.names.lookup nm = some .cell ∧ F.fn nm = true) := by first | exact Or.inl rfl | exact Or.inr ⟨rfl, rfl⟩) : SG F (.Name nm pos) [i] (tN i) := fun X gd Hk gk σ env h g H x d env' at_ rx em Q k => by
  have hl : X.fn nm = true ∨ X.env.scope.names.lookup nm = some .local := by
    rw [gd.sc]
    rcases hx with hx | hx
    · exact .inr hx
    · exact .inl (gd.fn nm hx.2)
  refine uG_of (pg_name (i := i) gd.nd (by rw [gd.N]; exact hN) (by unfold L2.Loc; rw [gd.sc]; exact hx.imp id (·.1)) hl) ?_
  cases em
  refine k _ ⟨by rw [List.length_set], fun j hj => ?_⟩ (at_.asg (r := .v d) i rx)
  rw [List.getElem?_set_ne]
  intro q
  exact hj (by rw [q]; exact List.mem_cons_self)
theorem sgs_nil : SGs F [] [] tsNil := fun X gd Hk gk σ env h g H xs ds env' at_ rs em Q k => by
  refine uGs_of pgs_nil ?_
  cases ds with
  | nil =>
    rw [Reps.nil_iff] at rs
    cases em
    exact ⟨rs, k σ ⟨rfl, fun _ _ => rfl⟩ at_⟩
  | cons d ds => cases em
theorem sgs_cons {vs us : List Nat} {m : Tg} {n : List D → Ev → Option Ev} (h1 : SG F e vs m) (h2 : SGs F es us n) (hs : ∀ env, (assignEach (e :: es) env).map (·.2) = assign e env :: (assignEach es env).map (·.2) := by intros; rfl) : SGs F (e :: es) (vs ++ us) (tsCons m n) := fun X gd Hk gk σ env h g H xs ds env' at_ rs em Q k => by
  refine uGs_of (pgs_cons pg_u pgs_u (hs _)) ?_
  cases ds with
  | nil => cases em
  | cons d ds =>
    rw [Reps.cons_iff] at rs
    obtain ⟨v, r, rfl, r1, r2⟩ := rs
    simp only [tsCons] at em
    split at em
    · rename_i env1 e1
      refine ⟨v, r, rfl, ?_⟩
      refine h1 X gd Hk gk σ env h g H v d env1 at_ r1 e1 _ fun σ1 ag a1 => ?_
      refine h2 X gd Hk gk σ1 env1 h g H r ds env' a1 r2 em _ fun σ2 ag2 a2 => ?_
      refine k σ2 ⟨ag2.1.trans ag.1, fun i hi => ?_⟩ a2
      rw [ag2.2 i fun z => hi (List.mem_append_right _ z), ag.2 i fun z => hi (List.mem_append_left _ z)]
    · cases em
theorem sg_tup {vs : List Nat} {n : List D → Ev → Option Ev} {j k : Nat} (h1 : SGs F es vs n) (hn : ∀ env, (assignEach es env).length = k := by intros; rfl) (hst : ∀ env, (assignEach es env).findIdx? (·.1) = none := by intros; rfl) : SG F (.Tuple es j pos) vs (tT n k) := fun X gd Hk gk σ env h g H x d env' at_ rx em Q kk => by
  refine uG_of (pg_tup (n := k) gd.calm pgs_u (hn _) (hst _)) ?_
  cases d with
  | tup ds =>
    simp only [Rep] at rx
    obtain ⟨a, us, rfl, t, rs⟩ := rx
    simp only [tT] at em
    split at em
    · rename_i hl
      exact ⟨a, us, rfl, t.sq, by rw [rs.length]; exact hl, h1 X gd Hk gk σ env h g H us ds env' at_ rs em _ kk⟩
    · cases em
  | _ => cases em
/-- the same of a list -/
def tL (n : List D → Ev → Option Ev) (k : Nat) : Tg := fun d env => match d with
  | .lst ds => if ds.length = k then n ds env else none
  | _ => none
theorem sg_lst {vs : List Nat} {n : List D → Ev → Option Ev} {j k : Nat} (h1 : SGs F es vs n) (hn : ∀ env, (assignEach es env).length = k := by intros; rfl) (hst : ∀ env, (assignEach es env).findIdx? (·.1) = none := by intros; rfl) : SG F (.Tuple es j pos) vs (tL n k) := fun X gd Hk gk σ env h g H x d env' at_ rx em Q kk => by
  refine uG_of (pg_unl (n := k) gd.calm pgs_u (hn _) (hst _)) ?_
  cases d with
  | lst ds =>
    simp only [Rep] at rx
    obtain ⟨a, us, rfl, t, rs⟩ := rx
    simp only [tL] at em
    split at em
    · rename_i hl
      exact ⟨a, us, rfl, t.sq, by rw [rs.length]; exact hl, h1 X gd Hk gk σ env h g H us ds env' at_ rs em _ kk⟩
    · cases em
  | _ => cases em
def sAsg (t : Tg) (m : MV) : MS := fun env h => (m env h).bindS fun d env h => match t d env with
  | some env => .nx env h
  | none => .no
theorem ss_asg {t : Expr} {vs : List Nat} {m : MV} {tm : Tg} (hg : SG F t vs tm) (he : SV F e m) (hs : ∀ env, swapsWithSole [t] e pos.line env = pure false := by intros; rfl) (hw : ∀ env, swappedStores [t] e env = pure none := by intros; rfl) (h1 : ∀ env, (assignEach [t] env).map (·.2) = [assign t env] := by intros; rfl) :
    SS F (.Assign [t] e pos) (sAsg tm m) := fun X W gd tk Hk gk σ env h g H Dn at_ p => by
  refine uS_of (ps_asg pe_u pg_u (hs _) (hw _) (h1 _)) ?_
  refine he.goS gd.toGood tk at_ p fun d env1 h1 g1 H1 x s1 a1 rx p1 => ?_
  split at p1
  · rename_i env2 e2
    exact hg X gd.toGood Hk gk σ env1 h1 g1 H1 x d env2 a1 rx e2 _ fun σ' _ a2 => p1 σ' g1 H1 (Step.refl _ _) a2
  · exact p1.elim

/-! ## what is walked -/
/-- J hands out the ds, whatever happens meanwhile -/
def ItOk (K : PySem.W.Frag) (w : World) (g0 : Gh) (H0 : Hp) (J : It) (ds : List D) : Prop := ∀ g H h, Step g0 H0 g H → HAt K w h g H → ∀ i,
  (ds.length ≤ i → J.stop i H) ∧ ∀ d, ds[i]? = some d → J.go i H ∧ ∀ x H', J.yld i H x H' → ∃ g', Grow g H g' H' ∧ Rep K w g' H' x d
abbrev MI := Ev → MH → Rs (List D)
def SI (F : Fr) (tg it : Expr) (m : MI) : Prop := ∀ X W, Good F X → Takes X W → ∀ Hk gk σ env h g H (R : It → Hp → Prop), At X.K X.w Hk gk σ env h g H →
  post X.K X.w X.mg W Hk gk σ g H (m env h) (fun ds _ _ g' H' => ∀ J, ItOk X.K X.w g' H' J ds → R J H') → uI X tg it σ H R
def chars (s : List Nat) : List D := s.map fun c => .str [c]
def itemsD : D → Option (List D)
  | .lst ds => some ds
  | .tup ds => some ds
  | .str s => some (chars s)
  | _ => none
def iOf (m : MV) : MI := fun env h => (m env h).bind fun d env h => match itemsD d with
  | some ds => .ok ds env h
  | none => .no
theorem itl_ok {K : PySem.W.Frag} {w : World} {g0 : Gh} {H0 : Hp} {a : Addr} {vs : List V} {ds : List D} (l : LAt K g0 H0 a vs) (rs : Reps K w g0 H0 vs ds) : ItOk K w g0 H0 (Itl K a) ds := fun g H h s hat i => by
  have hq : SqL K H a vs := (l.step s).sq
  refine ⟨fun hi => ⟨vs, hq, by rw [rs.length]; exact hi⟩, fun d hd => ?_⟩
  obtain ⟨v, e, r⟩ := rs.get' hd
  refine ⟨⟨vs, v, hq, e⟩, fun x H' hy => ?_⟩
  obtain ⟨rfl, hx⟩ := hy
  have := hx vs hq
  rw [e] at this
  cases this
  exact ⟨g, Grow.refl hat, r.step s⟩
theorem itt_ok {K : PySem.W.Frag} {w : World} {g0 : Gh} {H0 : Hp} {a : Addr} {vs : List V} {ds : List D} (l : TAt K g0 H0 a vs) (rs : Reps K w g0 H0 vs ds) : ItOk K w g0 H0 (Itt K a) ds := fun g H h s hat i => by
  have hq : SqT K H a vs := (l.step s).sq
  refine ⟨fun hi => ⟨vs, hq, by rw [rs.length]; exact hi⟩, fun d hd => ?_⟩
  obtain ⟨v, e, r⟩ := rs.get' hd
  refine ⟨⟨vs, v, hq, e⟩, fun x H' hy => ?_⟩
  obtain ⟨rfl, hx⟩ := hy
  have := hx vs hq
  rw [e] at this
  cases this
  exact ⟨g, Grow.refl hat, r.step s⟩
theorem its_ok {K : PySem.W.Frag} {w : World} {g0 : Gh} {H0 : Hp} {s : List Nat} : ItOk K w g0 H0 (Its (S s)) (chars s) := fun g H h st hat i => by
  refine ⟨fun hi => by unfold chars at hi; rw [List.length_map] at hi; show (S s).cps.size ≤ i; simpa [S] using hi, fun d hd => ?_⟩
  unfold chars at hd
  rw [List.getElem?_map] at hd
  cases e : s[i]? with
  | none => rw [e] at hd; cases hd
  | some c =>
    rw [e] at hd
    cases hd
    have hi : i < s.length := (List.getElem?_eq_some_iff.mp e).1
    refine ⟨by show i < (S s).cps.size; simpa [S] using hi, fun x H' hy => ?_⟩
    obtain ⟨rfl, c', e', rfl⟩ := hy
    have : c' = c := by
      have e2 : (S s).cps[i]? = s[i]? := by simp [S]
      rw [e2, e] at e'
      exact (Option.some.inj e').symm
    subst this
    exact ⟨g, Grow.refl hat, by simp [Rep, S]⟩
theorem itr_ok {K : PySem.W.Frag} {w : World} {g0 : Gh} {H0 : Hp} {lo : Int} {n : Nat} : ItOk K w g0 H0 (Itr lo n) ((List.range n).map fun k => D.int (lo + (k : Nat))) := fun g H h st hat i => by
  refine ⟨fun hi => by rw [List.length_map, List.length_range] at hi; exact hi, fun d hd => ?_⟩
  rw [List.getElem?_map] at hd
  by_cases hi : i < n
  · rw [List.getElem?_range hi] at hd
    cases hd
    refine ⟨hi, fun x H' hy => ?_⟩
    obtain ⟨rfl, rfl⟩ := hy
    exact ⟨g, Grow.refl hat, by simp [Rep]⟩
  · rw [List.getElem?_eq_none (by rw [List.length_range]; omega)] at hd
    cases hd
/-- over a value: the rule is chosen by the data -/
theorem si_val {tg : Expr} {m : MV} (he : SV F e m) : SI F tg e (iOf m) := fun X W gd tk Hk gk σ env h g H R at_ p => by
  have p := post.bind p
  cases em : m env h with
  | no => rw [em] at p; exact p.elim
  | err x2 e2 h2 =>
    rw [em] at p
    refine uI_of (pi_list pe_u) ?_
    refine he X W gd tk Hk gk σ env h g H _ at_ ?_
    rw [em]
    exact p
  | ok d env1 h1 =>
    rw [em] at p
    cases d with
    | lst ds =>
      refine uI_of (pi_list pe_u) ?_
      refine he X W gd tk Hk gk σ env h g H _ at_ ?_
      rw [em]
      refine fun g1 H1 s1 a1 x rx => ?_
      simp only [Rep] at rx
      obtain ⟨a, vs, rfl, l, rs⟩ := rx
      exact ⟨a, rfl, ⟨vs, l.sq⟩, p g1 H1 s1 a1 g1 H1 (Step.refl _ _) a1 _ (itl_ok l rs)⟩
    | tup ds =>
      refine uI_of (pi_tup pe_u) ?_
      refine he X W gd tk Hk gk σ env h g H _ at_ ?_
      rw [em]
      refine fun g1 H1 s1 a1 x rx => ?_
      simp only [Rep] at rx
      obtain ⟨a, vs, rfl, l, rs⟩ := rx
      exact ⟨a, rfl, ⟨vs, l.sq⟩, p g1 H1 s1 a1 g1 H1 (Step.refl _ _) a1 _ (itt_ok l rs)⟩
    | str s =>
      refine uI_of (pi_str pe_u) ?_
      refine he X W gd tk Hk gk σ env h g H _ at_ ?_
      rw [em]
      refine fun g1 H1 s1 a1 x rx => ?_
      exact ⟨S s, by simpa [Rep] using rx, p g1 H1 s1 a1 g1 H1 (Step.refl _ _) a1 _ its_ok⟩
    | _ => exact (p g H (Step.refl g H) |> fun q => by
        refine uI_of (pi_list pe_u) ?_
        refine he X W gd tk Hk gk σ env h g H _ at_ ?_
        rw [em]
        exact fun g1 H1 s1 a1 x rx => (p g1 H1 s1 a1).elim)
def rangeD (lo : Int) (n : Nat) : List D := (List.range n).map fun k => D.int (lo + (k : Nat))
/-- no large int; its test is cheap for the kernel -/
def smallI (j : Int) : Prop := j.natAbs ≤ 1099511627776
instance (j : Int) : Decidable (smallI j) := by unfold smallI; infer_instance
def iRange1 (m : MV) : MI := fun env h => (m env h).bind fun d env h => match d with
  | .int j => if smallI j then .ok (rangeD 0 j.toNat) env h else .no
  | _ => .no
theorem si_range1 {tg : Expr} {m : MV} {p : Pos} (ha : SV F a m) (hg : F.sc.names.lookup ("range" : Str) = some .globalImplicit := by rfl) (hm : F.mg "range" = none) (hs : ∀ env, starEach [a] env = [(false, eval a env)] := by intros; rfl) : SI F tg (.Call (.Name "range" p) [a] [] pos) (iRange1 m) := fun X W gd tk Hk gk σ env h g H R at_ p => by
  refine uI_of (pi_range1 (by show X.env.scope.names.lookup _ = _; rw [gd.sc]; exact hg) (by rw [gd.mg]; exact hm) (pa_cons pe_u pa_nil (by rw [hs]; rfl)) (hs _)) ?_
  show uE X a σ H fun x H1 => ∃ j : Int, [x] = [.int j] ∧ -(2 ^ 62) ≤ j ∧ j < 2 ^ 62 ∧ R (Itr 0 j.toNat) H1
  refine ha.go gd tk at_ p fun d env1 h1 g1 H1 x s1 a1 rx p1 => ?_
  split at p1
  · rename_i j
    split at p1
    · rename_i hj
      unfold smallI at hj
      exact ⟨j, by simpa [Rep] using rx, by omega, by omega, p1 g1 H1 (Step.refl _ _) a1 _ itr_ok⟩
    · exact p1.elim
  · exact p1.elim
def iRange2 (m n : MV) : MI := fun env h => (m env h).bind fun d env h => (n env h).bind fun d' env h => match d, d' with
  | .int i, .int j => if smallI i ∧ smallI j then .ok (rangeD i (j - i).toNat) env h else .no
  | _, _ => .no
theorem si_range2 {tg : Expr} {m n : MV} {p : Pos} (ha : SV F a m) (hb : SV F b n) (hg : F.sc.names.lookup ("range" : Str) = some .globalImplicit := by rfl) (hm : F.mg "range" = none) (hs : ∀ env, starEach [a, b] env = [(false, eval a env), (false, eval b env)] := by intros; rfl) (hs2 : ∀ env, starEach [b] env = [(false, eval b env)] := by intros; rfl) :
    SI F tg (.Call (.Name "range" p) [a, b] [] pos) (iRange2 m n) := fun X W gd tk Hk gk σ env h g H R at_ p => by
  refine uI_of (pi_range2 (by show X.env.scope.names.lookup _ = _; rw [gd.sc]; exact hg) (by rw [gd.mg]; exact hm) (pa_cons pe_u (pa_cons pe_u pa_nil (by rw [hs2]; rfl)) (by rw [hs, hs2])) (hs _) (hs2 _)) ?_
  show uE X a σ H fun x H1 => uE X b σ H1 fun y H2 => ∃ i j : Int, [x, y] = [.int i, .int j] ∧ (-(2 ^ 62) ≤ i ∧ i < 2 ^ 62 ∧ -(2 ^ 62) ≤ j ∧ j < 2 ^ 62) ∧ R (Itr i (j - i).toNat) H2
  refine ha.go gd tk at_ p fun d env1 h1 g1 H1 x s1 a1 rx p1 => ?_
  refine hb.go gd tk a1 p1 fun d' env2 h2 g2 H2 y s2 a2 ry p2 => ?_
  split at p2
  · rename_i i j
    split at p2
    · rename_i hj
      have e1 : x = .int i := by simpa [Rep] using rx
      have e2 : y = .int j := by simpa [Rep] using ry
      obtain ⟨hj1, hj2⟩ := hj
      unfold smallI at hj1 hj2
      exact ⟨i, j, by rw [e1, e2], by refine ⟨?_, ?_, ?_, ?_⟩ <;> omega, p2 g2 H2 (Step.refl _ _) a2 _ itr_ok⟩
    · exact p2.elim
  · exact p2.elim

/-! ## for, while -/
def sForL (t : Tg) (mb : MS) : List D → MS
  | [], env, h => .nx env h
  | d :: ds, env, h => match t d env with
    | none => .no
    | some env1 => match mb env1 h with
      | .nx e h => sForL t mb ds e h
      | .ct e h => sForL t mb ds e h
      | .bk e h => .nx e h
      | r => r
def sFor (t : Tg) (m : MI) (mb : MS) : MS := fun env h => (m env h).bindS fun ds env h => sForL t mb ds env h
theorem ss_for {tg it : Expr} {vs : List Nat} {t : Tg} {m : MI} {mb : MS} {body : List Stmt} (hg : SG F tg vs t) (hi : SI F tg it m) (hb : SSs F body mb) (hs : ∀ env x, foldedSetIterable it env x = pure x := by intros; rfl) : SS F (.For tg it body [] pos) (sFor t m mb) := fun X W gd tk Hk gk σ env h g H Dn at_ p => by
  refine uS_of (ps_for gd.po gd.calm pi_u pg_u pss_u (hs _)) ?_
  refine hi X W gd.toGood tk Hk gk σ env h g H _ at_ ((postS.bind p).imp fun ds env1 h1 g1 H1 s1 a1 q J hJ => ?_)
  refine ⟨fun i m σ H => m = ds.length - i ∧ ∃ env h g, Step g1 H1 g H ∧ At X.K X.w Hk gk σ env h g H ∧ postS X.K X.w X.mg W Hk gk g H (sForL t mb (ds.drop i) env h) Dn,
    ⟨ds.length, by omega, env1, h1, g1, Step.refl _ _, a1, q⟩, fun i m σ2 H2 hW => ?_⟩
  obtain ⟨rfl, env2, h2, g2, s2, a2, q2⟩ := hW
  have hj := hJ g2 H2 h2 s2 a2.hat i
  by_cases hlen : i < ds.length
  · obtain ⟨hgo, hy⟩ := hj.2 _ (List.getElem?_eq_getElem hlen)
    rw [List.drop_eq_getElem_cons hlen] at q2
    refine .inr ⟨hgo, fun σ' H' => ∃ env h g, Step g1 H1 g H' ∧ At X.K X.w Hk gk σ' env h g H' ∧ postS X.K X.w X.mg W Hk gk g H' (sForL t mb (ds.drop (i + 1)) env h) Dn, fun σ' H' hN => ?_, fun x H' y => ?_⟩
    · obtain ⟨env3, h3, g3, s3, a3, q3⟩ := hN
      exact ⟨ds.length - (i + 1), by omega, rfl, env3, h3, g3, s3, a3, q3⟩
    · obtain ⟨g3, gr, r3⟩ := hy x H' y
      have a3 := gr.at a2
      have s3 := (gr.fstep a2.hat).toStep
      have q3 := postS.step s3 q2
      unfold sForL at q3
      split at q3
      · exact q3.elim
      · rename_i env3 et
        refine hg X gd.toGood Hk gk σ2 env2 h2 g3 H' x _ env3 a3 r3 et _ fun σ3 _ a4 => ?_
        refine hb X W gd tk Hk gk σ3 env3 h2 g3 H' _ a4 ?_
        cases er : mb env3 h2 with
        | nx e h' => rw [er] at q3; exact fun σ' g' H'' s' a' => ⟨e, h', g', (s2.trans s3).trans s', a', postS.step s' q3⟩
        | ct e h' => rw [er] at q3; exact fun σ' g' H'' s' a' => ⟨e, h', g', (s2.trans s3).trans s', a', postS.step s' q3⟩
        | bk e h' => rw [er] at q3; exact q3
        | rt r e h' => rw [er] at q3; exact q3
        | err x e h' => rw [er] at q3; exact q3
        | no => rw [er] at q3; exact q3.elim
  · rw [List.drop_eq_nil_of_le (by omega)] at q2
    exact .inl ⟨hj.1 (by omega), q2 σ2 g2 H2 (Step.refl _ _) a2⟩
def sWhile (c : MB) (mb : MS) : Nat → MS
  | 0, _, _ => .no
  | n + 1, env, h => (c env h).bindS fun b env h => if b = true then (match mb env h with
      | .nx e h => sWhile c mb n e h
      | .ct e h => sWhile c mb n e h
      | .bk e h => .nx e h
      | r => r) else .nx env h
theorem ss_while {c : Expr} {mc : MB} {mb : MS} {body : List Stmt} (n : Nat) (hc : SB F c mc) (hb : SSs F body mb) : SS F (.While c body [] pos) (sWhile mc mb n) := fun X W gd tk Hk gk σ env h g H Dn at_ p => by
  refine uS_of (ps_while gd.po pt_u pss_u) ?_
  refine ⟨fun m σ H' => ∃ env h g', Step g H g' H' ∧ At X.K X.w Hk gk σ env h g' H' ∧ postS X.K X.w X.mg W Hk gk g' H' (sWhile mc mb m env h) Dn, ⟨n, env, h, g, Step.refl _ _, at_, p⟩, fun m σ1 H1 hW => ?_⟩
  obtain ⟨env1, h1, g1, s1, a1, p1⟩ := hW
  cases m with
  | zero => exact p1.elim
  | succ m =>
    unfold sWhile at p1
    refine hc.goS gd.toGood tk a1 p1 fun b env2 h2 g2 H2 s2 a2 p2 => ?_
    cases b with
    | false => rw [if_neg (by decide)] at p2 ⊢; exact p2 σ1 g2 H2 (Step.refl _ _) a2
    | true =>
      rw [if_pos rfl] at p2 ⊢
      refine ⟨fun σ' H' => ∃ env h g', Step g H g' H' ∧ At X.K X.w Hk gk σ' env h g' H' ∧ postS X.K X.w X.mg W Hk gk g' H' (sWhile mc mb m env h) Dn, fun σ' H' hN => ⟨m, Nat.lt_succ_self m, hN⟩, ?_⟩
      refine hb X W gd tk Hk gk σ1 env2 h2 g2 H2 _ a2 ?_
      cases er : mb env2 h2 with
      | nx e h' => rw [er] at p2; exact fun σ' g' H'' s' a' => ⟨e, h', g', (s1.trans s2).trans s', a', postS.step s' p2⟩
      | ct e h' => rw [er] at p2; exact fun σ' g' H'' s' a' => ⟨e, h', g', (s1.trans s2).trans s', a', postS.step s' p2⟩
      | bk e h' => rw [er] at p2; exact p2
      | rt r e h' => rw [er] at p2; exact p2
      | err x e h' => rw [er] at p2; exact p2
      | no => rw [er] at p2; exact p2.elim
end
end Mi
set_option Elab.async false
set_option linter.all false
set_option maxRecDepth 100000
open PySem PySem.Spec PyProof.Rows L2
namespace Mi

/-! ## list comprehensions -/
def frz1 (env : Ev) (i : Nat) : Ev := match env[i]? with
  | some (.own ds) => env.set i (.v (.lst ds))
  | _ => env
def frzE (cap : List Nat) (env : Ev) : Ev := cap.foldl frz1 env
def maskS : Sl → Sl
  | .v d => .v d
  | _ => .un
def mask (cap : List Nat) : Nat → Ev → Ev
  | _, [] => []
  | n, s :: r => (if n ∈ cap then maskS s else .un) :: mask cap (n + 1) r
theorem mask_length (cap : List Nat) : ∀ (n : Nat) (env : Ev), (mask cap n env).length = env.length
  | _, [] => rfl
  | n, s :: r => by unfold mask; rw [List.length_cons, List.length_cons, mask_length cap (n + 1) r]
theorem mask_get (cap : List Nat) : ∀ (n : Nat) (env : Ev) (i : Nat), (mask cap n env)[i]? = env[i]?.map fun s => if n + i ∈ cap then maskS s else .un
  | _, [], _ => by simp [mask]
  | n, s :: r, 0 => by simp [mask]
  | n, s :: r, i + 1 => by
    unfold mask
    rw [List.getElem?_cons_succ, List.getElem?_cons_succ, mask_get cap (n + 1) r i]
    have : n + 1 + i = n + (i + 1) := by omega
    rw [this]
def compL (t : Tg) (c : MB) (elt : MV) (menv : Ev) : List D → MH → List D → Option (List D × MH)
  | [], h, acc => some (acc, h)
  | d :: ds, h, acc => match t d menv with
    | none => none
    | some e1 => match c e1 h with
      | .ok b e2 h2 => if b = true then (match elt e2 h2 with
          | .ok y _ h3 => if acc.length < sizeLine then compL t c elt menv ds h3 (acc ++ [y]) else none
          | _ => none) else compL t c elt menv ds h2 acc
      | _ => none
def eComp (cap : List Nat) (t : Tg) (mi : MI) (c : MB) (elt : MV) : ME := fun env h => (mi env h).bind fun ds env h => match compL t c elt (mask cap 0 (frzE cap env)) ds h [] with
  | some (acc, h') => .ok (.own acc) (frzE cap env) h'
  | none => .no
section
variable (X : Cx)
def uTs (ifs : List Expr) : TT := fun σ H Q => ∀ pins s, Inv X pins σ H s → wpAny (model X.prog X.w) X.A (forIn ifs true fun c r => if r = true then do let ok ← isTrue c X.env (eval c X.env); pure (ForInStep.yield ok) else pure (ForInStep.yield r)) (TP X pins σ Q) X.xe s
abbrev blkX (s : Shared) (H : Hp) (scope : Scope) (C : Addr) (cl : List (Str × Addr)) (fp : List Addr) : Cx := X.blk s H scope (compEnvC scope cl C X.env) fp
def uGb (scope : Scope) (t : Expr) : TG := fun v σ H Q => ∀ s0 H0 C cl fp, uG (blkX X s0 H0 scope C cl fp) t v σ H Q
def uTb (scope : Scope) (ifs : List Expr) : TT := fun σ H Q => ∀ s0 H0 C cl fp, uTs (blkX X s0 H0 scope C cl fp) ifs σ H Q
def uEb (scope : Scope) (e : Expr) : TE := fun σ H Q => ∀ s0 H0 C cl fp, uE (blkX X s0 H0 scope C cl fp) e σ H Q
def uIb (scope : Scope) (tg it : Expr) : TI := fun σ H R => ∀ s0 H0 C cl fp, uI (blkX X s0 H0 scope C cl fp) tg it σ H R
end
theorem pts_u {X : Cx} {ifs : List Expr} : PTs X ifs (uTs X ifs) := ⟨fun pins s σ H Q I h => h pins s I⟩
theorem uTs_of {X : Cx} {ifs : List Expr} {t : TT} (h : PTs X ifs t) {σ : L2.St} {H : Hp} {Q : Bool → Hp → Prop} (q : t σ H Q) : uTs X ifs σ H Q := fun pins s I => h.run pins s σ H Q I q
def SBs (F : Fr) (ifs : List Expr) (m : MB) : Prop := ∀ X W, Good F X → Takes X W → ∀ Hk gk σ env h g H (Q : Bool → Hp → Prop), At X.K X.w Hk gk σ env h g H →
  post X.K X.w X.mg W Hk gk σ g H (m env h) (fun b _ _ _ H' => Q b H') → uTs X ifs σ H Q
def bYes : MB := fun env h => .ok true env h
theorem sbs_nil {F : Fr} : SBs F [] bYes := fun X W gd tk Hk gk σ env h g H Q at_ p => uTs_of pts_nil (p g H (Step.refl _ _) at_)
theorem sbs_one {F : Fr} {c : Expr} {m : MB} (hc : SB F c m) : SBs F [c] m := fun X W gd tk Hk gk σ env h g H Q at_ p => uTs_of (pts_one pt_u) (hc X W gd tk Hk gk σ env h g H Q at_ p)
/-- the frame of a comprehension's block -/
def Fr.blk (F : Fr) (scope : Scope) : Fr := { F with sc := relS scope F.sc, fn := fun x => scope.names.lookup x == some .cell }
theorem good_blk {F : Fr} {X : Cx} {scope : Scope} {own : List (Str × Nat)} (gd : Good F X) (ok : BlkOk F.N F.sc scope own) (s0 : Shared) (H0 : Hp) (C : Addr) (cl : List (Str × Addr)) (fp : List Addr) : Good (F.blk scope) (blkX X s0 H0 scope C cl fp) where
  prog := gd.prog
  w := gd.w
  K := gd.K
  mg := gd.mg
  base := gd.base
  N := gd.N
  nd := gd.nd
  sc := by
    show relabel scope X.env = relS scope F.sc
    unfold relabel relS
    rw [← gd.sc]
    rfl
  kf := ok.kind
  room := gd.room
  calm := gd.calm
  fn := fun x hx => hx
theorem wipe_wipe (σ : L2.St) (vs : List Nat) : L2.wipe (L2.wipe σ vs) vs = L2.wipe σ vs := by
  apply List.ext_getElem?
  intro i
  by_cases h : i ∈ vs
  · by_cases hl : i < σ.length
    · rw [wipe_get h hl, wipe_get h (by rw [wipe_length]; exact hl)]
    · rw [List.getElem?_eq_none (by rw [wipe_length, wipe_length]; omega), List.getElem?_eq_none (by rw [wipe_length]; omega)]
  · rw [wipe_out h, wipe_out h]
section
variable {K : PySem.W.Frag} {w : World} {mg : Str → Option Value} {W : WX} {Hk : Hp} {gk : Gh} {σ : L2.St} {g g1 g' : Gh} {H H1 H' : Hp} {env : Ev} {h h' : MH}
theorem At.frzE (cap : List Nat) : ∀ {env : Ev} {g : Gh}, At K w Hk gk σ env h g H → ∃ g', At K w Hk gk σ (Mi.frzE cap env) h g' H ∧ Step g H g' H := by
  induction cap with
  | nil => exact fun a => ⟨_, a, Step.refl _ _⟩
  | cons i cap ih =>
    intro env g a
    show ∃ g', At K w Hk gk σ (Mi.frzE cap (frz1 env i)) h g' H ∧ Step g H g' H
    unfold frz1
    split
    · rename_i ds e
      obtain ⟨x, h1, b1, b2, b3⟩ := a.freezeAt e
      obtain ⟨g', c1, c2⟩ := ih b1
      exact ⟨g', c1, b2.trans c2⟩
    · exact ih a
theorem At.blk {cap vs : List Nat} (a : At K w Hk gk σ env h g H) (hd : ∀ i ∈ cap, i ∉ vs) : At K w H g (L2.wipe σ vs) (mask cap 0 env) h g H where
  hat := a.hat
  fs := FStep.refl a.hat
  len := by rw [mask_length, wipe_length]; exact a.len
  val := fun i d e => by
    rw [mask_get] at e
    cases e2 : env[i]? with
    | none => rw [e2] at e; cases e
    | some s =>
      rw [e2] at e
      simp only [Option.map_some, Option.some.injEq, Nat.zero_add] at e
      split at e
      · rename_i hc
        cases s with
        | v d' =>
          cases e
          obtain ⟨x, h1, h2⟩ := a.val i d e2
          exact ⟨x, by rw [wipe_out (hd i hc)]; exact h1, h2⟩
        | un => cases e
        | own ds => cases e
      · cases e
  own := fun i d e => by
    rw [mask_get] at e
    cases e2 : env[i]? with
    | none => rw [e2] at e; cases e
    | some s =>
      rw [e2] at e
      simp only [Option.map_some, Option.some.injEq, Nat.zero_add] at e
      split at e
      · cases s <;> cases e
      · cases e
  dist := fun i j d1 d2 x e => by
    rw [mask_get] at e
    cases e2 : env[i]? with
    | none => rw [e2] at e; cases e
    | some s =>
      rw [e2] at e
      simp only [Option.map_some, Option.some.injEq, Nat.zero_add] at e
      split at e
      · cases s <;> cases e
      · cases e
/-- a list in hand is changed -/
theorem At.mutFree (a : At K w Hk gk σ env h g H) {x : Addr} {ds es : List D} {us : List V} (o : OwnAt K w Hk g H x ds) (n : ∀ (i : Nat) (ds : List D), env[i]? = some (.own ds) → σ[i]? ≠ some (some (.ref x))) (r : Reps K w g H us es) :
    At K w Hk gk σ env h g (upd H x (.lst us)) ∧ Step g H g (upd H x (.lst us)) ∧ OwnAt K w Hk g (upd H x (.lst us)) x es := by
  have s : Step g H g (upd H x (.lst us)) := ⟨fun _ f => f, fun b f => upd_ne fun z => o.nf (by rw [← z]; exact f), Nat.le_refl _, fun _ _ => rfl⟩
  refine ⟨⟨⟨a.hat.top, fun b f => ?_, fun m ob e' => ?_, a.hat.inj⟩, ⟨a.fs.toStep.trans s, fun b u e' n => ?_, a.fs.newρ, a.fs.newF⟩, a.len, fun j d e' => ?_, fun j d e' => ?_, a.dist⟩, s, ⟨⟨us, upd_same, r.step s⟩, o.nf, o.nρ, o.nk⟩⟩
  · rw [upd_ne (show b ≠ x from fun z => o.nf (by rw [← z]; exact f))]
    exact a.hat.fz b f
  · obtain ⟨h3, h4⟩ := a.hat.obj m ob e'
    have hm : g.ρ m ≠ x := o.nρ m (by rw [a.hat.top]; exact (List.getElem?_eq_some_iff.mp e').1)
    exact ⟨ORep.step s (fun u q => by rw [upd_ne hm]; exact q) h3, h4⟩
  · rw [upd_ne (show b ≠ x from fun z => by rw [z, o.nk] at e'; cases e')]
    exact a.fs.keep b u e' n
  · obtain ⟨y, h5, h6⟩ := a.val j d e'
    exact ⟨y, h5, h6.step s⟩
  · obtain ⟨y, h5, h6⟩ := a.own j d e'
    obtain ⟨ws, h7, h8⟩ := h6.at_
    have hy : y ≠ x := fun z => n j d e' (by rw [h5, z])
    exact ⟨y, h5, ⟨ws, by rw [upd_ne hy]; exact h7, h8.step s⟩, h6.nf, h6.nρ, h6.nk⟩
end
section
variable {F : Fr} {e a b c : Expr} {es : List Expr} {pos : Pos} {X : Cx} {W : WX} {Hk : Hp} {gk g : Gh} {σ : L2.St} {env : Ev} {h : MH} {H : Hp}
/-- the loop of a comprehension's clause: σb, menv are the block's slots at each turn's beginning -/
theorem compL_W {scope : Scope} {elt tg : Expr} {ifs : List Expr} {tvs vs : List Nat} {t : Tg} {mc : MB} {me : MV} {Fb : Fr} (hg : SG Fb tg tvs t) (htv : ∀ i ∈ tvs, i ∈ vs) (hc : SBs Fb ifs mc) (he : SV Fb elt me)
    (gdb : ∀ s0 H0 C cl fp, Good Fb (blkX X s0 H0 scope C cl fp)) {σb : L2.St} {menv : Ev} {g1 : Gh} {H1 : Hp} (hno : ∀ (i : Nat) (ds : List D), menv[i]? ≠ some (.own ds)) (hlen : menv.length = σb.length)
    (hval : ∀ (i : Nat) (d : D), menv[i]? = some (.v d) → ∃ x, σb[i]? = some (some x) ∧ Rep X.K X.w g1 H1 x d) {J : It} {ds : List D} (hJ : ItOk X.K X.w g1 H1 J ds)
    {Dl : Addr} (f4 : ∀ (i : Nat) (es : List D), env[i]? = some (.own es) → σ[i]? ≠ some (some (.ref Dl))) {res : List D × MH} {Fin : Hp → Prop}
    (hfin : ∀ h g H acc, Step g1 H1 g H → At X.K X.w Hk gk σ env h g H → OwnAt X.K X.w Hk g H Dl acc → res = (acc, h) → Fin H)
    {h2 : MH} {g2 : Gh} {H2 : Hp} {acc2 : List D} (s2 : Step g1 H1 g2 H2) (a2 : At X.K X.w Hk gk σ env h2 g2 H2) (o2 : OwnAt X.K X.w Hk g2 H2 Dl acc2) (e2 : compL t mc me menv ds h2 acc2 = some res) :
    ∃ W : Nat → Nat → Hp → Prop, (∃ m, W 0 m H2) ∧ ∀ i m H, W i m H →
      (J.stop i H ∧ Fin H) ∨ (J.go i H ∧ ∃ Nx : Hp → Prop, (∀ H', Nx H' → ∃ m', m' < m ∧ W (i + 1) m' H') ∧ ∀ x H', J.yld i H x H' → uGb X scope tg x σb H' fun σ2 H2 => L2.wipe σ2 vs = L2.wipe σb vs ∧ uTb X scope ifs σ2 H2 fun b H3 =>
        if b = true then uEb X scope elt σ2 H3 fun y H4 => ∃ acc, H4 Dl = some (.lst acc) ∧ acc.length < sizeLine ∧ Nx (upd H4 Dl (.lst (acc ++ [y]))) else Nx H3) := by
  refine ⟨fun i m H => m = ds.length - i ∧ ∃ h g acc, Step g1 H1 g H ∧ At X.K X.w Hk gk σ env h g H ∧ OwnAt X.K X.w Hk g H Dl acc ∧ compL t mc me menv (ds.drop i) h acc = some res,
    ⟨ds.length, by omega, h2, g2, acc2, s2, a2, o2, e2⟩, fun i m H2 hW => ?_⟩
  obtain ⟨rfl, h2, g2, acc, s2, a2, o2, e2⟩ := hW
  have hj := hJ g2 H2 h2 s2 a2.hat i
  by_cases hlen2 : i < ds.length
  · obtain ⟨hgo, hy⟩ := hj.2 _ (List.getElem?_eq_getElem hlen2)
    rw [List.drop_eq_getElem_cons hlen2] at e2
    refine .inr ⟨hgo, fun H' => ∃ h g acc, Step g1 H1 g H' ∧ At X.K X.w Hk gk σ env h g H' ∧ OwnAt X.K X.w Hk g H' Dl acc ∧ compL t mc me menv (ds.drop (i + 1)) h acc = some res,
      fun H' hN => ⟨ds.length - (i + 1), by omega, rfl, hN⟩, fun x H3 hx => ?_⟩
    obtain ⟨g3, gr, r3⟩ := hy x H3 hx
    have fs3 := gr.fstep a2.hat
    have a3 := gr.at a2
    have o3 := o2.fstep fs3
    have st3 := s2.trans fs3.toStep
    have b3 : At X.K X.w H3 g3 σb menv h2 g3 H3 := ⟨a3.hat, FStep.refl a3.hat, hlen, fun i d e => (hval i d e).imp fun x hx => ⟨hx.1, hx.2.step st3⟩, fun i d e => absurd e (hno i d), fun i j d1 d2 x e => absurd e (hno i d1)⟩
    unfold compL at e2
    split at e2
    · cases e2
    · rename_i e1 et
      intro s0 H0 C cl fp
      refine hg (blkX X s0 H0 scope C cl fp) (gdb s0 H0 C cl fp) H3 g3 _ _ h2 g3 H3 x _ e1 b3 r3 et _ fun σ2 ag a4 => ?_
      have ag' : Agree vs σb σ2 := ⟨ag.1, fun i hi => ag.2 i fun z => hi (htv i z)⟩
      refine ⟨ag'.wipe, ?_⟩
      intro s0 H0 C cl fp
      refine hc (blkX X s0 H0 scope C cl fp) _ (gdb s0 H0 C cl fp) takes0 H3 g3 σ2 e1 h2 g3 H3 _ a4 ?_
      cases ec : mc e1 h2 with
      | no => rw [ec] at e2; cases e2
      | err x3 e3 h3 => rw [ec] at e2; cases e2
      | ok b env3 h3 =>
        rw [ec] at e2
        refine fun g5 H5 s5 a5 => ?_
        cases b with
        | false =>
          rw [if_neg (by decide)]
          dsimp only at e2
          rw [if_neg (by decide)] at e2
          exact ⟨h3, g5, acc, st3.trans s5, a3.fstep a5.fs a5.hat, o3.fstep a5.fs, e2⟩
        | true =>
          rw [if_pos rfl]
          dsimp only at e2
          rw [if_pos rfl] at e2
          intro s0 H0 C cl fp
          refine he (blkX X s0 H0 scope C cl fp) _ (gdb s0 H0 C cl fp) takes0 H3 g3 σ2 env3 h3 g5 H5 _ a5 ?_
          cases ee : me env3 h3 with
          | no => rw [ee] at e2; cases e2
          | err x3 e3 h3 => rw [ee] at e2; cases e2
          | ok y env4 h4 =>
            rw [ee] at e2
            dsimp only at e2
            split at e2
            · rename_i hz
              refine fun g6 H6 s6 a6 z rz => ?_
              have o6 := o3.fstep a6.fs
              have a7 := a3.fstep a6.fs a6.hat
              obtain ⟨vs, hD6, rs6⟩ := o6.at_
              refine ⟨vs, hD6, by rw [rs6.length]; exact hz, ?_⟩
              obtain ⟨a8, s8, o8⟩ := a7.mutFree (us := vs ++ [z]) (es := acc ++ [y]) o6 f4 (rs6.append (Reps.cons rz Reps.nil))
              exact ⟨h4, g6, acc ++ [y], ((st3.trans s5).trans s6).trans s8, a8, o8, e2⟩
            · cases e2
  · rw [List.drop_eq_nil_of_le (by omega)] at e2
    cases e2
    exact .inl ⟨hj.1 (by omega), hfin h2 g2 H2 acc s2 a2 o2 rfl⟩
theorem comp_go {elt tg iter : Expr} {ifs : List Expr} {scope : Scope} {own : List (Str × Nat)} {cap tvs : List Nat} {t : Tg} {mi : MI} {mc : MB} {me : MV} (hi : SI F tg iter mi) (ok : BlkOk F.N F.sc scope own) (hd : ∀ i ∈ cap, i ∉ own.map (·.2))
    (hg : SG (F.blk scope) tg tvs t) (htv : ∀ i ∈ tvs, i ∈ own.map (·.2)) (hc : SBs (F.blk scope) ifs mc) (he : SV (F.blk scope) elt me) (gd : Good F X) (tk : Takes X W) (at_ : At X.K X.w Hk gk σ env h g H) {Q : VK}
    (p : post X.K X.w X.mg W Hk gk σ g H (eComp cap t mi mc me env h) (fun r env' _ g' H' => ∀ x, RR X.K X.w Hk σ env' g' H' x r → Q x H')) :
    tLc (uI X tg iter) (uGb X scope tg) (uTb X scope ifs) (uEb X scope elt) (own.map (·.2)) σ H Q := by
  refine hi X W gd tk Hk gk σ env h g H _ at_ ((post.bind p).imp fun ds env1 h1 g1 H1 s1 a1 q J hJ => ?_)
  intro Dl hD
  split at q
  · rename_i res hf eres
    obtain ⟨g1f, a1f, sf⟩ := a1.frzE cap
    have grD : Grow g1f H1 g1f (upd H1 Dl (.lst [])) := grow_new a1f.hat hD
    have aD := grD.at a1f
    have sD := (grD.fstep a1f.hat).toStep
    obtain ⟨f1, f2, f3, f4⟩ := a1f.fresh hD
    have oD : OwnAt X.K X.w Hk g1f (upd H1 Dl (.lst [])) Dl [] := ⟨⟨[], upd_same, Reps.nil⟩, f2, f3, f1⟩
    have bD := aD.blk hd
    have := compL_W (vs := own.map (·.2)) (scope := scope) hg htv hc he (fun s0 H0 C cl fp => good_blk gd ok s0 H0 C cl fp) (σb := L2.wipe σ (own.map (·.2))) (menv := mask cap 0 (frzE cap env1)) (g1 := g1f) (H1 := upd H1 Dl (.lst []))
      (fun i d e => by obtain ⟨x, _, o⟩ := bD.own i d e; have := o.nk; obtain ⟨vs, e3, _⟩ := o.at_; rw [e3] at this; cases this) bD.len bD.val
      (J := J) (ds := ds) (fun g H h s hat i => hJ g H h ((sf.trans sD).trans s) hat i) f4 (res := (res, hf)) (Fin := fun H => Q (.ref Dl) H)
      (fun h g H acc s a o e => by cases e; exact q g H ((sf.trans sD).trans s) a _ ⟨Dl, rfl, o, f4⟩) (Step.refl _ _) aD oD eres
    rw [wipe_wipe] at this
    exact this
  · exact q.elim
theorem se_comp {elt tg iter : Expr} {ifs : List Expr} {scope : Scope} {own : List (Str × Nat)} {cap tvs : List Nat} {t : Tg} {mi : MI} {mc : MB} {me : MV} (hi : SI F tg iter mi) (ok : BlkOk F.N F.sc scope own := by exact blkOk_by (by (try dsimp only [Fr.blk]); decide +kernel)) (hd : ∀ i ∈ cap, i ∉ own.map (·.2) := by decide)
    (hg : SG (F.blk scope) tg tvs t) (htv : ∀ i ∈ tvs, i ∈ own.map (·.2) := by decide) (hc : SBs (F.blk scope) ifs mc) (he : SV (F.blk scope) elt me) (hs : ∀ env x, foldedSetIterable iter env x = pure x := by intros; rfl) :
    SE F (.ListComp elt [⟨tg, iter, ifs, 0⟩] scope pos) (eComp cap t mi mc me) := fun X W gd tk Hk gk σ env h g H Q at_ p => by
  refine uE_of (pe_lc (own := own) gd.calm gd.nd pi_u (by rw [gd.N, gd.sc]; exact ok) (g := uGb X scope tg) (tt := uTb X scope ifs) (te := uEb X scope elt) (fun s H C cl fp => ⟨fun pins s σ H v u Q I r h => h _ _ _ _ _ pins s u I r⟩)
    (fun s H C cl fp => ⟨fun pins s σ H Q I h => h _ _ _ _ _ pins s I⟩) (fun s H C cl fp => ⟨fun pins s σ H Q I h => h _ _ _ _ _ pins s I⟩) (hs _)) ?_
  exact comp_go hi ok hd hg htv hc he gd tk at_ p
/-- name = [..] on one line, the name a local -/
theorem ss_setLc {i : Nat} {y : Str} {py spos : Pos} {elt tg iter : Expr} {ifs : List Expr} {scope : Scope} {own : List (Str × Nat)} {cap tvs : List Nat} {t : Tg} {mi : MI} {mc : MB} {me : MV} (hN : F.N[i]? = some y := by rfl) (hx : F.sc.names.lookup y = some .local := by rfl)
    (hsw : ∀ env : PySem.Env, env.scope.kind = .function → env.scope.names.lookup y = some .local → swapsWith (.ListComp elt [⟨tg, iter, ifs, 0⟩] scope pos) (some (.Name y py)) spos.line env = pure true := by exact fun _ h1 h2 => sw_true h1 h2 rfl (by decide +kernel))
    (hi : SI F tg iter mi) (ok : BlkOk F.N F.sc scope own := by exact blkOk_by (by (try dsimp only [Fr.blk]); decide +kernel)) (hd : ∀ i ∈ cap, i ∉ own.map (·.2) := by decide)
    (hg : SG (F.blk scope) tg tvs t) (htv : ∀ i ∈ tvs, i ∈ own.map (·.2) := by decide) (hc : SBs (F.blk scope) ifs mc) (he : SV (F.blk scope) elt me) (hs : ∀ env x, foldedSetIterable iter env x = pure x := by intros; rfl) :
    SS F (.Assign [.Name y py] (.ListComp elt [⟨tg, iter, ifs, 0⟩] scope pos) spos) (sSet i (eComp cap t mi mc me)) := fun X W gd tk Hk gk σ env h g H Dn at_ p => by
  refine uS_of (ps_setLc (own := own) gd.calm gd.nd (by rw [gd.N]; exact hN) (by rw [gd.sc]; exact hx) (hsw _ (by rw [gd.sc]; exact gd.kf) (by rw [gd.sc]; exact hx)) pi_u (by rw [gd.N, gd.sc]; exact ok) (g := uGb X scope tg) (tt := uTb X scope ifs) (te := uEb X scope elt)
    (fun s H C cl fp => ⟨fun pins s σ H v u Q I r h => h _ _ _ _ _ pins s u I r⟩) (fun s H C cl fp => ⟨fun pins s σ H Q I h => h _ _ _ _ _ pins s I⟩) (fun s H C cl fp => ⟨fun pins s σ H Q I h => h _ _ _ _ _ pins s I⟩) (hs _)) ?_
  refine comp_go (Q := fun x H1 => Dn.nx (σ.set i (some x)) H1) hi ok hd hg htv hc he gd.toGood tk at_ ((postS.bind p).imp fun r env1 h1 g1 H1 s1 a1 q x rx => ?_)
  exact q _ g1 H1 (Step.refl _ _) (a1.asg i rx)
end
end Mi
set_option Elab.async false
set_option linter.all false
set_option maxRecDepth 100000
open PySem PySem.Spec PyProof.Rows L2
namespace Mi

/-! ## comprehensions of two clauses -/
def unE (vs : List Nat) (env : Ev) : Ev := vs.foldl (fun env i => env.set i .un) env
theorem unE_length (vs : List Nat) : ∀ env : Ev, (unE vs env).length = env.length := by
  induction vs with
  | nil => intro env; rfl
  | cons v vs ih => intro env; show (unE vs (env.set v .un)).length = _; rw [ih, List.length_set]
theorem unE_v (vs : List Nat) : ∀ (env : Ev) (i : Nat) (s : Sl), (unE vs env)[i]? = some s → s ≠ .un → i ∉ vs ∧ env[i]? = some s := by
  induction vs with
  | nil => intro env i s h _; exact ⟨by simp, h⟩
  | cons v vs ih =>
    intro env i s h hs
    obtain ⟨h1, h2⟩ := ih (env.set v .un) i s h hs
    rw [List.getElem?_set] at h2
    by_cases e : v = i
    · rw [if_pos e] at h2
      split at h2
      · cases h2; exact absurd rfl hs
      · cases h2
    · rw [if_neg e] at h2
      exact ⟨fun z => (List.mem_cons.mp z).elim (fun q => e q.symm) h1, h2⟩
def compL2 (t : Tg) (c : MB) (mi1 : MI) (t1 : Tg) (c1 : MB) (elt : MV) (vs1 : List Nat) (menv : Ev) : List D → MH → List D → Option (List D × MH)
  | [], h, acc => some (acc, h)
  | d :: ds, h, acc => match t d menv with
    | none => none
    | some e1 => match c e1 h with
      | .ok b e2 h2 => if b = true then (match mi1 e2 h2 with
          | .ok ds1 e3 h3 => (match compL t1 c1 elt (unE vs1 (e3.map maskS)) ds1 h3 acc with
              | some (acc', h') => compL2 t c mi1 t1 c1 elt vs1 menv ds h' acc'
              | none => none)
          | _ => none) else compL2 t c mi1 t1 c1 elt vs1 menv ds h2 acc
      | _ => none
def eComp2 (cap : List Nat) (t : Tg) (mi : MI) (c : MB) (mi1 : MI) (t1 : Tg) (c1 : MB) (elt : MV) (vs1 : List Nat) : ME := fun env h => (mi env h).bind fun ds env h => match compL2 t c mi1 t1 c1 elt vs1 (mask cap 0 (frzE cap env)) ds h [] with
  | some (acc, h') => .ok (.own acc) (frzE cap env) h'
  | none => .no
section
variable {F : Fr} {e a b c : Expr} {es : List Expr} {pos : Pos} {X : Cx} {W : WX} {Hk : Hp} {gk g : Gh} {σ : L2.St} {env : Ev} {h : MH} {H : Hp}
theorem comp2_go {elt tg iter tg1 iter1 : Expr} {ifs ifs1 : List Expr} {scope : Scope} {own : List (Str × Nat)} {cap tvs tvs1 vs1 : List Nat} {t t1 : Tg} {mi mi1 : MI} {mc mc1 : MB} {me : MV} (hi : SI F tg iter mi) (ok : BlkOk F.N F.sc scope own) (hd : ∀ i ∈ cap, i ∉ own.map (·.2))
    (hg : SG (F.blk scope) tg tvs t) (htv : ∀ i ∈ tvs, i ∈ own.map (·.2)) (hc : SBs (F.blk scope) ifs mc) (hi1 : SI (F.blk scope) tg1 iter1 mi1) (hg1 : SG (F.blk scope) tg1 tvs1 t1) (htv1 : ∀ i ∈ tvs1, i ∈ vs1) (hc1 : SBs (F.blk scope) ifs1 mc1)
    (he : SV (F.blk scope) elt me) (gd : Good F X) (tk : Takes X W) (at_ : At X.K X.w Hk gk σ env h g H) {Q : VK}
    (p : post X.K X.w X.mg W Hk gk σ g H (eComp2 cap t mi mc mi1 t1 mc1 me vs1 env h) (fun r env' _ g' H' => ∀ x, RR X.K X.w Hk σ env' g' H' x r → Q x H')) :
    tLc2 (uI X tg iter) (uGb X scope tg) (uTb X scope ifs) (uIb X scope tg1 iter1) (uGb X scope tg1) (uTb X scope ifs1) (uEb X scope elt) (own.map (·.2)) vs1 σ H Q := by
  refine hi X W gd tk Hk gk σ env h g H _ at_ ((post.bind p).imp fun ds env1 h1 g1 H1 s1 a1 q J hJ => ?_)
  intro Dl hD
  split at q
  · rename_i res hf eres
    obtain ⟨g1f, a1f, sf⟩ := a1.frzE cap
    have grD : Grow g1f H1 g1f (upd H1 Dl (.lst [])) := grow_new a1f.hat hD
    have aD := grD.at a1f
    have sD := (grD.fstep a1f.hat).toStep
    obtain ⟨f1, f2, f3, f4⟩ := a1f.fresh hD
    have oD : OwnAt X.K X.w Hk g1f (upd H1 Dl (.lst [])) Dl [] := ⟨⟨[], upd_same, Reps.nil⟩, f2, f3, f1⟩
    refine ⟨fun i m H => m = ds.length - i ∧ ∃ h g acc, Step g1 H1 g H ∧ At X.K X.w Hk gk σ (frzE cap env1) h g H ∧ OwnAt X.K X.w Hk g H Dl acc ∧ compL2 t mc mi1 t1 mc1 me vs1 (mask cap 0 (frzE cap env1)) (ds.drop i) h acc = some (res, hf),
      ⟨ds.length, by omega, h1, g1f, [], sf.trans sD, aD, oD, eres⟩, fun i m H2 hW => ?_⟩
    obtain ⟨rfl, h2, g2, acc, s2, a2, o2, e2⟩ := hW
    have hj := hJ g2 H2 h2 s2 a2.hat i
    by_cases hlen : i < ds.length
    · obtain ⟨hgo, hy⟩ := hj.2 _ (List.getElem?_eq_getElem hlen)
      rw [List.drop_eq_getElem_cons hlen] at e2
      refine .inr ⟨hgo, fun H' => ∃ h g acc, Step g1 H1 g H' ∧ At X.K X.w Hk gk σ (frzE cap env1) h g H' ∧ OwnAt X.K X.w Hk g H' Dl acc ∧ compL2 t mc mi1 t1 mc1 me vs1 (mask cap 0 (frzE cap env1)) (ds.drop (i + 1)) h acc = some (res, hf),
        fun H' hN => ⟨ds.length - (i + 1), by omega, rfl, hN⟩, fun x H3 hx => ?_⟩
      obtain ⟨g3, gr, r3⟩ := hy x H3 hx
      have fs3 := gr.fstep a2.hat
      have a3 := gr.at a2
      have o3 := o2.fstep fs3
      have st3 := s2.trans fs3.toStep
      have b3 := a3.blk hd
      unfold compL2 at e2
      split at e2
      · cases e2
      · rename_i e1 et
        intro s0 H0 C cl fp
        refine hg (blkX X s0 H0 scope C cl fp) (good_blk gd ok s0 H0 C cl fp) H3 g3 _ _ h2 g3 H3 x _ e1 b3 r3 et _ fun σ2 ag a4 => ?_
        have ag' : Agree (own.map (·.2)) (L2.wipe σ (own.map (·.2))) σ2 := ⟨ag.1, fun i hi => ag.2 i fun z => hi (htv i z)⟩
        refine ⟨by rw [ag'.wipe, wipe_wipe], ?_⟩
        intro s0 H0 C cl fp
        refine hc (blkX X s0 H0 scope C cl fp) _ (good_blk gd ok s0 H0 C cl fp) takes0 H3 g3 σ2 e1 h2 g3 H3 _ a4 ?_
        cases ec : mc e1 h2 with
        | no => rw [ec] at e2; cases e2
        | err x3 e3 h3 => rw [ec] at e2; cases e2
        | ok b env3 h3 =>
          rw [ec] at e2
          refine fun g5 H5 s5 a5 => ?_
          cases b with
          | false =>
            rw [if_neg (by decide)]
            dsimp only at e2
            rw [if_neg (by decide)] at e2
            exact ⟨h3, g5, acc, st3.trans s5, a3.fstep a5.fs a5.hat, o3.fstep a5.fs, e2⟩
          | true =>
            rw [if_pos rfl]
            dsimp only at e2
            rw [if_pos rfl] at e2
            intro s0 H0 C cl fp
            refine hi1 (blkX X s0 H0 scope C cl fp) _ (good_blk gd ok s0 H0 C cl fp) takes0 H3 g3 σ2 env3 h3 g5 H5 _ a5 ?_
            cases ei : mi1 env3 h3 with
            | no => rw [ei] at e2; cases e2
            | err x3 e3 h3 => rw [ei] at e2; cases e2
            | ok ds1 env4 h4 =>
              rw [ei] at e2
              dsimp only at e2
              split at e2
              · rename_i acc' h' ecl
                refine fun g6 H6 s6 a6 J1 hJ1 => ?_
                have hno : ∀ (i : Nat) (ds : List D), (unE vs1 (env4.map maskS))[i]? ≠ some (.own ds) := fun i ds z => by
                  obtain ⟨_, z2⟩ := unE_v vs1 _ i _ z (fun q => nomatch q)
                  rw [List.getElem?_map] at z2
                  cases e9 : env4[i]? with
                  | none => rw [e9] at z2; cases z2
                  | some s => rw [e9] at z2; cases s <;> cases z2
                have := compL_W (vs := vs1) (scope := scope) hg1 htv1 hc1 he (fun s0 H0 C cl fp => good_blk gd ok s0 H0 C cl fp) (σb := L2.wipe σ2 vs1) (menv := unE vs1 (env4.map maskS)) (g1 := g6) (H1 := H6) hno
                  (by rw [unE_length, List.length_map, wipe_length]; exact a6.len)
                  (fun i d z => by
                    obtain ⟨z1, z2⟩ := unE_v vs1 _ i _ z (fun q => nomatch q)
                    rw [List.getElem?_map] at z2
                    cases e9 : env4[i]? with
                    | none => rw [e9] at z2; cases z2
                    | some s =>
                      rw [e9] at z2
                      cases s with
                      | v d' =>
                        cases z2
                        obtain ⟨y, y1, y2⟩ := a6.val i _ e9
                        exact ⟨y, by rw [wipe_out z1]; exact y1, y2⟩
                      | un => cases z2
                      | own ds => cases z2)
                  (J := J1) (ds := ds1) hJ1 f4 (res := (acc', h')) (Fin := fun H' => ∃ h g acc, Step g1 H1 g H' ∧ At X.K X.w Hk gk σ (frzE cap env1) h g H' ∧ OwnAt X.K X.w Hk g H' Dl acc ∧ compL2 t mc mi1 t1 mc1 me vs1 (mask cap 0 (frzE cap env1)) (ds.drop (i + 1)) h acc = some (res, hf))
                  (fun h g H acc s a o e => by cases e; exact ⟨_, g, _, ((st3.trans s5).trans s6).trans s, a, o, e2⟩) (Step.refl _ _) (a3.fstep a6.fs a6.hat) (o3.fstep a6.fs) ecl
                rw [wipe_wipe] at this
                exact this
              · cases e2
    · rw [List.drop_eq_nil_of_le (by omega)] at e2
      cases e2
      exact .inl ⟨hj.1 (by omega), q g2 H2 s2 a2 _ ⟨Dl, rfl, o2, f4⟩⟩
  · exact q.elim
theorem se_comp2 {elt tg iter tg1 iter1 : Expr} {ifs ifs1 : List Expr} {scope : Scope} {own : List (Str × Nat)} {cap tvs tvs1 vs1 : List Nat} {t t1 : Tg} {mi mi1 : MI} {mc mc1 : MB} {me : MV} (hi : SI F tg iter mi) (ok : BlkOk F.N F.sc scope own := by exact blkOk_by (by (try dsimp only [Fr.blk]); decide +kernel)) (hd : ∀ i ∈ cap, i ∉ own.map (·.2) := by decide)
    (hg : SG (F.blk scope) tg tvs t) (htv : ∀ i ∈ tvs, i ∈ own.map (·.2) := by decide) (hc : SBs (F.blk scope) ifs mc) (hi1 : SI (F.blk scope) tg1 iter1 mi1) (hg1 : SG (F.blk scope) tg1 tvs1 t1) (htv1 : ∀ i ∈ tvs1, i ∈ vs1 := by decide) (hv1 : ∀ i ∈ vs1, i ∈ own.map (·.2) := by decide) (hc1 : SBs (F.blk scope) ifs1 mc1)
    (he : SV (F.blk scope) elt me) (hs : ∀ env x, foldedSetIterable iter env x = pure x := by intros; rfl) (hs1 : ∀ env x, foldedSetIterable iter1 env x = pure x := by intros; rfl) :
    SE F (.ListComp elt [⟨tg, iter, ifs, 0⟩, ⟨tg1, iter1, ifs1, 0⟩] scope pos) (eComp2 cap t mi mc mi1 t1 mc1 me vs1) := fun X W gd tk Hk gk σ env h g H Q at_ p => by
  refine uE_of (pe_lc2 (own := own) (vs1 := vs1) gd.calm gd.nd pi_u (by rw [gd.N, gd.sc]; exact ok) hv1 (g := uGb X scope tg) (tt := uTb X scope ifs) (wi1 := uIb X scope tg1 iter1) (g1 := uGb X scope tg1) (tt1 := uTb X scope ifs1) (te := uEb X scope elt)
    (fun s H C cl fp => ⟨fun pins s σ H v u Q I r h => h _ _ _ _ _ pins s u I r⟩) (fun s H C cl fp => ⟨fun pins s σ H Q I h => h _ _ _ _ _ pins s I⟩) (fun s H C cl fp => ⟨fun pins s σ H R I h => h _ _ _ _ _ pins s I⟩)
    (fun s H C cl fp => ⟨fun pins s σ H v u Q I r h => h _ _ _ _ _ pins s u I r⟩) (fun s H C cl fp => ⟨fun pins s σ H Q I h => h _ _ _ _ _ pins s I⟩) (fun s H C cl fp => ⟨fun pins s σ H Q I h => h _ _ _ _ _ pins s I⟩) (hs _) hs1) ?_
  exact comp2_go hi ok hd hg htv hc hi1 hg1 htv1 hc1 he gd tk at_ p
theorem ss_setLc2 {i : Nat} {y : Str} {py spos : Pos} {elt tg iter tg1 iter1 : Expr} {ifs ifs1 : List Expr} {scope : Scope} {own : List (Str × Nat)} {cap tvs tvs1 vs1 : List Nat} {t t1 : Tg} {mi mi1 : MI} {mc mc1 : MB} {me : MV} (hN : F.N[i]? = some y := by rfl) (hx : F.sc.names.lookup y = some .local := by rfl)
    (hsw : ∀ env : PySem.Env, env.scope.kind = .function → env.scope.names.lookup y = some .local → swapsWith (.ListComp elt [⟨tg, iter, ifs, 0⟩, ⟨tg1, iter1, ifs1, 0⟩] scope pos) (some (.Name y py)) spos.line env = pure true := by exact fun _ h1 h2 => sw_true h1 h2 rfl (by decide +kernel))
    (hi : SI F tg iter mi) (ok : BlkOk F.N F.sc scope own := by exact blkOk_by (by (try dsimp only [Fr.blk]); decide +kernel)) (hd : ∀ i ∈ cap, i ∉ own.map (·.2) := by decide)
    (hg : SG (F.blk scope) tg tvs t) (htv : ∀ i ∈ tvs, i ∈ own.map (·.2) := by decide) (hc : SBs (F.blk scope) ifs mc) (hi1 : SI (F.blk scope) tg1 iter1 mi1) (hg1 : SG (F.blk scope) tg1 tvs1 t1) (htv1 : ∀ i ∈ tvs1, i ∈ vs1 := by decide) (hv1 : ∀ i ∈ vs1, i ∈ own.map (·.2) := by decide) (hc1 : SBs (F.blk scope) ifs1 mc1)
    (he : SV (F.blk scope) elt me) (hs : ∀ env x, foldedSetIterable iter env x = pure x := by intros; rfl) (hs1 : ∀ env x, foldedSetIterable iter1 env x = pure x := by intros; rfl) :
    SS F (.Assign [.Name y py] (.ListComp elt [⟨tg, iter, ifs, 0⟩, ⟨tg1, iter1, ifs1, 0⟩] scope pos) spos) (sSet i (eComp2 cap t mi mc mi1 t1 mc1 me vs1)) := fun X W gd tk Hk gk σ env h g H Dn at_ p => by
  refine uS_of (ps_setLc2 (own := own) (vs1 := vs1) gd.calm gd.nd (by rw [gd.N]; exact hN) (by rw [gd.sc]; exact hx) (hsw _ (by rw [gd.sc]; exact gd.kf) (by rw [gd.sc]; exact hx)) pi_u (by rw [gd.N, gd.sc]; exact ok) hv1 (g := uGb X scope tg) (tt := uTb X scope ifs) (wi1 := uIb X scope tg1 iter1) (g1 := uGb X scope tg1) (tt1 := uTb X scope ifs1) (te := uEb X scope elt)
    (fun s H C cl fp => ⟨fun pins s σ H v u Q I r h => h _ _ _ _ _ pins s u I r⟩) (fun s H C cl fp => ⟨fun pins s σ H Q I h => h _ _ _ _ _ pins s I⟩) (fun s H C cl fp => ⟨fun pins s σ H R I h => h _ _ _ _ _ pins s I⟩)
    (fun s H C cl fp => ⟨fun pins s σ H v u Q I r h => h _ _ _ _ _ pins s u I r⟩) (fun s H C cl fp => ⟨fun pins s σ H Q I h => h _ _ _ _ _ pins s I⟩) (fun s H C cl fp => ⟨fun pins s σ H Q I h => h _ _ _ _ _ pins s I⟩) (hs _) hs1) ?_
  refine comp2_go (Q := fun x H1 => Dn.nx (σ.set i (some x)) H1) hi ok hd hg htv hc hi1 hg1 htv1 hc1 he gd.toGood tk at_ ((postS.bind p).imp fun r env1 h1 g1 H1 s1 a1 q x rx => ?_)
  exact q _ g1 H1 (Step.refl _ _) (a1.asg i rx)
end

/-! ## built-ins and methods by values -/
def CallOk (F : Fr) (f : Value) (op : MH → List D → Option R) : Prop := ∀ X, Good F X → ∀ h g H, HAt X.K X.w h g H → ∀ xs ds r, Reps X.K X.w g H xs ds → op h ds = some r →
  ∀ Q : VK, (∀ z g' H', Grow g H g' H' → RN X.K X.w H g' H' z r → Q z H') → uCl X f xs H Q
def eCallB (op : MH → List D → Option R) (m : MA) : ME := fun env h => (m env h).bind fun ds env h => ofO (op h ds) env h
def MtOk (F : Fr) (id : String) (op : MH → D → List D → Option R) : Prop := ∀ X, Good F X → ∀ h g H, HAt X.K X.w h g H → ∀ x d xs ds r, Rep X.K X.w g H x d → Reps X.K X.w g H xs ds → op h d ds = some r →
  ∀ Q : VK, (∀ z g' H', Grow g H g' H' → RN X.K X.w H g' H' z r → Q z H') → uMt X id x xs H Q
def isS : D → Bool
  | .str _ => true
  | _ => false
def eMtS (op : MH → D → List D → Option R) (mo : MV) (m : MA) : ME := fun env h => (mo env h).bind fun d env h => if isS d = true then (m env h).bind fun ds env h => ofO (op h d ds) env h else .no
def IxOk (F : Fr) (op : MH → D → D → Option R) : Prop := ∀ X, Good F X → ∀ h g H, HAt X.K X.w h g H → ∀ x y dx dy r, Rep X.K X.w g H x dx → Rep X.K X.w g H y dy → op h dx dy = some r →
  ∀ Q : VK, (∀ z g' H', Grow g H g' H' → RN X.K X.w H g' H' z r → Q z H') → uIx X x y H Q
section
variable {F : Fr} {e a b c o : Expr} {es : List Expr} {pos apos cpos : Pos} {X : Cx} {W : WX} {Hk : Hp} {gk g : Gh} {σ : L2.St} {env : Ev} {h : MH} {H : Hp}
theorem se_callB {x : Str} {id : String} {op : MH → List D → Option R} {m : MA} {p : Pos} (hc : CallOk F (.builtin id) op) (ha : SA F (e :: es) m) (hg : F.sc.names.lookup x = some .globalImplicit := by rfl) (hm : F.mg x = none) (hv : bootBuiltins x = some (.builtin id) := by decide +kernel) (hn : x ≠ "__name__" := by decide) (hdb : (x == ("__debug__" : Str)) = false := by decide)
    (he : ∀ env, starEach (e :: es) env = (false, eval e env) :: starEach es env := by intros; rfl) (hpl : ∀ env, (backTo pos (starEach es env)).any (·.1) = false := by intros; rfl) : SE F (.Call (.Name x p) (e :: es) [] pos) (eCallB op m) := fun X W gd tk Hk gk σ env h g H Q at_ p => by
  refine uE_of (pe_callB cl_u (by show X.env.scope.names.lookup x = _; rw [gd.sc]; exact hg) (by rw [gd.mg]; exact hm) hv pa_u hn hdb (he _) (hpl _)) ?_
  refine ha.go gd tk at_ p fun ds env1 h1 g1 H1 xs s1 a1 rs p1 => ?_
  obtain ⟨r, er, k⟩ := ofO_go a1 p1
  exact hc X gd h1 g1 H1 a1.hat xs ds r rs er Q k
theorem se_callTy {x : Str} {T : String} {op : MH → List D → Option R} {m : MA} {p : Pos} (hc : CallOk F (.type T) op) (ha : SA F (e :: es) m) (hg : F.sc.names.lookup x = some .globalImplicit := by rfl) (hm : F.mg x = none) (hv : bootBuiltins x = some (.type T) := by decide +kernel) (hn : x ≠ "__name__" := by decide) (hdb : (x == ("__debug__" : Str)) = false := by decide)
    (he : ∀ env, starEach (e :: es) env = (false, eval e env) :: starEach es env := by intros; rfl) (hpl : ∀ env, (backTo pos (starEach es env)).any (·.1) = false := by intros; rfl) : SE F (.Call (.Name x p) (e :: es) [] pos) (eCallB op m) := fun X W gd tk Hk gk σ env h g H Q at_ p => by
  refine uE_of (pe_callTy cl_u (by show X.env.scope.names.lookup x = _; rw [gd.sc]; exact hg) (by rw [gd.mg]; exact hm) hv pa_u hn hdb (he _) (hpl _)) ?_
  refine ha.go gd tk at_ p fun ds env1 h1 g1 H1 xs s1 a1 rs p1 => ?_
  obtain ⟨r, er, k⟩ := ofO_go a1 p1
  exact hc X gd h1 g1 H1 a1.hat xs ds r rs er Q k
/-- s.m(e, ..), s a text -/
theorem se_mtS {name : Str} {id : String} {op : MH → D → List D → Option R} {mo : MV} {m : MA} (slot : Slot "str" name id) (hty : typeOf (.builtin id) = pure (.type "method_descriptor")) (hm : MtOk F id op) (ho : SV F o mo) (ha : SA F (e :: es) m)
    (hbase : ∀ env, attributeBase o name env (eval o env) = eval o env := by intros; rfl)
    (hfew : ∀ env, ((backTo cpos (starEach (e :: es) env)).all (fun x => !x.1) && (backToKw cpos (keywordEach [] env)).all (fun x => x.1.isSome) && decide ((e :: es).length + ([] : List Keyword).length + (if ([] : List Keyword).isEmpty then 0 else 1) < 30)) = true := by intros; rfl)
    (hline : (apos.endLine == cpos.line) = true := by rfl) (hs : ∀ env, starEach (e :: es) env = (false, eval e env) :: starEach es env := by intros; rfl) (hplain : ∀ env, (backTo cpos (starEach es env)).any (·.1) = false := by intros; rfl) :
    SE F (.Call (.Attribute o name apos) (e :: es) [] cpos) (eMtS op mo m) := fun X W gd tk Hk gk σ env h g H Q at_ p => by
  refine uE_of (pe_bm PySem.F.plainAttrs_str slot hty mt_u pe_u pa_u (hbase _) (hfew _) hline (hs _) (hplain _)) ?_
  refine ho.go gd tk at_ p fun d env1 h1 g1 H1 x s1 a1 rx p1 => ?_
  split at p1
  · rename_i hd
    refine ⟨?_, ha.go gd tk a1 p1 fun ds env2 h2 g2 H2 xs s2 a2 rs p2 => ?_⟩
    · cases d <;> first | cases hd | skip
      simp only [Rep] at rx
      subst rx
      rfl
    · obtain ⟨r, er, k⟩ := ofO_go a2 p2
      exact hm X gd h2 g2 H2 a2.hat x d xs ds r (rx.step s2) rs er Q k
  · exact p1.elim
theorem se_mtS0 {name : Str} {id : String} {op : MH → D → List D → Option R} {mo : MV} (slot : Slot "str" name id) (hty : typeOf (.builtin id) = pure (.type "method_descriptor")) (hm : MtOk F id op) (ho : SV F o mo)
    (hbase : ∀ env, attributeBase o name env (eval o env) = eval o env := by intros; rfl) (hline : (apos.endLine == cpos.line) = true := by rfl) :
    SE F (.Call (.Attribute o name apos) [] [] cpos) (eMtS op mo aNil) := fun X W gd tk Hk gk σ env h g H Q at_ p => by
  refine uE_of (pe_bm0 PySem.F.plainAttrs_str slot hty mt_u pe_u (hbase _) hline) ?_
  refine ho.go gd tk at_ p fun d env1 h1 g1 H1 x s1 a1 rx p1 => ?_
  split at p1
  · rename_i hd
    refine ⟨?_, ?_⟩
    · cases d <;> first | cases hd | skip
      simp only [Rep] at rx
      subst rx
      rfl
    · obtain ⟨r, er, k⟩ := ofO_go a1 p1
      exact hm X gd h1 g1 H1 a1.hat x d [] [] r rx Reps.nil er Q k
  · exact p1.elim
theorem se_ix {op : MH → D → D → Option R} {ma mb : MV} (hi : IxOk F op) (ha : SV F a ma) (hb : SV F b mb) (hs : PlainIx b := by exact fun _ _ => rfl) : SE F (.Subscript a b pos) (eOp2 op ma mb) := fun X W gd tk Hk gk σ env h g H Q at_ p => by
  refine uE_of (pe_ix ix_u pe_u pe_u hs) ?_
  refine ha.go gd tk at_ p fun dx env1 h1 g1 H1 x s1 a1 rx p1 => ?_
  refine hb.go gd tk a1 p1 fun dy env2 h2 g2 H2 y s2 a2 ry p2 => ?_
  obtain ⟨r, er, k⟩ := ofO_go a2 p2
  exact hi X gd h2 g2 H2 a2.hat x y dx dy r (rx.step s2) ry er Q k
/-- something is known of the slot -/
def live (env : Ev) (i : Nat) : Bool := match env[i]? with
  | some (.v _) => true
  | some (.own _) => true
  | _ => false
/-- x[k], x a name: its own list is not frozen -/
def eIxV (i : Nat) (op : MH → D → D → Option R) (mk : MV) : ME := fun env h => if live env i = true then (mk env h).bind fun k env h => match env[i]? with
  | some (.own xs) => (match k with
    | .int j => (match atI xs j with
      | some d => .ok (.v d) env h
      | none => .no)
    | _ => .no)
  | some (.v d) => ofO (op h d k) env h
  | _ => .no else .no
theorem atI_reps {K : PySem.W.Frag} {w : World} {g : Gh} {H : Hp} {vs : List V} {ds : List D} {j : Int} {d : D} (rs : Reps K w g H vs ds) (e : atI ds j = some d) : ∃ v, atI vs j = some v ∧ Rep K w g H v d := by
  unfold atI at e ⊢
  rw [rs.length]
  cases q : ixN ds.length j with
  | none => rw [q] at e; cases e
  | some k =>
    rw [q] at e
    exact rs.get' e
theorem slot_of (at_ : At X.K X.w Hk gk σ env h g H) {i : Nat} (e : live env i = true) : ∃ x, σ[i]? = some (some x) := by
  unfold live at e
  split at e
  · rename_i d e1; obtain ⟨x, h1, _⟩ := at_.val i d e1; exact ⟨x, h1⟩
  · rename_i ds e1; obtain ⟨x, h1, _⟩ := at_.own i ds e1; exact ⟨_, h1⟩
  · cases e
theorem se_ixv {i : Nat} {x : Str} {op : MH → D → D → Option R} {mb : MV} {p2 : Pos} (hN : F.N[i]? = some x := by rfl) (hv : Vis F.sc x := by first | exact Or.inl rfl | exact Or.inr (Or.inl rfl) | exact Or.inr (Or.inr rfl)) (hd : (x == ("__debug__" : Str)) = false := by decide) (hcd : (x == ("__classdict__" : Str)) = false := by decide) (hi : IxOk F op) (hb : SV F b mb) (hs : PlainIx b := by exact fun _ _ => rfl) :
    SE F (.Subscript (.Name x p2) b pos) (eIxV i op mb) := fun X W gd tk Hk gk σ env h g H Q at_ p => by
  refine uE_of (pe_ix ix_u (pe_var (i := i) (by rw [gd.N]; exact hN) (by rw [gd.sc]; exact hv) hd hcd) pe_u hs) ?_
  unfold eIxV at p
  split at p
  · rename_i hl
    obtain ⟨x, hx⟩ := slot_of at_ hl
    refine ⟨x, hx, ?_⟩
    refine hb.go gd tk at_ p fun k env1 h1 g1 H1 y s1 a1 ry p1 => ?_
    split at p1
    · rename_i xs e1
      obtain ⟨a, h2, o⟩ := a1.own i xs e1
      rw [hx] at h2
      cases h2
      split at p1
      · rename_i j
        split at p1
        · rename_i d ed
          obtain ⟨vs, h3, rs⟩ := o.at_
          obtain ⟨v, ev, rv⟩ := atI_reps rs ed
          have ey : y = .int j := by simpa [Rep] using ry
          exact uIx_of ix_list ⟨a, vs, j, v, rfl, ey, .of h3, ev, p1 g1 H1 (Step.refl _ _) a1 v rv⟩
        · exact p1.elim
      · exact p1.elim
    · rename_i d e1
      obtain ⟨x', h2, rx⟩ := a1.val i d e1
      rw [hx] at h2
      cases h2
      obtain ⟨r, er, kk⟩ := ofO_go a1 p1
      exact hi X gd h1 g1 H1 a1.hat x y d k r rx ry er Q kk
    · exact p1.elim
  · exact p.elim
/-- len(x), x a name: its own list is not frozen -/
def eLenV (i : Nat) (op : MH → List D → Option R) : ME := fun env h => match env[i]? with
  | some (.own xs) => .ok (.v (.int xs.length)) env h
  | some (.v d) => ofO (op h [d]) env h
  | _ => .no
theorem se_lenv {i : Nat} {nm x : Str} {op : MH → List D → Option R} {p p2 : Pos} (hN : F.N[i]? = some x := by rfl) (hv : Vis F.sc x := by first | exact Or.inl rfl | exact Or.inr (Or.inl rfl) | exact Or.inr (Or.inr rfl)) (hd : (x == ("__debug__" : Str)) = false := by decide) (hcd : (x == ("__classdict__" : Str)) = false := by decide) (hc : CallOk F (.builtin "len") op) (hg : F.sc.names.lookup nm = some .globalImplicit := by rfl) (hm : F.mg nm = none)
    (hvb : bootBuiltins nm = some (.builtin "len") := by decide +kernel) (hn : nm ≠ "__name__" := by decide) (hdb : (nm == ("__debug__" : Str)) = false := by decide) : SE F (.Call (.Name nm p) [.Name x p2] [] pos) (eLenV i op) := fun X W gd tk Hk gk σ env h g H Q at_ pp => by
  refine uE_of (pe_callB cl_u (by show X.env.scope.names.lookup nm = _; rw [gd.sc]; exact hg) (by rw [gd.mg]; exact hm) hvb (pa_cons (pe_var (i := i) (by rw [gd.N]; exact hN) (by rw [gd.sc]; exact hv) hd hcd) pa_nil) hn hdb) ?_
  unfold eLenV at pp
  split at pp
  · rename_i xs e1
    obtain ⟨a, h2, o⟩ := at_.own i xs e1
    obtain ⟨vs, h3, rs⟩ := o.at_
    refine ⟨.ref a, h2, ?_⟩
    refine uCl_of call_len_seq ⟨a, vs, rfl, .inl (.of h3), ?_⟩
    rw [rs.length]
    exact pp g H (Step.refl _ _) at_ _ (by simp [RR, Rep])
  · rename_i d e1
    obtain ⟨y, h2, ry⟩ := at_.val i d e1
    refine ⟨y, h2, ?_⟩
    obtain ⟨r, er, kk⟩ := ofO_go at_ pp
    exact hc X gd h g H at_.hat [y] [d] r (Reps.cons ry Reps.nil) er Q kk
  · exact pp.elim
/-- if x: x a name -/
def bTruV (i : Nat) : MB := fun env h => match env[i]? with
  | some (.own xs) => .ok (!xs.isEmpty) env h
  | some (.v d) => (match truD h d with
    | some b => .ok b env h
    | none => .no)
  | _ => .no
theorem sb_truv {i : Nat} {x : Str} (hN : F.N[i]? = some x := by rfl) (hv : Vis F.sc x := by first | exact Or.inl rfl | exact Or.inr (Or.inl rfl) | exact Or.inr (Or.inr rfl)) (hd : (x == ("__debug__" : Str)) = false := by decide) (hcd : (x == ("__classdict__" : Str)) = false := by decide) : SB F (.Name x pos) (bTruV i) := fun X W gd tk Hk gk σ env h g H Q at_ pp => by
  refine uT_of (pt_truth (pe_var (i := i) (by rw [gd.N]; exact hN) (by rw [gd.sc]; exact hv) hd hcd) (fun _ => rfl)) ?_
  unfold bTruV at pp
  split at pp
  · rename_i xs e1
    obtain ⟨a, h2, o⟩ := at_.own i xs e1
    obtain ⟨vs, h3, rs⟩ := o.at_
    exact ⟨.ref a, h2, _, .inl ⟨vs, .of h3, by rw [isEmpty_reps rs]⟩, pp g H (Step.refl _ _) at_⟩
  · rename_i d e1
    obtain ⟨y, h2, ry⟩ := at_.val i d e1
    split at pp
    · rename_i b eb
      exact ⟨y, h2, b, truD_ok at_.hat ry eb, pp g H (Step.refl _ _) at_⟩
    · exact pp.elim
  · exact pp.elim

/-! ## lists that change -/
/-- a method of a list: what becomes of the list, what is handed back -/
def MutOk (F : Fr) (id : String) (op : List D → List D → Option (List D × D)) : Prop := ∀ X, Good F X → ∀ g H l vs xs args ds xs' r, H l = some (.lst vs) → Reps X.K X.w g H vs xs → Reps X.K X.w g H args ds → op xs ds = some (xs', r) →
  ∀ Q : VK, (∀ vs' z, Reps X.K X.w g H vs' xs' → Rep X.K X.w g H z r → Q z (upd H l (.lst vs'))) → uMt X id (.ref l) args H Q
def mutAt (i : Nat) (op : List D → List D → Option (List D × D)) (ds : List D) : ME := fun env h => match env[i]? with
  | some (.own xs) => (match op xs ds with
    | some (xs', r) => .ok (.v r) (env.set i (.own xs')) h
    | none => .no)
  | some (.v (.loc n)) => (match h[n]? with
    | some (.lst xs) => (match op xs ds with
      | some (xs', r) => .ok (.v r) env (h.set n (.lst xs'))
      | none => .no)
    | none => .no)
  | _ => .no
def isList (env : Ev) (h : MH) (i : Nat) : Bool := match env[i]? with
  | some (.own _) => true
  | some (.v (.loc n)) => (match h[n]? with
    | some (.lst _) => true
    | none => false)
  | _ => false
def eMut (i : Nat) (op : List D → List D → Option (List D × D)) (m : MA) : ME := fun env h => if isList env h i = true then (m env h).bind fun ds env h => mutAt i op ds env h else .no
theorem isList_ty (at_ : At X.K X.w Hk gk σ env h g H) {i : Nat} (e : isList env h i = true) : ∃ a, σ[i]? = some (some (.ref a)) ∧ tyV X.K "list" (.ref a) H := by
  unfold isList at e
  split at e
  · rename_i ds e1
    obtain ⟨a, h1, o⟩ := at_.own i ds e1
    obtain ⟨vs, h2, _⟩ := o.at_
    exact ⟨a, h1, .inl ⟨rfl, vs, .of h2⟩⟩
  · rename_i n e1
    obtain ⟨y, h1, ry⟩ := at_.val i _ e1
    simp only [Rep] at ry
    obtain ⟨_, rfl⟩ := ry
    split at e
    · rename_i ds e2
      obtain ⟨⟨vs, h2, _⟩, _⟩ := at_.hat.obj n _ e2
      exact ⟨_, h1, .inl ⟨rfl, vs, .of h2⟩⟩
    · cases e
  · cases e
theorem mutAt_go {id : String} {op : List D → List D → Option (List D × D)} {i : Nat} {ds : List D} {xs : List V} (hm : MutOk F id op) (gd : Good F X) (at_ : At X.K X.w Hk gk σ env h g H) {x : V} (hx : σ[i]? = some (some x)) (rs : Reps X.K X.w g H xs ds) {Q : VK}
    (p : post X.K X.w X.mg W Hk gk σ g H (mutAt i op ds env h) (fun r env' _ g' H' => ∀ x, RR X.K X.w Hk σ env' g' H' x r → Q x H')) : uMt X id x xs H Q := by
  unfold mutAt at p
  split at p
  · rename_i ys e1
    obtain ⟨a, h1, o⟩ := at_.own i ys e1
    rw [hx] at h1
    cases h1
    obtain ⟨vs, h2, rv⟩ := o.at_
    split at p
    · rename_i ys' r eo
      refine hm X gd g H a vs ys xs ds ys' r h2 rv rs eo Q fun vs' z rv' rz => ?_
      obtain ⟨a2, s2⟩ := at_.mut e1 hx rv'
      exact p g _ s2 a2 z (rz.step s2)
    · exact p.elim
  · rename_i n e1
    obtain ⟨y, h1, ry⟩ := at_.val i _ e1
    rw [hx] at h1
    cases h1
    simp only [Rep] at ry
    obtain ⟨_, rfl⟩ := ry
    split at p
    · rename_i ys e2
      obtain ⟨⟨vs, h2, rv⟩, _⟩ := at_.hat.obj n _ e2
      split at p
      · rename_i ys' r eo
        refine hm X gd g H _ vs ys xs ds ys' r h2 rv rs eo Q fun vs' z rv' rz => ?_
        obtain ⟨a2, s2⟩ := at_.mutLoc e2 rv'
        exact p g _ s2 a2 z (rz.step s2)
      · exact p.elim
    · exact p.elim
  · exact p.elim
theorem se_mut {i : Nat} {x name : Str} {id : String} {op : List D → List D → Option (List D × D)} {m : MA} {p2 : Pos} (hN : F.N[i]? = some x := by rfl) (hv : Vis F.sc x := by first | exact Or.inl rfl | exact Or.inr (Or.inl rfl) | exact Or.inr (Or.inr rfl)) (hd : (x == ("__debug__" : Str)) = false := by decide) (hcd : (x == ("__classdict__" : Str)) = false := by decide)
    (slot : Slot "list" name id) (hty : typeOf (.builtin id) = pure (.type "method_descriptor")) (hm : MutOk F id op) (ha : SA F (e :: es) m)
    (hfew : ∀ env, ((backTo cpos (starEach (e :: es) env)).all (fun x => !x.1) && (backToKw cpos (keywordEach [] env)).all (fun x => x.1.isSome) && decide ((e :: es).length + ([] : List Keyword).length + (if ([] : List Keyword).isEmpty then 0 else 1) < 30)) = true := by intros; rfl)
    (hline : (apos.endLine == cpos.line) = true := by rfl) (hs : ∀ env, starEach (e :: es) env = (false, eval e env) :: starEach es env := by intros; rfl) (hplain : ∀ env, (backTo cpos (starEach es env)).any (·.1) = false := by intros; rfl) :
    SE F (.Call (.Attribute (.Name x p2) name apos) (e :: es) [] cpos) (eMut i op m) := fun X W gd tk Hk gk σ env h g H Q at_ p => by
  refine uE_of (pe_bm PySem.F.plainAttrs_list slot hty mt_u (pe_var (i := i) (by rw [gd.N]; exact hN) (by rw [gd.sc]; exact hv) hd hcd) pa_u rfl (hfew _) hline (hs _) (hplain _)) ?_
  unfold eMut at p
  split at p
  · rename_i hl
    obtain ⟨a, h1, ty⟩ := isList_ty at_ hl
    refine ⟨.ref a, h1, ty, ?_⟩
    exact ha.go gd tk at_ p fun ds env1 h1' g1 H1 xs s1 a1 rs p1 => mutAt_go hm gd a1 h1 rs p1
  · exact p.elim
theorem se_mut0 {i : Nat} {x name : Str} {id : String} {op : List D → List D → Option (List D × D)} {p2 : Pos} (hN : F.N[i]? = some x := by rfl) (hv : Vis F.sc x := by first | exact Or.inl rfl | exact Or.inr (Or.inl rfl) | exact Or.inr (Or.inr rfl)) (hd : (x == ("__debug__" : Str)) = false := by decide) (hcd : (x == ("__classdict__" : Str)) = false := by decide)
    (slot : Slot "list" name id) (hty : typeOf (.builtin id) = pure (.type "method_descriptor")) (hm : MutOk F id op) (hline : (apos.endLine == cpos.line) = true := by rfl) :
    SE F (.Call (.Attribute (.Name x p2) name apos) [] [] cpos) (eMut i op aNil) := fun X W gd tk Hk gk σ env h g H Q at_ p => by
  refine uE_of (pe_bm0 PySem.F.plainAttrs_list slot hty mt_u (pe_var (i := i) (by rw [gd.N]; exact hN) (by rw [gd.sc]; exact hv) hd hcd) rfl hline) ?_
  unfold eMut at p
  split at p
  · rename_i hl
    obtain ⟨a, h1, ty⟩ := isList_ty at_ hl
    exact ⟨.ref a, h1, ty, mutAt_go hm gd at_ h1 Reps.nil p⟩
  · exact p.elim
/-- x[k] = e, x a name of a list -/
def setOp (d : D) : List D → List D → Option (List D × D) := fun xs ks => match ks with
  | [.int j] => (match ixN xs.length j with
    | some n => some (xs.set n d, .non)
    | none => none)
  | _ => none
def sStIx (i : Nat) (mk mv : MV) : MS := fun env h => (mv env h).bindS fun d env h => if isList env h i = true then (mk env h).bindS fun k env h => (mutAt i (setOp d) [k] env h).bindS fun _ env h => .nx env h else .no
theorem ss_stix {i : Nat} {x : Str} {mk mv : MV} {p2 spos : Pos} (hN : F.N[i]? = some x := by rfl) (hv : Vis F.sc x := by first | exact Or.inl rfl | exact Or.inr (Or.inl rfl) | exact Or.inr (Or.inr rfl)) (hd : (x == ("__debug__" : Str)) = false := by decide) (hcd : (x == ("__classdict__" : Str)) = false := by decide) (hk : SV F a mk) (he : SV F e mv)
    (hs : ∀ env, swapsWithSole [.Subscript (.Name x p2) a pos] e spos.line env = pure false := by intros; rfl) (hw : ∀ env, swappedStores [.Subscript (.Name x p2) a pos] e env = pure none := by intros; rfl) (h1 : ∀ env, (assignEach [.Subscript (.Name x p2) a pos] env).map (·.2) = [assign (.Subscript (.Name x p2) a pos) env] := by intros; rfl)
    (has : ∀ (env : PySem.Env) v, assign (.Subscript (.Name x p2) a pos) env v = (do
      let ov ← holding [v] (eval (.Name x p2) env)
      let iv ← holding [v, ov] (eval a env)
      standAt pos
      holding [v, ov, iv] (setItem ov iv v)
      release [v, ov, iv] []) := by intros; rfl) : SS F (.Assign [.Subscript (.Name x p2) a pos] e spos) (sStIx i mk mv) := fun X W gd tk Hk gk σ env h g H Dn at_ p => by
  refine uS_of (ps_asg pe_u (pg_sub (pe_var (i := i) (by rw [gd.N]; exact hN) (by rw [gd.sc]; exact hv) hd hcd) pe_u set_list (has _)) (hs _) (hw _) (h1 _)) ?_
  refine he.goS gd.toGood tk at_ p fun d env1 h1 g1 H1 x s1 a1 rx p1 => ?_
  split at p1
  · rename_i hl
    obtain ⟨b, h2, _⟩ := isList_ty a1 hl
    refine ⟨.ref b, h2, ?_⟩
    refine hk.goS gd.toGood tk a1 p1 fun k env2 h3 g2 H2 y s2 a2 ry p2 => ?_
    have rx2 := rx.step s2
    have p2 := postS.bind (σ := σ) p2
    unfold mutAt at p2
    split at p2
    · rename_i ys e1
      obtain ⟨c, h4, o⟩ := a2.own i ys e1
      rw [h2] at h4
      cases h4
      obtain ⟨vs, h5, rv⟩ := o.at_
      split at p2
      · rename_i ys' r eo
        unfold setOp at eo
        split at eo
        · rename_i j ek
          cases ek
          split at eo
          · rename_i n en
            cases eo
            have ey : y = .int j := by simpa [Rep] using ry
            obtain ⟨a3, s3⟩ := a2.mut e1 h2 (rv.set n rx2)
            exact ⟨b, vs, j, n, rfl, ey, h5, by rw [rv.length]; exact en, p2 g2 _ s3 a3 σ g2 _ (Step.refl _ _) a3⟩
          · cases eo
        · cases eo
      · exact p2.elim
    · rename_i n e1
      obtain ⟨z, h4, rz⟩ := a2.val i _ e1
      rw [h2] at h4
      cases h4
      simp only [Rep] at rz
      obtain ⟨_, ez⟩ := rz
      cases ez
      split at p2
      · rename_i ys e2
        obtain ⟨⟨vs, h5, rv⟩, _⟩ := a2.hat.obj n _ e2
        split at p2
        · rename_i ys' r eo
          unfold setOp at eo
          split at eo
          · rename_i j ek
            cases ek
            split at eo
            · rename_i m en
              cases eo
              have ey : y = .int j := by simpa [Rep] using ry
              obtain ⟨a3, s3⟩ := a2.mutLoc e2 (rv.set m rx2)
              exact ⟨_, vs, j, m, rfl, ey, h5, by rw [rv.length]; exact en, p2 g2 _ s3 a3 σ g2 _ (Step.refl _ _) a3⟩
            · cases eo
          · cases eo
        · exact p2.elim
      · exact p2.elim
    · exact p2.elim
  · exact p1.elim
end
end Mi
set_option Elab.async false
set_option linter.all false
set_option maxRecDepth 100000
open PySem PySem.Spec PyProof.Rows L2
namespace Mi
section
variable {F : Fr}
theorem S_app (s t : List Nat) : S s ++ S t = S (s ++ t) := by
  show Str.mk (s.toArray ++ t.toArray) = Str.mk (s ++ t).toArray
  simp
/-! ## arithmetic -/
def addO (h : MH) : D → D → Option R
  | .int i, .int j => some (.v (.int (i + j)))
  | .str s, .str t => if s.length + t.length ≤ sizeLine then some (.v (.str (s ++ t))) else none
  | .lst xs, .lst ys => if xs.length + ys.length ≤ sizeLine then some (.own (xs ++ ys)) else none
  | .tup xs, .tup ys => if xs.length + ys.length ≤ sizeLine ∧ xs ≠ [] then some (.v (.tup (xs ++ ys))) else none
  | _, _ => none
theorem cat_sq {X : Cx} : OpR X (binaryOp .Add) (fun x y H Q => ∃ l b xs zs, x = .ref l ∧ y = .ref b ∧ SqL X.K H l xs ∧ SqL X.K H b zs ∧ xs.length + zs.length ≤ sizeLine ∧ ∀ p, H p = none → Q (.ref p) (upd H p (.lst (xs ++ zs)))) := by
  intro pins s σ H x y v u Q I rx ry h
  obtain ⟨l, b, xs, zs, rfl, rfl, hH, hB, hz, q⟩ := h
  cases rx
  cases ry
  obtain ⟨its, r, hl, _⟩ := I.list hH
  obtain ⟨its2, r2, hb, _⟩ := I.list hB
  obtain ⟨⟨cls, dd, data, sl⟩, n, ho, hc, hdd, hd⟩ := hl
  obtain ⟨⟨cls2, dd2, data2, sl2⟩, n2, ho2, hc2, hdd2, hd2⟩ := hb
  simp only at hc hd hc2 hd2
  subst hc hd hc2 hd2
  have e1 := r.length
  have e2 := r2.length
  refine concat_meets ⟨_, ho, rfl⟩ ⟨_, ho2, rfl⟩ noFill_list_add seq_list_add PySem.F.slot_list_add PySem.F.entry_list_add (PySem.F.args_list_add_2 _ _) (PyProof.Rows.list_addW l b its.toArray its2.toArray n n2 dd dd2 sl sl2 (by rw [List.size_toArray, List.size_toArray]; omega)) ⟨ho, ho2, ?_⟩
  have e : its.toArray ++ its2.toArray = (its ++ its2).toArray := by simp
  rw [e]
  exact ⟨.ref _, _, I.lnew (t' := s.toks) (r.append r2) (by rw [List.length_append]; omega), rfl, q _ I.fresh⟩
theorem ok_add : OpOk F (binaryOp .Add) addO := fun X gd h g H hat x y dx dy r rx ry e Q k => by
  unfold addO at e
  split at e
  · simp only [Rep] at rx ry
    subst rx; subst ry; cases e
    exact uOp_of op_add ⟨_, _, rfl, rfl, k _ g H (Grow.refl hat) (by simp [RN, Rep])⟩
  · simp only [Rep] at rx ry
    subst rx; subst ry
    split at e
    · rename_i hl
      cases e
      exact uOp_of op_add_str ⟨_, _, rfl, rfl, by rw [S_length, S_length]; exact hl, k _ g H (Grow.refl hat) (by simp [RN, Rep, S_app])⟩
    · cases e
  · simp only [Rep] at rx ry
    obtain ⟨a, vs, rfl, l1, r1⟩ := rx
    obtain ⟨b, us, rfl, l2, r2⟩ := ry
    split at e
    · rename_i hl
      cases e
      exact uOp_of cat_sq ⟨a, b, vs, us, rfl, rfl, l1.sq, l2.sq, by rw [r1.length, r2.length]; exact hl, fun p hp => k _ g _ (grow_new hat hp) (rep_newLst hat hp (r1.append r2))⟩
    · cases e
  · have rx0 := rx
    simp only [Rep] at rx ry
    obtain ⟨a, vs, rfl, l1, r1⟩ := rx
    obtain ⟨b, us, rfl, l2, r2⟩ := ry
    split at e
    · rename_i hl
      cases e
      refine uOp_of op_catT ⟨a, b, vs, us, rfl, rfl, l1.sq, l2.sq, fun z => hl.2 ?_, by rw [r1.length, r2.length]; exact hl.1, fun z => ?_, fun z p hp => k _ _ _ (grow_fr hat hp) (rep_newTup hat hp (r1.append r2))⟩
      · have := r1.length
        rw [z] at this
        exact List.length_eq_zero_iff.mp this.symm
      · refine k _ g H (Grow.refl hat) ?_
        have := r2.length
        rw [z] at this
        rw [List.length_eq_zero_iff.mp this.symm, List.append_nil]
        exact rx0
    · cases e
  · cases e
def iaddO (h : MH) : D → D → Option R
  | .int i, .int j => some (.v (.int (i + j)))
  | .str s, .str t => if s.length + t.length ≤ sizeLine then some (.v (.str (s ++ t))) else none
  | _, _ => none
theorem ok_iadd : OpOk F (inplaceOp .Add) iaddO := fun X gd h g H hat x y dx dy r rx ry e Q k => by
  unfold iaddO at e
  split at e
  · simp only [Rep] at rx ry
    subst rx; subst ry; cases e
    exact uOp_of iop_add ⟨_, _, rfl, rfl, k _ g H (Grow.refl hat) (by simp [RN, Rep])⟩
  · simp only [Rep] at rx ry
    subst rx; subst ry
    split at e
    · rename_i hl
      cases e
      exact uOp_of iop_add_str ⟨_, _, rfl, rfl, by rw [S_length, S_length]; exact hl, k _ g H (Grow.refl hat) (by simp [RN, Rep, S_app])⟩
    · cases e
  · cases e
def subO (h : MH) : D → D → Option R
  | .int i, .int j => some (.v (.int (i - j)))
  | _, _ => none
theorem ok_sub : OpOk F (binaryOp .Sub) subO := fun X gd h g H hat x y dx dy r rx ry e Q k => by
  unfold subO at e
  split at e
  · simp only [Rep] at rx ry
    subst rx; subst ry; cases e
    exact uOp_of op_sub ⟨_, _, rfl, rfl, k _ g H (Grow.refl hat) (by simp [RN, Rep])⟩
  · cases e
def mulC (i j : Int) : Prop := i.natAbs < 2 ^ 64 ∨ j.natAbs < 2 ^ 64
instance (i j : Int) : Decidable (mulC i j) := by unfold mulC; infer_instance
def repeatL {α : Type} (k : Int) (xs : List α) : List α := (List.replicate k.toNat xs).flatten
def mulO (h : MH) : D → D → Option R
  | .int i, .int j => if mulC i j then some (.v (.int (i * j))) else none
  | .str s, .int j => if s.length * j.toNat ≤ sizeLine ∧ j.natAbs < 2 ^ 62 then some (.v (.str (repeatL j s))) else none
  | _, _ => none
def fdivO (h : MH) : D → D → Option R
  | .int i, .int j => if 0 < j ∧ j.natAbs < 1073741824 then some (.v (.int (i / j))) else none
  | _, _ => none
theorem ok_fdiv : OpOk F (binaryOp .FloorDiv) fdivO := fun X gd h g H hat x y dx dy r rx ry e Q k => by
  unfold fdivO at e
  split at e
  · simp only [Rep] at rx ry
    subst rx; subst ry
    split at e
    · rename_i hj
      cases e
      exact uOp_of op_fdiv ⟨_, _, rfl, rfl, ⟨hj.1, by have := hj.2; have := hj.1; omega⟩, k _ g H (Grow.refl hat) (by simp [RN, Rep])⟩
    · cases e
  · cases e
def modO (h : MH) : D → D → Option R
  | .int i, .int j => if 0 < j then some (.v (.int (i % j))) else none
  | _, _ => none
theorem ok_mod : OpOk F (binaryOp .Mod) modO := fun X gd h g H hat x y dx dy r rx ry e Q k => by
  unfold modO at e
  split at e
  · simp only [Rep] at rx ry
    subst rx; subst ry
    split at e
    · rename_i hj
      cases e
      exact uOp_of op_mod ⟨_, _, rfl, rfl, hj, k _ g H (Grow.refl hat) (by simp [RN, Rep])⟩
    · cases e
  · cases e
def negO (h : MH) : D → Option R
  | .int i => some (.v (.int (-i)))
  | _ => none
theorem ok_neg : UnOk F (unaryOp .USub) negO := fun X gd h g H hat x dx r rx e Q k => by
  unfold negO at e
  split at e
  · simp only [Rep] at rx
    subst rx; cases e
    exact uUn_of un_neg ⟨_, rfl, k _ g H (Grow.refl hat) (by simp [RN, Rep])⟩
  · cases e
theorem ok_isub : OpOk F (inplaceOp .Sub) subO := fun X gd h g H hat x y dx dy r rx ry e Q k => by
  unfold subO at e
  split at e
  · simp only [Rep] at rx ry
    subst rx; subst ry; cases e
    exact uOp_of iop_sub ⟨_, _, rfl, rfl, k _ g H (Grow.refl hat) (by simp [RN, Rep])⟩
  · cases e
def mulIO (h : MH) : D → D → Option R
  | .int i, .int j => if mulC i j then some (.v (.int (i * j))) else none
  | _, _ => none
theorem ok_mulI : OpOk F (binaryOp .Mult) mulIO := fun X gd h g H hat x y dx dy r rx ry e Q k => by
  unfold mulIO at e
  split at e
  · simp only [Rep] at rx ry
    subst rx; subst ry
    split at e
    · rename_i hj
      cases e
      refine uOp_of op_mul ⟨_, _, rfl, rfl, ?_, k _ g H (Grow.refl hat) (by simp [RN, Rep])⟩
      unfold mulC at hj
      unfold CMul
      omega
    · cases e
  · cases e
/-! ## comparisons -/
def cmpO (p : Int → Int → Bool) (q : List Nat → List Nat → Bool) (h : MH) : D → D → Option R
  | .int i, .int j => some (.v (.bl (p i j)))
  | .str s, .str t => some (.v (.bl (q s t)))
  | _, _ => none
abbrev ltO := cmpO (fun i j => decide (i < j)) (fun s t => decide (s < t))
abbrev gtO := cmpO (fun i j => decide (j < i)) (fun s t => decide (t < s))
abbrev leO := cmpO (fun i j => decide (i ≤ j)) (fun s t => !decide (t < s))
abbrev geO := cmpO (fun i j => decide (j ≤ i)) (fun s t => !decide (s < t))
theorem ok_lt : OpOk F (compareOp .Lt) ltO := fun X gd h g H hat x y dx dy r rx ry e Q k => by
  unfold ltO cmpO at e
  split at e
  · simp only [Rep] at rx ry
    subst rx; subst ry; cases e
    exact uOp_of op_lt ⟨_, _, rfl, rfl, k _ g H (Grow.refl hat) (by simp [RN, Rep])⟩
  · simp only [Rep] at rx ry
    subst rx; subst ry; cases e
    exact uOp_of op_lt_str ⟨_, _, rfl, rfl, k _ g H (Grow.refl hat) (by simp [RN, Rep, S_list])⟩
  · cases e
theorem ok_gt : OpOk F (compareOp .Gt) gtO := fun X gd h g H hat x y dx dy r rx ry e Q k => by
  unfold gtO cmpO at e
  split at e
  · simp only [Rep] at rx ry
    subst rx; subst ry; cases e
    exact uOp_of op_gt ⟨_, _, rfl, rfl, k _ g H (Grow.refl hat) (by simp [RN, Rep])⟩
  · simp only [Rep] at rx ry
    subst rx; subst ry; cases e
    exact uOp_of op_gt_str ⟨_, _, rfl, rfl, k _ g H (Grow.refl hat) (by simp [RN, Rep, S_list])⟩
  · cases e
theorem ok_le : OpOk F (compareOp .LtE) leO := fun X gd h g H hat x y dx dy r rx ry e Q k => by
  unfold leO cmpO at e
  split at e
  · simp only [Rep] at rx ry
    subst rx; subst ry; cases e
    exact uOp_of op_le ⟨_, _, rfl, rfl, k _ g H (Grow.refl hat) (by simp [RN, Rep])⟩
  · simp only [Rep] at rx ry
    subst rx; subst ry; cases e
    exact uOp_of op_le_str ⟨_, _, rfl, rfl, k _ g H (Grow.refl hat) (by simp [RN, Rep, S_list])⟩
  · cases e
theorem ok_ge : OpOk F (compareOp .GtE) geO := fun X gd h g H hat x y dx dy r rx ry e Q k => by
  unfold geO cmpO at e
  split at e
  · simp only [Rep] at rx ry
    subst rx; subst ry; cases e
    exact uOp_of op_ge ⟨_, _, rfl, rfl, k _ g H (Grow.refl hat) (by simp [RN, Rep])⟩
  · simp only [Rep] at rx ry
    subst rx; subst ry; cases e
    exact uOp_of op_ge_str ⟨_, _, rfl, rfl, k _ g H (Grow.refl hat) (by simp [RN, Rep, S_list])⟩
  · cases e
/-! ## equality -/
mutual
def toPy : D → Option PyData
  | .non => some .none
  | .bl b => some (.bool b)
  | .int i => some (.int i)
  | .str s => some (.str (S s))
  | .tup ds => (toPys ds).map .tuple
  | .lst ds => (toPys ds).map .list
  | .loc _ => none
  | .dct _ _ => none
def toPys : List D → Option (List PyData)
  | [] => some []
  | d :: ds => match toPy d, toPys ds with
    | some a, some r => some (a :: r)
    | _, _ => none
end
mutual
theorem rep_dp {K : PySem.W.Frag} {w : World} {g : Gh} {H : Hp} : ∀ (d : D) {x : V} {p : PyData}, Rep K w g H x d → toPy d = some p → Dp K H x p
  | .non, _, _, r, e => by simp only [Rep] at r; subst r; simp [toPy] at e; subst e; exact .non
  | .bl b, _, _, r, e => by simp only [Rep] at r; subst r; simp [toPy] at e; subst e; exact .bl b
  | .int i, _, _, r, e => by simp only [Rep] at r; subst r; simp [toPy] at e; subst e; exact .int i
  | .str s, _, _, r, e => by simp only [Rep] at r; subst r; simp [toPy] at e; subst e; exact .str _
  | .tup ds, _, _, r, e => by
    simp only [Rep] at r
    obtain ⟨a, vs, rfl, t, rs⟩ := r
    simp only [toPy] at e
    cases e2 : toPys ds with
    | none => rw [e2] at e; cases e
    | some l => rw [e2] at e; cases e; exact .tup t.sq (reps_dp ds rs e2)
  | .lst ds, _, _, r, e => by
    simp only [Rep] at r
    obtain ⟨a, vs, rfl, t, rs⟩ := r
    simp only [toPy] at e
    cases e2 : toPys ds with
    | none => rw [e2] at e; cases e
    | some l => rw [e2] at e; cases e; exact .lst t.sq (reps_dp ds rs e2)
  | .loc _, _, _, _, e => by simp [toPy] at e
  | .dct _ _, _, _, _, e => by simp [toPy] at e
theorem reps_dp {K : PySem.W.Frag} {w : World} {g : Gh} {H : Hp} : ∀ (ds : List D) {xs : List V} {ps : List PyData}, Reps K w g H xs ds → toPys ds = some ps → DpAll K H xs ps
  | [], _, _, r, e => by rw [Reps.nil_iff] at r; subst r; simp [toPys] at e; subst e; exact .nil
  | d :: ds, _, _, r, e => by
    rw [Reps.cons_iff] at r
    obtain ⟨v, vs, rfl, r1, r2⟩ := r
    simp only [toPys] at e
    cases e1 : toPy d with
    | none => rw [e1] at e; cases e
    | some p =>
      cases e2 : toPys ds with
      | none => rw [e1, e2] at e; cases e
      | some ps => rw [e1, e2] at e; cases e; exact .cons (rep_dp d r1 e1) (reps_dp ds r2 e2)
end
/-- == of two data, where it is told -/
def eqD (x y : D) : Option Bool := match x, y with
  | .str s, .str t => some (decide (s = t))
  | .int i, .int j => some (decide (i = j))
  | .bl i, .bl j => some (decide (i = j))
  | .non, .str _ => some false
  | .str _, .non => some false
  | .non, .int _ => some false
  | .int _, .non => some false
  | x, y => match toPy x, toPy y with
    | some a, some b => if SeqAt.shaped a = true ∧ SeqAt.shaped b = true then some (PyData.eqv a b) else none
    | _, _ => none
def eqO (h : MH) (x y : D) : Option R := (eqD x y).map fun b => .v (.bl b)
def neO (h : MH) (x y : D) : Option R := (eqD x y).map fun b => .v (.bl (!b))
theorem eqD_ok {X : Cx} {g : Gh} {H : Hp} {x y : V} {dx dy : D} {b : Bool} (rx : Rep X.K X.w g H x dx) (ry : Rep X.K X.w g H y dy) (e : eqD dx dy = some b) :
    (scal x y = true ∧ b = decide (x = y)) ∨ ∃ p q, Dp X.K H x p ∧ Dp X.K H y q ∧ SeqAt.shaped p = true ∧ SeqAt.shaped q = true ∧ b = PyData.eqv p q := by
  unfold eqD at e
  split at e
  · simp only [Rep] at rx ry
    subst rx; subst ry; cases e
    refine .inl ⟨rfl, ?_⟩
    rename_i s t
    by_cases h : s = t
    · subst h; simp
    · rw [decide_eq_false h, decide_eq_false]
      intro q
      injection q with q
      exact h (S_inj q)
  · simp only [Rep] at rx ry
    subst rx; subst ry; cases e
    exact .inl ⟨rfl, by simp⟩
  · simp only [Rep] at rx ry
    subst rx; subst ry; cases e
    exact .inl ⟨rfl, by simp⟩
  · simp only [Rep] at rx ry
    subst rx; subst ry; cases e
    exact .inl ⟨rfl, by simp⟩
  · simp only [Rep] at rx ry
    subst rx; subst ry; cases e
    exact .inl ⟨rfl, by simp⟩
  · simp only [Rep] at rx ry
    subst rx; subst ry; cases e
    exact .inl ⟨rfl, by simp⟩
  · simp only [Rep] at rx ry
    subst rx; subst ry; cases e
    exact .inl ⟨rfl, by simp⟩
  · split at e
    · rename_i a b e1 e2
      split at e
      · rename_i hs
        cases e
        exact .inr ⟨a, b, rep_dp _ rx e1, rep_dp _ ry e2, hs.1, hs.2, rfl⟩
      · cases e
    · cases e
theorem ok_eq : OpOk F (compareOp .Eq) eqO := fun X gd h g H hat x y dx dy r rx ry e Q k => by
  unfold eqO at e
  cases eb : eqD dx dy with
  | none => rw [eb] at e; cases e
  | some b =>
    rw [eb] at e
    cases e
    rcases eqD_ok rx ry eb with ⟨h1, rfl⟩ | ⟨p, q, d1, d2, s1, s2, rfl⟩
    · exact uOp_of op_eq ⟨h1, k _ g H (Grow.refl hat) (by simp [RN, Rep])⟩
    · exact uOp_of (op_eqD gd.room.units) ⟨p, q, d1, d2, s1, s2, k _ g H (Grow.refl hat) (by simp [RN, Rep])⟩
theorem ok_ne : OpOk F (compareOp .NotEq) neO := fun X gd h g H hat x y dx dy r rx ry e Q k => by
  unfold neO at e
  cases eb : eqD dx dy with
  | none => rw [eb] at e; cases e
  | some b =>
    rw [eb] at e
    cases e
    rcases eqD_ok rx ry eb with ⟨h1, rfl⟩ | ⟨p, q, d1, d2, s1, s2, rfl⟩
    · exact uOp_of op_ne ⟨h1, k _ g H (Grow.refl hat) (by simp [RN, Rep])⟩
    · exact uOp_of (op_neD gd.room.units) ⟨p, q, d1, d2, s1, s2, k _ g H (Grow.refl hat) (by simp [RN, Rep])⟩
/-- is None, is not None -/
def isNonD : D → Bool
  | .non => true
  | _ => false
def isNO (h : MH) (x y : D) : Option R := match y with
  | .non => some (.v (.bl (isNonD x)))
  | _ => none
def notNO (h : MH) (x y : D) : Option R := match y with
  | .non => some (.v (.bl (!isNonD x)))
  | _ => none
theorem isNon_ok {K : PySem.W.Frag} {w : World} {g : Gh} {H : Hp} {x : V} {d : D} (r : Rep K w g H x d) : decide (x = .non) = isNonD d := by
  cases d <;> simp only [Rep] at r
  · subst r; rfl
  · subst r; rfl
  · subst r; rfl
  · subst r; rfl
  · obtain ⟨a, vs, rfl, _⟩ := r; rfl
  · obtain ⟨a, vs, rfl, _⟩ := r; rfl
  · obtain ⟨_, rfl⟩ := r; rfl
  · obtain ⟨a, vs, rfl, _⟩ := r; rfl
theorem ok_is : OpOk F (compareOp .Is) isNO := fun X gd h g H hat x y dx dy r rx ry e Q k => by
  unfold isNO at e
  split at e
  · simp only [Rep] at ry
    subst ry; cases e
    exact uOp_of op_isN ⟨rfl, k _ g H (Grow.refl hat) (by simp [RN, Rep, isNon_ok rx])⟩
  · cases e
theorem ok_isnot : OpOk F (compareOp .IsNot) notNO := fun X gd h g H hat x y dx dy r rx ry e Q k => by
  unfold notNO at e
  split at e
  · simp only [Rep] at ry
    subst ry; cases e
    exact uOp_of op_notN ⟨rfl, k _ g H (Grow.refl hat) (by simp [RN, Rep, isNon_ok rx])⟩
  · cases e
/-! ## in -/
def flatD : D → Bool
  | .non => true
  | .bl _ => true
  | .int _ => true
  | .str _ => true
  | _ => false
def eqF : D → D → Bool
  | .non, .non => true
  | .bl a, .bl b => a == b
  | .bl a, .int b => (if a then 1 else 0) == b
  | .int a, .bl b => a == (if b then 1 else 0)
  | .int a, .int b => a == b
  | .str a, .str b => a == b
  | _, _ => false
def inL (x : D) (ys : List D) : Option Bool := if flatD x = true ∧ ys.all flatD = true then some (ys.any fun y => eqF y x) else none
def inD (h : MH) (x y : D) : Option Bool := match y with
  | .str t => (match x with
    | .str [c] => some (decide (c ∈ t))
    | _ => none)
  | .tup ys => inL x ys
  | .lst ys => inL x ys
  | .dct ks ds => (match x with
    | .str s => if ks.length = ds.length then some (decide (s ∈ ks)) else none
    | _ => none)
  | _ => none
def inO (h : MH) (x y : D) : Option R := (inD h x y).map fun b => .v (.bl b)
def ninO (h : MH) (x y : D) : Option R := (inD h x y).map fun b => .v (.bl (!b))
theorem flat_ok {K : PySem.W.Frag} {w : World} {g : Gh} {H : Hp} {x : V} {d : D} (r : Rep K w g H x d) (f : flatD d = true) : flatV x = true := by
  cases d <;> simp only [Rep] at r <;> first | (subst r; rfl) | cases f
theorem eqF_ok {K : PySem.W.Frag} {w : World} {g : Gh} {H : Hp} {x y : V} {d e : D} (rx : Rep K w g H x d) (ry : Rep K w g H y e) (f1 : flatD d = true) (f2 : flatD e = true) : eqV x y = eqF d e := by
  cases d <;> cases e <;> first | exact absurd f1 Bool.false_ne_true | exact absurd f2 Bool.false_ne_true | skip
  all_goals
    simp only [Rep] at rx ry
    subst rx; subst ry
    first | rfl | skip
  rename_i a b
  show (S a == S b) = (a == b)
  by_cases h : a = b
  · subst h; simp
  · rw [beq_eq_false_iff_ne.mpr h, beq_eq_false_iff_ne.mpr fun z => h (S_inj z)]
theorem flats_ok {K : PySem.W.Frag} {w : World} {g : Gh} {H : Hp} : ∀ {ds : List D} {xs : List V}, Reps K w g H xs ds → ds.all flatD = true → xs.all flatV = true
  | [], _, r, _ => by rw [Reps.nil_iff] at r; subst r; rfl
  | d :: ds, _, r, f => by
    rw [Reps.cons_iff] at r
    obtain ⟨v, vs, rfl, r1, r2⟩ := r
    rw [List.all_cons, Bool.and_eq_true] at f ⊢
    exact ⟨flat_ok r1 f.1, flats_ok r2 f.2⟩
theorem any_ok {K : PySem.W.Frag} {w : World} {g : Gh} {H : Hp} {x : V} {d : D} (rx : Rep K w g H x d) (f1 : flatD d = true) : ∀ {ds : List D} {xs : List V}, Reps K w g H xs ds → ds.all flatD = true → inV x xs = ds.any fun y => eqF y d
  | [], _, r, _ => by rw [Reps.nil_iff] at r; subst r; rfl
  | e :: ds, _, r, f => by
    rw [Reps.cons_iff] at r
    obtain ⟨v, vs, rfl, r1, r2⟩ := r
    rw [List.all_cons, Bool.and_eq_true] at f
    have := any_ok rx f1 r2 f.2
    unfold inV at this ⊢
    rw [List.any_cons, List.any_cons, this, eqF_ok r1 rx f.1 f1]
theorem lookup_mem : ∀ (ks : List (List Nat)) (vs : List V) (s : List Nat), ks.length = vs.length → ((ks.zip vs).lookup s).isSome = decide (s ∈ ks)
  | [], _, s, _ => by simp
  | k :: ks, [], s, h => by simp at h
  | k :: ks, v :: vs, s, h => by
    rw [List.zip_cons_cons, List.lookup_cons]
    by_cases e : s = k
    · subst e; simp
    · have : (s == k) = false := beq_eq_false_iff_ne.mpr e
      rw [this]
      have ih := lookup_mem ks vs s (by simpa using h)
      simp [ih, e]
theorem kd_in {X : Cx} {a : Addr} {ks : List (List Nat)} {vs : List V} {s : List Nat} (k : KDc X.K X.w a ks vs) (hl : ks.length = vs.length) :
    OpR X (compareOp .In) (fun x y H Q => x = .str (S s) ∧ y = .ref a ∧ Q (.bl (decide (s ∈ ks))) H) ∧ OpR X (compareOp .NotIn) (fun x y H Q => x = .str (S s) ∧ y = .ref a ∧ Q (.bl (!decide (s ∈ ks))) H) := by
  obtain ⟨es, n, h1, h2, h3, h4⟩ := k
  have h4 := h4 s
  have hfind : ∃ r, PySem.W.nsIn X.K a (S s) = some r ∧ r.isSome = decide (s ∈ ks) := by
    rw [← lookup_mem ks vs s hl]
    split at h4
    · rename_i v e
      obtain ⟨u, e1, _⟩ := h4
      exact ⟨_, e1, by rw [e]; rfl⟩
    · rename_i e
      exact ⟨_, h4, by rw [e]; rfl⟩
  obtain ⟨r, e1, e2⟩ := hfind
  constructor
  · intro pins s' σ H x y v u Q I rx ry q
    obtain ⟨rfl, rfl, q⟩ := q
    obtain ⟨t, rfl⟩ := rx
    obtain rfl : u = Value.ref a := ry
    have hm := PySem.W.mapOf_K (prog := X.prog) (w := X.w) I.kIn h1 h2
    refine wpAny_in_of (strKind_is X.prog X.w (S s) t) h3 hm ?_
    rw [PySem.W.find_K h1 e1, e2]
    exact ⟨.bl _, H, I.tok _, rfl, q⟩
  · intro pins s' σ H x y v u Q I rx ry q
    obtain ⟨rfl, rfl, q⟩ := q
    obtain ⟨t, rfl⟩ := rx
    obtain rfl : u = Value.ref a := ry
    have hm := PySem.W.mapOf_K (prog := X.prog) (w := X.w) I.kIn h1 h2
    refine wpAny_notIn_of (strKind_is X.prog X.w (S s) t) h3 hm ?_
    rw [PySem.W.find_K h1 e1, e2]
    exact ⟨.bl _, H, I.tok _, rfl, q⟩
theorem ok_in : OpOk F (compareOp .In) inO := fun X gd h g H hat x y dx dy r rx ry e Q k => by
  unfold inO at e
  cases eb : inD h dx dy with
  | none => rw [eb] at e; cases e
  | some b =>
    rw [eb] at e
    cases e
    have k' : Q (.bl b) H := k _ g H (Grow.refl hat) (by simp [RN, Rep])
    unfold inD at eb
    split at eb
    · split at eb
      · rename_i t _ c
        simp only [Rep] at rx ry
        subst rx; subst ry; cases eb
        exact uOp_of op_in_sign ⟨c, S t, rfl, rfl, by rw [S_list]; exact k'⟩
      · cases eb
    · simp only [Rep] at ry
      obtain ⟨a, vs, rfl, l, rs⟩ := ry
      unfold inL at eb
      split at eb
      · rename_i f
        cases eb
        refine uOp_of op_in_seq ⟨a, vs, rfl, .inr l.sq, flat_ok rx f.1, flats_ok rs f.2, ?_⟩
        rw [if_neg (by decide), any_ok rx f.1 rs f.2]
        exact k'
      · cases eb
    · simp only [Rep] at ry
      obtain ⟨a, vs, rfl, l, rs⟩ := ry
      unfold inL at eb
      split at eb
      · rename_i f
        cases eb
        refine uOp_of op_in_seq ⟨a, vs, rfl, .inl l.sq, flat_ok rx f.1, flats_ok rs f.2, ?_⟩
        rw [if_neg (by decide), any_ok rx f.1 rs f.2]
        exact k'
      · cases eb
    · split at eb
      · split at eb
        · rename_i ks ds _ s hl
          simp only [Rep] at rx ry
          obtain ⟨a, vs, rfl, kd, rs⟩ := ry
          subst rx
          cases eb
          exact uOp_of (kd_in kd (by rw [hl, rs.length])).1 ⟨rfl, rfl, k'⟩
        · cases eb
      · cases eb
    · cases eb
theorem ok_nin : OpOk F (compareOp .NotIn) ninO := fun X gd h g H hat x y dx dy r rx ry e Q k => by
  unfold ninO at e
  cases eb : inD h dx dy with
  | none => rw [eb] at e; cases e
  | some b =>
    rw [eb] at e
    cases e
    have k' : Q (.bl (!b)) H := k _ g H (Grow.refl hat) (by simp [RN, Rep])
    unfold inD at eb
    split at eb
    · split at eb
      · rename_i t _ c
        simp only [Rep] at rx ry
        subst rx; subst ry; cases eb
        exact uOp_of op_notIn_sign ⟨c, S t, rfl, rfl, by rw [S_list]; exact k'⟩
      · cases eb
    · simp only [Rep] at ry
      obtain ⟨a, vs, rfl, l, rs⟩ := ry
      unfold inL at eb
      split at eb
      · rename_i f
        cases eb
        refine uOp_of op_notIn_seq ⟨a, vs, rfl, .inr l.sq, flat_ok rx f.1, flats_ok rs f.2, ?_⟩
        rw [if_pos rfl, any_ok rx f.1 rs f.2]
        exact k'
      · cases eb
    · simp only [Rep] at ry
      obtain ⟨a, vs, rfl, l, rs⟩ := ry
      unfold inL at eb
      split at eb
      · rename_i f
        cases eb
        refine uOp_of op_notIn_seq ⟨a, vs, rfl, .inl l.sq, flat_ok rx f.1, flats_ok rs f.2, ?_⟩
        rw [if_pos rfl, any_ok rx f.1 rs f.2]
        exact k'
      · cases eb
    · split at eb
      · split at eb
        · rename_i ks ds _ s hl
          simp only [Rep] at rx ry
          obtain ⟨a, vs, rfl, kd, rs⟩ := ry
          subst rx
          cases eb
          exact uOp_of (kd_in kd (by rw [hl, rs.length])).2 ⟨rfl, rfl, k'⟩
        · cases eb
      · cases eb
    · cases eb
end
end Mi
set_option Elab.async false
set_option linter.all false
set_option maxRecDepth 100000
open PySem PySem.Spec PyProof.Rows L2
namespace Mi
section
variable {F : Fr}
/-! ## subscripts -/
def ixD (h : MH) (x y : D) : Option D := match x with
  | .lst ds => (match y with
    | .int j => atI ds j
    | _ => none)
  | .tup ds => (match y with
    | .int j => atI ds j
    | _ => none)
  | .str s => (match y with
    | .int j => if s.length ≤ sizeLine then (atI s j).map fun c => .str [c] else none
    | _ => none)
  | .loc n => (match h[n]? with
    | some (.lst ds) => (match y with
      | .int j => atI ds j
      | _ => none)
    | none => none)
  | .dct ks ds => (match y with
    | .str s => (ks.zip ds).lookup s
    | _ => none)
  | _ => none
def ixO (h : MH) (x y : D) : Option R := (ixD h x y).map .v
theorem lookup_reps {K : PySem.W.Frag} {w : World} {g : Gh} {H : Hp} : ∀ (ks : List (List Nat)) (ds : List D) (vs : List V) (s : List Nat) (d : D), Reps K w g H vs ds → (ks.zip ds).lookup s = some d → ∃ v, (ks.zip vs).lookup s = some v ∧ Rep K w g H v d
  | [], ds, vs, s, d, _, e => by simp at e
  | k :: ks, [], vs, s, d, _, e => by simp at e
  | k :: ks, d0 :: ds, vs, s, d, r, e => by
    rw [Reps.cons_iff] at r
    obtain ⟨v0, r0, rfl, h1, h2⟩ := r
    rw [List.zip_cons_cons, List.lookup_cons] at e ⊢
    cases q : s == k with
    | true => rw [q] at e; cases e; exact ⟨v0, rfl, h1⟩
    | false => rw [q] at e; exact lookup_reps ks ds r0 s d h2 e
theorem ok_ix : IxOk F ixO := fun X gd h g H hat x y dx dy r rx ry e Q k => by
  unfold ixO at e
  cases eb : ixD h dx dy with
  | none => rw [eb] at e; cases e
  | some d =>
    rw [eb] at e
    cases e
    have k' : ∀ v, Rep X.K X.w g H v d → Q v H := fun v q => k _ g H (Grow.refl hat) q
    unfold ixD at eb
    split at eb
    · split at eb
      · simp only [Rep] at rx ry
        obtain ⟨a, vs, rfl, l, rs⟩ := rx
        subst ry
        obtain ⟨v, ev, rv⟩ := atI_reps rs eb
        exact uIx_of ix_list ⟨a, vs, _, v, rfl, rfl, l.sq, ev, k' v rv⟩
      · cases eb
    · split at eb
      · simp only [Rep] at rx ry
        obtain ⟨a, vs, rfl, l, rs⟩ := rx
        subst ry
        obtain ⟨v, ev, rv⟩ := atI_reps rs eb
        exact uIx_of ix_tup ⟨a, vs, _, v, rfl, rfl, l.sq, ev, k' v rv⟩
      · cases eb
    · split at eb
      · split at eb
        · rename_i s _ j hl
          simp only [Rep] at rx ry
          subst rx; subst ry
          cases ec : atI s j with
          | none => rw [ec] at eb; cases eb
          | some c =>
            rw [ec] at eb
            cases eb
            exact uIx_of ix_str ⟨S s, j, c, rfl, rfl, by rw [S_length]; exact hl, by rw [S_list]; exact ec, k' _ (by simp [Rep, S])⟩
        · cases eb
      · cases eb
    · split at eb
      · rename_i n _ ds e2
        split at eb
        · simp only [Rep] at rx ry
          obtain ⟨_, rfl⟩ := rx
          subst ry
          obtain ⟨⟨vs, h1, rs⟩, _⟩ := hat.obj n _ e2
          obtain ⟨v, ev, rv⟩ := atI_reps rs eb
          exact uIx_of ix_list ⟨_, vs, _, v, rfl, rfl, .of h1, ev, k' v rv⟩
        · cases eb
      · cases eb
    · split at eb
      · rename_i ks ds _ s
        simp only [Rep] at rx ry
        obtain ⟨a, vs, rfl, ⟨es, n, h1, h2, h3, h4⟩, rs⟩ := rx
        subst ry
        obtain ⟨v, ev, rv⟩ := lookup_reps ks ds vs s d rs eb
        have h4 := h4 s
        rw [ev] at h4
        obtain ⟨u, e1, ru⟩ := h4
        exact uIx_of ix_kdict ⟨a, S s, v, rfl, rfl, ⟨es, n, u, h1, h2, e1, ru⟩, k' v rv⟩
      · cases eb
    · cases eb
/-! ## slices -/
def cutL {α : Type} (xs : List α) (lo hi : Option Int) : List α := (xs.drop (HT.sIx xs.length 0 lo)).take (HT.sIx xs.length xs.length hi - HT.sIx xs.length 0 lo)
theorem cutV_reps {K : PySem.W.Frag} {w : World} {g : Gh} {H : Hp} {vs : List V} {ds : List D} (r : Reps K w g H vs ds) (lo hi : Option Int) : Reps K w g H (cutV vs lo hi) (cutL ds lo hi) := by
  unfold cutV cutL
  rw [r.length]
  exact (r.drop _).take _
def MO' := Ev → MH → Rs (Option Int)
def SO (F : Fr) (e : Option Expr) (m : MO') : Prop := ∀ X W, Good F X → Takes X W → ∀ Hk gk σ env h g H (Q : Option Int → Hp → Prop), At X.K X.w Hk gk σ env h g H →
  post X.K X.w X.mg W Hk gk σ g H (m env h) (fun o _ _ _ H' => Q o H') → ∃ t, PO X e t ∧ t σ H Q
def pNone : MO' := fun env h => .ok none env h
def pSome (m : MV) : MO' := fun env h => (m env h).bind fun d env h => match d with
  | .int i => .ok (some i) env h
  | _ => .no
end
section
variable (X : Cx)
def uO (e : Option Expr) : TO := fun σ H Q => ∀ pins s, Inv X pins σ H s → wpAny (model X.prog X.w) X.A (evalPart e X.env) (fun u s' => ∃ o H', Inv X pins σ H' s' ∧ IsPart u o ∧ Q o H') X.xe s
def uSl : V → Option Int → Option Int → Hp → VK → Prop := fun x lo hi H Q => ∀ pins s σ v vl vu sl, Inv X pins σ H s → RelV x v → s.heap.IsSliceOf sl vl vu .none → IsPart vl lo → IsPart vu hi →
    ∃ T id, typeLookup (.type T) "__getitem__" = pure (some (.builtin id)) ∧ s.TypeIs v T ∧ wpAny (model X.prog X.w) X.A (getItem v (.ref sl)) (EP X pins σ Q) X.xe s
variable {X}
theorem po_u {e : Option Expr} : PO X e (uO X e) := ⟨fun pins s σ H Q I h => h pins s I⟩
theorem sl_u : SlR X (uSl X) := fun pins s σ H x v vl vu lo hi sl Q I rx hs pl pu h => h pins s σ v vl vu sl I rx hs pl pu
theorem uO_of {e : Option Expr} {t : TO} (h : PO X e t) {σ : L2.St} {H : Hp} {Q : Option Int → Hp → Prop} (q : t σ H Q) : uO X e σ H Q := fun pins s I => h.run pins s σ H Q I q
theorem uSl_of {r : V → Option Int → Option Int → Hp → VK → Prop} (h : SlR X r) {x : V} {lo hi : Option Int} {H : Hp} {Q : VK} (q : r x lo hi H Q) : uSl X x lo hi H Q := fun pins s σ v vl vu sl I rx hs pl pu => h pins s σ H x v vl vu lo hi sl Q I rx hs pl pu q
end
section
variable {F : Fr} {e a b c : Expr} {es : List Expr} {pos : Pos} {X : Cx} {W : WX} {Hk : Hp} {gk g : Gh} {σ : L2.St} {env : Ev} {h : MH} {H : Hp}
theorem so_none : SO F none pNone := fun X W gd tk Hk gk σ env h g H Q at_ p => ⟨_, po_none, p g H (Step.refl _ _) at_⟩
theorem so_some {m : MV} (he : SV F e m) : SO F (some e) (pSome m) := fun X W gd tk Hk gk σ env h g H Q at_ p => by
  refine ⟨_, po_some pe_u, ?_⟩
  refine he.go gd tk at_ p fun d env1 h1 g1 H1 x s1 a1 rx p1 => ?_
  split at p1
  · rename_i i
    exact ⟨i, by simpa [Rep] using rx, p1 g1 H1 (Step.refl _ _) a1⟩
  · exact p1.elim
theorem SO.go {o : Option Expr} {m : MO'} (s : SO F o m) (gd : Good F X) (tk : Takes X W) (at_ : At X.K X.w Hk gk σ env h g H) {β : Type} {f : Option Int → Ev → MH → Rs β} {C : β → Ev → MH → Gh → Hp → Prop} {Q : Option Int → Hp → Prop} (p : post X.K X.w X.mg W Hk gk σ g H ((m env h).bind f) C)
    (k : ∀ i env1 h1 g1 H1, Step g H g1 H1 → At X.K X.w Hk gk σ env1 h1 g1 H1 → post X.K X.w X.mg W Hk gk σ g1 H1 (f i env1 h1) C → Q i H1) : uO X o σ H Q := by
  obtain ⟨t, h1, h2⟩ := s X W gd tk Hk gk σ env h g H Q at_ ((post.bind p).imp fun d env1 h1 g1 H1 st a1 q => k d env1 h1 g1 H1 st a1 q)
  exact uO_of h1 h2
def slO (x : D) (lo hi : Option Int) : Option R := match x with
  | .str s => if s.length ≤ sizeLine then some (.v (.str (cutL s lo hi))) else none
  | .lst ds => some (.own (cutL ds lo hi))
  | .tup ds => if HT.sIx ds.length 0 lo = 0 ∧ HT.sIx ds.length ds.length hi = ds.length then none else some (.v (.tup (cutL ds lo hi)))
  | _ => none
def eSl (m : MV) (lo hi : MO') : ME := fun env h => (m env h).bind fun x env h => (lo env h).bind fun l env h => (hi env h).bind fun u env h => ofO (slO x l u) env h
theorem se_sl {m : MV} {lo hi : Option Expr} {ml mh : MO'} {p2 : Pos} (he : SV F e m) (hl : SO F lo ml) (hh : SO F hi mh) : SE F (.Subscript e (.Slice lo hi none p2) pos) (eSl m ml mh) := fun X W gd tk Hk gk σ env h g H Q at_ p => by
  refine uE_of (pe_slice sl_u pe_u po_u po_u) ?_
  refine he.go gd tk at_ p fun d env1 h1 g1 H1 x s1 a1 rx p1 => ?_
  refine hl.go gd tk a1 p1 fun l env2 h2 g2 H2 s2 a2 p2 => ?_
  refine hh.go gd tk a2 p2 fun u env3 h3 g3 H3 s3 a3 p3 => ?_
  obtain ⟨r, er, k⟩ := ofO_go a3 p3
  have rx := rx.step (s2.trans s3)
  unfold slO at er
  split at er
  · split at er
    · rename_i s _ hz
      simp only [Rep] at rx
      subst rx
      cases er
      refine uSl_of sl_str ⟨S s, rfl, by rw [S_length]; exact hz, k _ g3 H3 (Grow.refl a3.hat) ?_⟩
      simp only [RN, Rep]
      unfold cutS cutL S
      simp [Str.length]
    · cases er
  · simp only [Rep] at rx
    obtain ⟨a, vs, rfl, l1, rs⟩ := rx
    cases er
    exact uSl_of sl_list ⟨a, vs, rfl, l1.sq, fun p hp => k _ g3 _ (grow_new a3.hat hp) (rep_newLst a3.hat hp (cutV_reps rs _ _))⟩
  · split at er
    · cases er
    · rename_i hz
      simp only [Rep] at rx
      obtain ⟨a, vs, rfl, l1, rs⟩ := rx
      cases er
      exact uSl_of sl_tup ⟨a, vs, rfl, l1.sq, by rw [rs.length]; exact hz, fun p hp => k _ _ _ (grow_fr a3.hat hp) (rep_newTup a3.hat hp (cutV_reps rs _ _))⟩
  · cases er
/-- x[a:b], x a name: its own list is not frozen -/
def eSlV (i : Nat) (lo hi : MO') : ME := fun env h => if live env i = true then (lo env h).bind fun l env h => (hi env h).bind fun u env h => match env[i]? with
  | some (.own ds) => .ok (.own (cutL ds l u)) env h
  | some (.v d) => ofO (slO d l u) env h
  | _ => .no else .no
theorem se_slv {i : Nat} {nm : Str} {lo hi : Option Expr} {ml mh : MO'} {p1 p2 : Pos} (hN : F.N[i]? = some nm := by rfl) (hv : Vis F.sc nm := by first | exact Or.inl rfl | exact Or.inr (Or.inl rfl) | exact Or.inr (Or.inr rfl)) (hd : (nm == ("__debug__" : Str)) = false := by decide) (hcd : (nm == ("__classdict__" : Str)) = false := by decide) (hl : SO F lo ml) (hh : SO F hi mh) : SE F (.Subscript (.Name nm p1) (.Slice lo hi none p2) pos) (eSlV i ml mh) := fun X W gd tk Hk gk σ env h g H Q at_ p => by
  refine uE_of (pe_slice sl_u (pe_var (i := i) (by rw [gd.N]; exact hN) (by rw [gd.sc]; exact hv) hd hcd) po_u po_u) ?_
  unfold eSlV at p
  split at p
  · rename_i hli
    obtain ⟨x, hx⟩ := slot_of at_ hli
    refine ⟨x, hx, ?_⟩
    refine hl.go gd tk at_ p fun l env2 h2 g2 H2 s2 a2 p2 => ?_
    refine hh.go gd tk a2 p2 fun u env3 h3 g3 H3 s3 a3 p3 => ?_
    split at p3
    · rename_i ds e1
      obtain ⟨a, h4, o⟩ := a3.own i ds e1
      rw [hx] at h4
      cases h4
      obtain ⟨vs, h5, rs⟩ := o.at_
      exact uSl_of sl_list ⟨a, vs, rfl, .of h5, fun p hp => p3 _ _ ((grow_new a3.hat hp).fstep a3.hat).toStep ((grow_new a3.hat hp).at a3) _ ((rep_newLst a3.hat hp (cutV_reps rs _ _)).rr a3 (grow_new a3.hat hp))⟩
    · rename_i d e1
      obtain ⟨x', h4, rx⟩ := a3.val i d e1
      rw [hx] at h4
      cases h4
      obtain ⟨r, er, k⟩ := ofO_go a3 p3
      unfold slO at er
      split at er
      · split at er
        · rename_i s hz
          simp only [Rep] at rx
          subst rx
          cases er
          refine uSl_of sl_str ⟨S s, rfl, by rw [S_length]; exact hz, k _ g3 H3 (Grow.refl a3.hat) ?_⟩
          simp only [RN, Rep]
          unfold cutS cutL S
          simp [Str.length]
        · cases er
      · simp only [Rep] at rx
        obtain ⟨a, vs, rfl, l1, rs⟩ := rx
        cases er
        exact uSl_of sl_list ⟨a, vs, rfl, l1.sq, fun p hp => k _ g3 _ (grow_new a3.hat hp) (rep_newLst a3.hat hp (cutV_reps rs _ _))⟩
      · split at er
        · cases er
        · rename_i hz
          simp only [Rep] at rx
          obtain ⟨a, vs, rfl, l1, rs⟩ := rx
          cases er
          exact uSl_of sl_tup ⟨a, vs, rfl, l1.sq, by rw [rs.length]; exact hz, fun p hp => k _ _ _ (grow_fr a3.hat hp) (rep_newTup a3.hat hp (cutV_reps rs _ _))⟩
      · cases er
    · exact p3.elim
  · exact p.elim
end
section
variable {F : Fr}
/-! ## built-ins -/
def lenO (h : MH) (ds : List D) : Option R := match ds with
  | [.lst xs] => some (.v (.int xs.length))
  | [.tup xs] => some (.v (.int xs.length))
  | [.str s] => if s.length ≤ sizeLine then some (.v (.int s.length)) else none
  | [.loc n] => (match h[n]? with
    | some (.lst xs) => some (.v (.int xs.length))
    | none => none)
  | _ => none
theorem one_reps {K : PySem.W.Frag} {w : World} {g : Gh} {H : Hp} {xs : List V} {d : D} (r : Reps K w g H xs [d]) : ∃ x, xs = [x] ∧ Rep K w g H x d := by
  rw [Reps.cons_iff] at r
  obtain ⟨v, t, rfl, h1, h2⟩ := r
  rw [Reps.nil_iff] at h2
  subst h2
  exact ⟨v, rfl, h1⟩
theorem two_reps {K : PySem.W.Frag} {w : World} {g : Gh} {H : Hp} {xs : List V} {d e : D} (r : Reps K w g H xs [d, e]) : ∃ x y, xs = [x, y] ∧ Rep K w g H x d ∧ Rep K w g H y e := by
  rw [Reps.cons_iff] at r
  obtain ⟨v, t, rfl, h1, h2⟩ := r
  obtain ⟨y, rfl, h3⟩ := one_reps h2
  exact ⟨v, y, rfl, h1, h3⟩
theorem ok_len : CallOk F (.builtin "len") lenO := fun X gd h g H hat xs ds r rs e Q k => by
  unfold lenO at e
  split at e
  · cases e
    obtain ⟨x, rfl, rx⟩ := one_reps rs
    simp only [Rep] at rx
    obtain ⟨a, vs, rfl, l, rv⟩ := rx
    refine uCl_of call_len_seq ⟨a, vs, rfl, .inl l.sq, ?_⟩
    rw [rv.length]
    exact k _ g H (Grow.refl hat) (by simp [RN, Rep])
  · cases e
    obtain ⟨x, rfl, rx⟩ := one_reps rs
    simp only [Rep] at rx
    obtain ⟨a, vs, rfl, l, rv⟩ := rx
    refine uCl_of call_len_seq ⟨a, vs, rfl, .inr l.sq, ?_⟩
    rw [rv.length]
    exact k _ g H (Grow.refl hat) (by simp [RN, Rep])
  · split at e
    · rename_i hz
      cases e
      obtain ⟨x, rfl, rx⟩ := one_reps rs
      simp only [Rep] at rx
      subst rx
      refine uCl_of call_len_str ⟨_, rfl, by rw [S_length]; exact hz, ?_⟩
      rw [S_length]
      exact k _ g H (Grow.refl hat) (by simp [RN, Rep])
    · cases e
  · split at e
    · rename_i n _ xs e2
      cases e
      obtain ⟨x, rfl, rx⟩ := one_reps rs
      simp only [Rep] at rx
      obtain ⟨_, rfl⟩ := rx
      obtain ⟨⟨vs, h1, rv⟩, _⟩ := hat.obj n _ e2
      refine uCl_of call_len_seq ⟨_, vs, rfl, .inl (.of h1), ?_⟩
      rw [rv.length]
      exact k _ g H (Grow.refl hat) (by simp [RN, Rep])
    · cases e
  · cases e
def absO (h : MH) (ds : List D) : Option R := match ds with
  | [.int i] => some (.v (.int (if i < 0 then -i else i)))
  | _ => none
theorem ok_abs : CallOk F (.builtin "abs") absO := fun X gd h g H hat xs ds r rs e Q k => by
  unfold absO at e
  split at e
  · cases e
    obtain ⟨x, rfl, rx⟩ := one_reps rs
    simp only [Rep] at rx
    subst rx
    exact uCl_of call_abs ⟨_, rfl, k _ g H (Grow.refl hat) (by simp [RN, Rep])⟩
  · cases e
def max2O (h : MH) (ds : List D) : Option R := match ds with
  | [.int i, .int j] => some (.v (.int (if j > i then j else i)))
  | _ => none
theorem ok_max2 : CallOk F (.builtin "max") max2O := fun X gd h g H hat xs ds r rs e Q k => by
  unfold max2O at e
  split at e
  · cases e
    obtain ⟨x, y, rfl, rx, ry⟩ := two_reps rs
    simp only [Rep] at rx ry
    subst rx; subst ry
    exact uCl_of (call_max2 gd.calm) ⟨_, _, rfl, k _ g H (Grow.refl hat) (by simp [RN, Rep])⟩
  · cases e
def min2O (h : MH) (ds : List D) : Option R := match ds with
  | [.int i, .int j] => some (.v (.int (if j < i then j else i)))
  | _ => none
theorem ok_min2 : CallOk F (.builtin "min") min2O := fun X gd h g H hat xs ds r rs e Q k => by
  unfold min2O at e
  split at e
  · cases e
    obtain ⟨x, y, rfl, rx, ry⟩ := two_reps rs
    simp only [Rep] at rx ry
    subst rx; subst ry
    exact uCl_of (call_min2 gd.calm) ⟨_, _, rfl, k _ g H (Grow.refl hat) (by simp [RN, Rep])⟩
  · cases e
/-- ints of data -/
def toInts : List D → Option (List Int)
  | [] => some []
  | .int i :: ds => (toInts ds).map (i :: ·)
  | _ :: _ => none
theorem toInts_ok {K : PySem.W.Frag} {w : World} {g : Gh} {H : Hp} : ∀ {ds : List D} {vs : List V} {ns : List Int}, Reps K w g H vs ds → toInts ds = some ns → vs = ns.map V.int
  | [], vs, ns, r, e => by rw [Reps.nil_iff] at r; subst r; simp [toInts] at e; subst e; rfl
  | d :: ds, vs, ns, r, e => by
    rw [Reps.cons_iff] at r
    obtain ⟨v, t, rfl, h1, h2⟩ := r
    cases d <;> first | (simp [toInts] at e; done) | skip
    rename_i i
    simp only [toInts] at e
    cases e2 : toInts ds with
    | none => rw [e2] at e; cases e
    | some l =>
      rw [e2] at e
      cases e
      simp only [Rep] at h1
      subst h1
      rw [toInts_ok h2 e2]
      rfl
theorem toInts_map (ns : List Int) : toInts (ns.map D.int) = some ns := by
  induction ns with
  | nil => rfl
  | cons n ns ih => simp [toInts, ih]
def sumO (h : MH) (ds : List D) : Option R := match ds with
  | [.lst xs] => (toInts xs).map fun ns => .v (.int ns.sum)
  | _ => none
theorem ok_sum : CallOk F (.builtin "sum") sumO := fun X gd h g H hat xs ds r rs e Q k => by
  unfold sumO at e
  split at e
  · rename_i ys
    cases e2 : toInts ys with
    | none => rw [e2] at e; cases e
    | some ns =>
      rw [e2] at e
      cases e
      obtain ⟨x, rfl, rx⟩ := one_reps rs
      simp only [Rep] at rx
      obtain ⟨a, vs, rfl, l, rv⟩ := rx
      rw [toInts_ok rv e2] at l
      exact uCl_of (cr_sum gd.calm) ⟨a, ns, rfl, l.sq, k _ g H (Grow.refl hat) (by simp [RN, Rep])⟩
  · cases e
def intO (h : MH) (ds : List D) : Option R := match ds with
  | [.int i] => some (.v (.int i))
  | [.bl b] => some (.v (.int (if b then 1 else 0)))
  | [.str s] => if s.length ≤ 640 then (PySem.intText? (S s)).map fun n => .v (.int n) else none
  | _ => none
theorem ok_int : CallOk F (.type "int") intO := fun X gd h g H hat xs ds r rs e Q k => by
  unfold intO at e
  split at e
  · cases e
    obtain ⟨x, rfl, rx⟩ := one_reps rs
    simp only [Rep] at rx
    subst rx
    exact uCl_of call_int1 (.inl ⟨_, rfl, k _ g H (Grow.refl hat) (by simp [RN, Rep])⟩)
  · cases e
    obtain ⟨x, rfl, rx⟩ := one_reps rs
    simp only [Rep] at rx
    subst rx
    exact uCl_of call_int1 (.inr ⟨_, rfl, k _ g H (Grow.refl hat) (by simp [RN, Rep])⟩)
  · split at e
    · rename_i s hz
      cases e2 : PySem.intText? (S s) with
      | none => rw [e2] at e; cases e
      | some n =>
        rw [e2] at e
        cases e
        obtain ⟨x, rfl, rx⟩ := one_reps rs
        simp only [Rep] at rx
        subst rx
        exact uCl_of call_int_str ⟨_, n, rfl, e2, by rw [S_length]; exact hz, k _ g H (Grow.refl hat) (by simp [RN, Rep])⟩
    · cases e
  · cases e
/-- the signs of a number -/
def strI (i : Int) : List Nat := (Str.ofString (toString i)).cps.toList
def strO (h : MH) (ds : List D) : Option R := match ds with
  | [.int i] => if i.natAbs.log2 < 1920 then some (.v (.str (strI i))) else none
  | _ => none
theorem ok_str : CallOk F (.type "str") strO := fun X gd h g H hat xs ds r rs e Q k => by
  unfold strO at e
  split at e
  · split at e
    · rename_i i hz
      cases e
      obtain ⟨x, rfl, rx⟩ := one_reps rs
      simp only [Rep] at rx
      subst rx
      refine uCl_of call_str_int ⟨_, rfl, hz, k _ g H (Grow.refl hat) ?_⟩
      simp only [RN, Rep]
      unfold strI
      rw [S_of]
    · cases e
  · cases e
def tupleO (h : MH) (ds : List D) : Option R := match ds with
  | [.lst xs] => some (.v (.tup xs))
  | [.tup xs] => some (.v (.tup xs))
  | [.loc n] => (match h[n]? with
    | some (.lst xs) => some (.v (.tup xs))
    | none => none)
  | _ => none
theorem ok_tuple : CallOk F (.type "tuple") tupleO := fun X gd h g H hat xs ds r rs e Q k => by
  unfold tupleO at e
  split at e
  · cases e
    obtain ⟨x, rfl, rx⟩ := one_reps rs
    simp only [Rep] at rx
    obtain ⟨a, vs, rfl, l, rv⟩ := rx
    exact uCl_of call_tuple_of ⟨a, vs, rfl, .inl ⟨l.sq, fun p hp => k _ _ _ (grow_fr hat hp) (rep_newTup hat hp rv)⟩⟩
  · cases e
    obtain ⟨x, rfl, rx⟩ := one_reps rs
    have rx0 := rx
    simp only [Rep] at rx
    obtain ⟨a, vs, rfl, l, rv⟩ := rx
    exact uCl_of call_tuple_of ⟨a, vs, rfl, .inr ⟨l.sq, k _ g H (Grow.refl hat) rx0⟩⟩
  · split at e
    · rename_i n _ xs e2
      cases e
      obtain ⟨x, rfl, rx⟩ := one_reps rs
      simp only [Rep] at rx
      obtain ⟨_, rfl⟩ := rx
      obtain ⟨⟨vs, h1, rv⟩, _⟩ := hat.obj n _ e2
      exact uCl_of call_tuple_of ⟨_, vs, rfl, .inl ⟨.of h1, fun p hp => k _ _ _ (grow_fr hat hp) (rep_newTup hat hp rv)⟩⟩
    · cases e
  · cases e
theorem sign_vals (s : List Nat) (us : Array Value) (h : ItemsOf (SignAt (S s)) us (S s).cps.size) : Vals (s.map fun c => V.str ⟨#[c]⟩) us.toList := by
  have hs : (S s).cps.size = s.length := by simp [S]
  refine vals_of_at (by rw [List.length_map]; have := h.1; have e : us.toList.length = us.size := by simp
                        omega) fun j x u e1 e2 => ?_
  rw [List.getElem?_map] at e1
  cases ec : s[j]? with
  | none => rw [ec] at e1; cases e1
  | some c =>
    rw [ec] at e1
    cases e1
    obtain ⟨c', t, e3, rfl⟩ := h.2 j u (by rw [← e2, Array.getElem?_toList])
    have : (S s).cps[j]? = s[j]? := by simp [S]
    rw [this, ec] at e3
    cases e3
    exact ⟨t, rfl⟩
theorem chars_reps {K : PySem.W.Frag} {w : World} {g : Gh} {H : Hp} (s : List Nat) : Reps K w g H (s.map fun c => V.str ⟨#[c]⟩) (chars s) := by
  unfold chars
  induction s with
  | nil => exact Reps.nil
  | cons c s ih => exact Reps.cons (by simp [Rep, S]) ih
def listO (h : MH) (ds : List D) : Option R := match ds with
  | [.lst xs] => some (.own xs)
  | [.tup xs] => some (.own xs)
  | [.str s] => if s.length ≤ sizeLine then some (.own (chars s)) else none
  | [.loc n] => (match h[n]? with
    | some (.lst xs) => some (.own xs)
    | none => none)
  | _ => none
theorem list_str {X : Cx} (hh : X.A.handled = none) (s : List Nat) (hz : s.length ≤ sizeLine) : CallR X (.type "list") (fun xs H Q => xs = [.str (S s)] ∧ ∀ p, H p = none → Q (.ref p) (upd H p (.lst (s.map fun c => V.str ⟨#[c]⟩)))) := by
  intro pins st σ H xs us Q I r q
  obtain ⟨rfl, q⟩ := q
  obtain ⟨u, rfl, ru⟩ := vals1 r
  obtain ⟨t, rfl⟩ := ru
  refine call_list_str hh (S s) t (fun h' tk acc' c' hk hS hacc => ?_) (by simp [S]; exact hz)
  refine ⟨.ref _, _, I.laid (o := .lst (s.map fun c => V.str ⟨#[c]⟩)) (t' := tk) hk (Nat.le_refl _) ⟨by rw [List.length_map]; exact hz, acc'.toList, c', sign_vals s acc' hacc, hS⟩, rfl, q _ I.fresh⟩
theorem ok_list : CallOk F (.type "list") listO := fun X gd h g H hat xs ds r rs e Q k => by
  unfold listO at e
  split at e
  · cases e
    obtain ⟨x, rfl, rx⟩ := one_reps rs
    simp only [Rep] at rx
    obtain ⟨a, vs, rfl, l, rv⟩ := rx
    exact uCl_of call_list_of ⟨a, vs, rfl, .inl l.sq, fun p hp => k _ g _ (grow_new hat hp) (rep_newLst hat hp rv)⟩
  · cases e
    obtain ⟨x, rfl, rx⟩ := one_reps rs
    simp only [Rep] at rx
    obtain ⟨a, vs, rfl, l, rv⟩ := rx
    exact uCl_of call_list_of ⟨a, vs, rfl, .inr l.sq, fun p hp => k _ g _ (grow_new hat hp) (rep_newLst hat hp rv)⟩
  · split at e
    · rename_i s hz
      cases e
      obtain ⟨x, rfl, rx⟩ := one_reps rs
      simp only [Rep] at rx
      subst rx
      exact uCl_of (list_str gd.room.hd s hz) ⟨rfl, fun p hp => k _ g _ (grow_new hat hp) (rep_newLst hat hp (chars_reps s))⟩
    · cases e
  · split at e
    · rename_i n _ xs e2
      cases e
      obtain ⟨x, rfl, rx⟩ := one_reps rs
      simp only [Rep] at rx
      obtain ⟨_, rfl⟩ := rx
      obtain ⟨⟨vs, h1, rv⟩, _⟩ := hat.obj n _ e2
      exact uCl_of call_list_of ⟨_, vs, rfl, .inl (.of h1), fun p hp => k _ g _ (grow_new hat hp) (rep_newLst hat hp rv)⟩
    · cases e
  · cases e
def toBls : List D → Option (List Bool)
  | [] => some []
  | .bl i :: ds => (toBls ds).map (i :: ·)
  | _ :: _ => none
theorem toBls_ok {K : PySem.W.Frag} {w : World} {g : Gh} {H : Hp} : ∀ {ds : List D} {vs : List V} {ns : List Bool}, Reps K w g H vs ds → toBls ds = some ns → vs = ns.map V.bl
  | [], vs, ns, r, e => by rw [Reps.nil_iff] at r; subst r; simp [toBls] at e; subst e; rfl
  | d :: ds, vs, ns, r, e => by
    rw [Reps.cons_iff] at r
    obtain ⟨v, t, rfl, h1, h2⟩ := r
    cases d <;> first | (simp [toBls] at e; done) | skip
    rename_i i
    simp only [toBls] at e
    cases e2 : toBls ds with
    | none => rw [e2] at e; cases e
    | some l =>
      rw [e2] at e
      cases e
      simp only [Rep] at h1
      subst h1
      rw [toBls_ok h2 e2]
      rfl
theorem toBls_map {α : Type} (f : α → Bool) (ns : List α) : toBls (ns.map fun x => D.bl (f x)) = some (ns.map f) := by
  induction ns with
  | nil => rfl
  | cons n ns ih => simp [toBls, ih]
def allO (h : MH) (ds : List D) : Option R := match ds with
  | [.lst xs] => (toBls xs).map fun bs => .v (.bl (bs.all id))
  | _ => none
def anyO (h : MH) (ds : List D) : Option R := match ds with
  | [.lst xs] => (toBls xs).map fun bs => .v (.bl (bs.any id))
  | _ => none
theorem ok_all : CallOk F (.builtin "all") allO := fun X gd h g H hat xs ds r rs e Q k => by
  unfold allO at e
  split at e
  · rename_i ys
    cases e2 : toBls ys with
    | none => rw [e2] at e; cases e
    | some ns =>
      rw [e2] at e
      cases e
      obtain ⟨x, rfl, rx⟩ := one_reps rs
      simp only [Rep] at rx
      obtain ⟨a, vs, rfl, l, rv⟩ := rx
      rw [toBls_ok rv e2] at l
      exact uCl_of (cr_all gd.calm) ⟨a, ns, rfl, l.sq, k _ g H (Grow.refl hat) (by simp [RN, Rep])⟩
  · cases e
theorem ok_any : CallOk F (.builtin "any") anyO := fun X gd h g H hat xs ds r rs e Q k => by
  unfold anyO at e
  split at e
  · rename_i ys
    cases e2 : toBls ys with
    | none => rw [e2] at e; cases e
    | some ns =>
      rw [e2] at e
      cases e
      obtain ⟨x, rfl, rx⟩ := one_reps rs
      simp only [Rep] at rx
      obtain ⟨a, vs, rfl, l, rv⟩ := rx
      rw [toBls_ok rv e2] at l
      exact uCl_of (cr_any gd.calm) ⟨a, ns, rfl, l.sq, k _ g H (Grow.refl hat) (by simp [RN, Rep])⟩
  · cases e
/-- texts of data -/
def toStrs : List D → Option (List (List Nat))
  | [] => some []
  | .str i :: ds => (toStrs ds).map (i :: ·)
  | _ :: _ => none
theorem toStrs_ok {K : PySem.W.Frag} {w : World} {g : Gh} {H : Hp} : ∀ {ds : List D} {vs : List V} {ns : List (List Nat)}, Reps K w g H vs ds → toStrs ds = some ns → vs = (ns.map S).map V.str
  | [], vs, ns, r, e => by rw [Reps.nil_iff] at r; subst r; simp [toStrs] at e; subst e; rfl
  | d :: ds, vs, ns, r, e => by
    rw [Reps.cons_iff] at r
    obtain ⟨v, t, rfl, h1, h2⟩ := r
    cases d <;> first | (simp [toStrs] at e; done) | skip
    rename_i i
    simp only [toStrs] at e
    cases e2 : toStrs ds with
    | none => rw [e2] at e; cases e
    | some l =>
      rw [e2] at e
      cases e
      simp only [Rep] at h1
      subst h1
      rw [toStrs_ok h2 e2]
      rfl
theorem toStrs_map {α : Type} (f : α → List Nat) (ns : List α) : toStrs (ns.map fun x => D.str (f x)) = some (ns.map f) := by
  induction ns with
  | nil => rfl
  | cons n ns ih => simp [toStrs, ih]
theorem strs_reps {K : PySem.W.Frag} {w : World} {g : Gh} {H : Hp} (l : List (List Nat)) : Reps K w g H ((l.map S).map V.str) (l.map D.str) := by
  induction l with
  | nil => exact Reps.nil
  | cons c s ih => exact Reps.cons (by simp [Rep]) ih
def leS (a b : List Nat) : Bool := !decide (b < a)
def sortS (l : List (List Nat)) : List (List Nat) := l.mergeSort leS
def sortSO (h : MH) (ds : List D) : Option R := match ds with
  | [.lst xs] => (match toStrs xs with
    | some l => if l.length < 64 then some (.own ((sortS l).map D.str)) else none
    | none => none)
  | _ => none
/-! ## isinstance -/
def tyD : D → String
  | .non => "NoneType"
  | .bl _ => "bool"
  | .int _ => "int"
  | .str _ => "str"
  | .tup _ => "tuple"
  | .lst _ => "list"
  | .loc _ => "list"
  | .dct _ _ => "dict"
def isT (T : String) (d : D) : Bool := tyD d == T || (tyD d == "bool" && T == "int")
theorem tyX_ok {K : PySem.W.Frag} {w : World} {h : MH} {g : Gh} {H : Hp} (hat : HAt K w h g H) {x : V} {d : D} (r : Rep K w g H x d) : TyX K H x (.type (tyD d)) := by
  cases d with
  | non => simp only [Rep] at r; subst r; exact .base .non
  | bl b => simp only [Rep] at r; subst r; exact .base (.bl b)
  | int i => simp only [Rep] at r; subst r; exact .base (.int i)
  | str s => simp only [Rep] at r; subst r; exact .base (.str _)
  | tup ds =>
    simp only [Rep] at r
    obtain ⟨a, vs, rfl, l, rv⟩ := r
    rcases l with ⟨_, l | ⟨o, l⟩⟩ | ⟨o, its, n, l1, l2, _⟩
    · exact .base (.tup l)
    · exact .fTuple l
    · exact .kTuple l1 l2
  | lst ds =>
    simp only [Rep] at r
    obtain ⟨a, vs, rfl, l, rv⟩ := r
    rcases l with ⟨_, l | ⟨o, l⟩⟩ | ⟨o, its, n, l1, l2, _⟩
    · exact .base (.lst l)
    · exact .base (.frz l)
    · exact .kList l1 l2
  | loc n =>
    simp only [Rep] at r
    obtain ⟨hn, rfl⟩ := r
    have hl : n < h.length := by rw [← hat.top]; exact hn
    obtain ⟨h1, _⟩ := hat.obj n _ (List.getElem?_eq_getElem hl)
    cases e : h[n] with
    | lst ds => rw [e] at h1; obtain ⟨vs, h2, _⟩ := h1; exact .base (.lst h2)
  | dct ks ds =>
    simp only [Rep] at r
    obtain ⟨a, vs, rfl, ⟨es, n, h1, _⟩, _⟩ := r
    exact .kDict h1 rfl
/-- the built-in types that are asked -/
def askT (T : String) : Bool := ["int", "str", "bool", "tuple", "list", "dict"].contains T
theorem kit_all : ∀ t ∈ ["NoneType", "bool", "int", "str", "tuple", "list", "dict"], ∀ T ∈ ["int", "str", "bool", "tuple", "list", "dict"], kitB t T = some (t == T || (t == "bool" && T == "int")) := by decide +kernel
theorem kit_D {K : PySem.W.Frag} {d : D} {T : String} (hT : askT T = true) : PySem.W.kitOne K (.type (tyD d)) (.type T) = some (isT T d) := by
  refine kit_ty (kit_all _ ?_ T ?_)
  · cases d <;> simp [tyD]
  · unfold askT at hT
    exact List.contains_iff_mem.mp hT
def eIsi (T : String) (m : MV) : ME := fun env h => (m env h).bind fun d env h => .ok (.v (.bl (isT T d))) env h
def eIsi2 (T1 T2 : String) (m : MV) : ME := fun env h => (m env h).bind fun d env h => .ok (.v (.bl (isT T1 d || isT T2 d))) env h
end
section
variable {F : Fr} {e a b c : Expr} {es : List Expr} {pos : Pos} {X : Cx} {W : WX} {Hk : Hp} {gk g : Gh} {σ : L2.St} {env : Ev} {h : MH} {H : Hp}
theorem pe_ty {x : Str} {T : String} {p : Pos} (gd : Good F X) (hg : F.sc.names.lookup x = some .globalImplicit) (hm : F.mg x = none) (hv : bootBuiltins x = some (.type T)) (hn : x ≠ "__name__") (hd : (x == ("__debug__" : Str)) = false) : PE X (.Name x p) (tC (.ty T)) :=
  pe_bltn (v := .ty T) (by show X.env.scope.names.lookup x = _; rw [gd.sc]; exact hg) (by rw [gd.mg]; exact hm) hv rfl hn hd
theorem se_isi {x : Str} {T : String} {m : MV} {p p2 : Pos} (ha : SV F a m) (hT : askT T = true := by decide) (hgi : F.sc.names.lookup ("isinstance" : Str) = some .globalImplicit := by rfl) (hmi : F.mg "isinstance" = none) (hg : F.sc.names.lookup x = some .globalImplicit := by rfl) (hm : F.mg x = none) (hv : bootBuiltins x = some (.type T) := by decide +kernel) (hn : x ≠ "__name__" := by decide) (hd : (x == ("__debug__" : Str)) = false := by decide)
    (he : ∀ env, starEach [a, .Name x p2] env = (false, eval a env) :: starEach [.Name x p2] env := by intros; rfl) (hpl : ∀ env, (backTo pos (starEach [.Name x p2] env)).any (·.1) = false := by intros; rfl) : SE F (.Call (.Name "isinstance" p) [a, .Name x p2] [] pos) (eIsi T m) := fun X W gd tk Hk gk σ env h g H Q at_ pp => by
  refine uE_of (pe_callB call_isi (by show X.env.scope.names.lookup _ = _; rw [gd.sc]; exact hgi) (by rw [gd.mg]; exact hmi) (by decide +kernel) (pa_cons pe_u (pa_cons (pe_ty gd hg hm hv hn hd) pa_nil) (he _)) (by decide) (by decide) (he _) (hpl _)) ?_
  show uE X a σ H fun y H1 => rIsi X.K [y, .ty T] H1 Q
  refine ha.go gd tk at_ pp fun d env1 h1 g1 H1 y s1 a1 ry p1 => ?_
  exact ⟨y, .ty T, .type (tyD d), .type T, isT T d, rfl, .ty T, tyX_ok a1.hat ry, kit_D hT, p1 g1 H1 (Step.refl _ _) a1 _ (by simp [RR, Rep])⟩
theorem se_isi2 {x x' : Str} {T T' : String} {m : MV} {p p2 p3 p4 : Pos} {kk : Nat} (ha : SV F a m) (hT : askT T = true := by decide) (hT' : askT T' = true := by decide) (hgi : F.sc.names.lookup ("isinstance" : Str) = some .globalImplicit := by rfl) (hmi : F.mg "isinstance" = none) (hg : F.sc.names.lookup x = some .globalImplicit := by rfl) (hm : F.mg x = none) (hv : bootBuiltins x = some (.type T) := by decide +kernel) (hn : x ≠ "__name__" := by decide) (hd : (x == ("__debug__" : Str)) = false := by decide)
    (hg' : F.sc.names.lookup x' = some .globalImplicit := by rfl) (hm' : F.mg x' = none) (hv' : bootBuiltins x' = some (.type T') := by decide +kernel) (hn' : x' ≠ "__name__" := by decide) (hd' : (x' == ("__debug__" : Str)) = false := by decide)
    (he : ∀ env, starEach [a, .Tuple [.Name x p2, .Name x' p3] kk p4] env = (false, eval a env) :: starEach [.Tuple [.Name x p2, .Name x' p3] kk p4] env := by intros; rfl) (hpl : ∀ env, (backTo pos (starEach [.Tuple [.Name x p2, .Name x' p3] kk p4] env)).any (·.1) = false := by intros; rfl) : SE F (.Call (.Name "isinstance" p) [a, .Tuple [.Name x p2, .Name x' p3] kk p4] [] pos) (eIsi2 T T' m) := fun X W gd tk Hk gk σ env h g H Q at_ pp => by
  refine uE_of (pe_callB call_isiT (by show X.env.scope.names.lookup _ = _; rw [gd.sc]; exact hgi) (by rw [gd.mg]; exact hmi) (by decide +kernel) (pa_cons pe_u (pa_cons (pe_tup (pa_cons (pe_ty gd hg hm hv hn hd) (pa_cons (pe_ty gd hg' hm' hv' hn' hd') pa_nil))) pa_nil) (he _)) (by decide) (by decide) (he _) (hpl _)) ?_
  show uE X a σ H fun y H1 => 2 ≤ sizeLine ∧ ∀ q, H1 q = none → rIsiT X.K [y, .ref q] (upd H1 q (.tup [.ty T, .ty T'])) Q
  refine ha.go gd tk at_ pp fun d env1 h1 g1 H1 y s1 a1 ry p1 => ?_
  refine ⟨by decide, fun q hq => ?_⟩
  have gr := grow_new (o := .tup [.ty T, .ty T']) a1.hat hq
  refine ⟨y, q, [.ty T, .ty T'], .type (tyD d), [.type T, .type T'], isT T d || isT T' d, rfl, upd_same, .cons (.ty T) (.cons (.ty T') .nil), tyX_ok (gr.hat a1.hat) (ry.step (gr.fstep a1.hat).toStep), ?_, p1 g1 _ (gr.fstep a1.hat).toStep (gr.at a1) _ (by simp [RR, Rep])⟩
  refine kitAny_cons (kit_D hT) (fun z => ?_) (fun z => by rw [z]; rfl)
  rw [z, Bool.false_or]
  exact kitAny_cons (kit_D hT') (fun z => by rw [z]; exact kitAny_nil) (fun z => z)
end
end Mi
set_option Elab.async false
set_option linter.all false
set_option maxRecDepth 100000
open PySem PySem.Spec PyProof.Rows L2
namespace Mi
theorem leS_iff (a b : List Nat) : leS a b = true ↔ a ≤ b := by
  unfold leS
  rw [Bool.not_eq_true', decide_eq_false_iff_not]
  exact List.not_lt
theorem sortS_perm (l : List (List Nat)) : (sortS l).Perm l := List.mergeSort_perm _ _
theorem leS_trans (a b c : List Nat) (h1 : leS a b = true) (h2 : leS b c = true) : leS a c = true := by
  rw [leS_iff] at h1 h2 ⊢
  exact List.le_trans h1 h2
theorem sortS_sorted (l : List (List Nat)) : (sortS l).Pairwise (fun a b => leS a b = true) := by
  refine List.pairwise_mergeSort (fun a b c h1 h2 => leS_trans a b c h1 h2) (fun a b => ?_) l
  rw [Bool.or_eq_true, leS_iff, leS_iff]
  exact List.le_total a b
theorem sortS_the {l m : List (List Nat)} (p : m.Perm l) (s : m.Pairwise (fun a b => leS a b = true)) : m = sortS l := by
  refine List.Perm.eq_of_pairwise (le := fun a b => leS a b = true) (fun a b _ _ h1 h2 => ?_) s (sortS_sorted l) (p.trans (sortS_perm l).symm)
  rw [leS_iff] at h1 h2
  exact List.le_antisymm h1 h2
theorem rising_pw : ∀ (l : List Str) (p : Str), risingS p l = true → (∀ x, x ∈ l → leS p.cps.toList x.cps.toList = true) ∧ l.Pairwise (fun a b => leS a.cps.toList b.cps.toList = true)
  | [], _, _ => ⟨fun _ h => absurd h List.not_mem_nil, List.Pairwise.nil⟩
  | x :: r, p, h => by
    unfold risingS at h
    rw [Bool.and_eq_true] at h
    have h1 : leS p.cps.toList x.cps.toList = true := by
      unfold leS
      rw [← PyProof.Rows.ltCps_eq]
      exact h.1
    obtain ⟨h2, h3⟩ := rising_pw r x h.2
    refine ⟨fun y hy => ?_, List.Pairwise.cons h2 h3⟩
    rcases List.mem_cons.mp hy with rfl | hy
    · exact h1
    · exact leS_trans _ _ _ h1 (h2 y hy)
theorem sorted_pw : ∀ (l : List Str), sortedS l = true → l.Pairwise (fun a b => leS a.cps.toList b.cps.toList = true)
  | [], _ => List.Pairwise.nil
  | x :: r, h => by
    obtain ⟨h2, h3⟩ := rising_pw r x h
    exact List.Pairwise.cons h2 h3
section
variable {F : Fr}
theorem ok_sortS : CallOk F (.builtin "sorted") sortSO := fun X gd h g H hat xs ds r rs e Q k => by
  unfold sortSO at e
  split at e
  · rename_i ys
    split at e
    · rename_i l e2
      split at e
      · rename_i hz
        cases e
        obtain ⟨x, rfl, rx⟩ := one_reps rs
        simp only [Rep] at rx
        obtain ⟨a, vs, rfl, la, rv⟩ := rx
        rw [toStrs_ok rv e2] at la
        refine uCl_of cr_sortedS ⟨a, l.map S, rfl, la.sq, by rw [List.length_map]; exact hz, fun zs p hp hs hn => k _ g _ (grow_new hat hn) (rep_newLst hat hn ?_)⟩
        have e3 : zs.map (fun z => z.cps.toList) = sortS l := by
          refine sortS_the ?_ ?_
          · have := hp.map fun z : Str => z.cps.toList
            rw [List.map_map] at this
            have e4 : ((fun z : Str => z.cps.toList) ∘ S) = id := by funext t; exact S_list t
            rw [e4, List.map_id] at this
            exact this
          · rw [List.pairwise_map]
            exact sorted_pw zs hs
        have e5 : zs = (sortS l).map S := by
          rw [← e3, List.map_map]
          have e6 : (S ∘ fun z : Str => z.cps.toList) = id := by funext t; exact S_of t
          rw [e6, List.map_id]
        rw [e5]
        exact strs_reps _
      · cases e
    · cases e
  · cases e
/-! ## methods of texts -/
def joinL (sep : List Nat) (l : List (List Nat)) : List Nat := TL.joinL sep l
def joinO (h : MH) (x : D) (ds : List D) : Option R := match x, ds with
  | .str s, [.lst xs] => (match toStrs xs with
    | some l => if (l.map List.length).sum + l.length * s.length ≤ 16777216 then some (.v (.str (TL.joinL s l))) else none
    | none => none)
  | .str s, [.tup xs] => (match toStrs xs with
    | some l => if (l.map List.length).sum + l.length * s.length ≤ 16777216 then some (.v (.str (TL.joinL s l))) else none
    | none => none)
  | _, _ => none
theorem join_S (s : List Nat) (l : List (List Nat)) : Txt.join (S s) (l.map S) = S (TL.joinL s l) := by
  rw [TL.join_eq]
  rw [← S_of (Str.join (S s) (l.map S))]
  congr 1
  have := TL.tl_join (S s) (l.map S)
  rw [List.map_map] at this
  have e4 : (TL.tl ∘ S) = id := by funext t; exact S_list t
  rw [e4, List.map_id] at this
  have e5 : TL.tl (S s) = s := S_list s
  rw [e5] at this
  exact this
theorem join_sz (s : List Nat) (l : List (List Nat)) : ((l.map S).map fun x : Str => x.length).sum + (l.map S).length * (S s).length = (l.map List.length).sum + l.length * s.length := by
  rw [List.map_map, List.length_map, S_length]
  have : ((fun x : Str => x.length) ∘ S) = List.length := by funext t; exact S_length t
  rw [this]
theorem ok_join : MtOk F "str.join" joinO := fun X gd h g H hat x d xs ds r rx rs e Q k => by
  unfold joinO at e
  split at e
  · split at e
    · rename_i l e2
      split at e
      · rename_i hz
        cases e
        obtain ⟨y, rfl, ry⟩ := one_reps rs
        simp only [Rep] at rx ry
        subst rx
        obtain ⟨a, vs, rfl, la, rv⟩ := ry
        rw [toStrs_ok rv e2] at la
        refine uMt_of mt_join ⟨_, a, l.map S, rfl, rfl, .inl la.sq, by rw [join_sz]; exact hz, ?_⟩
        rw [join_S]
        exact k _ g H (Grow.refl hat) (by simp [RN, Rep])
      · cases e
    · cases e
  · split at e
    · rename_i l e2
      split at e
      · rename_i hz
        cases e
        obtain ⟨y, rfl, ry⟩ := one_reps rs
        simp only [Rep] at rx ry
        subst rx
        obtain ⟨a, vs, rfl, la, rv⟩ := ry
        rw [toStrs_ok rv e2] at la
        refine uMt_of mt_join ⟨_, a, l.map S, rfl, rfl, .inr la.sq, by rw [join_sz]; exact hz, ?_⟩
        rw [join_S]
        exact k _ g H (Grow.refl hat) (by simp [RN, Rep])
      · cases e
    · cases e
  · cases e
def splitL (sep s : List Nat) : List (List Nat) := TL.spl sep 0 [] s
def splitO (h : MH) (x : D) (ds : List D) : Option R := match x, ds with
  | .str s, [.str t] => if t ≠ [] ∧ t.all (· < 256) = true ∧ s.length + 2 ≤ sizeLine then some (.own ((splitL t s).map D.str)) else none
  | _, _ => none
theorem ok_split : MtOk F "str.split" splitO := fun X gd h g H hat x d xs ds r rx rs e Q k => by
  unfold splitO at e
  split at e
  · rename_i s t
    split at e
    · rename_i hz
      cases e
      obtain ⟨y, rfl, ry⟩ := one_reps rs
      simp only [Rep] at rx ry
      subst rx; subst ry
      refine uMt_of mt_split ⟨_, _, rfl, rfl, ?_, by rw [S_length]; exact hz.2.2, fun p hp => ?_⟩
      · rw [S_length]
        cases t with
        | nil => exact absurd rfl hz.1
        | cons c t => rfl
      · refine k _ g _ (grow_new hat hp) ?_
        have h1 := TL.split_spl (S s) (S t) (by show (S t).cps.toList ≠ []; rw [S_list]; exact hz.1) (TL.kind_ok (by show (S t).cps.all (· < 256) = true; simpa [S] using hz.2.1))
        have e1 : Txt.split (S s) (S t) = (splitL t s).map S := by
          have e2 : (TL.tl (S t)) = t := S_list t
          have e3 : (TL.tl (S s)) = s := S_list s
          rw [e2, e3] at h1
          unfold splitL
          rw [← h1, List.map_map]
          have e6 : (S ∘ TL.tl) = id := by funext t; exact S_of t
          rw [e6, List.map_id]
        rw [e1]
        exact rep_newLst hat hp (strs_reps _)
    · cases e
  · cases e
def startsO (h : MH) (x : D) (ds : List D) : Option R := match x, ds with
  | .str s, [.str t] => some (.v (.bl (decide (s.take t.length = t))))
  | _, _ => none
def endsO (h : MH) (x : D) (ds : List D) : Option R := match x, ds with
  | .str s, [.str t] => some (.v (.bl (decide (t.length ≤ s.length) && decide (s.drop (s.length - t.length) = t))))
  | _, _ => none
theorem subAt_S (s t : List Nat) (i : Nat) : Builtin.Str.subAt (S s) (S t) i = decide ((s.drop i).take t.length = t) := by
  unfold Builtin.Str.subAt
  have : (S s).cps.extract i (i + (S t).length) = ((s.drop i).take t.length).toArray := by
    rw [S_length]
    apply Array.ext'
    simp [S, Array.toList_extract]
  rw [this]
  show (((s.drop i).take t.length).toArray == t.toArray) = _
  by_cases e : (s.drop i).take t.length = t
  · rw [e]; simp
  · rw [decide_eq_false e]
    rw [beq_eq_false_iff_ne]
    intro q
    exact e (by simpa using congrArg Array.toList q)
theorem ok_starts : MtOk F "str.startswith" startsO := fun X gd h g H hat x d xs ds r rx rs e Q k => by
  unfold startsO at e
  split at e
  · rename_i s t
    cases e
    obtain ⟨y, rfl, ry⟩ := one_reps rs
    simp only [Rep] at rx ry
    subst rx; subst ry
    refine uMt_of mt_startswith ⟨_, _, rfl, rfl, k _ g H (Grow.refl hat) ?_⟩
    simp only [RN, Rep]
    congr 1
    unfold Txt.startswith
    rw [subAt_S, S_length, S_length, List.drop_zero]
    by_cases e : s.take t.length = t
    · have : t.length ≤ s.length := by
        have := congrArg List.length e
        rw [List.length_take] at this
        omega
      simp [e]; omega
    · simp [e]
  · cases e
theorem ok_ends : MtOk F "str.endswith" endsO := fun X gd h g H hat x d xs ds r rx rs e Q k => by
  unfold endsO at e
  split at e
  · rename_i s t
    cases e
    obtain ⟨y, rfl, ry⟩ := one_reps rs
    simp only [Rep] at rx ry
    subst rx; subst ry
    refine uMt_of mt_endswith ⟨_, _, rfl, rfl, k _ g H (Grow.refl hat) ?_⟩
    simp only [RN, Rep]
    congr 1
    unfold Txt.endswith
    rw [subAt_S, S_length, S_length]
    by_cases hl : t.length ≤ s.length
    · have e1 : (s.drop (s.length - t.length)).take t.length = s.drop (s.length - t.length) := by
        rw [List.take_of_length_le]
        rw [List.length_drop]
        omega
      rw [e1]
      simp [hl]
    · simp [hl]
  · cases e
/-! ## lists that change -/
def appOp : List D → List D → Option (List D × D) := fun xs as => match as with
  | [d] => if xs.length < sizeLine then some (xs ++ [d], .non) else none
  | _ => none
theorem ok_append : MutOk F "list.append" appOp := fun X gd g H l vs xs args ds xs' r hl rv ra e Q k => by
  unfold appOp at e
  split at e
  · rename_i d
    split at e
    · rename_i hz
      cases e
      obtain ⟨y, rfl, ry⟩ := one_reps ra
      exact uMt_of mt_append ⟨l, vs, y, rfl, rfl, hl, by rw [rv.length]; exact hz, k _ _ (rv.append (Reps.cons ry Reps.nil)) (by simp [Rep])⟩
    · cases e
  · cases e
def popOp : List D → List D → Option (List D × D) := fun xs as => match as with
  | [] => (match xs[xs.length - 1]? with
    | some d => some (xs.dropLast, d)
    | none => none)
  | [.int i] => if xs.length ≤ sizeLine then (match ixN xs.length i with
    | some k => (match xs[k]? with
      | some d => some (xs.eraseIdx k, d)
      | none => none)
    | none => none) else none
  | _ => none
theorem ok_pop : MutOk F "list.pop" popOp := fun X gd g H l vs xs args ds xs' r hl rv ra e Q k => by
  unfold popOp at e
  split at e
  · split at e
    · rename_i d ed
      cases e
      rw [Reps.nil_iff] at ra
      subst ra
      rw [← rv.length] at ed
      rw [rv.length] at ed
      obtain ⟨v, ev, r1⟩ := rv.get' ed
      refine uMt_of mt_pop ⟨l, vs, v, rfl, rfl, hl, by rw [rv.length]; exact ev, k _ _ ?_ r1⟩
      rw [List.dropLast_eq_take, List.dropLast_eq_take, rv.length]
      exact rv.take _
    · cases e
  · rename_i i
    split at e
    · rename_i hi
      split at e
      · rename_i n en
        split at e
        · rename_i d ed
          cases e
          obtain ⟨y, rfl, ry⟩ := one_reps ra
          simp only [Rep] at ry
          subst ry
          obtain ⟨v, ev, r1⟩ := rv.get' ed
          have hq := ixN_seq en
          have hz : sizeLine = 16777216 := rfl
          exact uMt_of mt_popAt ⟨l, vs, i, n, v, rfl, rfl, hl, by omega, by omega, by rw [rv.length]; exact (ixN_seq en).1, ev, k _ _ (rv.eraseIdx n) r1⟩
        · cases e
      · cases e
    · cases e
  · cases e
end
end Mi
set_option Elab.async false
set_option linter.all false
set_option maxRecDepth 100000
open PySem PySem.Spec PyProof.Rows L2
namespace Mi
/-- a constant of the module: its data -/
def Cst (K : PySem.W.Frag) (w : World) (mg : Str → Option Value) (x : Str) (d : D) : Prop := ∃ u v, mg x = some u ∧ RelV v u ∧ ∀ g H, Rep K w g H v d
/-- the def of this name keeps its promise -/
def FnM (P : Program) (w : World) (K : PySem.W.Frag) (mg : Str → Option Value) (base : Heap) (k : Nat) (x : Str) (n : Nat) (m : MF) : Prop :=
  ∃ f fd ps, FnOk P w K mg base (L2.CX P w) k f fd ps (spM K w mg n m) ∧ mg x = some (.ref f) ∧ PySem.W.keepIn K (.ref f) = true ∧ Binds K fd ps []
section
variable {P : Program} {w : World} {K : PySem.W.Frag} {mg : Str → Option Value} {base : Heap}
theorem FnM.mono {j k : Nat} {x : Str} {n : Nat} {m : MF} (f : FnM P w K mg base j x n m) (h : j ≤ k := by omega) : FnM P w K mg base k x n m := by
  obtain ⟨f, fd, ps, G, h1, h2, h3⟩ := f
  exact ⟨f, fd, ps, G.mono h, h1, h2, h3⟩
/-- what the top has of a def -/
structure Df (K : PySem.W.Frag) (mg : Str → Option Value) (x : Str) (st : Stmt) (ps : List Str) : Prop where
  ex : ∃ f fd, Fun K x x st f fd ∧ mg x = some (.ref f) ∧ Binds K fd ps []
theorem df_mk {x : Str} {st : Stmt} {f : Addr} {oc : Value} {od an : Option Addr} {osl : Array (Option Value)} {kV doc pm cdv ct : Value} {ps : List Str} (hm : mg x = some (.ref f)) (l : K.lookup f = some ⟨oc, od, .func (PySem.W.fnOf x x (defArgs st) (defBody st) (defScope st) .none kV doc pm an cdv ct), osl⟩)
    (c : PySem.W.codeIn K cdv x = true) (k : PySem.W.keepIn K (.ref f) = true)
    (h : ∀ (kV doc pm : Value) (an : Option Addr) (cdv ct : Value) (us : List Value), us.length = ps.length → bindArgs (PySem.W.fnOf x x (defArgs st) (defBody st) (defScope st) .none kV doc pm an cdv ct) ⟨us, []⟩ = pure (ps.zip us)) : Df K mg x st ps :=
  ⟨f, _, fun_mk l c k, hm, (fun_mk l c k).binds h⟩
/-- THE RULE for a def -/
theorem fnM_ok {x : Str} {st : Stmt} {N ps : List Str} {k n : Nat} {mb : MS} {m : MF} (D0 : Df K mg x st ps) (Sc : FnScope N ps (defScope st))
    (body : SSs ⟨P, w, K, mg, base, N, defScope st, k, fun _ => true⟩ (defBody st) mb) (hn : ps.length = n := by rfl) (hm : m = runF N.length mb := by rfl) : FnM P w K mg base (k + 1) x n m := by
  obtain ⟨f, fd, F0, hmg, hb⟩ := D0
  subst hn; subst hm
  exact ⟨f, fd, ps, fn_ok F0 Sc body, hmg, F0.kp, hb⟩
/-- a def that calls itself: by the depth -/
theorem fnM_rec {x : Str} {st : Stmt} {N ps : List Str} {k : Nat} {m : Nat → MF} {mb : MF → MS} (D0 : Df K mg x st ps) (Sc : FnScope N ps (defScope st))
    (body : ∀ n, FnM P w K mg base (k + 1 + n) x ps.length (m n) → SSs ⟨P, w, K, mg, base, N, defScope st, k + 1 + n, fun _ => true⟩ (defBody st) (mb (m n))) (m0 : m 0 = runF N.length sNo := by rfl) (mS : ∀ n, m (n + 1) = runF N.length (mb (m n)) := by intros; rfl) : ∀ n, FnM P w K mg base (k + 1 + n) x ps.length (m n)
  | 0 => fnM_ok (mb := sNo) D0 Sc (fun X W gd tk Hk gk σ env h g H Dn at_ p => p.elim) rfl m0
  | n + 1 => fnM_ok D0 Sc (body n (fnM_rec D0 Sc body m0 mS n)) rfl (mS n)
end
section
variable {F : Fr} {pos : Pos}
theorem se_cst {x : Str} {d : D} (c : Cst F.K F.w F.mg x d) (hg : F.sc.names.lookup x = some .globalImplicit := by rfl) (hd : (x == ("__debug__" : Str)) = false := by decide) : SE F (.Name x pos) (eC d) := by
  obtain ⟨u, v, h1, h2, h3⟩ := c
  exact se_glob h1 h2 h3 hg hd
theorem sss_no {st : List Stmt} : SSs F st sNo := fun X W gd tk Hk gk σ env h g H Dn at_ p => p.elim
end
theorem ints_reps {K : PySem.W.Frag} {w : World} {g : Gh} {H : Hp} (ns : List Int) : Reps K w g H (ns.map V.int) (ns.map D.int) := by
  induction ns with
  | nil => exact Reps.nil
  | cons n ns ih => exact Reps.cons (by simp [Rep]) ih
/-- the law's end: from its promise over mini data to the promise that the head asks -/
def spLaw (K : PySem.W.Frag) : Sp := fun vs H Q _ => ∃ (a : Addr) (ns : List Int), vs = [.ref a] ∧ SqL K H a (ns.map V.int) ∧ ns.length ≤ 63 ∧ ∀ H', Q (.bl true) H'
theorem law_end {P : Program} {w : World} {K : PySem.W.Frag} {mg : Str → Option Value} {base : Heap} {k : Nat} {f : Addr} {fd : FuncData} {ps : List Str} {m : MF} (hm : ∀ ns : List Int, ns.length ≤ 63 → ∃ h', m [.lst (ns.map D.int)] [] = .ok (.v (.bl true)) h')
    (G : FnOk P w K mg base (L2.CX P w) k f fd ps (spM K w mg 1 m)) : FnOk P w K mg base (L2.CX P w) k f fd ps (spLaw K) := by
  refine G.imp fun vs H Q E hs => ?_
  obtain ⟨a, ns, rfl, hl, hn, q⟩ := hs
  obtain ⟨h', e⟩ := hm ns hn
  have fin : ∀ g : Gh, g.top = 0 → (∀ b, g.Fz b → H b ≠ none) → LAt K g H a (ns.map V.int) → spM K w mg 1 m [.ref a] H Q E := fun g ht hf la => by
    refine ⟨rfl, g, [.lst (ns.map D.int)], [], ⟨ht, hf, fun n o e => by simp at e, fun n m hn => by rw [ht] at hn; exact absurd hn (Nat.not_lt_zero _)⟩, Reps.cons (by simp only [Rep]; exact ⟨a, _, rfl, la, ints_reps ns⟩) Reps.nil, ?_⟩
    rw [e]
    refine fun v g' H' fs hat rf => ?_
    have : v = .bl true := by simpa [RF, Rep] using rf
    rw [this]
    exact q H'
  rcases hl with hl | hl
  · refine fin ⟨fun b => b = a, fun _ => a, 0⟩ rfl (fun b hb => ?_) (.inl ⟨rfl, hl⟩)
    have hb : b = a := hb
    subst hb
    rcases hl with hl | ⟨o, hl⟩ <;> rw [hl] <;> exact fun z => nomatch z
  · exact fin ⟨fun _ => False, fun _ => a, 0⟩ rfl (fun b hb => hb.elim) (.inr hl)
end Mi
set_option Elab.async false
set_option linter.all false
set_option maxRecDepth 100000
open PySem PySem.Spec PyProof.Rows L2
namespace Mi
/-! ### constants of the module, from what the top has written -/
def CV (K : PySem.W.Frag) (w : World) (u : Value) (d : D) : Prop := ∃ v, RelV v u ∧ ∀ g H, Rep K w g H v d
def CVs (K : PySem.W.Frag) (w : World) (us : List Value) (ds : List D) : Prop := ∃ vs, Vals vs us ∧ ∀ g H, Reps K w g H vs ds
def CEs (K : PySem.W.Frag) (w : World) (es : List DictEntry) (ks : List (List Nat)) (ds : List D) : Prop :=
  PySem.W.KeysLit w.params es ∧ ∃ vs, (∀ g H, Reps K w g H vs ds) ∧ ∀ x : List Nat, match (ks.zip vs).lookup x with
    | some v => ∃ e, es.find? (·.key.isStr (S x)) = some e ∧ RelV v e.val
    | none => es.find? (·.key.isStr (S x)) = none
section
variable {K : PySem.W.Frag} {w : World}
theorem cv_int {i : Int} {t : Tok} : CV K w (.int i t) (.int i) := ⟨.int i, ⟨t, rfl⟩, fun g H => by simp [Rep]⟩
theorem cv_bl {b : Bool} : CV K w (.bool b) (.bl b) := ⟨.bl b, rfl, fun g H => by simp [Rep]⟩
theorem cv_non : CV K w .none .non := ⟨.non, rfl, fun g H => by simp [Rep]⟩
theorem cv_str {z : Str} {t : Tok} {l : List Nat} (h : z = S l) : CV K w (.str z t) (.str l) := ⟨.str z, ⟨t, rfl⟩, fun g H => by simp [Rep, h]⟩
theorem cvs_nil : CVs K w [] [] := ⟨[], .nil, fun g H => Reps.nil⟩
theorem cvs_cons {u : Value} {us : List Value} {d : D} {ds : List D} (h : CV K w u d) (hs : CVs K w us ds) : CVs K w (u :: us) (d :: ds) := by
  obtain ⟨v, h1, h2⟩ := h
  obtain ⟨vs, g1, g2⟩ := hs
  exact ⟨v :: vs, .cons h1 g1, fun g H => Reps.cons (h2 g H) (g2 g H)⟩
theorem cv_tup {a : Addr} {od : Option Addr} {its : Array Value} {n : Nat} {sl : Array (Option Value)} {ds : List D} (l : K.lookup a = some ⟨.type "tuple", od, .seq its n, sl⟩) (hs : its.size ≤ sizeLine) (h : CVs K w its.toList ds) : CV K w (.ref a) (.tup ds) := by
  obtain ⟨vs, h1, h2⟩ := h
  exact ⟨.ref a, rfl, fun g H => by simp only [Rep]; exact ⟨a, vs, rfl, .inr ⟨_, its, n, l, rfl, rfl, hs, h1⟩, h2 g H⟩⟩
theorem cv_lst {a : Addr} {its : Array Value} {n : Nat} {sl : Array (Option Value)} {ds : List D} (l : K.lookup a = some ⟨.type "list", none, .seq its n, sl⟩) (hs : its.size ≤ sizeLine) (h : CVs K w its.toList ds) : CV K w (.ref a) (.lst ds) := by
  obtain ⟨vs, h1, h2⟩ := h
  exact ⟨.ref a, rfl, fun g H => by simp only [Rep]; exact ⟨a, vs, rfl, .inr ⟨_, its, n, l, rfl, rfl, rfl, hs, h1⟩, h2 g H⟩⟩
theorem ces_nil : CEs K w [] [] [] := ⟨trivial, [], fun g H => Reps.nil, fun x => by simp⟩
theorem ces_cons {e : DictEntry} {es : List DictEntry} {k : List Nat} {ks : List (List Nat)} {d : D} {ds : List D} {z : Str} {t : Tok} (hk : e.key = .str z t) (hz : z = S k) (hh : e.hash = PyData.keyHash w.params z) (h : CV K w e.val d) (hs : CEs K w es ks ds) : CEs K w (e :: es) (k :: ks) (d :: ds) := by
  obtain ⟨v, h1, h2⟩ := h
  obtain ⟨g0, vs, g1, g2⟩ := hs
  refine ⟨⟨⟨z, t, hk, hh⟩, g0⟩, v :: vs, fun g H => Reps.cons (h2 g H) (g1 g H), fun x => ?_⟩
  have e1 : e.key.isStr (S x) = (x == k) := by
    rw [hk, hz, PySem.W.isStr_of]
    show (S k == S x) = (x == k)
    by_cases q : x = k
    · subst q
      rw [beq_self_eq_true, beq_self_eq_true]
    · have q2 : ¬ S k = S x := fun z => q (S_inj z).symm
      rw [beq_eq_false_iff_ne.mpr q, beq_eq_false_iff_ne.mpr q2]
  rw [List.zip_cons_cons, List.lookup_cons, List.find?_cons, e1]
  cases q : (x == k) with
  | true => exact ⟨e, rfl, h1⟩
  | false => exact g2 x
theorem keysLit_ref {P : Params} : ∀ {es : List DictEntry}, PySem.W.KeysLit P es → es.any (·.refKey) = false
  | [], _ => rfl
  | e :: r, ⟨⟨x, t, h, _⟩, g⟩ => by
    rw [List.any_cons, keysLit_ref g, Bool.or_false]
    show e.refKey = false
    unfold DictEntry.refKey
    rw [h]
theorem cv_dct {a : Addr} {es : Array DictEntry} {n : Nat} {ks : List (List Nat)} {ds : List D} (l : K.lookup a = some ⟨.type "dict", none, .dict es n, #[]⟩) (low : (a == sysModules) = false) (h : CEs K w es.toList ks ds) : CV K w (.ref a) (.dct ks ds) := by
  obtain ⟨h0, vs, h1, h2⟩ := h
  refine ⟨.ref a, rfl, fun g H => ?_⟩
  simp only [Rep]
  refine ⟨a, vs, rfl, ⟨es, n, l, h0, low, fun x => ?_⟩, h1 g H⟩
  have h3 := h2 x
  unfold PySem.W.nsIn
  rw [l]
  cases q : (ks.zip vs).lookup x with
  | some v =>
    rw [q] at h3
    obtain ⟨e, e1, e2⟩ := h3
    exact ⟨e.val, by simp only [e1], e2⟩
  | none =>
    rw [q] at h3
    simp only [h3, keysLit_ref h0]
    rfl
theorem cst_of {h : Heap} {mg : Str → Option Value} {x : Str} {u : Value} {d : D} (X : K.In h) (G : h.Ns mainGlobals mg) (e : PySem.W.nsIn K mainGlobals x = some (some u)) (c : CV K w u d) : Cst K w mg x d := by
  obtain ⟨v, h1, h2⟩ := c
  exact ⟨u, v, PySem.W.mg_of X G e, h1, h2⟩
/-- a def, from what the top has written -/
theorem df_of {h : Heap} {mg : Str → Option Value} (X : K.In h) (G : h.Ns mainGlobals mg) {x : Str} {st : Stmt} {f : Addr} {oc : Value} {od an : Option Addr} {osl : Array (Option Value)} {kV doc pm cdv ct : Value} {ps : List Str} (a : PySem.W.nsIn K mainGlobals x = some (some (.ref f))) (l : K.lookup f = some ⟨oc, od, .func (PySem.W.fnOf x x (defArgs st) (defBody st) (defScope st) .none kV doc pm an cdv ct), osl⟩)
    (c : PySem.W.codeIn K cdv x = true) (k : PySem.W.keepIn K (.ref f) = true)
    (hb : ∀ (kV doc pm : Value) (an : Option Addr) (cdv ct : Value) (us : List Value), us.length = ps.length → bindArgs (PySem.W.fnOf x x (defArgs st) (defBody st) (defScope st) .none kV doc pm an cdv ct) ⟨us, []⟩ = pure (ps.zip us)) : Df K mg x st ps :=
  df_mk (PySem.W.mg_of X G a) l c k hb
/-- the law's own def: what walk_of asks -/
theorem law_of {P : Program} {h : Heap} {mg : Str → Option Value} (X : K.In h) (G : h.Ns mainGlobals mg) {fa f : Addr} (hfa : mg "law" = some (.ref fa)) {q : Str} {N : List Str} {k : Nat} {mb : MS} {m : MF} {st : Stmt}
    {oc : Value} {od an : Option Addr} {osl : Array (Option Value)} {kV doc pm cdv ct : Value} (a : PySem.W.nsIn K mainGlobals "law" = some (some (.ref f))) (l : K.lookup f = some ⟨oc, od, .func (PySem.W.fnOf "law" "law" (defArgs st) (defBody st) (defScope st) .none kV doc pm an cdv ct), osl⟩)
    (c : PySem.W.codeIn K cdv "law" = true) (kp : PySem.W.keepIn K (.ref f) = true) (hb : ∀ u : Value, bindArgs (PySem.W.fnOf "law" "law" (defArgs st) (defBody st) (defScope st) .none kV doc pm an cdv ct) ⟨[u], []⟩ = pure [(q, u)]) (Sc : FnScope N [q] (defScope st))
    (body : ∀ base : Heap, K.In base → base.Ns mainGlobals mg → SSs ⟨P, w, K, mg, base, N, defScope st, k, fun _ => true⟩ (defBody st) mb) (em : m = runF N.length mb) (hm : ∀ ns : List Int, ns.length ≤ 63 → ∃ h', m [.lst (ns.map D.int)] [] = .ok (.v (.bl true)) h') :
    ∃ fd : FuncData, (∀ (s : Shared) (u : Value), BindsTo s fd ⟨[u], []⟩ [(q, u)]) ∧ ∀ base : Heap, K.In base → base.Ns mainGlobals mg → FnOk P w K mg base (L2.CX P w) (k + 1) fa fd [q] (spLaw K) := by
  have e := hfa.symm.trans (PySem.W.mg_of X G a)
  cases e
  subst em
  exact ⟨_, fun s u => BindsTo.of_eq (hb u), fun base b1 b2 => law_end hm (fn_ok (fun_mk l c kp) Sc (body base b1 b2))⟩
theorem law_walk {l : PySem.W.OpenLaw} {q : Program} {loose : List Str} {XP : (Str → Option Value) → Heap → Prop} {YP : World → Heap → Prop} {d : DefRec} {K : Params → PySem.W.Frag} {k : Nat} {x : Str} (hr : Room k callerA) (hn : l.most = some 63) (hdf : d.params.defaults = [])
    (hY : ∀ (w : World) (h : Heap), YP w h → (K w.params).In h)
    (F : ∀ (w : World) (mg : Str → Option Value) (fa : Addr) (h : Heap), (K w.params).In h → h.Ns mainGlobals mg → mg d.name = some (.ref fa) →
      ∃ fd : FuncData, (∀ (s : Shared) (u : Value), BindsTo s fd ⟨[u], []⟩ [(x, u)]) ∧ ∀ base : Heap, (K w.params).In base → base.Ns mainGlobals mg → FnOk l.prog w (K w.params) mg base (L2.CX l.prog w) k fa fd [x] (spLaw (K w.params))) :
    PySem.W.WalkO q loose XP YP l.row.toRowW d [] (fun f vs => PySem.call f vs) :=
  L2.walk_of (n := 63) (k := k) (x := x) (CX := fun w => L2.CX l.prog w) (sp := fun w => spLaw (K w.params)) hn (by decide) hdf hr hY F (fun _ _ a ns hl _ hS => ⟨a, ns, rfl, hS, hl, fun _ => rfl⟩) fun w H s e s' z => by
    obtain ⟨_, _, _, _, _, _, _, _, _, _, _, _, z⟩ := z
    exact z
end
end Mi
set_option Elab.async false
set_option linter.all false
set_option maxRecDepth 100000
open PySem PySem.Spec PyProof.Rows L2
namespace Mi
/-! ## the calculus: what the mini layer's words tell, for simp -/
@[simp] theorem x_dv (d : D) : R.d (.v d) = d := rfl
@[simp] theorem x_down (ds : List D) : R.d (.own ds) = .lst ds := rfl
@[simp] theorem x_slv (d : D) : R.sl (.v d) = .v d := rfl
@[simp] theorem x_slown (ds : List D) : R.sl (.own ds) = .own ds := rfl
@[simp] theorem x_bindSe {α : Type} (x : Xc) (e : Ev) (h : MH) (f : α → Ev → MH → Fl) : (Rs.err x e h : Rs α).bindS f = .err x e h := rfl
@[simp] theorem x_bindSn {α : Type} (f : α → Ev → MH → Fl) : (Rs.no : Rs α).bindS f = .no := rfl
@[simp] theorem x_fz (m : ME) (env : Ev) (h : MH) : fz m env h = ((m env h).bind fun r env h => .ok r.d env h) := rfl
@[simp] theorem x_eC (d : D) (env : Ev) (h : MH) : eC d env h = (.ok (.v d) env h) := rfl
@[simp] theorem x_eVar (i : Nat) (env : Ev) (h : MH) : eVar i env h = (match env[i]? with
  | some (.v d) => .ok (.v d) env h
  | some (.own ds) => .ok (.v (.lst ds)) (env.set i (.v (.lst ds))) h
  | _ => .no) := rfl
@[simp] theorem x_ofO (o : Option R) (env : Ev) (h : MH) : ofO o env h = (match o with
  | some r => .ok r env h
  | none => .no) := rfl
@[simp] theorem x_eOp2 (op : MH → D → D → Option R) (ma mb : MV) (env : Ev) (h : MH) : eOp2 op ma mb env h = ((ma env h).bind fun x env h => (mb env h).bind fun y env h => ofO (op h x y) env h) := rfl
@[simp] theorem x_eOp1 (op : MH → D → Option R) (ma : MV) (env : Ev) (h : MH) : eOp1 op ma env h = ((ma env h).bind fun x env h => ofO (op h x) env h) := rfl
@[simp] theorem x_toB (m : ME) (env : Ev) (h : MH) : toB m env h = ((m env h).bind fun r env h => match r with
  | .v (.bl b) => .ok b env h
  | _ => .no) := rfl
@[simp] theorem x_bTru (m : MV) (env : Ev) (h : MH) : bTru m env h = ((m env h).bind fun d env h => match truD h d with
  | some b => .ok b env h
  | none => .no) := rfl
@[simp] theorem x_bNot (m : MB) (env : Ev) (h : MH) : bNot m env h = ((m env h).bind fun b env h => .ok (!b) env h) := rfl
@[simp] theorem x_bAnd (m n : MB) (env : Ev) (h : MH) : bAnd m n env h = ((m env h).bind fun b env h => if b = true then n env h else .ok false env h) := rfl
@[simp] theorem x_bOr (m n : MB) (env : Ev) (h : MH) : bOr m n env h = ((m env h).bind fun b env h => if b = true then .ok true env h else n env h) := rfl
@[simp] theorem x_eNot (m : MV) (env : Ev) (h : MH) : eNot m env h = ((m env h).bind fun d env h => match d with
  | .bl b => .ok (.v (.bl (!b))) env h
  | _ => .no) := rfl
@[simp] theorem x_eIf (c : MB) (m n : ME) (env : Ev) (h : MH) : eIf c m n env h = ((c env h).bind fun b env h => if b = true then m env h else n env h) := rfl
@[simp] theorem x_aNil  (env : Ev) (h : MH) : aNil  env h = (.ok [] env h) := rfl
@[simp] theorem x_aCons (m : MV) (n : MA) (env : Ev) (h : MH) : aCons m n env h = ((m env h).bind fun d env h => (n env h).bind fun ds env h => .ok (d :: ds) env h) := rfl
@[simp] theorem x_eTup (m : MA) (env : Ev) (h : MH) : eTup m env h = ((m env h).bind fun ds env h => if ds.length ≤ sizeLine then .ok (.v (.tup ds)) env h else .no) := rfl
@[simp] theorem x_eLst (m : MA) (env : Ev) (h : MH) : eLst m env h = ((m env h).bind fun ds env h => if ds.length ≤ sizeLine then .ok (.own ds) env h else .no) := rfl
@[simp] theorem x_eLoc (m : MA) (env : Ev) (h : MH) : eLoc m env h = ((m env h).bind fun ds env h => if ds.length ≤ sizeLine then .ok (.v (.loc h.length)) env (h ++ [.lst ds]) else .no) := rfl
@[simp] theorem x_eCall (mf : MF) (m : MA) (env : Ev) (h : MH) : eCall mf m env h = ((m env h).bind fun ds env h => match mf ds h with
  | .ok r h' => .ok r env h'
  | .err x h' => .err x env h'
  | .no => .no) := rfl
@[simp] theorem x_sNil  (env : Ev) (h : MH) : sNil  env h = (.nx env h) := rfl
@[simp] theorem x_sSeq (m n : MS) (env : Ev) (h : MH) : sSeq m n env h = (match m env h with
  | .nx env h => n env h
  | r => r) := rfl
@[simp] theorem x_sExpr (m : ME) (env : Ev) (h : MH) : sExpr m env h = ((m env h).bindS fun _ env h => .nx env h) := rfl
@[simp] theorem x_sRet (m : ME) (env : Ev) (h : MH) : sRet m env h = ((m env h).bindS fun r env h => .rt r env h) := rfl
@[simp] theorem x_sRetN  (env : Ev) (h : MH) : sRetN  env h = (.rt (.v .non) env h) := rfl
@[simp] theorem x_sBk  (env : Ev) (h : MH) : sBk  env h = (.bk env h) := rfl
@[simp] theorem x_sCt  (env : Ev) (h : MH) : sCt  env h = (.ct env h) := rfl
@[simp] theorem x_sNo  (env : Ev) (h : MH) : sNo  env h = (.no) := rfl
@[simp] theorem x_sIf (c : MB) (m n : MS) (env : Ev) (h : MH) : sIf c m n env h = ((c env h).bindS fun b env h => if b = true then m env h else n env h) := rfl
@[simp] theorem x_sSet (i : Nat) (m : ME) (env : Ev) (h : MH) : sSet i m env h = ((m env h).bindS fun r env h => .nx (env.set i r.sl) h) := rfl
@[simp] theorem x_sAug (i : Nat) (op : MH → D → D → Option R) (m : MV) (env : Ev) (h : MH) : sAug i op m env h = (match env[i]? with
  | some (.v d) => (m env h).bindS fun y env h => match op h d y with
    | some r => .nx (env.set i r.sl) h
    | none => .no
  | _ => .no) := rfl
@[simp] theorem x_runF (n : Nat) (mb : MS) (ds : List D) (h : MH) : runF n mb ds h = (match mb (ds.map Sl.v ++ List.replicate (n - ds.length) .un) h with
  | .nx _ h' => .ok (.v .non) h'
  | .rt r _ h' => .ok r h'
  | .err x _ h' => .err x h'
  | _ => .no) := rfl
@[simp] theorem x_tN (i : Nat) (d : D) (env : Ev) : tN i d env = (some (env.set i (.v d))) := rfl
@[simp] theorem x_tsNil  (ds : List D) (env : Ev) : tsNil  ds env = (match ds with
  | [] => some env
  | _ => none) := rfl
@[simp] theorem x_tsCons (m : Tg) (n : List D → Ev → Option Ev) (ds : List D) (env : Ev) : tsCons m n ds env = (match ds with
  | d :: ds => (match m d env with
    | some env => n ds env
    | none => none)
  | [] => none) := rfl
@[simp] theorem x_tT (n : List D → Ev → Option Ev) (k : Nat) (d : D) (env : Ev) : tT n k d env = (match d with
  | .tup ds => if ds.length = k then n ds env else none
  | _ => none) := rfl
@[simp] theorem x_tL (n : List D → Ev → Option Ev) (k : Nat) (d : D) (env : Ev) : tL n k d env = (match d with
  | .lst ds => if ds.length = k then n ds env else none
  | _ => none) := rfl
@[simp] theorem x_sAsg (t : Tg) (m : MV) (env : Ev) (h : MH) : sAsg t m env h = ((m env h).bindS fun d env h => match t d env with
  | some env => .nx env h
  | none => .no) := rfl
@[simp] theorem x_iOf (m : MV) (env : Ev) (h : MH) : iOf m env h = ((m env h).bind fun d env h => match itemsD d with
  | some ds => .ok ds env h
  | none => .no) := rfl
@[simp] theorem x_sFor (t : Tg) (m : MI) (mb : MS) (env : Ev) (h : MH) : sFor t m mb env h = ((m env h).bindS fun ds env h => sForL t mb ds env h) := rfl
@[simp] theorem x_eComp (cap : List Nat) (t : Tg) (mi : MI) (c : MB) (elt : MV) (env : Ev) (h : MH) : eComp cap t mi c elt env h = ((mi env h).bind fun ds env h => match compL t c elt (mask cap 0 (frzE cap env)) ds h [] with
  | some (acc, h') => .ok (.own acc) (frzE cap env) h'
  | none => .no) := rfl
@[simp] theorem x_bYes  (env : Ev) (h : MH) : bYes  env h = (.ok true env h) := rfl
@[simp] theorem x_eComp2 (cap : List Nat) (t : Tg) (mi : MI) (c : MB) (mi1 : MI) (t1 : Tg) (c1 : MB) (elt : MV) (vs1 : List Nat) (env : Ev) (h : MH) : eComp2 cap t mi c mi1 t1 c1 elt vs1 env h = ((mi env h).bind fun ds env h => match compL2 t c mi1 t1 c1 elt vs1 (mask cap 0 (frzE cap env)) ds h [] with
  | some (acc, h') => .ok (.own acc) (frzE cap env) h'
  | none => .no) := rfl
@[simp] theorem x_eCallB (op : MH → List D → Option R) (m : MA) (env : Ev) (h : MH) : eCallB op m env h = ((m env h).bind fun ds env h => ofO (op h ds) env h) := rfl
@[simp] theorem x_eMtS (op : MH → D → List D → Option R) (mo : MV) (m : MA) (env : Ev) (h : MH) : eMtS op mo m env h = ((mo env h).bind fun d env h => if isS d = true then (m env h).bind fun ds env h => ofO (op h d ds) env h else .no) := rfl
@[simp] theorem x_eIxV (i : Nat) (op : MH → D → D → Option R) (mk : MV) (env : Ev) (h : MH) : eIxV i op mk env h = (if live env i = true then (mk env h).bind fun k env h => match env[i]? with
  | some (.own xs) => (match k with
    | .int j => (match atI xs j with
      | some d => .ok (.v d) env h
      | none => .no)
    | _ => .no)
  | some (.v d) => ofO (op h d k) env h
  | _ => .no else .no) := rfl
@[simp] theorem x_eLenV (i : Nat) (op : MH → List D → Option R) (env : Ev) (h : MH) : eLenV i op env h = (match env[i]? with
  | some (.own xs) => .ok (.v (.int xs.length)) env h
  | some (.v d) => ofO (op h [d]) env h
  | _ => .no) := rfl
@[simp] theorem x_bTruV (i : Nat) (env : Ev) (h : MH) : bTruV i env h = (match env[i]? with
  | some (.own xs) => .ok (!xs.isEmpty) env h
  | some (.v d) => (match truD h d with
    | some b => .ok b env h
    | none => .no)
  | _ => .no) := rfl
@[simp] theorem x_mutAt (i : Nat) (op : List D → List D → Option (List D × D)) (ds : List D) (env : Ev) (h : MH) : mutAt i op ds env h = (match env[i]? with
  | some (.own xs) => (match op xs ds with
    | some (xs', r) => .ok (.v r) (env.set i (.own xs')) h
    | none => .no)
  | some (.v (.loc n)) => (match h[n]? with
    | some (.lst xs) => (match op xs ds with
      | some (xs', r) => .ok (.v r) env (h.set n (.lst xs'))
      | none => .no)
    | none => .no)
  | _ => .no) := rfl
@[simp] theorem x_eMut (i : Nat) (op : List D → List D → Option (List D × D)) (m : MA) (env : Ev) (h : MH) : eMut i op m env h = (if isList env h i = true then (m env h).bind fun ds env h => mutAt i op ds env h else .no) := rfl
@[simp] theorem x_sStIx (i : Nat) (mk mv : MV) (env : Ev) (h : MH) : sStIx i mk mv env h = ((mv env h).bindS fun d env h => if isList env h i = true then (mk env h).bindS fun k env h => (mutAt i (setOp d) [k] env h).bindS fun _ env h => .nx env h else .no) := rfl
@[simp] theorem x_pNone  (env : Ev) (h : MH) : pNone  env h = (.ok none env h) := rfl
@[simp] theorem x_pSome (m : MV) (env : Ev) (h : MH) : pSome m env h = ((m env h).bind fun d env h => match d with
  | .int i => .ok (some i) env h
  | _ => .no) := rfl
@[simp] theorem x_eSl (m : MV) (lo hi : MO') (env : Ev) (h : MH) : eSl m lo hi env h = ((m env h).bind fun x env h => (lo env h).bind fun l env h => (hi env h).bind fun u env h => ofO (slO x l u) env h) := rfl
@[simp] theorem x_eSlV (i : Nat) (lo hi : MO') (env : Ev) (h : MH) : eSlV i lo hi env h = (if live env i = true then (lo env h).bind fun l env h => (hi env h).bind fun u env h => match env[i]? with
  | some (.own ds) => .ok (.own (cutL ds l u)) env h
  | some (.v d) => ofO (slO d l u) env h
  | _ => .no else .no) := rfl
@[simp] theorem x_eIsi (T : String) (m : MV) (env : Ev) (h : MH) : eIsi T m env h = ((m env h).bind fun d env h => .ok (.v (.bl (isT T d))) env h) := rfl
@[simp] theorem x_eIsi2 (T1 T2 : String) (m : MV) (env : Ev) (h : MH) : eIsi2 T1 T2 m env h = ((m env h).bind fun d env h => .ok (.v (.bl (isT T1 d || isT T2 d))) env h) := rfl

/-- a branch by a truth value -/
def brO (o : Option R) (k : Unit → Rs R) (env : Ev) (h : MH) : Rs R := match o with
  | some (.v (.bl true)) => k ()
  | some (.v (.bl false)) => .ok (.v (.bl false)) env h
  | _ => .no
@[simp] theorem brO_bl (b : Bool) (k : Unit → Rs R) (env : Ev) (h : MH) : brO (some (.v (.bl b))) k env h = if b = true then k () else .ok (.v (.bl false)) env h := by cases b <;> rfl
@[simp] theorem x_eChain (o o' : MH → D → D → Option R) (ma mb mc : MV) (env : Ev) (h : MH) : eChain o o' ma mb mc env h = (ma env h).bind fun x env h => (mb env h).bind fun y env h => brO (o h x y) (fun _ => (mc env h).bind fun z env h => ofO (o' h y z) env h) env h := rfl
def brA (d : D) (k : Unit → Rs R) (env : Ev) (h : MH) : Rs R := match d with
  | .bl true => k ()
  | .bl false => .ok (.v (.bl false)) env h
  | _ => .no
@[simp] theorem brA_bl (b : Bool) (k : Unit → Rs R) (env : Ev) (h : MH) : brA (.bl b) k env h = if b = true then k () else .ok (.v (.bl false)) env h := by cases b <;> rfl
@[simp] theorem x_eAnd (m : MV) (n : ME) (env : Ev) (h : MH) : eAnd m n env h = (m env h).bind fun d env h => brA d (fun _ => n env h) env h := rfl
def brR (d : D) (k : Unit → Rs R) (env : Ev) (h : MH) : Rs R := match d with
  | .bl true => .ok (.v (.bl true)) env h
  | .bl false => k ()
  | _ => .no
@[simp] theorem brR_bl (b : Bool) (k : Unit → Rs R) (env : Ev) (h : MH) : brR (.bl b) k env h = if b = true then .ok (.v (.bl true)) env h else k () := by cases b <;> rfl
@[simp] theorem x_eOr (m : MV) (n : ME) (env : Ev) (h : MH) : eOr m n env h = (m env h).bind fun d env h => brR d (fun _ => n env h) env h := rfl
/-! ranges -/
def rngO (d : D) (env : Ev) (h : MH) : Rs (List D) := match d with
  | .int j => if smallI j then .ok (rangeD 0 j.toNat) env h else .no
  | _ => .no
@[simp] theorem x_iRange1 (m : MV) (env : Ev) (h : MH) : iRange1 m env h = (m env h).bind fun d env h => rngO d env h := rfl
@[simp] theorem rngO_int {j : Int} (h1 : -1000000000000 ≤ j) (h2 : j ≤ 1000000000000) (env : Ev) (h : MH) : rngO (.int j) env h = .ok (rangeD 0 j.toNat) env h := by
  unfold rngO
  exact if_pos (by unfold smallI; omega)
def rngO2 (d d' : D) (env : Ev) (h : MH) : Rs (List D) := match d, d' with
  | .int i, .int j => if smallI i ∧ smallI j then .ok (rangeD i (j - i).toNat) env h else .no
  | _, _ => .no
@[simp] theorem x_iRange2 (m n : MV) (env : Ev) (h : MH) : iRange2 m n env h = (m env h).bind fun d env h => (n env h).bind fun d' env h => rngO2 d d' env h := rfl
@[simp] theorem rngO2_int {i j : Int} (h1 : -1000000000000 ≤ i) (h2 : i ≤ 1000000000000) (h3 : -1000000000000 ≤ j) (h4 : j ≤ 1000000000000) (env : Ev) (h : MH) : rngO2 (.int i) (.int j) env h = .ok (rangeD i (j - i).toNat) env h := by
  unfold rngO2
  exact if_pos (by unfold smallI; omega)
/-! masks -/
@[simp] theorem x_frzE0 (env : Ev) : frzE [] env = env := rfl
@[simp] theorem x_frzE (i : Nat) (cap : List Nat) (env : Ev) : frzE (i :: cap) env = frzE cap (match env[i]? with
  | some (.own ds) => env.set i (.v (.lst ds))
  | _ => env) := rfl
@[simp] theorem x_maskv (d : D) : maskS (.v d) = .v d := rfl
@[simp] theorem x_masko (d : List D) : maskS (.own d) = .un := rfl
@[simp] theorem x_masku : maskS .un = .un := rfl
@[simp] theorem x_mask0 (cap : List Nat) (n : Nat) : mask cap n [] = [] := rfl
@[simp] theorem x_mask1 (cap : List Nat) (n : Nat) (s : Sl) (r : Ev) : mask cap n (s :: r) = (if n ∈ cap then maskS s else .un) :: mask cap (n + 1) r := rfl
@[simp] theorem x_unE (i : Nat) (vs : List Nat) (env : Ev) : unE (i :: vs) env = unE vs (env.set i .un) := rfl
@[simp] theorem x_unE0 (env : Ev) : unE [] env = env := rfl
@[simp] theorem x_live (env : Ev) (i : Nat) : live env i = (match env[i]? with
  | some (.v _) => true
  | some (.own _) => true
  | _ => false) := rfl
@[simp] theorem x_isList (env : Ev) (h : MH) (i : Nat) : isList env h i = (match env[i]? with
  | some (.own _) => true
  | some (.v (.loc n)) => (match h[n]? with
    | some (.lst _) => true
    | none => false)
  | _ => false) := rfl
/-! operations -/
section
variable (h : MH)
@[simp] theorem x_addi (i j : Int) : addO h (.int i) (.int j) = some (.v (.int (i + j))) := rfl
@[simp] theorem x_adds (s t : List Nat) : addO h (.str s) (.str t) = if s.length + t.length ≤ sizeLine then some (.v (.str (s ++ t))) else none := rfl
@[simp] theorem x_addl (s t : List D) : addO h (.lst s) (.lst t) = if s.length + t.length ≤ sizeLine then some (.own (s ++ t)) else none := rfl
@[simp] theorem x_addt (s t : List D) : addO h (.tup s) (.tup t) = if s.length + t.length ≤ sizeLine ∧ s ≠ [] then some (.v (.tup (s ++ t))) else none := rfl
@[simp] theorem x_iaddi (i j : Int) : iaddO h (.int i) (.int j) = some (.v (.int (i + j))) := rfl
@[simp] theorem x_iadds (s t : List Nat) : iaddO h (.str s) (.str t) = if s.length + t.length ≤ sizeLine then some (.v (.str (s ++ t))) else none := rfl
@[simp] theorem x_subi (i j : Int) : subO h (.int i) (.int j) = some (.v (.int (i - j))) := rfl
@[simp] theorem x_muli (i j : Int) : mulIO h (.int i) (.int j) = if mulC i j then some (.v (.int (i * j))) else none := rfl
@[simp] theorem x_fdiv (i j : Int) : fdivO h (.int i) (.int j) = if 0 < j ∧ j.natAbs < 1073741824 then some (.v (.int (i / j))) else none := rfl
@[simp] theorem x_mod (i j : Int) : modO h (.int i) (.int j) = if 0 < j then some (.v (.int (i % j))) else none := rfl
@[simp] theorem x_neg (i : Int) : negO h (.int i) = some (.v (.int (-i))) := rfl
@[simp] theorem x_cmpi (p : Int → Int → Bool) (q : List Nat → List Nat → Bool) (i j : Int) : cmpO p q h (.int i) (.int j) = some (.v (.bl (p i j))) := rfl
@[simp] theorem x_cmps (p : Int → Int → Bool) (q : List Nat → List Nat → Bool) (i j : List Nat) : cmpO p q h (.str i) (.str j) = some (.v (.bl (q i j))) := rfl
@[simp] theorem x_eqDs (s t : List Nat) : eqD (.str s) (.str t) = some (decide (s = t)) := rfl
@[simp] theorem x_eqDi (s t : Int) : eqD (.int s) (.int t) = some (decide (s = t)) := rfl
@[simp] theorem x_eqDb (s t : Bool) : eqD (.bl s) (.bl t) = some (decide (s = t)) := rfl
@[simp] theorem x_eqO (x y : D) : eqO h x y = (eqD x y).map fun b => .v (.bl b) := rfl
@[simp] theorem x_neO (x y : D) : neO h x y = (eqD x y).map fun b => .v (.bl (!b)) := rfl
@[simp] theorem x_isNO (x : D) : isNO h x .non = some (.v (.bl (isNonD x))) := rfl
@[simp] theorem x_notNO (x : D) : notNO h x .non = some (.v (.bl (!isNonD x))) := rfl
@[simp] theorem x_inO (x y : D) : inO h x y = (inD h x y).map fun b => .v (.bl b) := rfl
@[simp] theorem x_ninO (x y : D) : ninO h x y = (inD h x y).map fun b => .v (.bl (!b)) := rfl
@[simp] theorem x_ins (c : Nat) (t : List Nat) : inD h (.str [c]) (.str t) = some (decide (c ∈ t)) := rfl
@[simp] theorem x_int (x : D) (t : List D) : inD h x (.tup t) = inL x t := rfl
@[simp] theorem x_inl (x : D) (t : List D) : inD h x (.lst t) = inL x t := rfl
@[simp] theorem x_ind (s : List Nat) (ks : List (List Nat)) (ds : List D) : inD h (.str s) (.dct ks ds) = if ks.length = ds.length then some (decide (s ∈ ks)) else none := rfl
@[simp] theorem x_ixO (x y : D) : ixO h x y = (ixD h x y).map .v := rfl
@[simp] theorem x_ixl (ds : List D) (j : Int) : ixD h (.lst ds) (.int j) = atI ds j := rfl
@[simp] theorem x_ixt (ds : List D) (j : Int) : ixD h (.tup ds) (.int j) = atI ds j := rfl
@[simp] theorem x_ixs (s : List Nat) (j : Int) : ixD h (.str s) (.int j) = if s.length ≤ sizeLine then (atI s j).map fun c => .str [c] else none := rfl
theorem x_ixo {h : MH} {n : Nat} {ds : List D} (j : Int) (e : h[n]? = some (.lst ds)) : ixD h (.loc n) (.int j) = atI ds j := by
  simp only [ixD, e]
@[simp] theorem x_ixd (ks : List (List Nat)) (ds : List D) (s : List Nat) : ixD h (.dct ks ds) (.str s) = (ks.zip ds).lookup s := rfl
@[simp] theorem x_trub (b : Bool) : truD h (.bl b) = some b := rfl
@[simp] theorem x_trun : truD h .non = some false := rfl
@[simp] theorem x_trui (i : Int) : truD h (.int i) = some (i != 0) := rfl
@[simp] theorem x_trus (s : List Nat) : truD h (.str s) = if s.length ≤ sizeLine then some (!s.isEmpty) else none := rfl
@[simp] theorem x_trut (s : List D) : truD h (.tup s) = some (!s.isEmpty) := rfl
@[simp] theorem x_trul (s : List D) : truD h (.lst s) = some (!s.isEmpty) := rfl
@[simp] theorem x_lenl (xs : List D) : lenO h [.lst xs] = some (.v (.int xs.length)) := rfl
@[simp] theorem x_lent (xs : List D) : lenO h [.tup xs] = some (.v (.int xs.length)) := rfl
@[simp] theorem x_lens (s : List Nat) : lenO h [.str s] = if s.length ≤ sizeLine then some (.v (.int s.length)) else none := rfl
@[simp] theorem x_abs (i : Int) : absO h [.int i] = some (.v (.int (if i < 0 then -i else i))) := rfl
@[simp] theorem x_max2 (i j : Int) : max2O h [.int i, .int j] = some (.v (.int (if j > i then j else i))) := rfl
@[simp] theorem x_min2 (i j : Int) : min2O h [.int i, .int j] = some (.v (.int (if j < i then j else i))) := rfl
@[simp] theorem x_intI (i : Int) : intO h [.int i] = some (.v (.int i)) := rfl
@[simp] theorem x_intB (b : Bool) : intO h [.bl b] = some (.v (.int (if b then 1 else 0))) := rfl
@[simp] theorem x_intS (s : List Nat) : intO h [.str s] = if s.length ≤ 640 then (PySem.intText? (S s)).map fun n => .v (.int n) else none := rfl
@[simp] theorem x_str (i : Int) : strO h [.int i] = if i.natAbs.log2 < 1920 then some (.v (.str (strI i))) else none := rfl
@[simp] theorem x_tupl (xs : List D) : tupleO h [.lst xs] = some (.v (.tup xs)) := rfl
@[simp] theorem x_tupt (xs : List D) : tupleO h [.tup xs] = some (.v (.tup xs)) := rfl
@[simp] theorem x_listl (xs : List D) : listO h [.lst xs] = some (.own xs) := rfl
@[simp] theorem x_listt (xs : List D) : listO h [.tup xs] = some (.own xs) := rfl
@[simp] theorem x_lists (s : List Nat) : listO h [.str s] = if s.length ≤ sizeLine then some (.own (chars s)) else none := rfl
@[simp] theorem x_all (xs : List D) : allO h [.lst xs] = (toBls xs).map fun bs => .v (.bl (bs.all id)) := rfl
@[simp] theorem x_any (xs : List D) : anyO h [.lst xs] = (toBls xs).map fun bs => .v (.bl (bs.any id)) := rfl
@[simp] theorem x_sum (xs : List D) : sumO h [.lst xs] = (toInts xs).map fun ns => .v (.int ns.sum) := rfl
@[simp] theorem x_join (s : List Nat) (xs : List D) : joinO h (.str s) [.lst xs] = (match toStrs xs with
    | some l => if (l.map List.length).sum + l.length * s.length ≤ 16777216 then some (.v (.str (TL.joinL s l))) else none
    | none => none) := rfl
@[simp] theorem x_split (s t : List Nat) : splitO h (.str s) [.str t] = if t ≠ [] ∧ t.all (· < 256) = true ∧ s.length + 2 ≤ sizeLine then some (.own ((splitL t s).map D.str)) else none := rfl
@[simp] theorem x_starts (s t : List Nat) : startsO h (.str s) [.str t] = some (.v (.bl (decide (s.take t.length = t)))) := rfl
@[simp] theorem x_ends (s t : List Nat) : endsO h (.str s) [.str t] = some (.v (.bl (decide (t.length ≤ s.length) && decide (s.drop (s.length - t.length) = t)))) := rfl
@[simp] theorem x_isS (s : List Nat) : isS (.str s) = true := rfl
@[simp] theorem x_app (xs : List D) (d : D) : appOp xs [d] = if xs.length < sizeLine then some (xs ++ [d], .non) else none := rfl
@[simp] theorem x_set (d : D) (xs : List D) (j : Int) : setOp d xs [.int j] = (match ixN xs.length j with
    | some n => some (xs.set n d, .non)
    | none => none) := rfl
@[simp] theorem x_sls (s : List Nat) (lo hi : Option Int) : slO (.str s) lo hi = if s.length ≤ sizeLine then some (.v (.str (cutL s lo hi))) else none := rfl
@[simp] theorem x_sll (s : List D) (lo hi : Option Int) : slO (.lst s) lo hi = some (.own (cutL s lo hi)) := rfl
end
/-! items -/
@[simp] theorem x_itl (ds : List D) : itemsD (.lst ds) = some ds := rfl
@[simp] theorem x_itt (ds : List D) : itemsD (.tup ds) = some ds := rfl
@[simp] theorem x_its (s : List Nat) : itemsD (.str s) = some (chars s) := rfl
@[simp] theorem x_for0 (t : Tg) (mb : MS) (env : Ev) (h : MH) : sForL t mb [] env h = .nx env h := rfl
@[simp] theorem x_isT (T : String) (d : D) : isT T d = (tyD d == T || (tyD d == "bool" && T == "int")) := rfl
@[simp] theorem x_tyn : tyD .non = "NoneType" := rfl
@[simp] theorem x_tyb (b : Bool) : tyD (.bl b) = "bool" := rfl
@[simp] theorem x_tyi (b : Int) : tyD (.int b) = "int" := rfl
@[simp] theorem x_tys (b : List Nat) : tyD (.str b) = "str" := rfl
@[simp] theorem x_tyt (b : List D) : tyD (.tup b) = "tuple" := rfl
@[simp] theorem x_tyl (b : List D) : tyD (.lst b) = "list" := rfl
@[simp] theorem x_tyo (b : Nat) : tyD (.loc b) = "list" := rfl
/-! places -/
theorem atI_ofNat {α : Type} (xs : List α) (j : Nat) : atI xs (j : Int) = xs[j]? := by
  cases e : xs[j]? with
  | some v => exact atI_nat e
  | none =>
    rw [List.getElem?_eq_none_iff] at e
    unfold atI ixN
    rw [if_pos (by omega), if_neg (by omega)]
    rfl
@[simp] theorem atI_0 {α : Type} (xs : List α) : atI xs 0 = xs[0]? := atI_ofNat xs 0
@[simp] theorem atI_2 {α : Type} (xs : List α) : atI xs 2 = xs[2]? := atI_ofNat xs 2
@[simp] theorem atI_3 {α : Type} (xs : List α) : atI xs 3 = xs[3]? := atI_ofNat xs 3
@[simp] theorem atI_4 {α : Type} (xs : List α) : atI xs 4 = xs[4]? := atI_ofNat xs 4
@[simp] theorem atI_5 {α : Type} (xs : List α) : atI xs 5 = xs[5]? := atI_ofNat xs 5
@[simp] theorem atI_6 {α : Type} (xs : List α) : atI xs 6 = xs[6]? := atI_ofNat xs 6
@[simp] theorem atI_7 {α : Type} (xs : List α) : atI xs 7 = xs[7]? := atI_ofNat xs 7
@[simp] theorem atI_1 {α : Type} (xs : List α) : atI xs 1 = xs[1]? := atI_ofNat xs 1
@[simp] theorem ixN_0 (n : Nat) : ixN (n + 1) 0 = some 0 := by unfold ixN; rw [if_pos (by omega), if_pos (by omega)]; rfl
theorem pop_nat {xs : List D} {n : Nat} {d : D} (h : xs[n]? = some d) (hl : xs.length ≤ sizeLine) : popOp xs [.int (n : Int)] = some (xs.eraseIdx n, d) := by
  have hn := (List.getElem?_eq_some_iff.mp h).1
  have e : ixN xs.length (n : Int) = some n := by unfold ixN; rw [if_pos (by omega), if_pos (by omega)]; simp
  unfold popOp
  simp only
  rw [if_pos hl, e]
  simp only
  rw [h]
theorem ixN_lit {n j : Nat} (h : j < n) : ixN n (j : Int) = some j := by unfold ixN; rw [if_pos (by omega), if_pos (by omega)]; simp
@[simp] theorem x_toBls0 : toBls [] = some [] := rfl
theorem toBls_fun {α : Type} (f : α → Bool) (l : List α) : toBls (l.map fun a => D.bl (f a)) = some (l.map f) := by
  induction l with
  | nil => rfl
  | cons a l ih => simp [toBls, ih]
theorem toInts_fun {α : Type} (f : α → Int) (l : List α) : toInts (l.map fun a => D.int (f a)) = some (l.map f) := by
  induction l with
  | nil => rfl
  | cons a l ih => simp [toInts, ih]
theorem toStrs_fun {α : Type} (f : α → List Nat) (l : List α) : toStrs (l.map fun a => D.str (f a)) = some (l.map f) := by
  induction l with
  | nil => rfl
  | cons a l ih => simp [toStrs, ih]
theorem toStrs_str (l : List (List Nat)) : toStrs (l.map D.str) = some l := by
  have := toStrs_fun (fun a => a) l
  simpa using this
theorem toInts_int (l : List Int) : toInts (l.map D.int) = some l := by
  have := toInts_fun (fun a => a) l
  simpa using this
/-! ## comprehensions -/
/-- one that changes nothing: a filter, a map -/
theorem compL_ok {t : Tg} {c : MB} {elt : MV} {menv : Ev} {h : MH} {p : D → Bool} {f : D → D} : ∀ (ds acc : List D), (∀ d ∈ ds, ∃ e1 e2, t d menv = some e1 ∧ c e1 h = .ok (p d) e2 h ∧ (p d = true → ∃ e3, elt e2 h = .ok (f d) e3 h)) → acc.length + ds.length ≤ sizeLine →
    compL t c elt menv ds h acc = some (acc ++ (ds.filter p).map f, h)
  | [], acc, _, _ => by simp [compL]
  | d :: ds, acc, hh, hl => by
    obtain ⟨e1, e2, h1, h2, h3⟩ := hh d (by simp)
    rw [List.length_cons] at hl
    unfold compL
    rw [h1]
    simp only
    rw [h2]
    cases q : p d with
    | true =>
      obtain ⟨e3, h4⟩ := h3 q
      simp only [if_true]
      rw [h4]
      simp only
      rw [if_pos (by omega), compL_ok ds _ (fun d' m => hh d' (by simp [m])) (by simp; omega)]
      simp [q]
    | false =>
      show (if false = true then _ else _) = _
      rw [if_neg (by simp), compL_ok ds _ (fun d' m => hh d' (by simp [m])) (by omega)]
      simp [q]
theorem compL_map {t : Tg} {elt : MV} {menv : Ev} {h : MH} {f : D → D} {ds : List D} (hh : ∀ d ∈ ds, ∃ e1 e3, t d menv = some e1 ∧ elt e1 h = .ok (f d) e3 h) (hl : ds.length ≤ sizeLine) :
    compL t bYes elt menv ds h [] = some (ds.map f, h) := by
  rw [compL_ok (p := fun _ => true) (f := f) ds [] (fun d m => by
    obtain ⟨e1, e3, h1, h2⟩ := hh d m
    exact ⟨e1, e1, h1, rfl, fun _ => ⟨e3, h2⟩⟩) (by simpa using hl), List.filter_eq_self.mpr (by simp)]
  simp
/-- one that draws: an invariant of the shared lists, a promise of each element -/
theorem compL_inv {t : Tg} {c : MB} {elt : MV} {menv : Ev} {I : MH → Prop} {Q : D → Prop} : ∀ (ds acc : List D) (h : MH), I h → (∀ d ∈ ds, ∀ h, I h → ∃ e1 e2 b h2, t d menv = some e1 ∧ c e1 h = .ok b e2 h2 ∧ I h2 ∧ (b = true → ∃ y e3 h3, elt e2 h2 = .ok y e3 h3 ∧ I h3 ∧ Q y)) → acc.length + ds.length ≤ sizeLine →
    ∃ ys h', compL t c elt menv ds h acc = some (acc ++ ys, h') ∧ I h' ∧ ys.length ≤ ds.length ∧ ∀ y ∈ ys, Q y
  | [], acc, h, i0, _, _ => ⟨[], h, by simp [compL], i0, by simp, by simp⟩
  | d :: ds, acc, h, i0, hh, hl => by
    obtain ⟨e1, e2, b, h2, g1, g2, i2, g3⟩ := hh d (by simp) h i0
    rw [List.length_cons] at hl
    unfold compL
    rw [g1]
    simp only
    rw [g2]
    cases b with
    | true =>
      obtain ⟨y, e3, h3, g4, i3, q⟩ := g3 rfl
      simp only [if_true]
      rw [g4]
      simp only
      rw [if_pos (by omega)]
      obtain ⟨ys, h', r1, r2, r3, r4⟩ := compL_inv ds (acc ++ [y]) h3 i3 (fun d' m => hh d' (by simp [m])) (by simp; omega)
      exact ⟨y :: ys, h', by rw [r1]; simp, r2, by simp; omega, fun z m => by
        rcases List.mem_cons.mp m with rfl | m
        · exact q
        · exact r4 z m⟩
    | false =>
      show ∃ ys h', (if false = true then _ else _) = _ ∧ _
      rw [if_neg (by simp)]
      obtain ⟨ys, h', r1, r2, r3, r4⟩ := compL_inv ds acc h2 i2 (fun d' m => hh d' (by simp [m])) (by omega)
      exact ⟨ys, h', r1, r2, by simp; omega, r4⟩
theorem compL_all {t : Tg} {elt : MV} {menv : Ev} {I : MH → Prop} {Q : D → Prop} : ∀ (ds acc : List D) (h : MH), I h → (∀ d ∈ ds, ∀ h, I h → ∃ e1, t d menv = some e1 ∧ ∃ y e3 h3, elt e1 h = .ok y e3 h3 ∧ I h3 ∧ Q y) → acc.length + ds.length ≤ sizeLine →
    ∃ ys h', compL t bYes elt menv ds h acc = some (acc ++ ys, h') ∧ I h' ∧ ys.length = ds.length ∧ ∀ y ∈ ys, Q y
  | [], acc, h, i0, _, _ => ⟨[], h, by simp [compL], i0, by simp, by simp⟩
  | d :: ds, acc, h, i0, hh, hl => by
    obtain ⟨e1, g1, y, e3, h3, g4, i3, q⟩ := hh d (by simp) h i0
    rw [List.length_cons] at hl
    unfold compL
    rw [g1]
    show ∃ ys h', (if true = true then (match elt e1 h with
          | .ok y _ h3 => if acc.length < sizeLine then compL t bYes elt menv ds h3 (acc ++ [y]) else none
          | _ => none) else compL t bYes elt menv ds h acc) = _ ∧ _
    rw [if_pos rfl, g4]
    simp only
    rw [if_pos (by omega)]
    obtain ⟨ys, h', r1, r2, r3, r4⟩ := compL_all ds (acc ++ [y]) h3 i3 (fun d' m => hh d' (by simp [m])) (by simp; omega)
    exact ⟨y :: ys, h', by rw [r1]; simp, r2, by simp; omega, fun z m => by
      rcases List.mem_cons.mp m with rfl | m
      · exact q
      · exact r4 z m⟩
/-- two clauses that change nothing -/
theorem compL2_ok {t : Tg} {mi1 : MI} {t1 : Tg} {elt : MV} {vs1 : List Nat} {menv : Ev} {h : MH} {f : D → List D} {n : Nat} : ∀ (ds acc : List D), (∀ d ∈ ds, ∃ e1 ds1 e3, t d menv = some e1 ∧ mi1 e1 h = .ok ds1 e3 h ∧ ds1.length ≤ n ∧ compL t1 bYes elt (unE vs1 (e3.map maskS)) ds1 h [] = some (f d, h) ∧ (f d).length ≤ n ∧
      ∀ acc, acc.length + ds1.length ≤ sizeLine → compL t1 bYes elt (unE vs1 (e3.map maskS)) ds1 h acc = some (acc ++ f d, h)) → acc.length + ds.length * n ≤ sizeLine →
    compL2 t bYes mi1 t1 bYes elt vs1 menv ds h acc = some (acc ++ ds.flatMap f, h)
  | [], acc, _, _ => by simp [compL2]
  | d :: ds, acc, hh, hl => by
    obtain ⟨e1, ds1, e3, h1, h2, h3, h4, h5, h6⟩ := hh d (by simp)
    have e0 : (ds.length + 1) * n = ds.length * n + n := by rw [Nat.add_mul, Nat.one_mul]
    rw [List.length_cons, e0] at hl
    unfold compL2
    rw [h1]
    show (if true = true then (match mi1 e1 h with
          | .ok ds1 e3 h3 => (match compL t1 bYes elt (unE vs1 (e3.map maskS)) ds1 h3 acc with
              | some (acc', h') => compL2 t bYes mi1 t1 bYes elt vs1 menv ds h' acc'
              | none => none)
          | _ => none) else compL2 t bYes mi1 t1 bYes elt vs1 menv ds h acc) = _
    rw [if_pos rfl, h2]
    simp only
    rw [h6 acc (by omega)]
    simp only
    rw [compL2_ok ds _ (fun d' m => hh d' (by simp [m])) (by simp; omega)]
    simp
/-! ## loops -/
/-- a for by an invariant of slots and shared lists -/
theorem for_inv {t : Tg} {mb : MS} {J : Nat → Ev → MH → Prop} {B : Ev → MH → Prop} {C : R → Ev → MH → Prop} : ∀ (ds : List D) (k : Nat) (env : Ev) (h : MH), J k env h → (∀ i d env h, ds[i]? = some d → J (k + i) env h → ∃ e1, t d env = some e1 ∧ match mb e1 h with
      | .nx e h => J (k + i + 1) e h
      | .ct e h => J (k + i + 1) e h
      | .bk e h => B e h
      | .rt r e h => C r e h
      | _ => False) →
    match sForL t mb ds env h with
      | .nx e h => J (k + ds.length) e h ∨ B e h
      | .rt r e h => C r e h
      | _ => False
  | [], k, env, h, j, _ => .inl j
  | d :: ds, k, env, h, j, hh => by
    obtain ⟨e1, h1, h2⟩ := hh 0 d env h rfl j
    unfold sForL
    rw [h1]
    simp only
    have step : ∀ e h, J (k + 0 + 1) e h → match sForL t mb ds e h with
      | .nx e h => J (k + (d :: ds).length) e h ∨ B e h
      | .rt r e h => C r e h
      | _ => False := fun e h j' => by
      have := for_inv (J := J) (B := B) (C := C) ds (k + 1) e h j' (fun i d' env h e j => by
        have := hh (i + 1) d' env h (by simpa using e) (by rw [show k + (i + 1) = k + 1 + i by omega]; exact j)
        rw [show k + (i + 1) = k + 1 + i by omega] at this
        exact this)
      rw [List.length_cons, show k + (ds.length + 1) = k + 1 + ds.length by omega]
      exact this
    cases e : mb e1 h with
    | nx e h => rw [e] at h2; exact step _ _ h2
    | ct e h => rw [e] at h2; exact step _ _ h2
    | bk e h => rw [e] at h2; exact .inr h2
    | rt r e h => rw [e] at h2; exact h2
    | err x e h => rw [e] at h2; exact h2.elim
    | no => rw [e] at h2; exact h2.elim
end Mi
set_option Elab.async false
set_option linter.all false
set_option maxRecDepth 100000
open PySem PySem.Spec PyProof.Rows L2
namespace Mi
/-! ## == of nested data -/
mutual
def dOk : D → Bool
  | .non => true
  | .int _ => true
  | .str s => s.all (· < 0x110000)
  | .tup ds => dOks ds
  | .lst ds => dOks ds
  | _ => false
def dOks : List D → Bool
  | [] => true
  | d :: ds => dOk d && dOks ds
end
mutual
def dDep : D → Nat
  | .tup ds => dDeps ds + 1
  | .lst ds => dDeps ds + 1
  | _ => 0
def dDeps : List D → Nat
  | [] => 0
  | d :: ds => max (dDep d) (dDeps ds)
end
mutual
theorem toPy_ok : ∀ (d : D), dOk d = true → ∃ p, toPy d = some p ∧ p.canLay0 = true ∧ p.depth = dDep d
  | .non, _ => ⟨_, rfl, by simp [PyData.canLay0], by simp [PyData.depth, dDep]⟩
  | .int _, _ => ⟨_, rfl, by simp [PyData.canLay0], by simp [PyData.depth, dDep]⟩
  | .str s, h => ⟨_, rfl, by simpa [PyData.canLay0, PyData.strOk, S, dOk] using h, by simp [PyData.depth, dDep]⟩
  | .tup ds, h => by
    obtain ⟨ps, h1, h2, h3⟩ := toPys_ok ds (by simpa [dOk] using h)
    exact ⟨.tuple ps, by simp [toPy, h1], by simpa [PyData.canLay0] using h2, by simp [PyData.depth, dDep, h3]⟩
  | .lst ds, h => by
    obtain ⟨ps, h1, h2, h3⟩ := toPys_ok ds (by simpa [dOk] using h)
    exact ⟨.list ps, by simp [toPy, h1], by simpa [PyData.canLay0] using h2, by simp [PyData.depth, dDep, h3]⟩
  | .bl _, h => by simp [dOk] at h
  | .loc _, h => by simp [dOk] at h
  | .dct _ _, h => by simp [dOk] at h
theorem toPys_ok : ∀ (ds : List D), dOks ds = true → ∃ ps, toPys ds = some ps ∧ PyData.canLayAll0 ps = true ∧ PyData.depthAll ps = dDeps ds
  | [], _ => ⟨[], by simp [toPys], by simp [PyData.canLayAll0], by simp [PyData.depthAll, dDeps]⟩
  | d :: ds, h => by
    simp only [dOks, Bool.and_eq_true] at h
    obtain ⟨p, h1, h2, h3⟩ := toPy_ok d h.1
    obtain ⟨ps, g1, g2, g3⟩ := toPys_ok ds h.2
    exact ⟨p :: ps, by simp [toPys, h1, g1], by simp [PyData.canLayAll0, h2, g2], by simp [PyData.depthAll, dDeps, h3, g3]⟩
end
mutual
theorem eqv_iff : ∀ (x y : D) (p q : PyData), dOk x = true → dOk y = true → toPy x = some p → toPy y = some q → (PyData.eqv p q = true ↔ x = y)
  | .non, y, p, q, hx, hy, ex, ey => by
    cases y <;> simp [dOk, toPy] at hx hy ex ey
    all_goals (try obtain ⟨_, _, ey⟩ := ey)
    all_goals (subst ex; (try subst ey); simp [PyData.eqv])
  | .int i, y, p, q, hx, hy, ex, ey => by
    cases y <;> simp [dOk, toPy] at hx hy ex ey
    all_goals (try obtain ⟨_, _, ey⟩ := ey)
    all_goals (subst ex; (try subst ey); simp [PyData.eqv])
  | .str s, y, p, q, hx, hy, ex, ey => by
    cases y <;> simp [dOk, toPy] at hx hy ex ey
    all_goals (try obtain ⟨_, _, ey⟩ := ey)
    all_goals (subst ex; (try subst ey); simp [PyData.eqv])
    exact ⟨fun h => S_inj h, fun h => by rw [h]⟩
  | .tup ds, y, p, q, hx, hy, ex, ey => by
    simp only [dOk] at hx
    simp only [toPy, Option.map_eq_some_iff] at ex
    obtain ⟨ps, e1, rfl⟩ := ex
    cases y with
    | tup es =>
      simp only [dOk] at hy
      simp only [toPy, Option.map_eq_some_iff] at ey
      obtain ⟨qs, e2, rfl⟩ := ey
      simp only [PyData.eqv, D.tup.injEq]
      exact eqvs_iff ds es ps qs hx hy e1 e2
    | lst es =>
      simp only [toPy, Option.map_eq_some_iff] at ey
      obtain ⟨qs, e2, rfl⟩ := ey
      simp [PyData.eqv]
    | _ => simp [dOk, toPy] at hy ey <;> (try subst ey) <;> simp [PyData.eqv]
  | .lst ds, y, p, q, hx, hy, ex, ey => by
    simp only [dOk] at hx
    simp only [toPy, Option.map_eq_some_iff] at ex
    obtain ⟨ps, e1, rfl⟩ := ex
    cases y with
    | lst es =>
      simp only [dOk] at hy
      simp only [toPy, Option.map_eq_some_iff] at ey
      obtain ⟨qs, e2, rfl⟩ := ey
      simp only [PyData.eqv, D.lst.injEq]
      exact eqvs_iff ds es ps qs hx hy e1 e2
    | tup es =>
      simp only [toPy, Option.map_eq_some_iff] at ey
      obtain ⟨qs, e2, rfl⟩ := ey
      simp [PyData.eqv]
    | _ => simp [dOk, toPy] at hy ey <;> (try subst ey) <;> simp [PyData.eqv]
  | .bl _, _, _, _, h, _, _, _ => by simp [dOk] at h
  | .loc _, _, _, _, h, _, _, _ => by simp [dOk] at h
  | .dct _ _, _, _, _, h, _, _, _ => by simp [dOk] at h
theorem eqvs_iff : ∀ (xs ys : List D) (ps qs : List PyData), dOks xs = true → dOks ys = true → toPys xs = some ps → toPys ys = some qs → (PyData.eqvAll ps qs = true ↔ xs = ys)
  | [], ys, ps, qs, hx, hy, ex, ey => by
    simp [toPys] at ex
    subst ex
    cases ys with
    | nil => simp [toPys] at ey; subst ey; simp [PyData.eqvAll]
    | cons y ys =>
      simp only [toPys] at ey
      split at ey
      · cases ey; simp [PyData.eqvAll]
      · cases ey
  | x :: xs, ys, ps, qs, hx, hy, ex, ey => by
    simp only [dOks, Bool.and_eq_true] at hx
    simp only [toPys] at ex
    cases e1 : toPy x with
    | none => rw [e1] at ex; cases ex
    | some p =>
      cases e2 : toPys xs with
      | none => rw [e1, e2] at ex; cases ex
      | some ps' =>
        rw [e1, e2] at ex; cases ex
        cases ys with
        | nil => simp [toPys] at ey; subst ey; simp [PyData.eqvAll]
        | cons y ys =>
          simp only [dOks, Bool.and_eq_true] at hy
          simp only [toPys] at ey
          cases e3 : toPy y with
          | none => rw [e3] at ey; cases ey
          | some q =>
            cases e4 : toPys ys with
            | none => rw [e3, e4] at ey; cases ey
            | some qs' =>
              rw [e3, e4] at ey; cases ey
              simp only [PyData.eqvAll, Bool.and_eq_true, List.cons.injEq]
              rw [eqv_iff x y p q hx.1 hy.1 e1 e3, eqvs_iff xs ys ps' qs' hx.2 hy.2 e2 e4]
end
theorem eqD_deep {x y : D} (hx : dOk x = true) (hy : dOk y = true) (kx : dDep x ≤ 64) (ky : dDep y ≤ 64) : ∃ b, eqD x y = some b ∧ (b = true ↔ x = y) := by
  obtain ⟨p, p1, p2, p3⟩ := toPy_ok x hx
  obtain ⟨q, q1, q2, q3⟩ := toPy_ok y hy
  have s1 : SeqAt.shaped p = true := by unfold SeqAt.shaped; rw [p2, p3]; simpa using kx
  have s2 : SeqAt.shaped q = true := by unfold SeqAt.shaped; rw [q2, q3]; simpa using ky
  have gen : ∃ b, (match toPy x, toPy y with
    | some a, some b => if SeqAt.shaped a = true ∧ SeqAt.shaped b = true then some (PyData.eqv a b) else none
    | _, _ => none) = some b ∧ (b = true ↔ x = y) := ⟨PyData.eqv p q, by rw [p1, q1]; simp [s1, s2], eqv_iff x y p q hx hy p1 q1⟩
  unfold eqD
  split
  all_goals first
    | exact gen
    | exact ⟨_, rfl, by simp⟩
theorem eqD_refl {x : D} (hx : dOk x = true) (kx : dDep x ≤ 64) : eqD x x = some true := by
  obtain ⟨b, h1, h2⟩ := eqD_deep hx hx kx kx
  rw [h1, h2.mpr rfl]
theorem dOks_all : ∀ {ds : List D}, (∀ d ∈ ds, dOk d = true) → dOks ds = true
  | [], _ => rfl
  | d :: ds, h => by
    simp only [dOks, Bool.and_eq_true]
    exact ⟨h d (by simp), dOks_all fun e m => h e (by simp [m])⟩
theorem dDeps_le {n : Nat} : ∀ {ds : List D}, (∀ d ∈ ds, dDep d ≤ n) → dDeps ds ≤ n
  | [], _ => Nat.zero_le _
  | d :: ds, h => by
    simp only [dDeps]
    have h1 := h d (by simp)
    have h2 := dDeps_le (ds := ds) (n := n) fun e m => h e (by simp [m])
    omega
/-! ## texts of words -/
abbrev jn (c : Nat) (l : List (List Nat)) : List Nat := TL.joinL [c] l
theorem jn_one (c : Nat) (a : List Nat) : jn c [a] = a := by simp [jn, TL.joinL]
theorem jn_cons (c : Nat) (a b : List Nat) (l : List (List Nat)) : jn c (a :: b :: l) = a ++ (c :: jn c (b :: l)) := by simp [jn, TL.joinL]
theorem jn_app (c : Nat) : ∀ (a b : List (List Nat)), a ≠ [] → b ≠ [] → jn c (a ++ b) = jn c a ++ (c :: jn c b)
  | [], _, h, _ => absurd rfl h
  | [x], b, _, hb => by
    cases b with
    | nil => exact absurd rfl hb
    | cons y b => rw [jn_one]; exact jn_cons c x y b
  | x :: y :: a, b, _, hb => by
    have := jn_app c (y :: a) b (by simp) hb
    rw [List.cons_append, List.cons_append] at *
    rw [jn_cons, jn_cons, this]
    simp
theorem jn_split {c : Nat} {l : List (List Nat)} (hn : l ≠ []) (h : ∀ p ∈ l, c ∉ p) : splitL [c] (jn c l) = l := TL.spl_join hn h
/-- a text of texts is the text of all words -/
theorem jn_jn (c : Nat) (a : List (List Nat)) : ∀ (bs : List (List (List Nat))), (∀ b ∈ bs, b ≠ []) → a ≠ [] → jn c (a ++ bs.map (jn c)) = jn c (a ++ bs.flatten)
  | [], _, _ => by simp
  | b :: bs, hb, ha => by
    have h1 := jn_jn c b bs (fun x m => hb x (by simp [m])) (hb b (by simp))
    have hbn := hb b (by simp)
    rw [List.map_cons, List.flatten_cons, jn_app c a _ ha (by simp), jn_app c a _ ha (by simp [hbn]), ← h1]
    cases bs with
    | nil => simp [jn_one]
    | cons x bs =>
      rw [List.map_cons, jn_cons, jn_app c b (jn c x :: bs.map (jn c)) hbn (by simp)]
theorem jn_len (c : Nat) : ∀ (l : List (List Nat)), (jn c l).length + 1 ≤ (l.map List.length).sum + l.length + 1
  | [] => by simp [jn, TL.joinL]
  | [a] => by simp [jn_one]
  | a :: b :: l => by
    have := jn_len c (b :: l)
    rw [jn_cons]
    simp only [List.length_append, List.length_cons, List.map_cons, List.sum_cons] at *
    omega
end Mi
set_option Elab.async false
set_option linter.all false
set_option maxRecDepth 100000
set_option maxHeartbeats 4000000
open PySem PySem.Spec PyProof.Rows L2
namespace Mi
def rF : Nat := 64
def topS (i : Nat) : Stmt := PySem.Challenge.pw_handcarried_k04_rule_words.main.body.getD i (.Pass ⟨0, 0, 0, 0⟩)
def c_DIGITS : D := (D.str [48, 49, 50, 51, 52, 53, 54, 55, 56, 57])
def c_SIGNS : D := (D.str [48, 49, 50, 51, 52, 53, 54, 55, 56, 57, 65, 66, 67, 68, 69, 70, 71, 72, 73, 74, 75, 76, 77, 78, 79, 80, 81, 82, 83, 84, 85, 86, 87, 88, 89, 90])
def c_RANGES : D := (D.dct [[109, 111, 100, 117, 108, 117, 115], [103, 111, 97, 108], [101, 110, 100], [108, 101, 97, 115, 116], [112, 114, 105, 99, 101], [109, 97, 110, 121], [110, 117, 109, 98, 101, 114]] [(D.tup [(D.int 2), (D.int 60)]), (D.tup [(D.int 0), (D.int 59)]), (D.tup [(D.int 0), (D.int 3)]), (D.tup [(D.int 0), (D.int 12)]), (D.tup [(D.int 1), (D.int 9)]), (D.tup [(D.int 1), (D.int 20)]), (D.tup [(D.int 0), (D.int 10)])])
def c_INNER : D := (D.dct [[102, 97, 99, 101, 115], [98, 97, 99, 107], [99, 117, 116], [98, 111, 116, 104], [101, 105, 116, 104, 101, 114], [110, 111, 116], [115, 117, 109], [115, 113, 117, 97, 114, 101], [97, 110, 121]] [(D.int 1), (D.int 1), (D.int 1), (D.int 2), (D.int 2), (D.int 1), (D.int 0), (D.int 0), (D.int 0)])
def c_RULE_KINDS : D := (D.dct [[115, 117, 109], [115, 113, 117, 97, 114, 101], [102, 97, 99, 101, 115], [98, 97, 99, 107], [99, 117, 116], [98, 111, 116, 104], [101, 105, 116, 104, 101, 114], [110, 111, 116], [97, 110, 121]] [(D.tup [(D.str [109, 111, 100, 117, 108, 117, 115]), (D.str [119, 101, 105, 103, 104, 116, 115]), (D.str [103, 111, 97, 108])]), (D.tup [(D.str [114, 111, 119, 115]), (D.str [103, 111, 97, 108, 115])]), (D.tup [(D.str [102, 97, 99, 101, 115])]), (D.tup []), (D.tup [(D.str [101, 110, 100]), (D.str [101, 110, 100])]), (D.tup []), (D.tup []), (D.tup []), (D.tup [])])
def c_MOST_RULES : D := (D.int 40)
section
variable {P : Program} {w : World} {K : PySem.W.Frag} {mg : Str → Option Value} {base : Heap}
/-! ### made_of -/
abbrev s_made_of : Stmt := topS 10
theorem sc_made_of : FnScope ["thing", "signs", "low", "high", "sign"] ["thing", "signs", "low", "high"] (defScope s_made_of) := ⟨rfl, rfl, rfl, by decide +kernel, rfl, by decide +kernel, by decide +kernel⟩
theorem bn_made_of (kV doc pm : Value) (an : Option Addr) (cdv ct : Value) (us : List Value) (hl : us.length = (["thing", "signs", "low", "high"] : List Str).length) : bindArgs (PySem.W.fnOf "made_of" "made_of" (defArgs s_made_of) (defBody s_made_of) (defScope s_made_of) .none kV doc pm an cdv ct) ⟨us, []⟩ = pure ((["thing", "signs", "low", "high"] : List Str).zip us) :=
  match us, hl with | [_, _, _, _], _ => rfl
def b_made_of : MS := (sSeq (sIf (bOr (bNot (bTru (fz (eIsi "str" (fz (eVar 0)))))) (bNot (toB (eChain leO leO (fz (eVar 2)) (fz (eLenV 0 lenO)) (fz (eVar 3)))))) (sSeq (sRet (eC (D.bl false))) sNil) sNil) (sSeq (sRet (eCallB allO (aCons (fz (eComp [1] (tN 4) (iOf (fz (eVar 0))) bYes (fz (eOp2 inO (fz (eVar 4)) (fz (eVar 1)))))) aNil))) sNil))
def m_made_of : MF := runF 5 b_made_of
theorem ok_made_of {k : Nat} (df : Df K mg "made_of" s_made_of ["thing", "signs", "low", "high"]) (n_all : mg "all" = none) (n_len : mg "len" = none) (n_isinstance : mg "isinstance" = none) (n_str : mg "str" = none) : FnM P w K mg base (k + 1) "made_of" 4 m_made_of := by
  refine fnM_ok (mb := b_made_of) df sc_made_of ?_ rfl rfl
  unfold b_made_of
  refine sss_cons (h1 := ?g1) (h2 := ?g2)
  case g1 =>
    refine ss_if (hc := ?g3) (ha := ?g4) (hb := sss_nil)
    case g3 =>
      refine sb_w (hw := ?g5)
      refine sw_or (ha := ?g6) (hb := ?g7)
      case g6 =>
        refine sb_not (ha := ?g8)
        refine sb_tru (ha := ?g9)
        refine SE.sv (s := ?g10)
        refine se_isi (hmi := n_isinstance) (hm := n_str) (ha := (SE.sv (s := se_var)))
      case g7 =>
        refine sw_one (ha := ?g11)
        refine sb_not (ha := ?g12)
        refine sb_chain (ho := ok_le) (ho' := ok_le) (ha := (SE.sv (s := se_var))) (hb := (SE.sv (s := (se_lenv (hc := ok_len) (hm := n_len))))) (hc := (SE.sv (s := se_var)))
    case g4 =>
      refine sss_cons (h1 := (ss_ret (he := se_bl))) (h2 := sss_nil)
  case g2 =>
    refine sss_cons (h1 := ?g13) (h2 := sss_nil)
    refine ss_ret (he := ?g14)
    refine se_callB (hc := ok_all) (hm := n_all) (ha := ?g15)
    refine sa_cons (ha := ?g16) (hr := sa_nil)
    refine SE.sv (s := ?g17)
    refine se_comp (own := [("sign", 4)]) (cap := [1]) (tvs := [4]) (hi := ?g18) (hg := sg_name) (hc := sbs_nil) (he := ?g19)
    case g18 =>
      refine si_val (he := (SE.sv (s := se_var)))
    case g19 =>
      refine SE.sv (s := ?g20)
      refine se_cmp (ho := ok_in) (ha := (SE.sv (s := se_var))) (hb := (SE.sv (s := se_var)))

/-! ### words_of -/
abbrev s_words_of : Stmt := topS 17
theorem sc_words_of : FnScope ["line", "number"] ["line", "number"] (defScope s_words_of) := ⟨rfl, rfl, rfl, by decide +kernel, rfl, by decide +kernel, by decide +kernel⟩
theorem bn_words_of (kV doc pm : Value) (an : Option Addr) (cdv ct : Value) (us : List Value) (hl : us.length = (["line", "number"] : List Str).length) : bindArgs (PySem.W.fnOf "words_of" "words_of" (defArgs s_words_of) (defBody s_words_of) (defScope s_words_of) .none kV doc pm an cdv ct) ⟨us, []⟩ = pure ((["line", "number"] : List Str).zip us) :=
  match us, hl with | [_, _], _ => rfl
def b_words_of : MS := (sSeq (sIf (bNot (bTru (fz (eIsi "str" (fz (eVar 0)))))) (sSeq sNo sNil) sNil) (sSeq (sRet (eMtS splitO (fz (eVar 0)) (aCons (fz (eC (D.str [32]))) aNil))) sNil))
def m_words_of : MF := runF 2 b_words_of
theorem ok_words_of {k : Nat} (df : Df K mg "words_of" s_words_of ["line", "number"]) (n_isinstance : mg "isinstance" = none) (n_str : mg "str" = none) : FnM P w K mg base (k + 1) "words_of" 2 m_words_of := by
  refine fnM_ok (mb := b_words_of) df sc_words_of ?_ rfl rfl
  unfold b_words_of
  refine sss_cons (h1 := ?g1) (h2 := ?g2)
  case g1 =>
    refine ss_if (hc := ?g3) (ha := ?g4) (hb := sss_nil)
    case g3 =>
      refine sb_not (ha := ?g5)
      refine sb_tru (ha := ?g6)
      refine SE.sv (s := ?g7)
      refine se_isi (hmi := n_isinstance) (hm := n_str) (ha := (SE.sv (s := se_var)))
    case g4 =>
      refine sss_cons (h1 := ss_no) (h2 := sss_nil)
  case g2 =>
    refine sss_cons (h1 := ?g8) (h2 := sss_nil)
    refine ss_ret (he := ?g9)
    refine se_mtS (slot := PySem.F.slot_str_split) (hty := PySem.F.type_str_split) (hm := ok_split) (ho := (SE.sv (s := se_var))) (ha := ?g10)
    refine sa_cons (ha := (SE.sv (s := se_str))) (hr := sa_nil)

/-! ### word_at -/
abbrev s_word_at : Stmt := topS 18
theorem sc_word_at : FnScope ["words", "place", "number"] ["words", "place", "number"] (defScope s_word_at) := ⟨rfl, rfl, rfl, by decide +kernel, rfl, by decide +kernel, by decide +kernel⟩
theorem bn_word_at (kV doc pm : Value) (an : Option Addr) (cdv ct : Value) (us : List Value) (hl : us.length = (["words", "place", "number"] : List Str).length) : bindArgs (PySem.W.fnOf "word_at" "word_at" (defArgs s_word_at) (defBody s_word_at) (defScope s_word_at) .none kV doc pm an cdv ct) ⟨us, []⟩ = pure ((["words", "place", "number"] : List Str).zip us) :=
  match us, hl with | [_, _, _], _ => rfl
def b_word_at : MS := (sSeq (sIf (toB (eOp2 geO (fz (eVar 1)) (fz (eLenV 0 lenO)))) (sSeq sNo sNil) sNil) (sSeq (sRet (eIxV 0 ixO (fz (eVar 1)))) sNil))
def m_word_at : MF := runF 3 b_word_at
theorem ok_word_at {k : Nat} (df : Df K mg "word_at" s_word_at ["words", "place", "number"]) (n_len : mg "len" = none) : FnM P w K mg base (k + 1) "word_at" 3 m_word_at := by
  refine fnM_ok (mb := b_word_at) df sc_word_at ?_ rfl rfl
  unfold b_word_at
  refine sss_cons (h1 := ?g1) (h2 := ?g2)
  case g1 =>
    refine ss_if (hc := ?g3) (ha := ?g4) (hb := sss_nil)
    case g3 =>
      refine sb_cmp (ho := ok_ge) (ha := (SE.sv (s := se_var))) (hb := (SE.sv (s := (se_lenv (hc := ok_len) (hm := n_len)))))
    case g4 =>
      refine sss_cons (h1 := ss_no) (h2 := sss_nil)
  case g2 =>
    refine sss_cons (h1 := ?g5) (h2 := sss_nil)
    refine ss_ret (he := ?g6)
    refine se_ixv (hi := ok_ix) (hb := (SE.sv (s := se_var)))

/-! ### check_end -/
abbrev s_check_end : Stmt := topS 19
theorem sc_check_end : FnScope ["words", "place", "number"] ["words", "place", "number"] (defScope s_check_end) := ⟨rfl, rfl, rfl, by decide +kernel, rfl, by decide +kernel, by decide +kernel⟩
theorem bn_check_end (kV doc pm : Value) (an : Option Addr) (cdv ct : Value) (us : List Value) (hl : us.length = (["words", "place", "number"] : List Str).length) : bindArgs (PySem.W.fnOf "check_end" "check_end" (defArgs s_check_end) (defBody s_check_end) (defScope s_check_end) .none kV doc pm an cdv ct) ⟨us, []⟩ = pure ((["words", "place", "number"] : List Str).zip us) :=
  match us, hl with | [_, _, _], _ => rfl
def b_check_end : MS := (sSeq (sIf (toB (eOp2 ltO (fz (eVar 1)) (fz (eLenV 0 lenO)))) (sSeq sNo sNil) sNil) sNil)
def m_check_end : MF := runF 3 b_check_end
theorem ok_check_end {k : Nat} (df : Df K mg "check_end" s_check_end ["words", "place", "number"]) (n_len : mg "len" = none) : FnM P w K mg base (k + 1) "check_end" 3 m_check_end := by
  refine fnM_ok (mb := b_check_end) df sc_check_end ?_ rfl rfl
  unfold b_check_end
  refine sss_cons (h1 := ?g1) (h2 := sss_nil)
  refine ss_if (hc := ?g2) (ha := ?g3) (hb := sss_nil)
  case g2 =>
    refine sb_cmp (ho := ok_lt) (ha := (SE.sv (s := se_var))) (hb := (SE.sv (s := (se_lenv (hc := ok_len) (hm := n_len)))))
  case g3 =>
    refine sss_cons (h1 := ss_no) (h2 := sss_nil)

/-! ### numeral -/
abbrev s_numeral : Stmt := topS 20
theorem sc_numeral : FnScope ["word", "low", "high", "told"] ["word", "low", "high"] (defScope s_numeral) := ⟨rfl, rfl, rfl, by decide +kernel, rfl, by decide +kernel, by decide +kernel⟩
theorem bn_numeral (kV doc pm : Value) (an : Option Addr) (cdv ct : Value) (us : List Value) (hl : us.length = (["word", "low", "high"] : List Str).length) : bindArgs (PySem.W.fnOf "numeral" "numeral" (defArgs s_numeral) (defBody s_numeral) (defScope s_numeral) .none kV doc pm an cdv ct) ⟨us, []⟩ = pure ((["word", "low", "high"] : List Str).zip us) :=
  match us, hl with | [_, _, _], _ => rfl
def b_numeral : MS := (sSeq (sIf (bOr (bNot (bTru (fz (eCall m_made_of (aCons (fz (eVar 0)) (aCons (fz (eC c_DIGITS)) (aCons (fz (eC (D.int 1))) (aCons (fz (eC (D.int 2))) aNil)))))))) (bAnd (toB (eOp2 gtO (fz (eLenV 0 lenO)) (fz (eC (D.int 1))))) (toB (eOp2 eqO (fz (eIxV 0 ixO (fz (eC (D.int 0))))) (fz (eC (D.str [48]))))))) (sSeq (sRet (eLst aNil)) sNil) sNil) (sSeq (sSet 3 (eCallB intO (aCons (fz (eVar 0)) aNil))) (sSeq (sRet (eIf (toB (eChain leO leO (fz (eVar 1)) (fz (eVar 3)) (fz (eVar 2)))) (eLst (aCons (fz (eVar 3)) aNil)) (eLst aNil))) sNil)))
def m_numeral : MF := runF 4 b_numeral
theorem ok_numeral {k : Nat} (df : Df K mg "numeral" s_numeral ["word", "low", "high"]) (f_made_of : FnM P w K mg base k "made_of" 4 m_made_of) (c_DIGITS_ok : Cst K w mg "DIGITS" c_DIGITS) (n_int : mg "int" = none) (n_len : mg "len" = none) : FnM P w K mg base (k + 1) "numeral" 3 m_numeral := by
  refine fnM_ok (mb := b_numeral) df sc_numeral ?_ rfl rfl
  unfold b_numeral
  refine sss_cons (h1 := ?g1) (h2 := ?g2)
  case g1 =>
    refine ss_if (hc := ?g3) (ha := ?g4) (hb := sss_nil)
    case g3 =>
      refine sb_w (hw := ?g5)
      refine sw_or (ha := ?g6) (hb := ?g7)
      case g6 =>
        refine sb_not (ha := ?g8)
        refine sb_tru (ha := ?g9)
        refine SE.sv (s := ?g10)
        refine se_call (hf := f_made_of) (ha := ?g11)
        refine sa_cons (ha := (SE.sv (s := se_var))) (hr := ?g12)
        refine sa_cons (ha := (SE.sv (s := (se_cst c_DIGITS_ok)))) (hr := ?g13)
        refine sa_cons (ha := (SE.sv (s := se_int))) (hr := ?g14)
        refine sa_cons (ha := (SE.sv (s := se_int))) (hr := sa_nil)
      case g7 =>
        refine sw_one (ha := ?g15)
        refine sb_w (hw := ?g16)
        refine sw_and (ha := ?g17) (hb := ?g18)
        case g17 =>
          refine sb_cmp (ho := ok_gt) (ha := (SE.sv (s := (se_lenv (hc := ok_len) (hm := n_len))))) (hb := (SE.sv (s := se_int)))
        case g18 =>
          refine sw_one (ha := ?g19)
          refine sb_cmp (ho := ok_eq) (ha := ?g20) (hb := (SE.sv (s := se_str)))
          refine SE.sv (s := ?g21)
          refine se_ixv (hi := ok_ix) (hb := (SE.sv (s := se_int)))
    case g4 =>
      refine sss_cons (h1 := ?g22) (h2 := sss_nil)
      refine ss_ret (he := (se_lst (ha := sa_nil)))
  case g2 =>
    refine sss_cons (h1 := ?g23) (h2 := ?g24)
    case g23 =>
      refine ss_set (he := ?g25)
      refine se_callTy (hc := ok_int) (hm := n_int) (ha := ?g26)
      refine sa_cons (ha := (SE.sv (s := se_var))) (hr := sa_nil)
    case g24 =>
      refine sss_cons (h1 := ?g27) (h2 := sss_nil)
      refine ss_ret (he := ?g28)
      refine se_if (hc := ?g29) (ha := ?g30) (hb := (se_lst (ha := sa_nil)))
      case g29 =>
        refine sb_chain (ho := ok_le) (ho' := ok_le) (ha := (SE.sv (s := se_var))) (hb := (SE.sv (s := se_var))) (hc := (SE.sv (s := se_var)))
      case g30 =>
        refine se_lst (ha := ?g31)
        refine sa_cons (ha := (SE.sv (s := se_var))) (hr := sa_nil)

/-! ### numerals -/
abbrev s_numerals : Stmt := topS 21
theorem sc_numerals : FnScope ["word", "low", "high", "parts", "told", "part", "one"] ["word", "low", "high"] (defScope s_numerals) := ⟨rfl, rfl, rfl, by decide +kernel, rfl, by decide +kernel, by decide +kernel⟩
theorem bn_numerals (kV doc pm : Value) (an : Option Addr) (cdv ct : Value) (us : List Value) (hl : us.length = (["word", "low", "high"] : List Str).length) : bindArgs (PySem.W.fnOf "numerals" "numerals" (defArgs s_numerals) (defBody s_numerals) (defScope s_numerals) .none kV doc pm an cdv ct) ⟨us, []⟩ = pure ((["word", "low", "high"] : List Str).zip us) :=
  match us, hl with | [_, _, _], _ => rfl
def b_numerals : MS := (sSeq (sSet 3 (eMtS splitO (fz (eVar 0)) (aCons (fz (eC (D.str [44]))) aNil))) (sSeq (sSet 4 (eComp2 [] (tN 5) (iOf (fz (eVar 3))) bYes (iOf (fz (eCall m_numeral (aCons (fz (eVar 5)) (aCons (fz (eC (D.int 0))) (aCons (fz (eC (D.int 59))) aNil)))))) (tN 6) bYes (fz (eVar 6)) [6])) (sSeq (sRet (eIf (bAnd (toB (eOp2 eqO (fz (eLenV 4 lenO)) (fz (eLenV 3 lenO)))) (toB (eChain leO leO (fz (eVar 1)) (fz (eLenV 3 lenO)) (fz (eVar 2))))) (eLst (aCons (fz (eCallB tupleO (aCons (fz (eVar 4)) aNil))) aNil)) (eLst aNil))) sNil)))
def m_numerals : MF := runF 7 b_numerals
theorem ok_numerals {k : Nat} (df : Df K mg "numerals" s_numerals ["word", "low", "high"]) (f_numeral : FnM P w K mg base k "numeral" 3 m_numeral) (n_len : mg "len" = none) (n_tuple : mg "tuple" = none) : FnM P w K mg base (k + 1) "numerals" 3 m_numerals := by
  refine fnM_ok (mb := b_numerals) df sc_numerals ?_ rfl rfl
  unfold b_numerals
  refine sss_cons (h1 := ?g1) (h2 := ?g2)
  case g1 =>
    refine ss_set (he := ?g3)
    refine se_mtS (slot := PySem.F.slot_str_split) (hty := PySem.F.type_str_split) (hm := ok_split) (ho := (SE.sv (s := se_var))) (ha := ?g4)
    refine sa_cons (ha := (SE.sv (s := se_str))) (hr := sa_nil)
  case g2 =>
    refine sss_cons (h1 := ?g5) (h2 := ?g6)
    case g5 =>
      refine ss_setLc2 (own := [("part", 5), ("one", 6)]) (cap := []) (tvs := [5]) (tvs1 := [6]) (vs1 := [6]) (hi := ?g7) (hg := sg_name) (hc := sbs_nil) (hi1 := ?g8) (hg1 := sg_name) (hc1 := sbs_nil) (he := (SE.sv (s := se_var)))
      case g7 =>
        refine si_val (he := (SE.sv (s := se_var)))
      case g8 =>
        refine si_val (he := ?g9)
        refine SE.sv (s := ?g10)
        refine se_call (hf := f_numeral) (ha := ?g11)
        refine sa_cons (ha := (SE.sv (s := se_var))) (hr := ?g12)
        refine sa_cons (ha := (SE.sv (s := se_int))) (hr := ?g13)
        refine sa_cons (ha := (SE.sv (s := se_int))) (hr := sa_nil)
    case g6 =>
      refine sss_cons (h1 := ?g14) (h2 := sss_nil)
      refine ss_ret (he := ?g15)
      refine se_if (hc := ?g16) (ha := ?g17) (hb := (se_lst (ha := sa_nil)))
      case g16 =>
        refine sb_w (hw := ?g18)
        refine sw_and (ha := ?g19) (hb := ?g20)
        case g19 =>
          refine sb_cmp (ho := ok_eq) (ha := (SE.sv (s := (se_lenv (hc := ok_len) (hm := n_len))))) (hb := (SE.sv (s := (se_lenv (hc := ok_len) (hm := n_len)))))
        case g20 =>
          refine sw_one (ha := ?g21)
          refine sb_chain (ho := ok_le) (ho' := ok_le) (ha := (SE.sv (s := se_var))) (hb := (SE.sv (s := (se_lenv (hc := ok_len) (hm := n_len))))) (hc := (SE.sv (s := se_var)))
      case g17 =>
        refine se_lst (ha := ?g22)
        refine sa_cons (ha := ?g23) (hr := sa_nil)
        refine SE.sv (s := ?g24)
        refine se_callTy (hc := ok_tuple) (hm := n_tuple) (ha := ?g25)
        refine sa_cons (ha := (SE.sv (s := se_var))) (hr := sa_nil)

/-! ### row_lots -/
abbrev s_row_lots : Stmt := topS 22
theorem sc_row_lots : FnScope ["word", "parts", "told", "part", "row"] ["word"] (defScope s_row_lots) := ⟨rfl, rfl, rfl, by decide +kernel, rfl, by decide +kernel, by decide +kernel⟩
theorem bn_row_lots (kV doc pm : Value) (an : Option Addr) (cdv ct : Value) (us : List Value) (hl : us.length = (["word"] : List Str).length) : bindArgs (PySem.W.fnOf "row_lots" "row_lots" (defArgs s_row_lots) (defBody s_row_lots) (defScope s_row_lots) .none kV doc pm an cdv ct) ⟨us, []⟩ = pure ((["word"] : List Str).zip us) :=
  match us, hl with | [_], _ => rfl
def b_row_lots : MS := (sSeq (sSet 1 (eMtS splitO (fz (eVar 0)) (aCons (fz (eC (D.str [47]))) aNil))) (sSeq (sSet 2 (eComp2 [] (tN 3) (iOf (fz (eVar 1))) bYes (iOf (fz (eCall m_numerals (aCons (fz (eVar 3)) (aCons (fz (eC (D.int 2))) (aCons (fz (eC (D.int 12))) aNil)))))) (tN 4) bYes (fz (eVar 4)) [4])) (sSeq (sRet (eIf (bAnd (toB (eOp2 eqO (fz (eLenV 2 lenO)) (fz (eLenV 1 lenO)))) (toB (eOp2 leO (fz (eLenV 1 lenO)) (fz (eC (D.int 60)))))) (eLst (aCons (fz (eCallB tupleO (aCons (fz (eVar 2)) aNil))) aNil)) (eLst aNil))) sNil)))
def m_row_lots : MF := runF 5 b_row_lots
theorem ok_row_lots {k : Nat} (df : Df K mg "row_lots" s_row_lots ["word"]) (f_numerals : FnM P w K mg base k "numerals" 3 m_numerals) (n_len : mg "len" = none) (n_tuple : mg "tuple" = none) : FnM P w K mg base (k + 1) "row_lots" 1 m_row_lots := by
  refine fnM_ok (mb := b_row_lots) df sc_row_lots ?_ rfl rfl
  unfold b_row_lots
  refine sss_cons (h1 := ?g1) (h2 := ?g2)
  case g1 =>
    refine ss_set (he := ?g3)
    refine se_mtS (slot := PySem.F.slot_str_split) (hty := PySem.F.type_str_split) (hm := ok_split) (ho := (SE.sv (s := se_var))) (ha := ?g4)
    refine sa_cons (ha := (SE.sv (s := se_str))) (hr := sa_nil)
  case g2 =>
    refine sss_cons (h1 := ?g5) (h2 := ?g6)
    case g5 =>
      refine ss_setLc2 (own := [("part", 3), ("row", 4)]) (cap := []) (tvs := [3]) (tvs1 := [4]) (vs1 := [4]) (hi := ?g7) (hg := sg_name) (hc := sbs_nil) (hi1 := ?g8) (hg1 := sg_name) (hc1 := sbs_nil) (he := (SE.sv (s := se_var)))
      case g7 =>
        refine si_val (he := (SE.sv (s := se_var)))
      case g8 =>
        refine si_val (he := ?g9)
        refine SE.sv (s := ?g10)
        refine se_call (hf := f_numerals) (ha := ?g11)
        refine sa_cons (ha := (SE.sv (s := se_var))) (hr := ?g12)
        refine sa_cons (ha := (SE.sv (s := se_int))) (hr := ?g13)
        refine sa_cons (ha := (SE.sv (s := se_int))) (hr := sa_nil)
    case g6 =>
      refine sss_cons (h1 := ?g14) (h2 := sss_nil)
      refine ss_ret (he := ?g15)
      refine se_if (hc := ?g16) (ha := ?g17) (hb := (se_lst (ha := sa_nil)))
      case g16 =>
        refine sb_w (hw := ?g18)
        refine sw_and (ha := ?g19) (hb := ?g20)
        case g19 =>
          refine sb_cmp (ho := ok_eq) (ha := (SE.sv (s := (se_lenv (hc := ok_len) (hm := n_len))))) (hb := (SE.sv (s := (se_lenv (hc := ok_len) (hm := n_len)))))
        case g20 =>
          refine sw_one (ha := ?g21)
          refine sb_cmp (ho := ok_le) (ha := (SE.sv (s := (se_lenv (hc := ok_len) (hm := n_len))))) (hb := (SE.sv (s := se_int)))
      case g17 =>
        refine se_lst (ha := ?g22)
        refine sa_cons (ha := ?g23) (hr := sa_nil)
        refine SE.sv (s := ?g24)
        refine se_callTy (hc := ok_tuple) (hm := n_tuple) (ha := ?g25)
        refine sa_cons (ha := (SE.sv (s := se_var))) (hr := sa_nil)

/-! ### strings -/
abbrev s_strings : Stmt := topS 23
theorem sc_strings : FnScope ["word", "sizes", "low", "high", "parts", "good", "part"] ["word", "sizes", "low", "high"] (defScope s_strings) := ⟨rfl, rfl, rfl, by decide +kernel, rfl, by decide +kernel, by decide +kernel⟩
theorem bn_strings (kV doc pm : Value) (an : Option Addr) (cdv ct : Value) (us : List Value) (hl : us.length = (["word", "sizes", "low", "high"] : List Str).length) : bindArgs (PySem.W.fnOf "strings" "strings" (defArgs s_strings) (defBody s_strings) (defScope s_strings) .none kV doc pm an cdv ct) ⟨us, []⟩ = pure ((["word", "sizes", "low", "high"] : List Str).zip us) :=
  match us, hl with | [_, _, _, _], _ => rfl
def b_strings : MS := (sSeq (sSet 4 (eMtS splitO (fz (eVar 0)) (aCons (fz (eC (D.str [44]))) aNil))) (sSeq (sSet 5 (eComp [1] (tN 6) (iOf (fz (eVar 4))) (bTru (fz (eCall m_made_of (aCons (fz (eVar 6)) (aCons (fz (eC c_SIGNS)) (aCons (fz (eIxV 1 ixO (fz (eC (D.int 0))))) (aCons (fz (eIxV 1 ixO (fz (eC (D.int 1))))) aNil))))))) (fz (eVar 6)))) (sSeq (sRet (eIf (bAnd (toB (eOp2 eqO (fz (eLenV 5 lenO)) (fz (eLenV 4 lenO)))) (toB (eChain leO leO (fz (eVar 2)) (fz (eLenV 4 lenO)) (fz (eVar 3))))) (eLst (aCons (fz (eCallB tupleO (aCons (fz (eVar 4)) aNil))) aNil)) (eLst aNil))) sNil)))
def m_strings : MF := runF 7 b_strings
theorem ok_strings {k : Nat} (df : Df K mg "strings" s_strings ["word", "sizes", "low", "high"]) (f_made_of : FnM P w K mg base k "made_of" 4 m_made_of) (c_SIGNS_ok : Cst K w mg "SIGNS" c_SIGNS) (n_len : mg "len" = none) (n_tuple : mg "tuple" = none) : FnM P w K mg base (k + 1) "strings" 4 m_strings := by
  refine fnM_ok (mb := b_strings) df sc_strings ?_ rfl rfl
  unfold b_strings
  refine sss_cons (h1 := ?g1) (h2 := ?g2)
  case g1 =>
    refine ss_set (he := ?g3)
    refine se_mtS (slot := PySem.F.slot_str_split) (hty := PySem.F.type_str_split) (hm := ok_split) (ho := (SE.sv (s := se_var))) (ha := ?g4)
    refine sa_cons (ha := (SE.sv (s := se_str))) (hr := sa_nil)
  case g2 =>
    refine sss_cons (h1 := ?g5) (h2 := ?g6)
    case g5 =>
      refine ss_setLc (own := [("part", 6)]) (cap := [1]) (tvs := [6]) (hi := ?g7) (hg := sg_name) (hc := ?g8) (he := (SE.sv (s := se_var)))
      case g7 =>
        refine si_val (he := (SE.sv (s := se_var)))
      case g8 =>
        refine sbs_one (hc := ?g9)
        refine sb_tru (ha := ?g10)
        refine SE.sv (s := ?g11)
        refine se_call (hf := f_made_of) (ha := ?g12)
        refine sa_cons (ha := (SE.sv (s := se_var))) (hr := ?g13)
        refine sa_cons (ha := (SE.sv (s := (se_cst c_SIGNS_ok)))) (hr := ?g14)
        refine sa_cons (ha := ?g15) (hr := ?g16)
        case g15 =>
          refine SE.sv (s := ?g17)
          refine se_ixv (hi := ok_ix) (hb := (SE.sv (s := se_int)))
        case g16 =>
          refine sa_cons (ha := ?g18) (hr := sa_nil)
          refine SE.sv (s := ?g19)
          refine se_ixv (hi := ok_ix) (hb := (SE.sv (s := se_int)))
    case g6 =>
      refine sss_cons (h1 := ?g20) (h2 := sss_nil)
      refine ss_ret (he := ?g21)
      refine se_if (hc := ?g22) (ha := ?g23) (hb := (se_lst (ha := sa_nil)))
      case g22 =>
        refine sb_w (hw := ?g24)
        refine sw_and (ha := ?g25) (hb := ?g26)
        case g25 =>
          refine sb_cmp (ho := ok_eq) (ha := (SE.sv (s := (se_lenv (hc := ok_len) (hm := n_len))))) (hb := (SE.sv (s := (se_lenv (hc := ok_len) (hm := n_len)))))
        case g26 =>
          refine sw_one (ha := ?g27)
          refine sb_chain (ho := ok_le) (ho' := ok_le) (ha := (SE.sv (s := se_var))) (hb := (SE.sv (s := (se_lenv (hc := ok_len) (hm := n_len))))) (hc := (SE.sv (s := se_var)))
      case g23 =>
        refine se_lst (ha := ?g28)
        refine sa_cons (ha := ?g29) (hr := sa_nil)
        refine SE.sv (s := ?g30)
        refine se_callTy (hc := ok_tuple) (hm := n_tuple) (ha := ?g31)
        refine sa_cons (ha := (SE.sv (s := se_var))) (hr := sa_nil)

/-! ### list_told -/
abbrev s_list_told : Stmt := topS 25
theorem sc_list_told : FnScope ["kind", "word"] ["kind", "word"] (defScope s_list_told) := ⟨rfl, rfl, rfl, by decide +kernel, rfl, by decide +kernel, by decide +kernel⟩
theorem bn_list_told (kV doc pm : Value) (an : Option Addr) (cdv ct : Value) (us : List Value) (hl : us.length = (["kind", "word"] : List Str).length) : bindArgs (PySem.W.fnOf "list_told" "list_told" (defArgs s_list_told) (defBody s_list_told) (defScope s_list_told) .none kV doc pm an cdv ct) ⟨us, []⟩ = pure ((["kind", "word"] : List Str).zip us) :=
  match us, hl with | [_, _], _ => rfl
def b_list_told : MS := (sSeq (sIf (toB (eOp2 eqO (fz (eVar 0)) (fz (eC (D.str [119, 101, 105, 103, 104, 116, 115]))))) (sSeq (sRet (eCall m_numerals (aCons (fz (eVar 1)) (aCons (fz (eC (D.int 1))) (aCons (fz (eC (D.int 8))) aNil))))) sNil) sNil) (sSeq (sIf (toB (eOp2 eqO (fz (eVar 0)) (fz (eC (D.str [103, 111, 97, 108, 115]))))) (sSeq (sRet (eCall m_numerals (aCons (fz (eVar 1)) (aCons (fz (eC (D.int 1))) (aCons (fz (eC (D.int 60))) aNil))))) sNil) sNil) (sSeq (sIf (toB (eOp2 eqO (fz (eVar 0)) (fz (eC (D.str [114, 111, 119, 115]))))) (sSeq (sRet (eCall m_row_lots (aCons (fz (eVar 1)) aNil))) sNil) sNil) (sSeq (sIf (toB (eOp2 eqO (fz (eVar 0)) (fz (eC (D.str [102, 97, 99, 101, 115]))))) (sSeq (sRet (eCall m_strings (aCons (fz (eVar 1)) (aCons (fz (eTup (aCons (fz (eC (D.int 2))) (aCons (fz (eC (D.int 12))) aNil)))) (aCons (fz (eC (D.int 1))) (aCons (fz (eC (D.int 4))) aNil)))))) sNil) sNil) (sSeq (sIf (toB (eOp2 eqO (fz (eVar 0)) (fz (eC (D.str [119, 111, 114, 100, 115]))))) (sSeq (sRet (eCall m_strings (aCons (fz (eVar 1)) (aCons (fz (eTup (aCons (fz (eC (D.int 1))) (aCons (fz (eC (D.int 4))) aNil)))) (aCons (fz (eC (D.int 1))) (aCons (fz (eC (D.int 12))) aNil)))))) sNil) sNil) (sSeq (sRet (eCall m_strings (aCons (fz (eVar 1)) (aCons (fz (eTup (aCons (fz (eC (D.int 1))) (aCons (fz (eC (D.int 2))) aNil)))) (aCons (fz (eC (D.int 2))) (aCons (fz (eC (D.int 12))) aNil)))))) sNil))))))
def m_list_told : MF := runF 2 b_list_told
theorem ok_list_told {k : Nat} (df : Df K mg "list_told" s_list_told ["kind", "word"]) (f_strings : FnM P w K mg base k "strings" 4 m_strings) (f_row_lots : FnM P w K mg base k "row_lots" 1 m_row_lots) (f_numerals : FnM P w K mg base k "numerals" 3 m_numerals) : FnM P w K mg base (k + 1) "list_told" 2 m_list_told := by
  refine fnM_ok (mb := b_list_told) df sc_list_told ?_ rfl rfl
  unfold b_list_told
  refine sss_cons (h1 := ?g1) (h2 := ?g2)
  case g1 =>
    refine ss_if (hc := ?g3) (ha := ?g4) (hb := sss_nil)
    case g3 =>
      refine sb_cmp (ho := ok_eq) (ha := (SE.sv (s := se_var))) (hb := (SE.sv (s := se_str)))
    case g4 =>
      refine sss_cons (h1 := ?g5) (h2 := sss_nil)
      refine ss_ret (he := ?g6)
      refine se_call (hf := f_numerals) (ha := ?g7)
      refine sa_cons (ha := (SE.sv (s := se_var))) (hr := ?g8)
      refine sa_cons (ha := (SE.sv (s := se_int))) (hr := ?g9)
      refine sa_cons (ha := (SE.sv (s := se_int))) (hr := sa_nil)
  case g2 =>
    refine sss_cons (h1 := ?g10) (h2 := ?g11)
    case g10 =>
      refine ss_if (hc := ?g12) (ha := ?g13) (hb := sss_nil)
      case g12 =>
        refine sb_cmp (ho := ok_eq) (ha := (SE.sv (s := se_var))) (hb := (SE.sv (s := se_str)))
      case g13 =>
        refine sss_cons (h1 := ?g14) (h2 := sss_nil)
        refine ss_ret (he := ?g15)
        refine se_call (hf := f_numerals) (ha := ?g16)
        refine sa_cons (ha := (SE.sv (s := se_var))) (hr := ?g17)
        refine sa_cons (ha := (SE.sv (s := se_int))) (hr := ?g18)
        refine sa_cons (ha := (SE.sv (s := se_int))) (hr := sa_nil)
    case g11 =>
      refine sss_cons (h1 := ?g19) (h2 := ?g20)
      case g19 =>
        refine ss_if (hc := ?g21) (ha := ?g22) (hb := sss_nil)
        case g21 =>
          refine sb_cmp (ho := ok_eq) (ha := (SE.sv (s := se_var))) (hb := (SE.sv (s := se_str)))
        case g22 =>
          refine sss_cons (h1 := ?g23) (h2 := sss_nil)
          refine ss_ret (he := ?g24)
          refine se_call (hf := f_row_lots) (ha := ?g25)
          refine sa_cons (ha := (SE.sv (s := se_var))) (hr := sa_nil)
      case g20 =>
        refine sss_cons (h1 := ?g26) (h2 := ?g27)
        case g26 =>
          refine ss_if (hc := ?g28) (ha := ?g29) (hb := sss_nil)
          case g28 =>
            refine sb_cmp (ho := ok_eq) (ha := (SE.sv (s := se_var))) (hb := (SE.sv (s := se_str)))
          case g29 =>
            refine sss_cons (h1 := ?g30) (h2 := sss_nil)
            refine ss_ret (he := ?g31)
            refine se_call (hf := f_strings) (ha := ?g32)
            refine sa_cons (ha := (SE.sv (s := se_var))) (hr := ?g33)
            refine sa_cons (ha := ?g34) (hr := ?g35)
            case g34 =>
              refine SE.sv (s := ?g36)
              refine se_tup (ha := ?g37)
              refine sa_cons (ha := (SE.sv (s := se_int))) (hr := ?g38)
              refine sa_cons (ha := (SE.sv (s := se_int))) (hr := sa_nil)
            case g35 =>
              refine sa_cons (ha := (SE.sv (s := se_int))) (hr := ?g39)
              refine sa_cons (ha := (SE.sv (s := se_int))) (hr := sa_nil)
        case g27 =>
          refine sss_cons (h1 := ?g40) (h2 := ?g41)
          case g40 =>
            refine ss_if (hc := ?g42) (ha := ?g43) (hb := sss_nil)
            case g42 =>
              refine sb_cmp (ho := ok_eq) (ha := (SE.sv (s := se_var))) (hb := (SE.sv (s := se_str)))
            case g43 =>
              refine sss_cons (h1 := ?g44) (h2 := sss_nil)
              refine ss_ret (he := ?g45)
              refine se_call (hf := f_strings) (ha := ?g46)
              refine sa_cons (ha := (SE.sv (s := se_var))) (hr := ?g47)
              refine sa_cons (ha := ?g48) (hr := ?g49)
              case g48 =>
                refine SE.sv (s := ?g50)
                refine se_tup (ha := ?g51)
                refine sa_cons (ha := (SE.sv (s := se_int))) (hr := ?g52)
                refine sa_cons (ha := (SE.sv (s := se_int))) (hr := sa_nil)
              case g49 =>
                refine sa_cons (ha := (SE.sv (s := se_int))) (hr := ?g53)
                refine sa_cons (ha := (SE.sv (s := se_int))) (hr := sa_nil)
          case g41 =>
            refine sss_cons (h1 := ?g54) (h2 := sss_nil)
            refine ss_ret (he := ?g55)
            refine se_call (hf := f_strings) (ha := ?g56)
            refine sa_cons (ha := (SE.sv (s := se_var))) (hr := ?g57)
            refine sa_cons (ha := ?g58) (hr := ?g59)
            case g58 =>
              refine SE.sv (s := ?g60)
              refine se_tup (ha := ?g61)
              refine sa_cons (ha := (SE.sv (s := se_int))) (hr := ?g62)
              refine sa_cons (ha := (SE.sv (s := se_int))) (hr := sa_nil)
            case g59 =>
              refine sa_cons (ha := (SE.sv (s := se_int))) (hr := ?g63)
              refine sa_cons (ha := (SE.sv (s := se_int))) (hr := sa_nil)

/-! ### told_by -/
abbrev s_told_by : Stmt := topS 26
theorem sc_told_by : FnScope ["kind", "word"] ["kind", "word"] (defScope s_told_by) := ⟨rfl, rfl, rfl, by decide +kernel, rfl, by decide +kernel, by decide +kernel⟩
theorem bn_told_by (kV doc pm : Value) (an : Option Addr) (cdv ct : Value) (us : List Value) (hl : us.length = (["kind", "word"] : List Str).length) : bindArgs (PySem.W.fnOf "told_by" "told_by" (defArgs s_told_by) (defBody s_told_by) (defScope s_told_by) .none kV doc pm an cdv ct) ⟨us, []⟩ = pure ((["kind", "word"] : List Str).zip us) :=
  match us, hl with | [_, _], _ => rfl
def b_told_by : MS := (sSeq (sIf (toB (eOp2 inO (fz (eVar 0)) (fz (eC c_RANGES)))) (sSeq (sRet (eCall m_numeral (aCons (fz (eVar 1)) (aCons (fz (eOp2 ixO (fz (eOp2 ixO (fz (eC c_RANGES)) (fz (eVar 0)))) (fz (eC (D.int 0))))) (aCons (fz (eOp2 ixO (fz (eOp2 ixO (fz (eC c_RANGES)) (fz (eVar 0)))) (fz (eC (D.int 1))))) aNil))))) sNil) sNil) (sSeq (sIf (toB (eOp2 eqO (fz (eVar 0)) (fz (eC (D.str [110, 97, 109, 101]))))) sNo sNil) (sSeq (sIf (toB (eOp2 eqO (fz (eVar 0)) (fz (eC (D.str [115, 105, 103, 110, 115]))))) sNo sNil) (sSeq (sIf (toB (eOp2 eqO (fz (eVar 0)) (fz (eC (D.str [97, 108, 108, 111, 119, 101, 100]))))) sNo sNil) (sSeq (sIf (toB (eOp2 eqO (fz (eVar 0)) (fz (eC (D.str [109, 111, 115, 116]))))) sNo sNil) (sSeq (sIf (toB (eOp2 eqO (fz (eVar 0)) (fz (eC (D.str [98, 101, 102, 111, 114, 101]))))) sNo sNil) (sSeq (sIf (toB (eOp2 eqO (fz (eVar 0)) (fz (eC (D.str [98, 101, 104, 105, 110, 100]))))) sNo sNil) (sSeq (sIf (toB (eOp2 eqO (fz (eVar 0)) (fz (eC (D.str [112, 97, 112, 101, 114]))))) sNo sNil) (sSeq (sIf (toB (eOp2 eqO (fz (eVar 0)) (fz (eC (D.str [101, 110, 100, 105, 110, 103]))))) sNo sNil) (sSeq (sRet (eCall m_list_told (aCons (fz (eVar 0)) (aCons (fz (eVar 1)) aNil)))) sNil))))))))))
def m_told_by : MF := runF 2 b_told_by
theorem ok_told_by {k : Nat} (df : Df K mg "told_by" s_told_by ["kind", "word"]) (f_list_told : FnM P w K mg base k "list_told" 2 m_list_told) (f_numeral : FnM P w K mg base k "numeral" 3 m_numeral) (c_RANGES_ok : Cst K w mg "RANGES" c_RANGES) : FnM P w K mg base (k + 1) "told_by" 2 m_told_by := by
  refine fnM_ok (mb := b_told_by) df sc_told_by ?_ rfl rfl
  unfold b_told_by
  refine sss_cons (h1 := ?g1) (h2 := ?g2)
  case g1 =>
    refine ss_if (hc := ?g3) (ha := ?g4) (hb := sss_nil)
    case g3 =>
      refine sb_cmp (ho := ok_in) (ha := (SE.sv (s := se_var))) (hb := (SE.sv (s := (se_cst c_RANGES_ok))))
    case g4 =>
      refine sss_cons (h1 := ?g5) (h2 := sss_nil)
      refine ss_ret (he := ?g6)
      refine se_call (hf := f_numeral) (ha := ?g7)
      refine sa_cons (ha := (SE.sv (s := se_var))) (hr := ?g8)
      refine sa_cons (ha := ?g9) (hr := ?g10)
      case g9 =>
        refine SE.sv (s := ?g11)
        refine se_ix (hi := ok_ix) (ha := ?g12) (hb := (SE.sv (s := se_int)))
        refine SE.sv (s := ?g13)
        refine se_ix (hi := ok_ix) (ha := (SE.sv (s := (se_cst c_RANGES_ok)))) (hb := (SE.sv (s := se_var)))
      case g10 =>
        refine sa_cons (ha := ?g14) (hr := sa_nil)
        refine SE.sv (s := ?g15)
        refine se_ix (hi := ok_ix) (ha := ?g16) (hb := (SE.sv (s := se_int)))
        refine SE.sv (s := ?g17)
        refine se_ix (hi := ok_ix) (ha := (SE.sv (s := (se_cst c_RANGES_ok)))) (hb := (SE.sv (s := se_var)))
  case g2 =>
    refine sss_cons (h1 := ?g18) (h2 := ?g19)
    case g18 =>
      refine ss_if (hc := ?g20) (ha := sss_no) (hb := sss_nil)
      refine sb_cmp (ho := ok_eq) (ha := (SE.sv (s := se_var))) (hb := (SE.sv (s := se_str)))
    case g19 =>
      refine sss_cons (h1 := ?g21) (h2 := ?g22)
      case g21 =>
        refine ss_if (hc := ?g23) (ha := sss_no) (hb := sss_nil)
        refine sb_cmp (ho := ok_eq) (ha := (SE.sv (s := se_var))) (hb := (SE.sv (s := se_str)))
      case g22 =>
        refine sss_cons (h1 := ?g24) (h2 := ?g25)
        case g24 =>
          refine ss_if (hc := ?g26) (ha := sss_no) (hb := sss_nil)
          refine sb_cmp (ho := ok_eq) (ha := (SE.sv (s := se_var))) (hb := (SE.sv (s := se_str)))
        case g25 =>
          refine sss_cons (h1 := ?g27) (h2 := ?g28)
          case g27 =>
            refine ss_if (hc := ?g29) (ha := sss_no) (hb := sss_nil)
            refine sb_cmp (ho := ok_eq) (ha := (SE.sv (s := se_var))) (hb := (SE.sv (s := se_str)))
          case g28 =>
            refine sss_cons (h1 := ?g30) (h2 := ?g31)
            case g30 =>
              refine ss_if (hc := ?g32) (ha := sss_no) (hb := sss_nil)
              refine sb_cmp (ho := ok_eq) (ha := (SE.sv (s := se_var))) (hb := (SE.sv (s := se_str)))
            case g31 =>
              refine sss_cons (h1 := ?g33) (h2 := ?g34)
              case g33 =>
                refine ss_if (hc := ?g35) (ha := sss_no) (hb := sss_nil)
                refine sb_cmp (ho := ok_eq) (ha := (SE.sv (s := se_var))) (hb := (SE.sv (s := se_str)))
              case g34 =>
                refine sss_cons (h1 := ?g36) (h2 := ?g37)
                case g36 =>
                  refine ss_if (hc := ?g38) (ha := sss_no) (hb := sss_nil)
                  refine sb_cmp (ho := ok_eq) (ha := (SE.sv (s := se_var))) (hb := (SE.sv (s := se_str)))
                case g37 =>
                  refine sss_cons (h1 := ?g39) (h2 := ?g40)
                  case g39 =>
                    refine ss_if (hc := ?g41) (ha := sss_no) (hb := sss_nil)
                    refine sb_cmp (ho := ok_eq) (ha := (SE.sv (s := se_var))) (hb := (SE.sv (s := se_str)))
                  case g40 =>
                    refine sss_cons (h1 := ?g42) (h2 := sss_nil)
                    refine ss_ret (he := ?g43)
                    refine se_call (hf := f_list_told) (ha := ?g44)
                    refine sa_cons (ha := (SE.sv (s := se_var))) (hr := ?g45)
                    refine sa_cons (ha := (SE.sv (s := se_var))) (hr := sa_nil)

/-! ### told_at -/
abbrev s_told_at : Stmt := topS 27
theorem sc_told_at : FnScope ["words", "place", "number", "kind", "told"] ["words", "place", "number", "kind"] (defScope s_told_at) := ⟨rfl, rfl, rfl, by decide +kernel, rfl, by decide +kernel, by decide +kernel⟩
theorem bn_told_at (kV doc pm : Value) (an : Option Addr) (cdv ct : Value) (us : List Value) (hl : us.length = (["words", "place", "number", "kind"] : List Str).length) : bindArgs (PySem.W.fnOf "told_at" "told_at" (defArgs s_told_at) (defBody s_told_at) (defScope s_told_at) .none kV doc pm an cdv ct) ⟨us, []⟩ = pure ((["words", "place", "number", "kind"] : List Str).zip us) :=
  match us, hl with | [_, _, _, _], _ => rfl
def b_told_at : MS := (sSeq (sSet 4 (eCall m_told_by (aCons (fz (eVar 3)) (aCons (fz (eCall m_word_at (aCons (fz (eVar 0)) (aCons (fz (eVar 1)) (aCons (fz (eVar 2)) aNil))))) aNil)))) (sSeq (sIf (toB (eOp2 eqO (fz (eLenV 4 lenO)) (fz (eC (D.int 0))))) (sSeq sNo sNil) sNil) (sSeq (sRet (eIxV 4 ixO (fz (eC (D.int 0))))) sNil)))
def m_told_at : MF := runF 5 b_told_at
theorem ok_told_at {k : Nat} (df : Df K mg "told_at" s_told_at ["words", "place", "number", "kind"]) (f_word_at : FnM P w K mg base k "word_at" 3 m_word_at) (f_told_by : FnM P w K mg base k "told_by" 2 m_told_by) (n_len : mg "len" = none) : FnM P w K mg base (k + 1) "told_at" 4 m_told_at := by
  refine fnM_ok (mb := b_told_at) df sc_told_at ?_ rfl rfl
  unfold b_told_at
  refine sss_cons (h1 := ?g1) (h2 := ?g2)
  case g1 =>
    refine ss_set (he := ?g3)
    refine se_call (hf := f_told_by) (ha := ?g4)
    refine sa_cons (ha := (SE.sv (s := se_var))) (hr := ?g5)
    refine sa_cons (ha := ?g6) (hr := sa_nil)
    refine SE.sv (s := ?g7)
    refine se_call (hf := f_word_at) (ha := ?g8)
    refine sa_cons (ha := (SE.sv (s := se_var))) (hr := ?g9)
    refine sa_cons (ha := (SE.sv (s := se_var))) (hr := ?g10)
    refine sa_cons (ha := (SE.sv (s := se_var))) (hr := sa_nil)
  case g2 =>
    refine sss_cons (h1 := ?g11) (h2 := ?g12)
    case g11 =>
      refine ss_if (hc := ?g13) (ha := ?g14) (hb := sss_nil)
      case g13 =>
        refine sb_cmp (ho := ok_eq) (ha := (SE.sv (s := (se_lenv (hc := ok_len) (hm := n_len))))) (hb := (SE.sv (s := se_int)))
      case g14 =>
        refine sss_cons (h1 := ss_no) (h2 := sss_nil)
    case g12 =>
      refine sss_cons (h1 := ?g15) (h2 := sss_nil)
      refine ss_ret (he := ?g16)
      refine se_ixv (hi := ok_ix) (hb := (SE.sv (s := se_int)))

/-! ### inner_rules -/
abbrev s_inner_rules : Stmt := topS 30
theorem sc_inner_rules : FnScope ["rule", "many", "k"] ["rule"] (defScope s_inner_rules) := ⟨rfl, rfl, rfl, by decide +kernel, rfl, by decide +kernel, by decide +kernel⟩
theorem bn_inner_rules (kV doc pm : Value) (an : Option Addr) (cdv ct : Value) (us : List Value) (hl : us.length = (["rule"] : List Str).length) : bindArgs (PySem.W.fnOf "inner_rules" "inner_rules" (defArgs s_inner_rules) (defBody s_inner_rules) (defScope s_inner_rules) .none kV doc pm an cdv ct) ⟨us, []⟩ = pure ((["rule"] : List Str).zip us) :=
  match us, hl with | [_], _ => rfl
def b_inner_rules : MS := (sSeq (sSet 1 (eOp2 ixO (fz (eC c_INNER)) (fz (eIxV 0 ixO (fz (eC (D.int 0))))))) (sSeq (sRet (eComp [0, 1] (tN 2) (iRange1 (fz (eVar 1))) bYes (fz (eIxV 0 ixO (fz (eOp2 addO (fz (eOp2 subO (fz (eLenV 0 lenO)) (fz (eVar 1)))) (fz (eVar 2)))))))) sNil))
def m_inner_rules : MF := runF 3 b_inner_rules
theorem ok_inner_rules {k : Nat} (df : Df K mg "inner_rules" s_inner_rules ["rule"]) (c_INNER_ok : Cst K w mg "INNER" c_INNER) (n_range : mg "range" = none) (n_len : mg "len" = none) : FnM P w K mg base (k + 1) "inner_rules" 1 m_inner_rules := by
  refine fnM_ok (mb := b_inner_rules) df sc_inner_rules ?_ rfl rfl
  unfold b_inner_rules
  refine sss_cons (h1 := ?g1) (h2 := ?g2)
  case g1 =>
    refine ss_set (he := ?g3)
    refine se_ix (hi := ok_ix) (ha := (SE.sv (s := (se_cst c_INNER_ok)))) (hb := ?g4)
    refine SE.sv (s := ?g5)
    refine se_ixv (hi := ok_ix) (hb := (SE.sv (s := se_int)))
  case g2 =>
    refine sss_cons (h1 := ?g6) (h2 := sss_nil)
    refine ss_ret (he := ?g7)
    refine se_comp (own := [("k", 2)]) (cap := [0, 1]) (tvs := [2]) (hi := ?g8) (hg := sg_name) (hc := sbs_nil) (he := ?g9)
    case g8 =>
      refine si_range1 (hm := n_range) (ha := (SE.sv (s := se_var)))
    case g9 =>
      refine SE.sv (s := ?g10)
      refine se_ixv (hi := ok_ix) (hb := ?g11)
      refine SE.sv (s := ?g12)
      refine se_bin (ho := ok_add) (ha := ?g13) (hb := (SE.sv (s := se_var)))
      refine SE.sv (s := ?g14)
      refine se_bin (ho := ok_sub) (ha := (SE.sv (s := (se_lenv (hc := ok_len) (hm := n_len))))) (hb := (SE.sv (s := se_var)))

/-! ### joined -/
abbrev s_joined : Stmt := topS 34
theorem sc_joined : FnScope ["things", "thing"] ["things"] (defScope s_joined) := ⟨rfl, rfl, rfl, by decide +kernel, rfl, by decide +kernel, by decide +kernel⟩
theorem bn_joined (kV doc pm : Value) (an : Option Addr) (cdv ct : Value) (us : List Value) (hl : us.length = (["things"] : List Str).length) : bindArgs (PySem.W.fnOf "joined" "joined" (defArgs s_joined) (defBody s_joined) (defScope s_joined) .none kV doc pm an cdv ct) ⟨us, []⟩ = pure ((["things"] : List Str).zip us) :=
  match us, hl with | [_], _ => rfl
def b_joined : MS := (sSeq (sRet (eMtS joinO (fz (eC (D.str [44]))) (aCons (fz (eComp [] (tN 1) (iOf (fz (eVar 0))) bYes (fz (eCallB strO (aCons (fz (eVar 1)) aNil))))) aNil))) sNil)
def m_joined : MF := runF 2 b_joined
theorem ok_joined {k : Nat} (df : Df K mg "joined" s_joined ["things"]) (n_str : mg "str" = none) : FnM P w K mg base (k + 1) "joined" 1 m_joined := by
  refine fnM_ok (mb := b_joined) df sc_joined ?_ rfl rfl
  unfold b_joined
  refine sss_cons (h1 := ?g1) (h2 := sss_nil)
  refine ss_ret (he := ?g2)
  refine se_mtS (slot := PySem.F.slot_str_join) (hty := PySem.F.type_str_join) (hm := ok_join) (ho := (SE.sv (s := se_str))) (ha := ?g3)
  refine sa_cons (ha := ?g4) (hr := sa_nil)
  refine SE.sv (s := ?g5)
  refine se_comp (own := [("thing", 1)]) (cap := []) (tvs := [1]) (hi := ?g6) (hg := sg_name) (hc := sbs_nil) (he := ?g7)
  case g6 =>
    refine si_val (he := (SE.sv (s := se_var)))
  case g7 =>
    refine SE.sv (s := ?g8)
    refine se_callTy (hc := ok_str) (hm := n_str) (ha := ?g9)
    refine sa_cons (ha := (SE.sv (s := se_var))) (hr := sa_nil)

/-! ### own_words -/
abbrev s_own_words : Stmt := topS 35
theorem sc_own_words : FnScope ["rule", "word", "row", "face"] ["rule"] (defScope s_own_words) := ⟨rfl, rfl, rfl, by decide +kernel, rfl, by decide +kernel, by decide +kernel⟩
theorem bn_own_words (kV doc pm : Value) (an : Option Addr) (cdv ct : Value) (us : List Value) (hl : us.length = (["rule"] : List Str).length) : bindArgs (PySem.W.fnOf "own_words" "own_words" (defArgs s_own_words) (defBody s_own_words) (defScope s_own_words) .none kV doc pm an cdv ct) ⟨us, []⟩ = pure ((["rule"] : List Str).zip us) :=
  match us, hl with | [_], _ => rfl
def b_own_words : MS := (sSeq (sSet 1 (eIxV 0 ixO (fz (eC (D.int 0))))) (sSeq (sIf (toB (eOp2 eqO (fz (eVar 1)) (fz (eC (D.str [115, 117, 109]))))) (sSeq (sRet (eLst (aCons (fz (eVar 1)) (aCons (fz (eCallB strO (aCons (fz (eIxV 0 ixO (fz (eC (D.int 1))))) aNil))) (aCons (fz (eCall m_joined (aCons (fz (eIxV 0 ixO (fz (eC (D.int 2))))) aNil))) (aCons (fz (eCallB strO (aCons (fz (eIxV 0 ixO (fz (eC (D.int 3))))) aNil))) aNil)))))) sNil) sNil) (sSeq (sIf (toB (eOp2 eqO (fz (eVar 1)) (fz (eC (D.str [115, 113, 117, 97, 114, 101]))))) (sSeq (sRet (eLst (aCons (fz (eVar 1)) (aCons (fz (eMtS joinO (fz (eC (D.str [47]))) (aCons (fz (eComp [] (tN 2) (iOf (fz (eIxV 0 ixO (fz (eC (D.int 1)))))) bYes (fz (eCall m_joined (aCons (fz (eVar 2)) aNil))))) aNil))) (aCons (fz (eCall m_joined (aCons (fz (eIxV 0 ixO (fz (eC (D.int 2))))) aNil))) aNil))))) sNil) sNil) (sSeq (sIf (toB (eOp2 eqO (fz (eVar 1)) (fz (eC (D.str [102, 97, 99, 101, 115]))))) (sSeq (sRet (eLst (aCons (fz (eVar 1)) (aCons (fz (eMtS joinO (fz (eC (D.str [44]))) (aCons (fz (eComp [] (tN 3) (iOf (fz (eIxV 0 ixO (fz (eC (D.int 1)))))) bYes (fz (eVar 3)))) aNil))) aNil)))) sNil) sNil) (sSeq (sIf (toB (eOp2 eqO (fz (eVar 1)) (fz (eC (D.str [99, 117, 116]))))) (sSeq (sRet (eLst (aCons (fz (eVar 1)) (aCons (fz (eCallB strO (aCons (fz (eIxV 0 ixO (fz (eC (D.int 1))))) aNil))) (aCons (fz (eCallB strO (aCons (fz (eIxV 0 ixO (fz (eC (D.int 2))))) aNil))) aNil))))) sNil) sNil) (sSeq (sRet (eLst (aCons (fz (eVar 1)) aNil))) sNil))))))
def m_own_words : MF := runF 4 b_own_words
theorem ok_own_words {k : Nat} (df : Df K mg "own_words" s_own_words ["rule"]) (f_joined : FnM P w K mg base k "joined" 1 m_joined) (n_str : mg "str" = none) : FnM P w K mg base (k + 1) "own_words" 1 m_own_words := by
  refine fnM_ok (mb := b_own_words) df sc_own_words ?_ rfl rfl
  unfold b_own_words
  refine sss_cons (h1 := ?g1) (h2 := ?g2)
  case g1 =>
    refine ss_set (he := ?g3)
    refine se_ixv (hi := ok_ix) (hb := (SE.sv (s := se_int)))
  case g2 =>
    refine sss_cons (h1 := ?g4) (h2 := ?g5)
    case g4 =>
      refine ss_if (hc := ?g6) (ha := ?g7) (hb := sss_nil)
      case g6 =>
        refine sb_cmp (ho := ok_eq) (ha := (SE.sv (s := se_var))) (hb := (SE.sv (s := se_str)))
      case g7 =>
        refine sss_cons (h1 := ?g8) (h2 := sss_nil)
        refine ss_ret (he := ?g9)
        refine se_lst (ha := ?g10)
        refine sa_cons (ha := (SE.sv (s := se_var))) (hr := ?g11)
        refine sa_cons (ha := ?g12) (hr := ?g13)
        case g12 =>
          refine SE.sv (s := ?g14)
          refine se_callTy (hc := ok_str) (hm := n_str) (ha := ?g15)
          refine sa_cons (ha := ?g16) (hr := sa_nil)
          refine SE.sv (s := ?g17)
          refine se_ixv (hi := ok_ix) (hb := (SE.sv (s := se_int)))
        case g13 =>
          refine sa_cons (ha := ?g18) (hr := ?g19)
          case g18 =>
            refine SE.sv (s := ?g20)
            refine se_call (hf := f_joined) (ha := ?g21)
            refine sa_cons (ha := ?g22) (hr := sa_nil)
            refine SE.sv (s := ?g23)
            refine se_ixv (hi := ok_ix) (hb := (SE.sv (s := se_int)))
          case g19 =>
            refine sa_cons (ha := ?g24) (hr := sa_nil)
            refine SE.sv (s := ?g25)
            refine se_callTy (hc := ok_str) (hm := n_str) (ha := ?g26)
            refine sa_cons (ha := ?g27) (hr := sa_nil)
            refine SE.sv (s := ?g28)
            refine se_ixv (hi := ok_ix) (hb := (SE.sv (s := se_int)))
    case g5 =>
      refine sss_cons (h1 := ?g29) (h2 := ?g30)
      case g29 =>
        refine ss_if (hc := ?g31) (ha := ?g32) (hb := sss_nil)
        case g31 =>
          refine sb_cmp (ho := ok_eq) (ha := (SE.sv (s := se_var))) (hb := (SE.sv (s := se_str)))
        case g32 =>
          refine sss_cons (h1 := ?g33) (h2 := sss_nil)
          refine ss_ret (he := ?g34)
          refine se_lst (ha := ?g35)
          refine sa_cons (ha := (SE.sv (s := se_var))) (hr := ?g36)
          refine sa_cons (ha := ?g37) (hr := ?g38)
          case g37 =>
            refine SE.sv (s := ?g39)
            refine se_mtS (slot := PySem.F.slot_str_join) (hty := PySem.F.type_str_join) (hm := ok_join) (ho := (SE.sv (s := se_str))) (ha := ?g40)
            refine sa_cons (ha := ?g41) (hr := sa_nil)
            refine SE.sv (s := ?g42)
            refine se_comp (own := [("row", 2)]) (cap := []) (tvs := [2]) (hi := ?g43) (hg := sg_name) (hc := sbs_nil) (he := ?g44)
            case g43 =>
              refine si_val (he := ?g45)
              refine SE.sv (s := ?g46)
              refine se_ixv (hi := ok_ix) (hb := (SE.sv (s := se_int)))
            case g44 =>
              refine SE.sv (s := ?g47)
              refine se_call (hf := f_joined) (ha := ?g48)
              refine sa_cons (ha := (SE.sv (s := se_var))) (hr := sa_nil)
          case g38 =>
            refine sa_cons (ha := ?g49) (hr := sa_nil)
            refine SE.sv (s := ?g50)
            refine se_call (hf := f_joined) (ha := ?g51)
            refine sa_cons (ha := ?g52) (hr := sa_nil)
            refine SE.sv (s := ?g53)
            refine se_ixv (hi := ok_ix) (hb := (SE.sv (s := se_int)))
      case g30 =>
        refine sss_cons (h1 := ?g54) (h2 := ?g55)
        case g54 =>
          refine ss_if (hc := ?g56) (ha := ?g57) (hb := sss_nil)
          case g56 =>
            refine sb_cmp (ho := ok_eq) (ha := (SE.sv (s := se_var))) (hb := (SE.sv (s := se_str)))
          case g57 =>
            refine sss_cons (h1 := ?g58) (h2 := sss_nil)
            refine ss_ret (he := ?g59)
            refine se_lst (ha := ?g60)
            refine sa_cons (ha := (SE.sv (s := se_var))) (hr := ?g61)
            refine sa_cons (ha := ?g62) (hr := sa_nil)
            refine SE.sv (s := ?g63)
            refine se_mtS (slot := PySem.F.slot_str_join) (hty := PySem.F.type_str_join) (hm := ok_join) (ho := (SE.sv (s := se_str))) (ha := ?g64)
            refine sa_cons (ha := ?g65) (hr := sa_nil)
            refine SE.sv (s := ?g66)
            refine se_comp (own := [("face", 3)]) (cap := []) (tvs := [3]) (hi := ?g67) (hg := sg_name) (hc := sbs_nil) (he := (SE.sv (s := se_var)))
            refine si_val (he := ?g68)
            refine SE.sv (s := ?g69)
            refine se_ixv (hi := ok_ix) (hb := (SE.sv (s := se_int)))
        case g55 =>
          refine sss_cons (h1 := ?g70) (h2 := ?g71)
          case g70 =>
            refine ss_if (hc := ?g72) (ha := ?g73) (hb := sss_nil)
            case g72 =>
              refine sb_cmp (ho := ok_eq) (ha := (SE.sv (s := se_var))) (hb := (SE.sv (s := se_str)))
            case g73 =>
              refine sss_cons (h1 := ?g74) (h2 := sss_nil)
              refine ss_ret (he := ?g75)
              refine se_lst (ha := ?g76)
              refine sa_cons (ha := (SE.sv (s := se_var))) (hr := ?g77)
              refine sa_cons (ha := ?g78) (hr := ?g79)
              case g78 =>
                refine SE.sv (s := ?g80)
                refine se_callTy (hc := ok_str) (hm := n_str) (ha := ?g81)
                refine sa_cons (ha := ?g82) (hr := sa_nil)
                refine SE.sv (s := ?g83)
                refine se_ixv (hi := ok_ix) (hb := (SE.sv (s := se_int)))
              case g79 =>
                refine sa_cons (ha := ?g84) (hr := sa_nil)
                refine SE.sv (s := ?g85)
                refine se_callTy (hc := ok_str) (hm := n_str) (ha := ?g86)
                refine sa_cons (ha := ?g87) (hr := sa_nil)
                refine SE.sv (s := ?g88)
                refine se_ixv (hi := ok_ix) (hb := (SE.sv (s := se_int)))
          case g71 =>
            refine sss_cons (h1 := ?g89) (h2 := sss_nil)
            refine ss_ret (he := ?g90)
            refine se_lst (ha := ?g91)
            refine sa_cons (ha := (SE.sv (s := se_var))) (hr := sa_nil)

/-! ### write_rule -/
abbrev s_write_rule : Stmt := topS 36
theorem sc_write_rule : FnScope ["rule", "inner"] ["rule"] (defScope s_write_rule) := ⟨rfl, rfl, rfl, by decide +kernel, rfl, by decide +kernel, by decide +kernel⟩
theorem bn_write_rule (kV doc pm : Value) (an : Option Addr) (cdv ct : Value) (us : List Value) (hl : us.length = (["rule"] : List Str).length) : bindArgs (PySem.W.fnOf "write_rule" "write_rule" (defArgs s_write_rule) (defBody s_write_rule) (defScope s_write_rule) .none kV doc pm an cdv ct) ⟨us, []⟩ = pure ((["rule"] : List Str).zip us) :=
  match us, hl with | [_], _ => rfl
def b_write_rule (rec : MF) : MS := (sSeq (sRet (eMtS joinO (fz (eC (D.str [32]))) (aCons (fz (eOp2 addO (fz (eCall m_own_words (aCons (fz (eVar 0)) aNil))) (fz (eComp [] (tN 1) (iOf (fz (eCall m_inner_rules (aCons (fz (eVar 0)) aNil)))) bYes (fz (eCall rec (aCons (fz (eVar 1)) aNil))))))) aNil))) sNil)
def m_write_rule : Nat → MF
  | 0 => runF 2 sNo
  | n + 1 => runF 2 (b_write_rule (m_write_rule n))
theorem ok_write_rule {k : Nat} (df : Df K mg "write_rule" s_write_rule ["rule"]) (f_own_words : FnM P w K mg base k "own_words" 1 m_own_words) (f_inner_rules : FnM P w K mg base k "inner_rules" 1 m_inner_rules) : ∀ n, FnM P w K mg base (k + 1 + n) "write_rule" 1 (m_write_rule n) :=
  fnM_rec (m := m_write_rule) (mb := b_write_rule) df sc_write_rule (m0 := rfl) (mS := fun _ => rfl) fun n hrec => by
    have f_own_words := f_own_words.mono (k := k + 1 + n)
    have f_inner_rules := f_inner_rules.mono (k := k + 1 + n)
    unfold b_write_rule
    refine sss_cons (h1 := ?g1) (h2 := sss_nil)
    refine ss_ret (he := ?g2)
    refine se_mtS (slot := PySem.F.slot_str_join) (hty := PySem.F.type_str_join) (hm := ok_join) (ho := (SE.sv (s := se_str))) (ha := ?g3)
    refine sa_cons (ha := ?g4) (hr := sa_nil)
    refine SE.sv (s := ?g5)
    refine se_bin (ho := ok_add) (ha := ?g6) (hb := ?g7)
    case g6 =>
      refine SE.sv (s := ?g8)
      refine se_call (hf := f_own_words) (ha := ?g9)
      refine sa_cons (ha := (SE.sv (s := se_var))) (hr := sa_nil)
    case g7 =>
      refine SE.sv (s := ?g10)
      refine se_comp (own := [("inner", 1)]) (cap := []) (tvs := [1]) (hi := ?g11) (hg := sg_name) (hc := sbs_nil) (he := ?g12)
      case g11 =>
        refine si_val (he := ?g13)
        refine SE.sv (s := ?g14)
        refine se_call (hf := f_inner_rules) (ha := ?g15)
        refine sa_cons (ha := (SE.sv (s := se_var))) (hr := sa_nil)
      case g12 =>
        refine SE.sv (s := ?g16)
        refine se_call (hf := hrec) (ha := ?g17)
        refine sa_cons (ha := (SE.sv (s := se_var))) (hr := sa_nil)

/-! ### rule_at -/
abbrev s_rule_at : Stmt := topS 37
theorem sc_rule_at : FnScope ["words", "place", "number", "left", "word", "things", "behind", "kind", "rest", "k", "inner"] ["words", "place", "number", "left"] (defScope s_rule_at) := ⟨rfl, rfl, rfl, by decide +kernel, rfl, by decide +kernel, by decide +kernel⟩
theorem bn_rule_at (kV doc pm : Value) (an : Option Addr) (cdv ct : Value) (us : List Value) (hl : us.length = (["words", "place", "number", "left"] : List Str).length) : bindArgs (PySem.W.fnOf "rule_at" "rule_at" (defArgs s_rule_at) (defBody s_rule_at) (defScope s_rule_at) .none kV doc pm an cdv ct) ⟨us, []⟩ = pure ((["words", "place", "number", "left"] : List Str).zip us) :=
  match us, hl with | [_, _, _, _], _ => rfl
def b_rule_at (rec : MF) : MS := (sSeq (sSet 4 (eCall m_word_at (aCons (fz (eVar 0)) (aCons (fz (eVar 1)) (aCons (fz (eVar 2)) aNil))))) (sSeq (sIf (bOr (toB (eOp2 eqO (fz (eVar 3)) (fz (eC (D.int 0))))) (toB (eOp2 ninO (fz (eVar 4)) (fz (eC c_INNER))))) (sSeq sNo sNil) sNil) (sSeq (sSet 5 (eLst (aCons (fz (eVar 4)) aNil))) (sSeq (sSet 6 (eOp2 addO (fz (eVar 1)) (fz (eC (D.int 1))))) (sSeq (sFor (tN 7) (iOf (fz (eOp2 ixO (fz (eC c_RULE_KINDS)) (fz (eVar 4))))) (sSeq (sExpr (eMut 5 appOp (aCons (fz (eCall m_told_at (aCons (fz (eVar 0)) (aCons (fz (eVar 6)) (aCons (fz (eVar 2)) (aCons (fz (eVar 7)) aNil)))))) aNil))) (sSeq (sAug 6 iaddO (fz (eC (D.int 1)))) sNil))) (sSeq (sSet 8 (eOp2 subO (fz (eVar 3)) (fz (eC (D.int 1))))) (sSeq (sFor (tN 9) (iRange1 (fz (eOp2 ixO (fz (eC c_INNER)) (fz (eVar 4))))) (sSeq (sAsg (tT (tsCons (tN 10) (tsCons (tN 6) (tsCons (tN 8) tsNil))) 3) (fz (eCall rec (aCons (fz (eVar 0)) (aCons (fz (eVar 6)) (aCons (fz (eVar 2)) (aCons (fz (eVar 8)) aNil))))))) (sSeq (sExpr (eMut 5 appOp (aCons (fz (eVar 10)) aNil))) sNil))) (sSeq (sRet (eTup (aCons (fz (eCallB tupleO (aCons (fz (eVar 5)) aNil))) (aCons (fz (eVar 6)) (aCons (fz (eVar 8)) aNil))))) sNil))))))))
def m_rule_at : Nat → MF
  | 0 => runF 11 sNo
  | n + 1 => runF 11 (b_rule_at (m_rule_at n))
theorem ok_rule_at {k : Nat} (df : Df K mg "rule_at" s_rule_at ["words", "place", "number", "left"]) (f_told_at : FnM P w K mg base k "told_at" 4 m_told_at) (f_word_at : FnM P w K mg base k "word_at" 3 m_word_at) (c_INNER_ok : Cst K w mg "INNER" c_INNER) (c_RULE_KINDS_ok : Cst K w mg "RULE_KINDS" c_RULE_KINDS) (n_tuple : mg "tuple" = none) (n_range : mg "range" = none) : ∀ n, FnM P w K mg base (k + 1 + n) "rule_at" 4 (m_rule_at n) :=
  fnM_rec (m := m_rule_at) (mb := b_rule_at) df sc_rule_at (m0 := rfl) (mS := fun _ => rfl) fun n hrec => by
    have f_told_at := f_told_at.mono (k := k + 1 + n)
    have f_word_at := f_word_at.mono (k := k + 1 + n)
    unfold b_rule_at
    refine sss_cons (h1 := ?g1) (h2 := ?g2)
    case g1 =>
      refine ss_set (he := ?g3)
      refine se_call (hf := f_word_at) (ha := ?g4)
      refine sa_cons (ha := (SE.sv (s := se_var))) (hr := ?g5)
      refine sa_cons (ha := (SE.sv (s := se_var))) (hr := ?g6)
      refine sa_cons (ha := (SE.sv (s := se_var))) (hr := sa_nil)
    case g2 =>
      refine sss_cons (h1 := ?g7) (h2 := ?g8)
      case g7 =>
        refine ss_if (hc := ?g9) (ha := ?g10) (hb := sss_nil)
        case g9 =>
          refine sb_w (hw := ?g11)
          refine sw_or (ha := ?g12) (hb := ?g13)
          case g12 =>
            refine sb_cmp (ho := ok_eq) (ha := (SE.sv (s := se_var))) (hb := (SE.sv (s := se_int)))
          case g13 =>
            refine sw_one (ha := ?g14)
            refine sb_cmp (ho := ok_nin) (ha := (SE.sv (s := se_var))) (hb := (SE.sv (s := (se_cst c_INNER_ok))))
        case g10 =>
          refine sss_cons (h1 := ss_no) (h2 := sss_nil)
      case g8 =>
        refine sss_cons (h1 := ?g15) (h2 := ?g16)
        case g15 =>
          refine ss_set (he := ?g17)
          refine se_lst (ha := ?g18)
          refine sa_cons (ha := (SE.sv (s := se_var))) (hr := sa_nil)
        case g16 =>
          refine sss_cons (h1 := ?g19) (h2 := ?g20)
          case g19 =>
            refine ss_set (he := ?g21)
            refine se_bin (ho := ok_add) (ha := (SE.sv (s := se_var))) (hb := (SE.sv (s := se_int)))
          case g20 =>
            refine sss_cons (h1 := ?g22) (h2 := ?g23)
            case g22 =>
              refine ss_for (vs := [7]) (hg := sg_name) (hi := ?g24) (hb := ?g25)
              case g24 =>
                refine si_val (he := ?g26)
                refine SE.sv (s := ?g27)
                refine se_ix (hi := ok_ix) (ha := (SE.sv (s := (se_cst c_RULE_KINDS_ok)))) (hb := (SE.sv (s := se_var)))
              case g25 =>
                refine sss_cons (h1 := ?g28) (h2 := ?g29)
                case g28 =>
                  refine ss_expr (he := ?g30)
                  refine se_mut (slot := PySem.F.slot_list_append) (hty := PySem.F.type_list_append) (hm := ok_append) (ha := ?g31)
                  refine sa_cons (ha := ?g32) (hr := sa_nil)
                  refine SE.sv (s := ?g33)
                  refine se_call (hf := f_told_at) (ha := ?g34)
                  refine sa_cons (ha := (SE.sv (s := se_var))) (hr := ?g35)
                  refine sa_cons (ha := (SE.sv (s := se_var))) (hr := ?g36)
                  refine sa_cons (ha := (SE.sv (s := se_var))) (hr := ?g37)
                  refine sa_cons (ha := (SE.sv (s := se_var))) (hr := sa_nil)
                case g29 =>
                  refine sss_cons (h1 := ?g38) (h2 := sss_nil)
                  refine ss_aug (ho := ok_iadd) (he := (SE.sv (s := se_int)))
            case g23 =>
              refine sss_cons (h1 := ?g39) (h2 := ?g40)
              case g39 =>
                refine ss_set (he := ?g41)
                refine se_bin (ho := ok_sub) (ha := (SE.sv (s := se_var))) (hb := (SE.sv (s := se_int)))
              case g40 =>
                refine sss_cons (h1 := ?g42) (h2 := ?g43)
                case g42 =>
                  refine ss_for (vs := [9]) (hg := sg_name) (hi := ?g44) (hb := ?g45)
                  case g44 =>
                    refine si_range1 (hm := n_range) (ha := ?g46)
                    refine SE.sv (s := ?g47)
                    refine se_ix (hi := ok_ix) (ha := (SE.sv (s := (se_cst c_INNER_ok)))) (hb := (SE.sv (s := se_var)))
                  case g45 =>
                    refine sss_cons (h1 := ?g48) (h2 := ?g49)
                    case g48 =>
                      refine ss_asg (vs := [10, 6, 8]) (hg := ?g50) (he := ?g51)
                      case g50 =>
                        refine sg_tup (h1 := ?g52)
                        refine sgs_cons (h1 := sg_name) (h2 := ?g53)
                        refine sgs_cons (h1 := sg_name) (h2 := ?g54)
                        refine sgs_cons (h1 := sg_name) (h2 := sgs_nil)
                      case g51 =>
                        refine SE.sv (s := ?g55)
                        refine se_call (hf := hrec) (ha := ?g56)
                        refine sa_cons (ha := (SE.sv (s := se_var))) (hr := ?g57)
                        refine sa_cons (ha := (SE.sv (s := se_var))) (hr := ?g58)
                        refine sa_cons (ha := (SE.sv (s := se_var))) (hr := ?g59)
                        refine sa_cons (ha := (SE.sv (s := se_var))) (hr := sa_nil)
                    case g49 =>
                      refine sss_cons (h1 := ?g60) (h2 := sss_nil)
                      refine ss_expr (he := ?g61)
                      refine se_mut (slot := PySem.F.slot_list_append) (hty := PySem.F.type_list_append) (hm := ok_append) (ha := ?g62)
                      refine sa_cons (ha := (SE.sv (s := se_var))) (hr := sa_nil)
                case g43 =>
                  refine sss_cons (h1 := ?g63) (h2 := sss_nil)
                  refine ss_ret (he := ?g64)
                  refine se_tup (ha := ?g65)
                  refine sa_cons (ha := ?g66) (hr := ?g67)
                  case g66 =>
                    refine SE.sv (s := ?g68)
                    refine se_callTy (hc := ok_tuple) (hm := n_tuple) (ha := ?g69)
                    refine sa_cons (ha := (SE.sv (s := se_var))) (hr := sa_nil)
                  case g67 =>
                    refine sa_cons (ha := (SE.sv (s := se_var))) (hr := ?g70)
                    refine sa_cons (ha := (SE.sv (s := se_var))) (hr := sa_nil)

/-! ### last_rule -/
abbrev s_last_rule : Stmt := topS 38
theorem sc_last_rule : FnScope ["words", "place", "number", "told"] ["words", "place", "number"] (defScope s_last_rule) := ⟨rfl, rfl, rfl, by decide +kernel, rfl, by decide +kernel, by decide +kernel⟩
theorem bn_last_rule (kV doc pm : Value) (an : Option Addr) (cdv ct : Value) (us : List Value) (hl : us.length = (["words", "place", "number"] : List Str).length) : bindArgs (PySem.W.fnOf "last_rule" "last_rule" (defArgs s_last_rule) (defBody s_last_rule) (defScope s_last_rule) .none kV doc pm an cdv ct) ⟨us, []⟩ = pure ((["words", "place", "number"] : List Str).zip us) :=
  match us, hl with | [_, _, _], _ => rfl
def b_last_rule : MS := (sSeq (sSet 3 (eCall (m_rule_at rF) (aCons (fz (eVar 0)) (aCons (fz (eVar 1)) (aCons (fz (eVar 2)) (aCons (fz (eC c_MOST_RULES)) aNil)))))) (sSeq (sExpr (eCall m_check_end (aCons (fz (eVar 0)) (aCons (fz (eIxV 3 ixO (fz (eC (D.int 1))))) (aCons (fz (eVar 2)) aNil))))) (sSeq (sRet (eIxV 3 ixO (fz (eC (D.int 0))))) sNil)))
def m_last_rule : MF := runF 4 b_last_rule
theorem ok_last_rule {k : Nat} (df : Df K mg "last_rule" s_last_rule ["words", "place", "number"]) (f_check_end : FnM P w K mg base k "check_end" 3 m_check_end) (f_rule_at : FnM P w K mg base k "rule_at" 4 (m_rule_at rF)) (c_MOST_RULES_ok : Cst K w mg "MOST_RULES" c_MOST_RULES) : FnM P w K mg base (k + 1) "last_rule" 3 m_last_rule := by
  refine fnM_ok (mb := b_last_rule) df sc_last_rule ?_ rfl rfl
  unfold b_last_rule
  refine sss_cons (h1 := ?g1) (h2 := ?g2)
  case g1 =>
    refine ss_set (he := ?g3)
    refine se_call (hf := f_rule_at) (ha := ?g4)
    refine sa_cons (ha := (SE.sv (s := se_var))) (hr := ?g5)
    refine sa_cons (ha := (SE.sv (s := se_var))) (hr := ?g6)
    refine sa_cons (ha := (SE.sv (s := se_var))) (hr := ?g7)
    refine sa_cons (ha := (SE.sv (s := (se_cst c_MOST_RULES_ok)))) (hr := sa_nil)
  case g2 =>
    refine sss_cons (h1 := ?g8) (h2 := ?g9)
    case g8 =>
      refine ss_expr (he := ?g10)
      refine se_call (hf := f_check_end) (ha := ?g11)
      refine sa_cons (ha := (SE.sv (s := se_var))) (hr := ?g12)
      refine sa_cons (ha := ?g13) (hr := ?g14)
      case g13 =>
        refine SE.sv (s := ?g15)
        refine se_ixv (hi := ok_ix) (hb := (SE.sv (s := se_int)))
      case g14 =>
        refine sa_cons (ha := (SE.sv (s := se_var))) (hr := sa_nil)
    case g9 =>
      refine sss_cons (h1 := ?g16) (h2 := sss_nil)
      refine ss_ret (he := ?g17)
      refine se_ixv (hi := ok_ix) (hb := (SE.sv (s := se_int)))

/-! ### read_rule -/
abbrev s_read_rule : Stmt := topS 39
theorem sc_read_rule : FnScope ["text"] ["text"] (defScope s_read_rule) := ⟨rfl, rfl, rfl, by decide +kernel, rfl, by decide +kernel, by decide +kernel⟩
theorem bn_read_rule (kV doc pm : Value) (an : Option Addr) (cdv ct : Value) (us : List Value) (hl : us.length = (["text"] : List Str).length) : bindArgs (PySem.W.fnOf "read_rule" "read_rule" (defArgs s_read_rule) (defBody s_read_rule) (defScope s_read_rule) .none kV doc pm an cdv ct) ⟨us, []⟩ = pure ((["text"] : List Str).zip us) :=
  match us, hl with | [_], _ => rfl
def b_read_rule : MS := (sSeq (sRet (eCall m_last_rule (aCons (fz (eCall m_words_of (aCons (fz (eVar 0)) (aCons (fz (eC (D.int 0))) aNil)))) (aCons (fz (eC (D.int 0))) (aCons (fz (eC (D.int 0))) aNil))))) sNil)
def m_read_rule : MF := runF 1 b_read_rule
theorem ok_read_rule {k : Nat} (df : Df K mg "read_rule" s_read_rule ["text"]) (f_words_of : FnM P w K mg base k "words_of" 2 m_words_of) (f_last_rule : FnM P w K mg base k "last_rule" 3 m_last_rule) : FnM P w K mg base (k + 1) "read_rule" 1 m_read_rule := by
  refine fnM_ok (mb := b_read_rule) df sc_read_rule ?_ rfl rfl
  unfold b_read_rule
  refine sss_cons (h1 := ?g1) (h2 := sss_nil)
  refine ss_ret (he := ?g2)
  refine se_call (hf := f_last_rule) (ha := ?g3)
  refine sa_cons (ha := ?g4) (hr := ?g5)
  case g4 =>
    refine SE.sv (s := ?g6)
    refine se_call (hf := f_words_of) (ha := ?g7)
    refine sa_cons (ha := (SE.sv (s := se_var))) (hr := ?g8)
    refine sa_cons (ha := (SE.sv (s := se_int))) (hr := sa_nil)
  case g5 =>
    refine sa_cons (ha := (SE.sv (s := se_int))) (hr := ?g9)
    refine sa_cons (ha := (SE.sv (s := se_int))) (hr := sa_nil)

/-! ### _law_bag_of -/
abbrev s__law_bag_of : Stmt := topS 41
theorem sc__law_bag_of : FnScope ["_law_script", "_law_at", "_law_cell", "_law_size", "_law_digits", "_law_one"] ["_law_script", "_law_at"] (defScope s__law_bag_of) := ⟨rfl, rfl, rfl, by decide +kernel, rfl, by decide +kernel, by decide +kernel⟩
theorem bn__law_bag_of (kV doc pm : Value) (an : Option Addr) (cdv ct : Value) (us : List Value) (hl : us.length = (["_law_script", "_law_at"] : List Str).length) : bindArgs (PySem.W.fnOf "_law_bag_of" "_law_bag_of" (defArgs s__law_bag_of) (defBody s__law_bag_of) (defScope s__law_bag_of) .none kV doc pm an cdv ct) ⟨us, []⟩ = pure ((["_law_script", "_law_at"] : List Str).zip us) :=
  match us, hl with | [_, _], _ => rfl
def b__law_bag_of : MS := (sSeq (sSet 2 (eIf (toB (eOp2 ltO (fz (eVar 1)) (fz (eLenV 0 lenO)))) (eIxV 0 ixO (fz (eVar 1))) (eOp2 addO (fz (eCallB sumO (aCons (fz (eComp [] (tN 5) (iOf (fz (eVar 0))) bYes (fz (eOp2 addO (fz (eOp2 fdivO (fz (eCallB absO (aCons (fz (eVar 5)) aNil))) (fz (eC (D.int 3))))) (fz (eC (D.int 5))))))) aNil))) (fz (eOp2 mulIO (fz (eC (D.int 7919))) (fz (eOp2 addO (fz (eVar 1)) (fz (eC (D.int 1)))))))))) (sSeq (sSet 3 (eCallB absO (aCons (fz (eVar 2)) aNil))) (sSeq (sSet 4 (eIf (toB (eOp2 geO (fz (eVar 3)) (fz (eC (D.int 1000000000000000000))))) (eVar 3) (eC (D.int 0)))) (sSeq (sRet (eLoc (aCons (fz (eVar 4)) (aCons (fz (eOp2 addO (fz (eOp2 addO (fz (eOp2 modO (fz (eCallB intO (aCons (fz (eVar 3)) aNil))) (fz (eC (D.int 2147483629))))) (fz (eOp2 mulIO (fz (eC (D.int 7919))) (fz (eVar 1)))))) (fz (eIf (toB (eOp2 ltO (fz (eVar 2)) (fz (eC (D.int 0))))) (eC (D.int 13)) (eC (D.int 0)))))) (aCons (fz (eC (D.int 0))) aNil))))) sNil))))
def m__law_bag_of : MF := runF 6 b__law_bag_of
theorem ok__law_bag_of {k : Nat} (df : Df K mg "_law_bag_of" s__law_bag_of ["_law_script", "_law_at"]) (n_int : mg "int" = none) (n_abs : mg "abs" = none) (n_len : mg "len" = none) (n_sum : mg "sum" = none) : FnM P w K mg base (k + 1) "_law_bag_of" 2 m__law_bag_of := by
  refine fnM_ok (mb := b__law_bag_of) df sc__law_bag_of ?_ rfl rfl
  unfold b__law_bag_of
  refine sss_cons (h1 := ?g1) (h2 := ?g2)
  case g1 =>
    refine ss_set (he := ?g3)
    refine se_if (hc := ?g4) (ha := ?g5) (hb := ?g6)
    case g4 =>
      refine sb_cmp (ho := ok_lt) (ha := (SE.sv (s := se_var))) (hb := (SE.sv (s := (se_lenv (hc := ok_len) (hm := n_len)))))
    case g5 =>
      refine se_ixv (hi := ok_ix) (hb := (SE.sv (s := se_var)))
    case g6 =>
      refine se_bin (ho := ok_add) (ha := ?g7) (hb := ?g8)
      case g7 =>
        refine SE.sv (s := ?g9)
        refine se_callB (hc := ok_sum) (hm := n_sum) (ha := ?g10)
        refine sa_cons (ha := ?g11) (hr := sa_nil)
        refine SE.sv (s := ?g12)
        refine se_comp (own := [("_law_one", 5)]) (cap := []) (tvs := [5]) (hi := ?g13) (hg := sg_name) (hc := sbs_nil) (he := ?g14)
        case g13 =>
          refine si_val (he := (SE.sv (s := se_var)))
        case g14 =>
          refine SE.sv (s := ?g15)
          refine se_bin (ho := ok_add) (ha := ?g16) (hb := (SE.sv (s := se_int)))
          refine SE.sv (s := ?g17)
          refine se_bin (ho := ok_fdiv) (ha := ?g18) (hb := (SE.sv (s := se_int)))
          refine SE.sv (s := ?g19)
          refine se_callB (hc := ok_abs) (hm := n_abs) (ha := ?g20)
          refine sa_cons (ha := (SE.sv (s := se_var))) (hr := sa_nil)
      case g8 =>
        refine SE.sv (s := ?g21)
        refine se_bin (ho := ok_mulI) (ha := (SE.sv (s := se_int))) (hb := ?g22)
        refine SE.sv (s := ?g23)
        refine se_bin (ho := ok_add) (ha := (SE.sv (s := se_var))) (hb := (SE.sv (s := se_int)))
  case g2 =>
    refine sss_cons (h1 := ?g24) (h2 := ?g25)
    case g24 =>
      refine ss_set (he := ?g26)
      refine se_callB (hc := ok_abs) (hm := n_abs) (ha := ?g27)
      refine sa_cons (ha := (SE.sv (s := se_var))) (hr := sa_nil)
    case g25 =>
      refine sss_cons (h1 := ?g28) (h2 := ?g29)
      case g28 =>
        refine ss_set (he := ?g30)
        refine se_if (hc := ?g31) (ha := se_var) (hb := se_int)
        refine sb_cmp (ho := ok_ge) (ha := (SE.sv (s := se_var))) (hb := (SE.sv (s := se_int)))
      case g29 =>
        refine sss_cons (h1 := ?g32) (h2 := sss_nil)
        refine ss_ret (he := ?g33)
        refine se_loc (ha := ?g34)
        refine sa_cons (ha := (SE.sv (s := se_var))) (hr := ?g35)
        refine sa_cons (ha := ?g36) (hr := ?g37)
        case g36 =>
          refine SE.sv (s := ?g38)
          refine se_bin (ho := ok_add) (ha := ?g39) (hb := ?g40)
          case g39 =>
            refine SE.sv (s := ?g41)
            refine se_bin (ho := ok_add) (ha := ?g42) (hb := ?g43)
            case g42 =>
              refine SE.sv (s := ?g44)
              refine se_bin (ho := ok_mod) (ha := ?g45) (hb := (SE.sv (s := se_int)))
              refine SE.sv (s := ?g46)
              refine se_callTy (hc := ok_int) (hm := n_int) (ha := ?g47)
              refine sa_cons (ha := (SE.sv (s := se_var))) (hr := sa_nil)
            case g43 =>
              refine SE.sv (s := ?g48)
              refine se_bin (ho := ok_mulI) (ha := (SE.sv (s := se_int))) (hb := (SE.sv (s := se_var)))
          case g40 =>
            refine SE.sv (s := ?g49)
            refine se_if (hc := ?g50) (ha := se_int) (hb := se_int)
            refine sb_cmp (ho := ok_lt) (ha := (SE.sv (s := se_var))) (hb := (SE.sv (s := se_int)))
        case g37 =>
          refine sa_cons (ha := (SE.sv (s := se_int))) (hr := sa_nil)

/-! ### _law_pick -/
abbrev s__law_pick : Stmt := topS 42
theorem sc__law_pick : FnScope ["_law_bag", "_law_many", "_law_digit", "_law_one", "_law_two"] ["_law_bag", "_law_many"] (defScope s__law_pick) := ⟨rfl, rfl, rfl, by decide +kernel, rfl, by decide +kernel, by decide +kernel⟩
theorem bn__law_pick (kV doc pm : Value) (an : Option Addr) (cdv ct : Value) (us : List Value) (hl : us.length = (["_law_bag", "_law_many"] : List Str).length) : bindArgs (PySem.W.fnOf "_law_pick" "_law_pick" (defArgs s__law_pick) (defBody s__law_pick) (defScope s__law_pick) .none kV doc pm an cdv ct) ⟨us, []⟩ = pure ((["_law_bag", "_law_many"] : List Str).zip us) :=
  match us, hl with | [_, _], _ => rfl
def b__law_pick : MS := (sSeq (sIf (toB (eOp2 ltO (fz (eVar 1)) (fz (eC (D.int 2))))) (sSeq (sRet (eC (D.int 0))) sNil) sNil) (sSeq (sIf (toB (eOp2 gtO (fz (eIxV 0 ixO (fz (eC (D.int 0))))) (fz (eC (D.int 0))))) (sSeq (sSet 2 (eOp2 modO (fz (eCallB intO (aCons (fz (eIxV 0 ixO (fz (eC (D.int 0))))) aNil))) (fz (eVar 1)))) (sSeq (sStIx 0 (fz (eC (D.int 0))) (fz (eOp2 fdivO (fz (eIxV 0 ixO (fz (eC (D.int 0))))) (fz (eVar 1))))) (sSeq (sRet (eVar 2)) sNil))) sNil) (sSeq (sStIx 0 (fz (eC (D.int 2))) (fz (eOp2 addO (fz (eIxV 0 ixO (fz (eC (D.int 2))))) (fz (eC (D.int 1)))))) (sSeq (sSet 3 (eOp2 modO (fz (eCallB intO (aCons (fz (eOp2 addO (fz (eOp2 mulIO (fz (eIxV 0 ixO (fz (eC (D.int 1))))) (fz (eC (D.int 48271))))) (fz (eOp2 mulIO (fz (eIxV 0 ixO (fz (eC (D.int 2))))) (fz (eC (D.int 69621))))))) aNil))) (fz (eC (D.int 2147483647))))) (sSeq (sSet 4 (eOp2 modO (fz (eCallB intO (aCons (fz (eOp2 addO (fz (eOp2 addO (fz (eOp2 mulIO (fz (eVar 3)) (fz (eVar 3)))) (fz (eIxV 0 ixO (fz (eC (D.int 1))))))) (fz (eOp2 mulIO (fz (eIxV 0 ixO (fz (eC (D.int 2))))) (fz (eC (D.int 1299709))))))) aNil))) (fz (eC (D.int 1000000007))))) (sSeq (sRet (eOp2 modO (fz (eCallB intO (aCons (fz (eOp2 fdivO (fz (eVar 4)) (fz (eC (D.int 5))))) aNil))) (fz (eVar 1)))) sNil))))))
def m__law_pick : MF := runF 5 b__law_pick
theorem ok__law_pick {k : Nat} (df : Df K mg "_law_pick" s__law_pick ["_law_bag", "_law_many"]) (n_int : mg "int" = none) : FnM P w K mg base (k + 1) "_law_pick" 2 m__law_pick := by
  refine fnM_ok (mb := b__law_pick) df sc__law_pick ?_ rfl rfl
  unfold b__law_pick
  refine sss_cons (h1 := ?g1) (h2 := ?g2)
  case g1 =>
    refine ss_if (hc := ?g3) (ha := ?g4) (hb := sss_nil)
    case g3 =>
      refine sb_cmp (ho := ok_lt) (ha := (SE.sv (s := se_var))) (hb := (SE.sv (s := se_int)))
    case g4 =>
      refine sss_cons (h1 := (ss_ret (he := se_int))) (h2 := sss_nil)
  case g2 =>
    refine sss_cons (h1 := ?g5) (h2 := ?g6)
    case g5 =>
      refine ss_if (hc := ?g7) (ha := ?g8) (hb := sss_nil)
      case g7 =>
        refine sb_cmp (ho := ok_gt) (ha := ?g9) (hb := (SE.sv (s := se_int)))
        refine SE.sv (s := ?g10)
        refine se_ixv (hi := ok_ix) (hb := (SE.sv (s := se_int)))
      case g8 =>
        refine sss_cons (h1 := ?g11) (h2 := ?g12)
        case g11 =>
          refine ss_set (he := ?g13)
          refine se_bin (ho := ok_mod) (ha := ?g14) (hb := (SE.sv (s := se_var)))
          refine SE.sv (s := ?g15)
          refine se_callTy (hc := ok_int) (hm := n_int) (ha := ?g16)
          refine sa_cons (ha := ?g17) (hr := sa_nil)
          refine SE.sv (s := ?g18)
          refine se_ixv (hi := ok_ix) (hb := (SE.sv (s := se_int)))
        case g12 =>
          refine sss_cons (h1 := ?g19) (h2 := ?g20)
          case g19 =>
            refine ss_stix (hk := (SE.sv (s := se_int))) (he := ?g21)
            refine SE.sv (s := ?g22)
            refine se_bin (ho := ok_fdiv) (ha := ?g23) (hb := (SE.sv (s := se_var)))
            refine SE.sv (s := ?g24)
            refine se_ixv (hi := ok_ix) (hb := (SE.sv (s := se_int)))
          case g20 =>
            refine sss_cons (h1 := (ss_ret (he := se_var))) (h2 := sss_nil)
    case g6 =>
      refine sss_cons (h1 := ?g25) (h2 := ?g26)
      case g25 =>
        refine ss_stix (hk := (SE.sv (s := se_int))) (he := ?g27)
        refine SE.sv (s := ?g28)
        refine se_bin (ho := ok_add) (ha := ?g29) (hb := (SE.sv (s := se_int)))
        refine SE.sv (s := ?g30)
        refine se_ixv (hi := ok_ix) (hb := (SE.sv (s := se_int)))
      case g26 =>
        refine sss_cons (h1 := ?g31) (h2 := ?g32)
        case g31 =>
          refine ss_set (he := ?g33)
          refine se_bin (ho := ok_mod) (ha := ?g34) (hb := (SE.sv (s := se_int)))
          refine SE.sv (s := ?g35)
          refine se_callTy (hc := ok_int) (hm := n_int) (ha := ?g36)
          refine sa_cons (ha := ?g37) (hr := sa_nil)
          refine SE.sv (s := ?g38)
          refine se_bin (ho := ok_add) (ha := ?g39) (hb := ?g40)
          case g39 =>
            refine SE.sv (s := ?g41)
            refine se_bin (ho := ok_mulI) (ha := ?g42) (hb := (SE.sv (s := se_int)))
            refine SE.sv (s := ?g43)
            refine se_ixv (hi := ok_ix) (hb := (SE.sv (s := se_int)))
          case g40 =>
            refine SE.sv (s := ?g44)
            refine se_bin (ho := ok_mulI) (ha := ?g45) (hb := (SE.sv (s := se_int)))
            refine SE.sv (s := ?g46)
            refine se_ixv (hi := ok_ix) (hb := (SE.sv (s := se_int)))
        case g32 =>
          refine sss_cons (h1 := ?g47) (h2 := ?g48)
          case g47 =>
            refine ss_set (he := ?g49)
            refine se_bin (ho := ok_mod) (ha := ?g50) (hb := (SE.sv (s := se_int)))
            refine SE.sv (s := ?g51)
            refine se_callTy (hc := ok_int) (hm := n_int) (ha := ?g52)
            refine sa_cons (ha := ?g53) (hr := sa_nil)
            refine SE.sv (s := ?g54)
            refine se_bin (ho := ok_add) (ha := ?g55) (hb := ?g56)
            case g55 =>
              refine SE.sv (s := ?g57)
              refine se_bin (ho := ok_add) (ha := ?g58) (hb := ?g59)
              case g58 =>
                refine SE.sv (s := ?g60)
                refine se_bin (ho := ok_mulI) (ha := (SE.sv (s := se_var))) (hb := (SE.sv (s := se_var)))
              case g59 =>
                refine SE.sv (s := ?g61)
                refine se_ixv (hi := ok_ix) (hb := (SE.sv (s := se_int)))
            case g56 =>
              refine SE.sv (s := ?g62)
              refine se_bin (ho := ok_mulI) (ha := ?g63) (hb := (SE.sv (s := se_int)))
              refine SE.sv (s := ?g64)
              refine se_ixv (hi := ok_ix) (hb := (SE.sv (s := se_int)))
          case g48 =>
            refine sss_cons (h1 := ?g65) (h2 := sss_nil)
            refine ss_ret (he := ?g66)
            refine se_bin (ho := ok_mod) (ha := ?g67) (hb := (SE.sv (s := se_var)))
            refine SE.sv (s := ?g68)
            refine se_callTy (hc := ok_int) (hm := n_int) (ha := ?g69)
            refine sa_cons (ha := ?g70) (hr := sa_nil)
            refine SE.sv (s := ?g71)
            refine se_bin (ho := ok_fdiv) (ha := (SE.sv (s := se_var))) (hb := (SE.sv (s := se_int)))

/-! ### _law_one_of -/
abbrev s__law_one_of : Stmt := topS 43
theorem sc__law_one_of : FnScope ["_law_bag", "_law_row"] ["_law_bag", "_law_row"] (defScope s__law_one_of) := ⟨rfl, rfl, rfl, by decide +kernel, rfl, by decide +kernel, by decide +kernel⟩
theorem bn__law_one_of (kV doc pm : Value) (an : Option Addr) (cdv ct : Value) (us : List Value) (hl : us.length = (["_law_bag", "_law_row"] : List Str).length) : bindArgs (PySem.W.fnOf "_law_one_of" "_law_one_of" (defArgs s__law_one_of) (defBody s__law_one_of) (defScope s__law_one_of) .none kV doc pm an cdv ct) ⟨us, []⟩ = pure ((["_law_bag", "_law_row"] : List Str).zip us) :=
  match us, hl with | [_, _], _ => rfl
def b__law_one_of : MS := (sSeq (sRet (eIxV 1 ixO (fz (eCall m__law_pick (aCons (fz (eVar 0)) (aCons (fz (eLenV 1 lenO)) aNil)))))) sNil)
def m__law_one_of : MF := runF 2 b__law_one_of
theorem ok__law_one_of {k : Nat} (df : Df K mg "_law_one_of" s__law_one_of ["_law_bag", "_law_row"]) (f__law_pick : FnM P w K mg base k "_law_pick" 2 m__law_pick) (n_len : mg "len" = none) : FnM P w K mg base (k + 1) "_law_one_of" 2 m__law_one_of := by
  refine fnM_ok (mb := b__law_one_of) df sc__law_one_of ?_ rfl rfl
  unfold b__law_one_of
  refine sss_cons (h1 := ?g1) (h2 := sss_nil)
  refine ss_ret (he := ?g2)
  refine se_ixv (hi := ok_ix) (hb := ?g3)
  refine SE.sv (s := ?g4)
  refine se_call (hf := f__law_pick) (ha := ?g5)
  refine sa_cons (ha := (SE.sv (s := se_var))) (hr := ?g6)
  refine sa_cons (ha := (SE.sv (s := (se_lenv (hc := ok_len) (hm := n_len))))) (hr := sa_nil)

/-! ### _law_mixed -/
abbrev s__law_mixed : Stmt := topS 44
theorem sc__law_mixed : FnScope ["_law_bag", "_law_row", "_law_left", "_law_told", "_law_k"] ["_law_bag", "_law_row"] (defScope s__law_mixed) := ⟨rfl, rfl, rfl, by decide +kernel, rfl, by decide +kernel, by decide +kernel⟩
theorem bn__law_mixed (kV doc pm : Value) (an : Option Addr) (cdv ct : Value) (us : List Value) (hl : us.length = (["_law_bag", "_law_row"] : List Str).length) : bindArgs (PySem.W.fnOf "_law_mixed" "_law_mixed" (defArgs s__law_mixed) (defBody s__law_mixed) (defScope s__law_mixed) .none kV doc pm an cdv ct) ⟨us, []⟩ = pure ((["_law_bag", "_law_row"] : List Str).zip us) :=
  match us, hl with | [_, _], _ => rfl
def b__law_mixed : MS := (sSeq (sSet 2 (eCallB listO (aCons (fz (eVar 1)) aNil))) (sSeq (sSet 3 (eLst aNil)) (sSeq (sFor (tN 4) (iRange1 (fz (eLenV 1 lenO))) (sSeq (sExpr (eMut 3 appOp (aCons (fz (eMut 2 popOp (aCons (fz (eCall m__law_pick (aCons (fz (eVar 0)) (aCons (fz (eLenV 2 lenO)) aNil)))) aNil))) aNil))) sNil)) (sSeq (sRet (eVar 3)) sNil))))
def m__law_mixed : MF := runF 5 b__law_mixed
theorem ok__law_mixed {k : Nat} (df : Df K mg "_law_mixed" s__law_mixed ["_law_bag", "_law_row"]) (f__law_pick : FnM P w K mg base k "_law_pick" 2 m__law_pick) (n_range : mg "range" = none) (n_len : mg "len" = none) (n_list : mg "list" = none) : FnM P w K mg base (k + 1) "_law_mixed" 2 m__law_mixed := by
  refine fnM_ok (mb := b__law_mixed) df sc__law_mixed ?_ rfl rfl
  unfold b__law_mixed
  refine sss_cons (h1 := ?g1) (h2 := ?g2)
  case g1 =>
    refine ss_set (he := ?g3)
    refine se_callTy (hc := ok_list) (hm := n_list) (ha := ?g4)
    refine sa_cons (ha := (SE.sv (s := se_var))) (hr := sa_nil)
  case g2 =>
    refine sss_cons (h1 := ?g5) (h2 := ?g6)
    case g5 =>
      refine ss_set (he := (se_lst (ha := sa_nil)))
    case g6 =>
      refine sss_cons (h1 := ?g7) (h2 := ?g8)
      case g7 =>
        refine ss_for (vs := [4]) (hg := sg_name) (hi := ?g9) (hb := ?g10)
        case g9 =>
          refine si_range1 (hm := n_range) (ha := (SE.sv (s := (se_lenv (hc := ok_len) (hm := n_len)))))
        case g10 =>
          refine sss_cons (h1 := ?g11) (h2 := sss_nil)
          refine ss_expr (he := ?g12)
          refine se_mut (slot := PySem.F.slot_list_append) (hty := PySem.F.type_list_append) (hm := ok_append) (ha := ?g13)
          refine sa_cons (ha := ?g14) (hr := sa_nil)
          refine SE.sv (s := ?g15)
          refine se_mut (slot := PySem.F.slot_list_pop) (hty := PySem.F.type_list_pop) (hm := ok_pop) (ha := ?g16)
          refine sa_cons (ha := ?g17) (hr := sa_nil)
          refine SE.sv (s := ?g18)
          refine se_call (hf := f__law_pick) (ha := ?g19)
          refine sa_cons (ha := (SE.sv (s := se_var))) (hr := ?g20)
          refine sa_cons (ha := (SE.sv (s := (se_lenv (hc := ok_len) (hm := n_len))))) (hr := sa_nil)
      case g8 =>
        refine sss_cons (h1 := (ss_ret (he := se_var))) (h2 := sss_nil)

/-! ### _law_listed_of -/
abbrev s__law_listed_of : Stmt := topS 45
theorem sc__law_listed_of : FnScope ["_law_thing", "_law_part"] ["_law_thing"] (defScope s__law_listed_of) := ⟨rfl, rfl, rfl, by decide +kernel, rfl, by decide +kernel, by decide +kernel⟩
theorem bn__law_listed_of (kV doc pm : Value) (an : Option Addr) (cdv ct : Value) (us : List Value) (hl : us.length = (["_law_thing"] : List Str).length) : bindArgs (PySem.W.fnOf "_law_listed_of" "_law_listed_of" (defArgs s__law_listed_of) (defBody s__law_listed_of) (defScope s__law_listed_of) .none kV doc pm an cdv ct) ⟨us, []⟩ = pure ((["_law_thing"] : List Str).zip us) :=
  match us, hl with | [_], _ => rfl
def b__law_listed_of (rec : MF) : MS := (sSeq (sIf (bOr (bTru (fz (eIsi "tuple" (fz (eVar 0))))) (bTru (fz (eIsi "list" (fz (eVar 0)))))) (sSeq (sRet (eComp [] (tN 1) (iOf (fz (eVar 0))) bYes (fz (eCall rec (aCons (fz (eVar 1)) aNil))))) sNil) sNil) (sSeq (sRet (eVar 0)) sNil))
def m__law_listed_of : Nat → MF
  | 0 => runF 2 sNo
  | n + 1 => runF 2 (b__law_listed_of (m__law_listed_of n))
theorem ok__law_listed_of {k : Nat} (df : Df K mg "_law_listed_of" s__law_listed_of ["_law_thing"]) (n_isinstance : mg "isinstance" = none) (n_list : mg "list" = none) (n_tuple : mg "tuple" = none) : ∀ n, FnM P w K mg base (k + 1 + n) "_law_listed_of" 1 (m__law_listed_of n) :=
  fnM_rec (m := m__law_listed_of) (mb := b__law_listed_of) df sc__law_listed_of (m0 := rfl) (mS := fun _ => rfl) fun n hrec => by
    unfold b__law_listed_of
    refine sss_cons (h1 := ?g1) (h2 := ?g2)
    case g1 =>
      refine ss_if (hc := ?g3) (ha := ?g4) (hb := sss_nil)
      case g3 =>
        refine sb_w (hw := ?g5)
        refine sw_or (ha := ?g6) (hb := ?g7)
        case g6 =>
          refine sb_tru (ha := ?g8)
          refine SE.sv (s := ?g9)
          refine se_isi (hmi := n_isinstance) (hm := n_tuple) (ha := (SE.sv (s := se_var)))
        case g7 =>
          refine sw_one (ha := ?g10)
          refine sb_tru (ha := ?g11)
          refine SE.sv (s := ?g12)
          refine se_isi (hmi := n_isinstance) (hm := n_list) (ha := (SE.sv (s := se_var)))
      case g4 =>
        refine sss_cons (h1 := ?g13) (h2 := sss_nil)
        refine ss_ret (he := ?g14)
        refine se_comp (own := [("_law_part", 1)]) (cap := []) (tvs := [1]) (hi := ?g15) (hg := sg_name) (hc := sbs_nil) (he := ?g16)
        case g15 =>
          refine si_val (he := (SE.sv (s := se_var)))
        case g16 =>
          refine SE.sv (s := ?g17)
          refine se_call (hf := hrec) (ha := ?g18)
          refine sa_cons (ha := (SE.sv (s := se_var))) (hr := sa_nil)
    case g2 =>
      refine sss_cons (h1 := (ss_ret (he := se_var))) (h2 := sss_nil)

/-! ### _law_no_list -/
abbrev s__law_no_list : Stmt := topS 46
theorem sc__law_no_list : FnScope ["_law_thing", "_law_part"] ["_law_thing"] (defScope s__law_no_list) := ⟨rfl, rfl, rfl, by decide +kernel, rfl, by decide +kernel, by decide +kernel⟩
theorem bn__law_no_list (kV doc pm : Value) (an : Option Addr) (cdv ct : Value) (us : List Value) (hl : us.length = (["_law_thing"] : List Str).length) : bindArgs (PySem.W.fnOf "_law_no_list" "_law_no_list" (defArgs s__law_no_list) (defBody s__law_no_list) (defScope s__law_no_list) .none kV doc pm an cdv ct) ⟨us, []⟩ = pure ((["_law_thing"] : List Str).zip us) :=
  match us, hl with | [_], _ => rfl
def b__law_no_list (rec : MF) : MS := (sSeq (sIf (bTru (fz (eIsi "tuple" (fz (eVar 0))))) (sSeq (sRet (eCallB allO (aCons (fz (eComp [] (tN 1) (iOf (fz (eVar 0))) bYes (fz (eCall rec (aCons (fz (eVar 1)) aNil))))) aNil))) sNil) sNil) (sSeq (sRet (eAnd (fz (eNot (fz (eIsi "list" (fz (eVar 0)))))) (eNot (fz (eIsi "bool" (fz (eVar 0))))))) sNil))
def m__law_no_list : Nat → MF
  | 0 => runF 2 sNo
  | n + 1 => runF 2 (b__law_no_list (m__law_no_list n))
theorem ok__law_no_list {k : Nat} (df : Df K mg "_law_no_list" s__law_no_list ["_law_thing"]) (n_isinstance : mg "isinstance" = none) (n_bool : mg "bool" = none) (n_list : mg "list" = none) (n_tuple : mg "tuple" = none) (n_all : mg "all" = none) : ∀ n, FnM P w K mg base (k + 1 + n) "_law_no_list" 1 (m__law_no_list n) :=
  fnM_rec (m := m__law_no_list) (mb := b__law_no_list) df sc__law_no_list (m0 := rfl) (mS := fun _ => rfl) fun n hrec => by
    unfold b__law_no_list
    refine sss_cons (h1 := ?g1) (h2 := ?g2)
    case g1 =>
      refine ss_if (hc := ?g3) (ha := ?g4) (hb := sss_nil)
      case g3 =>
        refine sb_tru (ha := ?g5)
        refine SE.sv (s := ?g6)
        refine se_isi (hmi := n_isinstance) (hm := n_tuple) (ha := (SE.sv (s := se_var)))
      case g4 =>
        refine sss_cons (h1 := ?g7) (h2 := sss_nil)
        refine ss_ret (he := ?g8)
        refine se_callB (hc := ok_all) (hm := n_all) (ha := ?g9)
        refine sa_cons (ha := ?g10) (hr := sa_nil)
        refine SE.sv (s := ?g11)
        refine se_comp (own := [("_law_part", 1)]) (cap := []) (tvs := [1]) (hi := ?g12) (hg := sg_name) (hc := sbs_nil) (he := ?g13)
        case g12 =>
          refine si_val (he := (SE.sv (s := se_var)))
        case g13 =>
          refine SE.sv (s := ?g14)
          refine se_call (hf := hrec) (ha := ?g15)
          refine sa_cons (ha := (SE.sv (s := se_var))) (hr := sa_nil)
    case g2 =>
      refine sss_cons (h1 := ?g16) (h2 := sss_nil)
      refine ss_ret (he := ?g17)
      refine se_and (ha := ?g18) (hb := ?g19)
      case g18 =>
        refine SE.sv (s := ?g20)
        refine se_not (ha := ?g21)
        refine SE.sv (s := ?g22)
        refine se_isi (hmi := n_isinstance) (hm := n_list) (ha := (SE.sv (s := se_var)))
      case g19 =>
        refine se_one (ha := ?g23)
        refine se_not (ha := ?g24)
        refine SE.sv (s := ?g25)
        refine se_isi (hmi := n_isinstance) (hm := n_bool) (ha := (SE.sv (s := se_var)))

/-! ### _law_same_tuple -/
abbrev s__law_same_tuple : Stmt := topS 47
theorem sc__law_same_tuple : FnScope ["_law_told", "_law_wanted"] ["_law_told", "_law_wanted"] (defScope s__law_same_tuple) := ⟨rfl, rfl, rfl, by decide +kernel, rfl, by decide +kernel, by decide +kernel⟩
theorem bn__law_same_tuple (kV doc pm : Value) (an : Option Addr) (cdv ct : Value) (us : List Value) (hl : us.length = (["_law_told", "_law_wanted"] : List Str).length) : bindArgs (PySem.W.fnOf "_law_same_tuple" "_law_same_tuple" (defArgs s__law_same_tuple) (defBody s__law_same_tuple) (defScope s__law_same_tuple) .none kV doc pm an cdv ct) ⟨us, []⟩ = pure ((["_law_told", "_law_wanted"] : List Str).zip us) :=
  match us, hl with | [_, _], _ => rfl
def b__law_same_tuple : MS := (sSeq (sRet (eAnd (fz (eIsi "tuple" (fz (eVar 0)))) (eAnd (fz (eOp2 eqO (fz (eVar 0)) (fz (eVar 1)))) (eCall (m__law_no_list rF) (aCons (fz (eVar 0)) aNil))))) sNil)
def m__law_same_tuple : MF := runF 2 b__law_same_tuple
theorem ok__law_same_tuple {k : Nat} (df : Df K mg "_law_same_tuple" s__law_same_tuple ["_law_told", "_law_wanted"]) (f__law_no_list : FnM P w K mg base k "_law_no_list" 1 (m__law_no_list rF)) (n_isinstance : mg "isinstance" = none) (n_tuple : mg "tuple" = none) : FnM P w K mg base (k + 1) "_law_same_tuple" 2 m__law_same_tuple := by
  refine fnM_ok (mb := b__law_same_tuple) df sc__law_same_tuple ?_ rfl rfl
  unfold b__law_same_tuple
  refine sss_cons (h1 := ?g1) (h2 := sss_nil)
  refine ss_ret (he := ?g2)
  refine se_and (ha := ?g3) (hb := ?g4)
  case g3 =>
    refine SE.sv (s := ?g5)
    refine se_isi (hmi := n_isinstance) (hm := n_tuple) (ha := (SE.sv (s := se_var)))
  case g4 =>
    refine se_and (ha := ?g6) (hb := ?g7)
    case g6 =>
      refine SE.sv (s := ?g8)
      refine se_cmp (ho := ok_eq) (ha := (SE.sv (s := se_var))) (hb := (SE.sv (s := se_var)))
    case g7 =>
      refine se_one (ha := ?g9)
      refine se_call (hf := f__law_no_list) (ha := ?g10)
      refine sa_cons (ha := (SE.sv (s := se_var))) (hr := sa_nil)

/-! ### _law_many_signs -/
abbrev s__law_many_signs : Stmt := topS 48
theorem sc__law_many_signs : FnScope ["_law_bag", "_law_many"] ["_law_bag"] (defScope s__law_many_signs) := ⟨rfl, rfl, rfl, by decide +kernel, rfl, by decide +kernel, by decide +kernel⟩
theorem bn__law_many_signs (kV doc pm : Value) (an : Option Addr) (cdv ct : Value) (us : List Value) (hl : us.length = (["_law_bag"] : List Str).length) : bindArgs (PySem.W.fnOf "_law_many_signs" "_law_many_signs" (defArgs s__law_many_signs) (defBody s__law_many_signs) (defScope s__law_many_signs) .none kV doc pm an cdv ct) ⟨us, []⟩ = pure ((["_law_bag"] : List Str).zip us) :=
  match us, hl with | [_], _ => rfl
def b__law_many_signs : MS := (sSeq (sSet 1 (eOp2 addO (fz (eC (D.int 2))) (fz (eCall m__law_pick (aCons (fz (eVar 0)) (aCons (fz (eOp2 ixO (fz (eLst (aCons (fz (eC (D.int 3))) (aCons (fz (eC (D.int 11))) aNil)))) (fz (eCall m__law_pick (aCons (fz (eVar 0)) (aCons (fz (eC (D.int 2))) aNil)))))) aNil)))))) (sSeq (sRet (eMtS joinO (fz (eC (D.str []))) (aCons (fz (eCallB sortSO (aCons (fz (eSl (fz (eCall m__law_mixed (aCons (fz (eVar 0)) (aCons (fz (eC (D.str [48, 49, 50, 51, 52, 53, 54, 55, 56, 57, 65, 66, 67, 68, 69, 70, 71, 72, 73, 74, 75, 76, 77, 78, 79, 80, 81, 82, 83, 84, 85, 86, 87, 88, 89, 90]))) aNil)))) pNone (pSome (fz (eVar 1))))) aNil))) aNil))) sNil))
def m__law_many_signs : MF := runF 2 b__law_many_signs
theorem ok__law_many_signs {k : Nat} (df : Df K mg "_law_many_signs" s__law_many_signs ["_law_bag"]) (f__law_mixed : FnM P w K mg base k "_law_mixed" 2 m__law_mixed) (f__law_pick : FnM P w K mg base k "_law_pick" 2 m__law_pick) (n_sorted : mg "sorted" = none) : FnM P w K mg base (k + 1) "_law_many_signs" 1 m__law_many_signs := by
  refine fnM_ok (mb := b__law_many_signs) df sc__law_many_signs ?_ rfl rfl
  unfold b__law_many_signs
  refine sss_cons (h1 := ?g1) (h2 := ?g2)
  case g1 =>
    refine ss_set (he := ?g3)
    refine se_bin (ho := ok_add) (ha := (SE.sv (s := se_int))) (hb := ?g4)
    refine SE.sv (s := ?g5)
    refine se_call (hf := f__law_pick) (ha := ?g6)
    refine sa_cons (ha := (SE.sv (s := se_var))) (hr := ?g7)
    refine sa_cons (ha := ?g8) (hr := sa_nil)
    refine SE.sv (s := ?g9)
    refine se_ix (hi := ok_ix) (ha := ?g10) (hb := ?g11)
    case g10 =>
      refine SE.sv (s := ?g12)
      refine se_lst (ha := ?g13)
      refine sa_cons (ha := (SE.sv (s := se_int))) (hr := ?g14)
      refine sa_cons (ha := (SE.sv (s := se_int))) (hr := sa_nil)
    case g11 =>
      refine SE.sv (s := ?g15)
      refine se_call (hf := f__law_pick) (ha := ?g16)
      refine sa_cons (ha := (SE.sv (s := se_var))) (hr := ?g17)
      refine sa_cons (ha := (SE.sv (s := se_int))) (hr := sa_nil)
  case g2 =>
    refine sss_cons (h1 := ?g18) (h2 := sss_nil)
    refine ss_ret (he := ?g19)
    refine se_mtS (slot := PySem.F.slot_str_join) (hty := PySem.F.type_str_join) (hm := ok_join) (ho := (SE.sv (s := se_str))) (ha := ?g20)
    refine sa_cons (ha := ?g21) (hr := sa_nil)
    refine SE.sv (s := ?g22)
    refine se_callB (hc := ok_sortS) (hm := n_sorted) (ha := ?g23)
    refine sa_cons (ha := ?g24) (hr := sa_nil)
    refine SE.sv (s := ?g25)
    refine se_sl (he := ?g26) (hl := so_none) (hh := ?g27)
    case g26 =>
      refine SE.sv (s := ?g28)
      refine se_call (hf := f__law_mixed) (ha := ?g29)
      refine sa_cons (ha := (SE.sv (s := se_var))) (hr := ?g30)
      refine sa_cons (ha := (SE.sv (s := se_str))) (hr := sa_nil)
    case g27 =>
      refine so_some (he := (SE.sv (s := se_var)))

/-! ### _law_commas -/
abbrev s__law_commas : Stmt := topS 49
theorem sc__law_commas : FnScope ["_law_row", "_law_one"] ["_law_row"] (defScope s__law_commas) := ⟨rfl, rfl, rfl, by decide +kernel, rfl, by decide +kernel, by decide +kernel⟩
theorem bn__law_commas (kV doc pm : Value) (an : Option Addr) (cdv ct : Value) (us : List Value) (hl : us.length = (["_law_row"] : List Str).length) : bindArgs (PySem.W.fnOf "_law_commas" "_law_commas" (defArgs s__law_commas) (defBody s__law_commas) (defScope s__law_commas) .none kV doc pm an cdv ct) ⟨us, []⟩ = pure ((["_law_row"] : List Str).zip us) :=
  match us, hl with | [_], _ => rfl
def b__law_commas : MS := (sSeq (sRet (eMtS joinO (fz (eC (D.str [44]))) (aCons (fz (eComp [] (tN 1) (iOf (fz (eVar 0))) bYes (fz (eCallB strO (aCons (fz (eVar 1)) aNil))))) aNil))) sNil)
def m__law_commas : MF := runF 2 b__law_commas
theorem ok__law_commas {k : Nat} (df : Df K mg "_law_commas" s__law_commas ["_law_row"]) (n_str : mg "str" = none) : FnM P w K mg base (k + 1) "_law_commas" 1 m__law_commas := by
  refine fnM_ok (mb := b__law_commas) df sc__law_commas ?_ rfl rfl
  unfold b__law_commas
  refine sss_cons (h1 := ?g1) (h2 := sss_nil)
  refine ss_ret (he := ?g2)
  refine se_mtS (slot := PySem.F.slot_str_join) (hty := PySem.F.type_str_join) (hm := ok_join) (ho := (SE.sv (s := se_str))) (ha := ?g3)
  refine sa_cons (ha := ?g4) (hr := sa_nil)
  refine SE.sv (s := ?g5)
  refine se_comp (own := [("_law_one", 1)]) (cap := []) (tvs := [1]) (hi := ?g6) (hg := sg_name) (hc := sbs_nil) (he := ?g7)
  case g6 =>
    refine si_val (he := (SE.sv (s := se_var)))
  case g7 =>
    refine SE.sv (s := ?g8)
    refine se_callTy (hc := ok_str) (hm := n_str) (ha := ?g9)
    refine sa_cons (ha := (SE.sv (s := se_var))) (hr := sa_nil)

/-! ### _law_rule_words -/
abbrev s__law_rule_words : Stmt := topS 50
theorem sc__law_rule_words : FnScope ["_law_rule", "_law_word", "_law_row"] ["_law_rule"] (defScope s__law_rule_words) := ⟨rfl, rfl, rfl, by decide +kernel, rfl, by decide +kernel, by decide +kernel⟩
theorem bn__law_rule_words (kV doc pm : Value) (an : Option Addr) (cdv ct : Value) (us : List Value) (hl : us.length = (["_law_rule"] : List Str).length) : bindArgs (PySem.W.fnOf "_law_rule_words" "_law_rule_words" (defArgs s__law_rule_words) (defBody s__law_rule_words) (defScope s__law_rule_words) .none kV doc pm an cdv ct) ⟨us, []⟩ = pure ((["_law_rule"] : List Str).zip us) :=
  match us, hl with | [_], _ => rfl
def b__law_rule_words (rec : MF) : MS := (sSeq (sSet 1 (eIxV 0 ixO (fz (eC (D.int 0))))) (sSeq (sIf (toB (eOp2 eqO (fz (eVar 1)) (fz (eC (D.str [115, 117, 109]))))) (sSeq (sRet (eLst (aCons (fz (eVar 1)) (aCons (fz (eCallB strO (aCons (fz (eIxV 0 ixO (fz (eC (D.int 1))))) aNil))) (aCons (fz (eCall m__law_commas (aCons (fz (eIxV 0 ixO (fz (eC (D.int 2))))) aNil))) (aCons (fz (eCallB strO (aCons (fz (eIxV 0 ixO (fz (eC (D.int 3))))) aNil))) aNil)))))) sNil) sNil) (sSeq (sIf (toB (eOp2 eqO (fz (eVar 1)) (fz (eC (D.str [115, 113, 117, 97, 114, 101]))))) (sSeq (sRet (eLst (aCons (fz (eVar 1)) (aCons (fz (eMtS joinO (fz (eC (D.str [47]))) (aCons (fz (eComp [] (tN 2) (iOf (fz (eIxV 0 ixO (fz (eC (D.int 1)))))) bYes (fz (eCall m__law_commas (aCons (fz (eVar 2)) aNil))))) aNil))) (aCons (fz (eCall m__law_commas (aCons (fz (eIxV 0 ixO (fz (eC (D.int 2))))) aNil))) aNil))))) sNil) sNil) (sSeq (sIf (toB (eOp2 eqO (fz (eVar 1)) (fz (eC (D.str [102, 97, 99, 101, 115]))))) (sSeq (sRet (eOp2 addO (fz (eLst (aCons (fz (eVar 1)) (aCons (fz (eMtS joinO (fz (eC (D.str [44]))) (aCons (fz (eIxV 0 ixO (fz (eC (D.int 1))))) aNil))) aNil)))) (fz (eCall rec (aCons (fz (eIxV 0 ixO (fz (eC (D.int 2))))) aNil))))) sNil) sNil) (sSeq (sIf (toB (eOp2 eqO (fz (eVar 1)) (fz (eC (D.str [99, 117, 116]))))) (sSeq (sRet (eOp2 addO (fz (eLst (aCons (fz (eVar 1)) (aCons (fz (eCallB strO (aCons (fz (eIxV 0 ixO (fz (eC (D.int 1))))) aNil))) (aCons (fz (eCallB strO (aCons (fz (eIxV 0 ixO (fz (eC (D.int 2))))) aNil))) aNil))))) (fz (eCall rec (aCons (fz (eIxV 0 ixO (fz (eC (D.int 3))))) aNil))))) sNil) sNil) (sSeq (sIf (toB (eOp2 eqO (fz (eVar 1)) (fz (eC (D.str [97, 110, 121]))))) (sSeq (sRet (eLst (aCons (fz (eVar 1)) aNil))) sNil) sNil) (sSeq (sIf (toB (eOp2 inO (fz (eVar 1)) (fz (eTup (aCons (fz (eC (D.str [98, 97, 99, 107]))) (aCons (fz (eC (D.str [110, 111, 116]))) aNil)))))) (sSeq (sRet (eOp2 addO (fz (eLst (aCons (fz (eVar 1)) aNil))) (fz (eCall rec (aCons (fz (eIxV 0 ixO (fz (eC (D.int 1))))) aNil))))) sNil) sNil) (sSeq (sRet (eOp2 addO (fz (eOp2 addO (fz (eLst (aCons (fz (eVar 1)) aNil))) (fz (eCall rec (aCons (fz (eIxV 0 ixO (fz (eC (D.int 1))))) aNil))))) (fz (eCall rec (aCons (fz (eIxV 0 ixO (fz (eC (D.int 2))))) aNil))))) sNil))))))))
def m__law_rule_words : Nat → MF
  | 0 => runF 3 sNo
  | n + 1 => runF 3 (b__law_rule_words (m__law_rule_words n))
theorem ok__law_rule_words {k : Nat} (df : Df K mg "_law_rule_words" s__law_rule_words ["_law_rule"]) (f__law_commas : FnM P w K mg base k "_law_commas" 1 m__law_commas) (n_str : mg "str" = none) : ∀ n, FnM P w K mg base (k + 1 + n) "_law_rule_words" 1 (m__law_rule_words n) :=
  fnM_rec (m := m__law_rule_words) (mb := b__law_rule_words) df sc__law_rule_words (m0 := rfl) (mS := fun _ => rfl) fun n hrec => by
    have f__law_commas := f__law_commas.mono (k := k + 1 + n)
    unfold b__law_rule_words
    refine sss_cons (h1 := ?g1) (h2 := ?g2)
    case g1 =>
      refine ss_set (he := ?g3)
      refine se_ixv (hi := ok_ix) (hb := (SE.sv (s := se_int)))
    case g2 =>
      refine sss_cons (h1 := ?g4) (h2 := ?g5)
      case g4 =>
        refine ss_if (hc := ?g6) (ha := ?g7) (hb := sss_nil)
        case g6 =>
          refine sb_cmp (ho := ok_eq) (ha := (SE.sv (s := se_var))) (hb := (SE.sv (s := se_str)))
        case g7 =>
          refine sss_cons (h1 := ?g8) (h2 := sss_nil)
          refine ss_ret (he := ?g9)
          refine se_lst (ha := ?g10)
          refine sa_cons (ha := (SE.sv (s := se_var))) (hr := ?g11)
          refine sa_cons (ha := ?g12) (hr := ?g13)
          case g12 =>
            refine SE.sv (s := ?g14)
            refine se_callTy (hc := ok_str) (hm := n_str) (ha := ?g15)
            refine sa_cons (ha := ?g16) (hr := sa_nil)
            refine SE.sv (s := ?g17)
            refine se_ixv (hi := ok_ix) (hb := (SE.sv (s := se_int)))
          case g13 =>
            refine sa_cons (ha := ?g18) (hr := ?g19)
            case g18 =>
              refine SE.sv (s := ?g20)
              refine se_call (hf := f__law_commas) (ha := ?g21)
              refine sa_cons (ha := ?g22) (hr := sa_nil)
              refine SE.sv (s := ?g23)
              refine se_ixv (hi := ok_ix) (hb := (SE.sv (s := se_int)))
            case g19 =>
              refine sa_cons (ha := ?g24) (hr := sa_nil)
              refine SE.sv (s := ?g25)
              refine se_callTy (hc := ok_str) (hm := n_str) (ha := ?g26)
              refine sa_cons (ha := ?g27) (hr := sa_nil)
              refine SE.sv (s := ?g28)
              refine se_ixv (hi := ok_ix) (hb := (SE.sv (s := se_int)))
      case g5 =>
        refine sss_cons (h1 := ?g29) (h2 := ?g30)
        case g29 =>
          refine ss_if (hc := ?g31) (ha := ?g32) (hb := sss_nil)
          case g31 =>
            refine sb_cmp (ho := ok_eq) (ha := (SE.sv (s := se_var))) (hb := (SE.sv (s := se_str)))
          case g32 =>
            refine sss_cons (h1 := ?g33) (h2 := sss_nil)
            refine ss_ret (he := ?g34)
            refine se_lst (ha := ?g35)
            refine sa_cons (ha := (SE.sv (s := se_var))) (hr := ?g36)
            refine sa_cons (ha := ?g37) (hr := ?g38)
            case g37 =>
              refine SE.sv (s := ?g39)
              refine se_mtS (slot := PySem.F.slot_str_join) (hty := PySem.F.type_str_join) (hm := ok_join) (ho := (SE.sv (s := se_str))) (ha := ?g40)
              refine sa_cons (ha := ?g41) (hr := sa_nil)
              refine SE.sv (s := ?g42)
              refine se_comp (own := [("_law_row", 2)]) (cap := []) (tvs := [2]) (hi := ?g43) (hg := sg_name) (hc := sbs_nil) (he := ?g44)
              case g43 =>
                refine si_val (he := ?g45)
                refine SE.sv (s := ?g46)
                refine se_ixv (hi := ok_ix) (hb := (SE.sv (s := se_int)))
              case g44 =>
                refine SE.sv (s := ?g47)
                refine se_call (hf := f__law_commas) (ha := ?g48)
                refine sa_cons (ha := (SE.sv (s := se_var))) (hr := sa_nil)
            case g38 =>
              refine sa_cons (ha := ?g49) (hr := sa_nil)
              refine SE.sv (s := ?g50)
              refine se_call (hf := f__law_commas) (ha := ?g51)
              refine sa_cons (ha := ?g52) (hr := sa_nil)
              refine SE.sv (s := ?g53)
              refine se_ixv (hi := ok_ix) (hb := (SE.sv (s := se_int)))
        case g30 =>
          refine sss_cons (h1 := ?g54) (h2 := ?g55)
          case g54 =>
            refine ss_if (hc := ?g56) (ha := ?g57) (hb := sss_nil)
            case g56 =>
              refine sb_cmp (ho := ok_eq) (ha := (SE.sv (s := se_var))) (hb := (SE.sv (s := se_str)))
            case g57 =>
              refine sss_cons (h1 := ?g58) (h2 := sss_nil)
              refine ss_ret (he := ?g59)
              refine se_bin (ho := ok_add) (ha := ?g60) (hb := ?g61)
              case g60 =>
                refine SE.sv (s := ?g62)
                refine se_lst (ha := ?g63)
                refine sa_cons (ha := (SE.sv (s := se_var))) (hr := ?g64)
                refine sa_cons (ha := ?g65) (hr := sa_nil)
                refine SE.sv (s := ?g66)
                refine se_mtS (slot := PySem.F.slot_str_join) (hty := PySem.F.type_str_join) (hm := ok_join) (ho := (SE.sv (s := se_str))) (ha := ?g67)
                refine sa_cons (ha := ?g68) (hr := sa_nil)
                refine SE.sv (s := ?g69)
                refine se_ixv (hi := ok_ix) (hb := (SE.sv (s := se_int)))
              case g61 =>
                refine SE.sv (s := ?g70)
                refine se_call (hf := hrec) (ha := ?g71)
                refine sa_cons (ha := ?g72) (hr := sa_nil)
                refine SE.sv (s := ?g73)
                refine se_ixv (hi := ok_ix) (hb := (SE.sv (s := se_int)))
          case g55 =>
            refine sss_cons (h1 := ?g74) (h2 := ?g75)
            case g74 =>
              refine ss_if (hc := ?g76) (ha := ?g77) (hb := sss_nil)
              case g76 =>
                refine sb_cmp (ho := ok_eq) (ha := (SE.sv (s := se_var))) (hb := (SE.sv (s := se_str)))
              case g77 =>
                refine sss_cons (h1 := ?g78) (h2 := sss_nil)
                refine ss_ret (he := ?g79)
                refine se_bin (ho := ok_add) (ha := ?g80) (hb := ?g81)
                case g80 =>
                  refine SE.sv (s := ?g82)
                  refine se_lst (ha := ?g83)
                  refine sa_cons (ha := (SE.sv (s := se_var))) (hr := ?g84)
                  refine sa_cons (ha := ?g85) (hr := ?g86)
                  case g85 =>
                    refine SE.sv (s := ?g87)
                    refine se_callTy (hc := ok_str) (hm := n_str) (ha := ?g88)
                    refine sa_cons (ha := ?g89) (hr := sa_nil)
                    refine SE.sv (s := ?g90)
                    refine se_ixv (hi := ok_ix) (hb := (SE.sv (s := se_int)))
                  case g86 =>
                    refine sa_cons (ha := ?g91) (hr := sa_nil)
                    refine SE.sv (s := ?g92)
                    refine se_callTy (hc := ok_str) (hm := n_str) (ha := ?g93)
                    refine sa_cons (ha := ?g94) (hr := sa_nil)
                    refine SE.sv (s := ?g95)
                    refine se_ixv (hi := ok_ix) (hb := (SE.sv (s := se_int)))
                case g81 =>
                  refine SE.sv (s := ?g96)
                  refine se_call (hf := hrec) (ha := ?g97)
                  refine sa_cons (ha := ?g98) (hr := sa_nil)
                  refine SE.sv (s := ?g99)
                  refine se_ixv (hi := ok_ix) (hb := (SE.sv (s := se_int)))
            case g75 =>
              refine sss_cons (h1 := ?g100) (h2 := ?g101)
              case g100 =>
                refine ss_if (hc := ?g102) (ha := ?g103) (hb := sss_nil)
                case g102 =>
                  refine sb_cmp (ho := ok_eq) (ha := (SE.sv (s := se_var))) (hb := (SE.sv (s := se_str)))
                case g103 =>
                  refine sss_cons (h1 := ?g104) (h2 := sss_nil)
                  refine ss_ret (he := ?g105)
                  refine se_lst (ha := ?g106)
                  refine sa_cons (ha := (SE.sv (s := se_var))) (hr := sa_nil)
              case g101 =>
                refine sss_cons (h1 := ?g107) (h2 := ?g108)
                case g107 =>
                  refine ss_if (hc := ?g109) (ha := ?g110) (hb := sss_nil)
                  case g109 =>
                    refine sb_cmp (ho := ok_in) (ha := (SE.sv (s := se_var))) (hb := ?g111)
                    refine SE.sv (s := ?g112)
                    refine se_tup (ha := ?g113)
                    refine sa_cons (ha := (SE.sv (s := se_str))) (hr := ?g114)
                    refine sa_cons (ha := (SE.sv (s := se_str))) (hr := sa_nil)
                  case g110 =>
                    refine sss_cons (h1 := ?g115) (h2 := sss_nil)
                    refine ss_ret (he := ?g116)
                    refine se_bin (ho := ok_add) (ha := ?g117) (hb := ?g118)
                    case g117 =>
                      refine SE.sv (s := ?g119)
                      refine se_lst (ha := ?g120)
                      refine sa_cons (ha := (SE.sv (s := se_var))) (hr := sa_nil)
                    case g118 =>
                      refine SE.sv (s := ?g121)
                      refine se_call (hf := hrec) (ha := ?g122)
                      refine sa_cons (ha := ?g123) (hr := sa_nil)
                      refine SE.sv (s := ?g124)
                      refine se_ixv (hi := ok_ix) (hb := (SE.sv (s := se_int)))
                case g108 =>
                  refine sss_cons (h1 := ?g125) (h2 := sss_nil)
                  refine ss_ret (he := ?g126)
                  refine se_bin (ho := ok_add) (ha := ?g127) (hb := ?g128)
                  case g127 =>
                    refine SE.sv (s := ?g129)
                    refine se_bin (ho := ok_add) (ha := ?g130) (hb := ?g131)
                    case g130 =>
                      refine SE.sv (s := ?g132)
                      refine se_lst (ha := ?g133)
                      refine sa_cons (ha := (SE.sv (s := se_var))) (hr := sa_nil)
                    case g131 =>
                      refine SE.sv (s := ?g134)
                      refine se_call (hf := hrec) (ha := ?g135)
                      refine sa_cons (ha := ?g136) (hr := sa_nil)
                      refine SE.sv (s := ?g137)
                      refine se_ixv (hi := ok_ix) (hb := (SE.sv (s := se_int)))
                  case g128 =>
                    refine SE.sv (s := ?g138)
                    refine se_call (hf := hrec) (ha := ?g139)
                    refine sa_cons (ha := ?g140) (hr := sa_nil)
                    refine SE.sv (s := ?g141)
                    refine se_ixv (hi := ok_ix) (hb := (SE.sv (s := se_int)))

/-! ### _law_text_leaf -/
abbrev s__law_text_leaf : Stmt := topS 51
theorem sc__law_text_leaf : FnScope ["_law_bag", "_law_signs", "_law_room", "_law_way", "_law_modulus", "_law_weights", "_law_most_rows", "_law_many", "_law_rows", "_law_goals", "_law_k", "_law_z", "_law_sign"] ["_law_bag", "_law_signs", "_law_room"] (defScope s__law_text_leaf) := ⟨rfl, rfl, rfl, by decide +kernel, rfl, by decide +kernel, by decide +kernel⟩
theorem bn__law_text_leaf (kV doc pm : Value) (an : Option Addr) (cdv ct : Value) (us : List Value) (hl : us.length = (["_law_bag", "_law_signs", "_law_room"] : List Str).length) : bindArgs (PySem.W.fnOf "_law_text_leaf" "_law_text_leaf" (defArgs s__law_text_leaf) (defBody s__law_text_leaf) (defScope s__law_text_leaf) .none kV doc pm an cdv ct) ⟨us, []⟩ = pure ((["_law_bag", "_law_signs", "_law_room"] : List Str).zip us) :=
  match us, hl with | [_, _, _], _ => rfl
def b__law_text_leaf : MS := (sSeq (sSet 3 (eCall m__law_pick (aCons (fz (eVar 0)) (aCons (fz (eC (D.int 7))) aNil)))) (sSeq (sIf (toB (eOp2 eqO (fz (eVar 3)) (fz (eC (D.int 0))))) (sSeq (sRet (eTup (aCons (fz (eC (D.str [97, 110, 121]))) aNil))) sNil) sNil) (sSeq (sIf (toB (eOp2 ltO (fz (eVar 3)) (fz (eC (D.int 4))))) (sSeq (sSet 4 (eOp2 addO (fz (eC (D.int 2))) (fz (eCall m__law_pick (aCons (fz (eVar 0)) (aCons (fz (eOp2 ixO (fz (eLst (aCons (fz (eC (D.int 4))) (aCons (fz (eC (D.int 59))) aNil)))) (fz (eCall m__law_pick (aCons (fz (eVar 0)) (aCons (fz (eC (D.int 2))) aNil)))))) aNil)))))) (sSeq (sSet 5 (eComp [0, 4] (tN 10) (iRange1 (fz (eOp2 addO (fz (eC (D.int 1))) (fz (eCall m__law_pick (aCons (fz (eVar 0)) (aCons (fz (eOp2 ixO (fz (eLst (aCons (fz (eC (D.int 2))) (aCons (fz (eC (D.int 8))) aNil)))) (fz (eCall m__law_pick (aCons (fz (eVar 0)) (aCons (fz (eC (D.int 2))) aNil)))))) aNil))))))) bYes (fz (eCall m__law_pick (aCons (fz (eVar 0)) (aCons (fz (eVar 4)) aNil)))))) (sSeq (sRet (eTup (aCons (fz (eC (D.str [115, 117, 109]))) (aCons (fz (eVar 4)) (aCons (fz (eCallB tupleO (aCons (fz (eVar 5)) aNil))) (aCons (fz (eCall m__law_pick (aCons (fz (eVar 0)) (aCons (fz (eVar 4)) aNil)))) aNil)))))) sNil))) sNil) (sSeq (sSet 6 (eCallB max2O (aCons (fz (eC (D.int 1))) (aCons (fz (eCallB min2O (aCons (fz (eC (D.int 60))) (aCons (fz (eOp2 fdivO (fz (eVar 2)) (fz (eOp2 mulIO (fz (eC (D.int 3))) (fz (eLenV 1 lenO)))))) aNil)))) aNil)))) (sSeq (sSet 7 (eIf (toB (eOp2 ltO (fz (eVar 3)) (fz (eC (D.int 6))))) (eOp2 addO (fz (eC (D.int 1))) (fz (eCall m__law_pick (aCons (fz (eVar 0)) (aCons (fz (eCallB min2O (aCons (fz (eVar 6)) (aCons (fz (eC (D.int 3))) aNil)))) aNil))))) (eVar 6))) (sSeq (sSet 8 (eComp [0, 1, 7] (tN 11) (iRange1 (fz (eVar 7))) bYes (fz (eCallB tupleO (aCons (fz (eComp [0, 7] (tN 12) (iOf (fz (eVar 1))) bYes (fz (eCall m__law_pick (aCons (fz (eVar 0)) (aCons (fz (eVar 7)) aNil)))))) aNil))))) (sSeq (sSet 9 (eComp [0] (tN 11) (iRange1 (fz (eVar 7))) (toB (eOp2 eqO (fz (eCall m__law_pick (aCons (fz (eVar 0)) (aCons (fz (eC (D.int 2))) aNil)))) (fz (eC (D.int 0))))) (fz (eVar 11)))) (sSeq (sRet (eTup (aCons (fz (eC (D.str [115, 113, 117, 97, 114, 101]))) (aCons (fz (eCallB tupleO (aCons (fz (eVar 8)) aNil))) (aCons (fz (eIf (bTruV 9) (eCallB tupleO (aCons (fz (eVar 9)) aNil)) (eTup (aCons (fz (eOp2 subO (fz (eVar 7)) (fz (eC (D.int 1))))) aNil)))) aNil))))) sNil))))))))
def m__law_text_leaf : MF := runF 13 b__law_text_leaf
theorem ok__law_text_leaf {k : Nat} (df : Df K mg "_law_text_leaf" s__law_text_leaf ["_law_bag", "_law_signs", "_law_room"]) (f__law_pick : FnM P w K mg base k "_law_pick" 2 m__law_pick) (n_tuple : mg "tuple" = none) (n_range : mg "range" = none) (n_min : mg "min" = none) (n_max : mg "max" = none) (n_len : mg "len" = none) : FnM P w K mg base (k + 1) "_law_text_leaf" 3 m__law_text_leaf := by
  refine fnM_ok (mb := b__law_text_leaf) df sc__law_text_leaf ?_ rfl rfl
  unfold b__law_text_leaf
  refine sss_cons (h1 := ?g1) (h2 := ?g2)
  case g1 =>
    refine ss_set (he := ?g3)
    refine se_call (hf := f__law_pick) (ha := ?g4)
    refine sa_cons (ha := (SE.sv (s := se_var))) (hr := ?g5)
    refine sa_cons (ha := (SE.sv (s := se_int))) (hr := sa_nil)
  case g2 =>
    refine sss_cons (h1 := ?g6) (h2 := ?g7)
    case g6 =>
      refine ss_if (hc := ?g8) (ha := ?g9) (hb := sss_nil)
      case g8 =>
        refine sb_cmp (ho := ok_eq) (ha := (SE.sv (s := se_var))) (hb := (SE.sv (s := se_int)))
      case g9 =>
        refine sss_cons (h1 := ?g10) (h2 := sss_nil)
        refine ss_ret (he := ?g11)
        refine se_tup (ha := ?g12)
        refine sa_cons (ha := (SE.sv (s := se_str))) (hr := sa_nil)
    case g7 =>
      refine sss_cons (h1 := ?g13) (h2 := ?g14)
      case g13 =>
        refine ss_if (hc := ?g15) (ha := ?g16) (hb := sss_nil)
        case g15 =>
          refine sb_cmp (ho := ok_lt) (ha := (SE.sv (s := se_var))) (hb := (SE.sv (s := se_int)))
        case g16 =>
          refine sss_cons (h1 := ?g17) (h2 := ?g18)
          case g17 =>
            refine ss_set (he := ?g19)
            refine se_bin (ho := ok_add) (ha := (SE.sv (s := se_int))) (hb := ?g20)
            refine SE.sv (s := ?g21)
            refine se_call (hf := f__law_pick) (ha := ?g22)
            refine sa_cons (ha := (SE.sv (s := se_var))) (hr := ?g23)
            refine sa_cons (ha := ?g24) (hr := sa_nil)
            refine SE.sv (s := ?g25)
            refine se_ix (hi := ok_ix) (ha := ?g26) (hb := ?g27)
            case g26 =>
              refine SE.sv (s := ?g28)
              refine se_lst (ha := ?g29)
              refine sa_cons (ha := (SE.sv (s := se_int))) (hr := ?g30)
              refine sa_cons (ha := (SE.sv (s := se_int))) (hr := sa_nil)
            case g27 =>
              refine SE.sv (s := ?g31)
              refine se_call (hf := f__law_pick) (ha := ?g32)
              refine sa_cons (ha := (SE.sv (s := se_var))) (hr := ?g33)
              refine sa_cons (ha := (SE.sv (s := se_int))) (hr := sa_nil)
          case g18 =>
            refine sss_cons (h1 := ?g34) (h2 := ?g35)
            case g34 =>
              refine ss_setLc (own := [("_law_k", 10)]) (cap := [0, 4]) (tvs := [10]) (hi := ?g36) (hg := sg_name) (hc := sbs_nil) (he := ?g37)
              case g36 =>
                refine si_range1 (hm := n_range) (ha := ?g38)
                refine SE.sv (s := ?g39)
                refine se_bin (ho := ok_add) (ha := (SE.sv (s := se_int))) (hb := ?g40)
                refine SE.sv (s := ?g41)
                refine se_call (hf := f__law_pick) (ha := ?g42)
                refine sa_cons (ha := (SE.sv (s := se_var))) (hr := ?g43)
                refine sa_cons (ha := ?g44) (hr := sa_nil)
                refine SE.sv (s := ?g45)
                refine se_ix (hi := ok_ix) (ha := ?g46) (hb := ?g47)
                case g46 =>
                  refine SE.sv (s := ?g48)
                  refine se_lst (ha := ?g49)
                  refine sa_cons (ha := (SE.sv (s := se_int))) (hr := ?g50)
                  refine sa_cons (ha := (SE.sv (s := se_int))) (hr := sa_nil)
                case g47 =>
                  refine SE.sv (s := ?g51)
                  refine se_call (hf := f__law_pick) (ha := ?g52)
                  refine sa_cons (ha := (SE.sv (s := se_var))) (hr := ?g53)
                  refine sa_cons (ha := (SE.sv (s := se_int))) (hr := sa_nil)
              case g37 =>
                refine SE.sv (s := ?g54)
                refine se_call (hf := f__law_pick) (ha := ?g55)
                refine sa_cons (ha := (SE.sv (s := se_var))) (hr := ?g56)
                refine sa_cons (ha := (SE.sv (s := se_var))) (hr := sa_nil)
            case g35 =>
              refine sss_cons (h1 := ?g57) (h2 := sss_nil)
              refine ss_ret (he := ?g58)
              refine se_tup (ha := ?g59)
              refine sa_cons (ha := (SE.sv (s := se_str))) (hr := ?g60)
              refine sa_cons (ha := (SE.sv (s := se_var))) (hr := ?g61)
              refine sa_cons (ha := ?g62) (hr := ?g63)
              case g62 =>
                refine SE.sv (s := ?g64)
                refine se_callTy (hc := ok_tuple) (hm := n_tuple) (ha := ?g65)
                refine sa_cons (ha := (SE.sv (s := se_var))) (hr := sa_nil)
              case g63 =>
                refine sa_cons (ha := ?g66) (hr := sa_nil)
                refine SE.sv (s := ?g67)
                refine se_call (hf := f__law_pick) (ha := ?g68)
                refine sa_cons (ha := (SE.sv (s := se_var))) (hr := ?g69)
                refine sa_cons (ha := (SE.sv (s := se_var))) (hr := sa_nil)
      case g14 =>
        refine sss_cons (h1 := ?g70) (h2 := ?g71)
        case g70 =>
          refine ss_set (he := ?g72)
          refine se_callB (hc := ok_max2) (hm := n_max) (ha := ?g73)
          refine sa_cons (ha := (SE.sv (s := se_int))) (hr := ?g74)
          refine sa_cons (ha := ?g75) (hr := sa_nil)
          refine SE.sv (s := ?g76)
          refine se_callB (hc := ok_min2) (hm := n_min) (ha := ?g77)
          refine sa_cons (ha := (SE.sv (s := se_int))) (hr := ?g78)
          refine sa_cons (ha := ?g79) (hr := sa_nil)
          refine SE.sv (s := ?g80)
          refine se_bin (ho := ok_fdiv) (ha := (SE.sv (s := se_var))) (hb := ?g81)
          refine SE.sv (s := ?g82)
          refine se_bin (ho := ok_mulI) (ha := (SE.sv (s := se_int))) (hb := (SE.sv (s := (se_lenv (hc := ok_len) (hm := n_len)))))
        case g71 =>
          refine sss_cons (h1 := ?g83) (h2 := ?g84)
          case g83 =>
            refine ss_set (he := ?g85)
            refine se_if (hc := ?g86) (ha := ?g87) (hb := se_var)
            case g86 =>
              refine sb_cmp (ho := ok_lt) (ha := (SE.sv (s := se_var))) (hb := (SE.sv (s := se_int)))
            case g87 =>
              refine se_bin (ho := ok_add) (ha := (SE.sv (s := se_int))) (hb := ?g88)
              refine SE.sv (s := ?g89)
              refine se_call (hf := f__law_pick) (ha := ?g90)
              refine sa_cons (ha := (SE.sv (s := se_var))) (hr := ?g91)
              refine sa_cons (ha := ?g92) (hr := sa_nil)
              refine SE.sv (s := ?g93)
              refine se_callB (hc := ok_min2) (hm := n_min) (ha := ?g94)
              refine sa_cons (ha := (SE.sv (s := se_var))) (hr := ?g95)
              refine sa_cons (ha := (SE.sv (s := se_int))) (hr := sa_nil)
          case g84 =>
            refine sss_cons (h1 := ?g96) (h2 := ?g97)
            case g96 =>
              refine ss_setLc (own := [("_law_z", 11)]) (cap := [0, 1, 7]) (tvs := [11]) (hi := ?g98) (hg := sg_name) (hc := sbs_nil) (he := ?g99)
              case g98 =>
                refine si_range1 (hm := n_range) (ha := (SE.sv (s := se_var)))
              case g99 =>
                refine SE.sv (s := ?g100)
                refine se_callTy (hc := ok_tuple) (hm := n_tuple) (ha := ?g101)
                refine sa_cons (ha := ?g102) (hr := sa_nil)
                refine SE.sv (s := ?g103)
                refine se_comp (own := [("_law_sign", 12)]) (cap := [0, 7]) (tvs := [12]) (hi := ?g104) (hg := sg_name) (hc := sbs_nil) (he := ?g105)
                case g104 =>
                  refine si_val (he := (SE.sv (s := se_var)))
                case g105 =>
                  refine SE.sv (s := ?g106)
                  refine se_call (hf := f__law_pick) (ha := ?g107)
                  refine sa_cons (ha := (SE.sv (s := se_var))) (hr := ?g108)
                  refine sa_cons (ha := (SE.sv (s := se_var))) (hr := sa_nil)
            case g97 =>
              refine sss_cons (h1 := ?g109) (h2 := ?g110)
              case g109 =>
                refine ss_setLc (own := [("_law_z", 11)]) (cap := [0]) (tvs := [11]) (hi := ?g111) (hg := sg_name) (hc := ?g112) (he := (SE.sv (s := se_var)))
                case g111 =>
                  refine si_range1 (hm := n_range) (ha := (SE.sv (s := se_var)))
                case g112 =>
                  refine sbs_one (hc := ?g113)
                  refine sb_cmp (ho := ok_eq) (ha := ?g114) (hb := (SE.sv (s := se_int)))
                  refine SE.sv (s := ?g115)
                  refine se_call (hf := f__law_pick) (ha := ?g116)
                  refine sa_cons (ha := (SE.sv (s := se_var))) (hr := ?g117)
                  refine sa_cons (ha := (SE.sv (s := se_int))) (hr := sa_nil)
              case g110 =>
                refine sss_cons (h1 := ?g118) (h2 := sss_nil)
                refine ss_ret (he := ?g119)
                refine se_tup (ha := ?g120)
                refine sa_cons (ha := (SE.sv (s := se_str))) (hr := ?g121)
                refine sa_cons (ha := ?g122) (hr := ?g123)
                case g122 =>
                  refine SE.sv (s := ?g124)
                  refine se_callTy (hc := ok_tuple) (hm := n_tuple) (ha := ?g125)
                  refine sa_cons (ha := (SE.sv (s := se_var))) (hr := sa_nil)
                case g123 =>
                  refine sa_cons (ha := ?g126) (hr := sa_nil)
                  refine SE.sv (s := ?g127)
                  refine se_if (hc := sb_truv) (ha := ?g128) (hb := ?g129)
                  case g128 =>
                    refine se_callTy (hc := ok_tuple) (hm := n_tuple) (ha := ?g130)
                    refine sa_cons (ha := (SE.sv (s := se_var))) (hr := sa_nil)
                  case g129 =>
                    refine se_tup (ha := ?g131)
                    refine sa_cons (ha := ?g132) (hr := sa_nil)
                    refine SE.sv (s := ?g133)
                    refine se_bin (ho := ok_sub) (ha := (SE.sv (s := se_var))) (hb := (SE.sv (s := se_int)))

/-! ### _law_text_rule -/
abbrev s__law_text_rule : Stmt := topS 52
theorem sc__law_text_rule : FnScope ["_law_bag", "_law_signs", "_law_parts", "_law_room", "_law_way", "_law_many", "_law_first", "_law_inner", "_law_faces", "_law_k", "_law_sign"] ["_law_bag", "_law_signs", "_law_parts", "_law_room"] (defScope s__law_text_rule) := ⟨rfl, rfl, rfl, by decide +kernel, rfl, by decide +kernel, by decide +kernel⟩
theorem bn__law_text_rule (kV doc pm : Value) (an : Option Addr) (cdv ct : Value) (us : List Value) (hl : us.length = (["_law_bag", "_law_signs", "_law_parts", "_law_room"] : List Str).length) : bindArgs (PySem.W.fnOf "_law_text_rule" "_law_text_rule" (defArgs s__law_text_rule) (defBody s__law_text_rule) (defScope s__law_text_rule) .none kV doc pm an cdv ct) ⟨us, []⟩ = pure ((["_law_bag", "_law_signs", "_law_parts", "_law_room"] : List Str).zip us) :=
  match us, hl with | [_, _, _, _], _ => rfl
def b__law_text_rule (rec : MF) : MS := (sSeq (sIf (toB (eOp2 eqO (fz (eVar 2)) (fz (eC (D.int 1))))) (sSeq (sRet (eCall m__law_text_leaf (aCons (fz (eVar 0)) (aCons (fz (eVar 1)) (aCons (fz (eVar 3)) aNil))))) sNil) sNil) (sSeq (sSet 4 (eCall m__law_pick (aCons (fz (eVar 0)) (aCons (fz (eC (D.int 7))) aNil)))) (sSeq (sIf (bAnd (toB (eOp2 gtO (fz (eVar 2)) (fz (eC (D.int 2))))) (toB (eOp2 ltO (fz (eVar 4)) (fz (eC (D.int 3)))))) (sSeq (sSet 5 (eOp2 addO (fz (eC (D.int 1))) (fz (eCall m__law_pick (aCons (fz (eVar 0)) (aCons (fz (eOp2 subO (fz (eVar 2)) (fz (eC (D.int 2))))) aNil)))))) (sSeq (sSet 6 (eCall rec (aCons (fz (eVar 0)) (aCons (fz (eVar 1)) (aCons (fz (eVar 5)) (aCons (fz (eVar 3)) aNil)))))) (sSeq (sRet (eTup (aCons (fz (eOp2 ixO (fz (eLst (aCons (fz (eC (D.str [98, 111, 116, 104]))) (aCons (fz (eC (D.str [101, 105, 116, 104, 101, 114]))) (aCons (fz (eC (D.str [101, 105, 116, 104, 101, 114]))) aNil))))) (fz (eVar 4)))) (aCons (fz (eVar 6)) (aCons (fz (eCall rec (aCons (fz (eVar 0)) (aCons (fz (eVar 1)) (aCons (fz (eOp2 subO (fz (eOp2 subO (fz (eVar 2)) (fz (eC (D.int 1))))) (fz (eVar 5)))) (aCons (fz (eVar 3)) aNil)))))) aNil))))) sNil))) sNil) (sSeq (sSet 7 (eCall rec (aCons (fz (eVar 0)) (aCons (fz (eVar 1)) (aCons (fz (eOp2 subO (fz (eVar 2)) (fz (eC (D.int 1))))) (aCons (fz (eVar 3)) aNil)))))) (sSeq (sIf (toB (eOp2 eqO (fz (eVar 4)) (fz (eC (D.int 3))))) (sSeq (sRet (eTup (aCons (fz (eC (D.str [98, 97, 99, 107]))) (aCons (fz (eVar 7)) aNil)))) sNil) sNil) (sSeq (sIf (toB (eOp2 eqO (fz (eVar 4)) (fz (eC (D.int 4))))) (sSeq (sRet (eTup (aCons (fz (eC (D.str [99, 117, 116]))) (aCons (fz (eCall m__law_pick (aCons (fz (eVar 0)) (aCons (fz (eC (D.int 4))) aNil)))) (aCons (fz (eCall m__law_pick (aCons (fz (eVar 0)) (aCons (fz (eC (D.int 4))) aNil)))) (aCons (fz (eVar 7)) aNil)))))) sNil) sNil) (sSeq (sIf (toB (eOp2 eqO (fz (eVar 4)) (fz (eC (D.int 5))))) (sSeq (sSet 8 (eLst aNil)) (sSeq (sFor (tN 9) (iRange1 (fz (eIf (toB (eOp2 ltO (fz (eVar 3)) (fz (eC (D.int 100))))) (eC (D.int 1)) (eOp2 addO (fz (eC (D.int 1))) (fz (eCall m__law_pick (aCons (fz (eVar 0)) (aCons (fz (eC (D.int 4))) aNil)))))))) (sSeq (sExpr (eMut 8 appOp (aCons (fz (eMtS joinO (fz (eC (D.str []))) (aCons (fz (eComp [0, 1] (tN 10) (iOf (fz (eVar 1))) bYes (fz (eCall m__law_one_of (aCons (fz (eVar 0)) (aCons (fz (eVar 1)) aNil)))))) aNil))) aNil))) sNil)) (sSeq (sRet (eTup (aCons (fz (eC (D.str [102, 97, 99, 101, 115]))) (aCons (fz (eCallB tupleO (aCons (fz (eVar 8)) aNil))) (aCons (fz (eVar 7)) aNil))))) sNil))) sNil) (sSeq (sRet (eTup (aCons (fz (eC (D.str [110, 111, 116]))) (aCons (fz (eVar 7)) aNil)))) sNil))))))))
def m__law_text_rule : Nat → MF
  | 0 => runF 11 sNo
  | n + 1 => runF 11 (b__law_text_rule (m__law_text_rule n))
theorem ok__law_text_rule {k : Nat} (df : Df K mg "_law_text_rule" s__law_text_rule ["_law_bag", "_law_signs", "_law_parts", "_law_room"]) (f__law_pick : FnM P w K mg base k "_law_pick" 2 m__law_pick) (f__law_one_of : FnM P w K mg base k "_law_one_of" 2 m__law_one_of) (f__law_text_leaf : FnM P w K mg base k "_law_text_leaf" 3 m__law_text_leaf) (n_tuple : mg "tuple" = none) (n_range : mg "range" = none) : ∀ n, FnM P w K mg base (k + 1 + n) "_law_text_rule" 4 (m__law_text_rule n) :=
  fnM_rec (m := m__law_text_rule) (mb := b__law_text_rule) df sc__law_text_rule (m0 := rfl) (mS := fun _ => rfl) fun n hrec => by
    have f__law_pick := f__law_pick.mono (k := k + 1 + n)
    have f__law_one_of := f__law_one_of.mono (k := k + 1 + n)
    have f__law_text_leaf := f__law_text_leaf.mono (k := k + 1 + n)
    unfold b__law_text_rule
    refine sss_cons (h1 := ?g1) (h2 := ?g2)
    case g1 =>
      refine ss_if (hc := ?g3) (ha := ?g4) (hb := sss_nil)
      case g3 =>
        refine sb_cmp (ho := ok_eq) (ha := (SE.sv (s := se_var))) (hb := (SE.sv (s := se_int)))
      case g4 =>
        refine sss_cons (h1 := ?g5) (h2 := sss_nil)
        refine ss_ret (he := ?g6)
        refine se_call (hf := f__law_text_leaf) (ha := ?g7)
        refine sa_cons (ha := (SE.sv (s := se_var))) (hr := ?g8)
        refine sa_cons (ha := (SE.sv (s := se_var))) (hr := ?g9)
        refine sa_cons (ha := (SE.sv (s := se_var))) (hr := sa_nil)
    case g2 =>
      refine sss_cons (h1 := ?g10) (h2 := ?g11)
      case g10 =>
        refine ss_set (he := ?g12)
        refine se_call (hf := f__law_pick) (ha := ?g13)
        refine sa_cons (ha := (SE.sv (s := se_var))) (hr := ?g14)
        refine sa_cons (ha := (SE.sv (s := se_int))) (hr := sa_nil)
      case g11 =>
        refine sss_cons (h1 := ?g15) (h2 := ?g16)
        case g15 =>
          refine ss_if (hc := ?g17) (ha := ?g18) (hb := sss_nil)
          case g17 =>
            refine sb_w (hw := ?g19)
            refine sw_and (ha := ?g20) (hb := ?g21)
            case g20 =>
              refine sb_cmp (ho := ok_gt) (ha := (SE.sv (s := se_var))) (hb := (SE.sv (s := se_int)))
            case g21 =>
              refine sw_one (ha := ?g22)
              refine sb_cmp (ho := ok_lt) (ha := (SE.sv (s := se_var))) (hb := (SE.sv (s := se_int)))
          case g18 =>
            refine sss_cons (h1 := ?g23) (h2 := ?g24)
            case g23 =>
              refine ss_set (he := ?g25)
              refine se_bin (ho := ok_add) (ha := (SE.sv (s := se_int))) (hb := ?g26)
              refine SE.sv (s := ?g27)
              refine se_call (hf := f__law_pick) (ha := ?g28)
              refine sa_cons (ha := (SE.sv (s := se_var))) (hr := ?g29)
              refine sa_cons (ha := ?g30) (hr := sa_nil)
              refine SE.sv (s := ?g31)
              refine se_bin (ho := ok_sub) (ha := (SE.sv (s := se_var))) (hb := (SE.sv (s := se_int)))
            case g24 =>
              refine sss_cons (h1 := ?g32) (h2 := ?g33)
              case g32 =>
                refine ss_set (he := ?g34)
                refine se_call (hf := hrec) (ha := ?g35)
                refine sa_cons (ha := (SE.sv (s := se_var))) (hr := ?g36)
                refine sa_cons (ha := (SE.sv (s := se_var))) (hr := ?g37)
                refine sa_cons (ha := (SE.sv (s := se_var))) (hr := ?g38)
                refine sa_cons (ha := (SE.sv (s := se_var))) (hr := sa_nil)
              case g33 =>
                refine sss_cons (h1 := ?g39) (h2 := sss_nil)
                refine ss_ret (he := ?g40)
                refine se_tup (ha := ?g41)
                refine sa_cons (ha := ?g42) (hr := ?g43)
                case g42 =>
                  refine SE.sv (s := ?g44)
                  refine se_ix (hi := ok_ix) (ha := ?g45) (hb := (SE.sv (s := se_var)))
                  refine SE.sv (s := ?g46)
                  refine se_lst (ha := ?g47)
                  refine sa_cons (ha := (SE.sv (s := se_str))) (hr := ?g48)
                  refine sa_cons (ha := (SE.sv (s := se_str))) (hr := ?g49)
                  refine sa_cons (ha := (SE.sv (s := se_str))) (hr := sa_nil)
                case g43 =>
                  refine sa_cons (ha := (SE.sv (s := se_var))) (hr := ?g50)
                  refine sa_cons (ha := ?g51) (hr := sa_nil)
                  refine SE.sv (s := ?g52)
                  refine se_call (hf := hrec) (ha := ?g53)
                  refine sa_cons (ha := (SE.sv (s := se_var))) (hr := ?g54)
                  refine sa_cons (ha := (SE.sv (s := se_var))) (hr := ?g55)
                  refine sa_cons (ha := ?g56) (hr := ?g57)
                  case g56 =>
                    refine SE.sv (s := ?g58)
                    refine se_bin (ho := ok_sub) (ha := ?g59) (hb := (SE.sv (s := se_var)))
                    refine SE.sv (s := ?g60)
                    refine se_bin (ho := ok_sub) (ha := (SE.sv (s := se_var))) (hb := (SE.sv (s := se_int)))
                  case g57 =>
                    refine sa_cons (ha := (SE.sv (s := se_var))) (hr := sa_nil)
        case g16 =>
          refine sss_cons (h1 := ?g61) (h2 := ?g62)
          case g61 =>
            refine ss_set (he := ?g63)
            refine se_call (hf := hrec) (ha := ?g64)
            refine sa_cons (ha := (SE.sv (s := se_var))) (hr := ?g65)
            refine sa_cons (ha := (SE.sv (s := se_var))) (hr := ?g66)
            refine sa_cons (ha := ?g67) (hr := ?g68)
            case g67 =>
              refine SE.sv (s := ?g69)
              refine se_bin (ho := ok_sub) (ha := (SE.sv (s := se_var))) (hb := (SE.sv (s := se_int)))
            case g68 =>
              refine sa_cons (ha := (SE.sv (s := se_var))) (hr := sa_nil)
          case g62 =>
            refine sss_cons (h1 := ?g70) (h2 := ?g71)
            case g70 =>
              refine ss_if (hc := ?g72) (ha := ?g73) (hb := sss_nil)
              case g72 =>
                refine sb_cmp (ho := ok_eq) (ha := (SE.sv (s := se_var))) (hb := (SE.sv (s := se_int)))
              case g73 =>
                refine sss_cons (h1 := ?g74) (h2 := sss_nil)
                refine ss_ret (he := ?g75)
                refine se_tup (ha := ?g76)
                refine sa_cons (ha := (SE.sv (s := se_str))) (hr := ?g77)
                refine sa_cons (ha := (SE.sv (s := se_var))) (hr := sa_nil)
            case g71 =>
              refine sss_cons (h1 := ?g78) (h2 := ?g79)
              case g78 =>
                refine ss_if (hc := ?g80) (ha := ?g81) (hb := sss_nil)
                case g80 =>
                  refine sb_cmp (ho := ok_eq) (ha := (SE.sv (s := se_var))) (hb := (SE.sv (s := se_int)))
                case g81 =>
                  refine sss_cons (h1 := ?g82) (h2 := sss_nil)
                  refine ss_ret (he := ?g83)
                  refine se_tup (ha := ?g84)
                  refine sa_cons (ha := (SE.sv (s := se_str))) (hr := ?g85)
                  refine sa_cons (ha := ?g86) (hr := ?g87)
                  case g86 =>
                    refine SE.sv (s := ?g88)
                    refine se_call (hf := f__law_pick) (ha := ?g89)
                    refine sa_cons (ha := (SE.sv (s := se_var))) (hr := ?g90)
                    refine sa_cons (ha := (SE.sv (s := se_int))) (hr := sa_nil)
                  case g87 =>
                    refine sa_cons (ha := ?g91) (hr := ?g92)
                    case g91 =>
                      refine SE.sv (s := ?g93)
                      refine se_call (hf := f__law_pick) (ha := ?g94)
                      refine sa_cons (ha := (SE.sv (s := se_var))) (hr := ?g95)
                      refine sa_cons (ha := (SE.sv (s := se_int))) (hr := sa_nil)
                    case g92 =>
                      refine sa_cons (ha := (SE.sv (s := se_var))) (hr := sa_nil)
              case g79 =>
                refine sss_cons (h1 := ?g96) (h2 := ?g97)
                case g96 =>
                  refine ss_if (hc := ?g98) (ha := ?g99) (hb := sss_nil)
                  case g98 =>
                    refine sb_cmp (ho := ok_eq) (ha := (SE.sv (s := se_var))) (hb := (SE.sv (s := se_int)))
                  case g99 =>
                    refine sss_cons (h1 := ?g100) (h2 := ?g101)
                    case g100 =>
                      refine ss_set (he := (se_lst (ha := sa_nil)))
                    case g101 =>
                      refine sss_cons (h1 := ?g102) (h2 := ?g103)
                      case g102 =>
                        refine ss_for (vs := [9]) (hg := sg_name) (hi := ?g104) (hb := ?g105)
                        case g104 =>
                          refine si_range1 (hm := n_range) (ha := ?g106)
                          refine SE.sv (s := ?g107)
                          refine se_if (hc := ?g108) (ha := se_int) (hb := ?g109)
                          case g108 =>
                            refine sb_cmp (ho := ok_lt) (ha := (SE.sv (s := se_var))) (hb := (SE.sv (s := se_int)))
                          case g109 =>
                            refine se_bin (ho := ok_add) (ha := (SE.sv (s := se_int))) (hb := ?g110)
                            refine SE.sv (s := ?g111)
                            refine se_call (hf := f__law_pick) (ha := ?g112)
                            refine sa_cons (ha := (SE.sv (s := se_var))) (hr := ?g113)
                            refine sa_cons (ha := (SE.sv (s := se_int))) (hr := sa_nil)
                        case g105 =>
                          refine sss_cons (h1 := ?g114) (h2 := sss_nil)
                          refine ss_expr (he := ?g115)
                          refine se_mut (slot := PySem.F.slot_list_append) (hty := PySem.F.type_list_append) (hm := ok_append) (ha := ?g116)
                          refine sa_cons (ha := ?g117) (hr := sa_nil)
                          refine SE.sv (s := ?g118)
                          refine se_mtS (slot := PySem.F.slot_str_join) (hty := PySem.F.type_str_join) (hm := ok_join) (ho := (SE.sv (s := se_str))) (ha := ?g119)
                          refine sa_cons (ha := ?g120) (hr := sa_nil)
                          refine SE.sv (s := ?g121)
                          refine se_comp (own := [("_law_sign", 10)]) (cap := [0, 1]) (tvs := [10]) (hi := ?g122) (hg := sg_name) (hc := sbs_nil) (he := ?g123)
                          case g122 =>
                            refine si_val (he := (SE.sv (s := se_var)))
                          case g123 =>
                            refine SE.sv (s := ?g124)
                            refine se_call (hf := f__law_one_of) (ha := ?g125)
                            refine sa_cons (ha := (SE.sv (s := se_var))) (hr := ?g126)
                            refine sa_cons (ha := (SE.sv (s := se_var))) (hr := sa_nil)
                      case g103 =>
                        refine sss_cons (h1 := ?g127) (h2 := sss_nil)
                        refine ss_ret (he := ?g128)
                        refine se_tup (ha := ?g129)
                        refine sa_cons (ha := (SE.sv (s := se_str))) (hr := ?g130)
                        refine sa_cons (ha := ?g131) (hr := ?g132)
                        case g131 =>
                          refine SE.sv (s := ?g133)
                          refine se_callTy (hc := ok_tuple) (hm := n_tuple) (ha := ?g134)
                          refine sa_cons (ha := (SE.sv (s := se_var))) (hr := sa_nil)
                        case g132 =>
                          refine sa_cons (ha := (SE.sv (s := se_var))) (hr := sa_nil)
                case g97 =>
                  refine sss_cons (h1 := ?g135) (h2 := sss_nil)
                  refine ss_ret (he := ?g136)
                  refine se_tup (ha := ?g137)
                  refine sa_cons (ha := (SE.sv (s := se_str))) (hr := ?g138)
                  refine sa_cons (ha := (SE.sv (s := se_var))) (hr := sa_nil)

/-! ### _law_written -/
abbrev s__law_written : Stmt := topS 53
theorem sc__law_written : FnScope ["_law_rule", "_law_text", "_law_listed", "_law_told", "_law_each"] ["_law_rule"] (defScope s__law_written) := ⟨rfl, rfl, rfl, by decide +kernel, rfl, by decide +kernel, by decide +kernel⟩
theorem bn__law_written (kV doc pm : Value) (an : Option Addr) (cdv ct : Value) (us : List Value) (hl : us.length = (["_law_rule"] : List Str).length) : bindArgs (PySem.W.fnOf "_law_written" "_law_written" (defArgs s__law_written) (defBody s__law_written) (defScope s__law_written) .none kV doc pm an cdv ct) ⟨us, []⟩ = pure ((["_law_rule"] : List Str).zip us) :=
  match us, hl with | [_], _ => rfl
def b__law_written : MS := (sSeq (sSet 1 (eMtS joinO (fz (eC (D.str [32]))) (aCons (fz (eCall (m__law_rule_words rF) (aCons (fz (eVar 0)) aNil))) aNil))) (sSeq (sSet 2 (eCall (m__law_listed_of rF) (aCons (fz (eVar 0)) aNil))) (sSeq (sSet 3 (eLst (aCons (fz (eCall (m_write_rule rF) (aCons (fz (eVar 0)) aNil))) (aCons (fz (eCall (m_write_rule rF) (aCons (fz (eVar 2)) aNil))) (aCons (fz (eCall (m_write_rule rF) (aCons (fz (eVar 0)) aNil))) aNil))))) (sSeq (sIf (bOr (bNot (bTru (fz (eCallB allO (aCons (fz (eComp [1] (tN 4) (iOf (fz (eVar 3))) bYes (fz (eAnd (fz (eIsi "str" (fz (eVar 4)))) (eOp2 eqO (fz (eVar 4)) (fz (eVar 1))))))) aNil))))) (toB (eOp2 neO (fz (eVar 2)) (fz (eCall (m__law_listed_of rF) (aCons (fz (eVar 0)) aNil)))))) (sSeq (sRet (eC (D.bl false))) sNil) sNil) (sSeq (sRet (eAnd (fz (eCall m__law_same_tuple (aCons (fz (eCall m_read_rule (aCons (fz (eVar 1)) aNil))) (aCons (fz (eVar 0)) aNil)))) (eCall m__law_same_tuple (aCons (fz (eCall m_read_rule (aCons (fz (eIxV 3 ixO (fz (eC (D.int 1))))) aNil))) (aCons (fz (eVar 0)) aNil))))) sNil)))))
def m__law_written : MF := runF 5 b__law_written
theorem ok__law_written {k : Nat} (df : Df K mg "_law_written" s__law_written ["_law_rule"]) (f_read_rule : FnM P w K mg base k "read_rule" 1 m_read_rule) (f__law_same_tuple : FnM P w K mg base k "_law_same_tuple" 2 m__law_same_tuple) (f__law_listed_of : FnM P w K mg base k "_law_listed_of" 1 (m__law_listed_of rF)) (f_write_rule : FnM P w K mg base k "write_rule" 1 (m_write_rule rF)) (f__law_rule_words : FnM P w K mg base k "_law_rule_words" 1 (m__law_rule_words rF)) (n_all : mg "all" = none) (n_isinstance : mg "isinstance" = none) (n_str : mg "str" = none) : FnM P w K mg base (k + 1) "_law_written" 1 m__law_written := by
  refine fnM_ok (mb := b__law_written) df sc__law_written ?_ rfl rfl
  unfold b__law_written
  refine sss_cons (h1 := ?g1) (h2 := ?g2)
  case g1 =>
    refine ss_set (he := ?g3)
    refine se_mtS (slot := PySem.F.slot_str_join) (hty := PySem.F.type_str_join) (hm := ok_join) (ho := (SE.sv (s := se_str))) (ha := ?g4)
    refine sa_cons (ha := ?g5) (hr := sa_nil)
    refine SE.sv (s := ?g6)
    refine se_call (hf := f__law_rule_words) (ha := ?g7)
    refine sa_cons (ha := (SE.sv (s := se_var))) (hr := sa_nil)
  case g2 =>
    refine sss_cons (h1 := ?g8) (h2 := ?g9)
    case g8 =>
      refine ss_set (he := ?g10)
      refine se_call (hf := f__law_listed_of) (ha := ?g11)
      refine sa_cons (ha := (SE.sv (s := se_var))) (hr := sa_nil)
    case g9 =>
      refine sss_cons (h1 := ?g12) (h2 := ?g13)
      case g12 =>
        refine ss_set (he := ?g14)
        refine se_lst (ha := ?g15)
        refine sa_cons (ha := ?g16) (hr := ?g17)
        case g16 =>
          refine SE.sv (s := ?g18)
          refine se_call (hf := f_write_rule) (ha := ?g19)
          refine sa_cons (ha := (SE.sv (s := se_var))) (hr := sa_nil)
        case g17 =>
          refine sa_cons (ha := ?g20) (hr := ?g21)
          case g20 =>
            refine SE.sv (s := ?g22)
            refine se_call (hf := f_write_rule) (ha := ?g23)
            refine sa_cons (ha := (SE.sv (s := se_var))) (hr := sa_nil)
          case g21 =>
            refine sa_cons (ha := ?g24) (hr := sa_nil)
            refine SE.sv (s := ?g25)
            refine se_call (hf := f_write_rule) (ha := ?g26)
            refine sa_cons (ha := (SE.sv (s := se_var))) (hr := sa_nil)
      case g13 =>
        refine sss_cons (h1 := ?g27) (h2 := ?g28)
        case g27 =>
          refine ss_if (hc := ?g29) (ha := ?g30) (hb := sss_nil)
          case g29 =>
            refine sb_w (hw := ?g31)
            refine sw_or (ha := ?g32) (hb := ?g33)
            case g32 =>
              refine sb_not (ha := ?g34)
              refine sb_tru (ha := ?g35)
              refine SE.sv (s := ?g36)
              refine se_callB (hc := ok_all) (hm := n_all) (ha := ?g37)
              refine sa_cons (ha := ?g38) (hr := sa_nil)
              refine SE.sv (s := ?g39)
              refine se_comp (own := [("_law_each", 4)]) (cap := [1]) (tvs := [4]) (hi := ?g40) (hg := sg_name) (hc := sbs_nil) (he := ?g41)
              case g40 =>
                refine si_val (he := (SE.sv (s := se_var)))
              case g41 =>
                refine SE.sv (s := ?g42)
                refine se_and (ha := ?g43) (hb := ?g44)
                case g43 =>
                  refine SE.sv (s := ?g45)
                  refine se_isi (hmi := n_isinstance) (hm := n_str) (ha := (SE.sv (s := se_var)))
                case g44 =>
                  refine se_one (ha := ?g46)
                  refine se_cmp (ho := ok_eq) (ha := (SE.sv (s := se_var))) (hb := (SE.sv (s := se_var)))
            case g33 =>
              refine sw_one (ha := ?g47)
              refine sb_cmp (ho := ok_ne) (ha := (SE.sv (s := se_var))) (hb := ?g48)
              refine SE.sv (s := ?g49)
              refine se_call (hf := f__law_listed_of) (ha := ?g50)
              refine sa_cons (ha := (SE.sv (s := se_var))) (hr := sa_nil)
          case g30 =>
            refine sss_cons (h1 := (ss_ret (he := se_bl))) (h2 := sss_nil)
        case g28 =>
          refine sss_cons (h1 := ?g51) (h2 := sss_nil)
          refine ss_ret (he := ?g52)
          refine se_and (ha := ?g53) (hb := ?g54)
          case g53 =>
            refine SE.sv (s := ?g55)
            refine se_call (hf := f__law_same_tuple) (ha := ?g56)
            refine sa_cons (ha := ?g57) (hr := ?g58)
            case g57 =>
              refine SE.sv (s := ?g59)
              refine se_call (hf := f_read_rule) (ha := ?g60)
              refine sa_cons (ha := (SE.sv (s := se_var))) (hr := sa_nil)
            case g58 =>
              refine sa_cons (ha := (SE.sv (s := se_var))) (hr := sa_nil)
          case g54 =>
            refine se_one (ha := ?g61)
            refine se_call (hf := f__law_same_tuple) (ha := ?g62)
            refine sa_cons (ha := ?g63) (hr := ?g64)
            case g63 =>
              refine SE.sv (s := ?g65)
              refine se_call (hf := f_read_rule) (ha := ?g66)
              refine sa_cons (ha := ?g67) (hr := sa_nil)
              refine SE.sv (s := ?g68)
              refine se_ixv (hi := ok_ix) (hb := (SE.sv (s := se_int)))
            case g64 =>
              refine sa_cons (ha := (SE.sv (s := se_var))) (hr := sa_nil)

/-! ### _law_ends -/
abbrev s__law_ends : Stmt := topS 54
theorem sc__law_ends : FnScope ["_law_rule", "_law_k", "_law_inner", "_law_outer"] ["_law_rule"] (defScope s__law_ends) := ⟨rfl, rfl, rfl, by decide +kernel, rfl, by decide +kernel, by decide +kernel⟩
theorem bn__law_ends (kV doc pm : Value) (an : Option Addr) (cdv ct : Value) (us : List Value) (hl : us.length = (["_law_rule"] : List Str).length) : bindArgs (PySem.W.fnOf "_law_ends" "_law_ends" (defArgs s__law_ends) (defBody s__law_ends) (defScope s__law_ends) .none kV doc pm an cdv ct) ⟨us, []⟩ = pure ((["_law_rule"] : List Str).zip us) :=
  match us, hl with | [_], _ => rfl
def b__law_ends : MS := (sSeq (sFor (tN 1) (iRange1 (fz (eC (D.int 40)))) (sSeq (sIf (toB (eOp2 inO (fz (eIxV 0 ixO (fz (eC (D.int 0))))) (fz (eTup (aCons (fz (eC (D.str [115, 117, 109]))) (aCons (fz (eC (D.str [115, 113, 117, 97, 114, 101]))) (aCons (fz (eC (D.str [97, 110, 121]))) aNil))))))) (sSeq (sRet (eOp2 eqO (fz (eCall (m_write_rule rF) (aCons (fz (eVar 0)) aNil))) (fz (eMtS joinO (fz (eC (D.str [32]))) (aCons (fz (eCall (m__law_rule_words rF) (aCons (fz (eVar 0)) aNil))) aNil))))) sNil) sNil) (sSeq (sSet 2 (eIxV 0 ixO (fz (eOp2 subO (fz (eLenV 0 lenO)) (fz (eC (D.int 1))))))) (sSeq (sSet 3 (eCall (m_write_rule rF) (aCons (fz (eVar 0)) aNil))) (sSeq (sIf (bOr (bNot (bTru (fz (eMtS endsO (fz (eVar 3)) (aCons (fz (eOp2 addO (fz (eC (D.str [32]))) (fz (eCall (m_write_rule rF) (aCons (fz (eVar 2)) aNil))))) aNil))))) (bNot (bTru (fz (eMtS startsO (fz (eVar 3)) (aCons (fz (eOp2 addO (fz (eIxV 0 ixO (fz (eC (D.int 0))))) (fz (eC (D.str [32]))))) aNil)))))) (sSeq (sRet (eC (D.bl false))) sNil) sNil) (sSeq (sSet 0 (eVar 2)) sNil)))))) (sSeq (sRet (eC (D.bl true))) sNil))
def m__law_ends : MF := runF 4 b__law_ends
theorem ok__law_ends {k : Nat} (df : Df K mg "_law_ends" s__law_ends ["_law_rule"]) (f_write_rule : FnM P w K mg base k "write_rule" 1 (m_write_rule rF)) (f__law_rule_words : FnM P w K mg base k "_law_rule_words" 1 (m__law_rule_words rF)) (n_range : mg "range" = none) (n_len : mg "len" = none) : FnM P w K mg base (k + 1) "_law_ends" 1 m__law_ends := by
  refine fnM_ok (mb := b__law_ends) df sc__law_ends ?_ rfl rfl
  unfold b__law_ends
  refine sss_cons (h1 := ?g1) (h2 := ?g2)
  case g1 =>
    refine ss_for (vs := [1]) (hg := sg_name) (hi := ?g3) (hb := ?g4)
    case g3 =>
      refine si_range1 (hm := n_range) (ha := (SE.sv (s := se_int)))
    case g4 =>
      refine sss_cons (h1 := ?g5) (h2 := ?g6)
      case g5 =>
        refine ss_if (hc := ?g7) (ha := ?g8) (hb := sss_nil)
        case g7 =>
          refine sb_cmp (ho := ok_in) (ha := ?g9) (hb := ?g10)
          case g9 =>
            refine SE.sv (s := ?g11)
            refine se_ixv (hi := ok_ix) (hb := (SE.sv (s := se_int)))
          case g10 =>
            refine SE.sv (s := ?g12)
            refine se_tup (ha := ?g13)
            refine sa_cons (ha := (SE.sv (s := se_str))) (hr := ?g14)
            refine sa_cons (ha := (SE.sv (s := se_str))) (hr := ?g15)
            refine sa_cons (ha := (SE.sv (s := se_str))) (hr := sa_nil)
        case g8 =>
          refine sss_cons (h1 := ?g16) (h2 := sss_nil)
          refine ss_ret (he := ?g17)
          refine se_cmp (ho := ok_eq) (ha := ?g18) (hb := ?g19)
          case g18 =>
            refine SE.sv (s := ?g20)
            refine se_call (hf := f_write_rule) (ha := ?g21)
            refine sa_cons (ha := (SE.sv (s := se_var))) (hr := sa_nil)
          case g19 =>
            refine SE.sv (s := ?g22)
            refine se_mtS (slot := PySem.F.slot_str_join) (hty := PySem.F.type_str_join) (hm := ok_join) (ho := (SE.sv (s := se_str))) (ha := ?g23)
            refine sa_cons (ha := ?g24) (hr := sa_nil)
            refine SE.sv (s := ?g25)
            refine se_call (hf := f__law_rule_words) (ha := ?g26)
            refine sa_cons (ha := (SE.sv (s := se_var))) (hr := sa_nil)
      case g6 =>
        refine sss_cons (h1 := ?g27) (h2 := ?g28)
        case g27 =>
          refine ss_set (he := ?g29)
          refine se_ixv (hi := ok_ix) (hb := ?g30)
          refine SE.sv (s := ?g31)
          refine se_bin (ho := ok_sub) (ha := (SE.sv (s := (se_lenv (hc := ok_len) (hm := n_len))))) (hb := (SE.sv (s := se_int)))
        case g28 =>
          refine sss_cons (h1 := ?g32) (h2 := ?g33)
          case g32 =>
            refine ss_set (he := ?g34)
            refine se_call (hf := f_write_rule) (ha := ?g35)
            refine sa_cons (ha := (SE.sv (s := se_var))) (hr := sa_nil)
          case g33 =>
            refine sss_cons (h1 := ?g36) (h2 := ?g37)
            case g36 =>
              refine ss_if (hc := ?g38) (ha := ?g39) (hb := sss_nil)
              case g38 =>
                refine sb_w (hw := ?g40)
                refine sw_or (ha := ?g41) (hb := ?g42)
                case g41 =>
                  refine sb_not (ha := ?g43)
                  refine sb_tru (ha := ?g44)
                  refine SE.sv (s := ?g45)
                  refine se_mtS (slot := PySem.F.slot_str_endswith) (hty := PySem.F.type_str_endswith) (hm := ok_ends) (ho := (SE.sv (s := se_var))) (ha := ?g46)
                  refine sa_cons (ha := ?g47) (hr := sa_nil)
                  refine SE.sv (s := ?g48)
                  refine se_bin (ho := ok_add) (ha := (SE.sv (s := se_str))) (hb := ?g49)
                  refine SE.sv (s := ?g50)
                  refine se_call (hf := f_write_rule) (ha := ?g51)
                  refine sa_cons (ha := (SE.sv (s := se_var))) (hr := sa_nil)
                case g42 =>
                  refine sw_one (ha := ?g52)
                  refine sb_not (ha := ?g53)
                  refine sb_tru (ha := ?g54)
                  refine SE.sv (s := ?g55)
                  refine se_mtS (slot := PySem.F.slot_str_startswith) (hty := PySem.F.type_str_startswith) (hm := ok_starts) (ho := (SE.sv (s := se_var))) (ha := ?g56)
                  refine sa_cons (ha := ?g57) (hr := sa_nil)
                  refine SE.sv (s := ?g58)
                  refine se_bin (ho := ok_add) (ha := ?g59) (hb := (SE.sv (s := se_str)))
                  refine SE.sv (s := ?g60)
                  refine se_ixv (hi := ok_ix) (hb := (SE.sv (s := se_int)))
              case g39 =>
                refine sss_cons (h1 := (ss_ret (he := se_bl))) (h2 := sss_nil)
            case g37 =>
              refine sss_cons (h1 := (ss_set (he := se_var))) (h2 := sss_nil)
  case g2 =>
    refine sss_cons (h1 := (ss_ret (he := se_bl))) (h2 := sss_nil)

/-! ### law -/
abbrev s_law : Stmt := topS 55
theorem sc_law : FnScope ["_law_script", "_law_bag", "_law_signs", "_law_rules", "_law_many", "_law_k", "_law_parts", "_law_first", "_law_second", "_law_word"] ["_law_script"] (defScope s_law) := ⟨rfl, rfl, rfl, by decide +kernel, rfl, by decide +kernel, by decide +kernel⟩
theorem bn_law (kV doc pm : Value) (an : Option Addr) (cdv ct : Value) (us : List Value) (hl : us.length = (["_law_script"] : List Str).length) : bindArgs (PySem.W.fnOf "law" "law" (defArgs s_law) (defBody s_law) (defScope s_law) .none kV doc pm an cdv ct) ⟨us, []⟩ = pure ((["_law_script"] : List Str).zip us) :=
  match us, hl with | [_], _ => rfl
def b_law : MS := (sSeq (sSet 1 (eCall m__law_bag_of (aCons (fz (eVar 0)) (aCons (fz (eC (D.int 0))) aNil)))) (sSeq (sSet 2 (eCall m__law_many_signs (aCons (fz (eVar 1)) aNil))) (sSeq (sSet 3 (eLst aNil)) (sSeq (sSet 4 (eC (D.int 1))) (sSeq (sFor (tN 5) (iRange1 (fz (eC (D.int 2)))) (sSeq (sSet 1 (eCall m__law_bag_of (aCons (fz (eVar 0)) (aCons (fz (eOp2 addO (fz (eC (D.int 1))) (fz (eVar 5)))) aNil)))) (sSeq (sSet 6 (eOp2 ixO (fz (eLst (aCons (fz (eC (D.int 1))) (aCons (fz (eC (D.int 1))) (aCons (fz (eC (D.int 2))) (aCons (fz (eC (D.int 3))) (aCons (fz (eC (D.int 4))) (aCons (fz (eC (D.int 6))) (aCons (fz (eC (D.int 12))) (aCons (fz (eC (D.int 40))) aNil)))))))))) (fz (eCall m__law_pick (aCons (fz (eVar 1)) (aCons (fz (eC (D.int 8))) aNil)))))) (sSeq (sIf (toB (eOp2 eqO (fz (eCall m__law_pick (aCons (fz (eVar 1)) (aCons (fz (eC (D.int 3))) aNil)))) (fz (eC (D.int 0))))) (sSeq (sSet 6 (eOp2 addO (fz (eC (D.int 1))) (fz (eCall m__law_pick (aCons (fz (eVar 1)) (aCons (fz (eC (D.int 40))) aNil)))))) sNil) sNil) (sSeq (sSet 4 (eOp2 addO (fz (eVar 4)) (fz (eVar 6)))) (sSeq (sExpr (eMut 3 appOp (aCons (fz (eCall (m__law_text_rule rF) (aCons (fz (eVar 1)) (aCons (fz (eVar 2)) (aCons (fz (eVar 6)) (aCons (fz (eOp2 addO (fz (eC (D.int 24))) (fz (eOp2 fdivO (fz (eC (D.int 600))) (fz (eVar 6)))))) aNil)))))) aNil))) sNil)))))) (sSeq (sIf (bOr (bNot (bTru (fz (eCall m__law_written (aCons (fz (eIxV 3 ixO (fz (eC (D.int 0))))) aNil))))) (bOr (bNot (bTru (fz (eCall m__law_written (aCons (fz (eIxV 3 ixO (fz (eC (D.int 1))))) aNil))))) (bNot (bTru (fz (eCall m__law_ends (aCons (fz (eIxV 3 ixO (fz (eC (D.int 1))))) aNil))))))) (sSeq (sRet (eC (D.bl false))) sNil) sNil) (sSeq (sSet 7 (eCall (m_write_rule rF) (aCons (fz (eIxV 3 ixO (fz (eC (D.int 0))))) aNil))) (sSeq (sSet 8 (eCall (m_write_rule rF) (aCons (fz (eIxV 3 ixO (fz (eC (D.int 1))))) aNil))) (sSeq (sSet 9 (eOp2 ixO (fz (eLst (aCons (fz (eC (D.str [98, 111, 116, 104]))) (aCons (fz (eC (D.str [101, 105, 116, 104, 101, 114]))) aNil)))) (fz (eCall m__law_pick (aCons (fz (eVar 1)) (aCons (fz (eC (D.int 2))) aNil)))))) (sSeq (sIf (bAnd (toB (eOp2 leO (fz (eVar 4)) (fz (eC (D.int 40))))) (toB (eOp2 neO (fz (eCall (m_write_rule rF) (aCons (fz (eLst (aCons (fz (eVar 9)) (aCons (fz (eIxV 3 ixO (fz (eC (D.int 0))))) (aCons (fz (eCall (m__law_listed_of rF) (aCons (fz (eIxV 3 ixO (fz (eC (D.int 1))))) aNil))) aNil))))) aNil))) (fz (eMtS joinO (fz (eC (D.str [32]))) (aCons (fz (eLst (aCons (fz (eVar 9)) (aCons (fz (eVar 7)) (aCons (fz (eVar 8)) aNil))))) aNil)))))) (sSeq (sRet (eC (D.bl false))) sNil) sNil) (sSeq (sRet (eAnd (fz (eCall m__law_written (aCons (fz (eIxV 3 ixO (fz (eC (D.int 0))))) aNil))) (eOp2 eqO (fz (eOp2 eqO (fz (eVar 7)) (fz (eVar 8)))) (fz (eOp2 eqO (fz (eIxV 3 ixO (fz (eC (D.int 0))))) (fz (eIxV 3 ixO (fz (eC (D.int 1)))))))))) sNil)))))))))))
def m_law : MF := runF 10 b_law
theorem sim_law {k : Nat} (f__law_written : FnM P w K mg base k "_law_written" 1 m__law_written) (f__law_listed_of : FnM P w K mg base k "_law_listed_of" 1 (m__law_listed_of rF)) (f_write_rule : FnM P w K mg base k "write_rule" 1 (m_write_rule rF)) (f__law_pick : FnM P w K mg base k "_law_pick" 2 m__law_pick) (f__law_ends : FnM P w K mg base k "_law_ends" 1 m__law_ends) (f__law_text_rule : FnM P w K mg base k "_law_text_rule" 4 (m__law_text_rule rF)) (f__law_bag_of : FnM P w K mg base k "_law_bag_of" 2 m__law_bag_of) (f__law_many_signs : FnM P w K mg base k "_law_many_signs" 1 m__law_many_signs) (n_range : mg "range" = none) : SSs ⟨P, w, K, mg, base, ["_law_script", "_law_bag", "_law_signs", "_law_rules", "_law_many", "_law_k", "_law_parts", "_law_first", "_law_second", "_law_word"], defScope s_law, k, fun _ => true⟩ (defBody s_law) b_law := by
  unfold b_law
  refine sss_cons (h1 := ?g1) (h2 := ?g2)
  case g1 =>
    refine ss_set (he := ?g3)
    refine se_call (hf := f__law_bag_of) (ha := ?g4)
    refine sa_cons (ha := (SE.sv (s := se_var))) (hr := ?g5)
    refine sa_cons (ha := (SE.sv (s := se_int))) (hr := sa_nil)
  case g2 =>
    refine sss_cons (h1 := ?g6) (h2 := ?g7)
    case g6 =>
      refine ss_set (he := ?g8)
      refine se_call (hf := f__law_many_signs) (ha := ?g9)
      refine sa_cons (ha := (SE.sv (s := se_var))) (hr := sa_nil)
    case g7 =>
      refine sss_cons (h1 := ?g10) (h2 := ?g11)
      case g10 =>
        refine ss_set (he := (se_lst (ha := sa_nil)))
      case g11 =>
        refine sss_cons (h1 := (ss_set (he := se_int))) (h2 := ?g12)
        refine sss_cons (h1 := ?g13) (h2 := ?g14)
        case g13 =>
          refine ss_for (vs := [5]) (hg := sg_name) (hi := ?g15) (hb := ?g16)
          case g15 =>
            refine si_range1 (hm := n_range) (ha := (SE.sv (s := se_int)))
          case g16 =>
            refine sss_cons (h1 := ?g17) (h2 := ?g18)
            case g17 =>
              refine ss_set (he := ?g19)
              refine se_call (hf := f__law_bag_of) (ha := ?g20)
              refine sa_cons (ha := (SE.sv (s := se_var))) (hr := ?g21)
              refine sa_cons (ha := ?g22) (hr := sa_nil)
              refine SE.sv (s := ?g23)
              refine se_bin (ho := ok_add) (ha := (SE.sv (s := se_int))) (hb := (SE.sv (s := se_var)))
            case g18 =>
              refine sss_cons (h1 := ?g24) (h2 := ?g25)
              case g24 =>
                refine ss_set (he := ?g26)
                refine se_ix (hi := ok_ix) (ha := ?g27) (hb := ?g28)
                case g27 =>
                  refine SE.sv (s := ?g29)
                  refine se_lst (ha := ?g30)
                  refine sa_cons (ha := (SE.sv (s := se_int))) (hr := ?g31)
                  refine sa_cons (ha := (SE.sv (s := se_int))) (hr := ?g32)
                  refine sa_cons (ha := (SE.sv (s := se_int))) (hr := ?g33)
                  refine sa_cons (ha := (SE.sv (s := se_int))) (hr := ?g34)
                  refine sa_cons (ha := (SE.sv (s := se_int))) (hr := ?g35)
                  refine sa_cons (ha := (SE.sv (s := se_int))) (hr := ?g36)
                  refine sa_cons (ha := (SE.sv (s := se_int))) (hr := ?g37)
                  refine sa_cons (ha := (SE.sv (s := se_int))) (hr := sa_nil)
                case g28 =>
                  refine SE.sv (s := ?g38)
                  refine se_call (hf := f__law_pick) (ha := ?g39)
                  refine sa_cons (ha := (SE.sv (s := se_var))) (hr := ?g40)
                  refine sa_cons (ha := (SE.sv (s := se_int))) (hr := sa_nil)
              case g25 =>
                refine sss_cons (h1 := ?g41) (h2 := ?g42)
                case g41 =>
                  refine ss_if (hc := ?g43) (ha := ?g44) (hb := sss_nil)
                  case g43 =>
                    refine sb_cmp (ho := ok_eq) (ha := ?g45) (hb := (SE.sv (s := se_int)))
                    refine SE.sv (s := ?g46)
                    refine se_call (hf := f__law_pick) (ha := ?g47)
                    refine sa_cons (ha := (SE.sv (s := se_var))) (hr := ?g48)
                    refine sa_cons (ha := (SE.sv (s := se_int))) (hr := sa_nil)
                  case g44 =>
                    refine sss_cons (h1 := ?g49) (h2 := sss_nil)
                    refine ss_set (he := ?g50)
                    refine se_bin (ho := ok_add) (ha := (SE.sv (s := se_int))) (hb := ?g51)
                    refine SE.sv (s := ?g52)
                    refine se_call (hf := f__law_pick) (ha := ?g53)
                    refine sa_cons (ha := (SE.sv (s := se_var))) (hr := ?g54)
                    refine sa_cons (ha := (SE.sv (s := se_int))) (hr := sa_nil)
                case g42 =>
                  refine sss_cons (h1 := ?g55) (h2 := ?g56)
                  case g55 =>
                    refine ss_set (he := ?g57)
                    refine se_bin (ho := ok_add) (ha := (SE.sv (s := se_var))) (hb := (SE.sv (s := se_var)))
                  case g56 =>
                    refine sss_cons (h1 := ?g58) (h2 := sss_nil)
                    refine ss_expr (he := ?g59)
                    refine se_mut (slot := PySem.F.slot_list_append) (hty := PySem.F.type_list_append) (hm := ok_append) (ha := ?g60)
                    refine sa_cons (ha := ?g61) (hr := sa_nil)
                    refine SE.sv (s := ?g62)
                    refine se_call (hf := f__law_text_rule) (ha := ?g63)
                    refine sa_cons (ha := (SE.sv (s := se_var))) (hr := ?g64)
                    refine sa_cons (ha := (SE.sv (s := se_var))) (hr := ?g65)
                    refine sa_cons (ha := (SE.sv (s := se_var))) (hr := ?g66)
                    refine sa_cons (ha := ?g67) (hr := sa_nil)
                    refine SE.sv (s := ?g68)
                    refine se_bin (ho := ok_add) (ha := (SE.sv (s := se_int))) (hb := ?g69)
                    refine SE.sv (s := ?g70)
                    refine se_bin (ho := ok_fdiv) (ha := (SE.sv (s := se_int))) (hb := (SE.sv (s := se_var)))
        case g14 =>
          refine sss_cons (h1 := ?g71) (h2 := ?g72)
          case g71 =>
            refine ss_if (hc := ?g73) (ha := ?g74) (hb := sss_nil)
            case g73 =>
              refine sb_w (hw := ?g75)
              refine sw_or (ha := ?g76) (hb := ?g77)
              case g76 =>
                refine sb_not (ha := ?g78)
                refine sb_tru (ha := ?g79)
                refine SE.sv (s := ?g80)
                refine se_call (hf := f__law_written) (ha := ?g81)
                refine sa_cons (ha := ?g82) (hr := sa_nil)
                refine SE.sv (s := ?g83)
                refine se_ixv (hi := ok_ix) (hb := (SE.sv (s := se_int)))
              case g77 =>
                refine sw_or (ha := ?g84) (hb := ?g85)
                case g84 =>
                  refine sb_not (ha := ?g86)
                  refine sb_tru (ha := ?g87)
                  refine SE.sv (s := ?g88)
                  refine se_call (hf := f__law_written) (ha := ?g89)
                  refine sa_cons (ha := ?g90) (hr := sa_nil)
                  refine SE.sv (s := ?g91)
                  refine se_ixv (hi := ok_ix) (hb := (SE.sv (s := se_int)))
                case g85 =>
                  refine sw_one (ha := ?g92)
                  refine sb_not (ha := ?g93)
                  refine sb_tru (ha := ?g94)
                  refine SE.sv (s := ?g95)
                  refine se_call (hf := f__law_ends) (ha := ?g96)
                  refine sa_cons (ha := ?g97) (hr := sa_nil)
                  refine SE.sv (s := ?g98)
                  refine se_ixv (hi := ok_ix) (hb := (SE.sv (s := se_int)))
            case g74 =>
              refine sss_cons (h1 := (ss_ret (he := se_bl))) (h2 := sss_nil)
          case g72 =>
            refine sss_cons (h1 := ?g99) (h2 := ?g100)
            case g99 =>
              refine ss_set (he := ?g101)
              refine se_call (hf := f_write_rule) (ha := ?g102)
              refine sa_cons (ha := ?g103) (hr := sa_nil)
              refine SE.sv (s := ?g104)
              refine se_ixv (hi := ok_ix) (hb := (SE.sv (s := se_int)))
            case g100 =>
              refine sss_cons (h1 := ?g105) (h2 := ?g106)
              case g105 =>
                refine ss_set (he := ?g107)
                refine se_call (hf := f_write_rule) (ha := ?g108)
                refine sa_cons (ha := ?g109) (hr := sa_nil)
                refine SE.sv (s := ?g110)
                refine se_ixv (hi := ok_ix) (hb := (SE.sv (s := se_int)))
              case g106 =>
                refine sss_cons (h1 := ?g111) (h2 := ?g112)
                case g111 =>
                  refine ss_set (he := ?g113)
                  refine se_ix (hi := ok_ix) (ha := ?g114) (hb := ?g115)
                  case g114 =>
                    refine SE.sv (s := ?g116)
                    refine se_lst (ha := ?g117)
                    refine sa_cons (ha := (SE.sv (s := se_str))) (hr := ?g118)
                    refine sa_cons (ha := (SE.sv (s := se_str))) (hr := sa_nil)
                  case g115 =>
                    refine SE.sv (s := ?g119)
                    refine se_call (hf := f__law_pick) (ha := ?g120)
                    refine sa_cons (ha := (SE.sv (s := se_var))) (hr := ?g121)
                    refine sa_cons (ha := (SE.sv (s := se_int))) (hr := sa_nil)
                case g112 =>
                  refine sss_cons (h1 := ?g122) (h2 := ?g123)
                  case g122 =>
                    refine ss_if (hc := ?g124) (ha := ?g125) (hb := sss_nil)
                    case g124 =>
                      refine sb_w (hw := ?g126)
                      refine sw_and (ha := ?g127) (hb := ?g128)
                      case g127 =>
                        refine sb_cmp (ho := ok_le) (ha := (SE.sv (s := se_var))) (hb := (SE.sv (s := se_int)))
                      case g128 =>
                        refine sw_one (ha := ?g129)
                        refine sb_cmp (ho := ok_ne) (ha := ?g130) (hb := ?g131)
                        case g130 =>
                          refine SE.sv (s := ?g132)
                          refine se_call (hf := f_write_rule) (ha := ?g133)
                          refine sa_cons (ha := ?g134) (hr := sa_nil)
                          refine SE.sv (s := ?g135)
                          refine se_lst (ha := ?g136)
                          refine sa_cons (ha := (SE.sv (s := se_var))) (hr := ?g137)
                          refine sa_cons (ha := ?g138) (hr := ?g139)
                          case g138 =>
                            refine SE.sv (s := ?g140)
                            refine se_ixv (hi := ok_ix) (hb := (SE.sv (s := se_int)))
                          case g139 =>
                            refine sa_cons (ha := ?g141) (hr := sa_nil)
                            refine SE.sv (s := ?g142)
                            refine se_call (hf := f__law_listed_of) (ha := ?g143)
                            refine sa_cons (ha := ?g144) (hr := sa_nil)
                            refine SE.sv (s := ?g145)
                            refine se_ixv (hi := ok_ix) (hb := (SE.sv (s := se_int)))
                        case g131 =>
                          refine SE.sv (s := ?g146)
                          refine se_mtS (slot := PySem.F.slot_str_join) (hty := PySem.F.type_str_join) (hm := ok_join) (ho := (SE.sv (s := se_str))) (ha := ?g147)
                          refine sa_cons (ha := ?g148) (hr := sa_nil)
                          refine SE.sv (s := ?g149)
                          refine se_lst (ha := ?g150)
                          refine sa_cons (ha := (SE.sv (s := se_var))) (hr := ?g151)
                          refine sa_cons (ha := (SE.sv (s := se_var))) (hr := ?g152)
                          refine sa_cons (ha := (SE.sv (s := se_var))) (hr := sa_nil)
                    case g125 =>
                      refine sss_cons (h1 := (ss_ret (he := se_bl))) (h2 := sss_nil)
                  case g123 =>
                    refine sss_cons (h1 := ?g153) (h2 := sss_nil)
                    refine ss_ret (he := ?g154)
                    refine se_and (ha := ?g155) (hb := ?g156)
                    case g155 =>
                      refine SE.sv (s := ?g157)
                      refine se_call (hf := f__law_written) (ha := ?g158)
                      refine sa_cons (ha := ?g159) (hr := sa_nil)
                      refine SE.sv (s := ?g160)
                      refine se_ixv (hi := ok_ix) (hb := (SE.sv (s := se_int)))
                    case g156 =>
                      refine se_one (ha := ?g161)
                      refine se_cmp (ho := ok_eq) (ha := ?g162) (hb := ?g163)
                      case g162 =>
                        refine SE.sv (s := ?g164)
                        refine se_cmp (ho := ok_eq) (ha := (SE.sv (s := se_var))) (hb := (SE.sv (s := se_var)))
                      case g163 =>
                        refine SE.sv (s := ?g165)
                        refine se_cmp (ho := ok_eq) (ha := ?g166) (hb := ?g167)
                        case g166 =>
                          refine SE.sv (s := ?g168)
                          refine se_ixv (hi := ok_ix) (hb := (SE.sv (s := se_int)))
                        case g167 =>
                          refine SE.sv (s := ?g169)
                          refine se_ixv (hi := ok_ix) (hb := (SE.sv (s := se_int)))

end
end Mi
set_option Elab.async false
set_option linter.all false
set_option maxRecDepth 100000
set_option maxHeartbeats 1000000
open PySem PySem.Spec PyProof.Rows L2
namespace Mi
/-! ## the rules of the law, their data, their words -/
inductive Ru where
  | any
  | sum (m : Nat) (ws : List Nat) (g : Nat)
  | square (rows : List (List Nat)) (goals : List Nat)
  | faces (fs : List (List Nat)) (r : Ru)
  | back (r : Ru)
  | cut (a b : Nat) (r : Ru)
  | nay (r : Ru)
  | both (r s : Ru)
  | either (r s : Ru)
/-- a tuple (true), a list (false) -/
def sq (k : Bool) (ds : List D) : D := if k then .tup ds else .lst ds
@[simp] theorem sq_ix (h : MH) (k : Bool) (ds : List D) (j : Int) : ixD h (sq k ds) (.int j) = atI ds j := by cases k <;> rfl
@[simp] theorem sq_len (h : MH) (k : Bool) (ds : List D) : lenO h [sq k ds] = some (.v (.int ds.length)) := by cases k <;> rfl
@[simp] theorem sq_items (k : Bool) (ds : List D) : itemsD (sq k ds) = some ds := by cases k <;> rfl
@[simp] theorem sq_tup (h : MH) (k : Bool) (ds : List D) : tupleO h [sq k ds] = some (.v (.tup ds)) := by cases k <;> rfl
abbrev nD (n : Nat) : D := .int (n : Int)
inductive RD : Ru → D → Prop
  | any (k : Bool) : RD .any (sq k [.str [97, 110, 121]])
  | sum (k k' : Bool) (m : Nat) (ws : List Nat) (g : Nat) : RD (.sum m ws g) (sq k [.str [115, 117, 109], nD m, sq k' (ws.map nD), nD g])
  | square (k k1 k2 k3 : Bool) (rows : List (List Nat)) (goals : List Nat) : RD (.square rows goals) (sq k [.str [115, 113, 117, 97, 114, 101], sq k1 (rows.map fun r => sq k2 (r.map nD)), sq k3 (goals.map nD)])
  | faces (k k' : Bool) (fs : List (List Nat)) {r : Ru} {d : D} : RD r d → RD (.faces fs r) (sq k [.str [102, 97, 99, 101, 115], sq k' (fs.map .str), d])
  | back (k : Bool) {r : Ru} {d : D} : RD r d → RD (.back r) (sq k [.str [98, 97, 99, 107], d])
  | cut (k : Bool) (a b : Nat) {r : Ru} {d : D} : RD r d → RD (.cut a b r) (sq k [.str [99, 117, 116], nD a, nD b, d])
  | nay (k : Bool) {r : Ru} {d : D} : RD r d → RD (.nay r) (sq k [.str [110, 111, 116], d])
  | both (k : Bool) {r s : Ru} {d e : D} : RD r d → RD s e → RD (.both r s) (sq k [.str [98, 111, 116, 104], d, e])
  | either (k : Bool) {r s : Ru} {d e : D} : RD r d → RD s e → RD (.either r s) (sq k [.str [101, 105, 116, 104, 101, 114], d, e])
def Ru.dep : Ru → Nat
  | .faces _ r => r.dep + 1
  | .back r => r.dep + 1
  | .cut _ _ r => r.dep + 1
  | .nay r => r.dep + 1
  | .both r s => max r.dep s.dep + 1
  | .either r s => max r.dep s.dep + 1
  | _ => 0
def Ru.size : Ru → Nat
  | .faces _ r => r.size + 1
  | .back r => r.size + 1
  | .cut _ _ r => r.size + 1
  | .nay r => r.size + 1
  | .both r s => r.size + s.size + 1
  | .either r s => r.size + s.size + 1
  | _ => 1
theorem Ru.dep_size : ∀ r : Ru, r.dep + 1 ≤ r.size
  | .any => by simp [dep, size]
  | .sum .. => by simp [dep, size]
  | .square .. => by simp [dep, size]
  | .faces _ r => by have := r.dep_size; simp only [dep, size]; omega
  | .back r => by have := r.dep_size; simp only [dep, size]; omega
  | .cut _ _ r => by have := r.dep_size; simp only [dep, size]; omega
  | .nay r => by have := r.dep_size; simp only [dep, size]; omega
  | .both r s => by have := r.dep_size; have := s.dep_size; simp only [dep, size]; omega
  | .either r s => by have := r.dep_size; have := s.dep_size; simp only [dep, size]; omega
abbrev nm (n : Nat) : List Nat := TL.numL n
abbrev cm (ws : List Nat) : List Nat := jn 44 (ws.map nm)
def Ru.words : Ru → List (List Nat)
  | .any => [[97, 110, 121]]
  | .sum m ws g => [[115, 117, 109], nm m, cm ws, nm g]
  | .square rows goals => [[115, 113, 117, 97, 114, 101], jn 47 (rows.map cm), cm goals]
  | .faces fs r => [102, 97, 99, 101, 115] :: jn 44 fs :: r.words
  | .back r => [98, 97, 99, 107] :: r.words
  | .cut a b r => [99, 117, 116] :: nm a :: nm b :: r.words
  | .nay r => [110, 111, 116] :: r.words
  | .both r s => [98, 111, 116, 104] :: (r.words ++ s.words)
  | .either r s => [101, 105, 116, 104, 101, 114] :: (r.words ++ s.words)
theorem Ru.words_ne (r : Ru) : r.words ≠ [] := by cases r <;> simp [words]
def Ru.txt (r : Ru) : List Nat := jn 32 r.words
/-- what a law draws -/
def Ru.ok : Ru → Prop
  | .any => True
  | .sum m ws g => 2 ≤ m ∧ m ≤ 60 ∧ ws ≠ [] ∧ ws.length ≤ 8 ∧ (∀ n ∈ ws, n ≤ 59) ∧ g ≤ 59
  | .square rows goals => rows ≠ [] ∧ rows.length ≤ 60 ∧ (∀ r ∈ rows, 2 ≤ r.length ∧ r.length ≤ 12 ∧ ∀ n ∈ r, n ≤ 59) ∧ goals ≠ [] ∧ goals.length ≤ 60 ∧ ∀ n ∈ goals, n ≤ 59
  | .faces fs r => fs ≠ [] ∧ fs.length ≤ 4 ∧ (∀ f ∈ fs, 2 ≤ f.length ∧ f.length ≤ 12 ∧ ∀ c ∈ f, (48 ≤ c ∧ c ≤ 57) ∨ (65 ≤ c ∧ c ≤ 90)) ∧ r.ok
  | .back r => r.ok
  | .cut a b r => a ≤ 3 ∧ b ≤ 3 ∧ r.ok
  | .nay r => r.ok
  | .both r s => r.ok ∧ s.ok
  | .either r s => r.ok ∧ s.ok
/-! sizes -/
theorem strI_nat (n : Nat) : strI (n : Int) = nm n := TL.tl_num n
theorem nm_len {n : Nat} (h : n ≤ 60) : (nm n).length ≤ 2 := TL.numL_len (by decide) (by omega)
theorem log_ok {n : Nat} (h : n ≤ 60) : n.log2 < 1920 := by
  by_cases h0 : n = 0
  · subst h0; decide
  · have := (Nat.log2_lt h0 (k := 6)).mpr (by omega)
    omega
theorem sum_le {α : Type} (f : α → Nat) (k : Nat) : ∀ l : List α, (∀ a ∈ l, f a ≤ k) → (l.map f).sum ≤ k * l.length
  | [], _ => by simp
  | a :: l, h => by
    have h1 := h a (by simp)
    have h2 := sum_le f k l fun b m => h b (by simp [m])
    simp only [List.map_cons, List.sum_cons, List.length_cons, Nat.mul_add, Nat.mul_one]
    omega
theorem jn_le (c k : Nat) {l : List (List Nat)} (h : ∀ a ∈ l, a.length ≤ k) : (jn c l).length ≤ (k + 1) * l.length := by
  have h1 := jn_len c l
  have h2 := sum_le List.length k l h
  rw [Nat.add_mul]
  omega
theorem cm_len {ws : List Nat} (h : ∀ n ∈ ws, n ≤ 60) : (cm ws).length ≤ 3 * ws.length := by
  have := jn_le 44 2 (l := ws.map nm) (fun a m => by
    obtain ⟨n, hn, rfl⟩ := List.mem_map.mp m
    exact nm_len (h n hn))
  simpa using this
/-- all letters of the words, a blank each -/
def Ru.len (r : Ru) : Nat := (r.words.map List.length).sum + r.words.length
theorem Ru.len_ok : ∀ r : Ru, r.ok → r.len ≤ 3000 * r.size
  | .any, _ => by simp [len, words, size]
  | .sum m ws g, h => by
    obtain ⟨h1, h2, h3, h4, h5, h6⟩ := h
    have := nm_len h2
    have := nm_len (n := g) (by omega)
    have := cm_len (ws := ws) fun n m => by have := h5 n m; omega
    simp only [len, words, size, List.map_cons, List.map_nil, List.sum_cons, List.sum_nil, List.length_cons, List.length_nil]
    omega
  | .square rows goals, h => by
    obtain ⟨h1, h2, h3, h4, h5, h6⟩ := h
    have a1 := cm_len (ws := goals) fun n m => by have := h6 n m; omega
    have a2 := jn_le 47 36 (l := rows.map cm) fun a m => by
      obtain ⟨r, hr, rfl⟩ := List.mem_map.mp m
      obtain ⟨b1, b2, b3⟩ := h3 r hr
      have := cm_len (ws := r) fun n m => by have := b3 n m; omega
      omega
    rw [List.length_map] at a2
    simp only [len, words, size, List.map_cons, List.map_nil, List.sum_cons, List.sum_nil, List.length_cons, List.length_nil]
    omega
  | .faces fs r, h => by
    obtain ⟨h1, h2, h3, h4⟩ := h
    have a0 := r.len_ok h4
    have a2 := jn_le 44 12 (l := fs) fun a m => (h3 a m).2.1
    simp only [len, words, size, List.map_cons, List.map_nil, List.sum_cons, List.sum_nil, List.length_cons, List.length_nil] at *
    omega
  | .back r, h => by
    have a0 := r.len_ok h
    simp only [len, words, size, List.map_cons, List.map_nil, List.sum_cons, List.sum_nil, List.length_cons, List.length_nil] at *
    omega
  | .cut a b r, h => by
    obtain ⟨h1, h2, h3⟩ := h
    have a0 := r.len_ok h3
    have := nm_len (n := a) (by omega)
    have := nm_len (n := b) (by omega)
    simp only [len, words, size, List.map_cons, List.map_nil, List.sum_cons, List.sum_nil, List.length_cons, List.length_nil] at *
    omega
  | .nay r, h => by
    have a0 := r.len_ok h
    simp only [len, words, size, List.map_cons, List.map_nil, List.sum_cons, List.sum_nil, List.length_cons, List.length_nil] at *
    omega
  | .both r s, h => by
    have a0 := r.len_ok h.1
    have a1 := s.len_ok h.2
    simp only [len, words, size, List.map_cons, List.map_nil, List.sum_cons, List.sum_nil, List.length_cons, List.length_nil, List.map_append, List.sum_append, List.length_append] at *
    omega
  | .either r s, h => by
    have a0 := r.len_ok h.1
    have a1 := s.len_ok h.2
    simp only [len, words, size, List.map_cons, List.map_nil, List.sum_cons, List.sum_nil, List.length_cons, List.length_nil, List.map_append, List.sum_append, List.length_append] at *
    omega
theorem Ru.txt_len (r : Ru) : r.txt.length ≤ r.len := by
  have := jn_len 32 r.words
  unfold txt len
  omega
/-! ## writing -/
theorem r_nums (k : Bool) {ws : List Nat} (h : MH) (i : Nat) (env : Ev) (h1 : ∀ n ∈ ws, n ≤ 60) (hl : ws.length ≤ 100) (hi : i < env.length) :
    compL (tN i) bYes (fz (eCallB strO (aCons (fz (eVar i)) aNil))) env (ws.map nD) h [] = some (ws.map (fun n => D.str (nm n)), h) := by
  rw [compL_map (f := fun d => match d with | .int j => .str (strI j) | _ => .non) ?_ ?_]
  · simp [Function.comp_def, strI_nat]
  · intro d m
    obtain ⟨n, hn, rfl⟩ := List.mem_map.mp m
    refine ⟨env.set i (.v (nD n)), env.set i (.v (nD n)), rfl, ?_⟩
    simp [hi, log_ok (h1 n hn)]
  · simp [sizeLine]; omega
theorem r_joined (k : Bool) (ws : List Nat) (h : MH) (h1 : ∀ n ∈ ws, n ≤ 60) (hl : ws.length ≤ 100) : m_joined [sq k (ws.map nD)] h = .ok (.v (.str (cm ws))) h := by
  unfold m_joined b_joined
  simp
  rw [r_nums k h 1 _ h1 hl (by simp)]
  have e := toStrs_fun nm ws
  have e3 := sum_le (fun n => (nm n).length) 2 ws fun n m => nm_len (h1 n m)
  simp [e, Function.comp_def]
  rw [if_pos (by omega)]
  simp
theorem r_commas (k : Bool) (ws : List Nat) (h : MH) (h1 : ∀ n ∈ ws, n ≤ 60) (hl : ws.length ≤ 100) : m__law_commas [sq k (ws.map nD)] h = .ok (.v (.str (cm ws))) h := by
  unfold m__law_commas b__law_commas
  simp
  rw [r_nums k h 1 _ h1 hl (by simp)]
  have e := toStrs_fun nm ws
  have e3 := sum_le (fun n => (nm n).length) 2 ws fun n m => nm_len (h1 n m)
  simp [e, Function.comp_def]
  rw [if_pos (by omega)]
  simp
end Mi
set_option Elab.async false
set_option linter.all false
set_option maxRecDepth 100000
set_option maxHeartbeats 1000000
open PySem PySem.Spec PyProof.Rows L2
namespace Mi
theorem own_sum (k k' : Bool) {m g : Nat} {ws : List Nat} (h : MH) (hm : m ≤ 60) (hg : g ≤ 60) (h1 : ∀ n ∈ ws, n ≤ 60) (hl : ws.length ≤ 100) :
    m_own_words [sq k [.str [115, 117, 109], nD m, sq k' (ws.map nD), nD g]] h = .ok (.own [.str [115, 117, 109], .str (nm m), .str (cm ws), .str (nm g)]) h := by
  unfold m_own_words b_own_words
  simp [r_joined k' ws h h1 hl, log_ok hm, log_ok hg, strI_nat, sizeLine]
theorem r_rows (k2 : Bool) {rows : List (List Nat)} (h : MH) (i : Nat) (env : Ev) (mf : MF) (hi : i < env.length) (hr : rows.length ≤ 100) (hj : ∀ r ∈ rows, mf [sq k2 (r.map nD)] h = .ok (.v (.str (cm r))) h) :
    compL (tN i) bYes (fz (eCall mf (aCons (fz (eVar i)) aNil))) env (rows.map fun r => sq k2 (r.map nD)) h [] = some (rows.map (fun r => D.str (cm r)), h) := by
  have key : ∀ (rows : List (List Nat)) (acc : List D), (∀ r ∈ rows, mf [sq k2 (r.map nD)] h = .ok (.v (.str (cm r))) h) → acc.length + rows.length ≤ sizeLine →
      compL (tN i) bYes (fz (eCall mf (aCons (fz (eVar i)) aNil))) env (rows.map fun r => sq k2 (r.map nD)) h acc = some (acc ++ rows.map (fun r => D.str (cm r)), h) := by
    intro rows
    induction rows with
    | nil => intro acc _ _; simp [compL]
    | cons r rows ih =>
      intro acc hj hl
      rw [List.length_cons] at hl
      have e := hj r (by simp)
      simp only [List.map_cons, compL]
      simp [hi, e]
      refine ⟨by omega, ?_⟩
      rw [ih _ (fun x m => hj x (by simp [m])) (by simp; omega)]
      simp
  have := key rows [] hj (by simp [sizeLine]; omega)
  simpa using this
theorem own_square (k k1 k2 k3 : Bool) {rows : List (List Nat)} {goals : List Nat} (h : MH) (h0 : rows.length ≤ 60) (h1 : ∀ r ∈ rows, r.length ≤ 12 ∧ ∀ n ∈ r, n ≤ 60) (h2 : ∀ n ∈ goals, n ≤ 60) (hl : goals.length ≤ 100) :
    m_own_words [sq k [.str [115, 113, 117, 97, 114, 101], sq k1 (rows.map fun r => sq k2 (r.map nD)), sq k3 (goals.map nD)]] h = .ok (.own [.str [115, 113, 117, 97, 114, 101], .str (jn 47 (rows.map cm)), .str (cm goals)]) h := by
  unfold m_own_words b_own_words
  simp
  rw [r_rows k2 h 2 _ m_joined (by simp) (by omega) (fun r m => r_joined k2 r h (h1 r m).2 (by have := (h1 r m).1; omega))]
  have e := toStrs_fun cm rows
  have e3 := sum_le (fun r => (cm r).length) 36 rows fun r m => by
    have := cm_len (h1 r m).2
    have := (h1 r m).1
    omega
  simp [e, Function.comp_def]
  rw [if_pos (by omega)]
  simp [r_joined k3 goals h h2 hl, sizeLine]
theorem r_faces {fs : List (List Nat)} (h : MH) (i : Nat) (env : Ev) (hi : i < env.length) (hl : fs.length ≤ 100) :
    compL (tN i) bYes (fz (eVar i)) env (fs.map D.str) h [] = some (fs.map D.str, h) := by
  rw [compL_map (f := fun d => d) ?_ ?_]
  · simp
  · intro d m
    refine ⟨env.set i (.v d), env.set i (.v d), rfl, ?_⟩
    simp [hi]
  · simp [sizeLine]; omega
theorem own_faces (k k' : Bool) {fs : List (List Nat)} {d : D} (h : MH) (hl : fs.length ≤ 4) (h1 : ∀ f ∈ fs, f.length ≤ 12) :
    m_own_words [sq k [.str [102, 97, 99, 101, 115], sq k' (fs.map .str), d]] h = .ok (.own [.str [102, 97, 99, 101, 115], .str (jn 44 fs)]) h := by
  unfold m_own_words b_own_words
  simp
  rw [r_faces h 3 _ (by simp) (by omega)]
  have e3 := sum_le List.length 12 fs h1
  simp [toStrs_str]
  rw [if_pos (by omega)]
  simp [sizeLine]
theorem own_cut (k : Bool) {a b : Nat} {d : D} (h : MH) (ha : a ≤ 60) (hb : b ≤ 60) :
    m_own_words [sq k [.str [99, 117, 116], nD a, nD b, d]] h = .ok (.own [.str [99, 117, 116], .str (nm a), .str (nm b)]) h := by
  unfold m_own_words b_own_words
  simp [log_ok ha, log_ok hb, strI_nat, sizeLine]
theorem own_else (k : Bool) {w : List Nat} {ds : List D} (h : MH) (hw : w = [97, 110, 121] ∨ w = [98, 97, 99, 107] ∨ w = [110, 111, 116] ∨ w = [98, 111, 116, 104] ∨ w = [101, 105, 116, 104, 101, 114]) :
    m_own_words [sq k (.str w :: ds)] h = .ok (.own [.str w]) h := by
  unfold m_own_words b_own_words
  rcases hw with rfl | rfl | rfl | rfl | rfl <;> simp [sizeLine]
/-! the rules inside -/
theorem inner0 (k : Bool) {w : List Nat} {ds : List D} (h : MH) (hw : w = [97, 110, 121] ∨ w = [115, 117, 109] ∨ w = [115, 113, 117, 97, 114, 101]) : m_inner_rules [sq k (.str w :: ds)] h = .ok (.own []) h := by
  unfold m_inner_rules b_inner_rules
  rcases hw with rfl | rfl | rfl <;> simp [c_INNER, List.lookup_cons, compL, rangeD]
theorem inner1 (k : Bool) {w : List Nat} {ds : List D} {d : D} (h : MH) (hw : w = [102, 97, 99, 101, 115] ∨ w = [98, 97, 99, 107] ∨ w = [99, 117, 116] ∨ w = [110, 111, 116]) (hl : ds.length ≤ 3) : m_inner_rules [sq k (.str w :: (ds ++ [d]))] h = .ok (.own [d]) h := by
  have e : atI (D.str w :: (ds ++ [d])) ((ds.length : Int) + 1) = some d := by
    have := atI_ofNat (D.str w :: (ds ++ [d])) (ds.length + 1)
    simpa using this
  unfold m_inner_rules b_inner_rules
  rcases hw with rfl | rfl | rfl | rfl <;> simp [c_INNER, List.lookup_cons, compL, rangeD, sizeLine, e]
theorem inner2 (k : Bool) {w : List Nat} {d e : D} (h : MH) (hw : w = [98, 111, 116, 104] ∨ w = [101, 105, 116, 104, 101, 114]) : m_inner_rules [sq k [.str w, d, e]] h = .ok (.own [d, e]) h := by
  have e2 : List.range 2 = [0, 1] := rfl
  unfold m_inner_rules b_inner_rules
  rcases hw with rfl | rfl <;> simp [c_INNER, List.lookup_cons, compL, rangeD, sizeLine, e2]
/-- one step of the writer -/
theorem write_step {n : Nat} {d : D} {own : List (List Nat)} {ins : List (D × List Nat)} (h : MH) (h1 : m_own_words [d] h = .ok (.own (own.map D.str)) h) (h2 : m_inner_rules [d] h = .ok (.own (ins.map (·.1))) h)
    (h3 : ∀ p ∈ ins, m_write_rule n [p.1] h = .ok (.v (.str p.2)) h) (hl : ((own ++ ins.map (·.2)).map List.length).sum + (own ++ ins.map (·.2)).length ≤ 16777216) (hi : own.length ≤ 10 ∧ ins.length ≤ 2) :
    m_write_rule (n + 1) [d] h = .ok (.v (.str (jn 32 (own ++ ins.map (·.2))))) h := by
  have e0 : compL (tN 1) bYes (fz (eCall (m_write_rule n) (aCons (fz (eVar 1)) aNil))) [.un, .un] (ins.map (·.1)) h [] = some (ins.map (fun p => D.str p.2), h) := by
    have key : ∀ (ins : List (D × List Nat)) (acc : List D), (∀ p ∈ ins, m_write_rule n [p.1] h = .ok (.v (.str p.2)) h) → acc.length + ins.length ≤ sizeLine →
        compL (tN 1) bYes (fz (eCall (m_write_rule n) (aCons (fz (eVar 1)) aNil))) [.un, .un] (ins.map (·.1)) h acc = some (acc ++ ins.map (fun p => D.str p.2), h) := by
      intro ins
      induction ins with
      | nil => intro acc _ _; simp [compL]
      | cons r rows ih =>
        intro acc hj hl
        rw [List.length_cons] at hl
        have e := hj r (by simp)
        simp only [List.map_cons, compL]
        simp [e]
        refine ⟨by omega, ?_⟩
        rw [ih _ (fun x m => hj x (by simp [m])) (by simp; omega)]
        simp
    have := key ins [] h3 (by simp [sizeLine]; omega)
    simpa using this
  show runF 2 (b_write_rule (m_write_rule n)) [d] h = _
  unfold b_write_rule
  have e1 : toStrs (own.map D.str ++ ins.map fun p => D.str p.2) = some (own ++ ins.map (·.2)) := by
    have := toStrs_str (own ++ ins.map (·.2))
    simpa [Function.comp_def] using this
  simp [h1, h2, e0]
  rw [if_pos (by simp [sizeLine]; omega)]
  simp [e1]
  simp at hl
  rw [if_pos (by omega)]
  simp
theorem r_write {r : Ru} {d : D} (hd : RD r d) : r.ok → r.size ≤ 100 → ∀ n h, r.dep < n → m_write_rule n [d] h = .ok (.v (.str r.txt)) h := by
  induction hd with
  | any k =>
    intro ok hs n h hn
    obtain ⟨n, rfl⟩ : ∃ m, n = m + 1 := ⟨n - 1, by omega⟩
    have := write_step (n := n) (own := [[97, 110, 121]]) (ins := []) h (own_else k (ds := []) h (.inl rfl)) (inner0 k (ds := []) h (.inl rfl)) (by simp) (by simp) (by simp)
    simpa [Ru.txt, Ru.words] using this
  | sum k k' m ws g =>
    intro ok hs n h hn
    obtain ⟨n, rfl⟩ : ∃ m, n = m + 1 := ⟨n - 1, by omega⟩
    have hlen := Ru.len_ok _ ok
    obtain ⟨o1, o2, o3, o4, o5, o6⟩ := ok
    have := write_step (n := n) (own := [[115, 117, 109], nm m, cm ws, nm g]) (ins := []) h (own_sum k k' h o2 (by omega) (fun n m => by have := o5 n m; omega) (by omega)) (inner0 k h (.inr (.inl rfl))) (by simp)
      (by simp [Ru.len, Ru.words, Ru.size] at hlen hs; simp; omega) (by simp)
    simpa [Ru.txt, Ru.words] using this
  | square k k1 k2 k3 rows goals =>
    intro ok hs n h hn
    obtain ⟨n, rfl⟩ : ∃ m, n = m + 1 := ⟨n - 1, by omega⟩
    have hlen := Ru.len_ok _ ok
    obtain ⟨o1, o2, o3, o4, o5, o6⟩ := ok
    have := write_step (n := n) (own := [[115, 113, 117, 97, 114, 101], jn 47 (rows.map cm), cm goals]) (ins := []) h (own_square k k1 k2 k3 h o2 (fun r m => ⟨(o3 r m).2.1, fun n q => by have := (o3 r m).2.2 n q; omega⟩) (fun n m => by have := o6 n m; omega) (by omega)) (inner0 k h (.inr (.inr rfl))) (by simp)
      (by simp [Ru.len, Ru.words, Ru.size] at hlen hs; simp; omega) (by simp)
    simpa [Ru.txt, Ru.words] using this
  | @faces k k' fs r d _ ih =>
    intro ok hs n h hn
    obtain ⟨n, rfl⟩ : ∃ m, n = m + 1 := ⟨n - 1, by omega⟩
    have hlen := Ru.len_ok _ ok
    obtain ⟨o1, o2, o3, o4⟩ := ok
    simp only [Ru.size] at hs
    simp only [Ru.dep] at hn
    have tl := r.txt_len
    have := write_step (n := n) (own := [[102, 97, 99, 101, 115], jn 44 fs]) (ins := [(d, r.txt)]) h (own_faces k k' h o2 fun f m => (o3 f m).2.1) (inner1 k (ds := [sq k' (fs.map .str)]) h (.inl rfl) (by simp)) (by simpa using ih o4 (by omega) n h (by omega))
      (by simp [Ru.len, Ru.words, Ru.size] at hlen tl; simp; omega) (by simp)
    refine Eq.trans this ?_
    have e := jn_jn 32 [[102, 97, 99, 101, 115], jn 44 fs] [r.words] (by simpa using r.words_ne) (by simp)
    simpa [Ru.txt, Ru.words] using e
  | @back k r d _ ih =>
    intro ok hs n h hn
    obtain ⟨n, rfl⟩ : ∃ m, n = m + 1 := ⟨n - 1, by omega⟩
    have hlen := Ru.len_ok _ ok
    simp only [Ru.size] at hs
    simp only [Ru.dep] at hn
    have tl := r.txt_len
    have := write_step (n := n) (own := [[98, 97, 99, 107]]) (ins := [(d, r.txt)]) h (own_else k h (.inr (.inl rfl))) (inner1 k (ds := []) h (.inr (.inl rfl)) (by simp)) (by simpa using ih ok (by omega) n h (by omega))
      (by simp [Ru.len, Ru.words, Ru.size] at hlen tl; simp; omega) (by simp)
    refine Eq.trans this ?_
    have e := jn_jn 32 [[98, 97, 99, 107]] [r.words] (by simpa using r.words_ne) (by simp)
    simpa [Ru.txt, Ru.words] using e
  | @cut k a b r d _ ih =>
    intro ok hs n h hn
    obtain ⟨n, rfl⟩ : ∃ m, n = m + 1 := ⟨n - 1, by omega⟩
    have hlen := Ru.len_ok _ ok
    obtain ⟨o1, o2, o3⟩ := ok
    simp only [Ru.size] at hs
    simp only [Ru.dep] at hn
    have tl := r.txt_len
    have := write_step (n := n) (own := [[99, 117, 116], nm a, nm b]) (ins := [(d, r.txt)]) h (own_cut k h (by omega) (by omega)) (inner1 k (ds := [nD a, nD b]) h (.inr (.inr (.inl rfl))) (by simp)) (by simpa using ih o3 (by omega) n h (by omega))
      (by simp [Ru.len, Ru.words, Ru.size] at hlen tl; simp; omega) (by simp)
    refine Eq.trans this ?_
    have e := jn_jn 32 [[99, 117, 116], nm a, nm b] [r.words] (by simpa using r.words_ne) (by simp)
    simpa [Ru.txt, Ru.words] using e
  | @nay k r d _ ih =>
    intro ok hs n h hn
    obtain ⟨n, rfl⟩ : ∃ m, n = m + 1 := ⟨n - 1, by omega⟩
    have hlen := Ru.len_ok _ ok
    simp only [Ru.size] at hs
    simp only [Ru.dep] at hn
    have tl := r.txt_len
    have := write_step (n := n) (own := [[110, 111, 116]]) (ins := [(d, r.txt)]) h (own_else k h (.inr (.inr (.inl rfl)))) (inner1 k (ds := []) h (.inr (.inr (.inr rfl))) (by simp)) (by simpa using ih ok (by omega) n h (by omega))
      (by simp [Ru.len, Ru.words, Ru.size] at hlen tl; simp; omega) (by simp)
    refine Eq.trans this ?_
    have e := jn_jn 32 [[110, 111, 116]] [r.words] (by simpa using r.words_ne) (by simp)
    simpa [Ru.txt, Ru.words] using e
  | @both k r s d e _ _ ih1 ih2 =>
    intro ok hs n h hn
    obtain ⟨n, rfl⟩ : ∃ m, n = m + 1 := ⟨n - 1, by omega⟩
    have hlen := Ru.len_ok _ ok
    simp only [Ru.size] at hs
    simp only [Ru.dep] at hn
    have tl := r.txt_len
    have tl2 := s.txt_len
    have := write_step (n := n) (own := [[98, 111, 116, 104]]) (ins := [(d, r.txt), (e, s.txt)]) h (own_else k h (.inr (.inr (.inr (.inl rfl))))) (inner2 k h (.inl rfl))
      (by intro p m; simp at m; rcases m with rfl | rfl; exact ih1 ok.1 (by omega) n h (by omega); exact ih2 ok.2 (by omega) n h (by omega))
      (by simp [Ru.len, Ru.words, Ru.size] at hlen tl tl2; simp; omega) (by simp)
    refine Eq.trans this ?_
    have e := jn_jn 32 [[98, 111, 116, 104]] [r.words, s.words] (by intro b m; simp at m; rcases m with rfl | rfl; exact r.words_ne; exact s.words_ne) (by simp)
    simpa [Ru.txt, Ru.words] using e
  | @either k r s d e _ _ ih1 ih2 =>
    intro ok hs n h hn
    obtain ⟨n, rfl⟩ : ∃ m, n = m + 1 := ⟨n - 1, by omega⟩
    have hlen := Ru.len_ok _ ok
    simp only [Ru.size] at hs
    simp only [Ru.dep] at hn
    have tl := r.txt_len
    have tl2 := s.txt_len
    have := write_step (n := n) (own := [[101, 105, 116, 104, 101, 114]]) (ins := [(d, r.txt), (e, s.txt)]) h (own_else k h (.inr (.inr (.inr (.inr rfl))))) (inner2 k h (.inr rfl))
      (by intro p m; simp at m; rcases m with rfl | rfl; exact ih1 ok.1 (by omega) n h (by omega); exact ih2 ok.2 (by omega) n h (by omega))
      (by simp [Ru.len, Ru.words, Ru.size] at hlen tl tl2; simp; omega) (by simp)
    refine Eq.trans this ?_
    have e := jn_jn 32 [[101, 105, 116, 104, 101, 114]] [r.words, s.words] (by intro b m; simp at m; rcases m with rfl | rfl; exact r.words_ne; exact s.words_ne) (by simp)
    simpa [Ru.txt, Ru.words] using e
end Mi
set_option Elab.async false
set_option linter.all false
set_option maxRecDepth 100000
set_option maxHeartbeats 1000000
open PySem PySem.Spec PyProof.Rows L2
namespace Mi
/-! ## the law's own writer -/
@[simp] theorem sq_join (h : MH) (k : Bool) (s : List Nat) (xs : List D) : joinO h (.str s) [sq k xs] = (match toStrs xs with
    | some l => if (l.map List.length).sum + l.length * s.length ≤ 16777216 then some (.v (.str (TL.joinL s l))) else none
    | none => none) := by cases k <;> rfl
theorem words_lt (r : Ru) (ok : r.ok) (hs : r.size ≤ 100) : r.words.length ≤ 300000 := by
  have := r.len_ok ok
  unfold Ru.len at this
  omega
theorem r_words : ∀ {r : Ru} {d : D}, RD r d → r.ok → r.size ≤ 100 → ∀ n h, r.dep < n → m__law_rule_words n [d] h = .ok (.own (r.words.map D.str)) h := by
  intro r d hd
  induction hd with
  | any k =>
    intro ok hs n h hn
    obtain ⟨n, rfl⟩ : ∃ m, n = m + 1 := ⟨n - 1, by omega⟩
    show runF 3 (b__law_rule_words (m__law_rule_words n)) _ h = _
    unfold b__law_rule_words
    simp [sizeLine, Ru.words]
  | sum k k' m ws g =>
    intro ok hs n h hn
    obtain ⟨n, rfl⟩ : ∃ m, n = m + 1 := ⟨n - 1, by omega⟩
    obtain ⟨o1, o2, o3, o4, o5, o6⟩ := ok
    show runF 3 (b__law_rule_words (m__law_rule_words n)) _ h = _
    unfold b__law_rule_words
    simp [sizeLine, Ru.words, r_commas k' ws h (fun n m => by have := o5 n m; omega) (by omega), log_ok o2, log_ok (show g ≤ 60 by omega), strI_nat]
  | square k k1 k2 k3 rows goals =>
    intro ok hs n h hn
    obtain ⟨n, rfl⟩ : ∃ m, n = m + 1 := ⟨n - 1, by omega⟩
    obtain ⟨o1, o2, o3, o4, o5, o6⟩ := ok
    show runF 3 (b__law_rule_words (m__law_rule_words n)) _ h = _
    unfold b__law_rule_words
    have e := toStrs_fun cm rows
    have e3 := sum_le (fun r => (cm r).length) 36 rows fun r m => by
      have := cm_len (ws := r) fun n q => by have := (o3 r m).2.2 n q; omega
      have := (o3 r m).2.1
      omega
    simp
    rw [r_rows k2 h 2 _ m__law_commas (by simp) (by omega) (fun r m => r_commas k2 r h (fun n q => by have := (o3 r m).2.2 n q; omega) (by have := (o3 r m).2.1; omega))]
    simp [e, Function.comp_def]
    rw [if_pos (by omega)]
    simp [sizeLine, Ru.words, r_commas k3 goals h (fun n m => by have := o6 n m; omega) (by omega)]
  | @faces k k' fs r d _ ih =>
    intro ok hs n h hn
    obtain ⟨n, rfl⟩ : ∃ m, n = m + 1 := ⟨n - 1, by omega⟩
    obtain ⟨o1, o2, o3, o4⟩ := ok
    simp only [Ru.size] at hs
    simp only [Ru.dep] at hn
    have wl := words_lt r o4 (by omega)
    have e3 := sum_le List.length 12 fs fun f m => (o3 f m).2.1
    show runF 3 (b__law_rule_words (m__law_rule_words n)) _ h = _
    unfold b__law_rule_words
    simp [toStrs_str]
    rw [if_pos (by omega)]
    simp [ih o4 (by omega) n h (by omega), sizeLine, Ru.words]
    rw [if_pos (by omega)]
    simp
  | @back k r d _ ih =>
    intro ok hs n h hn
    obtain ⟨n, rfl⟩ : ∃ m, n = m + 1 := ⟨n - 1, by omega⟩
    simp only [Ru.size] at hs
    simp only [Ru.dep] at hn
    have wl := words_lt r ok (by omega)
    show runF 3 (b__law_rule_words (m__law_rule_words n)) _ h = _
    unfold b__law_rule_words
    simp [ih ok (by omega) n h (by omega), inL, flatD, eqF, sizeLine, Ru.words]
    rw [if_pos (by omega)]
    simp
  | @cut k a b r d _ ih =>
    intro ok hs n h hn
    obtain ⟨n, rfl⟩ : ∃ m, n = m + 1 := ⟨n - 1, by omega⟩
    obtain ⟨o1, o2, o3⟩ := ok
    simp only [Ru.size] at hs
    simp only [Ru.dep] at hn
    have wl := words_lt r o3 (by omega)
    show runF 3 (b__law_rule_words (m__law_rule_words n)) _ h = _
    unfold b__law_rule_words
    simp [ih o3 (by omega) n h (by omega), sizeLine, Ru.words, log_ok (show a ≤ 60 by omega), log_ok (show b ≤ 60 by omega), strI_nat]
    rw [if_pos (by omega)]
    simp
  | @nay k r d _ ih =>
    intro ok hs n h hn
    obtain ⟨n, rfl⟩ : ∃ m, n = m + 1 := ⟨n - 1, by omega⟩
    simp only [Ru.size] at hs
    simp only [Ru.dep] at hn
    have wl := words_lt r ok (by omega)
    show runF 3 (b__law_rule_words (m__law_rule_words n)) _ h = _
    unfold b__law_rule_words
    simp [ih ok (by omega) n h (by omega), inL, flatD, eqF, sizeLine, Ru.words]
    rw [if_pos (by omega)]
    simp
  | @both k r s d e _ _ ih1 ih2 =>
    intro ok hs n h hn
    obtain ⟨n, rfl⟩ : ∃ m, n = m + 1 := ⟨n - 1, by omega⟩
    simp only [Ru.size] at hs
    simp only [Ru.dep] at hn
    have wl := words_lt r ok.1 (by omega)
    have wl2 := words_lt s ok.2 (by omega)
    show runF 3 (b__law_rule_words (m__law_rule_words n)) _ h = _
    unfold b__law_rule_words
    simp [ih1 ok.1 (by omega) n h (by omega), ih2 ok.2 (by omega) n h (by omega), inL, flatD, eqF, sizeLine, Ru.words]
    rw [if_pos (by omega)]
    simp [ih2 ok.2 (by omega) n h (by omega), sizeLine]
    rw [if_pos (by omega)]
    simp
  | @either k r s d e _ _ ih1 ih2 =>
    intro ok hs n h hn
    obtain ⟨n, rfl⟩ : ∃ m, n = m + 1 := ⟨n - 1, by omega⟩
    simp only [Ru.size] at hs
    simp only [Ru.dep] at hn
    have wl := words_lt r ok.1 (by omega)
    have wl2 := words_lt s ok.2 (by omega)
    show runF 3 (b__law_rule_words (m__law_rule_words n)) _ h = _
    unfold b__law_rule_words
    simp [ih1 ok.1 (by omega) n h (by omega), ih2 ok.2 (by omega) n h (by omega), inL, flatD, eqF, sizeLine, Ru.words]
    rw [if_pos (by omega)]
    simp [ih2 ok.2 (by omega) n h (by omega), sizeLine]
    rw [if_pos (by omega)]
    simp
/-! ## data that is checked -/
/-- all tuples -/
def Ru.enc : Bool → Ru → D
  | k, .any => sq k [.str [97, 110, 121]]
  | k, .sum m ws g => sq k [.str [115, 117, 109], nD m, sq k (ws.map nD), nD g]
  | k, .square rows goals => sq k [.str [115, 113, 117, 97, 114, 101], sq k (rows.map fun r => sq k (r.map nD)), sq k (goals.map nD)]
  | k, .faces fs r => sq k [.str [102, 97, 99, 101, 115], sq k (fs.map .str), r.enc k]
  | k, .back r => sq k [.str [98, 97, 99, 107], r.enc k]
  | k, .cut a b r => sq k [.str [99, 117, 116], nD a, nD b, r.enc k]
  | k, .nay r => sq k [.str [110, 111, 116], r.enc k]
  | k, .both r s => sq k [.str [98, 111, 116, 104], r.enc k, s.enc k]
  | k, .either r s => sq k [.str [101, 105, 116, 104, 101, 114], r.enc k, s.enc k]
theorem Ru.rd (k : Bool) : ∀ r : Ru, RD r (r.enc k)
  | .any => .any k
  | .sum m ws g => .sum k k m ws g
  | .square rows goals => .square k k k k rows goals
  | .faces fs r => .faces k k fs (r.rd k)
  | .back r => .back k (r.rd k)
  | .cut a b r => .cut k a b (r.rd k)
  | .nay r => .nay k (r.rd k)
  | .both r s => .both k (r.rd k) (s.rd k)
  | .either r s => .either k (r.rd k) (s.rd k)
@[simp] theorem sq_dOk (k : Bool) (ds : List D) : dOk (sq k ds) = dOks ds := by cases k <;> simp [sq, dOk]
@[simp] theorem sq_dDep (k : Bool) (ds : List D) : dDep (sq k ds) = dDeps ds + 1 := by cases k <;> simp [sq, dDep]
theorem dOks_n (ws : List Nat) : dOks (ws.map nD) = true := dOks_all fun d m => by
  obtain ⟨n, _, rfl⟩ := List.mem_map.mp m
  simp [dOk]
theorem dDeps_n (ws : List Nat) : dDeps (ws.map nD) = 0 := Nat.le_zero.mp (dDeps_le fun d m => by
  obtain ⟨n, _, rfl⟩ := List.mem_map.mp m
  simp [dDep])
theorem Ru.enc_ok (k : Bool) : ∀ r : Ru, r.ok → dOk (r.enc k) = true ∧ dDep (r.enc k) ≤ r.dep + 3
  | .any, _ => by simp [enc, dOks, dOk, dDeps, dDep, dep]
  | .sum m ws g, _ => by simp [enc, dOks, dOk, dDeps, dDep, dep, dOks_n, dDeps_n]
  | .square rows goals, _ => by
    have a1 : dOks (rows.map fun r => sq k (r.map nD)) = true := dOks_all fun d m => by
      obtain ⟨r, _, rfl⟩ := List.mem_map.mp m
      simp [dOks_n]
    have a2 : dDeps (rows.map fun r => sq k (r.map nD)) ≤ 1 := dDeps_le fun d m => by
      obtain ⟨r, _, rfl⟩ := List.mem_map.mp m
      simp [dDeps_n]
    simp [enc, dOks, dOk, dDeps, dDep, dep, dOks_n, dDeps_n, a1]
    omega
  | .faces fs r, h => by
    obtain ⟨h1, h2, h3, h4⟩ := h
    obtain ⟨b1, b2⟩ := r.enc_ok k h4
    have a1 : dOks (fs.map D.str) = true := dOks_all fun d m => by
      obtain ⟨f, hf, rfl⟩ := List.mem_map.mp m
      simp only [dOk, List.all_eq_true, decide_eq_true_eq]
      intro c hc
      have := (h3 f hf).2.2 c hc
      omega
    have a2 : dDeps (fs.map D.str) ≤ 0 := dDeps_le fun d m => by
      obtain ⟨f, hf, rfl⟩ := List.mem_map.mp m
      simp [dDep]
    simp [enc, dOks, dOk, dDeps, dDep, dep, a1, b1]
    omega
  | .back r, h => by
    obtain ⟨b1, b2⟩ := r.enc_ok k h
    simp [enc, dOks, dOk, dDeps, dDep, dep, b1]
    omega
  | .cut a b r, h => by
    obtain ⟨b1, b2⟩ := r.enc_ok k h.2.2
    simp [enc, dOks, dOk, dDeps, dDep, dep, b1]
    omega
  | .nay r, h => by
    obtain ⟨b1, b2⟩ := r.enc_ok k h
    simp [enc, dOks, dOk, dDeps, dDep, dep, b1]
    omega
  | .both r s, h => by
    obtain ⟨b1, b2⟩ := r.enc_ok k h.1
    obtain ⟨c1, c2⟩ := s.enc_ok k h.2
    simp [enc, dOks, dOk, dDeps, dDep, dep, b1, c1]
    omega
  | .either r s, h => by
    obtain ⟨b1, b2⟩ := r.enc_ok k h.1
    obtain ⟨c1, c2⟩ := s.enc_ok k h.2
    simp [enc, dOks, dOk, dDeps, dDep, dep, b1, c1]
    omega
/-! listed_of, no_list: on any nested data -/
mutual
def lstD : D → D
  | .tup ds => .lst (lstDs ds)
  | .lst ds => .lst (lstDs ds)
  | d => d
def lstDs : List D → List D
  | [] => []
  | d :: ds => lstD d :: lstDs ds
end
theorem lstDs_map : ∀ ds : List D, lstDs ds = ds.map lstD
  | [] => rfl
  | d :: ds => by simp [lstDs, lstDs_map ds]
def R.o (k : Bool) (d : D) : R := match d with
  | .lst ds => if k then .own ds else .v (.lst ds)
  | d => .v d
/-- lists and tuples no longer than a bound -/
def wide (n : Nat) : Nat → D → Prop
  | 0, .tup _ => False
  | 0, .lst _ => False
  | k + 1, .tup ds => ds.length ≤ n ∧ ∀ d ∈ ds, wide n k d
  | k + 1, .lst ds => ds.length ≤ n ∧ ∀ d ∈ ds, wide n k d
  | _, .loc _ => False
  | _, _ => True
theorem r_listed : ∀ (k : Nat) (d : D), wide sizeLine k d → ∀ n h, k < n → ∃ r, m__law_listed_of n [d] h = .ok r h ∧ r.d = lstD d
  | k, d, hd, n, h, hn => by
    obtain ⟨n, rfl⟩ : ∃ m, n = m + 1 := ⟨n - 1, by omega⟩
    have seq : ∀ ds : List D, ∀ k', k = k' + 1 → ds.length ≤ sizeLine → (∀ d ∈ ds, wide sizeLine k' d) → compL (tN 1) bYes (fz (eCall (m__law_listed_of n) (aCons (fz (eVar 1)) aNil))) [.un, .un] ds h [] = some (ds.map lstD, h) := by
      intro ds k' hk hl hw
      subst hk
      refine compL_map (fun d m => ?_) hl
      obtain ⟨r, e1, e2⟩ := r_listed k' d (hw d m) n h (by omega)
      refine ⟨[.un, .v d], [.un, .v d], rfl, ?_⟩
      simp [e1, e2]
    show ∃ r, runF 2 (b__law_listed_of (m__law_listed_of n)) [d] h = _ ∧ _
    unfold b__law_listed_of
    cases d with
    | tup ds =>
      cases k with
      | zero => exact hd.elim
      | succ k' =>
        refine ⟨.own (ds.map lstD), ?_, by simp [lstD, lstDs_map]⟩
        simp
        rw [seq ds k' rfl hd.1 hd.2]
        simp
    | lst ds =>
      cases k with
      | zero => exact hd.elim
      | succ k' =>
        refine ⟨.own (ds.map lstD), ?_, by simp [lstD, lstDs_map]⟩
        simp
        rw [seq ds k' rfl hd.1 hd.2]
        simp
    | loc a => cases k <;> exact hd.elim
    | dct ks ds => exact ⟨.v (.dct ks ds), by simp [tyD], rfl⟩
    | non => exact ⟨.v (.non), by simp [tyD], rfl⟩
    | bl b => exact ⟨.v (.bl b), by simp [tyD], rfl⟩
    | int i => exact ⟨.v (.int i), by simp [tyD], rfl⟩
    | str s => exact ⟨.v (.str s), by simp [tyD], rfl⟩
mutual
def noL : D → Bool
  | .tup ds => noLs ds
  | .lst _ => false
  | .bl _ => false
  | .loc _ => false
  | _ => true
def noLs : List D → Bool
  | [] => true
  | d :: ds => noL d && noLs ds
end
theorem noLs_all : ∀ ds : List D, noLs ds = ds.all noL
  | [] => rfl
  | d :: ds => by simp [noLs, noLs_all ds]
theorem r_noList : ∀ (k : Nat) (d : D), wide sizeLine k d → ∀ n h, k < n → m__law_no_list n [d] h = .ok (.v (.bl (noL d))) h
  | k, d, hd, n, h, hn => by
    obtain ⟨n, rfl⟩ : ∃ m, n = m + 1 := ⟨n - 1, by omega⟩
    show runF 2 (b__law_no_list (m__law_no_list n)) [d] h = _
    unfold b__law_no_list
    cases d with
    | tup ds =>
      cases k with
      | zero => exact hd.elim
      | succ k' =>
        have e : compL (tN 1) bYes (fz (eCall (m__law_no_list n) (aCons (fz (eVar 1)) aNil))) [.un, .un] ds h [] = some (ds.map (fun d => D.bl (noL d)), h) := by
          refine compL_map (fun d m => ?_) hd.1
          have e1 := r_noList k' d (hd.2 d m) n h (by omega)
          refine ⟨[.un, .v d], [.un, .v d], rfl, ?_⟩
          simp [e1]
        simp
        rw [e]
        simp [toBls_fun, noL, noLs_all, List.all_map, Function.comp_def]
    | lst ds => simp [noL]
    | loc a => cases k <;> exact hd.elim
    | dct ks ds => simp [tyD, noL]
    | non => simp [noL]
    | bl b => simp [noL]
    | int i => simp [noL]
    | str s => simp [noL]
end Mi
set_option Elab.async false
set_option linter.all false
set_option maxRecDepth 100000
set_option maxHeartbeats 1000000
open PySem PySem.Spec PyProof.Rows L2
namespace Mi
/-! ## reading -/
theorem r_made_of (s g : List Nat) (lo hi : Int) (h : MH) (hs : s.length ≤ sizeLine) : m_made_of [.str s, .str g, .int lo, .int hi] h = .ok (.v (.bl (decide (lo ≤ s.length) && decide (s.length ≤ hi) && s.all (fun c => decide (c ∈ g))))) h := by
  unfold m_made_of b_made_of
  by_cases h1 : lo ≤ s.length
  · by_cases h2 : (s.length : Int) ≤ hi
    · simp [hs, h1, h2]
      rw [compL_map (f := fun d => match d with | .str [c] => .bl (decide (c ∈ g)) | _ => .non) ?_ ?_]
      · simp [chars, toBls_fun, Function.comp_def]
      · simp [chars]
      · simpa [chars] using hs
    · simp [hs, h1, h2]
  · simp [hs, h1]
theorem nm_facts : ∀ v : Fin 61, 1 ≤ (nm v.val).length ∧ (nm v.val).length ≤ 2 ∧ (1 < (nm v.val).length → (nm v.val)[0]? ≠ some 48) ∧ (nm v.val).all (fun c => decide (c ∈ [48, 49, 50, 51, 52, 53, 54, 55, 56, 57])) = true := by decide +kernel
theorem nm_int (v : Nat) (h : v ≤ 60) : PySem.intText? (S (nm v)) = some (v : Int) := by
  have e : S (nm v) = Str.ofString (toString ((v : Nat) : Int)) := by
    rw [← S_of (Str.ofString (toString ((v : Nat) : Int)))]
    exact congrArg S (TL.tl_num v).symm
  rw [e]
  exact TL.int_num (by have : (TL.numL v).length ≤ 2 := nm_len h; omega)
theorem r_numeral {v lo hi : Nat} (h : MH) (hv : v ≤ 60) (h1 : lo ≤ v) (h2 : v ≤ hi) : m_numeral [.str (nm v), nD lo, nD hi] h = .ok (.own [nD v]) h := by
  obtain ⟨a1, a2, a3, a4⟩ := nm_facts ⟨v, by omega⟩
  simp only at a1 a2 a3 a4
  have e := r_made_of (nm v) [48, 49, 50, 51, 52, 53, 54, 55, 56, 57] 1 2 h (by simp [sizeLine]; omega)
  have b1 : (1 : Int) ≤ ((nm v).length : Int) := by omega
  have b2 : ((nm v).length : Int) ≤ 2 := by omega
  rw [a4] at e
  simp only [b1, b2, decide_true, Bool.and_self] at e
  have c1 : (lo : Int) ≤ (v : Int) := by omega
  have c2 : (v : Int) ≤ (hi : Int) := by omega
  have d1 : (nm v).length ≤ 16777216 := by omega
  have d2 : (nm v).length ≤ 640 := by omega
  unfold m_numeral b_numeral
  by_cases hl : 1 < (nm v).length
  · have hl2 : (1 : Int) < ((nm v).length : Int) := by omega
    have a5 := a3 hl
    obtain ⟨c, hc⟩ : ∃ c, (nm v)[0]? = some c := by
      cases q : (nm v)[0]? with
      | none => rw [List.getElem?_eq_none_iff] at q; omega
      | some c => exact ⟨c, rfl⟩
    have a6 : c ≠ 48 := fun z => a5 (by rw [hc, z])
    simp [c_DIGITS, e, hl2, d1, hc, a6, d2, nm_int v hv, c1, c2, sizeLine]
  · have hl2 : ¬ (1 : Int) < ((nm v).length : Int) := by omega
    simp [c_DIGITS, e, hl2, d1, d2, nm_int v hv, c1, c2, sizeLine]
theorem nm_free {c : Nat} (hc : c < 48) (n : Nat) : c ∉ nm n := TL.numL_free (.inl hc)
theorem split_nums {ws : List Nat} (hn : ws ≠ []) : splitL [44] (cm ws) = ws.map nm := jn_split (by simpa using hn) fun p m => by
  obtain ⟨n, _, rfl⟩ := List.mem_map.mp m
  exact nm_free (by decide) n
theorem r_numerals {ws : List Nat} {lo hi : Nat} (h : MH) (hw : ∀ n ∈ ws, n ≤ 59) (hn : ws ≠ []) (h1 : lo ≤ ws.length) (h2 : ws.length ≤ hi) (h3 : hi ≤ 60) : m_numerals [.str (cm ws), nD lo, nD hi] h = .ok (.own [.tup (ws.map nD)]) h := by
  have cl := cm_len (ws := ws) fun n m => by have := hw n m; omega
  have key : compL2 (tN 5) bYes (iOf (fz (eCall m_numeral (aCons (fz (eVar 5)) (aCons (fz (eC (D.int 0))) (aCons (fz (eC (D.int 59))) aNil)))))) (tN 6) bYes (fz (eVar 6)) [6] [.un, .un, .un, .un, .un, .un, .un] (ws.map (fun n => D.str (nm n))) h [] = some (ws.map nD, h) := by
    have gen : ∀ (ws : List Nat) (acc : List D), (∀ n ∈ ws, n ≤ 59) → acc.length + ws.length ≤ sizeLine → compL2 (tN 5) bYes (iOf (fz (eCall m_numeral (aCons (fz (eVar 5)) (aCons (fz (eC (D.int 0))) (aCons (fz (eC (D.int 59))) aNil)))))) (tN 6) bYes (fz (eVar 6)) [6] [.un, .un, .un, .un, .un, .un, .un] (ws.map (fun n => D.str (nm n))) h acc = some (acc ++ ws.map nD, h) := by
      intro ws
      induction ws with
      | nil => intro acc _ _; simp [compL2]
      | cons n ws ih =>
        intro acc hw hl
        rw [List.length_cons] at hl
        have e : m_numeral [.str (nm n), .int 0, .int 59] h = .ok (.own [nD n]) h := r_numeral (lo := 0) (hi := 59) h (by have := hw n (by simp); omega) (by omega) (hw n (by simp))
        simp only [List.map_cons, compL2]
        simp [e, compL]
        rw [if_pos (by omega)]
        simp
        rw [ih _ (fun x m => hw x (by simp [m])) (by simp; omega)]
        simp
    have := gen ws [] hw (by simp [sizeLine]; omega)
    simpa using this
  have b1 : (lo : Int) ≤ (ws.length : Int) := by omega
  have b2 : (ws.length : Int) ≤ (hi : Int) := by omega
  unfold m_numerals b_numerals
  simp [sizeLine, split_nums hn]
  rw [if_pos (by omega)]
  simp [Function.comp_def, key, b1, b2]
theorem cm_free {c : Nat} (hc : c < 48) (h44 : c ≠ 44) (ws : List Nat) : c ∉ cm ws := by
  induction ws with
  | nil => simp [cm, jn, TL.joinL]
  | cons a ws ih =>
    cases ws with
    | nil => simp [cm, jn_one]; exact nm_free hc a
    | cons b ws =>
      unfold cm at *
      rw [List.map_cons, List.map_cons, jn_cons]
      simp only [List.mem_append, List.mem_cons, not_or]
      rw [List.map_cons] at ih
      exact ⟨nm_free hc a, h44, ih⟩
theorem r_rowlots {rows : List (List Nat)} (h : MH) (hn : rows ≠ []) (hl : rows.length ≤ 60) (hw : ∀ r ∈ rows, 2 ≤ r.length ∧ r.length ≤ 12 ∧ ∀ n ∈ r, n ≤ 59) : m_row_lots [.str (jn 47 (rows.map cm))] h = .ok (.own [.tup (rows.map fun r => .tup (r.map nD))]) h := by
  have a2 := jn_le 47 36 (l := rows.map cm) fun a m => by
    obtain ⟨r, hr, rfl⟩ := List.mem_map.mp m
    obtain ⟨b1, b2, b3⟩ := hw r hr
    have := cm_len (ws := r) fun n m => by have := b3 n m; omega
    omega
  rw [List.length_map] at a2
  have sp : splitL [47] (jn 47 (rows.map cm)) = rows.map cm := jn_split (by simpa using hn) fun p m => by
    obtain ⟨r, _, rfl⟩ := List.mem_map.mp m
    exact cm_free (by decide) (by decide) r
  have key : compL2 (tN 3) bYes (iOf (fz (eCall m_numerals (aCons (fz (eVar 3)) (aCons (fz (eC (D.int 2))) (aCons (fz (eC (D.int 12))) aNil)))))) (tN 4) bYes (fz (eVar 4)) [4] [.un, .un, .un, .un, .un] (rows.map (fun r => D.str (cm r))) h [] = some (rows.map (fun r => .tup (r.map nD)), h) := by
    have gen : ∀ (rows : List (List Nat)) (acc : List D), (∀ r ∈ rows, 2 ≤ r.length ∧ r.length ≤ 12 ∧ ∀ n ∈ r, n ≤ 59) → acc.length + rows.length ≤ sizeLine → compL2 (tN 3) bYes (iOf (fz (eCall m_numerals (aCons (fz (eVar 3)) (aCons (fz (eC (D.int 2))) (aCons (fz (eC (D.int 12))) aNil)))))) (tN 4) bYes (fz (eVar 4)) [4] [.un, .un, .un, .un, .un] (rows.map (fun r => D.str (cm r))) h acc = some (acc ++ rows.map (fun r => .tup (r.map nD)), h) := by
      intro rows
      induction rows with
      | nil => intro acc _ _; simp [compL2]
      | cons r rows ih =>
        intro acc hw hl
        rw [List.length_cons] at hl
        obtain ⟨c1, c2, c3⟩ := hw r (by simp)
        have e : m_numerals [.str (cm r), .int 2, .int 12] h = .ok (.own [.tup (r.map nD)]) h := r_numerals (lo := 2) (hi := 12) h c3 (by intro z; rw [z] at c1; simp at c1) c1 c2 (by decide)
        simp only [List.map_cons, compL2]
        simp [e, compL]
        rw [if_pos (by omega)]
        simp
        rw [ih _ (fun x m => hw x (by simp [m])) (by simp; omega)]
        simp
    have := gen rows [] hw (by simp [sizeLine]; omega)
    simpa using this
  have b2 : (rows.length : Int) ≤ 60 := by omega
  unfold m_row_lots b_row_lots
  simp [sizeLine, sp]
  rw [if_pos (by omega)]
  simp [Function.comp_def, key, b2]
def sgOk (c : Nat) : Prop := (48 ≤ c ∧ c ≤ 57) ∨ (65 ≤ c ∧ c ≤ 90)
theorem sg_mem {c : Nat} (h : sgOk c) : c ∈ [48, 49, 50, 51, 52, 53, 54, 55, 56, 57, 65, 66, 67, 68, 69, 70, 71, 72, 73, 74, 75, 76, 77, 78, 79, 80, 81, 82, 83, 84, 85, 86, 87, 88, 89, 90] := by
  unfold sgOk at h
  simp
  omega
theorem r_strings {fs : List (List Nat)} {lo hi a b : Nat} (h : MH) (hn : fs ≠ []) (h1 : lo ≤ fs.length) (h2 : fs.length ≤ hi) (h3 : hi ≤ 12) (hb : b ≤ 12) (hf : ∀ f ∈ fs, a ≤ f.length ∧ f.length ≤ b ∧ ∀ c ∈ f, sgOk c) :
    m_strings [.str (jn 44 fs), .tup [nD a, nD b], nD lo, nD hi] h = .ok (.own [.tup (fs.map D.str)]) h := by
  have a2 := jn_le 44 12 (l := fs) fun a m => by have := (hf a m).2.1; omega
  have sp : splitL [44] (jn 44 fs) = fs := jn_split hn fun p m z => by
    have := (hf p m).2.2 44 z
    unfold sgOk at this
    omega
  have key : compL (tN 6) (bTru (fz (eCall m_made_of (aCons (fz (eVar 6)) (aCons (fz (eC c_SIGNS)) (aCons (fz (eIxV 1 ixO (fz (eC (D.int 0))))) (aCons (fz (eIxV 1 ixO (fz (eC (D.int 1))))) aNil))))))) (fz (eVar 6)) [.un, .v (.tup [nD a, nD b]), .un, .un, .un, .un, .un] (fs.map D.str) h [] = some (fs.map D.str, h) := by
    rw [compL_ok (p := fun _ => true) (f := fun d => d) _ _ ?_ (by simp [sizeLine]; omega), List.filter_eq_self.mpr (by simp)]
    · simp
    · intro d m
      obtain ⟨f, hm, rfl⟩ := List.mem_map.mp m
      obtain ⟨c1, c2, c3⟩ := hf f hm
      have e := r_made_of f [48, 49, 50, 51, 52, 53, 54, 55, 56, 57, 65, 66, 67, 68, 69, 70, 71, 72, 73, 74, 75, 76, 77, 78, 79, 80, 81, 82, 83, 84, 85, 86, 87, 88, 89, 90] a b h (by simp [sizeLine]; omega)
      have b1 : (a : Int) ≤ (f.length : Int) := by omega
      have b2 : (f.length : Int) ≤ (b : Int) := by omega
      have b3 : f.all (fun c => decide (c ∈ [48, 49, 50, 51, 52, 53, 54, 55, 56, 57, 65, 66, 67, 68, 69, 70, 71, 72, 73, 74, 75, 76, 77, 78, 79, 80, 81, 82, 83, 84, 85, 86, 87, 88, 89, 90])) = true := by
        rw [List.all_eq_true]
        intro c hc
        exact decide_eq_true (sg_mem (c3 c hc))
      rw [b3] at e
      simp only [b1, b2, decide_true, Bool.and_self] at e
      refine ⟨[.un, .v (.tup [nD a, nD b]), .un, .un, .un, .un, .v (.str f)], [.un, .v (.tup [nD a, nD b]), .un, .un, .un, .un, .v (.str f)], rfl, ?_, fun _ => ⟨_, rfl⟩⟩
      simp [c_SIGNS, e]
  have b1 : (lo : Int) ≤ (fs.length : Int) := by omega
  have b2 : (fs.length : Int) ≤ (hi : Int) := by omega
  unfold m_strings b_strings
  simp [sizeLine, sp]
  rw [if_pos (by omega)]
  simp [key, b1, b2]
/-! the kinds -/
def kModulus : List Nat := [109, 111, 100, 117, 108, 117, 115]
theorem t_modulus {v : Nat} (h : MH) (h1 : 2 ≤ v) (h2 : v ≤ 60) : m_told_by [.str [109, 111, 100, 117, 108, 117, 115], .str (nm v)] h = .ok (.own [nD v]) h := by
  have e : m_numeral [.str (nm v), .int 2, .int 60] h = .ok (.own [nD v]) h := r_numeral (lo := 2) (hi := 60) h (by omega) h1 h2
  unfold m_told_by b_told_by
  simp [c_RANGES, List.lookup_cons, e]
theorem t_goal {v : Nat} (h : MH) (h2 : v ≤ 59) : m_told_by [.str [103, 111, 97, 108], .str (nm v)] h = .ok (.own [nD v]) h := by
  have e : m_numeral [.str (nm v), .int 0, .int 59] h = .ok (.own [nD v]) h := r_numeral (lo := 0) (hi := 59) h (by omega) (by omega) h2
  unfold m_told_by b_told_by
  simp [c_RANGES, List.lookup_cons, e]
theorem t_end {v : Nat} (h : MH) (h2 : v ≤ 3) : m_told_by [.str [101, 110, 100], .str (nm v)] h = .ok (.own [nD v]) h := by
  have e : m_numeral [.str (nm v), .int 0, .int 3] h = .ok (.own [nD v]) h := r_numeral (lo := 0) (hi := 3) h (by omega) (by omega) h2
  unfold m_told_by b_told_by
  simp [c_RANGES, List.lookup_cons, e]
theorem t_weights {ws : List Nat} (h : MH) (hw : ∀ n ∈ ws, n ≤ 59) (hn : ws ≠ []) (h2 : ws.length ≤ 8) : m_told_by [.str [119, 101, 105, 103, 104, 116, 115], .str (cm ws)] h = .ok (.own [.tup (ws.map nD)]) h := by
  have e : m_numerals [.str (cm ws), .int 1, .int 8] h = .ok (.own [.tup (ws.map nD)]) h := r_numerals (lo := 1) (hi := 8) h hw hn (by have := List.length_pos_iff.mpr hn; omega) h2 (by decide)
  unfold m_told_by b_told_by
  simp [c_RANGES, m_list_told, b_list_told, e]
theorem t_goals {ws : List Nat} (h : MH) (hw : ∀ n ∈ ws, n ≤ 59) (hn : ws ≠ []) (h2 : ws.length ≤ 60) : m_told_by [.str [103, 111, 97, 108, 115], .str (cm ws)] h = .ok (.own [.tup (ws.map nD)]) h := by
  have e : m_numerals [.str (cm ws), .int 1, .int 60] h = .ok (.own [.tup (ws.map nD)]) h := r_numerals (lo := 1) (hi := 60) h hw hn (by have := List.length_pos_iff.mpr hn; omega) h2 (by decide)
  unfold m_told_by b_told_by
  simp [c_RANGES, m_list_told, b_list_told, e]
theorem t_rows {rows : List (List Nat)} (h : MH) (hn : rows ≠ []) (hl : rows.length ≤ 60) (hw : ∀ r ∈ rows, 2 ≤ r.length ∧ r.length ≤ 12 ∧ ∀ n ∈ r, n ≤ 59) : m_told_by [.str [114, 111, 119, 115], .str (jn 47 (rows.map cm))] h = .ok (.own [.tup (rows.map fun r => .tup (r.map nD))]) h := by
  unfold m_told_by b_told_by
  simp [c_RANGES, m_list_told, b_list_told, r_rowlots h hn hl hw]
theorem t_faces {fs : List (List Nat)} (h : MH) (hn : fs ≠ []) (h2 : fs.length ≤ 4) (hf : ∀ f ∈ fs, 2 ≤ f.length ∧ f.length ≤ 12 ∧ ∀ c ∈ f, sgOk c) : m_told_by [.str [102, 97, 99, 101, 115], .str (jn 44 fs)] h = .ok (.own [.tup (fs.map D.str)]) h := by
  have e : m_strings [.str (jn 44 fs), .tup [.int 2, .int 12], .int 1, .int 4] h = .ok (.own [.tup (fs.map D.str)]) h := r_strings (lo := 1) (hi := 4) (a := 2) (b := 12) h hn (by have := List.length_pos_iff.mpr hn; omega) h2 (by decide) (by decide) hf
  unfold m_told_by b_told_by
  simp [c_RANGES, m_list_told, b_list_told, e, sizeLine]
theorem r_word_at {ws : List (List Nat)} {i : Nat} {x : List Nat} (n : Int) (h : MH) (hw : ws[i]? = some x) : m_word_at [.lst (ws.map D.str), nD i, .int n] h = .ok (.v (.str x)) h := by
  have hi := (List.getElem?_eq_some_iff.mp hw).1
  have e : atI (ws.map D.str) (i : Int) = some (.str x) := by rw [atI_ofNat]; simp [hw]
  have b : ¬ (ws.length : Int) ≤ (i : Int) := by omega
  unfold m_word_at b_word_at
  simp [b, e]
theorem r_told_at {ws : List (List Nat)} {i : Nat} {x k : List Nat} {d : D} (n : Int) (h : MH) (hw : ws[i]? = some x) (ht : m_told_by [.str k, .str x] h = .ok (.own [d]) h) : m_told_at [.lst (ws.map D.str), nD i, .int n, .str k] h = .ok (.v d) h := by
  have e := r_word_at n h hw
  unfold m_told_at b_told_at
  simp [e, ht]
end Mi
set_option Elab.async false
set_option linter.all false
set_option maxRecDepth 100000
set_option maxHeartbeats 2000000
open PySem PySem.Spec PyProof.Rows L2
namespace Mi
theorem jn_free {c d : Nat} (hc : d ≠ c) : ∀ {l : List (List Nat)}, (∀ p ∈ l, d ∉ p) → d ∉ jn c l
  | [], _ => by simp [jn, TL.joinL]
  | [a], h => by rw [jn_one]; exact h a (by simp)
  | a :: b :: l, h => by
    have := jn_free hc (l := b :: l) fun p m => h p (by simp [m])
    rw [jn_cons]
    simp only [List.mem_append, List.mem_cons, not_or]
    exact ⟨h a (by simp), hc, this⟩
theorem told1 {L : List (List Nat)} {p i : Nat} {x k : List Nat} {d : D} (h : MH) (j : Int) (hj : j = ((p + i : Nat) : Int)) (hw : L[p + i]? = some x) (ht : m_told_by [.str k, .str x] h = .ok (.own [d]) h) : m_told_at [.lst (L.map D.str), .int j, .int 0, .str k] h = .ok (.v d) h := by
  subst hj
  exact r_told_at 0 h hw ht
theorem r_rule_at : ∀ (r : Ru), r.ok → ∀ (L : List (List Nat)) (p left n : Nat) (pi li : Int) (h : MH), (∀ i, i < r.words.length → L[p + i]? = r.words[i]?) → pi = (p : Int) → li = (left : Int) → r.size ≤ left → r.dep < n →
    m_rule_at n [.lst (L.map D.str), .int pi, .int 0, .int li] h = .ok (.v (.tup [r.enc true, .int (pi + r.words.length), .int (li - r.size)])) h
  | .any, ok, L, p, left, n, pi, li, h, hL, hp, hl, hs, hn => by
    obtain ⟨n, rfl⟩ : ∃ m, n = m + 1 := ⟨n - 1, by omega⟩
    have w0 := r_word_at (i := p) 0 h (hL 0 (by simp [Ru.words]))
    try simp [Ru.words] at w0
    simp only [Ru.size] at hs
    have hl0 : ¬ (left : Int) = 0 := by omega
    have hl1 : ¬ left = 0 := by omega
    subst hp; subst hl
    show runF 11 (b_rule_at (m_rule_at n)) _ h = _
    unfold b_rule_at
    simp [w0, hl0, hl1, c_INNER, c_RULE_KINDS, List.lookup_cons, sForL, sizeLine, Ru.enc, sq, Ru.words, Ru.size, rangeD]
  | .sum m ws g, ok, L, p, left, n, pi, li, h, hL, hp, hl, hs, hn => by
    obtain ⟨n, rfl⟩ : ∃ m, n = m + 1 := ⟨n - 1, by omega⟩
    obtain ⟨o1, o2, o3, o4, o5, o6⟩ := ok
    have w0 := r_word_at (i := p) 0 h (hL 0 (by simp [Ru.words]))
    try simp [Ru.words] at w0
    simp only [Ru.size] at hs
    have hl0 : ¬ (left : Int) = 0 := by omega
    have hl1 : ¬ left = 0 := by omega
    subst hp; subst hl
    have t1 := told1 h ((p : Int) + 1) (by omega) (hL 1 (by simp [Ru.words])) (t_modulus h o1 o2)
    have t2 := told1 h ((p : Int) + 1 + 1) (by omega) (hL 2 (by simp [Ru.words])) (t_weights h o5 o3 o4)
    have t3 := told1 h ((p : Int) + 1 + 1 + 1) (by omega) (hL 3 (by simp [Ru.words])) (t_goal h o6)
    show runF 11 (b_rule_at (m_rule_at n)) _ h = _
    unfold b_rule_at
    simp [w0, hl0, hl1, t1, t2, t3, c_INNER, c_RULE_KINDS, List.lookup_cons, sForL, sizeLine, Ru.enc, sq, Ru.words, Ru.size, rangeD]
    try omega
  | .square rows goals, ok, L, p, left, n, pi, li, h, hL, hp, hl, hs, hn => by
    obtain ⟨n, rfl⟩ : ∃ m, n = m + 1 := ⟨n - 1, by omega⟩
    obtain ⟨o1, o2, o3, o4, o5, o6⟩ := ok
    have w0 := r_word_at (i := p) 0 h (hL 0 (by simp [Ru.words]))
    try simp [Ru.words] at w0
    simp only [Ru.size] at hs
    have hl0 : ¬ (left : Int) = 0 := by omega
    have hl1 : ¬ left = 0 := by omega
    subst hp; subst hl
    have t1 := told1 h ((p : Int) + 1) (by omega) (hL 1 (by simp [Ru.words])) (t_rows h o1 o2 o3)
    have t2 := told1 h ((p : Int) + 1 + 1) (by omega) (hL 2 (by simp [Ru.words])) (t_goals h o6 o4 o5)
    show runF 11 (b_rule_at (m_rule_at n)) _ h = _
    unfold b_rule_at
    simp [w0, hl0, hl1, t1, t2, c_INNER, c_RULE_KINDS, List.lookup_cons, sForL, sizeLine, Ru.enc, sq, Ru.words, Ru.size, rangeD]
    try omega
  | .faces fs r, ok, L, p, left, n, pi, li, h, hL, hp, hl, hs, hn => by
    obtain ⟨n, rfl⟩ : ∃ m, n = m + 1 := ⟨n - 1, by omega⟩
    obtain ⟨o1, o2, o3, o4⟩ := ok
    have w0 := r_word_at (i := p) 0 h (hL 0 (by simp [Ru.words]))
    try simp [Ru.words] at w0
    simp only [Ru.size] at hs
    simp only [Ru.dep] at hn
    have hl0 : ¬ (left : Int) = 0 := by omega
    have hl1 : ¬ left = 0 := by omega
    subst hp; subst hl
    have t1 := told1 h ((p : Int) + 1) (by omega) (hL 1 (by simp [Ru.words])) (t_faces h o1 o2 o3)
    have ih := r_rule_at r o4 L (p + 2) (left - 1) n ((p : Int) + 1 + 1) ((left : Int) - 1) h (fun i hi => by
      have := hL (i + 2) (by simp [Ru.words]; omega)
      rw [show p + (i + 2) = p + 2 + i by omega] at this
      simpa [Ru.words] using this) (by omega) (by omega) (by omega) (by omega)
    show runF 11 (b_rule_at (m_rule_at n)) _ h = _
    unfold b_rule_at
    simp [w0, hl0, hl1, t1, ih, c_INNER, c_RULE_KINDS, List.lookup_cons, sForL, sizeLine, Ru.enc, sq, Ru.words, Ru.size, rangeD]
    omega
  | .back r, ok, L, p, left, n, pi, li, h, hL, hp, hl, hs, hn => by
    obtain ⟨n, rfl⟩ : ∃ m, n = m + 1 := ⟨n - 1, by omega⟩
    have w0 := r_word_at (i := p) 0 h (hL 0 (by simp [Ru.words]))
    try simp [Ru.words] at w0
    simp only [Ru.size] at hs
    simp only [Ru.dep] at hn
    have hl0 : ¬ (left : Int) = 0 := by omega
    have hl1 : ¬ left = 0 := by omega
    subst hp; subst hl
    have ih := r_rule_at r ok L (p + 1) (left - 1) n ((p : Int) + 1) ((left : Int) - 1) h (fun i hi => by
      have := hL (i + 1) (by simp [Ru.words]; omega)
      rw [show p + (i + 1) = p + 1 + i by omega] at this
      simpa [Ru.words] using this) (by omega) (by omega) (by omega) (by omega)
    show runF 11 (b_rule_at (m_rule_at n)) _ h = _
    unfold b_rule_at
    simp [w0, hl0, hl1, ih, c_INNER, c_RULE_KINDS, List.lookup_cons, sForL, sizeLine, Ru.enc, sq, Ru.words, Ru.size, rangeD]
    omega
  | .cut a b r, ok, L, p, left, n, pi, li, h, hL, hp, hl, hs, hn => by
    obtain ⟨n, rfl⟩ : ∃ m, n = m + 1 := ⟨n - 1, by omega⟩
    obtain ⟨o1, o2, o3⟩ := ok
    have w0 := r_word_at (i := p) 0 h (hL 0 (by simp [Ru.words]))
    try simp [Ru.words] at w0
    simp only [Ru.size] at hs
    simp only [Ru.dep] at hn
    have hl0 : ¬ (left : Int) = 0 := by omega
    have hl1 : ¬ left = 0 := by omega
    subst hp; subst hl
    have t1 := told1 h ((p : Int) + 1) (by omega) (hL 1 (by simp [Ru.words])) (t_end h o1)
    have t2 := told1 h ((p : Int) + 1 + 1) (by omega) (hL 2 (by simp [Ru.words])) (t_end h o2)
    have ih := r_rule_at r o3 L (p + 3) (left - 1) n ((p : Int) + 1 + 1 + 1) ((left : Int) - 1) h (fun i hi => by
      have := hL (i + 3) (by simp [Ru.words]; omega)
      rw [show p + (i + 3) = p + 3 + i by omega] at this
      simpa [Ru.words] using this) (by omega) (by omega) (by omega) (by omega)
    show runF 11 (b_rule_at (m_rule_at n)) _ h = _
    unfold b_rule_at
    simp [w0, hl0, hl1, t1, t2, ih, c_INNER, c_RULE_KINDS, List.lookup_cons, sForL, sizeLine, Ru.enc, sq, Ru.words, Ru.size, rangeD]
    omega
  | .nay r, ok, L, p, left, n, pi, li, h, hL, hp, hl, hs, hn => by
    obtain ⟨n, rfl⟩ : ∃ m, n = m + 1 := ⟨n - 1, by omega⟩
    have w0 := r_word_at (i := p) 0 h (hL 0 (by simp [Ru.words]))
    try simp [Ru.words] at w0
    simp only [Ru.size] at hs
    simp only [Ru.dep] at hn
    have hl0 : ¬ (left : Int) = 0 := by omega
    have hl1 : ¬ left = 0 := by omega
    subst hp; subst hl
    have ih := r_rule_at r ok L (p + 1) (left - 1) n ((p : Int) + 1) ((left : Int) - 1) h (fun i hi => by
      have := hL (i + 1) (by simp [Ru.words]; omega)
      rw [show p + (i + 1) = p + 1 + i by omega] at this
      simpa [Ru.words] using this) (by omega) (by omega) (by omega) (by omega)
    show runF 11 (b_rule_at (m_rule_at n)) _ h = _
    unfold b_rule_at
    simp [w0, hl0, hl1, ih, c_INNER, c_RULE_KINDS, List.lookup_cons, sForL, sizeLine, Ru.enc, sq, Ru.words, Ru.size, rangeD]
    omega
  | .both r s, ok, L, p, left, n, pi, li, h, hL, hp, hl, hs, hn => by
    obtain ⟨n, rfl⟩ : ∃ m, n = m + 1 := ⟨n - 1, by omega⟩
    have w0 := r_word_at (i := p) 0 h (hL 0 (by simp [Ru.words]))
    try simp [Ru.words] at w0
    simp only [Ru.size] at hs
    simp only [Ru.dep] at hn
    have hl0 : ¬ (left : Int) = 0 := by omega
    have hl1 : ¬ left = 0 := by omega
    subst hp; subst hl
    have ih := r_rule_at r ok.1 L (p + 1) (left - 1) n ((p : Int) + 1) ((left : Int) - 1) h (fun i hi => by
      have := hL (i + 1) (by simp [Ru.words]; omega)
      rw [show p + (i + 1) = p + 1 + i by omega] at this
      simpa [Ru.words, List.getElem?_append, hi] using this) (by omega) (by omega) (by omega) (by omega)
    have ih2 := r_rule_at s ok.2 L (p + 1 + r.words.length) (left - 1 - r.size) n ((p : Int) + 1 + r.words.length) ((left : Int) - 1 - r.size) h (fun i hi => by
      have := hL (i + 1 + r.words.length) (by simp [Ru.words]; omega)
      rw [show p + (i + 1 + r.words.length) = p + 1 + r.words.length + i by omega, show i + 1 + r.words.length = (i + r.words.length) + 1 by omega] at this
      have nl : ¬ i + r.words.length < r.words.length := by omega
      simpa [Ru.words, List.getElem?_append, nl] using this) (by omega) (by omega) (by omega) (by omega)
    have e2 : List.range 2 = [0, 1] := rfl
    show runF 11 (b_rule_at (m_rule_at n)) _ h = _
    unfold b_rule_at
    simp [w0, hl0, hl1, ih, ih2, c_INNER, c_RULE_KINDS, List.lookup_cons, sForL, sizeLine, Ru.enc, sq, Ru.words, Ru.size, rangeD, e2]
    omega
  | .either r s, ok, L, p, left, n, pi, li, h, hL, hp, hl, hs, hn => by
    obtain ⟨n, rfl⟩ : ∃ m, n = m + 1 := ⟨n - 1, by omega⟩
    have w0 := r_word_at (i := p) 0 h (hL 0 (by simp [Ru.words]))
    try simp [Ru.words] at w0
    simp only [Ru.size] at hs
    simp only [Ru.dep] at hn
    have hl0 : ¬ (left : Int) = 0 := by omega
    have hl1 : ¬ left = 0 := by omega
    subst hp; subst hl
    have ih := r_rule_at r ok.1 L (p + 1) (left - 1) n ((p : Int) + 1) ((left : Int) - 1) h (fun i hi => by
      have := hL (i + 1) (by simp [Ru.words]; omega)
      rw [show p + (i + 1) = p + 1 + i by omega] at this
      simpa [Ru.words, List.getElem?_append, hi] using this) (by omega) (by omega) (by omega) (by omega)
    have ih2 := r_rule_at s ok.2 L (p + 1 + r.words.length) (left - 1 - r.size) n ((p : Int) + 1 + r.words.length) ((left : Int) - 1 - r.size) h (fun i hi => by
      have := hL (i + 1 + r.words.length) (by simp [Ru.words]; omega)
      rw [show p + (i + 1 + r.words.length) = p + 1 + r.words.length + i by omega, show i + 1 + r.words.length = (i + r.words.length) + 1 by omega] at this
      have nl : ¬ i + r.words.length < r.words.length := by omega
      simpa [Ru.words, List.getElem?_append, nl] using this) (by omega) (by omega) (by omega) (by omega)
    have e2 : List.range 2 = [0, 1] := rfl
    show runF 11 (b_rule_at (m_rule_at n)) _ h = _
    unfold b_rule_at
    simp [w0, hl0, hl1, ih, ih2, c_INNER, c_RULE_KINDS, List.lookup_cons, sForL, sizeLine, Ru.enc, sq, Ru.words, Ru.size, rangeD, e2]
    omega
theorem Ru.no_blank : ∀ r : Ru, r.ok → ∀ p ∈ r.words, 32 ∉ p
  | .any, _ => by simp [words]
  | .sum m ws g, _ => by
    have h1 := nm_free (c := 32) (by decide) m
    have h2 := nm_free (c := 32) (by decide) g
    have h3 := cm_free (c := 32) (by decide) (by decide) ws
    simp [words, h1, h2, h3]
  | .square rows goals, _ => by
    have h2 := cm_free (c := 32) (by decide) (by decide) goals
    have h3 : 32 ∉ jn 47 (rows.map cm) := jn_free (by decide) fun p m => by
      obtain ⟨r, _, rfl⟩ := List.mem_map.mp m
      exact cm_free (by decide) (by decide) r
    simp [words, h2, h3]
  | .faces fs r, h => by
    have h3 : 32 ∉ jn 44 fs := jn_free (by decide) fun p m z => by
      have := (h.2.2.1 p m).2.2 32 z
      omega
    intro p m
    simp only [words, List.mem_cons] at m
    rcases m with rfl | rfl | m
    · decide
    · exact h3
    · exact r.no_blank h.2.2.2 p m
  | .back r, h => by
    intro p m
    simp only [words, List.mem_cons] at m
    rcases m with rfl | m
    · decide
    · exact r.no_blank h p m
  | .cut a b r, h => by
    intro p m
    simp only [words, List.mem_cons] at m
    rcases m with rfl | rfl | rfl | m
    · decide
    · exact nm_free (by decide) _
    · exact nm_free (by decide) _
    · exact r.no_blank h.2.2 p m
  | .nay r, h => by
    intro p m
    simp only [words, List.mem_cons] at m
    rcases m with rfl | m
    · decide
    · exact r.no_blank h p m
  | .both r s, h => by
    intro p m
    simp only [words, List.mem_cons, List.mem_append] at m
    rcases m with rfl | m | m
    · decide
    · exact r.no_blank h.1 p m
    · exact s.no_blank h.2 p m
  | .either r s, h => by
    intro p m
    simp only [words, List.mem_cons, List.mem_append] at m
    rcases m with rfl | m | m
    · decide
    · exact r.no_blank h.1 p m
    · exact s.no_blank h.2 p m
theorem txt_split (r : Ru) (ok : r.ok) : splitL [32] r.txt = r.words := jn_split r.words_ne (r.no_blank ok)
theorem r_read (r : Ru) (ok : r.ok) (hs : r.size ≤ 40) (h : MH) : m_read_rule [.str r.txt] h = .ok (.v (r.enc true)) h := by
  have tl := r.txt_len
  have ln := r.len_ok ok
  have dp := r.dep_size
  have e := r_rule_at r ok r.words 0 40 64 0 40 h (fun i _ => by rw [Nat.zero_add]) rfl rfl hs (by omega)
  have sp := txt_split r ok
  have e2 : m_check_end [.lst (r.words.map D.str), .int (0 + (r.words.length : Int)), .int 0] h = .ok (.v .non) h := by
    unfold m_check_end b_check_end
    simp
  unfold m_read_rule b_read_rule m_words_of b_words_of m_last_rule b_last_rule
  simp [sizeLine, sp]
  rw [if_pos (by omega)]
  simp at e e2
  simp [rF, c_MOST_RULES, e, e2]
/-- equal texts, equal rules -/
theorem txt_inj {r s : Ru} (h1 : r.ok) (h2 : s.ok) (k1 : r.size ≤ 40) (k2 : s.size ≤ 40) (e : r.txt = s.txt) : r.enc true = s.enc true := by
  have a := r_read r h1 k1 []
  have b := r_read s h2 k2 []
  rw [e, b] at a
  injection a with a
  injection a with a
  exact a.symm
end Mi
set_option Elab.async false
set_option linter.all false
set_option maxRecDepth 100000
set_option maxHeartbeats 2000000
open PySem PySem.Spec PyProof.Rows L2
namespace Mi
def flF (f : Fl) : FR := match f with
  | .nx _ h' => .ok (.v .non) h'
  | .rt r _ h' => .ok r h'
  | .err x _ h' => .err x h'
  | _ => .no
theorem runF_fl (n : Nat) (mb : MS) (ds : List D) (h : MH) : runF n mb ds h = flF (mb (ds.map Sl.v ++ List.replicate (n - ds.length) .un) h) := rfl
@[simp] theorem flF_nx (e : Ev) (h : MH) : flF (.nx e h) = .ok (.v .non) h := rfl
@[simp] theorem flF_rt (r : R) (e : Ev) (h : MH) : flF (.rt r e h) = .ok r h := rfl
/-! ## draws -/
def Bag (b : Nat) (h : MH) : Prop := ∃ x y z : Int, h[b]? = some (.lst [.int x, .int y, .int z])
theorem Bag.set {b : Nat} {h : MH} (hB : Bag b h) (x y z : Int) : (h.set b (.lst [.int x, .int y, .int z]))[b]? = some (.lst [.int x, .int y, .int z]) := by
  obtain ⟨_, _, _, e⟩ := hB
  have := (List.getElem?_eq_some_iff.mp e).1
  simp [this]
theorem r_pick {b : Nat} {h : MH} (hB : Bag b h) {m : Int} (hm : m < 1073741824) : ∃ v h', m__law_pick [.loc b, .int m] h = .ok (.v (.int v)) h' ∧ Bag b h' ∧ 0 ≤ v ∧ (v < m ∨ v = 0) := by
  have hB0 := hB
  obtain ⟨x, y, z, e⟩ := hB
  have i0 := fun j => x_ixo (h := h) j e
  by_cases h1 : m < 2
  · refine ⟨0, h, ?_, hB0, by omega, by omega⟩
    unfold m__law_pick b__law_pick
    simp [h1]
  · by_cases h2 : 0 < x
    · refine ⟨x % m, h.set b (.lst [.int (x / m), .int y, .int z]), ?_, ⟨_, _, _, hB0.set _ _ _⟩, Int.emod_nonneg _ (by omega), .inl (Int.emod_lt_of_pos _ (by omega))⟩
      unfold m__law_pick b__law_pick
      have p0 : 0 < m := by omega
      have p1 : ixN 3 0 = some 0 := by decide
      have hna : m.natAbs < 1073741824 := by omega
      simp [h1, h2, e, i0, p0, hna, p1]
    · have e2 := hB0.set x y (z + 1)
      have i2 := fun j => x_ixo j e2
      have p0 : 0 < m := by omega
      have p1 : ixN 3 2 = some 2 := by decide
      have q1 : (0:Int) ≤ (y * 48271 + (z + 1) * 69621) % 2147483647 := Int.emod_nonneg _ (by omega)
      have q2 : (y * 48271 + (z + 1) * 69621) % 2147483647 < 2147483647 := Int.emod_lt_of_pos _ (by omega)
      have m1 : mulC y 48271 := .inr (by decide)
      have m2 : mulC (z + 1) 69621 := .inr (by decide)
      have m3 : mulC ((y * 48271 + (z + 1) * 69621) % 2147483647) ((y * 48271 + (z + 1) * 69621) % 2147483647) := .inr (by omega)
      have m4 : mulC (z + 1) 1299709 := .inr (by decide)
      refine ⟨(((y * 48271 + (z + 1) * 69621) % 2147483647 * ((y * 48271 + (z + 1) * 69621) % 2147483647) + y + (z + 1) * 1299709) % 1000000007 / 5) % m, h.set b (.lst [.int x, .int y, .int (z + 1)]), ?_, ⟨_, _, _, e2⟩, ?_⟩
      · unfold m__law_pick b__law_pick
        simp [h1, h2, e, i0, p1]
        simp [i2, m1, m2, m3, m4, p0]
      · exact ⟨Int.emod_nonneg _ (by omega), .inl (Int.emod_lt_of_pos _ (by omega))⟩
theorem r_bag_of (ns : List Int) (i : Nat) (h : MH) (hi : i ≤ 10) (hn : ns.length ≤ 63) : ∃ h', m__law_bag_of [.lst (ns.map .int), .int i] h = .ok (.v (.loc h.length)) h' ∧ Bag h.length h' := by
  have key : ∀ env : Ev, 5 < env.length → compL (tN 5) bYes (fz (eOp2 addO (fz (eOp2 fdivO (fz (eCallB absO (aCons (fz (eVar 5)) aNil))) (fz (eC (D.int 3))))) (fz (eC (D.int 5))))) env (ns.map D.int) h [] = some (ns.map (fun n => D.int ((if n < 0 then -n else n) / 3 + 5)), h) := fun env he => by
    rw [compL_map (f := fun d => match d with | .int n => .int ((if n < 0 then -n else n) / 3 + 5) | _ => .non) ?_ ?_]
    · simp [Function.comp_def]
    · intro d m
      obtain ⟨n, _, rfl⟩ := List.mem_map.mp m
      refine ⟨env.set 5 (.v (.int n)), env.set 5 (.v (.int n)), rfl, ?_⟩
      simp [he]
    · simp [sizeLine]; omega
  have m1 : mulC 7919 ((i : Int) + 1) := .inl (by decide)
  have m2 : mulC 7919 (i : Int) := .inl (by decide)
  have fin : ∀ (c : Int), ∃ x y z, (h ++ [MO.lst [D.int x, D.int y, D.int z]])[h.length]? = some (.lst [D.int x, D.int y, D.int z]) := fun c => ⟨0, 0, 0, by simp⟩
  have tail : ∀ c : Int, ∃ h', flF (sSeq (sSet 3 (eCallB absO (aCons (fz (eVar 2)) aNil))) (sSeq (sSet 4 (eIf (toB (eOp2 geO (fz (eVar 3)) (fz (eC (D.int 1000000000000000000))))) (eVar 3) (eC (D.int 0)))) (sSeq (sRet (eLoc (aCons (fz (eVar 4)) (aCons (fz (eOp2 addO (fz (eOp2 addO (fz (eOp2 modO (fz (eCallB intO (aCons (fz (eVar 3)) aNil))) (fz (eC (D.int 2147483629))))) (fz (eOp2 mulIO (fz (eC (D.int 7919))) (fz (eVar 1)))))) (fz (eIf (toB (eOp2 ltO (fz (eVar 2)) (fz (eC (D.int 0))))) (eC (D.int 13)) (eC (D.int 0)))))) (aCons (fz (eC (D.int 0))) aNil))))) sNil)) [.v (.lst (ns.map .int)), .v (.int i), .v (.int c), .un, .un, .un] h) = .ok (.v (.loc h.length)) h' ∧ Bag h.length h' := by
    intro c
    by_cases c1 : (1000000000000000000 : Int) ≤ (if c < 0 then -c else c)
    · by_cases c2 : c < 0
      · rw [if_pos c2] at c1
        refine ⟨_, by simp [c1, c2, m2, sizeLine]; rfl, ?_⟩
        exact ⟨_, _, _, by simp; exact ⟨rfl, rfl, rfl⟩⟩
      · rw [if_neg c2] at c1
        refine ⟨_, by simp [c1, c2, m2, sizeLine]; rfl, ?_⟩
        exact ⟨_, _, _, by simp; exact ⟨rfl, rfl, rfl⟩⟩
    · by_cases c2 : c < 0
      · rw [if_pos c2] at c1
        refine ⟨_, by simp [c1, c2, m2, sizeLine]; rfl, ?_⟩
        exact ⟨_, _, _, by simp; exact ⟨rfl, rfl, rfl⟩⟩
      · rw [if_neg c2] at c1
        refine ⟨_, by simp [c1, c2, m2, sizeLine]; rfl, ?_⟩
        exact ⟨_, _, _, by simp; exact ⟨rfl, rfl, rfl⟩⟩
  unfold m__law_bag_of b__law_bag_of
  by_cases hlt : (i : Int) < (ns.length : Int)
  · obtain ⟨c, hc⟩ : ∃ c, ns[i]? = some c := ⟨ns[i]'(by omega), by simp⟩
    have e : atI (ns.map D.int) (i : Int) = some (.int c) := by rw [atI_ofNat]; simp [hc]
    obtain ⟨h', t⟩ := tail c
    refine ⟨h', ?_, t.2⟩
    rw [← t.1]
    rw [runF_fl, x_sSeq]
    have : sSet 2 (eIf (toB (eOp2 ltO (fz (eVar 1)) (fz (eLenV 0 lenO)))) (eIxV 0 ixO (fz (eVar 1))) (eOp2 addO (fz (eCallB sumO (aCons (fz (eComp [] (tN 5) (iOf (fz (eVar 0))) bYes (fz (eOp2 addO (fz (eOp2 fdivO (fz (eCallB absO (aCons (fz (eVar 5)) aNil))) (fz (eC (D.int 3))))) (fz (eC (D.int 5))))))) aNil))) (fz (eOp2 mulIO (fz (eC (D.int 7919))) (fz (eOp2 addO (fz (eVar 1)) (fz (eC (D.int 1))))))))) (([D.lst (ns.map .int), .int i].map Sl.v) ++ List.replicate (6 - 2) .un) h = .nx [.v (.lst (ns.map .int)), .v (.int i), .v (.int c), .un, .un, .un] h := by
      have hlt2 : i < ns.length := by omega
      simp [hlt, hlt2, e, List.replicate]
    rw [show (6 - [D.lst (ns.map .int), .int (i : Int)].length) = 6 - 2 from rfl, this]
  · obtain ⟨h', t⟩ := tail ((ns.map (fun n => (if n < 0 then -n else n) / 3 + 5)).sum + 7919 * ((i : Int) + 1))
    refine ⟨h', ?_, t.2⟩
    rw [← t.1]
    rw [runF_fl, x_sSeq]
    have : sSet 2 (eIf (toB (eOp2 ltO (fz (eVar 1)) (fz (eLenV 0 lenO)))) (eIxV 0 ixO (fz (eVar 1))) (eOp2 addO (fz (eCallB sumO (aCons (fz (eComp [] (tN 5) (iOf (fz (eVar 0))) bYes (fz (eOp2 addO (fz (eOp2 fdivO (fz (eCallB absO (aCons (fz (eVar 5)) aNil))) (fz (eC (D.int 3))))) (fz (eC (D.int 5))))))) aNil))) (fz (eOp2 mulIO (fz (eC (D.int 7919))) (fz (eOp2 addO (fz (eVar 1)) (fz (eC (D.int 1))))))))) (([D.lst (ns.map .int), .int i].map Sl.v) ++ List.replicate (6 - 2) .un) h = .nx [.v (.lst (ns.map .int)), .v (.int i), .v (.int ((ns.map (fun n => (if n < 0 then -n else n) / 3 + 5)).sum + 7919 * ((i : Int) + 1))), .un, .un, .un] h := by
      have hlt2 : ¬ i < ns.length := by omega
      have e := toInts_fun (fun n : Int => (if n < 0 then -n else n) / 3 + 5) ns
      simp [hlt, hlt2, List.replicate]
      rw [key _ (by simp)]
      simp [e, m1]
    rw [show (6 - [D.lst (ns.map .int), .int (i : Int)].length) = 6 - 2 from rfl, this]
end Mi
set_option Elab.async false
set_option linter.all false
set_option maxRecDepth 100000
set_option maxHeartbeats 2000000
open PySem PySem.Spec PyProof.Rows L2
namespace Mi
/-- a for that only goes on -/
theorem for_go {t : Tg} {mb : MS} {J : Nat → Ev → MH → Prop} : ∀ (ds : List D) (k : Nat) (env : Ev) (h : MH), J k env h → (∀ i d env h, ds[i]? = some d → J (k + i) env h → ∃ e1 e2 h2, t d env = some e1 ∧ mb e1 h = .nx e2 h2 ∧ J (k + i + 1) e2 h2) →
    ∃ e' h', sForL t mb ds env h = .nx e' h' ∧ J (k + ds.length) e' h'
  | [], k, env, h, j, _ => ⟨env, h, rfl, j⟩
  | d :: ds, k, env, h, j, hh => by
    obtain ⟨e1, e2, h2, a1, a2, a3⟩ := hh 0 d env h rfl j
    obtain ⟨e', h', b1, b2⟩ := for_go (J := J) ds (k + 1) e2 h2 a3 (fun i d' env h e j => by
      have := hh (i + 1) d' env h (by simpa using e) (by rw [show k + (i + 1) = k + 1 + i by omega]; exact j)
      rw [show k + (i + 1) = k + 1 + i by omega] at this
      exact this)
    refine ⟨e', h', ?_, ?_⟩
    · unfold sForL
      rw [a1]
      simp only
      rw [a2]
      exact b1
    · rw [List.length_cons, show k + (ds.length + 1) = k + 1 + ds.length by omega]
      exact b2
theorem rangeD_get {n i : Nat} {d : D} (h : (rangeD 0 n)[i]? = some d) : i < n ∧ d = .int (i : Int) := by
  unfold rangeD at h
  rw [List.getElem?_map, Option.map_eq_some_iff] at h
  obtain ⟨a, h1, h2⟩ := h
  obtain ⟨h3, h4⟩ := List.getElem?_eq_some_iff.mp h1
  rw [List.length_range] at h3
  rw [List.getElem_range] at h4
  subst h4
  exact ⟨h3, by rw [← h2]; simp⟩
theorem rangeD_len (a : Int) (n : Nat) : (rangeD a n).length = n := by simp [rangeD]
def Sg1 (d : D) : Prop := ∃ c, d = .str [c] ∧ sgOk c
theorem sg1_list : ∀ {ys : List D}, (∀ y ∈ ys, Sg1 y) → ∃ cs : List Nat, ys = cs.map (fun c => D.str [c]) ∧ ∀ c ∈ cs, sgOk c
  | [], _ => ⟨[], rfl, by simp⟩
  | y :: ys, h => by
    obtain ⟨c, rfl, hc⟩ := h y (by simp)
    obtain ⟨cs, rfl, hs⟩ := sg1_list (ys := ys) fun z m => h z (by simp [m])
    exact ⟨c :: cs, rfl, by simpa using ⟨hc, hs⟩⟩
theorem mixed_step {b : Nat} {s : List Nat} {left told : List D} {x : Sl} {h : MH} (l5 : Bag b h) (l0 : 0 < left.length) (l1 : left.length ≤ 40) (l2 : told.length ≤ 40) : ∃ (n : Nat) (y : D) (h2 : MH), left[n]? = some y ∧ n < left.length ∧ Bag b h2 ∧
    sSeq (sExpr (eMut 3 appOp (aCons (fz (eMut 2 popOp (aCons (fz (eCall m__law_pick (aCons (fz (eVar 0)) (aCons (fz (eLenV 2 lenO)) aNil)))) aNil))) aNil))) sNil [.v (.loc b), .v (.str s), .own left, .own told, x] h = .nx [.v (.loc b), .v (.str s), .own (left.eraseIdx n), .own (told ++ [y]), x] h2 := by
  obtain ⟨v, h2, p1, p2, p3, p4⟩ := r_pick l5 (m := (left.length : Int)) (by omega)
  obtain ⟨n, rfl⟩ := Int.eq_ofNat_of_zero_le p3
  have hv : n < left.length := by omega
  obtain ⟨y, hy⟩ : ∃ y, left[n]? = some y := ⟨left[n], by simp [hv]⟩
  have pp := pop_nat hy (Nat.le_trans l1 (by decide))
  have ht : told.length < sizeLine := Nat.lt_of_le_of_lt l2 (by decide)
  refine ⟨n, y, h2, hy, hv, p2, ?_⟩
  simp [p1, pp, ht]
theorem r_mixed {b : Nat} {h : MH} (hB : Bag b h) (s : List Nat) (hs : ∀ c ∈ s, sgOk c) (hl : s.length ≤ 40) : ∃ ys h', m__law_mixed [.loc b, .str s] h = .ok (.v (.lst ys)) h' ∧ Bag b h' ∧ ys.length = s.length ∧ ∀ y ∈ ys, Sg1 y := by
  let J : Nat → Ev → MH → Prop := fun k env h => ∃ x left told, env = [.v (.loc b), .v (.str s), .own left, .own told, x] ∧ left.length + k = s.length ∧ told.length = k ∧ (∀ y ∈ left, Sg1 y) ∧ (∀ y ∈ told, Sg1 y) ∧ Bag b h
  have j0 : J 0 [.v (.loc b), .v (.str s), .own (chars s), .own [], .un] h := ⟨.un, chars s, [], rfl, by simp [chars], rfl, fun y m => by
    obtain ⟨c, hc, rfl⟩ := List.mem_map.mp m
    exact ⟨c, rfl, hs c hc⟩, by simp, hB⟩
  obtain ⟨e', h', a1, a2⟩ := for_go (t := tN 4) (mb := sSeq (sExpr (eMut 3 appOp (aCons (fz (eMut 2 popOp (aCons (fz (eCall m__law_pick (aCons (fz (eVar 0)) (aCons (fz (eLenV 2 lenO)) aNil)))) aNil))) aNil))) sNil) (J := J) (rangeD 0 s.length) 0 _ h j0 (fun i d env h hi j => by
    obtain ⟨x, left, told, rfl, l1, l2, l3, l4, l5⟩ := j
    obtain ⟨i1, rfl⟩ := rangeD_get hi
    rw [Nat.zero_add] at l1 l2
    obtain ⟨n, y, h2, hy, hv, p2, e⟩ := mixed_step (s := s) (left := left) (told := told) (x := .v (.int i)) l5 (by omega) (by omega) (by omega)
    refine ⟨_, _, h2, rfl, e, ⟨_, _, _, rfl, ?_, ?_, fun z m => l3 z (List.mem_of_mem_eraseIdx m), fun z m => ?_, p2⟩⟩
    · rw [List.length_eraseIdx_of_lt hv]; omega
    · simp [l2]
    · rcases List.mem_append.mp m with m | m
      · exact l4 z m
      · simp at m
        subst m
        exact l3 z (List.mem_of_getElem? hy))
  rw [rangeD_len, Nat.zero_add] at a2
  obtain ⟨x, left, told, rfl, l1, l2, l3, l4, l5⟩ := a2
  refine ⟨told, h', ?_, l5, l2, l4⟩
  have hc : (-1000000000000 : Int) ≤ (s.length : Int) := by omega
  have hc2 : (s.length : Int) ≤ 1000000000000 := by omega
  have hz : s.length ≤ sizeLine := Nat.le_trans hl (by decide)
  have h0 : (0 : Nat) ≤ sizeLine := Nat.zero_le _
  unfold m__law_mixed b__law_mixed
  simp [hc, hc2, hz, h0]
  rw [a1]
  simp
theorem join0 : ∀ l : List (List Nat), TL.joinL [] l = l.flatten
  | [] => by simp [TL.joinL]
  | [a] => by simp [TL.joinL]
  | a :: b :: l => by
    have := join0 (b :: l)
    simp only [TL.joinL, List.append_nil] at *
    rw [this]
    simp
theorem flat1 {l : List (List Nat)} (h : ∀ x ∈ l, ∃ c, x = [c] ∧ sgOk c) : l.flatten.length = l.length ∧ ∀ c ∈ l.flatten, sgOk c := by
  induction l with
  | nil => simp
  | cons a l ih =>
    obtain ⟨c, rfl, hc⟩ := h a (by simp)
    obtain ⟨h1, h2⟩ := ih fun x m => h x (by simp [m])
    refine ⟨by simp [h1], fun d m => ?_⟩
    simp only [List.flatten_cons, List.mem_append, List.mem_singleton] at m
    rcases m with rfl | m
    · exact hc
    · exact h2 d m
theorem sum1 {l : List (List Nat)} (h : ∀ x ∈ l, ∃ c, x = [c] ∧ sgOk c) : (l.map List.length).sum = l.length := by
  rw [← List.length_flatten]
  exact (flat1 h).1
theorem r_many_signs {b : Nat} {h : MH} (hB : Bag b h) : ∃ s h', m__law_many_signs [.loc b] h = .ok (.v (.str s)) h' ∧ Bag b h' ∧ 2 ≤ s.length ∧ s.length ≤ 12 ∧ ∀ c ∈ s, sgOk c := by
  obtain ⟨v0, h1, p1, p2, p3, p4⟩ := r_pick hB (m := 2) (by decide)
  have hm : ∃ m : Int, atI [D.int 3, D.int 11] v0 = some (.int m) ∧ 2 ≤ m ∧ m ≤ 11 := by
    have : v0 = 0 ∨ v0 = 1 := by omega
    rcases this with rfl | rfl
    · exact ⟨3, by simp, by decide, by decide⟩
    · exact ⟨11, by simp, by decide, by decide⟩
  obtain ⟨m, m1, m2, m3⟩ := hm
  obtain ⟨v, h2, q1, q2, q3, q4⟩ := r_pick p2 (m := m) (by omega)
  obtain ⟨ys, h3, r1, r2, r3, r4⟩ := r_mixed q2 [48, 49, 50, 51, 52, 53, 54, 55, 56, 57, 65, 66, 67, 68, 69, 70, 71, 72, 73, 74, 75, 76, 77, 78, 79, 80, 81, 82, 83, 84, 85, 86, 87, 88, 89, 90] (by simp [sgOk]) (by decide)
  obtain ⟨cs, rfl, hcs⟩ := sg1_list r4
  rw [List.length_map] at r3
  have r3' : cs.length = 36 := r3
  obtain ⟨n, rfl⟩ := Int.eq_ofNat_of_zero_le q3
  have hn : n ≤ 10 := by omega
  have ec : cutL (cs.map fun c => D.str [c]) none (some (2 + (n : Int))) = (cs.take (2 + n)).map fun c => D.str [c] := by
    unfold cutL
    have e1 : HT.sIx (cs.map fun c => D.str [c]).length (cs.map fun c => D.str [c]).length (some (2 + (n : Int))) = 2 + n := by
      have := HT.sIx_nat (cs.map fun c => D.str [c]).length (cs.map fun c => D.str [c]).length (2 + n)
      rw [show ((2 + n : Nat) : Int) = 2 + (n : Int) by omega] at this
      rw [this, List.length_map, r3']
      omega
    rw [e1, HT.sIx_none]
    simp [List.map_take]
  have et : toStrs ((cs.take (2 + n)).map fun c => D.str [c]) = some ((cs.take (2 + n)).map fun c => [c]) := toStrs_fun (fun c => [c]) _
  have lt : (cs.take (2 + n)).length = 2 + n := by rw [List.length_take]; omega
  have hall : ∀ x ∈ sortS ((cs.take (2 + n)).map fun c => [c]), ∃ c, x = [c] ∧ sgOk c := fun x m => by
    have m := (sortS_perm _).mem_iff.mp m
    obtain ⟨c, hc, rfl⟩ := List.mem_map.mp m
    exact ⟨c, rfl, hcs c (List.mem_of_mem_take hc)⟩
  have hlen : (sortS ((cs.take (2 + n)).map fun c => [c])).length = 2 + n := by rw [(sortS_perm _).length_eq, List.length_map, lt]
  obtain ⟨f1, f2⟩ := flat1 hall
  have f3 := sum1 hall
  refine ⟨(sortS ((cs.take (2 + n)).map fun c => [c])).flatten, h3, ?_, r2, by rw [f1, hlen]; omega, by rw [f1, hlen]; omega, f2⟩
  have et2 : toStrs (List.take (2 + n) (List.map (fun c => D.str [c]) cs)) = some (List.take (2 + n) (List.map (fun c => [c]) cs)) := by
    rw [← List.map_take, ← List.map_take]
    exact toStrs_fun (fun c => [c]) _
  have hlen2 : (List.take (2 + n) (List.map (fun c => [c]) cs)).length < 64 := by
    rw [← List.map_take, List.length_map, lt]
    omega
  rw [List.map_take] at f3 hlen
  have c64 : ((cs.take (2 + n)).map fun c => [c]).length < 64 := by rw [List.length_map, lt]; omega
  unfold m__law_many_signs b__law_many_signs
  rw [List.map_take]
  simp [sizeLine, p1, m1, q1, r1, ec, sortSO, et2, -List.length_take]
  rw [if_pos hlen2]
  simp [toStrs_str, join0]
  rw [if_pos (by rw [f3, hlen]; omega)]
  simp
end Mi
set_option Elab.async false
set_option linter.all false
set_option maxRecDepth 100000
set_option maxHeartbeats 2000000
open PySem PySem.Spec PyProof.Rows L2
namespace Mi
theorem r_one_of {b : Nat} {h : MH} (hB : Bag b h) {s : List Nat} (h0 : 0 < s.length) (hl : s.length ≤ 12) : ∃ c h', m__law_one_of [.loc b, .str s] h = .ok (.v (.str [c])) h' ∧ Bag b h' ∧ c ∈ s := by
  obtain ⟨v, h2, p1, p2, p3, p4⟩ := r_pick hB (m := (s.length : Int)) (by omega)
  obtain ⟨n, rfl⟩ := Int.eq_ofNat_of_zero_le p3
  have hv : n < s.length := by omega
  obtain ⟨c, hc⟩ : ∃ c, s[n]? = some c := ⟨s[n], by simp [hv]⟩
  have e : atI s (n : Int) = some c := by rw [atI_ofNat]; exact hc
  have hz : s.length ≤ sizeLine := Nat.le_trans hl (by decide)
  refine ⟨c, h2, ?_, p2, List.mem_of_getElem? hc⟩
  unfold m__law_one_of b__law_one_of
  simp [hz, p1, e]
/-- a draw of each item of a list -/
theorem r_draws {b i j k : Nat} {env : Ev} {ds : List D} {h : MH} (m : Nat) (hB : Bag b h) (hm : 1 ≤ m) (hm2 : m ≤ 100) (hi : env[i]? = some (.v (.loc b))) (hj : env[j]? = some (.v (.int m))) (hki : k ≠ i) (hkj : k ≠ j) (hl : ds.length ≤ 100) :
    ∃ (ws : List Nat) (h' : MH), compL (tN k) bYes (fz (eCall m__law_pick (aCons (fz (eVar i)) (aCons (fz (eVar j)) aNil)))) env ds h [] = some (ws.map nD, h') ∧ Bag b h' ∧ ws.length = ds.length ∧ ∀ w ∈ ws, w < m := by
  obtain ⟨ys, h', a1, a2, a3, a4⟩ := compL_all (t := tN k) (elt := fz (eCall m__law_pick (aCons (fz (eVar i)) (aCons (fz (eVar j)) aNil)))) (menv := env) (I := Bag b) (Q := fun y => ∃ w : Nat, y = nD w ∧ w < m) ds [] h hB (fun d _ h hB => by
    obtain ⟨v, h2, p1, p2, p3, p4⟩ := r_pick hB (m := (m : Int)) (by omega)
    obtain ⟨n, rfl⟩ := Int.eq_ofNat_of_zero_le p3
    refine ⟨env.set k (.v d), rfl, nD n, env.set k (.v d), h2, ?_, p2, n, rfl, by omega⟩
    simp [List.getElem?_set, hki, hkj, hi, hj, p1]) (by simp [sizeLine]; omega)
  have conv : ∀ ys : List D, (∀ y ∈ ys, ∃ w : Nat, y = nD w ∧ w < m) → ∃ ws : List Nat, ys = ws.map nD ∧ ∀ w ∈ ws, w < m := by
    intro ys
    induction ys with
    | nil => intro _; exact ⟨[], rfl, by simp⟩
    | cons y ys ih =>
      intro hy
      obtain ⟨w, rfl, hw⟩ := hy y (by simp)
      obtain ⟨ws, rfl, hws⟩ := ih fun z m => hy z (by simp [m])
      exact ⟨w :: ws, rfl, by simpa using ⟨hw, hws⟩⟩
  obtain ⟨ws, rfl, hw⟩ := conv ys a4
  exact ⟨ws, h', by simpa using a1, a2, by simpa using a3, hw⟩
theorem q_list {Q : Nat → Prop} : ∀ {ys : List D}, (∀ y ∈ ys, ∃ w : Nat, y = nD w ∧ Q w) → ∃ ws : List Nat, ys = ws.map nD ∧ ∀ w ∈ ws, Q w
  | [], _ => ⟨[], rfl, by simp⟩
  | y :: ys, hy => by
    obtain ⟨w, rfl, hw⟩ := hy y (by simp)
    obtain ⟨ws, rfl, hws⟩ := q_list (ys := ys) fun z m => hy z (by simp [m])
    exact ⟨w :: ws, rfl, by simpa using ⟨hw, hws⟩⟩
theorem q_rows {Q : List Nat → Prop} : ∀ {ys : List D}, (∀ y ∈ ys, ∃ r : List Nat, y = .tup (r.map nD) ∧ Q r) → ∃ rs : List (List Nat), ys = rs.map (fun r => .tup (r.map nD)) ∧ ∀ r ∈ rs, Q r
  | [], _ => ⟨[], rfl, by simp⟩
  | y :: ys, hy => by
    obtain ⟨w, rfl, hw⟩ := hy y (by simp)
    obtain ⟨ws, rfl, hws⟩ := q_rows (ys := ys) fun z m => hy z (by simp [m])
    exact ⟨w :: ws, rfl, by simpa using ⟨hw, hws⟩⟩
/-- the rows of a square -/
theorem r_square_rows {b : Nat} {s : List Nat} {h : MH} (m : Nat) (hB : Bag b h) (hm : 1 ≤ m) (hm2 : m ≤ 60) (hs : s.length ≤ 12) (ds : List D) (hl : ds.length ≤ 100) :
    ∃ (rows : List (List Nat)) (h' : MH), compL (tN 11) bYes (fz (eCallB tupleO (aCons (fz (eComp [0, 7] (tN 12) (iOf (fz (eVar 1))) bYes (fz (eCall m__law_pick (aCons (fz (eVar 0)) (aCons (fz (eVar 7)) aNil)))))) aNil)))
      [.v (.loc b), .v (.str s), .un, .un, .un, .un, .un, .v (.int m), .un, .un, .un, .un, .un] ds h [] = some (rows.map (fun r => .tup (r.map nD)), h') ∧ Bag b h' ∧ rows.length = ds.length ∧ ∀ r ∈ rows, r.length = s.length ∧ ∀ w ∈ r, w < m := by
  obtain ⟨ys, h', a1, a2, a3, a4⟩ := compL_all (t := tN 11) (elt := fz (eCallB tupleO (aCons (fz (eComp [0, 7] (tN 12) (iOf (fz (eVar 1))) bYes (fz (eCall m__law_pick (aCons (fz (eVar 0)) (aCons (fz (eVar 7)) aNil)))))) aNil)))
    (menv := [.v (.loc b), .v (.str s), .un, .un, .un, .un, .un, .v (.int m), .un, .un, .un, .un, .un]) (I := Bag b) (Q := fun y => ∃ r : List Nat, y = .tup (r.map nD) ∧ r.length = s.length ∧ ∀ w ∈ r, w < m) ds [] h hB (fun d _ h hB => by
    obtain ⟨ws, h2, c1, c2, c3, c4⟩ := r_draws (i := 0) (j := 7) (k := 12) (env := [.v (.loc b), .un, .un, .un, .un, .un, .un, .v (.int m), .un, .un, .un, .un, .un]) (ds := chars s) m hB hm (by omega) rfl rfl (by decide) (by decide) (by simp [chars]; omega)
    refine ⟨_, rfl, .tup (ws.map nD), [.v (.loc b), .v (.str s), .un, .un, .un, .un, .un, .v (.int m), .un, .un, .un, .v d, .un], h2, ?_, c2, ws, rfl, by simpa [chars] using c3, c4⟩
    simp [c1]) (by simp [sizeLine]; omega)
  obtain ⟨rows, rfl, hr⟩ := q_rows a4
  exact ⟨rows, h', by simpa using a1, a2, by simpa using a3, hr⟩
theorem r_square_goals {b : Nat} {h : MH} (m : Nat) (hB : Bag b h) (hm2 : m ≤ 60) :
    ∃ (ws : List Nat) (h' : MH), compL (tN 11) (toB (eOp2 eqO (fz (eCall m__law_pick (aCons (fz (eVar 0)) (aCons (fz (eC (D.int 2))) aNil)))) (fz (eC (D.int 0))))) (fz (eVar 11))
      [.v (.loc b), .un, .un, .un, .un, .un, .un, .un, .un, .un, .un, .un, .un] (rangeD 0 m) h [] = some (ws.map nD, h') ∧ Bag b h' ∧ ws.length ≤ m ∧ ∀ w ∈ ws, w < m := by
  obtain ⟨ys, h', a1, a2, a3, a4⟩ := compL_inv (t := tN 11) (c := toB (eOp2 eqO (fz (eCall m__law_pick (aCons (fz (eVar 0)) (aCons (fz (eC (D.int 2))) aNil)))) (fz (eC (D.int 0))))) (elt := fz (eVar 11))
    (menv := [.v (.loc b), .un, .un, .un, .un, .un, .un, .un, .un, .un, .un, .un, .un]) (I := Bag b) (Q := fun y => ∃ w : Nat, y = nD w ∧ w < m) (rangeD 0 m) [] h hB (fun d hd h hB => by
    obtain ⟨i, hi⟩ := List.getElem?_of_mem hd
    obtain ⟨i1, rfl⟩ := rangeD_get hi
    obtain ⟨v, h2, p1, p2, p3, p4⟩ := r_pick hB (m := 2) (by decide)
    refine ⟨[.v (.loc b), .un, .un, .un, .un, .un, .un, .un, .un, .un, .un, .v (.int i), .un], [.v (.loc b), .un, .un, .un, .un, .un, .un, .un, .un, .un, .un, .v (.int i), .un], decide (v = 0), h2, rfl, ?_, p2, fun _ => ⟨nD i, [.v (.loc b), .un, .un, .un, .un, .un, .un, .un, .un, .un, .un, .v (.int i), .un], h2, ?_, p2, i, rfl, i1⟩⟩
    · simp [p1]
    · simp) (by rw [rangeD_len]; simp [sizeLine]; omega)
  obtain ⟨ws, rfl, hw⟩ := q_list a4
  rw [rangeD_len] at a3
  exact ⟨ws, h', by simpa using a1, a2, by simpa using a3, hw⟩
end Mi
set_option Elab.async false
set_option linter.all false
set_option maxRecDepth 100000
set_option maxHeartbeats 2000000
open PySem PySem.Spec PyProof.Rows L2
namespace Mi
theorem pick_of2 {b : Nat} {h : MH} (hB : Bag b h) (x y : Int) : ∃ v h', m__law_pick [.loc b, .int 2] h = .ok (.v (.int v)) h' ∧ Bag b h' ∧ ∃ m : Int, atI [D.int x, D.int y] v = some (.int m) ∧ (m = x ∨ m = y) := by
  obtain ⟨v0, h1, p1, p2, p3, p4⟩ := r_pick hB (m := 2) (by decide)
  have : v0 = 0 ∨ v0 = 1 := by omega
  rcases this with rfl | rfl
  · exact ⟨0, h1, p1, p2, x, by simp, .inl rfl⟩
  · exact ⟨1, h1, p1, p2, y, by simp, .inr rfl⟩
theorem r_text_leaf {b : Nat} {h : MH} (hB : Bag b h) {s : List Nat} (hs : 2 ≤ s.length) (hs2 : s.length ≤ 12) {room : Nat} (hr : room ≤ 1000) :
    ∃ r h', m__law_text_leaf [.loc b, .str s, .int room] h = .ok (.v (Ru.enc true r)) h' ∧ Bag b h' ∧ r.ok ∧ r.size = 1 := by
  obtain ⟨way, h1, p1, p2, p3, p4⟩ := r_pick hB (m := 7) (by decide)
  have hz : s.length ≤ sizeLine := Nat.le_trans hs2 (by decide)
  by_cases w0 : way = 0
  · refine ⟨.any, h1, ?_, p2, trivial, rfl⟩
    unfold m__law_text_leaf b__law_text_leaf
    simp [p1, w0, sizeLine, Ru.enc, sq]
  · by_cases w4 : way < 4
    · obtain ⟨v1, h2, a1, a2, m0, a3, a4⟩ := pick_of2 p2 4 59
      obtain ⟨v2, h3, b1, b2, b3, b4⟩ := r_pick a2 (m := m0) (by omega)
      obtain ⟨v3, h4, c1, c2, m1, c3, c4⟩ := pick_of2 b2 2 8
      obtain ⟨v4, h5, d1, d2, d3, d4⟩ := r_pick c2 (m := m1) (by omega)
      obtain ⟨n2, rfl⟩ := Int.eq_ofNat_of_zero_le b3
      obtain ⟨n4, rfl⟩ := Int.eq_ofNat_of_zero_le d3
      obtain ⟨ws, h6, e1, e2, e3, e4⟩ := r_draws (i := 0) (j := 4) (k := 10) (env := [.v (.loc b), .un, .un, .un, .v (.int ((2 + n2 : Nat) : Int)), .un, .un, .un, .un, .un, .un, .un, .un]) (ds := rangeD 0 (1 + n4)) (2 + n2) d2 (by omega) (by omega) rfl rfl (by decide) (by decide) (by rw [rangeD_len]; omega)
      rw [rangeD_len] at e3
      obtain ⟨v7, h7, f1, f2, f3, f4⟩ := r_pick e2 (m := ((2 + n2 : Nat) : Int)) (by omega)
      obtain ⟨n7, rfl⟩ := Int.eq_ofNat_of_zero_le f3
      refine ⟨.sum (2 + n2) ws n7, h7, ?_, f2, ⟨by omega, by omega, by intro z; rw [z] at e3; simp at e3; omega, by omega, fun n m => by have := e4 n m; omega, by omega⟩, rfl⟩
      have q1 : (-1000000000000 : Int) ≤ 1 + (n4 : Int) := by omega
      have q2 : (1 : Int) + (n4 : Int) ≤ 1000000000000 := by omega
      have q3 : ((1 : Int) + (n4 : Int)).toNat = 1 + n4 := by omega
      simp at e1 f1
      unfold m__law_text_leaf b__law_text_leaf
      simp [p1, w0, w4, a1, a3, b1, c1, c3, d1, q1, q2, q3, e1, f1, sizeLine, Ru.enc, sq]
    · obtain ⟨mr, g1, g2, g3⟩ : ∃ mr : Nat, (if (if (room : Int) / (3 * (s.length : Int)) < 60 then (room : Int) / (3 * (s.length : Int)) else 60) > 1 then (if (room : Int) / (3 * (s.length : Int)) < 60 then (room : Int) / (3 * (s.length : Int)) else 60) else 1) = (mr : Int) ∧ 1 ≤ mr ∧ mr ≤ 60 := by
        generalize (room : Int) / (3 * (s.length : Int)) = q
        refine ⟨(if (if q < 60 then q else 60) > 1 then (if q < 60 then q else 60) else 1).toNat, ?_, ?_, ?_⟩ <;> split <;> split <;> omega
      have k1 : mulC 3 (s.length : Int) := .inl (by decide)
      have k2 : (0 : Int) < 3 * (s.length : Int) := by omega
      have k3 : (3 * (s.length : Int)).natAbs < 1073741824 := by omega
      have rest : ∀ (many : Nat) (h2 : MH), Bag b h2 → 1 ≤ many → many ≤ 60 → ∃ r h', flF (sSeq (sSet 8 (eComp [0, 1, 7] (tN 11) (iRange1 (fz (eVar 7))) bYes (fz (eCallB tupleO (aCons (fz (eComp [0, 7] (tN 12) (iOf (fz (eVar 1))) bYes (fz (eCall m__law_pick (aCons (fz (eVar 0)) (aCons (fz (eVar 7)) aNil)))))) aNil))))) (sSeq (sSet 9 (eComp [0] (tN 11) (iRange1 (fz (eVar 7))) (toB (eOp2 eqO (fz (eCall m__law_pick (aCons (fz (eVar 0)) (aCons (fz (eC (D.int 2))) aNil)))) (fz (eC (D.int 0))))) (fz (eVar 11)))) (sSeq (sRet (eTup (aCons (fz (eC (D.str [115, 113, 117, 97, 114, 101]))) (aCons (fz (eCallB tupleO (aCons (fz (eVar 8)) aNil))) (aCons (fz (eIf (bTruV 9) (eCallB tupleO (aCons (fz (eVar 9)) aNil)) (eTup (aCons (fz (eOp2 subO (fz (eVar 7)) (fz (eC (D.int 1))))) aNil)))) aNil))))) sNil))
            [.v (.loc b), .v (.str s), .v (.int room), .v (.int way), .un, .un, .v (.int mr), .v (.int many), .un, .un, .un, .un, .un] h2) = .ok (.v (Ru.enc true r)) h' ∧ Bag b h' ∧ r.ok ∧ r.size = 1 := by
        intro many h2 hB2 hm1 hm2
        obtain ⟨rows, h3, a1, a2, a3, a4⟩ := r_square_rows (s := s) many hB2 hm1 hm2 hs2 (rangeD 0 many) (by rw [rangeD_len]; omega)
        rw [rangeD_len] at a3
        obtain ⟨goals, h4, b1, b2, b3, b4⟩ := r_square_goals many a2 hm2
        have q1 : (-1000000000000 : Int) ≤ (many : Int) := by omega
        have q2 : (many : Int) ≤ 1000000000000 := by omega
        have rok : ∀ r ∈ rows, 2 ≤ r.length ∧ r.length ≤ 12 ∧ ∀ n ∈ r, n ≤ 59 := fun r m => by
          obtain ⟨c1, c2⟩ := a4 r m
          exact ⟨by omega, by omega, fun n q => by have := c2 n q; omega⟩
        have rne : rows ≠ [] := by intro z; rw [z] at a3; simp at a3; omega
        cases goals with
        | nil =>
          refine ⟨.square rows [many - 1], h4, ?_, b2, ⟨rne, by omega, rok, by simp, by simp, by simp; omega⟩, rfl⟩
          have e1 : (many : Int) - 1 = ((many - 1 : Nat) : Int) := by omega
          simp only [List.map_nil] at b1
          simp [q1, q2, a1, b1, sizeLine, Ru.enc, sq, e1]
        | cons g gs =>
          refine ⟨.square rows (g :: gs), h4, ?_, b2, ⟨rne, by omega, rok, by simp, by omega, fun n m => by have := b4 n m; omega⟩, rfl⟩
          simp [q1, q2, a1, b1, sizeLine, Ru.enc, sq]
      by_cases w6 : way < 6
      · obtain ⟨mm, u1, u2, u3⟩ : ∃ mm : Nat, (if (3 : Int) < (mr : Int) then (3 : Int) else (mr : Int)) = (mm : Int) ∧ 1 ≤ mm ∧ mm ≤ 3 := by
          refine ⟨(if (3 : Int) < (mr : Int) then (3 : Int) else (mr : Int)).toNat, ?_, ?_, ?_⟩ <;> split <;> omega
        obtain ⟨v, h2, d1, d2, d3, d4⟩ := r_pick p2 (m := (mm : Int)) (by omega)
        obtain ⟨n, rfl⟩ := Int.eq_ofNat_of_zero_le d3
        obtain ⟨r, h', e1, e2⟩ := rest (1 + n) h2 d2 (by omega) (by omega)
        refine ⟨r, h', ?_, e2⟩
        rw [← e1]
        have c1 : ((1 + n : Nat) : Int) = (1 : Int) + (n : Int) := by omega
        rw [c1]
        simp only [gt_iff_lt] at g1
        unfold m__law_text_leaf b__law_text_leaf
        rw [runF_fl]
        simp [p1, w0, w4, w6, hz, k1, k2, k3, g1, u1, d1]
      · obtain ⟨r, h', e1, e2⟩ := rest mr h1 p2 g2 g3
        refine ⟨r, h', ?_, e2⟩
        rw [← e1]
        simp only [gt_iff_lt] at g1
        unfold m__law_text_leaf b__law_text_leaf
        rw [runF_fl]
        simp [p1, w0, w4, w6, hz, k1, k2, k3, g1]
end Mi
set_option Elab.async false
set_option linter.all false
set_option maxRecDepth 100000
set_option maxHeartbeats 2000000
open PySem PySem.Spec PyProof.Rows L2
namespace Mi
/-- one face -/
theorem r_face {b : Nat} {h : MH} (hB : Bag b h) {s : List Nat} (hs : 2 ≤ s.length) (hs2 : s.length ≤ 12) (hsg : ∀ c ∈ s, sgOk c) :
    ∃ (cs : List Nat) (h' : MH), compL (tN 10) bYes (fz (eCall m__law_one_of (aCons (fz (eVar 0)) (aCons (fz (eVar 1)) aNil)))) [.v (.loc b), .v (.str s), .un, .un, .un, .un, .un, .un, .un, .un, .un] (chars s) h [] = some (cs.map (fun c => .str [c]), h') ∧ Bag b h' ∧ cs.length = s.length ∧ ∀ c ∈ cs, sgOk c := by
  obtain ⟨ys, h', a1, a2, a3, a4⟩ := compL_all (t := tN 10) (elt := fz (eCall m__law_one_of (aCons (fz (eVar 0)) (aCons (fz (eVar 1)) aNil)))) (menv := [.v (.loc b), .v (.str s), .un, .un, .un, .un, .un, .un, .un, .un, .un]) (I := Bag b) (Q := Sg1) (chars s) [] h hB (fun d _ h hB => by
    obtain ⟨c, h2, p1, p2, p3⟩ := r_one_of hB (s := s) (by omega) hs2
    refine ⟨_, rfl, .str [c], [.v (.loc b), .v (.str s), .un, .un, .un, .un, .un, .un, .un, .un, .v d], h2, ?_, p2, c, rfl, hsg c p3⟩
    simp [p1]) (by simp [chars, sizeLine]; omega)
  obtain ⟨cs, rfl, hc⟩ := sg1_list a4
  exact ⟨cs, h', by simpa using a1, a2, by simpa [chars] using a3, hc⟩
theorem join_ch (cs : List Nat) : TL.joinL [] (cs.map fun c => [c]) = cs := by
  rw [join0]
  induction cs with
  | nil => rfl
  | cons c cs ih => simp [ih]
theorem sum_ch (cs : List Nat) : ((cs.map fun c => [c]).map List.length).sum = cs.length := by
  induction cs with
  | nil => rfl
  | cons c cs ih => simp at ih; simp [ih]; omega
def faceStep : MS := sSeq (sExpr (eMut 8 appOp (aCons (fz (eMtS joinO (fz (eC (D.str []))) (aCons (fz (eComp [0, 1] (tN 10) (iOf (fz (eVar 1))) bYes (fz (eCall m__law_one_of (aCons (fz (eVar 0)) (aCons (fz (eVar 1)) aNil)))))) aNil))) aNil))) sNil
theorem r_faces_loop {b : Nat} {h : MH} (hB : Bag b h) {s : List Nat} (hs : 2 ≤ s.length) (hs2 : s.length ≤ 12) (hsg : ∀ c ∈ s, sgOk c) (parts room way : D) (x5 x6 x7 x10 : Sl) (n : Nat) (hn : n ≤ 10) :
    ∃ (fs : List (List Nat)) (x9 : Sl) (h' : MH), sForL (tN 9) faceStep (rangeD 0 n) [.v (.loc b), .v (.str s), .v parts, .v room, .v way, x5, x6, x7, .own [], .un, x10] h = .nx [.v (.loc b), .v (.str s), .v parts, .v room, .v way, x5, x6, x7, .own (fs.map D.str), x9, x10] h' ∧
      Bag b h' ∧ fs.length = n ∧ ∀ f ∈ fs, 2 ≤ f.length ∧ f.length ≤ 12 ∧ ∀ c ∈ f, sgOk c := by
  let J : Nat → Ev → MH → Prop := fun k env h => ∃ (fs : List (List Nat)) (x9 : Sl), env = [.v (.loc b), .v (.str s), .v parts, .v room, .v way, x5, x6, x7, .own (fs.map D.str), x9, x10] ∧ Bag b h ∧ fs.length = k ∧ ∀ f ∈ fs, 2 ≤ f.length ∧ f.length ≤ 12 ∧ ∀ c ∈ f, sgOk c
  have j0 : J 0 [.v (.loc b), .v (.str s), .v parts, .v room, .v way, x5, x6, x7, .own [], .un, x10] h := ⟨[], .un, rfl, hB, rfl, by simp⟩
  obtain ⟨e', h', a1, a2⟩ := for_go (t := tN 9) (mb := faceStep) (J := J) (rangeD 0 n) 0 _ h j0 (fun i d env h hi j => by
    obtain ⟨fs, x9, rfl, hB, l1, l2⟩ := j
    obtain ⟨i1, rfl⟩ := rangeD_get hi
    rw [Nat.zero_add] at l1
    obtain ⟨cs, h2, c1, c2, c3, c4⟩ := r_face hB hs hs2 hsg
    have et : toStrs (cs.map fun c => D.str [c]) = some (cs.map fun c => [c]) := toStrs_fun (fun c => [c]) _
    refine ⟨_, [.v (.loc b), .v (.str s), .v parts, .v room, .v way, x5, x6, x7, .own ((fs ++ [cs]).map D.str), .v (.int i), x10], h2, rfl, ?_, fs ++ [cs], .v (.int i), rfl, c2, by simp [l1], fun f m => ?_⟩
    · have z1 : fs.length < sizeLine := Nat.lt_of_le_of_lt (show fs.length ≤ 10 by omega) (by decide)
      have z2 : (List.map List.length (cs.map fun c => [c])).sum ≤ 16777216 := by rw [sum_ch]; omega
      unfold faceStep
      simp [c1, et, z1]
      simp at z2
      rw [if_pos z2]
      simp [join_ch, z1]
    · rcases List.mem_append.mp m with m | m
      · exact l2 f m
      · simp at m
        subst m
        exact ⟨by omega, by omega, c4⟩)
  rw [rangeD_len, Nat.zero_add] at a2
  obtain ⟨fs, x9, rfl, r2, r3, r4⟩ := a2
  exact ⟨fs, x9, h', a1, r2, r3, r4⟩
end Mi
set_option Elab.async false
set_option linter.all false
set_option maxRecDepth 100000
set_option maxHeartbeats 2000000
open PySem PySem.Spec PyProof.Rows L2
namespace Mi
theorem r_text_rule {b : Nat} {s : List Nat} (hs : 2 ≤ s.length) (hs2 : s.length ≤ 12) (hsg : ∀ c ∈ s, sgOk c) {room : Nat} (hr : room ≤ 1000) : ∀ (n parts : Nat) (pi : Int) (h : MH), pi = (parts : Int) → 1 ≤ parts → parts ≤ 60 → parts ≤ n → Bag b h →
    ∃ r h', m__law_text_rule n [.loc b, .str s, .int pi, .int room] h = .ok (.v (Ru.enc true r)) h' ∧ Bag b h' ∧ r.ok ∧ r.size = parts := by
  intro n
  induction n with
  | zero => intro parts pi h hp h1 h2 h3; omega
  | succ n ih =>
    intro parts pi h hp h1 h2 h3 hB
    subst hp
    by_cases p1 : parts = 1
    · subst p1
      obtain ⟨r, h', a1, a2, a3, a4⟩ := r_text_leaf hB hs hs2 hr
      refine ⟨r, h', ?_, a2, a3, a4⟩
      show runF 11 (b__law_text_rule (m__law_text_rule n)) _ h = _
      unfold b__law_text_rule
      simp [a1]
    · have p1' : ¬ (parts : Int) = 1 := by omega
      obtain ⟨way, h2', w1, w2, w3, w4⟩ := r_pick hB (m := 7) (by decide)
      by_cases c1 : 2 < parts ∧ way < 3
      · have c1a : (2 : Int) < (parts : Int) := by omega
        obtain ⟨v, h3', v1, v2, v3, v4⟩ := r_pick w2 (m := (parts : Int) - 2) (by omega)
        obtain ⟨m, rfl⟩ := Int.eq_ofNat_of_zero_le v3
        obtain ⟨r, h4, a1, a2, a3, a4⟩ := ih (1 + m) (1 + (m : Int)) h3' (by omega) (by omega) (by omega) (by omega) v2
        obtain ⟨r2, h5, b1, b2, b3, b4⟩ := ih (parts - 1 - (1 + m)) ((parts : Int) - 1 - (1 + (m : Int))) h4 (by omega) (by omega) (by omega) (by omega) a2
        have hw : way = 0 ∨ way = 1 ∨ way = 2 := by omega
        rcases hw with rfl | rfl | rfl
        · refine ⟨.both r r2, h5, ?_, b2, ⟨a3, b3⟩, by simp only [Ru.size]; omega⟩
          show runF 11 (b__law_text_rule (m__law_text_rule n)) _ h = _
          unfold b__law_text_rule
          simp [p1, p1', w1, c1.1, c1a, v1, a1, b1, sizeLine, Ru.enc, sq]
        · refine ⟨.either r r2, h5, ?_, b2, ⟨a3, b3⟩, by simp only [Ru.size]; omega⟩
          show runF 11 (b__law_text_rule (m__law_text_rule n)) _ h = _
          unfold b__law_text_rule
          simp [p1, p1', w1, c1.1, c1a, v1, a1, b1, sizeLine, Ru.enc, sq]
        · refine ⟨.either r r2, h5, ?_, b2, ⟨a3, b3⟩, by simp only [Ru.size]; omega⟩
          show runF 11 (b__law_text_rule (m__law_text_rule n)) _ h = _
          unfold b__law_text_rule
          simp [p1, p1', w1, c1.1, c1a, v1, a1, b1, sizeLine, Ru.enc, sq]
      · obtain ⟨r, h4, a1, a2, a3, a4⟩ := ih (parts - 1) ((parts : Int) - 1) h2' (by omega) (by omega) (by omega) (by omega) w2
        by_cases t3 : way = 3
        · subst t3
          refine ⟨.back r, h4, ?_, a2, a3, by simp only [Ru.size]; omega⟩
          show runF 11 (b__law_text_rule (m__law_text_rule n)) _ h = _
          unfold b__law_text_rule
          simp [p1, p1', w1, a1, sizeLine, Ru.enc, sq]
        · by_cases t4 : way = 4
          · subst t4
            obtain ⟨u, h5, u1, u2, u3, u4⟩ := r_pick a2 (m := 4) (by decide)
            obtain ⟨u', h6, x1, x2, x3, x4⟩ := r_pick u2 (m := 4) (by decide)
            obtain ⟨e1, rfl⟩ := Int.eq_ofNat_of_zero_le u3
            obtain ⟨e2, rfl⟩ := Int.eq_ofNat_of_zero_le x3
            refine ⟨.cut e1 e2 r, h6, ?_, x2, ⟨by omega, by omega, a3⟩, by simp only [Ru.size]; omega⟩
            show runF 11 (b__law_text_rule (m__law_text_rule n)) _ h = _
            unfold b__law_text_rule
            simp [p1, p1', w1, a1, u1, x1, sizeLine, Ru.enc, sq]
          · by_cases t5 : way = 5
            · subst t5
              by_cases lr : room < 100
              · have lr' : (room : Int) < 100 := by omega
                obtain ⟨fs, x9, h5, f1, f2, f3, f4⟩ := r_faces_loop a2 hs hs2 hsg (.int parts) (.int room) (.int 5) .un .un (.v (Ru.enc true r)) .un 1 (by decide)
                refine ⟨.faces fs r, h5, ?_, f2, ⟨by intro z; rw [z] at f3; simp at f3, by omega, f4, a3⟩, by simp only [Ru.size]; omega⟩
                show runF 11 (b__law_text_rule (m__law_text_rule n)) _ h = _
                unfold b__law_text_rule
                unfold faceStep at f1
                simp [p1, p1', w1, a1, lr, lr']
                rw [f1]
                simp [sizeLine, Ru.enc, sq]
              · have lr' : ¬ (room : Int) < 100 := by omega
                obtain ⟨u, h5, u1, u2, u3, u4⟩ := r_pick a2 (m := 4) (by decide)
                obtain ⟨e1, rfl⟩ := Int.eq_ofNat_of_zero_le u3
                obtain ⟨fs, x9, h6, f1, f2, f3, f4⟩ := r_faces_loop u2 hs hs2 hsg (.int parts) (.int room) (.int 5) .un .un (.v (Ru.enc true r)) .un (1 + e1) (by omega)
                refine ⟨.faces fs r, h6, ?_, f2, ⟨by intro z; rw [z] at f3; simp at f3; omega, by omega, f4, a3⟩, by simp only [Ru.size]; omega⟩
                have q1 : (-1000000000000 : Int) ≤ 1 + (e1 : Int) := by omega
                have q2 : (1 : Int) + (e1 : Int) ≤ 1000000000000 := by omega
                have q3 : ((1 : Int) + (e1 : Int)).toNat = 1 + e1 := by omega
                show runF 11 (b__law_text_rule (m__law_text_rule n)) _ h = _
                unfold b__law_text_rule
                unfold faceStep at f1
                simp [p1, p1', w1, a1, u1, lr, lr', q1, q2, q3]
                rw [f1]
                simp [sizeLine, Ru.enc, sq]
            · refine ⟨.nay r, h4, ?_, a2, a3, by simp only [Ru.size]; omega⟩
              show runF 11 (b__law_text_rule (m__law_text_rule n)) _ h = _
              unfold b__law_text_rule
              by_cases q : 2 < parts
              · have q2 : ¬ way < 3 := fun z => c1 ⟨q, z⟩
                have q3 : (2 : Int) < (parts : Int) := by omega
                simp [p1, p1', w1, q, q2, q3, t3, t4, t5, a1, sizeLine, Ru.enc, sq]
              · have q3 : ¬ (2 : Int) < (parts : Int) := by omega
                simp [p1, p1', w1, q, q3, t3, t4, t5, a1, sizeLine, Ru.enc, sq]
end Mi
set_option Elab.async false
set_option linter.all false
set_option maxRecDepth 100000
set_option maxHeartbeats 2000000
open PySem PySem.Spec PyProof.Rows L2
namespace Mi
theorem lstD_sq (ds : List D) : lstD (sq true ds) = sq false (ds.map lstD) := by
  rw [← lstDs_map]
  simp [sq, lstD]
theorem lst_enc : ∀ r : Ru, lstD (r.enc true) = r.enc false
  | .any => by simp [Ru.enc, lstD_sq, lstD]
  | .sum m ws g => by
    have e : (fun n : Nat => lstD (nD n)) = nD := by funext n; rfl
    simp [Ru.enc, lstD_sq, lstD, Function.comp_def]
  | .square rows goals => by
    simp [Ru.enc, lstD_sq, lstD, Function.comp_def]
  | .faces fs r => by simp [Ru.enc, lstD_sq, lstD, lst_enc r, Function.comp_def]
  | .back r => by simp [Ru.enc, lstD_sq, lstD, lst_enc r]
  | .cut a b r => by simp [Ru.enc, lstD_sq, lstD, lst_enc r]
  | .nay r => by simp [Ru.enc, lstD_sq, lstD, lst_enc r]
  | .both r s => by simp [Ru.enc, lstD_sq, lstD, lst_enc r, lst_enc s]
  | .either r s => by simp [Ru.enc, lstD_sq, lstD, lst_enc r, lst_enc s]
theorem wide_sq {n k : Nat} (b : Bool) {ds : List D} (h1 : ds.length ≤ n) (h2 : ∀ d ∈ ds, wide n k d) : wide n (k + 1) (sq b ds) := by
  cases b <;> exact ⟨h1, h2⟩
theorem wide_int (n k : Nat) (i : Int) : wide n k (.int i) := by cases k <;> exact trivial
theorem wide_str (n k : Nat) (i : List Nat) : wide n k (.str i) := by cases k <;> exact trivial
theorem wide_nums {n k : Nat} (b : Bool) {ws : List Nat} (h1 : ws.length ≤ n) : wide n (k + 1) (sq b (ws.map nD)) := by
  refine wide_sq b (by simpa using h1) fun d m => ?_
  obtain ⟨w, _, rfl⟩ := List.mem_map.mp m
  exact wide_int _ _ _
theorem wide_enc (b : Bool) : ∀ r : Ru, r.ok → ∀ k, r.dep + 3 ≤ k → wide sizeLine k (r.enc b)
  | .any, _, k, hk => by
    obtain ⟨k, rfl⟩ : ∃ m, k = m + 1 := ⟨k - 1, by omega⟩
    refine wide_sq b (by simp [sizeLine]) fun d m => ?_
    simp at m
    subst m
    exact wide_str _ _ _
  | .sum m ws g, h, k, hk => by
    obtain ⟨k, rfl⟩ : ∃ m, k = m + 2 := ⟨k - 2, by omega⟩
    refine wide_sq b (by simp [sizeLine]) fun d m => ?_
    have := h.2.2.2.1
    simp at m
    rcases m with rfl | rfl | rfl | rfl
    · exact wide_str _ _ _
    · exact wide_int _ _ _
    · exact wide_nums b (by simp [sizeLine]; omega)
    · exact wide_int _ _ _
  | .square rows goals, h, k, hk => by
    obtain ⟨k, rfl⟩ : ∃ m, k = m + 3 := ⟨k - 3, by omega⟩
    refine wide_sq b (by simp [sizeLine]) fun d m => ?_
    have h1 := h.2.1
    have h2 := h.2.2.2.2.1
    simp at m
    rcases m with rfl | rfl | rfl
    · exact wide_str _ _ _
    · refine wide_sq b (by simp [sizeLine]; omega) fun d m => ?_
      obtain ⟨w, hw, rfl⟩ := List.mem_map.mp m
      have := h.2.2.1 w hw
      exact wide_nums b (by simp [sizeLine]; omega)
    · exact wide_nums b (by simp [sizeLine]; omega)
  | .faces fs r, h, k, hk => by
    simp only [Ru.dep] at hk
    obtain ⟨k, rfl⟩ : ∃ m, k = m + 2 := ⟨k - 2, by omega⟩
    refine wide_sq b (by simp [sizeLine]) fun d m => ?_
    have h1 := h.2.1
    simp at m
    rcases m with rfl | rfl | rfl
    · exact wide_str _ _ _
    · refine wide_sq b (by simp [sizeLine]; omega) fun d m => ?_
      obtain ⟨w, hw, rfl⟩ := List.mem_map.mp m
      exact wide_str _ _ _
    · exact wide_enc b r h.2.2.2 _ (by omega)
  | .back r, h, k, hk => by
    simp only [Ru.dep] at hk
    obtain ⟨k, rfl⟩ : ∃ m, k = m + 1 := ⟨k - 1, by omega⟩
    refine wide_sq b (by simp [sizeLine]) fun d m => ?_
    simp at m
    rcases m with rfl | rfl
    · exact wide_str _ _ _
    · exact wide_enc b r h _ (by omega)
  | .cut x y r, h, k, hk => by
    simp only [Ru.dep] at hk
    obtain ⟨k, rfl⟩ : ∃ m, k = m + 1 := ⟨k - 1, by omega⟩
    refine wide_sq b (by simp [sizeLine]) fun d m => ?_
    simp at m
    rcases m with rfl | rfl | rfl | rfl
    · exact wide_str _ _ _
    · exact wide_int _ _ _
    · exact wide_int _ _ _
    · exact wide_enc b r h.2.2 _ (by omega)
  | .nay r, h, k, hk => by
    simp only [Ru.dep] at hk
    obtain ⟨k, rfl⟩ : ∃ m, k = m + 1 := ⟨k - 1, by omega⟩
    refine wide_sq b (by simp [sizeLine]) fun d m => ?_
    simp at m
    rcases m with rfl | rfl
    · exact wide_str _ _ _
    · exact wide_enc b r h _ (by omega)
  | .both r s, h, k, hk => by
    simp only [Ru.dep] at hk
    obtain ⟨k, rfl⟩ : ∃ m, k = m + 1 := ⟨k - 1, by omega⟩
    refine wide_sq b (by simp [sizeLine]) fun d m => ?_
    simp at m
    rcases m with rfl | rfl | rfl
    · exact wide_str _ _ _
    · exact wide_enc b r h.1 _ (by omega)
    · exact wide_enc b s h.2 _ (by omega)
  | .either r s, h, k, hk => by
    simp only [Ru.dep] at hk
    obtain ⟨k, rfl⟩ : ∃ m, k = m + 1 := ⟨k - 1, by omega⟩
    refine wide_sq b (by simp [sizeLine]) fun d m => ?_
    simp at m
    rcases m with rfl | rfl | rfl
    · exact wide_str _ _ _
    · exact wide_enc b r h.1 _ (by omega)
    · exact wide_enc b s h.2 _ (by omega)
theorem noL_enc : ∀ r : Ru, noL (r.enc true) = true
  | .any => by simp [Ru.enc, sq, noL, noLs]
  | .sum m ws g => by simp [Ru.enc, sq, noL, noLs, noLs_all]
  | .square rows goals => by simp [Ru.enc, sq, noL, noLs, noLs_all]
  | .faces fs r => by simp [Ru.enc, sq, noL, noLs, noLs_all, noL_enc r]
  | .back r => by simp [Ru.enc, sq, noL, noLs, noL_enc r]
  | .cut a b r => by simp [Ru.enc, sq, noL, noLs, noL_enc r]
  | .nay r => by simp [Ru.enc, sq, noL, noLs, noL_enc r]
  | .both r s => by simp [Ru.enc, sq, noL, noLs, noL_enc r, noL_enc s]
  | .either r s => by simp [Ru.enc, sq, noL, noLs, noL_enc r, noL_enc s]
theorem enc_tup (r : Ru) : tyD (r.enc true) = "tuple" := by cases r <;> simp [Ru.enc, sq]
theorem r_same {r : Ru} (ok : r.ok) (hs : r.size ≤ 40) (h : MH) : m__law_same_tuple [r.enc true, r.enc true] h = .ok (.v (.bl true)) h := by
  have dp := r.dep_size
  obtain ⟨e1, e2⟩ := r.enc_ok true ok
  have e3 := eqD_refl e1 (by omega)
  have e4 := r_noList (r.dep + 3) (r.enc true) (wide_enc true r ok _ (Nat.le_refl _)) rF h (by unfold rF; omega)
  unfold m__law_same_tuple b__law_same_tuple
  simp [enc_tup, e3, e4, noL_enc]
theorem r_written {r : Ru} (ok : r.ok) (hs : r.size ≤ 40) (h : MH) : m__law_written [r.enc true] h = .ok (.v (.bl true)) h := by
  have dp := r.dep_size
  have rf : rF = 64 := rfl
  have w1 := r_words (r.rd true) ok (by omega) rF h (by omega)
  have w2 := r_write (r.rd true) ok (by omega) rF h (by omega)
  have w3 := r_write (r.rd false) ok (by omega) rF h (by omega)
  obtain ⟨x, l1, l2⟩ := r_listed (r.dep + 3) (r.enc true) (wide_enc true r ok _ (Nat.le_refl _)) rF h (by omega)
  rw [lst_enc] at l2
  have rd := r_read r ok hs h
  have sm := r_same ok hs h
  obtain ⟨e1, e2⟩ := r.enc_ok false ok
  have e3 := eqD_refl e1 (by omega)
  have ln := r.len_ok ok
  have tj : TL.joinL [32] r.words = r.txt := rfl
  have ts : eqD (.str r.txt) (.str r.txt) = some true := by simp [eqD]
  have hl : (r.words.map List.length).sum + r.words.length ≤ 16777216 := by
    unfold Ru.len at ln
    omega
  obtain ⟨es, hes⟩ : ∃ es, r.enc false = .lst es := by cases r <;> exact ⟨_, rfl⟩
  rw [hes] at w3 e3 l2
  have fin : ∀ y : Sl, y = .own es ∨ y = .v (.lst es) → x.sl = y → m__law_written [r.enc true] h = .ok (.v (.bl true)) h := by
    intro y hy hx
    unfold m__law_written b__law_written
    rcases hy with rfl | rfl
    · simp [w1, w2, w3, toStrs_str, hl, tj, l1, l2, hx, sizeLine, compL, toBls, e3, rd, sm]
    · simp [w1, w2, w3, toStrs_str, hl, tj, l1, l2, hx, sizeLine, compL, toBls, e3, rd, sm]
  cases x with
  | v d =>
    simp at l2
    subst l2
    exact fin _ (.inr rfl) rfl
  | own ds =>
    simp at l2
    subst l2
    exact fin _ (.inl rfl) rfl
end Mi
set_option Elab.async false
set_option linter.all false
set_option maxRecDepth 100000
set_option maxHeartbeats 2000000
open PySem PySem.Spec PyProof.Rows L2
namespace Mi
theorem txt_head {r : Ru} {w : List Nat} {L : List (List Nat)} (e : r.words = w :: L) (hL : L ≠ []) : r.txt = w ++ 32 :: jn 32 L := by
  unfold Ru.txt
  rw [e]
  cases L with
  | nil => exact absurd rfl hL
  | cons x l => exact jn_cons 32 w x l
theorem txt_tail {r s : Ru} {L : List (List Nat)} (e : r.words = L ++ s.words) (hL : L ≠ []) : r.txt = jn 32 L ++ 32 :: s.txt := by
  unfold Ru.txt
  rw [e]
  exact jn_app 32 L _ hL s.words_ne
def leafW (w : List Nat) : Prop := w = [97, 110, 121] ∨ w = [115, 117, 109] ∨ w = [115, 113, 117, 97, 114, 101]
def overW (w : List Nat) : Prop := w = [102, 97, 99, 101, 115] ∨ w = [98, 97, 99, 107] ∨ w = [99, 117, 116] ∨ w = [110, 111, 116] ∨ w = [98, 111, 116, 104] ∨ w = [101, 105, 116, 104, 101, 114]
theorem Ru.shape (r : Ru) (ok : r.ok) : (∃ w ds, r.enc true = .tup (.str w :: ds) ∧ leafW w) ∨
    ∃ w ds s a b, r.enc true = .tup (.str w :: (ds ++ [Ru.enc true s])) ∧ r.txt = w ++ 32 :: a ∧ r.txt = b ++ 32 :: s.txt ∧ s.ok ∧ s.size < r.size ∧ overW w ∧ ds.length ≤ 3 := by
  cases r with
  | any => exact .inl ⟨_, _, rfl, .inl rfl⟩
  | sum m ws g => exact .inl ⟨_, _, rfl, .inr (.inl rfl)⟩
  | square rows goals => exact .inl ⟨_, _, rfl, .inr (.inr rfl)⟩
  | faces fs s =>
    refine .inr ⟨_, [sq true (fs.map .str)], s, _, _, rfl, txt_head (L := jn 44 fs :: s.words) rfl (by simp), txt_tail (L := [[102, 97, 99, 101, 115], jn 44 fs]) rfl (by simp), ok.2.2.2, by simp only [Ru.size]; omega, .inl rfl, by simp⟩
  | back s => exact .inr ⟨_, [], s, _, _, rfl, txt_head (L := s.words) rfl s.words_ne, txt_tail (L := [[98, 97, 99, 107]]) rfl (by simp), ok, by simp only [Ru.size]; omega, .inr (.inl rfl), by simp⟩
  | cut a b s => exact .inr ⟨_, [nD a, nD b], s, _, _, rfl, txt_head (L := nm a :: nm b :: s.words) rfl (by simp), txt_tail (L := [[99, 117, 116], nm a, nm b]) rfl (by simp), ok.2.2, by simp only [Ru.size]; omega, .inr (.inr (.inl rfl)), by simp⟩
  | nay s => exact .inr ⟨_, [], s, _, _, rfl, txt_head (L := s.words) rfl s.words_ne, txt_tail (L := [[110, 111, 116]]) rfl (by simp), ok, by simp only [Ru.size]; omega, .inr (.inr (.inr (.inl rfl))), by simp⟩
  | both t s => exact .inr ⟨_, [t.enc true], s, _, _, rfl, txt_head (L := t.words ++ s.words) rfl (by simp [s.words_ne]), txt_tail (L := [98, 111, 116, 104] :: t.words) rfl (by simp), ok.2, by simp only [Ru.size]; omega, .inr (.inr (.inr (.inr (.inl rfl)))), by simp⟩
  | either t s => exact .inr ⟨_, [t.enc true], s, _, _, rfl, txt_head (L := t.words ++ s.words) rfl (by simp [s.words_ne]), txt_tail (L := [101, 105, 116, 104, 101, 114] :: t.words) rfl (by simp), ok.2, by simp only [Ru.size]; omega, .inr (.inr (.inr (.inr (.inr rfl)))), by simp⟩
theorem txt_le {r : Ru} (ok : r.ok) (hs : r.size ≤ 40) : r.txt.length ≤ 120000 := by
  have := r.txt_len
  have := r.len_ok ok
  omega
theorem in_leaf (h : MH) {w : List Nat} (hw : leafW w) : inL (.str w) [.str [115, 117, 109], .str [115, 113, 117, 97, 114, 101], .str [97, 110, 121]] = some true := by
  rcases hw with rfl | rfl | rfl <;> rfl
theorem in_over (h : MH) {w : List Nat} (hw : overW w) : inL (.str w) [.str [115, 117, 109], .str [115, 113, 117, 97, 114, 101], .str [97, 110, 121]] = some false ∧ w.length ≤ 6 := by
  rcases hw with rfl | rfl | rfl | rfl | rfl | rfl <;> exact ⟨rfl, by decide⟩
theorem r_ends {r : Ru} (ok : r.ok) (hs : r.size ≤ 40) (h : MH) : m__law_ends [r.enc true] h = .ok (.v (.bl true)) h := by
  let J : Nat → Ev → MH → Prop := fun k env h' => ∃ (r : Ru) (x y z : Sl), env = [.v (r.enc true), x, y, z] ∧ h' = h ∧ r.ok ∧ r.size ≤ 40
  unfold m__law_ends b__law_ends
  simp
  have key := for_inv (t := tN 1) (J := J) (B := fun _ _ => False) (C := fun r e h' => r = .v (.bl true) ∧ h' = h)
    (mb := sSeq (sIf (toB (eOp2 inO (fz (eIxV 0 ixO (fz (eC (D.int 0))))) (fz (eTup (aCons (fz (eC (D.str [115, 117, 109]))) (aCons (fz (eC (D.str [115, 113, 117, 97, 114, 101]))) (aCons (fz (eC (D.str [97, 110, 121]))) aNil))))))) (sSeq (sRet (eOp2 eqO (fz (eCall (m_write_rule rF) (aCons (fz (eVar 0)) aNil))) (fz (eMtS joinO (fz (eC (D.str [32]))) (aCons (fz (eCall (m__law_rule_words rF) (aCons (fz (eVar 0)) aNil))) aNil))))) sNil) sNil) (sSeq (sSet 2 (eIxV 0 ixO (fz (eOp2 subO (fz (eLenV 0 lenO)) (fz (eC (D.int 1))))))) (sSeq (sSet 3 (eCall (m_write_rule rF) (aCons (fz (eVar 0)) aNil))) (sSeq (sIf (bOr (bNot (bTru (fz (eMtS endsO (fz (eVar 3)) (aCons (fz (eOp2 addO (fz (eC (D.str [32]))) (fz (eCall (m_write_rule rF) (aCons (fz (eVar 2)) aNil))))) aNil))))) (bNot (bTru (fz (eMtS startsO (fz (eVar 3)) (aCons (fz (eOp2 addO (fz (eIxV 0 ixO (fz (eC (D.int 0))))) (fz (eC (D.str [32]))))) aNil)))))) (sSeq (sRet (eC (D.bl false))) sNil) sNil) (sSeq (sSet 0 (eVar 2)) sNil)))))
    (rangeD 0 40) 0 [.v (r.enc true), .un, .un, .un] h ⟨r, .un, .un, .un, rfl, rfl, ok, hs⟩ (fun i d env h' _ j => by
      obtain ⟨r, x, y, z, rfl, rfl, ok, hs⟩ := j
      refine ⟨[.v (r.enc true), .v d, y, z], rfl, ?_⟩
      have dp := r.dep_size
      have rf : rF = 64 := rfl
      have w1 := r_words (r.rd true) ok (by omega) rF h' (by omega)
      have w2 := r_write (r.rd true) ok (by omega) rF h' (by omega)
      have ln := r.len_ok ok
      have tl := txt_le ok hs
      have tj : TL.joinL [32] r.words = r.txt := rfl
      have hl : (r.words.map List.length).sum + r.words.length ≤ 16777216 := by
        unfold Ru.len at ln
        omega
      rcases r.shape ok with ⟨w, ds, e1, e2⟩ | ⟨w, ds, s, a, b, e1, e2, e3, e4, e5, e6, e7⟩
      · have il := in_leaf h' e2
        rw [e1] at w1 w2 ⊢
        simp [sizeLine, il, w1, w2, toStrs_str, hl, tj]
      · have ⟨il, wl⟩ := in_over h' e6
        have dp2 := s.dep_size
        have w3 := r_write (s.rd true) e4 (by omega) rF h' (by omega)
        have tl3 := txt_le e4 (by omega)
        rw [e1] at w1 w2 ⊢
        have ea : atI (.str w :: (ds ++ [s.enc true])) ((ds.length : Int) + 1) = some (s.enc true) := by
          have := atI_ofNat (.str w :: (ds ++ [s.enc true])) (ds.length + 1)
          simpa using this
        have eb : (r.txt.take (w.length + 1)) = w ++ [32] := by
          rw [e2]
          simp [List.take_append, List.take_of_length_le]
        have ec : s.txt.length + 1 ≤ r.txt.length := by rw [e3]; simp
        have ed : r.txt.drop (r.txt.length - (s.txt.length + 1)) = 32 :: s.txt := by
          rw [e3]
          simp
        have l1 : 1 + s.txt.length ≤ 16777216 := by omega
        have l2 : w.length + 1 ≤ 16777216 := by omega
        simp [sizeLine, il, w1, w2, w3, ea, eb, ec, ed, l1, l2]
        exact ⟨s, _, _, _, rfl, rfl, e4, by omega⟩)
  split at key <;> rename_i e
  · rw [e]
    rcases key with ⟨r', x, y, z, _, rfl, _⟩ | k
    · rfl
    · exact k.elim
  · rw [e]
    obtain ⟨rfl, rfl⟩ := key
    rfl
  · exact key.elim
end Mi
set_option Elab.async false
set_option linter.all false
set_option maxRecDepth 100000
set_option maxHeartbeats 2000000
open PySem PySem.Spec PyProof.Rows L2
namespace Mi
def lawStep : MS := (sSeq (sSet 1 (eCall m__law_bag_of (aCons (fz (eVar 0)) (aCons (fz (eOp2 addO (fz (eC (D.int 1))) (fz (eVar 5)))) aNil)))) (sSeq (sSet 6 (eOp2 ixO (fz (eLst (aCons (fz (eC (D.int 1))) (aCons (fz (eC (D.int 1))) (aCons (fz (eC (D.int 2))) (aCons (fz (eC (D.int 3))) (aCons (fz (eC (D.int 4))) (aCons (fz (eC (D.int 6))) (aCons (fz (eC (D.int 12))) (aCons (fz (eC (D.int 40))) aNil)))))))))) (fz (eCall m__law_pick (aCons (fz (eVar 1)) (aCons (fz (eC (D.int 8))) aNil)))))) (sSeq (sIf (toB (eOp2 eqO (fz (eCall m__law_pick (aCons (fz (eVar 1)) (aCons (fz (eC (D.int 3))) aNil)))) (fz (eC (D.int 0))))) (sSeq (sSet 6 (eOp2 addO (fz (eC (D.int 1))) (fz (eCall m__law_pick (aCons (fz (eVar 1)) (aCons (fz (eC (D.int 40))) aNil)))))) sNil) sNil) (sSeq (sSet 4 (eOp2 addO (fz (eVar 4)) (fz (eVar 6)))) (sSeq (sExpr (eMut 3 appOp (aCons (fz (eCall (m__law_text_rule rF) (aCons (fz (eVar 1)) (aCons (fz (eVar 2)) (aCons (fz (eVar 6)) (aCons (fz (eOp2 addO (fz (eC (D.int 24))) (fz (eOp2 fdivO (fz (eC (D.int 600))) (fz (eVar 6)))))) aNil)))))) aNil))) sNil)))))
/-- what the loop keeps -/
def LJ (sc : D) (k : Nat) (env : Ev) (h : MH) : Prop := ∃ (b : Nat) (s : List Nat) (rs : List Ru) (many : Nat) (x5 x6 : Sl), env = [.v sc, .v (.loc b), .v (.str s), .own (rs.map (Ru.enc true)), .v (.int (many : Int)), x5, x6, .un, .un, .un] ∧
  Bag b h ∧ 2 ≤ s.length ∧ s.length ≤ 12 ∧ (∀ c ∈ s, sgOk c) ∧ rs.length = k ∧ many = 1 + (rs.map Ru.size).sum ∧ (∀ r ∈ rs, r.ok ∧ r.size ≤ 40)
theorem pick_of8 {b : Nat} {h : MH} (hB : Bag b h) : ∃ v h', m__law_pick [.loc b, .int 8] h = .ok (.v (.int v)) h' ∧ Bag b h' ∧ ∃ m : Nat, atI [D.int 1, D.int 1, D.int 2, D.int 3, D.int 4, D.int 6, D.int 12, D.int 40] v = some (.int (m : Int)) ∧ 1 ≤ m ∧ m ≤ 40 := by
  obtain ⟨v, h', p1, p2, p3, p4⟩ := r_pick hB (m := 8) (by decide)
  refine ⟨v, h', p1, p2, ?_⟩
  have : v = 0 ∨ v = 1 ∨ v = 2 ∨ v = 3 ∨ v = 4 ∨ v = 5 ∨ v = 6 ∨ v = 7 := by omega
  rcases this with rfl | rfl | rfl | rfl | rfl | rfl | rfl | rfl
  · exact ⟨1, by simp, by decide, by decide⟩
  · exact ⟨1, by simp, by decide, by decide⟩
  · exact ⟨2, by simp, by decide, by decide⟩
  · exact ⟨3, by simp, by decide, by decide⟩
  · exact ⟨4, by simp, by decide, by decide⟩
  · exact ⟨6, by simp, by decide, by decide⟩
  · exact ⟨12, by simp, by decide, by decide⟩
  · exact ⟨40, by simp, by decide, by decide⟩
theorem law_step (ns : List Int) (hn : ns.length ≤ 63) (i : Nat) (hi : i < 2) (env : Ev) (h : MH) (j : LJ (.lst (ns.map .int)) i env h) : ∃ e2 h2, lawStep (env.set 5 (.v (.int (i : Int)))) h = .nx e2 h2 ∧ LJ (.lst (ns.map .int)) (i + 1) e2 h2 := by
  obtain ⟨b, s, rs, many, x5, x6, rfl, hB, s1, s2, s3, r1, r2, r3⟩ := j
  obtain ⟨h1, b1, b2⟩ := r_bag_of ns (1 + i) h (by omega) hn
  rw [show ((1 + i : Nat) : Int) = 1 + (i : Int) by omega] at b1
  obtain ⟨v, h2, p1, p2, m, m1, m2, m3⟩ := pick_of8 b2
  obtain ⟨v3, h3, q1, q2, q3, q4⟩ := r_pick p2 (m := 3) (by decide)
  have hz : (rs.map (Ru.enc true)).length < sizeLine := by rw [List.length_map, r1]; unfold sizeLine; omega
  have hz2 : rs.length < 16777216 := by omega
  have fin : ∀ (p : Nat) (hx : MH), 1 ≤ p → p ≤ 40 → Bag h.length hx → ∃ r h', m__law_text_rule rF [.loc h.length, .str s, .int (p : Int), .int (24 + 600 / (p : Int))] hx = .ok (.v (Ru.enc true r)) h' ∧ Bag h.length h' ∧ r.ok ∧ r.size = p := by
    intro p hx k1 k2 kB
    have hp : 600 / p ≤ 600 := Nat.div_le_self _ _
    have := r_text_rule s1 s2 s3 (room := 24 + 600 / p) (by omega) rF p (p : Int) hx rfl k1 (by omega) (by unfold rF; omega) kB
    rw [show ((24 + 600 / p : Nat) : Int) = 24 + 600 / (p : Int) by simp] at this
    exact this
  by_cases hv : v3 = 0
  · subst hv
    obtain ⟨v4, h4, u1, u2, u3, u4⟩ := r_pick q2 (m := 40) (by decide)
    obtain ⟨n, rfl⟩ := Int.eq_ofNat_of_zero_le u3
    obtain ⟨r, h5, t1, t2, t3, t4⟩ := fin (1 + n) h4 (by omega) (by omega) u2
    rw [show ((1 + n : Nat) : Int) = 1 + (n : Int) by omega] at t1
    refine ⟨_, h5, ?_, h.length, s, rs ++ [r], many + (1 + n), .v (.int (i : Int)), .v (.int (1 + (n : Int))), rfl, t2, s1, s2, s3, by simp [r1], by simp [r2, t4]; omega, ?_⟩
    · have g1 : (0 : Int) < 1 + (n : Int) := by omega
      have g2 : (1 + (n : Int)).natAbs < 1073741824 := by omega
      unfold lawStep
      simp [b1, sizeLine, p1, m1, q1, u1, g1, g2, t1, hz2]
    · intro x hx
      rcases List.mem_append.mp hx with hx | hx
      · exact r3 x hx
      · simp at hx
        subst hx
        exact ⟨t3, by omega⟩
  · obtain ⟨r, h5, t1, t2, t3, t4⟩ := fin m h3 (by omega) (by omega) q2
    refine ⟨_, h5, ?_, h.length, s, rs ++ [r], many + m, .v (.int (i : Int)), .v (.int (m : Int)), rfl, t2, s1, s2, s3, by simp [r1], by simp [r2, t4]; omega, ?_⟩
    · have g1 : (0 : Int) < (m : Int) := by omega
      have g3 : 0 < m := by omega
      have g2 : m < 1073741824 := by omega
      unfold lawStep
      simp [b1, sizeLine, p1, m1, q1, hv, g1, g2, g3, t1, hz2]
    · intro x hx
      rcases List.mem_append.mp hx with hx | hx
      · exact r3 x hx
      · simp at hx
        subst hx
        exact ⟨t3, by omega⟩
theorem law_loop (ns : List Int) (hn : ns.length ≤ 63) : ∃ (s : List Nat) (h2 h3 h' : MH) (r0 r1 : Ru) (b : Nat) (t : List Nat) (x5 x6 : Sl), m__law_bag_of [.lst (ns.map .int), .int 0] [] = .ok (.v (.loc 0)) h2 ∧ m__law_many_signs [.loc 0] h2 = .ok (.v (.str s)) h3 ∧
    sForL (tN 5) lawStep (rangeD 0 2) [.v (.lst (ns.map .int)), .v (.loc 0), .v (.str s), .own [], .v (.int 1), .un, .un, .un, .un, .un] h3 = .nx [.v (.lst (ns.map .int)), .v (.loc b), .v (.str t), .own [r0.enc true, r1.enc true], .v (.int ((1 + r0.size + r1.size : Nat) : Int)), x5, x6, .un, .un, .un] h' ∧
    Bag b h' ∧ r0.ok ∧ r1.ok ∧ r0.size ≤ 40 ∧ r1.size ≤ 40 := by
  obtain ⟨h2, b1, b2⟩ := r_bag_of ns 0 [] (by omega) hn
  obtain ⟨s, h3, c1, c2, c3, c4, c5⟩ := r_many_signs b2
  obtain ⟨e', h', d1, d2⟩ := for_go (t := tN 5) (mb := lawStep) (J := LJ (.lst (ns.map .int))) (rangeD 0 2) 0 [.v (.lst (ns.map .int)), .v (.loc 0), .v (.str s), .own [], .v (.int 1), .un, .un, .un, .un, .un] h3
    ⟨0, s, [], 1, .un, .un, rfl, c2, c3, c4, c5, rfl, rfl, by simp⟩ (fun i d env h hi j => by
      obtain ⟨i1, rfl⟩ := rangeD_get hi
      rw [Nat.zero_add] at j ⊢
      obtain ⟨e2, h4, l1, l2⟩ := law_step ns hn i i1 env h j
      exact ⟨_, e2, h4, rfl, l1, l2⟩)
  rw [rangeD_len, Nat.zero_add] at d2
  obtain ⟨b, t, rs, many, x5, x6, rfl, hB, s1, s2, s3, q1, q2, q3⟩ := d2
  match rs, q1 with
  | [r0, r1], _ =>
    have a0 := q3 r0 (by simp)
    have a1 := q3 r1 (by simp)
    refine ⟨s, h2, h3, h', r0, r1, b, t, x5, x6, b1, c1, ?_, hB, a0.1, a1.1, a0.2, a1.2⟩
    rw [d1, q2]
    simp [Nat.add_assoc]
theorem enc_txt {r s : Ru} (h1 : r.ok) (h2 : s.ok) (k1 : r.size ≤ 40) (k2 : s.size ≤ 40) (e : r.enc true = s.enc true) : r.txt = s.txt := by
  have rf : rF = 64 := rfl
  have d1 := r.dep_size
  have d2 := s.dep_size
  have a := r_write (r.rd true) h1 (by omega) rF [] (by omega)
  have b := r_write (s.rd true) h2 (by omega) rF [] (by omega)
  rw [e, b] at a
  injection a with a
  injection a with a
  injection a with a
  exact a.symm
theorem law_math : ∀ ns : List Int, ns.length ≤ 63 → ∃ h', m_law [.lst (ns.map D.int)] [] = .ok (.v (.bl true)) h' := by
  intro ns hn
  obtain ⟨s, h2, h3, h4, r0, r1, b, t, x5, x6, b1, c1, l1, hB, ok0, ok1, z0, z1⟩ := law_loop ns hn
  obtain ⟨v, h', p1, p2, p3, p4⟩ := r_pick hB (m := 2) (by decide)
  have rf : rF = 64 := rfl
  have dp0 := r0.dep_size
  have dp1 := r1.dep_size
  have w0 := fun h => r_written ok0 z0 h
  have w1 := fun h => r_written ok1 z1 h
  have en := fun h => r_ends ok1 z1 h
  have t0 := fun h => r_write (r0.rd true) ok0 (by omega) rF h (by omega)
  have t1 := fun h => r_write (r1.rd true) ok1 (by omega) rF h (by omega)
  have tl0 := txt_le ok0 z0
  have tl1 := txt_le ok1 z1
  obtain ⟨e0, f0⟩ := r0.enc_ok true ok0
  obtain ⟨e1, f1⟩ := r1.enc_ok true ok1
  obtain ⟨q, g1, g2⟩ := eqD_deep e0 e1 (by omega) (by omega)
  have gq : decide (r0.txt = r1.txt) = q := by
    by_cases c : r0.txt = r1.txt
    · have := g2.mpr (txt_inj ok0 ok1 z0 z1 c)
      simp [c, this]
    · have : q = false := by
        cases hq : q
        · rfl
        · exact absurd (enc_txt ok0 ok1 z0 z1 (g2.mp hq)) c
      simp [c, this]
  have wd : ∃ w : List Nat, atI [D.str [98, 111, 116, 104], D.str [101, 105, 116, 104, 101, 114]] v = some (.str w) ∧ w.length ≤ 6 ∧ ∀ h, r0.size + r1.size + 1 ≤ 40 →
      ∃ x, m__law_listed_of rF [r1.enc true] h = .ok x h ∧ m_write_rule rF [.lst [.str w, r0.enc true, x.d]] h = .ok (.v (.str (jn 32 [w, r0.txt, r1.txt]))) h := by
    have hv : v = 0 ∨ v = 1 := by omega
    have li := fun h => r_listed (r1.dep + 3) (r1.enc true) (wide_enc true r1 ok1 _ (Nat.le_refl _)) rF h (by omega)
    rcases hv with rfl | rfl
    · refine ⟨[98, 111, 116, 104], by simp, by decide, fun h hs => ?_⟩
      obtain ⟨x, a1, a2⟩ := li h
      rw [lst_enc] at a2
      refine ⟨x, a1, ?_⟩
      rw [a2]
      have := r_write (RD.both false (r0.rd true) (r1.rd false)) ⟨ok0, ok1⟩ (by simp only [Ru.size]; omega) rF h (by simp only [Ru.dep]; omega)
      refine Eq.trans this ?_
      have e := jn_jn 32 [[98, 111, 116, 104]] [r0.words, r1.words] (by intro b m; simp at m; rcases m with rfl | rfl; exact r0.words_ne; exact r1.words_ne) (by simp)
      simpa [Ru.txt, Ru.words] using e.symm
    · refine ⟨[101, 105, 116, 104, 101, 114], by simp, by decide, fun h hs => ?_⟩
      obtain ⟨x, a1, a2⟩ := li h
      rw [lst_enc] at a2
      refine ⟨x, a1, ?_⟩
      rw [a2]
      have := r_write (RD.either false (r0.rd true) (r1.rd false)) ⟨ok0, ok1⟩ (by simp only [Ru.size]; omega) rF h (by simp only [Ru.dep]; omega)
      refine Eq.trans this ?_
      have e := jn_jn 32 [[101, 105, 116, 104, 101, 114]] [r0.words, r1.words] (by intro b m; simp at m; rcases m with rfl | rfl; exact r0.words_ne; exact r1.words_ne) (by simp)
      simpa [Ru.txt, Ru.words] using e.symm
  obtain ⟨w, v1, v2, v3⟩ := wd
  refine ⟨h', ?_⟩
  unfold m_law b_law
  unfold lawStep at l1
  have hq : eqD (.bl (decide (r0.txt = r1.txt))) (.bl q) = some true := by rw [gq]; simp
  by_cases hs : r0.size + r1.size + 1 ≤ 40
  · obtain ⟨x, x1, x2⟩ := v3 h' hs
    have k1 : (1 : Int) + (r0.size : Int) + (r1.size : Int) ≤ 40 := by omega
    simp [b1, c1, l1]
    simp [w0, w1, en, t0, t1, p1, v1, sizeLine, x1, x2, k1, toStrs, g1, gq]
    rw [if_pos (by omega)]
    simp [w0, w1, en, t0, t1, p1, v1, sizeLine, x1, x2, k1, toStrs, g1, gq]
  · have k1 : ¬ (1 : Int) + (r0.size : Int) + (r1.size : Int) ≤ 40 := by omega
    simp [b1, c1, l1]
    simp [w0, w1, en, t0, t1, p1, v1, sizeLine, k1, g1, gq]
end Mi
set_option maxHeartbeats 4000000
namespace Mi
section
variable {P : Program} {w : World} {K : PySem.W.Frag} {mg : Str → Option Value} {base : Heap}
theorem chain (d_made_of : Df K mg "made_of" s_made_of ["thing", "signs", "low", "high"]) (d_words_of : Df K mg "words_of" s_words_of ["line", "number"]) (d_word_at : Df K mg "word_at" s_word_at ["words", "place", "number"]) (d_check_end : Df K mg "check_end" s_check_end ["words", "place", "number"]) (d_numeral : Df K mg "numeral" s_numeral ["word", "low", "high"]) (d_numerals : Df K mg "numerals" s_numerals ["word", "low", "high"]) (d_row_lots : Df K mg "row_lots" s_row_lots ["word"]) (d_strings : Df K mg "strings" s_strings ["word", "sizes", "low", "high"]) (d_list_told : Df K mg "list_told" s_list_told ["kind", "word"]) (d_told_by : Df K mg "told_by" s_told_by ["kind", "word"]) (d_told_at : Df K mg "told_at" s_told_at ["words", "place", "number", "kind"]) (d_inner_rules : Df K mg "inner_rules" s_inner_rules ["rule"]) (d_joined : Df K mg "joined" s_joined ["things"]) (d_own_words : Df K mg "own_words" s_own_words ["rule"]) (d_write_rule : Df K mg "write_rule" s_write_rule ["rule"]) (d_rule_at : Df K mg "rule_at" s_rule_at ["words", "place", "number", "left"]) (d_last_rule : Df K mg "last_rule" s_last_rule ["words", "place", "number"]) (d_read_rule : Df K mg "read_rule" s_read_rule ["text"]) (d__law_bag_of : Df K mg "_law_bag_of" s__law_bag_of ["_law_script", "_law_at"]) (d__law_pick : Df K mg "_law_pick" s__law_pick ["_law_bag", "_law_many"]) (d__law_one_of : Df K mg "_law_one_of" s__law_one_of ["_law_bag", "_law_row"]) (d__law_mixed : Df K mg "_law_mixed" s__law_mixed ["_law_bag", "_law_row"]) (d__law_listed_of : Df K mg "_law_listed_of" s__law_listed_of ["_law_thing"]) (d__law_no_list : Df K mg "_law_no_list" s__law_no_list ["_law_thing"]) (d__law_same_tuple : Df K mg "_law_same_tuple" s__law_same_tuple ["_law_told", "_law_wanted"]) (d__law_many_signs : Df K mg "_law_many_signs" s__law_many_signs ["_law_bag"]) (d__law_commas : Df K mg "_law_commas" s__law_commas ["_law_row"]) (d__law_rule_words : Df K mg "_law_rule_words" s__law_rule_words ["_law_rule"]) (d__law_text_leaf : Df K mg "_law_text_leaf" s__law_text_leaf ["_law_bag", "_law_signs", "_law_room"]) (d__law_text_rule : Df K mg "_law_text_rule" s__law_text_rule ["_law_bag", "_law_signs", "_law_parts", "_law_room"]) (d__law_written : Df K mg "_law_written" s__law_written ["_law_rule"]) (d__law_ends : Df K mg "_law_ends" s__law_ends ["_law_rule"]) (c_DIGITS_ok : Cst K w mg "DIGITS" c_DIGITS) (c_SIGNS_ok : Cst K w mg "SIGNS" c_SIGNS) (c_RANGES_ok : Cst K w mg "RANGES" c_RANGES) (c_INNER_ok : Cst K w mg "INNER" c_INNER) (c_RULE_KINDS_ok : Cst K w mg "RULE_KINDS" c_RULE_KINDS) (c_MOST_RULES_ok : Cst K w mg "MOST_RULES" c_MOST_RULES) (n_all : mg "all" = none) (n_len : mg "len" = none) (n_isinstance : mg "isinstance" = none) (n_str : mg "str" = none) (n_int : mg "int" = none) (n_tuple : mg "tuple" = none) (n_range : mg "range" = none) (n_abs : mg "abs" = none) (n_sum : mg "sum" = none) (n_list : mg "list" = none) (n_bool : mg "bool" = none) (n_sorted : mg "sorted" = none) (n_min : mg "min" = none) (n_max : mg "max" = none) : SSs ⟨P, w, K, mg, base, ["_law_script", "_law_bag", "_law_signs", "_law_rules", "_law_many", "_law_k", "_law_parts", "_law_first", "_law_second", "_law_word"], defScope s_law, 75, fun _ => true⟩ (defBody s_law) b_law := by
  have f_made_of : FnM P w K mg base 1 "made_of" 4 m_made_of := ok_made_of (k := 0) d_made_of n_all n_len n_isinstance n_str
  have f_words_of : FnM P w K mg base 1 "words_of" 2 m_words_of := ok_words_of (k := 0) d_words_of n_isinstance n_str
  have f_word_at : FnM P w K mg base 1 "word_at" 3 m_word_at := ok_word_at (k := 0) d_word_at n_len
  have f_check_end : FnM P w K mg base 1 "check_end" 3 m_check_end := ok_check_end (k := 0) d_check_end n_len
  have f_numeral : FnM P w K mg base 2 "numeral" 3 m_numeral := ok_numeral (k := 1) d_numeral (f_made_of.mono (by decide)) c_DIGITS_ok n_int n_len
  have f_numerals : FnM P w K mg base 3 "numerals" 3 m_numerals := ok_numerals (k := 2) d_numerals (f_numeral.mono (by decide)) n_len n_tuple
  have f_row_lots : FnM P w K mg base 4 "row_lots" 1 m_row_lots := ok_row_lots (k := 3) d_row_lots (f_numerals.mono (by decide)) n_len n_tuple
  have f_strings : FnM P w K mg base 2 "strings" 4 m_strings := ok_strings (k := 1) d_strings (f_made_of.mono (by decide)) c_SIGNS_ok n_len n_tuple
  have f_list_told : FnM P w K mg base 5 "list_told" 2 m_list_told := ok_list_told (k := 4) d_list_told (f_strings.mono (by decide)) (f_row_lots.mono (by decide)) (f_numerals.mono (by decide))
  have f_told_by : FnM P w K mg base 6 "told_by" 2 m_told_by := ok_told_by (k := 5) d_told_by (f_list_told.mono (by decide)) (f_numeral.mono (by decide)) c_RANGES_ok
  have f_told_at : FnM P w K mg base 7 "told_at" 4 m_told_at := ok_told_at (k := 6) d_told_at (f_word_at.mono (by decide)) (f_told_by.mono (by decide)) n_len
  have f_inner_rules : FnM P w K mg base 1 "inner_rules" 1 m_inner_rules := ok_inner_rules (k := 0) d_inner_rules c_INNER_ok n_range n_len
  have f_joined : FnM P w K mg base 1 "joined" 1 m_joined := ok_joined (k := 0) d_joined n_str
  have f_own_words : FnM P w K mg base 2 "own_words" 1 m_own_words := ok_own_words (k := 1) d_own_words (f_joined.mono (by decide)) n_str
  have f_write_rule : FnM P w K mg base 67 "write_rule" 1 (m_write_rule rF) := ok_write_rule (k := 2) d_write_rule (f_own_words.mono (by decide)) (f_inner_rules.mono (by decide)) 64
  have f_rule_at : FnM P w K mg base 72 "rule_at" 4 (m_rule_at rF) := ok_rule_at (k := 7) d_rule_at (f_told_at.mono (by decide)) (f_word_at.mono (by decide)) c_INNER_ok c_RULE_KINDS_ok n_tuple n_range 64
  have f_last_rule : FnM P w K mg base 73 "last_rule" 3 m_last_rule := ok_last_rule (k := 72) d_last_rule (f_check_end.mono (by decide)) (f_rule_at.mono (by decide)) c_MOST_RULES_ok
  have f_read_rule : FnM P w K mg base 74 "read_rule" 1 m_read_rule := ok_read_rule (k := 73) d_read_rule (f_words_of.mono (by decide)) (f_last_rule.mono (by decide))
  have f__law_bag_of : FnM P w K mg base 1 "_law_bag_of" 2 m__law_bag_of := ok__law_bag_of (k := 0) d__law_bag_of n_int n_abs n_len n_sum
  have f__law_pick : FnM P w K mg base 1 "_law_pick" 2 m__law_pick := ok__law_pick (k := 0) d__law_pick n_int
  have f__law_one_of : FnM P w K mg base 2 "_law_one_of" 2 m__law_one_of := ok__law_one_of (k := 1) d__law_one_of (f__law_pick.mono (by decide)) n_len
  have f__law_mixed : FnM P w K mg base 2 "_law_mixed" 2 m__law_mixed := ok__law_mixed (k := 1) d__law_mixed (f__law_pick.mono (by decide)) n_range n_len n_list
  have f__law_listed_of : FnM P w K mg base 65 "_law_listed_of" 1 (m__law_listed_of rF) := ok__law_listed_of (k := 0) d__law_listed_of n_isinstance n_list n_tuple 64
  have f__law_no_list : FnM P w K mg base 65 "_law_no_list" 1 (m__law_no_list rF) := ok__law_no_list (k := 0) d__law_no_list n_isinstance n_bool n_list n_tuple n_all 64
  have f__law_same_tuple : FnM P w K mg base 66 "_law_same_tuple" 2 m__law_same_tuple := ok__law_same_tuple (k := 65) d__law_same_tuple (f__law_no_list.mono (by decide)) n_isinstance n_tuple
  have f__law_many_signs : FnM P w K mg base 3 "_law_many_signs" 1 m__law_many_signs := ok__law_many_signs (k := 2) d__law_many_signs (f__law_mixed.mono (by decide)) (f__law_pick.mono (by decide)) n_sorted
  have f__law_commas : FnM P w K mg base 1 "_law_commas" 1 m__law_commas := ok__law_commas (k := 0) d__law_commas n_str
  have f__law_rule_words : FnM P w K mg base 66 "_law_rule_words" 1 (m__law_rule_words rF) := ok__law_rule_words (k := 1) d__law_rule_words (f__law_commas.mono (by decide)) n_str 64
  have f__law_text_leaf : FnM P w K mg base 2 "_law_text_leaf" 3 m__law_text_leaf := ok__law_text_leaf (k := 1) d__law_text_leaf (f__law_pick.mono (by decide)) n_tuple n_range n_min n_max n_len
  have f__law_text_rule : FnM P w K mg base 67 "_law_text_rule" 4 (m__law_text_rule rF) := ok__law_text_rule (k := 2) d__law_text_rule (f__law_pick.mono (by decide)) (f__law_one_of.mono (by decide)) (f__law_text_leaf.mono (by decide)) n_tuple n_range 64
  have f__law_written : FnM P w K mg base 75 "_law_written" 1 m__law_written := ok__law_written (k := 74) d__law_written (f_read_rule.mono (by decide)) (f__law_same_tuple.mono (by decide)) (f__law_listed_of.mono (by decide)) (f_write_rule.mono (by decide)) (f__law_rule_words.mono (by decide)) n_all n_isinstance n_str
  have f__law_ends : FnM P w K mg base 68 "_law_ends" 1 m__law_ends := ok__law_ends (k := 67) d__law_ends (f_write_rule.mono (by decide)) (f__law_rule_words.mono (by decide)) n_range n_len
  exact sim_law (k := 75) (f__law_written.mono (by decide)) (f__law_listed_of.mono (by decide)) (f_write_rule.mono (by decide)) (f__law_pick.mono (by decide)) (f__law_ends.mono (by decide)) (f__law_text_rule.mono (by decide)) (f__law_bag_of.mono (by decide)) (f__law_many_signs.mono (by decide)) n_range
end
end Mi
open PySem PySem.W PyProof.Rows
set_option maxRecDepth 100000 in
set_option maxHeartbeats 0 in
theorem PySem.Challenge.cw_handcarried_k04_rule_words_holds : PySem.Challenge.rw_handcarried_k04_rule_words.Holds := by
  w_on; o_law; k_head; (case hw => w_witness2)
  k_fill
  refine Mi.law_walk (l := PySem.Challenge.rw_handcarried_k04_rule_words) (k := 76) (x := "_law_script") ⟨rfl, by decide, by decide⟩ rfl rfl (fun w h Y => PySem.W.kIn_of Y) ?F
  case F =>
    intro w mg fa h KX G hmg
    have d_made_of := by
      refine' (Mi.df_of (st := Mi.s_made_of) (ps := ["thing", "signs", "low", "high"]) KX G ?a ?l ?c ?k Mi.bn_made_of : Mi.Df _ mg "made_of" _ _)
      (case a => k_is)
      (case l => k_is)
      (case c => k_is)
      (case k => k_is)
    have d_words_of := by
      refine' (Mi.df_of (st := Mi.s_words_of) (ps := ["line", "number"]) KX G ?a ?l ?c ?k Mi.bn_words_of : Mi.Df _ mg "words_of" _ _)
      (case a => k_is)
      (case l => k_is)
      (case c => k_is)
      (case k => k_is)
    have d_word_at := by
      refine' (Mi.df_of (st := Mi.s_word_at) (ps := ["words", "place", "number"]) KX G ?a ?l ?c ?k Mi.bn_word_at : Mi.Df _ mg "word_at" _ _)
      (case a => k_is)
      (case l => k_is)
      (case c => k_is)
      (case k => k_is)
    have d_check_end := by
      refine' (Mi.df_of (st := Mi.s_check_end) (ps := ["words", "place", "number"]) KX G ?a ?l ?c ?k Mi.bn_check_end : Mi.Df _ mg "check_end" _ _)
      (case a => k_is)
      (case l => k_is)
      (case c => k_is)
      (case k => k_is)
    have d_numeral := by
      refine' (Mi.df_of (st := Mi.s_numeral) (ps := ["word", "low", "high"]) KX G ?a ?l ?c ?k Mi.bn_numeral : Mi.Df _ mg "numeral" _ _)
      (case a => k_is)
      (case l => k_is)
      (case c => k_is)
      (case k => k_is)
    have d_numerals := by
      refine' (Mi.df_of (st := Mi.s_numerals) (ps := ["word", "low", "high"]) KX G ?a ?l ?c ?k Mi.bn_numerals : Mi.Df _ mg "numerals" _ _)
      (case a => k_is)
      (case l => k_is)
      (case c => k_is)
      (case k => k_is)
    have d_row_lots := by
      refine' (Mi.df_of (st := Mi.s_row_lots) (ps := ["word"]) KX G ?a ?l ?c ?k Mi.bn_row_lots : Mi.Df _ mg "row_lots" _ _)
      (case a => k_is)
      (case l => k_is)
      (case c => k_is)
      (case k => k_is)
    have d_strings := by
      refine' (Mi.df_of (st := Mi.s_strings) (ps := ["word", "sizes", "low", "high"]) KX G ?a ?l ?c ?k Mi.bn_strings : Mi.Df _ mg "strings" _ _)
      (case a => k_is)
      (case l => k_is)
      (case c => k_is)
      (case k => k_is)
    have d_list_told := by
      refine' (Mi.df_of (st := Mi.s_list_told) (ps := ["kind", "word"]) KX G ?a ?l ?c ?k Mi.bn_list_told : Mi.Df _ mg "list_told" _ _)
      (case a => k_is)
      (case l => k_is)
      (case c => k_is)
      (case k => k_is)
    have d_told_by := by
      refine' (Mi.df_of (st := Mi.s_told_by) (ps := ["kind", "word"]) KX G ?a ?l ?c ?k Mi.bn_told_by : Mi.Df _ mg "told_by" _ _)
      (case a => k_is)
      (case l => k_is)
      (case c => k_is)
      (case k => k_is)
    have d_told_at := by
      refine' (Mi.df_of (st := Mi.s_told_at) (ps := ["words", "place", "number", "kind"]) KX G ?a ?l ?c ?k Mi.bn_told_at : Mi.Df _ mg "told_at" _ _)
      (case a => k_is)
      (case l => k_is)
      (case c => k_is)
      (case k => k_is)
    have d_inner_rules := by
      refine' (Mi.df_of (st := Mi.s_inner_rules) (ps := ["rule"]) KX G ?a ?l ?c ?k Mi.bn_inner_rules : Mi.Df _ mg "inner_rules" _ _)
      (case a => k_is)
      (case l => k_is)
      (case c => k_is)
      (case k => k_is)
    have d_joined := by
      refine' (Mi.df_of (st := Mi.s_joined) (ps := ["things"]) KX G ?a ?l ?c ?k Mi.bn_joined : Mi.Df _ mg "joined" _ _)
      (case a => k_is)
      (case l => k_is)
      (case c => k_is)
      (case k => k_is)
    have d_own_words := by
      refine' (Mi.df_of (st := Mi.s_own_words) (ps := ["rule"]) KX G ?a ?l ?c ?k Mi.bn_own_words : Mi.Df _ mg "own_words" _ _)
      (case a => k_is)
      (case l => k_is)
      (case c => k_is)
      (case k => k_is)
    have d_write_rule := by
      refine' (Mi.df_of (st := Mi.s_write_rule) (ps := ["rule"]) KX G ?a ?l ?c ?k Mi.bn_write_rule : Mi.Df _ mg "write_rule" _ _)
      (case a => k_is)
      (case l => k_is)
      (case c => k_is)
      (case k => k_is)
    have d_rule_at := by
      refine' (Mi.df_of (st := Mi.s_rule_at) (ps := ["words", "place", "number", "left"]) KX G ?a ?l ?c ?k Mi.bn_rule_at : Mi.Df _ mg "rule_at" _ _)
      (case a => k_is)
      (case l => k_is)
      (case c => k_is)
      (case k => k_is)
    have d_last_rule := by
      refine' (Mi.df_of (st := Mi.s_last_rule) (ps := ["words", "place", "number"]) KX G ?a ?l ?c ?k Mi.bn_last_rule : Mi.Df _ mg "last_rule" _ _)
      (case a => k_is)
      (case l => k_is)
      (case c => k_is)
      (case k => k_is)
    have d_read_rule := by
      refine' (Mi.df_of (st := Mi.s_read_rule) (ps := ["text"]) KX G ?a ?l ?c ?k Mi.bn_read_rule : Mi.Df _ mg "read_rule" _ _)
      (case a => k_is)
      (case l => k_is)
      (case c => k_is)
      (case k => k_is)
    have d__law_bag_of := by
      refine' (Mi.df_of (st := Mi.s__law_bag_of) (ps := ["_law_script", "_law_at"]) KX G ?a ?l ?c ?k Mi.bn__law_bag_of : Mi.Df _ mg "_law_bag_of" _ _)
      (case a => k_is)
      (case l => k_is)
      (case c => k_is)
      (case k => k_is)
    have d__law_pick := by
      refine' (Mi.df_of (st := Mi.s__law_pick) (ps := ["_law_bag", "_law_many"]) KX G ?a ?l ?c ?k Mi.bn__law_pick : Mi.Df _ mg "_law_pick" _ _)
      (case a => k_is)
      (case l => k_is)
      (case c => k_is)
      (case k => k_is)
    have d__law_one_of := by
      refine' (Mi.df_of (st := Mi.s__law_one_of) (ps := ["_law_bag", "_law_row"]) KX G ?a ?l ?c ?k Mi.bn__law_one_of : Mi.Df _ mg "_law_one_of" _ _)
      (case a => k_is)
      (case l => k_is)
      (case c => k_is)
      (case k => k_is)
    have d__law_mixed := by
      refine' (Mi.df_of (st := Mi.s__law_mixed) (ps := ["_law_bag", "_law_row"]) KX G ?a ?l ?c ?k Mi.bn__law_mixed : Mi.Df _ mg "_law_mixed" _ _)
      (case a => k_is)
      (case l => k_is)
      (case c => k_is)
      (case k => k_is)
    have d__law_listed_of := by
      refine' (Mi.df_of (st := Mi.s__law_listed_of) (ps := ["_law_thing"]) KX G ?a ?l ?c ?k Mi.bn__law_listed_of : Mi.Df _ mg "_law_listed_of" _ _)
      (case a => k_is)
      (case l => k_is)
      (case c => k_is)
      (case k => k_is)
    have d__law_no_list := by
      refine' (Mi.df_of (st := Mi.s__law_no_list) (ps := ["_law_thing"]) KX G ?a ?l ?c ?k Mi.bn__law_no_list : Mi.Df _ mg "_law_no_list" _ _)
      (case a => k_is)
      (case l => k_is)
      (case c => k_is)
      (case k => k_is)
    have d__law_same_tuple := by
      refine' (Mi.df_of (st := Mi.s__law_same_tuple) (ps := ["_law_told", "_law_wanted"]) KX G ?a ?l ?c ?k Mi.bn__law_same_tuple : Mi.Df _ mg "_law_same_tuple" _ _)
      (case a => k_is)
      (case l => k_is)
      (case c => k_is)
      (case k => k_is)
    have d__law_many_signs := by
      refine' (Mi.df_of (st := Mi.s__law_many_signs) (ps := ["_law_bag"]) KX G ?a ?l ?c ?k Mi.bn__law_many_signs : Mi.Df _ mg "_law_many_signs" _ _)
      (case a => k_is)
      (case l => k_is)
      (case c => k_is)
      (case k => k_is)
    have d__law_commas := by
      refine' (Mi.df_of (st := Mi.s__law_commas) (ps := ["_law_row"]) KX G ?a ?l ?c ?k Mi.bn__law_commas : Mi.Df _ mg "_law_commas" _ _)
      (case a => k_is)
      (case l => k_is)
      (case c => k_is)
      (case k => k_is)
    have d__law_rule_words := by
      refine' (Mi.df_of (st := Mi.s__law_rule_words) (ps := ["_law_rule"]) KX G ?a ?l ?c ?k Mi.bn__law_rule_words : Mi.Df _ mg "_law_rule_words" _ _)
      (case a => k_is)
      (case l => k_is)
      (case c => k_is)
      (case k => k_is)
    have d__law_text_leaf := by
      refine' (Mi.df_of (st := Mi.s__law_text_leaf) (ps := ["_law_bag", "_law_signs", "_law_room"]) KX G ?a ?l ?c ?k Mi.bn__law_text_leaf : Mi.Df _ mg "_law_text_leaf" _ _)
      (case a => k_is)
      (case l => k_is)
      (case c => k_is)
      (case k => k_is)
    have d__law_text_rule := by
      refine' (Mi.df_of (st := Mi.s__law_text_rule) (ps := ["_law_bag", "_law_signs", "_law_parts", "_law_room"]) KX G ?a ?l ?c ?k Mi.bn__law_text_rule : Mi.Df _ mg "_law_text_rule" _ _)
      (case a => k_is)
      (case l => k_is)
      (case c => k_is)
      (case k => k_is)
    have d__law_written := by
      refine' (Mi.df_of (st := Mi.s__law_written) (ps := ["_law_rule"]) KX G ?a ?l ?c ?k Mi.bn__law_written : Mi.Df _ mg "_law_written" _ _)
      (case a => k_is)
      (case l => k_is)
      (case c => k_is)
      (case k => k_is)
    have d__law_ends := by
      refine' (Mi.df_of (st := Mi.s__law_ends) (ps := ["_law_rule"]) KX G ?a ?l ?c ?k Mi.bn__law_ends : Mi.Df _ mg "_law_ends" _ _)
      (case a => k_is)
      (case l => k_is)
      (case c => k_is)
      (case k => k_is)
    have n_all := by
      refine' PySem.W.mg_none_of (n := "all") KX G ?a
      (case a => k_is)
    have n_len := by
      refine' PySem.W.mg_none_of (n := "len") KX G ?a
      (case a => k_is)
    have n_isinstance := by
      refine' PySem.W.mg_none_of (n := "isinstance") KX G ?a
      (case a => k_is)
    have n_str := by
      refine' PySem.W.mg_none_of (n := "str") KX G ?a
      (case a => k_is)
    have n_int := by
      refine' PySem.W.mg_none_of (n := "int") KX G ?a
      (case a => k_is)
    have n_tuple := by
      refine' PySem.W.mg_none_of (n := "tuple") KX G ?a
      (case a => k_is)
    have n_range := by
      refine' PySem.W.mg_none_of (n := "range") KX G ?a
      (case a => k_is)
    have n_abs := by
      refine' PySem.W.mg_none_of (n := "abs") KX G ?a
      (case a => k_is)
    have n_sum := by
      refine' PySem.W.mg_none_of (n := "sum") KX G ?a
      (case a => k_is)
    have n_list := by
      refine' PySem.W.mg_none_of (n := "list") KX G ?a
      (case a => k_is)
    have n_bool := by
      refine' PySem.W.mg_none_of (n := "bool") KX G ?a
      (case a => k_is)
    have n_sorted := by
      refine' PySem.W.mg_none_of (n := "sorted") KX G ?a
      (case a => k_is)
    have n_min := by
      refine' PySem.W.mg_none_of (n := "min") KX G ?a
      (case a => k_is)
    have n_max := by
      refine' PySem.W.mg_none_of (n := "max") KX G ?a
      (case a => k_is)
    have c_DIGITS_ok := by
      refine' (Mi.cst_of (w := w) (d := Mi.c_DIGITS) KX G ?a ?b : Mi.Cst _ w mg "DIGITS" _)
      (case a => k_is)
      case b =>
        unfold Mi.c_DIGITS
        exact Mi.cv_str (by decide +kernel)
    have c_SIGNS_ok := by
      refine' (Mi.cst_of (w := w) (d := Mi.c_SIGNS) KX G ?a ?b : Mi.Cst _ w mg "SIGNS" _)
      (case a => k_is)
      case b =>
        unfold Mi.c_SIGNS
        exact Mi.cv_str (by decide +kernel)
    have c_RANGES_ok := by
      refine' (Mi.cst_of (w := w) (d := Mi.c_RANGES) KX G ?a ?b : Mi.Cst _ w mg "RANGES" _)
      (case a => k_is)
      case b =>
        unfold Mi.c_RANGES
        refine' Mi.cv_dct ?l3 ?w3 ?h3
        (case l3 => k_is)
        (case w3 => decide)
        case h3 =>
          refine' Mi.ces_cons rfl ?z4 rfl ?v4 ?r4
          (case z4 => decide +kernel)
          case v4 =>
            refine' Mi.cv_tup ?l5 ?s5 ?h5
            (case l5 => k_is)
            (case s5 => decide)
            case h5 =>
              refine' Mi.cvs_cons ?v6 ?r6
              case v6 =>
                exact Mi.cv_int
              case r6 =>
                refine' Mi.cvs_cons ?v8 ?r8
                case v8 =>
                  exact Mi.cv_int
                case r8 =>
                  exact Mi.cvs_nil
          case r4 =>
            refine' Mi.ces_cons rfl ?z10 rfl ?v10 ?r10
            (case z10 => decide +kernel)
            case v10 =>
              refine' Mi.cv_tup ?l11 ?s11 ?h11
              (case l11 => k_is)
              (case s11 => decide)
              case h11 =>
                refine' Mi.cvs_cons ?v12 ?r12
                case v12 =>
                  exact Mi.cv_int
                case r12 =>
                  refine' Mi.cvs_cons ?v14 ?r14
                  case v14 =>
                    exact Mi.cv_int
                  case r14 =>
                    exact Mi.cvs_nil
            case r10 =>
              refine' Mi.ces_cons rfl ?z16 rfl ?v16 ?r16
              (case z16 => decide +kernel)
              case v16 =>
                refine' Mi.cv_tup ?l17 ?s17 ?h17
                (case l17 => k_is)
                (case s17 => decide)
                case h17 =>
                  refine' Mi.cvs_cons ?v18 ?r18
                  case v18 =>
                    exact Mi.cv_int
                  case r18 =>
                    refine' Mi.cvs_cons ?v20 ?r20
                    case v20 =>
                      exact Mi.cv_int
                    case r20 =>
                      exact Mi.cvs_nil
              case r16 =>
                refine' Mi.ces_cons rfl ?z22 rfl ?v22 ?r22
                (case z22 => decide +kernel)
                case v22 =>
                  refine' Mi.cv_tup ?l23 ?s23 ?h23
                  (case l23 => k_is)
                  (case s23 => decide)
                  case h23 =>
                    refine' Mi.cvs_cons ?v24 ?r24
                    case v24 =>
                      exact Mi.cv_int
                    case r24 =>
                      refine' Mi.cvs_cons ?v26 ?r26
                      case v26 =>
                        exact Mi.cv_int
                      case r26 =>
                        exact Mi.cvs_nil
                case r22 =>
                  refine' Mi.ces_cons rfl ?z28 rfl ?v28 ?r28
                  (case z28 => decide +kernel)
                  case v28 =>
                    refine' Mi.cv_tup ?l29 ?s29 ?h29
                    (case l29 => k_is)
                    (case s29 => decide)
                    case h29 =>
                      refine' Mi.cvs_cons ?v30 ?r30
                      case v30 =>
                        exact Mi.cv_int
                      case r30 =>
                        refine' Mi.cvs_cons ?v32 ?r32
                        case v32 =>
                          exact Mi.cv_int
                        case r32 =>
                          exact Mi.cvs_nil
                  case r28 =>
                    refine' Mi.ces_cons rfl ?z34 rfl ?v34 ?r34
                    (case z34 => decide +kernel)
                    case v34 =>
                      refine' Mi.cv_tup ?l35 ?s35 ?h35
                      (case l35 => k_is)
                      (case s35 => decide)
                      case h35 =>
                        refine' Mi.cvs_cons ?v36 ?r36
                        case v36 =>
                          exact Mi.cv_int
                        case r36 =>
                          refine' Mi.cvs_cons ?v38 ?r38
                          case v38 =>
                            exact Mi.cv_int
                          case r38 =>
                            exact Mi.cvs_nil
                    case r34 =>
                      refine' Mi.ces_cons rfl ?z40 rfl ?v40 ?r40
                      (case z40 => decide +kernel)
                      case v40 =>
                        refine' Mi.cv_tup ?l41 ?s41 ?h41
                        (case l41 => k_is)
                        (case s41 => decide)
                        case h41 =>
                          refine' Mi.cvs_cons ?v42 ?r42
                          case v42 =>
                            exact Mi.cv_int
                          case r42 =>
                            refine' Mi.cvs_cons ?v44 ?r44
                            case v44 =>
                              exact Mi.cv_int
                            case r44 =>
                              exact Mi.cvs_nil
                      case r40 =>
                        exact Mi.ces_nil
    have c_INNER_ok := by
      refine' (Mi.cst_of (w := w) (d := Mi.c_INNER) KX G ?a ?b : Mi.Cst _ w mg "INNER" _)
      (case a => k_is)
      case b =>
        unfold Mi.c_INNER
        refine' Mi.cv_dct ?l46 ?w46 ?h46
        (case l46 => k_is)
        (case w46 => decide)
        case h46 =>
          refine' Mi.ces_cons rfl ?z47 rfl ?v47 ?r47
          (case z47 => decide +kernel)
          case v47 =>
            exact Mi.cv_int
          case r47 =>
            refine' Mi.ces_cons rfl ?z49 rfl ?v49 ?r49
            (case z49 => decide +kernel)
            case v49 =>
              exact Mi.cv_int
            case r49 =>
              refine' Mi.ces_cons rfl ?z51 rfl ?v51 ?r51
              (case z51 => decide +kernel)
              case v51 =>
                exact Mi.cv_int
              case r51 =>
                refine' Mi.ces_cons rfl ?z53 rfl ?v53 ?r53
                (case z53 => decide +kernel)
                case v53 =>
                  exact Mi.cv_int
                case r53 =>
                  refine' Mi.ces_cons rfl ?z55 rfl ?v55 ?r55
                  (case z55 => decide +kernel)
                  case v55 =>
                    exact Mi.cv_int
                  case r55 =>
                    refine' Mi.ces_cons rfl ?z57 rfl ?v57 ?r57
                    (case z57 => decide +kernel)
                    case v57 =>
                      exact Mi.cv_int
                    case r57 =>
                      refine' Mi.ces_cons rfl ?z59 rfl ?v59 ?r59
                      (case z59 => decide +kernel)
                      case v59 =>
                        exact Mi.cv_int
                      case r59 =>
                        refine' Mi.ces_cons rfl ?z61 rfl ?v61 ?r61
                        (case z61 => decide +kernel)
                        case v61 =>
                          exact Mi.cv_int
                        case r61 =>
                          refine' Mi.ces_cons rfl ?z63 rfl ?v63 ?r63
                          (case z63 => decide +kernel)
                          case v63 =>
                            exact Mi.cv_int
                          case r63 =>
                            exact Mi.ces_nil
    have c_RULE_KINDS_ok := by
      refine' (Mi.cst_of (w := w) (d := Mi.c_RULE_KINDS) KX G ?a ?b : Mi.Cst _ w mg "RULE_KINDS" _)
      (case a => k_is)
      case b =>
        unfold Mi.c_RULE_KINDS
        refine' Mi.cv_dct ?l65 ?w65 ?h65
        (case l65 => k_is)
        (case w65 => decide)
        case h65 =>
          refine' Mi.ces_cons rfl ?z66 rfl ?v66 ?r66
          (case z66 => decide +kernel)
          case v66 =>
            refine' Mi.cv_tup ?l67 ?s67 ?h67
            (case l67 => k_is)
            (case s67 => decide)
            case h67 =>
              refine' Mi.cvs_cons ?v68 ?r68
              case v68 =>
                exact Mi.cv_str (by decide +kernel)
              case r68 =>
                refine' Mi.cvs_cons ?v70 ?r70
                case v70 =>
                  exact Mi.cv_str (by decide +kernel)
                case r70 =>
                  refine' Mi.cvs_cons ?v72 ?r72
                  case v72 =>
                    exact Mi.cv_str (by decide +kernel)
                  case r72 =>
                    exact Mi.cvs_nil
          case r66 =>
            refine' Mi.ces_cons rfl ?z74 rfl ?v74 ?r74
            (case z74 => decide +kernel)
            case v74 =>
              refine' Mi.cv_tup ?l75 ?s75 ?h75
              (case l75 => k_is)
              (case s75 => decide)
              case h75 =>
                refine' Mi.cvs_cons ?v76 ?r76
                case v76 =>
                  exact Mi.cv_str (by decide +kernel)
                case r76 =>
                  refine' Mi.cvs_cons ?v78 ?r78
                  case v78 =>
                    exact Mi.cv_str (by decide +kernel)
                  case r78 =>
                    exact Mi.cvs_nil
            case r74 =>
              refine' Mi.ces_cons rfl ?z80 rfl ?v80 ?r80
              (case z80 => decide +kernel)
              case v80 =>
                refine' Mi.cv_tup ?l81 ?s81 ?h81
                (case l81 => k_is)
                (case s81 => decide)
                case h81 =>
                  refine' Mi.cvs_cons ?v82 ?r82
                  case v82 =>
                    exact Mi.cv_str (by decide +kernel)
                  case r82 =>
                    exact Mi.cvs_nil
              case r80 =>
                refine' Mi.ces_cons rfl ?z84 rfl ?v84 ?r84
                (case z84 => decide +kernel)
                case v84 =>
                  refine' Mi.cv_tup ?l85 ?s85 ?h85
                  (case l85 => k_is)
                  (case s85 => decide)
                  case h85 =>
                    exact Mi.cvs_nil
                case r84 =>
                  refine' Mi.ces_cons rfl ?z86 rfl ?v86 ?r86
                  (case z86 => decide +kernel)
                  case v86 =>
                    refine' Mi.cv_tup ?l87 ?s87 ?h87
                    (case l87 => k_is)
                    (case s87 => decide)
                    case h87 =>
                      refine' Mi.cvs_cons ?v88 ?r88
                      case v88 =>
                        exact Mi.cv_str (by decide +kernel)
                      case r88 =>
                        refine' Mi.cvs_cons ?v90 ?r90
                        case v90 =>
                          exact Mi.cv_str (by decide +kernel)
                        case r90 =>
                          exact Mi.cvs_nil
                  case r86 =>
                    refine' Mi.ces_cons rfl ?z92 rfl ?v92 ?r92
                    (case z92 => decide +kernel)
                    case v92 =>
                      refine' Mi.cv_tup ?l93 ?s93 ?h93
                      (case l93 => k_is)
                      (case s93 => decide)
                      case h93 =>
                        exact Mi.cvs_nil
                    case r92 =>
                      refine' Mi.ces_cons rfl ?z94 rfl ?v94 ?r94
                      (case z94 => decide +kernel)
                      case v94 =>
                        refine' Mi.cv_tup ?l95 ?s95 ?h95
                        (case l95 => k_is)
                        (case s95 => decide)
                        case h95 =>
                          exact Mi.cvs_nil
                      case r94 =>
                        refine' Mi.ces_cons rfl ?z96 rfl ?v96 ?r96
                        (case z96 => decide +kernel)
                        case v96 =>
                          refine' Mi.cv_tup ?l97 ?s97 ?h97
                          (case l97 => k_is)
                          (case s97 => decide)
                          case h97 =>
                            exact Mi.cvs_nil
                        case r96 =>
                          refine' Mi.ces_cons rfl ?z98 rfl ?v98 ?r98
                          (case z98 => decide +kernel)
                          case v98 =>
                            refine' Mi.cv_tup ?l99 ?s99 ?h99
                            (case l99 => k_is)
                            (case s99 => decide)
                            case h99 =>
                              exact Mi.cvs_nil
                          case r98 =>
                            exact Mi.ces_nil
    have c_MOST_RULES_ok := by
      refine' (Mi.cst_of (w := w) (d := Mi.c_MOST_RULES) KX G ?a ?b : Mi.Cst _ w mg "MOST_RULES" _)
      (case a => k_is)
      case b =>
        unfold Mi.c_MOST_RULES
        exact Mi.cv_int
    refine' Mi.law_of (st := Mi.s_law) (N := ["_law_script", "_law_bag", "_law_signs", "_law_rules", "_law_many", "_law_k", "_law_parts", "_law_first", "_law_second", "_law_word"]) (k := 75) (mb := Mi.b_law) (m := Mi.m_law) KX G hmg ?a ?l ?c ?k (fun u => Mi.bn_law _ _ _ _ _ _ [u] rfl) Mi.sc_law ?body rfl Mi.law_math
    (case a => k_is)
    (case l => k_is)
    (case c => k_is)
    (case k => k_is)
    case body => exact fun base _ _ => Mi.chain d_made_of d_words_of d_word_at d_check_end d_numeral d_numerals d_row_lots d_strings d_list_told d_told_by d_told_at d_inner_rules d_joined d_own_words d_write_rule d_rule_at d_last_rule d_read_rule d__law_bag_of d__law_pick d__law_one_of d__law_mixed d__law_listed_of d__law_no_list d__law_same_tuple d__law_many_signs d__law_commas d__law_rule_words d__law_text_leaf d__law_text_rule d__law_written d__law_ends c_DIGITS_ok c_SIGNS_ok c_RANGES_ok c_INNER_ok c_RULE_KINDS_ok c_MOST_RULES_ok n_all n_len n_isinstance n_str n_int n_tuple n_range n_abs n_sum n_list n_bool n_sorted n_min n_max
