import PyProof.Rows.All
import HandS.ForMost
import HandS.Exc
import HandS.ExcCtx
import HandS.IsInst
import HandS.Strs
import HandS.StrMore
import HandS.WordsExc
import HandS.CallSlots
import HandS.ExcOwn
import HandS.Words
import HandS.Ends
import HandS.Comp
import HandS.Iter
import HandS.NoneIn
import HandS.Text
import HandS.Wide
import HandS.More
import PyProof.ListStr
import HandS.Conv
import HandS.TupAny
import KE.KExcSuper
import HandS.ExcInit
import HandS.ExcField
import HandS.ExcSuper
import KE.KExcIs
import PyProof.ReprRoads
import HandS.Style
import HandS.Replace
import PyProof.StrBlock2
import PyProof.Rows.StrRev
import HandS.DictComp
import HandS.ExcIs
import PyProof.TupleOfStr
import PyProof.StrLawsFirst
import HandS.TupMul
import HandS.Rev
import HandS.SortInts
import HandS.Hot
import HandS.HotCalls
import KE.SortData
import PySem.Challenge.RW_handcarried_k01_papers_and_lags
import PyProof.ReprBulk
section
set_option Elab.async false
set_option linter.all false
set_option maxRecDepth 100000
open PySem PySem.Spec PyProof.Rows L2
namespace Mi

/-! ## values, slots, results -/
inductive D where
  | non
  | bl (b : Bool)
  | int (i : Int)
  | str (s : List Nat)
  | tup (ds : List D)
  | lst (ds : List D)
  | loc (n : Nat)
  | dct (ks : List (List Nat)) (ds : List D)

/-- a shared object -/
inductive MO where
  | lst (ds : List D)
abbrev MH := List MO
/-- an exception of an own class: the class's name, its fields -/
structure Xc where
  cls : Str
  ks : List Str
  ds : List D
/-- a name's slot: nothing known, a value, a list that only this name holds -/
inductive Sl where
  | un
  | v (d : D)
  | own (ds : List D)
  | exc (x : Xc)
abbrev Ev := List Sl
/-- a result: a value, or a new list that nobody else holds -/
inductive R where
  | v (d : D)
  | own (ds : List D)
inductive Rs (α : Type) where
  | ok (a : α) (env : Ev) (h : MH)
  | err (x : Xc) (env : Ev) (h : MH)
  | no
def Rs.bind {α β : Type} (r : Rs α) (f : α → Ev → MH → Rs β) : Rs β := match r with
  | .ok a e h => f a e h
  | .err x e h => .err x e h
  | .no => .no
@[simp] theorem Rs.bind_ok {α β : Type} (a : α) (e : Ev) (h : MH) (f : α → Ev → MH → Rs β) : (Rs.ok a e h).bind f = f a e h := rfl
@[simp] theorem Rs.bind_err {α β : Type} (x : Xc) (e : Ev) (h : MH) (f : α → Ev → MH → Rs β) : (Rs.err x e h : Rs α).bind f = .err x e h := rfl
@[simp] theorem Rs.bind_no {α β : Type} (f : α → Ev → MH → Rs β) : (Rs.no : Rs α).bind f = .no := rfl

/-! ## ghosts: frozen addresses, the places of shared objects -/
structure Gh where
  Fz : Addr → Prop
  ρ : Nat → Addr
  top : Nat
def S (s : List Nat) : Str := ⟨s.toArray⟩
theorem S_inj {s t : List Nat} (h : S s = S t) : s = t := by
  unfold S at h
  injection h with h
  simpa using h
theorem S_list (s : List Nat) : (S s).cps.toList = s := by simp [S]
theorem S_of (x : Str) : S x.cps.toList = x := by simp [S]
theorem S_length (s : List Nat) : (S s).length = s.length := by simp [S, Str.length]

def KLst (K : PySem.W.Frag) (a : Addr) (xs : List V) : Prop :=
  ∃ (o : Obj) (its : Array Value) (n : Nat), K.lookup a = some o ∧ o.cls = .type "list" ∧ o.dict = none ∧ o.data = .seq its n ∧ its.size ≤ sizeLine ∧ Vals xs its.toList
def KTup (K : PySem.W.Frag) (a : Addr) (xs : List V) : Prop :=
  ∃ (o : Obj) (its : Array Value) (n : Nat), K.lookup a = some o ∧ o.cls = .type "tuple" ∧ o.data = .seq its n ∧ its.size ≤ sizeLine ∧ Vals xs its.toList
def LAt (K : PySem.W.Frag) (g : Gh) (H : Hp) (a : Addr) (xs : List V) : Prop := (g.Fz a ∧ Rd H a (.lst xs)) ∨ KLst K a xs
def TAt (K : PySem.W.Frag) (g : Gh) (H : Hp) (a : Addr) (xs : List V) : Prop := (g.Fz a ∧ Rd H a (.tup xs)) ∨ KTup K a xs
/-- a dict of the written part with text keys -/
def KDc (K : PySem.W.Frag) (w : World) (a : Addr) (ks : List (List Nat)) (vs : List V) : Prop :=
  ∃ es n, K.lookup a = some ⟨.type "dict", none, .dict es n, #[]⟩ ∧ PySem.W.KeysLit w.params es.toList ∧ (a == sysModules) = false ∧
    ∀ x : List Nat, match (ks.zip vs).lookup x with
      | some v => ∃ u, PySem.W.nsIn K a (S x) = some (some u) ∧ RelV v u
      | none => PySem.W.nsIn K a (S x) = some none
/-- a dict's entries -/
def kvK (ks : List (List Nat)) (vs : List V) : List (Key × V) := (ks.map fun k => (Sum.inr (S k) : Key)).zip vs
/-- a dict that is only read: of the written part, or made and frozen -/
def DAt (K : PySem.W.Frag) (w : World) (g : Gh) (H : Hp) (a : Addr) (ks : List (List Nat)) (vs : List V) : Prop := (KDc K w a ks vs ∧ ks ≠ []) ∨ (g.Fz a ∧ H a = some (.dK (kvK ks vs)))
section
variable (K : PySem.W.Frag) (w : World)
mutual
/-- the value v is the data d -/
def Rep (g : Gh) (H : Hp) : V → D → Prop
  | x, .non => x = .non
  | x, .bl b => x = .bl b
  | x, .int i => x = .int i
  | x, .str s => x = .str (S s)
  | x, .tup ds => ∃ a vs, x = .ref a ∧ TAt K g H a vs ∧ Reps g H vs ds
  | x, .lst ds => ∃ a vs, x = .ref a ∧ LAt K g H a vs ∧ Reps g H vs ds
  | x, .loc n => n < g.top ∧ x = .ref (g.ρ n)
  | x, .dct ks ds => ∃ a vs, x = .ref a ∧ DAt K w g H a ks vs ∧ Reps g H vs ds
def Reps (g : Gh) (H : Hp) : List V → List D → Prop
  | vs, [] => vs = []
  | vs, d :: ds => ∃ v r, vs = v :: r ∧ Rep g H v d ∧ Reps g H r ds
end
end
/-- frozen objects stand, shared ones keep their places -/
structure Step (g : Gh) (H : Hp) (g' : Gh) (H' : Hp) : Prop where
  fz : ∀ a, g.Fz a → g'.Fz a
  st : ∀ a, g.Fz a → H' a = H a
  top : g.top ≤ g'.top
  ρ : ∀ n, n < g.top → g'.ρ n = g.ρ n
theorem Step.refl (g : Gh) (H : Hp) : Step g H g H := ⟨fun _ h => h, fun _ _ => rfl, Nat.le_refl _, fun _ _ => rfl⟩
theorem Step.trans {g g1 g2 : Gh} {H H1 H2 : Hp} (a : Step g H g1 H1) (b : Step g1 H1 g2 H2) : Step g H g2 H2 :=
  ⟨fun x h => b.fz x (a.fz x h), fun x h => (b.st x (a.fz x h)).trans (a.st x h), Nat.le_trans a.top b.top, fun n h => (b.ρ n (Nat.lt_of_lt_of_le h a.top)).trans (a.ρ n h)⟩
section
variable {K : PySem.W.Frag} {w : World} {g g' : Gh} {H H' : Hp}
theorem Rd.step (s : Step g H g' H') {a : Addr} {u : HO} (f : g.Fz a) (r : Rd H a u) : Rd H' a u := by
  unfold Rd at *
  rw [s.st a f]
  exact r
theorem LAt.step (s : Step g H g' H') {a : Addr} {xs : List V} (h : LAt K g H a xs) : LAt K g' H' a xs := by
  rcases h with ⟨f, r⟩ | h
  · exact .inl ⟨s.fz a f, Rd.step s f r⟩
  · exact .inr h
theorem TAt.step (s : Step g H g' H') {a : Addr} {xs : List V} (h : TAt K g H a xs) : TAt K g' H' a xs := by
  rcases h with ⟨f, r⟩ | h
  · exact .inl ⟨s.fz a f, Rd.step s f r⟩
  · exact .inr h
theorem DAt.step (s : Step g H g' H') {a : Addr} {ks : List (List Nat)} {xs : List V} (h : DAt K w g H a ks xs) : DAt K w g' H' a ks xs := by
  rcases h with h | ⟨f, r⟩
  · exact .inl h
  · exact .inr ⟨s.fz a f, by rw [s.st a f]; exact r⟩
theorem LAt.sq {a : Addr} {xs : List V} (h : LAt K g H a xs) : SqL K H a xs := by
  rcases h with ⟨_, r⟩ | h
  · exact .inl r
  · exact .inr h
theorem TAt.sq {a : Addr} {xs : List V} (h : TAt K g H a xs) : SqT K H a xs := by
  rcases h with ⟨_, r⟩ | h
  · exact .inl r
  · exact .inr h
mutual
theorem Rep.step (s : Step g H g' H') : ∀ (d : D) {x : V}, Rep K w g H x d → Rep K w g' H' x d
  | .non, _, h => by simpa [Rep] using h
  | .bl _, _, h => by simpa [Rep] using h
  | .int _, _, h => by simpa [Rep] using h
  | .str _, _, h => by simpa [Rep] using h
  | .tup ds, _, h => by
    simp only [Rep] at h ⊢
    obtain ⟨a, vs, e, t, r⟩ := h
    exact ⟨a, vs, e, t.step s, Reps.step s ds r⟩
  | .lst ds, _, h => by
    simp only [Rep] at h ⊢
    obtain ⟨a, vs, e, t, r⟩ := h
    exact ⟨a, vs, e, t.step s, Reps.step s ds r⟩
  | .loc n, _, h => by
    simp only [Rep] at h ⊢
    exact ⟨Nat.lt_of_lt_of_le h.1 s.top, by rw [s.ρ n h.1]; exact h.2⟩
  | .dct ks ds, _, h => by
    simp only [Rep] at h ⊢
    obtain ⟨a, vs, e, t, r⟩ := h
    exact ⟨a, vs, e, t.step s, Reps.step s ds r⟩
theorem Reps.step (s : Step g H g' H') : ∀ (ds : List D) {vs : List V}, Reps K w g H vs ds → Reps K w g' H' vs ds
  | [], _, h => by simpa [Reps] using h
  | d :: ds, _, h => by
    simp only [Reps] at h ⊢
    obtain ⟨v, r, e, h1, h2⟩ := h
    exact ⟨v, r, e, Rep.step s d h1, Reps.step s ds h2⟩
end
theorem Reps.nil : Reps K w g H [] [] := by simp [Reps]
theorem Reps.cons {v : V} {d : D} {vs : List V} {ds : List D} (h : Rep K w g H v d) (t : Reps K w g H vs ds) : Reps K w g H (v :: vs) (d :: ds) := by
  simp only [Reps]
  exact ⟨v, vs, rfl, h, t⟩
theorem Reps.nil_iff {vs : List V} : Reps K w g H vs [] ↔ vs = [] := by simp [Reps]
theorem Reps.cons_iff {vs : List V} {d : D} {ds : List D} : Reps K w g H vs (d :: ds) ↔ ∃ v r, vs = v :: r ∧ Rep K w g H v d ∧ Reps K w g H r ds := by simp only [Reps]
theorem Reps.length : ∀ {ds : List D} {vs : List V}, Reps K w g H vs ds → vs.length = ds.length
  | [], _, h => by rw [Reps.nil_iff] at h; rw [h]; rfl
  | d :: ds, _, h => by
    rw [Reps.cons_iff] at h
    obtain ⟨v, r, rfl, _, t⟩ := h
    rw [List.length_cons, List.length_cons, Reps.length t]
theorem Reps.get : ∀ {ds : List D} {vs : List V} {i : Nat} {v : V}, Reps K w g H vs ds → vs[i]? = some v → ∃ d, ds[i]? = some d ∧ Rep K w g H v d
  | [], _, _, _, h, e => by rw [Reps.nil_iff] at h; rw [h] at e; simp at e
  | d :: ds, _, i, v, h, e => by
    rw [Reps.cons_iff] at h
    obtain ⟨v0, r, rfl, h1, t⟩ := h
    cases i with
    | zero => simp at e; subst e; exact ⟨d, by simp, h1⟩
    | succ i =>
      obtain ⟨d', e1, e2⟩ := Reps.get (i := i) t (by simpa using e)
      exact ⟨d', by simpa using e1, e2⟩
theorem Reps.get' {ds : List D} {vs : List V} {i : Nat} {d : D} (h : Reps K w g H vs ds) (e : ds[i]? = some d) : ∃ v, vs[i]? = some v ∧ Rep K w g H v d := by
  have hl := h.length
  have hi : i < ds.length := (List.getElem?_eq_some_iff.mp e).1
  have hi2 : i < vs.length := by omega
  obtain ⟨d', e1, r⟩ := h.get (List.getElem?_eq_getElem hi2)
  rw [e] at e1
  cases e1
  exact ⟨_, List.getElem?_eq_getElem hi2, r⟩
theorem Reps.append : ∀ {ds es : List D} {vs us : List V}, Reps K w g H vs ds → Reps K w g H us es → Reps K w g H (vs ++ us) (ds ++ es)
  | [], _, _, _, h, t => by rw [Reps.nil_iff] at h; rw [h]; simpa using t
  | d :: ds, _, _, _, h, t => by
    rw [Reps.cons_iff] at h
    obtain ⟨v, r, rfl, h1, h2⟩ := h
    exact Reps.cons h1 (Reps.append h2 t)
theorem Reps.of_get : ∀ {ds : List D} {vs : List V}, vs.length = ds.length → (∀ (i : Nat) (v : V) (d : D), vs[i]? = some v → ds[i]? = some d → Rep K w g H v d) → Reps K w g H vs ds
  | [], vs, hl, _ => by
    have : vs = [] := List.length_eq_zero_iff.mp (by simpa using hl)
    rw [this]; exact Reps.nil
  | d :: ds, [], hl, _ => by simp at hl
  | d :: ds, v :: vs, hl, hg => Reps.cons (hg 0 v d (by simp) (by simp)) (Reps.of_get (by simpa using hl) fun i v' d' e1 e2 => hg (i + 1) v' d' (by simpa using e1) (by simpa using e2))
theorem Reps.take {ds : List D} {vs : List V} (n : Nat) (h : Reps K w g H vs ds) : Reps K w g H (vs.take n) (ds.take n) := by
  refine Reps.of_get (by rw [List.length_take, List.length_take, h.length]) fun i v d e1 e2 => ?_
  rw [List.getElem?_take] at e1 e2
  split at e1
  · rename_i hn
    rw [if_pos hn] at e2
    obtain ⟨d', e3, r⟩ := h.get e1
    rw [e2] at e3; cases e3; exact r
  · cases e1
theorem Reps.drop {ds : List D} {vs : List V} (n : Nat) (h : Reps K w g H vs ds) : Reps K w g H (vs.drop n) (ds.drop n) := by
  refine Reps.of_get (by rw [List.length_drop, List.length_drop, h.length]) fun i v d e1 e2 => ?_
  rw [List.getElem?_drop] at e1 e2
  obtain ⟨d', e3, r⟩ := h.get e1
  rw [e2] at e3; cases e3; exact r
theorem Reps.set {ds : List D} {vs : List V} (n : Nat) {v : V} {d : D} (h : Reps K w g H vs ds) (r : Rep K w g H v d) : Reps K w g H (vs.set n v) (ds.set n d) := by
  have hl := h.length
  refine Reps.of_get (by rw [List.length_set, List.length_set, hl]) fun i v' d' e1 e2 => ?_
  rw [List.getElem?_set] at e1 e2
  by_cases hn : n = i
  · rw [if_pos hn] at e1 e2
    by_cases hi : n < ds.length
    · rw [if_pos (by omega)] at e1
      rw [if_pos (by omega)] at e2
      cases e1; cases e2; exact r
    · rw [if_neg (by omega)] at e1
      cases e1
  · rw [if_neg hn] at e1 e2
    obtain ⟨d2, e3, r2⟩ := h.get e1
    rw [e2] at e3; cases e3; exact r2
theorem Reps.eraseIdx {ds : List D} {vs : List V} (n : Nat) (h : Reps K w g H vs ds) : Reps K w g H (vs.eraseIdx n) (ds.eraseIdx n) := by
  rw [List.eraseIdx_eq_take_drop_succ, List.eraseIdx_eq_take_drop_succ]
  exact (h.take n).append (h.drop (n + 1))
theorem Reps.reverse : ∀ {ds : List D} {vs : List V}, Reps K w g H vs ds → Reps K w g H vs.reverse ds.reverse
  | [], _, h => by rw [Reps.nil_iff] at h; rw [h]; exact Reps.nil
  | d :: ds, _, h => by
    rw [Reps.cons_iff] at h
    obtain ⟨v, r, rfl, h1, h2⟩ := h
    rw [List.reverse_cons, List.reverse_cons]
    exact (Reps.reverse h2).append (Reps.cons h1 Reps.nil)
end

/-! ## the state of a frame -/
section
variable (K : PySem.W.Frag) (w : World)
def ORep (g : Gh) (H : Hp) (a : Addr) : MO → Prop
  | .lst ds => ∃ vs, H a = some (.lst vs) ∧ Reps K w g H vs ds
/-- a list at a that only one holds; Hk: the heap at the entry -/
structure OwnAt (Hk : Hp) (g : Gh) (H : Hp) (a : Addr) (ds : List D) : Prop where
  at_ : ∃ vs, H a = some (.lst vs) ∧ Reps K w g H vs ds
  nf : ¬ g.Fz a
  nρ : ∀ n, n < g.top → g.ρ n ≠ a
  nk : Hk a = none
/-- the shared objects -/
structure HAt (h : MH) (g : Gh) (H : Hp) : Prop where
  top : g.top = h.length
  fz : ∀ a, g.Fz a → H a ≠ none
  obj : ∀ n o, h[n]? = some o → ORep K w g H (g.ρ n) o ∧ ¬ g.Fz (g.ρ n)
  inj : ∀ n m, n < g.top → m < g.top → g.ρ n = g.ρ m → n = m
end
/-- from gk, Hk to g, H: nothing that stood is changed but shared objects -/
structure FStep (gk : Gh) (Hk : Hp) (g : Gh) (H : Hp) : Prop extends Step gk Hk g H where
  keep : ∀ a o, Hk a = some o → (∀ n, n < gk.top → gk.ρ n ≠ a) → H a = some o
  newρ : ∀ n, gk.top ≤ n → n < g.top → Hk (g.ρ n) = none
  newF : ∀ a, g.Fz a → gk.Fz a ∨ Hk a = none
section
variable (K : PySem.W.Frag) (w : World) (mg : Str → Option Value)
/-- at a: the exception x, frozen -/
def ExAt (g : Gh) (H : Hp) (a : Addr) (x : Xc) : Prop := g.Fz a ∧ ∃ (oe : Obj) (C dx : Addr) (vs : List V),
  H a = some (.frz oe (.own a)) ∧ oe.cls = .ref C ∧ oe.dict = some dx ∧ (∃ us, oe.data = .fields us) ∧ mg x.cls = some (.ref C) ∧ g.Fz dx ∧ H dx = some (.xd (x.ks.zip vs)) ∧ Reps K w g H vs x.ds
/-- Hk, gk: the heap and the ghosts at the entry -/
structure At (Hk : Hp) (gk : Gh) (σ : L2.St) (env : Ev) (h : MH) (g : Gh) (H : Hp) : Prop where
  hat : HAt K w h g H
  fs : FStep gk Hk g H
  len : env.length = σ.length
  val : ∀ (i : Nat) (d : D), env[i]? = some (.v d) → ∃ x, σ[i]? = some (some x) ∧ Rep K w g H x d
  own : ∀ (i : Nat) (ds : List D), env[i]? = some (.own ds) → ∃ a, σ[i]? = some (some (.ref a)) ∧ OwnAt K w Hk g H a ds
  dist : ∀ (i j : Nat) (ds es : List D) (a : Addr), env[i]? = some (.own ds) → env[j]? = some (.own es) → σ[i]? = some (some (.ref a)) → σ[j]? = some (some (.ref a)) → i = j
  exc : ∀ (i : Nat) (x : Xc), env[i]? = some (.exc x) → ∃ a, σ[i]? = some (some (.ref a)) ∧ ExAt K w mg g H a x
end
section
variable (K : PySem.W.Frag) (w : World)
/-- a result's value -/
def RR (Hk : Hp) (σ : L2.St) (env : Ev) (g : Gh) (H : Hp) (x : V) : R → Prop
  | .v d => Rep K w g H x d
  | .own ds => ∃ a, x = .ref a ∧ OwnAt K w Hk g H a ds ∧ ∀ (i : Nat) (es : List D), env[i]? = some (.own es) → σ[i]? ≠ some (some (.ref a))
/-- an exception's -/
def XR (mg : Str → Option Value) (g : Gh) (H : Hp) (x : Xc) (cls : Value) (d : Option Addr) : Prop :=
  mg x.cls = some cls ∧ ∃ dx vs, d = some dx ∧ g.Fz dx ∧ H dx = some (.xd (x.ks.zip vs)) ∧ Reps K w g H vs x.ds
/-- what is to hold behind -/
def post {α : Type} (mg : Str → Option Value) (W : WX) (Hk : Hp) (gk : Gh) (σ : L2.St) (g : Gh) (H : Hp) (r : Rs α) (C : α → Ev → MH → Gh → Hp → Prop) : Prop := match r with
  | .ok a env' h' => ∀ g' H', Step g H g' H' → At K w mg Hk gk σ env' h' g' H' → C a env' h' g' H'
  | .err x env' h' => ∀ g' H' cls d, Step g H g' H' → At K w mg Hk gk σ env' h' g' H' → XR K w mg g' H' x cls d → W cls d σ H'
  | .no => False
end
section
variable {K : PySem.W.Frag} {w : World} {mg : Str → Option Value} {W : WX} {Hk : Hp} {gk : Gh} {σ : L2.St} {g g1 g' : Gh} {H H1 H' : Hp} {env : Ev} {h h' : MH}
theorem post.step {α : Type} {r : Rs α} {C : α → Ev → MH → Gh → Hp → Prop} (s : Step g H g1 H1) (p : post K w mg W Hk gk σ g H r C) : post K w mg W Hk gk σ g1 H1 r C := by
  cases r with
  | ok a e h => exact fun g' H' s' x => p g' H' (s.trans s') x
  | err x e h => exact fun g' H' c d s' a q => p g' H' c d (s.trans s') a q
  | no => exact p
theorem post.bind {α β : Type} {r : Rs α} {f : α → Ev → MH → Rs β} {C : β → Ev → MH → Gh → Hp → Prop} (p : post K w mg W Hk gk σ g H (r.bind f) C) :
    post K w mg W Hk gk σ g H r (fun a e h g' H' => post K w mg W Hk gk σ g' H' (f a e h) C) := by
  cases r with
  | ok a e h => exact fun g' H' s' _ => post.step s' p
  | err x e h => exact p
  | no => exact p
theorem post.imp {α : Type} {r : Rs α} {C C' : α → Ev → MH → Gh → Hp → Prop} (p : post K w mg W Hk gk σ g H r C) (h : ∀ a e h' g' H', Step g H g' H' → At K w mg Hk gk σ e h' g' H' → C a e h' g' H' → C' a e h' g' H') : post K w mg W Hk gk σ g H r C' := by
  cases r with
  | ok a e h' => exact fun g' H' s' q => h a e h' g' H' s' q (p g' H' s' q)
  | err x e h => exact p
  | no => exact p
theorem ORep.ne {a : Addr} {o : MO} (h : ORep K w g H a o) : H a ≠ none := by
  cases o with
  | lst ds => obtain ⟨vs, h1, _⟩ := h; rw [h1]; exact fun z => nomatch z
theorem ORep.step (s : Step g H g' H') {a : Addr} {o : MO} (e : ∀ u, H a = some u → H' a = some u) (h : ORep K w g H a o) : ORep K w g' H' a o := by
  cases o with
  | lst ds =>
    obtain ⟨vs, h1, h2⟩ := h
    exact ⟨vs, e _ h1, h2.step s⟩
theorem HAt.ρsome (x : HAt K w h g H) {n : Nat} (hn : n < g.top) : H (g.ρ n) ≠ none := by
  have hl : n < h.length := by rw [← x.top]; exact hn
  exact (x.obj n _ (List.getElem?_eq_getElem hl)).1.ne
theorem FStep.refl (x : HAt K w h g H) : FStep g H g H := ⟨Step.refl g H, fun _ _ e _ => e, fun n h1 h2 => absurd h2 (Nat.not_lt_of_le h1), fun _ f => .inl f⟩
/-- where the heap at the entry had something, there is something -/
theorem FStep.back (s : FStep gk Hk g H) (x : HAt K w h g H) {a : Addr} (e : H a = none) : Hk a = none := by
  cases q : Hk a with
  | none => rfl
  | some o =>
    by_cases hn : ∃ n, n < gk.top ∧ gk.ρ n = a
    · obtain ⟨n, hn, e2⟩ := hn
      have := x.ρsome (Nat.lt_of_lt_of_le hn s.top)
      rw [s.ρ n hn, e2] at this
      exact absurd e this
    · have := s.keep a o q fun n hn' e' => hn ⟨n, hn', e'⟩
      rw [this] at e; cases e
theorem FStep.trans (s : FStep gk Hk g H) (x : HAt K w h g H) (t : FStep g H g' H') : FStep gk Hk g' H' where
  toStep := s.toStep.trans t.toStep
  keep := fun a o e n => t.keep a o (s.keep a o e n) fun m hm q => by
    by_cases hk : m < gk.top
    · exact n m hk (by rw [← s.ρ m hk]; exact q)
    · have := s.newρ m (Nat.le_of_not_lt hk) hm
      rw [q, e] at this; cases this
  newρ := fun n h1 h2 => by
    by_cases hk : n < g.top
    · rw [t.ρ n hk]; exact s.newρ n h1 hk
    · exact s.back x (t.newρ n (Nat.le_of_not_lt hk) h2)
  newF := fun a f => by
    rcases t.newF a f with f | f
    · exact s.newF a f
    · exact .inr (s.back x f)
theorem OwnAt.fstep {a : Addr} {ds : List D} (o : OwnAt K w Hk g H a ds) (t : FStep g H g' H') : OwnAt K w Hk g' H' a ds := by
  obtain ⟨⟨vs, h3, h4⟩, nf, nρ, nk⟩ := o
  refine ⟨⟨vs, t.keep _ _ h3 nρ, h4.step t.toStep⟩, fun f => ?_, fun n hn q => ?_, nk⟩
  · rcases t.newF _ f with f | f
    · exact nf f
    · rw [h3] at f; cases f
  · by_cases hk : n < g.top
    · rw [t.ρ n hk] at q; exact nρ n hk q
    · have := t.newρ n (Nat.le_of_not_lt hk) hn
      rw [q, h3] at this; cases this
theorem ExAt.step {K : PySem.W.Frag} {w : World} {mg : Str → Option Value} {g g' : Gh} {H H' : Hp} (s : Step g H g' H') {a : Addr} {x : Xc} (h : ExAt K w mg g H a x) : ExAt K w mg g' H' a x := by
  obtain ⟨f, oe, C, dx, vs, h1, h2, h3, h4, h5, h6, h7, h8⟩ := h
  exact ⟨s.fz a f, oe, C, dx, vs, by rw [s.st a f]; exact h1, h2, h3, h4, h5, s.fz dx h6, by rw [s.st dx h6]; exact h7, h8.step s⟩
theorem At.fstep (a : At K w mg Hk gk σ env h g H) (t : FStep g H g' H') (x : HAt K w h' g' H') : At K w mg Hk gk σ env h' g' H' where
  hat := x
  fs := a.fs.trans a.hat t
  len := a.len
  val := fun i d e => by
    obtain ⟨x, h1, h2⟩ := a.val i d e
    exact ⟨x, h1, h2.step t.toStep⟩
  own := fun i ds e => by
    obtain ⟨x, h1, h2⟩ := a.own i ds e
    exact ⟨x, h1, h2.fstep t⟩
  dist := a.dist
  exc := fun i x e => (a.exc i x e).imp fun _ q => ⟨q.1, q.2.step t.toStep⟩
/-- nothing but new objects: all that stood stands -/
structure Grow (g : Gh) (H : Hp) (g' : Gh) (H' : Hp) : Prop where
  ext : ∀ a o, H a = some o → H' a = some o
  fz : ∀ a, g.Fz a → g'.Fz a
  fn : ∀ a, g'.Fz a → g.Fz a ∨ H a = none
  fh : ∀ a, g'.Fz a → H' a ≠ none
  ρ : g'.ρ = g.ρ
  top : g'.top = g.top
theorem Grow.refl (x : HAt K w h g H) : Grow g H g H := ⟨fun _ _ e => e, fun _ h => h, fun _ h => .inl h, x.fz, rfl, rfl⟩
theorem Grow.fstep (gr : Grow g H g' H') (x : HAt K w h g H) : FStep g H g' H' where
  fz := gr.fz
  st := fun a f => by
    cases e : H a with
    | none => exact absurd e (x.fz a f)
    | some o => rw [gr.ext a o e]
  top := by rw [gr.top]; exact Nat.le_refl _
  ρ := fun n _ => by rw [gr.ρ]
  keep := fun a o e _ => gr.ext a o e
  newρ := fun n h1 h2 => by rw [gr.top] at h2; exact absurd h2 (Nat.not_lt_of_le h1)
  newF := gr.fn
theorem Grow.hat (gr : Grow g H g' H') (x : HAt K w h g H) : HAt K w h g' H' where
  top := gr.top.trans x.top
  fz := gr.fh
  obj := fun n o e => by
    obtain ⟨h1, h2⟩ := x.obj n o e
    refine ⟨by rw [gr.ρ]; exact ORep.step (gr.fstep x).toStep (fun u q => gr.ext _ u q) h1, fun f => ?_⟩
    rw [gr.ρ] at f
    rcases gr.fn _ f with f | f
    · exact h2 f
    · exact h1.ne f
  inj := by rw [gr.ρ, gr.top]; exact x.inj
theorem Grow.at (gr : Grow g H g' H') (a : At K w mg Hk gk σ env h g H) : At K w mg Hk gk σ env h g' H' := a.fstep (gr.fstep a.hat) (gr.hat a.hat)
theorem Grow.trans {g2 : Gh} {H2 : Hp} (a : Grow g H g' H') (b : Grow g' H' g2 H2) : Grow g H g2 H2 where
  ext := fun x o e => b.ext x o (a.ext x o e)
  fz := fun x f => b.fz x (a.fz x f)
  fn := fun x f => by
    rcases b.fn x f with f | f
    · exact a.fn x f
    · cases e : H x with
      | none => exact .inr rfl
      | some o => rw [a.ext x o e] at f; cases f
  fh := b.fh
  ρ := b.ρ.trans a.ρ
  top := b.top.trans a.top
/-- g with the address x frozen -/
def Gh.fr (g : Gh) (x : Addr) : Gh := ⟨fun b => g.Fz b ∨ b = x, g.ρ, g.top⟩
/-- a new object that is frozen at once -/
theorem grow_fr (x : HAt K w h g H) {p : Addr} {o : HO} (n : H p = none) : Grow g H (g.fr p) (upd H p o) where
  ext := fun a u e => by rw [upd_ne (ne_of_none e n)]; exact e
  fz := fun a f => .inl f
  fn := fun a f => by
    rcases f with f | rfl
    · exact .inl f
    · exact .inr n
  fh := fun a f => by
    rcases f with f | rfl
    · by_cases e : a = p
      · subst e; rw [upd_same]; exact fun z => nomatch z
      · rw [upd_ne e]; exact x.fz a f
    · rw [upd_same]; exact fun z => nomatch z
  ρ := rfl
  top := rfl
/-- a new object that is not frozen -/
theorem grow_new (x : HAt K w h g H) {p : Addr} {o : HO} (n : H p = none) : Grow g H g (upd H p o) where
  ext := fun a u e => by rw [upd_ne (ne_of_none e n)]; exact e
  fz := fun a f => f
  fn := fun a f => .inl f
  fh := fun a f => by
    by_cases e : a = p
    · subst e; rw [upd_same]; exact fun z => nomatch z
    · rw [upd_ne e]; exact x.fz a f
  ρ := rfl
  top := rfl
/-- an address where nothing was tracked belongs to nobody -/
theorem At.fresh (a : At K w mg Hk gk σ env h g H) {p : Addr} (n : H p = none) : Hk p = none ∧ (¬ g.Fz p) ∧ (∀ n, n < g.top → g.ρ n ≠ p) ∧ ∀ (i : Nat) (es : List D), env[i]? = some (.own es) → σ[i]? ≠ some (some (.ref p)) := by
  refine ⟨a.fs.back a.hat n, fun f => a.hat.fz p f n, fun m hm e => ?_, fun i es e q => ?_⟩
  · have := a.hat.ρsome hm
    rw [e] at this
    exact this n
  · obtain ⟨b, h1, h2⟩ := a.own i es e
    rw [q] at h1
    cases h1
    obtain ⟨vs, h3, _⟩ := h2.at_
    rw [n] at h3; cases h3
/-- what an operation hands back: data, or a list just made -/
def RN (K : PySem.W.Frag) (w : World) (H : Hp) (g' : Gh) (H' : Hp) (z : V) : R → Prop
  | .v d => Rep K w g' H' z d
  | .own ds => ∃ a vs, z = .ref a ∧ H a = none ∧ H' a = some (.lst vs) ∧ Reps K w g' H' vs ds ∧ ¬ g'.Fz a
theorem RN.rr {r : R} {z : V} (a : At K w mg Hk gk σ env h g H) (gr : Grow g H g' H') (q : RN K w H g' H' z r) : RR K w Hk σ env g' H' z r := by
  cases r with
  | v d => exact q
  | own ds =>
    obtain ⟨p, vs, e, n, e2, rs, nf⟩ := q
    obtain ⟨f1, f2, f3, f4⟩ := a.fresh n
    exact ⟨p, e, ⟨⟨vs, e2, rs⟩, nf, by rw [gr.ρ, gr.top]; exact f3, f1⟩, f4⟩

/-! ### slots -/
theorem At.unset (a : At K w mg Hk gk σ env h g H) (i : Nat) : At K w mg Hk gk σ (env.set i .un) h g H where
  hat := a.hat
  fs := a.fs
  len := by rw [List.length_set]; exact a.len
  val := fun j d e => by
    rw [List.getElem?_set] at e
    split at e
    · split at e <;> cases e
    · exact a.val j d e
  own := fun j d e => by
    rw [List.getElem?_set] at e
    split at e
    · split at e <;> cases e
    · exact a.own j d e
  dist := fun j k ds es b e1 e2 => by
    rw [List.getElem?_set] at e1 e2
    split at e1
    · split at e1 <;> cases e1
    · split at e2
      · split at e2 <;> cases e2
      · exact a.dist j k ds es b e1 e2
  exc := fun j x e => by
    rw [List.getElem?_set] at e
    split at e
    · split at e <;> cases e
    · exact a.exc j x e
theorem At.setv (a : At K w mg Hk gk σ env h g H) {i : Nat} {x : V} {d : D} (e : σ[i]? = some (some x)) (r : Rep K w g H x d) : At K w mg Hk gk σ (env.set i (.v d)) h g H where
  hat := a.hat
  fs := a.fs
  len := by rw [List.length_set]; exact a.len
  val := fun j d' e' => by
    rw [List.getElem?_set] at e'
    split at e'
    · rename_i hij
      subst hij
      split at e'
      · cases e'; exact ⟨x, e, r⟩
      · cases e'
    · exact a.val j d' e'
  own := fun j d e => by
    rw [List.getElem?_set] at e
    split at e
    · split at e <;> cases e
    · exact a.own j d e
  dist := fun j k ds es b e1 e2 => by
    rw [List.getElem?_set] at e1 e2
    split at e1
    · split at e1 <;> cases e1
    · split at e2
      · split at e2 <;> cases e2
      · exact a.dist j k ds es b e1 e2
  exc := fun j x e => by
    rw [List.getElem?_set] at e
    split at e
    · split at e <;> cases e
    · exact a.exc j x e
/-- a list that only one holds, frozen -/
theorem At.freeze (a : At K w mg Hk gk σ env h g H) {x : Addr} {ds : List D} (o : OwnAt K w Hk g H x ds) (n : ∀ (i : Nat) (es : List D), env[i]? = some (.own es) → σ[i]? ≠ some (some (.ref x))) :
    At K w mg Hk gk σ env h (g.fr x) H ∧ Step g H (g.fr x) H ∧ Rep K w (g.fr x) H (.ref x) (.lst ds) := by
  have s : Step g H (g.fr x) H := ⟨fun b f => .inl f, fun _ _ => rfl, Nat.le_refl _, fun _ _ => rfl⟩
  obtain ⟨vs, h3, h4⟩ := o.at_
  refine ⟨⟨⟨a.hat.top, fun b f => ?_, fun m ob e => ?_, a.hat.inj⟩, ⟨a.fs.toStep.trans s, a.fs.keep, a.fs.newρ, fun b f => ?_⟩, a.len, fun i d e => ?_, fun i es e => ?_, a.dist, fun i x e => (a.exc i x e).imp fun _ q => ⟨q.1, q.2.step s⟩⟩, s, ?_⟩
  · rcases f with f | rfl
    · exact a.hat.fz b f
    · rw [h3]; exact fun z => nomatch z
  · obtain ⟨h1, h2⟩ := a.hat.obj m ob e
    refine ⟨ORep.step s (fun _ q => q) h1, fun f => ?_⟩
    rcases f with f | f
    · exact h2 f
    · exact o.nρ m (by rw [a.hat.top]; exact (List.getElem?_eq_some_iff.mp e).1) f
  · rcases f with f | rfl
    · exact a.fs.newF b f
    · exact .inr o.nk
  · obtain ⟨y, h1, h2⟩ := a.val i d e
    exact ⟨y, h1, h2.step s⟩
  · obtain ⟨y, h1, h2⟩ := a.own i es e
    obtain ⟨us, h5, h6⟩ := h2.at_
    refine ⟨y, h1, ⟨us, h5, h6.step s⟩, fun f => ?_, h2.nρ, h2.nk⟩
    rcases f with f | f
    · exact h2.nf f
    · rw [f] at h1; exact n i es e h1
  · simp only [Rep]
    exact ⟨x, vs, rfl, .inl ⟨.inr rfl, .inl h3⟩, h4.step s⟩
/-- a name's own list frozen, the name holds it still -/
theorem At.freezeAt (a : At K w mg Hk gk σ env h g H) {i : Nat} {ds : List D} (e : env[i]? = some (.own ds)) :
    ∃ x, σ[i]? = some (some (.ref x)) ∧ At K w mg Hk gk σ (env.set i (.v (.lst ds))) h (g.fr x) H ∧ Step g H (g.fr x) H ∧ Rep K w (g.fr x) H (.ref x) (.lst ds) := by
  obtain ⟨x, h1, h2⟩ := a.own i ds e
  have hi : i < env.length := (List.getElem?_eq_some_iff.mp e).1
  obtain ⟨b1, b2, b3⟩ := (a.unset i).freeze h2 fun j es e' q => by
    rw [List.getElem?_set] at e'
    by_cases hij : i = j
    · rw [if_pos hij, if_pos hi] at e'; cases e'
    · rw [if_neg hij] at e'
      exact hij (a.dist i j ds es x e e' h1 q)
  refine ⟨x, h1, ?_, b2, b3⟩
  have := b1.setv h1 b3
  rw [List.set_set] at this
  exact this
def R.sl : R → Sl
  | .v d => .v d
  | .own ds => .own ds
/-- a name is stored -/
theorem At.asg (a : At K w mg Hk gk σ env h g H) {x : V} {r : R} (i : Nat) (q : RR K w Hk σ env g H x r) : At K w mg Hk gk (σ.set i (some x)) (env.set i r.sl) h g H where
  hat := a.hat
  fs := a.fs
  len := by rw [List.length_set, List.length_set]; exact a.len
  val := fun j d e => by
    rw [List.getElem?_set] at e ⊢
    by_cases hij : i = j
    · subst hij
      rw [if_pos rfl] at e ⊢
      by_cases hi : i < env.length
      · rw [if_pos hi] at e
        rw [if_pos (by rw [← a.len]; exact hi)]
        cases r with
        | v d' => cases e; exact ⟨x, rfl, q⟩
        | own ds => cases e
      · rw [if_neg hi] at e; cases e
    · rw [if_neg hij] at e ⊢
      exact a.val j d e
  own := fun j d e => by
    rw [List.getElem?_set] at e ⊢
    by_cases hij : i = j
    · subst hij
      rw [if_pos rfl] at e ⊢
      by_cases hi : i < env.length
      · rw [if_pos hi] at e
        rw [if_pos (by rw [← a.len]; exact hi)]
        cases r with
        | v d' => cases e
        | own ds =>
          cases e
          obtain ⟨p, rfl, o, _⟩ := q
          exact ⟨p, rfl, o⟩
      · rw [if_neg hi] at e; cases e
    · rw [if_neg hij] at e ⊢
      exact a.own j d e
  dist := fun j k ds es b e1 e2 e3 e4 => by
    rw [List.getElem?_set] at e1 e2 e3 e4
    by_cases hj : i = j
    · by_cases hk : i = k
      · exact hj.symm.trans hk
      · exfalso
        rw [if_pos hj] at e1 e3
        rw [if_neg hk] at e2 e4
        split at e1
        · split at e3
          · cases r with
            | v d' => cases e1
            | own ds' =>
              obtain ⟨p, rfl, o, n⟩ := q
              cases e3
              exact n k es e2 e4
          · cases e3
        · cases e1
    · by_cases hk : i = k
      · exfalso
        rw [if_neg hj] at e1 e3
        rw [if_pos hk] at e2 e4
        split at e2
        · split at e4
          · cases r with
            | v d' => cases e2
            | own ds' =>
              obtain ⟨p, rfl, o, n⟩ := q
              cases e4
              exact n j ds e1 e3
          · cases e4
        · cases e2
      · rw [if_neg hj] at e1 e3
        rw [if_neg hk] at e2 e4
        exact a.dist j k ds es b e1 e2 e3 e4
  exc := fun j y e => by
    rw [List.getElem?_set] at e ⊢
    by_cases hij : i = j
    · subst hij
      rw [if_pos rfl] at e ⊢
      by_cases hi : i < env.length
      · rw [if_pos hi] at e
        cases r <;> cases e
      · rw [if_neg hi] at e; cases e
    · rw [if_neg hij] at e ⊢
      exact a.exc j y e
/-- a name's own list is changed -/
theorem At.mut (a : At K w mg Hk gk σ env h g H) {i : Nat} {x : Addr} {ds es : List D} {us : List V} (e : env[i]? = some (.own ds)) (e2 : σ[i]? = some (some (.ref x))) (r : Reps K w g H us es) :
    At K w mg Hk gk σ (env.set i (.own es)) h g (upd H x (.lst us)) ∧ Step g H g (upd H x (.lst us)) := by
  obtain ⟨x', h1, h2⟩ := a.own i ds e
  rw [e2] at h1
  cases h1
  have hi : i < env.length := (List.getElem?_eq_some_iff.mp e).1
  have s : Step g H g (upd H x (.lst us)) := ⟨fun _ f => f, fun b f => upd_ne fun z => h2.nf (by rw [← z]; exact f), Nat.le_refl _, fun _ _ => rfl⟩
  refine ⟨⟨⟨a.hat.top, fun b f => ?_, fun m ob e' => ?_, a.hat.inj⟩, ⟨a.fs.toStep.trans s, fun b o e' n => ?_, a.fs.newρ, a.fs.newF⟩, by rw [List.length_set]; exact a.len, fun j d e' => ?_, fun j d e' => ?_, fun j k d1 d2 b e1 e3 => ?_, fun j y e' => by
    rw [List.getElem?_set] at e'
    by_cases hij : i = j
    · rw [if_pos hij, if_pos hi] at e'; cases e'
    · rw [if_neg hij] at e'
      exact (a.exc j y e').imp fun _ q => ⟨q.1, q.2.step s⟩⟩, s⟩
  · rw [upd_ne (show b ≠ x from fun z => h2.nf (by rw [← z]; exact f))]
    exact a.hat.fz b f
  · obtain ⟨h3, h4⟩ := a.hat.obj m ob e'
    have hm : g.ρ m ≠ x := h2.nρ m (by rw [a.hat.top]; exact (List.getElem?_eq_some_iff.mp e').1)
    exact ⟨ORep.step s (fun u q => by rw [upd_ne hm]; exact q) h3, h4⟩
  · rw [upd_ne (show b ≠ x from fun z => by rw [z, h2.nk] at e'; cases e')]
    exact a.fs.keep b o e' n
  · rw [List.getElem?_set] at e'
    by_cases hij : i = j
    · rw [if_pos hij, if_pos hi] at e'; cases e'
    · rw [if_neg hij] at e'
      obtain ⟨y, h5, h6⟩ := a.val j d e'
      exact ⟨y, h5, h6.step s⟩
  · rw [List.getElem?_set] at e'
    by_cases hij : i = j
    · rw [if_pos hij, if_pos hi] at e'
      cases e'
      subst hij
      exact ⟨x, e2, ⟨us, upd_same, r.step s⟩, h2.nf, h2.nρ, h2.nk⟩
    · rw [if_neg hij] at e'
      obtain ⟨y, h5, h6⟩ := a.own j d e'
      obtain ⟨ws, h7, h8⟩ := h6.at_
      have hy : y ≠ x := fun z => hij (a.dist i j ds d x e e' e2 (by rw [h5, z]))
      exact ⟨y, h5, ⟨ws, by rw [upd_ne hy]; exact h7, h8.step s⟩, h6.nf, h6.nρ, h6.nk⟩
  · have fix : ∀ (m : Nat) (dd : List D), (env.set i (.own es))[m]? = some (.own dd) → ∃ d', env[m]? = some (.own d') := fun m dd q => by
      rw [List.getElem?_set] at q
      by_cases hm : i = m
      · subst hm; exact ⟨ds, e⟩
      · rw [if_neg hm] at q; exact ⟨dd, q⟩
    obtain ⟨d1', q1⟩ := fix j d1 e1
    obtain ⟨d2', q2⟩ := fix k d2 e3
    exact a.dist j k d1' d2' b q1 q2
/-- a shared list is changed -/
theorem At.mutLoc (a : At K w mg Hk gk σ env h g H) {n : Nat} {ds es : List D} {us : List V} (e : h[n]? = some (.lst ds)) (r : Reps K w g H us es) :
    At K w mg Hk gk σ env (h.set n (.lst es)) g (upd H (g.ρ n) (.lst us)) ∧ Step g H g (upd H (g.ρ n) (.lst us)) := by
  have hn : n < h.length := (List.getElem?_eq_some_iff.mp e).1
  have hn' : n < g.top := by rw [a.hat.top]; exact hn
  obtain ⟨_, nf⟩ := a.hat.obj n _ e
  have s : Step g H g (upd H (g.ρ n) (.lst us)) := ⟨fun _ f => f, fun b f => upd_ne fun z => nf (by rw [← z]; exact f), Nat.le_refl _, fun _ _ => rfl⟩
  refine ⟨⟨⟨by rw [List.length_set]; exact a.hat.top, fun b f => ?_, fun m ob e' => ?_, a.hat.inj⟩, ⟨a.fs.toStep.trans s, fun b o e' q => ?_, a.fs.newρ, a.fs.newF⟩, a.len, fun j d e' => ?_, fun j d e' => ?_, a.dist, fun i x e => (a.exc i x e).imp fun _ q => ⟨q.1, q.2.step s⟩⟩, s⟩
  · rw [upd_ne (show b ≠ g.ρ n from fun z => nf (by rw [← z]; exact f))]
    exact a.hat.fz b f
  · rw [List.getElem?_set] at e'
    by_cases hm : n = m
    · rw [if_pos hm, if_pos hn] at e'
      cases e'
      subst hm
      exact ⟨⟨us, upd_same, r.step s⟩, nf⟩
    · rw [if_neg hm] at e'
      obtain ⟨h3, h4⟩ := a.hat.obj m ob e'
      have hml : m < g.top := by rw [a.hat.top]; exact (List.getElem?_eq_some_iff.mp e').1
      exact ⟨ORep.step s (fun u q => by rw [upd_ne fun z => hm (a.hat.inj _ _ hn' hml z.symm)]; exact q) h3, h4⟩
  · have : b ≠ g.ρ n := fun z => by
      by_cases hk : n < gk.top
      · exact q n hk (by rw [← a.fs.ρ n hk]; exact z.symm)
      · have := a.fs.newρ n (Nat.le_of_not_lt hk) hn'
        rw [← z, e'] at this; cases this
    rw [upd_ne this]
    exact a.fs.keep b o e' q
  · obtain ⟨y, h5, h6⟩ := a.val j d e'
    exact ⟨y, h5, h6.step s⟩
  · obtain ⟨y, h5, h6⟩ := a.own j d e'
    obtain ⟨ws, h7, h8⟩ := h6.at_
    exact ⟨y, h5, ⟨ws, by rw [upd_ne fun z => h6.nρ n hn' z.symm]; exact h7, h8.step s⟩, h6.nf, h6.nρ, h6.nk⟩
/-- a new shared list -/
theorem At.newLoc (a : At K w mg Hk gk σ env h g H) {p : Addr} {ds : List D} {us : List V} (n : H p = none) (r : Reps K w g H us ds) :
    ∃ g', g'.top = h.length + 1 ∧ g'.ρ h.length = p ∧ At K w mg Hk gk σ env (h ++ [.lst ds]) g' (upd H p (.lst us)) ∧ Step g H g' (upd H p (.lst us)) := by
  obtain ⟨f1, f2, f3, f4⟩ := a.fresh n
  have ht := a.hat.top
  refine ⟨⟨g.Fz, fun m => if m = h.length then p else g.ρ m, h.length + 1⟩, rfl, if_pos rfl, ?_⟩
  have hρ : ∀ m, m < g.top → (if m = h.length then p else g.ρ m) = g.ρ m := fun m hm => if_neg (by omega)
  have s : Step g H ⟨g.Fz, fun m => if m = h.length then p else g.ρ m, h.length + 1⟩ (upd H p (.lst us)) :=
    ⟨fun _ f => f, fun b f => upd_ne fun z => f2 (by rw [← z]; exact f), by show g.top ≤ h.length + 1; omega, fun m hm => hρ m hm⟩
  have kp : ∀ b u, H b = some u → upd H p (.lst us) b = some u := fun b u e => by rw [upd_ne (ne_of_none e n)]; exact e
  refine ⟨⟨⟨by rw [List.length_append]; rfl, fun b f => ?_, fun m ob e' => ?_, fun m k hm hk e' => ?_⟩, ⟨a.fs.toStep.trans s, fun b o e' q => kp b o (a.fs.keep b o e' q), fun m h1 h2 => ?_, fun b f => a.fs.newF b f⟩, a.len, fun j d e' => ?_, fun j d e' => ?_, a.dist, fun i x e => (a.exc i x e).imp fun _ q => ⟨q.1, q.2.step s⟩⟩, s⟩
  · rw [upd_ne (show b ≠ p from fun z => f2 (by rw [← z]; exact f))]; exact a.hat.fz b f
  · by_cases hm : m < h.length
    · rw [List.getElem?_append_left hm] at e'
      obtain ⟨h3, h4⟩ := a.hat.obj m ob e'
      have e2 := hρ m (by omega)
      show ORep K w _ _ (if m = h.length then p else g.ρ m) ob ∧ ¬ g.Fz (if m = h.length then p else g.ρ m)
      rw [e2]
      exact ⟨ORep.step s (fun u q => kp _ u q) h3, h4⟩
    · have hm2 : m = h.length := by
        have := (List.getElem?_eq_some_iff.mp e').1
        rw [List.length_append] at this
        simp at this
        omega
      subst hm2
      rw [List.getElem?_append_right (Nat.le_refl _)] at e'
      simp at e'
      subst e'
      show ORep K w _ _ (if h.length = h.length then p else g.ρ h.length) _ ∧ ¬ g.Fz (if h.length = h.length then p else g.ρ h.length)
      rw [if_pos rfl]
      exact ⟨⟨us, upd_same, r.step s⟩, f2⟩
  · have hm : m < h.length + 1 := hm
    have hk : k < h.length + 1 := hk
    have e' : (if m = h.length then p else g.ρ m) = (if k = h.length then p else g.ρ k) := e'
    by_cases h1 : m = h.length
    · by_cases h2 : k = h.length
      · omega
      · rw [if_pos h1, if_neg h2] at e'
        exact absurd e'.symm (f3 k (by omega))
    · by_cases h2 : k = h.length
      · rw [if_neg h1, if_pos h2] at e'
        exact absurd e' (f3 m (by omega))
      · rw [if_neg h1, if_neg h2] at e'
        exact a.hat.inj m k (by omega) (by omega) e'
  · have h2 : m < h.length + 1 := h2
    show Hk (if m = h.length then p else g.ρ m) = none
    by_cases h3 : m = h.length
    · rw [if_pos h3]; exact f1
    · rw [if_neg h3]; exact a.fs.newρ m h1 (by omega)
  · obtain ⟨y, h5, h6⟩ := a.val j d e'
    exact ⟨y, h5, h6.step s⟩
  · obtain ⟨y, h5, h6⟩ := a.own j d e'
    obtain ⟨ws, h7, h8⟩ := h6.at_
    refine ⟨y, h5, ⟨ws, kp _ _ h7, h8.step s⟩, h6.nf, fun m hm => ?_, h6.nk⟩
    have hm : m < h.length + 1 := hm
    show (if m = h.length then p else g.ρ m) ≠ y
    by_cases h3 : m = h.length
    · rw [if_pos h3]; exact fun z => by rw [← z, n] at h7; cases h7
    · rw [if_neg h3]; exact h6.nρ m (by omega)
end
end Mi
end
section
set_option Elab.async false
set_option linter.all false
set_option maxRecDepth 100000
open PySem PySem.Spec PyProof.Rows L2
namespace Mi

/-! ## judgements -/
structure Fr where
  P : Program
  w : World
  K : PySem.W.Frag
  mg : Str → Option Value
  base : Heap
  N : List Str
  sc : Scope
  k : Nat
  fn : Str → Bool
  /-- not within an except suite -/
  cm : Bool
/-- exceptions in flight whose context is None (L2N) -/
abbrev Takes (X : Cx) (W : WX) : Prop := L2N.Takes X W
theorem takes0 {X : Cx} : Takes X (fun _ _ _ _ => False) := fun _ _ ⟨_, _, _, _, _, _, _, _, _, _, _, _, _, _, _, _, w⟩ => w.elim
/-- an exception that may be handled while another one is made: its context is None -/
def HotO (oe : Obj) : Prop := ∃ vs, oe.data = .fields vs ∧ vs[2]? = some .none
/-- an exception is handled; it stands frozen in the heap at the entry -/
def HotX (X : Cx) : Prop := ∃ (a : Addr) (oe : Obj), X.A.handled = some (.ref a) ∧ X.H_0 a = some (.frz oe (.own a)) ∧ HotO oe
structure Good (F : Fr) (X : Cx) : Prop where
  prog : X.prog = F.P
  w : X.w = F.w
  K : X.K = F.K
  mg : X.mg = F.mg
  base : X.base = F.base
  N : X.N = F.N
  nd : X.N.Nodup
  sc : X.env.scope = F.sc
  kf : F.sc.kind = .function
  dp : X.A.depth + 3 * F.k + 5 < recursionLimit
  un : X.A.units + 16 * F.k + 200 < cLine
  hdn : F.cm = true → X.A.handled = none
  gds : X.A.guards = some []
  calm : F.cm = true → X.calm = true
  fn : ∀ x, F.fn x = true → X.fn x = true
  hot : F.cm = false → HotX X
theorem Good.room {F : Fr} {X : Cx} (gd : Good F X) (hcm : F.cm = true) : Room F.k X.A := ⟨gd.hdn hcm, gd.dp, gd.un⟩
theorem Good.units {F : Fr} {X : Cx} (gd : Good F X) : X.A.units + 64 < cLine := by have := gd.un; omega
abbrev ME := Ev → MH → Rs R
abbrev MV := Ev → MH → Rs D
abbrev MB := Ev → MH → Rs Bool
abbrev MA := Ev → MH → Rs (List D)
section
variable (X : Cx)
def uE (e : Expr) : TE := fun σ H Q => ∀ pins s, Inv X pins σ H s → wpAny (model X.prog X.w) X.A (eval e X.env) (EP X pins σ Q) X.xe s
def uT (e : Expr) : TT := fun σ H Q => ∀ pins s, Inv X pins σ H s → wpAny (model X.prog X.w) X.A (isTrue e X.env (eval e X.env)) (TP X pins σ Q) X.xe s
def uW (e : Expr) : TT := fun σ H Q => ∀ whole pins s, Inv X pins σ H s → wpAny (model X.prog X.w) X.A (isTrue e X.env whole) (TP X pins σ Q) X.xe s
def uA (es : List Expr) : TA := fun σ H Q => ∀ pos pins s, Inv X pins σ H s → wpAny (model X.prog X.w) X.A (spliced (backTo pos (starEach es X.env))) (AP X pins σ Q) X.xe s
def uS (st : Stmt) : TS := fun D σ H => ∀ pins s, Inv X pins σ H s → wpAny (model X.prog X.w) X.A (exec st X.env) (SP X pins D) X.xe s
def uSs (st : List Stmt) : TS := fun D σ H => ∀ pins s, Inv X pins σ H s → wpAny (model X.prog X.w) X.A (execs st X.env) (SP X pins D) X.xe s
def uOp (f : Value → Value → Sem Value) : R2 := fun x y H Q => ∀ pins s σ v u, Inv X pins σ H s → RelV x v → RelV y u → wpAny (model X.prog X.w) X.A (f v u) (EP X pins σ Q) X.xe s
def uUn (f : Value → Sem Value) : V → Hp → VK → Prop := fun x H Q => ∀ pins s σ v, Inv X pins σ H s → RelV x v → wpAny (model X.prog X.w) X.A (f v) (EP X pins σ Q) X.xe s
def uCl (f : Value) : List V → Hp → VK → Prop := fun xs H Q => ∀ pins s σ us, Inv X pins σ H s → Vals xs us → wpAny (model X.prog X.w) X.A (call f us) (EP X pins σ Q) X.xe s
def uMt (id : String) : V → List V → Hp → VK → Prop := fun x xs H Q => ∀ pins s σ v us, Inv X pins σ H s → RelV x v → Vals xs us → wpAny (model X.prog X.w) X.A (call (.builtin id) (v :: us)) (EP X pins σ Q) X.xe s
def uIx : R2 := fun x y H Q => ∀ (value slice : Expr) pins s σ v u, Inv X pins σ H s → RelV x v → RelV y u → subscripted slice false v u = operate [v, u] (getItem v u) → wpAny (model X.prog X.w) X.A (subscriptTail value slice v u) (EP X pins σ Q) X.xe s
variable {X}
theorem pe_u {e : Expr} : PE X e (uE X e) := ⟨fun pins s σ H Q I h => h pins s I⟩
theorem pt_u {e : Expr} : PT X e (uT X e) := ⟨fun pins s σ H Q I h => h pins s I⟩
theorem pw_u {e : Expr} : PW X e (uW X e) := ⟨fun whole pins s σ H Q I h => h whole pins s I⟩
theorem pa_u {es : List Expr} : PA X es (uA X es) := ⟨fun pos pins s σ H Q I h => h pos pins s I⟩
theorem ps_u {st : Stmt} : PS X st (uS X st) := ⟨fun pins s σ H D I h => h pins s I⟩
theorem pss_u {st : List Stmt} : PSs X st (uSs X st) := ⟨fun pins s σ H D I h => h pins s I⟩
theorem op_u {f : Value → Value → Sem Value} : OpR X f (uOp X f) := fun pins s σ H x y v u Q I rx ry h => h pins s σ v u I rx ry
theorem un_u {f : Value → Sem Value} : UnR X f (uUn X f) := fun pins s σ H x v Q I rx h => h pins s σ v I rx
theorem cl_u {f : Value} : CallR X f (uCl X f) := fun pins s σ H xs us Q I r h => h pins s σ us I r
theorem mt_u {id : String} : MtR X id (uMt X id) := fun pins s σ H x xs v us Q I rx r h => h pins s σ v us I rx r
theorem ix_u : IxR X (uIx X) := fun value slice pins s σ H x y v u Q I rx ry h e => h value slice pins s σ v u I rx ry e
theorem uE_of {e : Expr} {t : TE} (h : PE X e t) {σ : L2.St} {H : Hp} {Q : VK} (q : t σ H Q) : uE X e σ H Q := fun pins s I => h.run pins s σ H Q I q
theorem uT_of {e : Expr} {t : TT} (h : PT X e t) {σ : L2.St} {H : Hp} {Q : Bool → Hp → Prop} (q : t σ H Q) : uT X e σ H Q := fun pins s I => h.run pins s σ H Q I q
theorem uW_of {e : Expr} {t : TT} (h : PW X e t) {σ : L2.St} {H : Hp} {Q : Bool → Hp → Prop} (q : t σ H Q) : uW X e σ H Q := fun whole pins s I => h.run whole pins s σ H Q I q
theorem uA_of {es : List Expr} {t : TA} (h : PA X es t) {σ : L2.St} {H : Hp} {Q : List V → Hp → Prop} (q : t σ H Q) : uA X es σ H Q := fun pos pins s I => h.run pos pins s σ H Q I q
theorem uS_of {st : Stmt} {t : TS} (h : PS X st t) {σ : L2.St} {H : Hp} {D : Ends} (q : t D σ H) : uS X st D σ H := fun pins s I => h.run pins s σ H D I q
theorem uSs_of {st : List Stmt} {t : TS} (h : PSs X st t) {σ : L2.St} {H : Hp} {D : Ends} (q : t D σ H) : uSs X st D σ H := fun pins s I => h.run pins s σ H D I q
theorem uOp_of {f : Value → Value → Sem Value} {r : R2} (h : OpR X f r) {x y : V} {H : Hp} {Q : VK} (q : r x y H Q) : uOp X f x y H Q := fun pins s σ v u I rx ry => h pins s σ H x y v u Q I rx ry q
theorem uUn_of {f : Value → Sem Value} {r : V → Hp → VK → Prop} (h : UnR X f r) {x : V} {H : Hp} {Q : VK} (q : r x H Q) : uUn X f x H Q := fun pins s σ v I rx => h pins s σ H x v Q I rx q
theorem uCl_of {f : Value} {r : List V → Hp → VK → Prop} (h : CallR X f r) {xs : List V} {H : Hp} {Q : VK} (q : r xs H Q) : uCl X f xs H Q := fun pins s σ us I r' => h pins s σ H xs us Q I r' q
theorem uMt_of {id : String} {r : V → List V → Hp → VK → Prop} (h : MtR X id r) {x : V} {xs : List V} {H : Hp} {Q : VK} (q : r x xs H Q) : uMt X id x xs H Q := fun pins s σ v us I rx r' => h pins s σ H x xs v us Q I rx r' q
theorem uIx_of {r : R2} (h : IxR X r) {x y : V} {H : Hp} {Q : VK} (q : r x y H Q) : uIx X x y H Q := fun value slice pins s σ v u I rx ry e => h value slice pins s σ H x y v u Q I rx ry q e
end
def R.d : R → D
  | .v d => d
  | .own ds => .lst ds
def fz (m : ME) : MV := fun env h => (m env h).bind fun r env h => .ok r.d env h
section
variable (F : Fr)
def SE (e : Expr) (m : ME) : Prop := ∀ X W, Good F X → Takes X W → ∀ Hk gk σ env h g H (Q : VK), At X.K X.w X.mg Hk gk σ env h g H →
  post X.K X.w X.mg W Hk gk σ g H (m env h) (fun r env' _ g' H' => ∀ x, RR X.K X.w Hk σ env' g' H' x r → Q x H') → uE X e σ H Q
def SV (e : Expr) (m : MV) : Prop := ∀ X W, Good F X → Takes X W → ∀ Hk gk σ env h g H (Q : VK), At X.K X.w X.mg Hk gk σ env h g H →
  post X.K X.w X.mg W Hk gk σ g H (m env h) (fun d _ _ g' H' => ∀ x, Rep X.K X.w g' H' x d → Q x H') → uE X e σ H Q
def SB (e : Expr) (m : MB) : Prop := ∀ X W, Good F X → Takes X W → ∀ Hk gk σ env h g H (Q : Bool → Hp → Prop), At X.K X.w X.mg Hk gk σ env h g H →
  post X.K X.w X.mg W Hk gk σ g H (m env h) (fun b _ _ _ H' => Q b H') → uT X e σ H Q
def SW (e : Expr) (m : MB) : Prop := ∀ X W, Good F X → Takes X W → ∀ Hk gk σ env h g H (Q : Bool → Hp → Prop), At X.K X.w X.mg Hk gk σ env h g H →
  post X.K X.w X.mg W Hk gk σ g H (m env h) (fun b _ _ _ H' => Q b H') → uW X e σ H Q
structure SA (es : List Expr) (m : MA) : Prop where
  run : ∀ X W, Good F X → Takes X W → ∀ Hk gk σ env h g H (Q : List V → Hp → Prop), At X.K X.w X.mg Hk gk σ env h g H →
    post X.K X.w X.mg W Hk gk σ g H (m env h) (fun ds _ _ g' H' => ∀ xs, Reps X.K X.w g' H' xs ds → Q xs H') → uA X es σ H Q
  len : ∀ env h ds env' h', m env h = .ok ds env' h' → ds.length = es.length
end
section
variable {F : Fr} {e a b c : Expr} {es : List Expr} {pos : Pos} {X : Cx} {W : WX} {Hk : Hp} {gk g : Gh} {σ : L2.St} {env : Ev} {h : MH} {H : Hp}
theorem SE.sv {m : ME} (s : SE F e m) : SV F e (fz m) := fun X W gd tk Hk gk σ env h g H Q at_ p => by
  refine s X W gd tk Hk gk σ env h g H Q at_ ((post.bind p).imp fun r env' h' g' H' st a' q x rx => ?_)
  cases r with
  | v d => exact q g' H' (Step.refl _ _) a' x rx
  | own ds =>
    obtain ⟨y, rfl, o, n⟩ := rx
    obtain ⟨b1, b2, b3⟩ := a'.freeze o n
    exact q _ H' b2 b1 (.ref y) b3
theorem SV.go {m : MV} (s : SV F e m) (gd : Good F X) (tk : Takes X W) (at_ : At X.K X.w X.mg Hk gk σ env h g H) {β : Type} {f : D → Ev → MH → Rs β} {C : β → Ev → MH → Gh → Hp → Prop} {Q : VK} (p : post X.K X.w X.mg W Hk gk σ g H ((m env h).bind f) C)
    (k : ∀ d env1 h1 g1 H1 x, Step g H g1 H1 → At X.K X.w X.mg Hk gk σ env1 h1 g1 H1 → Rep X.K X.w g1 H1 x d → post X.K X.w X.mg W Hk gk σ g1 H1 (f d env1 h1) C → Q x H1) : uE X e σ H Q :=
  s X W gd tk Hk gk σ env h g H Q at_ ((post.bind p).imp fun d env1 h1 g1 H1 st a1 q x rx => k d env1 h1 g1 H1 x st a1 rx q)
theorem SE.go {m : ME} (s : SE F e m) (gd : Good F X) (tk : Takes X W) (at_ : At X.K X.w X.mg Hk gk σ env h g H) {β : Type} {f : R → Ev → MH → Rs β} {C : β → Ev → MH → Gh → Hp → Prop} {Q : VK} (p : post X.K X.w X.mg W Hk gk σ g H ((m env h).bind f) C)
    (k : ∀ r env1 h1 g1 H1 x, Step g H g1 H1 → At X.K X.w X.mg Hk gk σ env1 h1 g1 H1 → RR X.K X.w Hk σ env1 g1 H1 x r → post X.K X.w X.mg W Hk gk σ g1 H1 (f r env1 h1) C → Q x H1) : uE X e σ H Q :=
  s X W gd tk Hk gk σ env h g H Q at_ ((post.bind p).imp fun d env1 h1 g1 H1 st a1 q x rx => k d env1 h1 g1 H1 x st a1 rx q)
theorem SB.go {m : MB} (s : SB F e m) (gd : Good F X) (tk : Takes X W) (at_ : At X.K X.w X.mg Hk gk σ env h g H) {β : Type} {f : Bool → Ev → MH → Rs β} {C : β → Ev → MH → Gh → Hp → Prop} {Q : Bool → Hp → Prop} (p : post X.K X.w X.mg W Hk gk σ g H ((m env h).bind f) C)
    (k : ∀ b env1 h1 g1 H1, Step g H g1 H1 → At X.K X.w X.mg Hk gk σ env1 h1 g1 H1 → post X.K X.w X.mg W Hk gk σ g1 H1 (f b env1 h1) C → Q b H1) : uT X e σ H Q :=
  s X W gd tk Hk gk σ env h g H Q at_ ((post.bind p).imp fun d env1 h1 g1 H1 st a1 q => k d env1 h1 g1 H1 st a1 q)
theorem SW.go {m : MB} (s : SW F e m) (gd : Good F X) (tk : Takes X W) (at_ : At X.K X.w X.mg Hk gk σ env h g H) {β : Type} {f : Bool → Ev → MH → Rs β} {C : β → Ev → MH → Gh → Hp → Prop} {Q : Bool → Hp → Prop} (p : post X.K X.w X.mg W Hk gk σ g H ((m env h).bind f) C)
    (k : ∀ b env1 h1 g1 H1, Step g H g1 H1 → At X.K X.w X.mg Hk gk σ env1 h1 g1 H1 → post X.K X.w X.mg W Hk gk σ g1 H1 (f b env1 h1) C → Q b H1) : uW X e σ H Q :=
  s X W gd tk Hk gk σ env h g H Q at_ ((post.bind p).imp fun d env1 h1 g1 H1 st a1 q => k d env1 h1 g1 H1 st a1 q)
theorem SA.go {m : MA} (s : SA F es m) (gd : Good F X) (tk : Takes X W) (at_ : At X.K X.w X.mg Hk gk σ env h g H) {β : Type} {f : List D → Ev → MH → Rs β} {C : β → Ev → MH → Gh → Hp → Prop} {Q : List V → Hp → Prop} (p : post X.K X.w X.mg W Hk gk σ g H ((m env h).bind f) C)
    (k : ∀ ds env1 h1 g1 H1 xs, Step g H g1 H1 → At X.K X.w X.mg Hk gk σ env1 h1 g1 H1 → Reps X.K X.w g1 H1 xs ds → post X.K X.w X.mg W Hk gk σ g1 H1 (f ds env1 h1) C → Q xs H1) : uA X es σ H Q :=
  s.run X W gd tk Hk gk σ env h g H Q at_ ((post.bind p).imp fun d env1 h1 g1 H1 st a1 q x rx => k d env1 h1 g1 H1 x st a1 rx q)

/-! ## names and constants -/
def eC (d : D) : ME := fun env h => .ok (.v d) env h
def eVar (i : Nat) : ME := fun env h => match env[i]? with
  | some (.v d) => .ok (.v d) env h
  | some (.own ds) => .ok (.v (.lst ds)) (env.set i (.v (.lst ds))) h
  | _ => .no
theorem se_const {v : V} {d : D} (hp : ∀ X : Cx, PE X e (tC v)) (r : ∀ K w g H, Rep K w g H v d) : SE F e (eC d) := fun X W gd tk Hk gk σ env h g H Q at_ p =>
  uE_of (hp X) (p g H (Step.refl _ _) at_ v (r _ _ _ _))
theorem se_int {i : Int} {j : Nat} : SE F (.Constant (.int i) j pos) (eC (.int i)) := se_const (fun _ => pe_int) fun _ _ _ _ => by simp [Rep]
theorem se_bl {b : Bool} {j : Nat} : SE F (.Constant (.bool b) j pos) (eC (.bl b)) := se_const (fun _ => pe_bl) fun _ _ _ _ => by simp [Rep]
theorem se_non {j : Nat} : SE F (.Constant .none j pos) (eC .non) := se_const (fun _ => pe_non) fun _ _ _ _ => by simp [Rep]
theorem se_str {x : Str} {s : List Nat} {j : Nat} (hx : x = S s := by decide +kernel) : SE F (.Constant (.str x) j pos) (eC (.str s)) := se_const (fun _ => pe_str) fun _ _ _ _ => by simp [Rep, hx]
theorem se_var {i : Nat} {x : Str} (hN : F.N[i]? = some x := by rfl) (hv : Vis F.sc x := by first | exact Or.inl rfl | exact Or.inr (Or.inl rfl) | exact Or.inr (Or.inr rfl)) (hd : (x == ("__debug__" : Str)) = false := by decide) (hcd : (x == ("__classdict__" : Str)) = false := by decide) : SE F (.Name x pos) (eVar i) := fun X W gd tk Hk gk σ env h g H Q at_ p => by
  refine uE_of (pe_var (i := i) (by rw [gd.N]; exact hN) (by rw [gd.sc]; exact hv) hd hcd) ?_
  unfold eVar at p
  split at p
  · rename_i d e
    obtain ⟨x, h1, h2⟩ := at_.val i d e
    exact ⟨x, h1, p g H (Step.refl _ _) at_ x h2⟩
  · rename_i ds e
    obtain ⟨x, h1, b1, b2, b3⟩ := at_.freezeAt e
    exact ⟨_, h1, p _ H b2 b1 _ b3⟩
  · exact p.elim
theorem se_glob {x : Str} {u : Value} {v : V} {d : D} (hm : F.mg x = some u) (r : RelV v u) (rp : ∀ g H, Rep F.K F.w g H v d) (hg : F.sc.names.lookup x = some .globalImplicit := by rfl) (hd : (x == ("__debug__" : Str)) = false := by decide) : SE F (.Name x pos) (eC d) := fun X W gd tk Hk gk σ env h g H Q at_ p => by
  refine uE_of (pe_glob (by show X.env.scope.names.lookup x = _; rw [gd.sc]; exact hg) (by rw [gd.mg]; exact hm) r hd) ?_
  exact p g H (Step.refl _ _) at_ v (by rw [gd.K, gd.w]; exact rp g H)

/-! ## operations by values -/
def ofO (o : Option R) : ME := fun env h => match o with
  | some r => .ok r env h
  | none => .no
theorem ofO_go {r : Option R} (at_ : At X.K X.w X.mg Hk gk σ env h g H) {Q : VK} (p : post X.K X.w X.mg W Hk gk σ g H (ofO r env h) (fun r env' _ g' H' => ∀ x, RR X.K X.w Hk σ env' g' H' x r → Q x H')) :
    ∃ r', r = some r' ∧ ∀ z g' H', Grow g H g' H' → RN X.K X.w H g' H' z r' → Q z H' := by
  cases r with
  | none => exact p.elim
  | some r' => exact ⟨r', rfl, fun z g' H' gr q => p g' H' (gr.fstep at_.hat).toStep (gr.at at_) z (q.rr at_ gr)⟩
/-- a two-place operation -/
def OpOk (F : Fr) (f : Value → Value → Sem Value) (op : MH → D → D → Option R) : Prop := ∀ X, Good F X → ∀ h g H, HAt X.K X.w h g H → ∀ x y dx dy r, Rep X.K X.w g H x dx → Rep X.K X.w g H y dy → op h dx dy = some r →
  ∀ Q : VK, (∀ z g' H', Grow g H g' H' → RN X.K X.w H g' H' z r → Q z H') → uOp X f x y H Q
def eOp2 (op : MH → D → D → Option R) (ma mb : MV) : ME := fun env h => (ma env h).bind fun x env h => (mb env h).bind fun y env h => ofO (op h x y) env h
theorem op2_go {f : Value → Value → Sem Value} {o : MH → D → D → Option R} {ma mb : MV} (ho : OpOk F f o) (ha : SV F a ma) (hb : SV F b mb) (gd : Good F X) (tk : Takes X W) (at_ : At X.K X.w X.mg Hk gk σ env h g H) {Q : VK}
    (p : post X.K X.w X.mg W Hk gk σ g H (eOp2 o ma mb env h) (fun r env' _ g' H' => ∀ x, RR X.K X.w Hk σ env' g' H' x r → Q x H')) : tOp (uOp X f) (uE X a) (uE X b) σ H Q := by
  refine ha.go gd tk at_ p fun dx env1 h1 g1 H1 x s1 a1 rx p1 => ?_
  refine hb.go gd tk a1 p1 fun dy env2 h2 g2 H2 y s2 a2 ry p2 => ?_
  obtain ⟨r, e, k⟩ := ofO_go a2 p2
  exact ho X gd h2 g2 H2 a2.hat x y dx dy r (rx.step s2) ry e Q k
theorem se_bin {op : Operator} {o : MH → D → D → Option R} {ma mb : MV} (ho : OpOk F (binaryOp op) o) (ha : SV F a ma) (hb : SV F b mb) : SE F (.BinOp a op b pos) (eOp2 o ma mb) := fun X W gd tk Hk gk σ env h g H Q at_ p =>
  uE_of (pe_op op_u pe_u pe_u) (op2_go ho ha hb gd tk at_ p)
theorem se_cmp {op : CmpOp} {o : MH → D → D → Option R} {ma mb : MV} (ho : OpOk F (compareOp op) o) (ha : SV F a ma) (hb : SV F b mb) (hm : behindInMarks op b = false := by rfl) : SE F (.Compare a [op] [b] pos) (eOp2 o ma mb) := fun X W gd tk Hk gk σ env h g H Q at_ p =>
  uE_of (pe_cmpR op_u pe_u pe_u hm) (op2_go ho ha hb gd tk at_ p)
/-- a one-place operation -/
def UnOk (F : Fr) (f : Value → Sem Value) (op : MH → D → Option R) : Prop := ∀ X, Good F X → ∀ h g H, HAt X.K X.w h g H → ∀ x dx r, Rep X.K X.w g H x dx → op h dx = some r →
  ∀ Q : VK, (∀ z g' H', Grow g H g' H' → RN X.K X.w H g' H' z r → Q z H') → uUn X f x H Q
def eOp1 (op : MH → D → Option R) (ma : MV) : ME := fun env h => (ma env h).bind fun x env h => ofO (op h x) env h
theorem se_un {op : UnaryOp} {o : MH → D → Option R} {ma : MV} (ho : UnOk F (unaryOp op) o) (ha : SV F a ma) : SE F (.UnaryOp op a pos) (eOp1 o ma) := fun X W gd tk Hk gk σ env h g H Q at_ p => by
  refine uE_of (pe_un un_u pe_u) ?_
  refine ha.go gd tk at_ p fun dx env1 h1 g1 H1 x s1 a1 rx p1 => ?_
  obtain ⟨r, e, k⟩ := ofO_go a1 p1
  exact ho X gd h1 g1 H1 a1.hat x dx r rx e Q k
/-- a chain of two comparisons -/
def eChain (o o' : MH → D → D → Option R) (ma mb mc : MV) : ME := fun env h => (ma env h).bind fun x env h => (mb env h).bind fun y env h => match o h x y with
  | some (.v (.bl true)) => (mc env h).bind fun z env h => ofO (o' h y z) env h
  | some (.v (.bl false)) => .ok (.v (.bl false)) env h
  | _ => .no
theorem chain_go {op op' : CmpOp} {o o' : MH → D → D → Option R} {ma mb mc : MV} (ho : OpOk F (compareOp op) o) (ho' : OpOk F (compareOp op') o') (ha : SV F a ma) (hb : SV F b mb) (hc : SV F c mc) (gd : Good F X) (tk : Takes X W) (at_ : At X.K X.w X.mg Hk gk σ env h g H) {Q : VK}
    (p : post X.K X.w X.mg W Hk gk σ g H (eChain o o' ma mb mc env h) (fun r env' _ g' H' => ∀ x, RR X.K X.w Hk σ env' g' H' x r → Q x H')) :
    tChain (uOp X (compareOp op)) (uOp X (compareOp op')) (uE X a) (uE X b) (uE X c) σ H Q := by
  refine ha.go gd tk at_ p fun dx env1 h1 g1 H1 x s1 a1 rx p1 => ?_
  refine hb.go gd tk a1 p1 fun dy env2 h2 g2 H2 y s2 a2 ry p2 => ?_
  split at p2
  · rename_i e
    refine ho X gd h2 g2 H2 a2.hat x y dx dy _ (rx.step s2) ry e _ fun z g3 H3 gr q => ?_
    have q : z = .bl true := by simpa [RN, Rep] using q
    refine ⟨true, q, iteT ?_⟩
    refine hc.go gd tk (gr.at a2) (post.step (gr.fstep a2.hat).toStep p2) fun dz env4 h4 g4 H4 z' s4 a4 rz p4 => ?_
    obtain ⟨r, e', k⟩ := ofO_go a4 p4
    exact ho' X gd h4 g4 H4 a4.hat y z' dy dz r ((ry.step (gr.fstep a2.hat).toStep).step s4) rz e' Q k
  · rename_i e
    refine ho X gd h2 g2 H2 a2.hat x y dx dy _ (rx.step s2) ry e _ fun z g3 H3 gr q => ?_
    have q : z = .bl false := by simpa [RN, Rep] using q
    refine ⟨false, q, iteF ?_⟩
    exact p2 g3 H3 (gr.fstep a2.hat).toStep (gr.at a2) _ (by simp [RR, Rep])
  · exact p2.elim
theorem se_chain {op op' : CmpOp} {o o' : MH → D → D → Option R} {ma mb mc : MV} (ho : OpOk F (compareOp op) o) (ho' : OpOk F (compareOp op') o') (ha : SV F a ma) (hb : SV F b mb) (hc : SV F c mc) (hm : lastMarks [op, op'] [b, c] = false := by with_unfolding_all rfl) :
    SE F (.Compare a [op, op'] [b, c] pos) (eChain o o' ma mb mc) := fun X W gd tk Hk gk σ env h g H Q at_ p =>
  uE_of (pe_chain op_u op_u pe_u pe_u pe_u hm) (chain_go ho ho' ha hb hc gd tk at_ p)

/-! ## tests -/
def toB (m : ME) : MB := fun env h => (m env h).bind fun r env h => match r with
  | .v (.bl b) => .ok b env h
  | _ => .no
theorem tb_go {t : TE} {m : ME} (hs : ∀ Q : VK, post X.K X.w X.mg W Hk gk σ g H (m env h) (fun r env' _ g' H' => ∀ x, RR X.K X.w Hk σ env' g' H' x r → Q x H') → t σ H Q) {Q : Bool → Hp → Prop}
    (p : post X.K X.w X.mg W Hk gk σ g H (toB m env h) (fun b _ _ _ H' => Q b H')) : tTest t σ H Q := by
  refine hs _ ((post.bind p).imp fun r env' h' g' H' st a' q x rx => ?_)
  split at q
  · rename_i b
    have : x = .bl b := by simpa [RR, Rep] using rx
    exact ⟨b, this, q g' H' (Step.refl _ _) a'⟩
  · exact q.elim
theorem sb_cmp {op : CmpOp} {o : MH → D → D → Option R} {ma mb : MV} (ho : OpOk F (compareOp op) o) (ha : SV F a ma) (hb : SV F b mb) (hm : behindInMarks op b = false := by rfl) : SB F (.Compare a [op] [b] pos) (toB (eOp2 o ma mb)) := fun X W gd tk Hk gk σ env h g H Q at_ p =>
  uT_of (pt_cmpR op_u pe_u pe_u hm) (tb_go (fun Q p => op2_go ho ha hb gd tk at_ p) p)
theorem sb_chain {op op' : CmpOp} {o o' : MH → D → D → Option R} {ma mb mc : MV} (ho : OpOk F (compareOp op) o) (ho' : OpOk F (compareOp op') o') (ha : SV F a ma) (hb : SV F b mb) (hc : SV F c mc) (hm : lastMarks [op, op'] [b, c] = false := by with_unfolding_all rfl) :
    SB F (.Compare a [op, op'] [b, c] pos) (toB (eChain o o' ma mb mc)) := fun X W gd tk Hk gk σ env h g H Q at_ p =>
  uT_of (pt_chain op_u op_u pe_u pe_u pe_u hm) (tb_go (fun Q p => chain_go ho ho' ha hb hc gd tk at_ p) p)
/-- the truth of data -/
def truD (h : MH) : D → Option Bool
  | .non => some false
  | .bl b => some b
  | .int i => some (i != 0)
  | .str s => if s.length ≤ sizeLine then some (!s.isEmpty) else none
  | .tup ds => some (!ds.isEmpty)
  | .lst ds => some (!ds.isEmpty)
  | .loc n => match h[n]? with
    | some (.lst ds) => some (!ds.isEmpty)
    | none => none
  | .dct _ _ => none
theorem isEmpty_reps {K : PySem.W.Frag} {w : World} {g : Gh} {H : Hp} {vs : List V} {ds : List D} (r : Reps K w g H vs ds) : vs.isEmpty = ds.isEmpty := by
  have := r.length
  cases vs <;> cases ds <;> simp_all
theorem truD_ok {K : PySem.W.Frag} {w : World} {h : MH} {g : Gh} {H : Hp} (hat : HAt K w h g H) {x : V} {d : D} {b : Bool} (r : Rep K w g H x d) (e : truD h d = some b) : TruV K x H b := by
  cases d with
  | non => simp only [Rep] at r; subst r; simp [truD] at e; subst e; rfl
  | bl c => simp only [Rep] at r; subst r; simp [truD] at e; subst e; rfl
  | int i => simp only [Rep] at r; subst r; simp [truD] at e; subst e; rfl
  | str s =>
    simp only [Rep] at r; subst r
    simp only [truD] at e
    split at e
    · rename_i hs
      refine ⟨by rw [S_length]; exact hs, ?_⟩
      rw [S_length]
      cases e
      cases s with
      | nil => rfl
      | cons c t => simp; omega
    · cases e
  | tup ds =>
    simp only [Rep] at r
    obtain ⟨a, vs, rfl, t, rs⟩ := r
    simp only [truD, Option.some.injEq] at e
    exact .inr (.inl ⟨vs, t.sq, by rw [isEmpty_reps rs]; exact e.symm⟩)
  | lst ds =>
    simp only [Rep] at r
    obtain ⟨a, vs, rfl, t, rs⟩ := r
    simp only [truD, Option.some.injEq] at e
    exact .inl ⟨vs, t.sq, by rw [isEmpty_reps rs]; exact e.symm⟩
  | loc n =>
    simp only [Rep] at r
    obtain ⟨_, rfl⟩ := r
    simp only [truD] at e
    split at e
    · rename_i ds e2
      obtain ⟨⟨vs, h1, h2⟩, _⟩ := hat.obj n _ e2
      cases e
      exact .inl ⟨vs, .of h1, by rw [isEmpty_reps h2]⟩
    · cases e
  | dct ks ds => simp [truD] at e
def bTru (m : MV) : MB := fun env h => (m env h).bind fun d env h => match truD h d with
  | some b => .ok b env h
  | none => .no
theorem sb_tru {m : MV} (ha : SV F a m) (he : ∀ env whole, isTrue a env whole = (do let v ← whole; standAt a.pos; holding [v] (truthy v)) := by intros; rfl) : SB F a (bTru m) := fun X W gd tk Hk gk σ env h g H Q at_ p => by
  refine uT_of (pt_truth pe_u (he _)) ?_
  refine ha.go gd tk at_ p fun d env1 h1 g1 H1 x s1 a1 rx p1 => ?_
  split at p1
  · rename_i b e
    exact ⟨b, truD_ok a1.hat rx e, p1 g1 H1 (Step.refl _ _) a1⟩
  · exact p1.elim
def bNot (m : MB) : MB := fun env h => (m env h).bind fun b env h => .ok (!b) env h
theorem sb_not {m : MB} (ha : SB F a m) : SB F (.UnaryOp .Not a pos) (bNot m) := fun X W gd tk Hk gk σ env h g H Q at_ p => by
  refine uT_of (pt_not pt_u) ?_
  exact ha.go gd tk at_ p fun b env1 h1 g1 H1 s1 a1 p1 => p1 g1 H1 (Step.refl _ _) a1
def bAnd (m n : MB) : MB := fun env h => (m env h).bind fun b env h => if b = true then n env h else .ok false env h
def bOr (m n : MB) : MB := fun env h => (m env h).bind fun b env h => if b = true then .ok true env h else n env h
theorem sw_one {op : BoolOp} {m : MB} (ha : SB F a m) : SW F (.BoolOp op [a] pos) m := fun X W gd tk Hk gk σ env h g H Q at_ p => by
  cases op with
  | And => exact uW_of (pw_and1 pt_u) (ha X W gd tk Hk gk σ env h g H Q at_ p)
  | Or => exact uW_of (pw_or1 pt_u) (ha X W gd tk Hk gk σ env h g H Q at_ p)
theorem sw_and {m n : MB} {rest : List Expr} (ha : SB F a m) (hb : SW F (.BoolOp .And (b :: rest) pos) n) : SW F (.BoolOp .And (a :: b :: rest) pos) (bAnd m n) := fun X W gd tk Hk gk σ env h g H Q at_ p => by
  refine uW_of (pw_and pt_u pw_u) ?_
  refine ha.go gd tk at_ p fun c env1 h1 g1 H1 s1 a1 p1 => ?_
  cases c with
  | true => rw [if_pos rfl] at p1 ⊢; exact hb X W gd tk Hk gk σ env1 h1 g1 H1 Q a1 p1
  | false => rw [if_neg (by decide)] at p1 ⊢; exact p1 g1 H1 (Step.refl _ _) a1
theorem sw_or {m n : MB} {rest : List Expr} (ha : SB F a m) (hb : SW F (.BoolOp .Or (b :: rest) pos) n) : SW F (.BoolOp .Or (a :: b :: rest) pos) (bOr m n) := fun X W gd tk Hk gk σ env h g H Q at_ p => by
  refine uW_of (pw_or pt_u pw_u) ?_
  refine ha.go gd tk at_ p fun c env1 h1 g1 H1 s1 a1 p1 => ?_
  cases c with
  | true => rw [if_pos rfl] at p1 ⊢; exact p1 g1 H1 (Step.refl _ _) a1
  | false => rw [if_neg (by decide)] at p1 ⊢; exact hb X W gd tk Hk gk σ env1 h1 g1 H1 Q a1 p1
theorem sb_w {m : MB} (hw : SW F e m) : SB F e m := fun X W gd tk Hk gk σ env h g H Q at_ p => uT_of (pw_u.pt) (hw X W gd tk Hk gk σ env h g H Q at_ p)

/-! ## tests as values, choices -/
def eNot (m : MV) : ME := fun env h => (m env h).bind fun d env h => match d with
  | .bl b => .ok (.v (.bl (!b))) env h
  | _ => .no
theorem se_not {m : MV} (ha : SV F a m) : SE F (.UnaryOp .Not a pos) (eNot m) := fun X W gd tk Hk gk σ env h g H Q at_ p => by
  refine uE_of (pe_not pe_u) ?_
  refine ha.go gd tk at_ p fun d env1 h1 g1 H1 x s1 a1 rx p1 => ?_
  split at p1
  · rename_i b
    exact ⟨b, by simpa [Rep] using rx, p1 g1 H1 (Step.refl _ _) a1 _ (by simp [RR, Rep])⟩
  · exact p1.elim
def eAnd (m : MV) (n : ME) : ME := fun env h => (m env h).bind fun d env h => match d with
  | .bl true => n env h
  | .bl false => .ok (.v (.bl false)) env h
  | _ => .no
def eOr (m : MV) (n : ME) : ME := fun env h => (m env h).bind fun d env h => match d with
  | .bl true => .ok (.v (.bl true)) env h
  | .bl false => n env h
  | _ => .no
theorem se_one {op : BoolOp} {m : ME} (ha : SE F a m) : SE F (.BoolOp op [a] pos) m := fun X W gd tk Hk gk σ env h g H Q at_ p => uE_of (pe_one pe_u) (ha X W gd tk Hk gk σ env h g H Q at_ p)
theorem se_and {m : MV} {n : ME} {rest : List Expr} (ha : SV F a m) (hb : SE F (.BoolOp .And (b :: rest) pos) n) : SE F (.BoolOp .And (a :: b :: rest) pos) (eAnd m n) := fun X W gd tk Hk gk σ env h g H Q at_ p => by
  refine uE_of (pe_and pe_u pe_u) ?_
  refine ha.go gd tk at_ p fun d env1 h1 g1 H1 x s1 a1 rx p1 => ?_
  split at p1
  · exact ⟨true, by simpa [Rep] using rx, iteT (hb X W gd tk Hk gk σ env1 h1 g1 H1 Q a1 p1)⟩
  · exact ⟨false, by simpa [Rep] using rx, iteF (p1 g1 H1 (Step.refl _ _) a1 _ (by simp [RR, Rep]))⟩
  · exact p1.elim
theorem se_or {m : MV} {n : ME} {rest : List Expr} (ha : SV F a m) (hb : SE F (.BoolOp .Or (b :: rest) pos) n) : SE F (.BoolOp .Or (a :: b :: rest) pos) (eOr m n) := fun X W gd tk Hk gk σ env h g H Q at_ p => by
  refine uE_of (pe_or pe_u pe_u) ?_
  refine ha.go gd tk at_ p fun d env1 h1 g1 H1 x s1 a1 rx p1 => ?_
  split at p1
  · exact ⟨true, by simpa [Rep] using rx, iteT (p1 g1 H1 (Step.refl _ _) a1 _ (by simp [RR, Rep]))⟩
  · exact ⟨false, by simpa [Rep] using rx, iteF (hb X W gd tk Hk gk σ env1 h1 g1 H1 Q a1 p1)⟩
  · exact p1.elim
def eIf (c : MB) (m n : ME) : ME := fun env h => (c env h).bind fun b env h => if b = true then m env h else n env h
theorem se_if {mc : MB} {m n : ME} (hc : SB F c mc) (ha : SE F a m) (hb : SE F b n) : SE F (.IfExp c a b pos) (eIf mc m n) := fun X W gd tk Hk gk σ env h g H Q at_ p => by
  refine uE_of (pe_ifExp pt_u pe_u pe_u) ?_
  refine hc.go gd tk at_ p fun c env1 h1 g1 H1 s1 a1 p1 => ?_
  cases c with
  | true => rw [if_pos rfl] at p1 ⊢; exact ha X W gd tk Hk gk σ env1 h1 g1 H1 Q a1 p1
  | false => rw [if_neg (by decide)] at p1 ⊢; exact hb X W gd tk Hk gk σ env1 h1 g1 H1 Q a1 p1

/-! ## arguments, displays -/
def aNil : MA := fun env h => .ok [] env h
def aCons (m : MV) (n : MA) : MA := fun env h => (m env h).bind fun d env h => (n env h).bind fun ds env h => .ok (d :: ds) env h
theorem sa_nil : SA F [] aNil := ⟨fun X W gd tk Hk gk σ env h g H Q at_ p => uA_of pa_nil (p g H (Step.refl _ _) at_ [] Reps.nil), fun env h ds env' h' e => by cases e; rfl⟩
theorem sa_cons {m : MV} {n : MA} (ha : SV F e m) (hr : SA F es n) (hs : ∀ env, starEach (e :: es) env = (false, eval e env) :: starEach es env := by intros; rfl) : SA F (e :: es) (aCons m n) := by
  refine ⟨fun X W gd tk Hk gk σ env h g H Q at_ p => ?_, fun env h ds env' h' q => ?_⟩
  · refine uA_of (pa_cons pe_u pa_u (hs _)) ?_
    refine ha.go gd tk at_ p fun d env1 h1 g1 H1 x s1 a1 rx p1 => ?_
    refine hr.go gd tk a1 p1 fun ds env2 h2 g2 H2 xs s2 a2 rs p2 => ?_
    exact p2 g2 H2 (Step.refl _ _) a2 (x :: xs) (Reps.cons (rx.step s2) rs)
  · unfold aCons at q
    cases e1 : m env h with
    | no => rw [e1] at q; cases q
    | err x e2 h2 => rw [e1] at q; cases q
    | ok d e2 h2 =>
      rw [e1] at q
      have q : (n e2 h2).bind (fun ds env h => .ok (d :: ds) env h) = .ok ds env' h' := q
      cases e3 : n e2 h2 with
      | no => rw [e3] at q; cases q
      | err x e4 h4 => rw [e3] at q; cases q
      | ok ds2 e4 h4 =>
        rw [e3] at q
        cases q
        rw [List.length_cons, List.length_cons, hr.len _ _ _ _ _ e3]
def eTup (m : MA) : ME := fun env h => (m env h).bind fun ds env h => if ds.length ≤ sizeLine then .ok (.v (.tup ds)) env h else .no
def eLst (m : MA) : ME := fun env h => (m env h).bind fun ds env h => if ds.length ≤ sizeLine then .ok (.own ds) env h else .no
def eLoc (m : MA) : ME := fun env h => (m env h).bind fun ds env h => if ds.length ≤ sizeLine then .ok (.v (.loc h.length)) env (h ++ [.lst ds]) else .no
theorem rep_newTup {K : PySem.W.Frag} {w : World} {h : MH} {g : Gh} {H : Hp} (hat : HAt K w h g H) {p : Addr} {vs : List V} {ds : List D} (n : H p = none) (r : Reps K w g H vs ds) : Rep K w (g.fr p) (upd H p (.tup vs)) (.ref p) (.tup ds) := by
  simp only [Rep]
  exact ⟨p, vs, rfl, .inl ⟨.inr rfl, .inl upd_same⟩, r.step ((grow_fr hat n).fstep hat).toStep⟩
theorem rep_newLst {K : PySem.W.Frag} {w : World} {h : MH} {g : Gh} {H : Hp} (hat : HAt K w h g H) {p : Addr} {vs : List V} {ds : List D} (n : H p = none) (r : Reps K w g H vs ds) : RN K w H g (upd H p (.lst vs)) (.ref p) (.own ds) :=
  ⟨p, vs, rfl, n, upd_same, r.step ((grow_new hat n).fstep hat).toStep, fun f => hat.fz p f n⟩
theorem se_tup {m : MA} {k : Nat} (ha : SA F es m) : SE F (.Tuple es k pos) (eTup m) := fun X W gd tk Hk gk σ env h g H Q at_ p => by
  refine uE_of (pe_tup pa_u) ?_
  refine ha.go gd tk at_ p fun ds env1 h1 g1 H1 xs s1 a1 rs p1 => ?_
  split at p1
  · rename_i hl
    exact ⟨by rw [rs.length]; exact hl, fun q nq => p1 _ _ ((grow_fr a1.hat nq).fstep a1.hat).toStep ((grow_fr a1.hat nq).at a1) _ (rep_newTup a1.hat nq rs)⟩
  · exact p1.elim
theorem se_lst {m : MA} (ha : SA F es m) : SE F (.List es pos) (eLst m) := fun X W gd tk Hk gk σ env h g H Q at_ p => by
  refine uE_of (pe_lst pa_u) ?_
  refine ha.go gd tk at_ p fun ds env1 h1 g1 H1 xs s1 a1 rs p1 => ?_
  split at p1
  · rename_i hl
    exact ⟨by rw [rs.length]; exact hl, fun q nq => p1 _ _ ((grow_new a1.hat nq).fstep a1.hat).toStep ((grow_new a1.hat nq).at a1) _ ((rep_newLst a1.hat nq rs).rr a1 (grow_new a1.hat nq))⟩
  · exact p1.elim
theorem se_loc {m : MA} (ha : SA F es m) : SE F (.List es pos) (eLoc m) := fun X W gd tk Hk gk σ env h g H Q at_ p => by
  refine uE_of (pe_lst pa_u) ?_
  refine ha.go gd tk at_ p fun ds env1 h1 g1 H1 xs s1 a1 rs p1 => ?_
  split at p1
  · rename_i hl
    refine ⟨by rw [rs.length]; exact hl, fun q nq => ?_⟩
    obtain ⟨g', t1, t2, t3, t4⟩ := a1.newLoc nq rs
    refine p1 g' _ t4 t3 _ ?_
    simp only [RR, Rep]
    exact ⟨by rw [t1]; exact Nat.lt_succ_self _, by rw [t2]⟩
  · exact p1.elim
end
end Mi
end
section
set_option Elab.async false
set_option linter.all false
set_option maxRecDepth 100000
set_option maxHeartbeats 2000000
/-! defs whose frames know that no repr is under way (guards) -/
namespace Mi
open PySem PySem.Spec PyProof.Rows L2
structure FnG (P : Program) (w : World) (K : PySem.W.Frag) (mg : Str → Option Value) (base : Heap) (CX : CXT) (k : Nat) (f : Addr) (fd : FuncData) (ps : List Str) (sp : Sp) : Prop where
  len : ∀ vs H Q E, sp vs H Q E → vs.length = ps.length
  run : ∀ (A : Around) (outer : List Env) (s : Shared) (H : Hp) (args : Args) (us : List Value) (vs : List V) (Q : VK) (E : XK), Room k A → A.guards = some [] → Env0 P w K mg base A outer s H → BindsTo s fd args (ps.zip us) → Vals vs us → sp vs H Q E →
    codeAny (model P w) A (.call (.ref f) args) (CR CX outer P w H s Q E) s
theorem FnG.mono {P : Program} {w : World} {K : PySem.W.Frag} {mg : Str → Option Value} {base : Heap} {CX : CXT} {j k : Nat} {f : Addr} {fd : FuncData} {ps : List Str} {sp : Sp} (G : FnG P w K mg base CX j f fd ps sp) (le : j ≤ k) :
    FnG P w K mg base CX k f fd ps sp := ⟨G.len, fun A l s H args us vs Q E rm => G.run A l s H args us vs Q E (rm.mono le)⟩
theorem FnG.imp {P : Program} {w : World} {K : PySem.W.Frag} {mg : Str → Option Value} {base : Heap} {CX : CXT} {k : Nat} {f : Addr} {fd : FuncData} {ps : List Str} {sp sp' : Sp} (G : FnG P w K mg base CX k f fd ps sp)
    (im : ∀ vs H Q E, sp' vs H Q E → sp vs H Q E) : FnG P w K mg base CX k f fd ps sp' :=
  ⟨fun vs H Q E z => G.len vs H Q E (im _ _ _ _ z), fun A l s H args us vs Q E rm gd en bd rv z => G.run A l s H args us vs Q E rm gd en bd rv (im _ _ _ _ z)⟩
/-- a def by its body -/
theorem fnG_of {CX : CXT} {P : Program} {w : World} {K : PySem.W.Frag} {mg : Str → Option Value} {base : Heap} {k : Nat} {x qual : Str} {st : Stmt} {f : Addr} {fd : FuncData} {N ps : List Str} {sp : Sp} (F0 : Fun K x qual st f fd) (Sc : FnScope N ps (defScope st))
    (ln : ∀ vs H Q E, sp vs H Q E → vs.length = ps.length)
    (bodyOk : ∀ (cdv : Value) (A : Around) (l : List Env) (s : Shared) (H : Hp) (vs : List V) (Q : VK) (E : XK), Room k (A.deeper (envOfC qual (defScope st) s.heap.objs.size f cdv)) → A.guards = some [] → sp vs H Q E →
      ∃ t, PSs (cxOf CX P w K mg base N qual (defScope st) f cdv A l s H E) (defBody st) t ∧ t { nx := fun _ H' => Q .non H', rt := Q } (L2.start N vs) H) :
    FnG P w K mg base CX (k + 1) f fd ps sp := by
  obtain ⟨oc, od, kV, doc, pm, an, cdv, ct, osl, rfl, look, isCode⟩ := F0.ex
  refine ⟨ln, fun A l s H args us vs Q E rm gds en bnd rv hsp => ?_⟩
  have hlen := ln _ _ _ _ hsp
  have inK : K.In s.heap := en.mod.kin.keeps fun b o z => (en.bs b o z).1
  have noLim : s.heap.NoLimit := en.mod.nolimit.keeps fun b o z => (en.bs b o z).1
  have kinds : ∀ y ∈ ps.zip us, (defScope st).names.lookup y.1 = some .local ∨ ((defScope st).names.lookup y.1 = some .cell ∧ ((cellsFrom (s.heap.objs.size + 1) (defScope st).names []).lookup y.1).isSome = true) := fun ⟨n, v⟩ hy =>
    (Sc.par n (List.of_mem_zip hy).1).imp id fun q => ⟨q, PySem.W.cellsFrom_some _ _ _ (.inl q)⟩
  refine codeAny_call_function rm.depth (inK _ _ look) rfl Sc.co Sc.gen rfl (PySem.W.codeRec_of inK isCode) (bnd _ _ _ _ ?_)
  refine wpAny_newFunctionEnv_cells Sc.kind kinds fun env heq t₁ inC => ?_
  subst heq
  refine ⟨noLim.keeps inC.toInCall.keep, codeAny_func ?_⟩
  obtain ⟨t, pt, hq⟩ := bodyOk cdv A l s H vs Q E (rm.deeper _) gds hsp
  have inv : Inv (cxOf CX P w K mg base N qual (defScope st) f cdv A l s H E) [] (L2.start N vs) H t₁ := inv_start Sc rm.hd en hlen rv inC
  refine wpAny_mono (pt.run [] t₁ (L2.start N vs) H _ inv hq) (fun fl s' hs => ?_) fun e s' hs => hs
  have out : ∀ {τ : L2.St} {G : Hp} {v : V} {u : Value}, Inv (cxOf CX P w K mg base N qual (defScope st) f cdv A l s H E) [] τ G s' → RelV v u → Q v G → CE l P w H s Q u s' :=
    fun {τ G v u} J r z => ⟨v, G, J.os, J.bare, J.base, J.hok, r, z⟩
  cases fl with
  | ret u =>
    obtain ⟨v, τ, G, J, r, z⟩ := hs
    exact out J r z
  | next =>
    obtain ⟨τ, G, J, z⟩ := hs
    exact out (v := V.non) (u := Value.none) J rfl z
  | brk =>
    obtain ⟨_, _, _, z⟩ := hs
    exact z.elim
  | cont =>
    obtain ⟨_, _, _, z⟩ := hs
    exact z.elim
section
variable {X : Cx} {CX : CXT} {k : Nat} {f : Addr} {fd : FuncData} {ps : List Str} {sp : Sp} {E : L2.St → XK} {x : Str} {p pos : Pos} {e : Expr} {es : List Expr} {t : TA}
theorem runG {pins : List (Addr × Obj)} {σ : L2.St} {H : Hp} {s : Shared} {Q : VK} {us : List Value} {vs : List V} (G : FnG X.prog X.w X.K X.mg X.base CX k f fd ps sp) (rm : Room k X.A) (gds : X.A.guards = some []) (bd : Binds X.K fd ps []) (px : PassesAt CX X σ (E σ))
    (I : Inv X pins σ H s) (r : Vals vs us) (z : sp vs H Q (E σ)) : wpAny (model X.prog X.w) X.A (call (.ref f) us) (EP X pins σ Q) X.xe s := by
  have ln : us.length = ps.length := by rw [← r.length]; exact G.len _ _ _ _ z
  have bnd := bd s us I.kIn (by rw [List.append_nil]; exact ln)
  rw [List.append_nil] at bnd
  refine wpAny_call (codeAny_mono (G.run X.A X.stack s H ⟨us, []⟩ us vs Q (E σ) rm gds I.env0 bnd r z) fun res s' hr => ?_)
  cases res with
  | error er => exact px pins H s er s' I hr
  | ok fl =>
    cases fl with
    | ret u => exact I.after hr
    | next => exact hr.elim
    | brk => exact hr.elim
    | cont => exact hr.elim
theorem pe_callG (G : FnG X.prog X.w X.K X.mg X.base CX k f fd ps sp) (rm : Room k X.A) (gds : X.A.guards = some []) (gl : Gl X x) (hm : X.mg x = some (.ref f)) (kp : PySem.W.keepIn X.K (.ref f) = true) (bd : Binds X.K fd ps []) (px : ∀ σ, PassesAt CX X σ (E σ))
    (pa : PA X (e :: es) t) (hdb : (x == ("__debug__" : Str)) = false := by decide) (he : starEach (e :: es) X.env = (false, eval e X.env) :: starEach es X.env := by rfl) (hpl : (backTo pos (starEach es X.env)).any (·.1) = false := by rfl) :
    PE X (.Call (.Name x p) (e :: es) [] pos) (tCallS sp E t) := by
  refine ⟨fun pins s σ H Q I z => ?_⟩
  refine wpAny_Call_Name_kw (ld_glob I gl hm ?_ hdb)
  refine PySem.W.callWith_K (h₀ := X.base) I.ok.mod.kin kp (thn (pa.run pos pins s σ H _ I z) fun us t₁ ⟨vs, G1, I1, r, q⟩ => ⟨I1.kIn, ?_⟩) he hpl
  exact runG G rm gds bd (px σ) I1 r q
end
/-- the law's def called at the top -/
theorem law_callG {P : Program} {w : World} {K : PySem.W.Frag} {mg mb : Str → Option Value} {CX : CXT} {k : Nat} {fa a : Addr} {fd : FuncData} {x : Str} {sp : Sp} {t₁ : Shared} {us : List Value} {ns : List Int}
    (inK : K.In t₁.heap) (nsG : t₁.heap.Ns mainGlobals mg) (nsB : t₁.heap.Ns builtinsNs mb) (isB : ∀ x : Str, x ≠ "__name__" → mb x = bootBuiltins x) (noLim : t₁.heap.NoLimit) (noGen : t₁.gens = #[])
    (obj : t₁.heap.get? a = some { cls := .type "list", data := .seq us.toArray }) (ints0 : IntsAre us ns) (le : ns.length ≤ sizeLine) (rm : Room k callerA)
    (F : ∀ base : Heap, K.In base → base.Ns mainGlobals mg → FnG P w K mg base CX k fa fd [x] sp) (bnd : ∀ (s : Shared) (u : Value), BindsTo s fd ⟨[u], []⟩ [(x, u)])
    (hsp : ∀ H : Hp, Only H → SqL K H a (ns.map V.int) → sp [.ref a] H (fun v _ => v = .bl true) fun _ _ _ => False)
    (noX : ∀ H e s', CX [] H t₁ (fun _ _ _ => False) e s' → False) :
    codeAny (model P w) callerA (.call (.ref fa) ⟨[.ref a], []⟩) (fun r s' => r = .ok (.ret (.bool true)) ∧ OldK t₁.heap s'.heap ∧ s'.os = t₁.os ∧ AllBare s'.gens) t₁ := by
  have rvs := vals_ints ints0
  have lnU := ints0.length
  have main : ∀ G : Hp, Only G → SqL K G a (ns.map V.int) → HOk P w G t₁.heap → (∀ b, G b ≠ none → b = a) → (G a ≠ none → K.lookup a = none) →
      codeAny (model P w) callerA (.call (.ref fa) ⟨[.ref a], []⟩) (fun r s' => r = .ok (.ret (.bool true)) ∧ OldK t₁.heap s'.heap ∧ s'.os = t₁.os ∧ AllBare s'.gens) t₁ := by
    intro G only sq hok onlyA notK
    have low : ∀ {b : Addr} {o : Obj}, t₁.heap.get? b = some o → G b = none → (hidT t₁.heap G).get? b = some o := fun z n => hidT_get z n
    have noDict : ∀ {b : Addr} {o : Obj} {es : Array DictEntry} {ep : Nat}, t₁.heap.get? b = some o → o.data = .dict es ep → G b = none := fun {b o es ep} z dd => by
      cases q : G b with
      | none => rfl
      | some u =>
        have eb : b = a := onlyA b (by rw [q]; simp)
        subst eb
        rw [obj] at z; cases z
        have dd' : Data.seq us.toArray _ = Data.dict es ep := dd
        cases dd'
    have lowNs : ∀ {b : Addr} {m : Str → Option Value}, t₁.heap.Ns b m → (hidT t₁.heap G).Ns b m := fun {b m} ⟨o, es, ep, z, dd, rr⟩ => ⟨o, es, ep, low z (noDict z dd), dd, rr⟩
    have lowK : K.In (hidT t₁.heap G) := fun b o z => low (inK b o z) (by
      cases q : G b with
      | none => rfl
      | some u =>
        have eb : b = a := onlyA b (by rw [q]; simp)
        subst eb
        rw [notK (by rw [q]; simp)] at z; cases z)
    have modl : Mod K mg (hidT t₁.heap G) := ⟨lowK, lowNs nsG, ⟨mb, lowNs nsB, isB⟩, let ⟨mc, h1, h2⟩ := noLim; ⟨mc, lowNs h1, h2⟩⟩
    have en : Env0 P w K mg (hidT t₁.heap G) callerA [] t₁ G := ⟨rfl, modl, fun b o z => of_hidT z, Nat.le_of_eq (hidT_size _ _), trivial, fun b hb => absurd (show b ∈ ([] : List Addr) from hb) (by simp), hok, .of_eq noGen⟩
    refine codeAny_mono ((F _ lowK (lowNs nsG)).run callerA [] t₁ G ⟨[.ref a], []⟩ [.ref a] [.ref a] _ _ rm rfl en (bnd t₁ (.ref a)) (.cons rfl .nil) (hsp G only sq)) fun r s' z => ?_
    cases r with
    | error er => exact (noX G er s' z).elim
    | ok fl =>
      cases fl with
      | next => exact z.elim
      | brk => exact z.elim
      | cont => exact z.elim
      | ret u =>
        obtain ⟨v, G', oss, bare, un, hok', rel, q⟩ := z
        have q' : v = .bl true := q
        subst q'
        obtain rfl : u = Value.bool true := rel
        refine ⟨rfl, OldK.of_keep fun b o ee => ?_, oss, bare⟩
        cases q : G b with
        | none => exact un.keep b o ee q (by intro y; exact absurd (show b ∈ ([] : List Addr) from y) (by simp)) (by simp)
        | some u =>
          rcases only b with y | ⟨ob, xs, y⟩
          · rw [q] at y; cases y
          · have y2 := un.frzs b ob _ y
            obtain ⟨g1, _⟩ := hok b _ y
            obtain ⟨g2, _⟩ := hok' b _ y2
            rw [ee] at g1; cases g1
            exact g2
  cases lk : K.lookup a with
  | some o =>
    have ee := inK a o lk
    rw [obj] at ee
    cases ee
    refine main (fun _ => none) (fun _ => .inl rfl) (.inr ⟨_, us.toArray, _, lk, rfl, rfl, rfl, by rw [List.size_toArray, lnU]; exact le, by simpa using rvs⟩) (fun b u y => by have y' : (none : Option HO) = some u := y; cases y') (fun b y => absurd rfl y) fun y => absurd rfl y
  | none =>
    refine main (fun b => if b = a then some (.frz { cls := .type "list", data := .seq us.toArray } (.lst (ns.map V.int))) else none) (fun b => ?_) (.inl (.inr ⟨{ cls := .type "list", data := .seq us.toArray }, if_pos rfl⟩)) (fun b u y => ?_) (fun b y => ?_) fun _ => lk
    · by_cases hb : b = a
      · exact .inr ⟨_, _, if_pos hb⟩
      · exact .inl (if_neg hb)
    · by_cases hb : b = a
      · have y' := (if_pos hb).symm.trans y
        cases y'
        subst hb
        exact ⟨obj, by rw [List.length_map]; exact le, us, _, rvs, obj⟩
      · have y' := (if_neg hb).symm.trans y
        cases y'
    · by_cases hb : b = a
      · exact hb
      · exact absurd (if_neg hb) y
theorem walk_ofG {l : PySem.W.OpenLaw} {n k : Nat} {q : Program} {loose : List Str} {XP : (Str → Option Value) → Heap → Prop} {YP : World → Heap → Prop} {d : DefRec} {K : Params → PySem.W.Frag} {CX : World → CXT} {sp : World → Sp} {x : Str}
    (most : l.most = some n) (small : n ≤ sizeLine) (nodef : d.params.defaults = []) (rm : Room k callerA)
    (kY : ∀ (w : World) (h : Heap), YP w h → (K w.params).In h)
    (F : ∀ (w : World) (mg : Str → Option Value) (fa : Addr) (h : Heap), (K w.params).In h → h.Ns mainGlobals mg → mg d.name = some (.ref fa) →
      ∃ fd : FuncData, (∀ (s : Shared) (u : Value), BindsTo s fd ⟨[u], []⟩ [(x, u)]) ∧
        ∀ base : Heap, (K w.params).In base → base.Ns mainGlobals mg → FnG l.prog w (K w.params) mg base (CX w) k fa fd [x] (sp w))
    (hsp : ∀ (w : World) (H : Hp) (a : Addr) (ns : List Int), ns.length ≤ n → Only H → SqL (K w.params) H a (ns.map V.int) → sp w [.ref a] H (fun v _ => v = .bl true) fun _ _ _ => False)
    (noX : ∀ (w : World) (H : Hp) (s : Shared) (e : Value) (s' : Shared), CX w [] H s (fun _ _ _ => False) e s' → False) :
    PySem.W.WalkO q loose XP YP l.row.toRowW d [] (fun f vs => PySem.call f vs) := by
  refine Att.attach_call most nodef fun w t₀ t₁ mg mb fa o pm cd doc a us ns G Y ho hdt hcd hmg obj ints0 hlen noGen => ?_
  have inK := kY w _ Y
  obtain ⟨fd, bnd, fG⟩ := F w mg fa _ inK G.T.g hmg
  exact law_callG inK G.T.g G.T.b G.T.builtins G.T.nolimit noGen obj ints0 (Nat.le_trans hlen small) rm fG bnd (fun H ho sq => hsp w H a ns hlen ho sq) fun H e s' => noX w H t₁ e s'
end Mi
end
section
set_option Elab.async false
set_option linter.all false
set_option maxRecDepth 100000
open PySem PySem.Spec PyProof.Rows L2
namespace Mi

/-! ## calls of defs -/
inductive FR where
  | ok (r : R) (h : MH)
  | err (x : Xc) (h : MH)
  | no
abbrev MF := List D → MH → FR
def RF (K : PySem.W.Frag) (w : World) (H : Hp) (g' : Gh) (H' : Hp) (v : V) : R → Prop
  | .v d => Rep K w g' H' v d
  | .own ds => ∃ a vs, v = .ref a ∧ H a = none ∧ H' a = some (.lst vs) ∧ Reps K w g' H' vs ds ∧ ¬ g'.Fz a ∧ ∀ n, n < g'.top → g'.ρ n ≠ a
/-- what a def promises: it hands back what m tells -/
def spM (K : PySem.W.Frag) (w : World) (mg : Str → Option Value) (n : Nat) (m : MF) : Sp := fun vs H Q E => vs.length = n ∧ ∃ g ds h, HAt K w h g H ∧ Reps K w g H vs ds ∧ match m ds h with
  | .ok r h' => ∀ v g' H', FStep g H g' H' → HAt K w h' g' H' → RF K w H g' H' v r → Q v H'
  | .err x h' => ∀ cls d g' H', FStep g H g' H' → HAt K w h' g' H' → XR K w mg g' H' x cls d → E cls d H'
  | .no => False
/-- the def of this name keeps the promise -/
def FnF (F : Fr) (x : Str) (n : Nat) (m : MF) : Prop :=
  ∃ f fd ps, FnG F.P F.w F.K F.mg F.base (L2N.CX F.P F.w) F.k f fd ps (spM F.K F.w F.mg n m) ∧ F.mg x = some (.ref f) ∧ PySem.W.keepIn F.K (.ref f) = true ∧ Binds F.K fd ps []
def eCall (mf : MF) (m : MA) : ME := fun env h => (m env h).bind fun ds env h => match mf ds h with
  | .ok r h' => .ok r env h'
  | .err x h' => .err x env h'
  | .no => .no
section
variable {F : Fr} {e a b c : Expr} {es : List Expr} {pos : Pos} {X : Cx} {W : WX} {Hk : Hp} {gk g : Gh} {σ : L2.St} {env : Ev} {h : MH} {H : Hp}
theorem se_call {x : Str} {n : Nat} {mf : MF} {m : MA} {p : Pos} (hf : FnF F x n mf) (ha : SA F (e :: es) m) (hl : (e :: es).length = n := by rfl) (hcm : F.cm = true := by rfl) (hg : F.sc.names.lookup x = some .globalImplicit := by rfl) (hdb : (x == ("__debug__" : Str)) = false := by decide)
    (he : ∀ env, starEach (e :: es) env = (false, eval e env) :: starEach es env := by intros; rfl) (hpl : ∀ env, (backTo pos (starEach es env)).any (·.1) = false := by intros; rfl) :
    SE F (.Call (.Name x p) (e :: es) [] pos) (eCall mf m) := fun X W gd tk Hk gk σ env h g H Q at_ p => by
  obtain ⟨f, fd, ps, G, hm, hk, hb⟩ := hf
  have G' : FnG X.prog X.w X.K X.mg X.base (L2N.CX X.prog X.w) F.k f fd ps (spM X.K X.w X.mg n mf) := by rw [gd.prog, gd.w, gd.K, gd.mg, gd.base]; exact G
  refine uE_of (pe_callG (E := WE W) G' (gd.room hcm) gd.gds (by show X.env.scope.names.lookup x = _; rw [gd.sc]; exact hg) (by rw [gd.mg]; exact hm) (by rw [gd.K]; exact hk) (by rw [gd.K]; exact hb) (fun σ => L2N.passAt tk σ) pa_u hdb (he _) (hpl _)) ?_
  show uA X (e :: es) σ H fun vs H1 => spM X.K X.w X.mg n mf vs H1 Q (WE W σ)
  have hlen : ∀ ds1 env1 h1, m env h = .ok ds1 env1 h1 → ds1.length = n := fun ds1 env1 h1 q => (ha.len _ _ _ _ _ q).trans hl
  refine ha.run X W gd tk Hk gk σ env h g H _ at_ ?_
  have p := post.bind p
  cases em : m env h with
  | no => rw [em] at p; exact p.elim
  | err x2 e2 h2 => rw [em] at p; exact p
  | ok ds env1 h1 =>
    rw [em] at p
    refine fun g1 H1 s1 a1 xs rs => ?_
    have p1 := p g1 H1 s1 a1
    dsimp only at p1
    refine ⟨by rw [rs.length]; exact hlen _ _ _ em, g1, ds, h1, a1.hat, rs, ?_⟩
    cases er : mf ds h1 with
    | no => rw [er] at p1; exact p1.elim
    | err x2 h2 =>
      rw [er] at p1
      exact fun cls d g' H' fs hat xr => p1 g' H' cls d fs.toStep (a1.fstep fs hat) xr
    | ok r h2 =>
      rw [er] at p1
      refine fun v g' H' fs hat rf => p1 g' H' fs.toStep (a1.fstep fs hat) v ?_
      cases r with
      | v d => exact rf
      | own ds' =>
        obtain ⟨q, us, rfl, n1, e1, r1, nf, nρ⟩ := rf
        obtain ⟨f1, f2, f3, f4⟩ := a1.fresh n1
        exact ⟨q, rfl, ⟨⟨us, e1, r1⟩, nf, nρ, f1⟩, f4⟩
end

/-! ## statements -/
inductive Fl where
  | nx (env : Ev) (h : MH)
  | rt (r : R) (env : Ev) (h : MH)
  | bk (env : Ev) (h : MH)
  | ct (env : Ev) (h : MH)
  | err (x : Xc) (env : Ev) (h : MH)
  | no
abbrev MS := Ev → MH → Fl
def Rs.bindS {α : Type} (r : Rs α) (f : α → Ev → MH → Fl) : Fl := match r with
  | .ok a e h => f a e h
  | .err x e h => .err x e h
  | .no => .no
@[simp] theorem Rs.bindS_ok {α : Type} (a : α) (e : Ev) (h : MH) (f : α → Ev → MH → Fl) : (Rs.ok a e h).bindS f = f a e h := rfl
@[simp] theorem Rs.bindS_err {α : Type} (x : Xc) (e : Ev) (h : MH) (f : α → Ev → MH → Fl) : (Rs.err x e h : Rs α).bindS f = .err x e h := rfl
@[simp] theorem Rs.bindS_no {α : Type} (f : α → Ev → MH → Fl) : (Rs.no : Rs α).bindS f = .no := rfl
section
variable (K : PySem.W.Frag) (w : World)
def postS (mg : Str → Option Value) (W : WX) (Hk : Hp) (gk : Gh) (g : Gh) (H : Hp) (r : Fl) (Dn : Ends) : Prop := match r with
  | .nx env' h' => ∀ σ' g' H', Step g H g' H' → At K w mg Hk gk σ' env' h' g' H' → Dn.nx σ' H'
  | .rt r env' h' => ∀ v σ' g' H', Step g H g' H' → At K w mg Hk gk σ' env' h' g' H' → RR K w Hk σ' env' g' H' v r → Dn.rt v H'
  | .bk env' h' => ∀ σ' g' H', Step g H g' H' → At K w mg Hk gk σ' env' h' g' H' → Dn.bk σ' H'
  | .ct env' h' => ∀ σ' g' H', Step g H g' H' → At K w mg Hk gk σ' env' h' g' H' → Dn.ct σ' H'
  | .err x env' h' => ∀ σ' g' H' cls d, Step g H g' H' → At K w mg Hk gk σ' env' h' g' H' → XR K w mg g' H' x cls d → W cls d σ' H'
  | .no => False
end
section
variable {K : PySem.W.Frag} {w : World} {mg : Str → Option Value} {W : WX} {Hk : Hp} {gk : Gh} {σ : L2.St} {g g1 : Gh} {H H1 : Hp}
theorem postS.step {r : Fl} {Dn : Ends} (s : Step g H g1 H1) (p : postS K w mg W Hk gk g H r Dn) : postS K w mg W Hk gk g1 H1 r Dn := by
  cases r with
  | nx e h => exact fun σ' g' H' s' x => p σ' g' H' (s.trans s') x
  | rt r e h => exact fun v σ' g' H' s' x q => p v σ' g' H' (s.trans s') x q
  | bk e h => exact fun σ' g' H' s' x => p σ' g' H' (s.trans s') x
  | ct e h => exact fun σ' g' H' s' x => p σ' g' H' (s.trans s') x
  | err x e h => exact fun σ' g' H' c d s' a q => p σ' g' H' c d (s.trans s') a q
  | no => exact p
theorem postS.bind {α : Type} {r : Rs α} {f : α → Ev → MH → Fl} {Dn : Ends} (p : postS K w mg W Hk gk g H (r.bindS f) Dn) :
    post K w mg W Hk gk σ g H r (fun a e h g' H' => postS K w mg W Hk gk g' H' (f a e h) Dn) := by
  cases r with
  | ok a e h => exact fun g' H' s' _ => postS.step s' p
  | err x e h => exact fun g' H' c d s' a q => p σ g' H' c d s' a q
  | no => exact p
/-- another end -/
theorem postS.imp {r : Fl} {Dn Dn' : Ends} (p : postS K w mg W Hk gk g H r Dn) (h1 : ∀ e h σ' g' H', r = .nx e h → Step g H g' H' → At K w mg Hk gk σ' e h g' H' → Dn.nx σ' H' → Dn'.nx σ' H') (h2 : ∀ v H', Dn.rt v H' → Dn'.rt v H')
    (h3 : ∀ e h σ' g' H', r = .bk e h → Step g H g' H' → At K w mg Hk gk σ' e h g' H' → Dn.bk σ' H' → Dn'.bk σ' H') (h4 : ∀ e h σ' g' H', r = .ct e h → Step g H g' H' → At K w mg Hk gk σ' e h g' H' → Dn.ct σ' H' → Dn'.ct σ' H') : postS K w mg W Hk gk g H r Dn' := by
  cases r with
  | nx e h => exact fun σ' g' H' s' x => h1 e h σ' g' H' rfl s' x (p σ' g' H' s' x)
  | rt r e h => exact fun v σ' g' H' s' x q => h2 v H' (p v σ' g' H' s' x q)
  | bk e h => exact fun σ' g' H' s' x => h3 e h σ' g' H' rfl s' x (p σ' g' H' s' x)
  | ct e h => exact fun σ' g' H' s' x => h4 e h σ' g' H' rfl s' x (p σ' g' H' s' x)
  | err x e h => exact p
  | no => exact p
end
structure GoodS (F : Fr) (X : Cx) : Prop extends Good F X where
  po : F.cm = true → PassesOwn (model X.prog X.w) X.A X.env X.xe
  stk : X.stack = X.env :: X.outer
  frm : X.env.frame = some X.env.locals
  nex : X.ex = []
section
variable (F : Fr)
def SS (st : Stmt) (m : MS) : Prop := ∀ X W, GoodS F X → Takes X W → ∀ Hk gk σ env h g H (Dn : Ends), At X.K X.w X.mg Hk gk σ env h g H →
  postS X.K X.w X.mg W Hk gk g H (m env h) Dn → uS X st Dn σ H
def SSs (st : List Stmt) (m : MS) : Prop := ∀ X W, GoodS F X → Takes X W → ∀ Hk gk σ env h g H (Dn : Ends), At X.K X.w X.mg Hk gk σ env h g H →
  postS X.K X.w X.mg W Hk gk g H (m env h) Dn → uSs X st Dn σ H
end
section
variable {F : Fr} {e a b c : Expr} {es : List Expr} {pos : Pos} {X : Cx} {W : WX} {Hk : Hp} {gk g : Gh} {σ : L2.St} {env : Ev} {h : MH} {H : Hp} {st : Stmt} {sts : List Stmt}
theorem SE.goS {m : ME} (s : SE F e m) (gd : Good F X) (tk : Takes X W) (at_ : At X.K X.w X.mg Hk gk σ env h g H) {f : R → Ev → MH → Fl} {Dn : Ends} {Q : VK} (p : postS X.K X.w X.mg W Hk gk g H ((m env h).bindS f) Dn)
    (k : ∀ r env1 h1 g1 H1 x, Step g H g1 H1 → At X.K X.w X.mg Hk gk σ env1 h1 g1 H1 → RR X.K X.w Hk σ env1 g1 H1 x r → postS X.K X.w X.mg W Hk gk g1 H1 (f r env1 h1) Dn → Q x H1) : uE X e σ H Q :=
  s X W gd tk Hk gk σ env h g H Q at_ ((postS.bind p).imp fun d env1 h1 g1 H1 st a1 q x rx => k d env1 h1 g1 H1 x st a1 rx q)
theorem SV.goS {m : MV} (s : SV F e m) (gd : Good F X) (tk : Takes X W) (at_ : At X.K X.w X.mg Hk gk σ env h g H) {f : D → Ev → MH → Fl} {Dn : Ends} {Q : VK} (p : postS X.K X.w X.mg W Hk gk g H ((m env h).bindS f) Dn)
    (k : ∀ d env1 h1 g1 H1 x, Step g H g1 H1 → At X.K X.w X.mg Hk gk σ env1 h1 g1 H1 → Rep X.K X.w g1 H1 x d → postS X.K X.w X.mg W Hk gk g1 H1 (f d env1 h1) Dn → Q x H1) : uE X e σ H Q :=
  s X W gd tk Hk gk σ env h g H Q at_ ((postS.bind p).imp fun d env1 h1 g1 H1 st a1 q x rx => k d env1 h1 g1 H1 x st a1 rx q)
theorem SB.goS {m : MB} (s : SB F e m) (gd : Good F X) (tk : Takes X W) (at_ : At X.K X.w X.mg Hk gk σ env h g H) {f : Bool → Ev → MH → Fl} {Dn : Ends} {Q : Bool → Hp → Prop} (p : postS X.K X.w X.mg W Hk gk g H ((m env h).bindS f) Dn)
    (k : ∀ b env1 h1 g1 H1, Step g H g1 H1 → At X.K X.w X.mg Hk gk σ env1 h1 g1 H1 → postS X.K X.w X.mg W Hk gk g1 H1 (f b env1 h1) Dn → Q b H1) : uT X e σ H Q :=
  s X W gd tk Hk gk σ env h g H Q at_ ((postS.bind p).imp fun d env1 h1 g1 H1 st a1 q => k d env1 h1 g1 H1 st a1 q)
def sNil : MS := fun env h => .nx env h
def sSeq (m n : MS) : MS := fun env h => match m env h with
  | .nx env h => n env h
  | r => r
theorem sss_nil : SSs F [] sNil := fun X W gd tk Hk gk σ env h g H Dn at_ p => uSs_of pss_nil (p σ g H (Step.refl _ _) at_)
theorem seq_post {K : PySem.W.Frag} {w : World} {mg : Str → Option Value} {r : Fl} {n : MS} {Dn : Ends} {T : TS}
    (k : ∀ env h σ g H, At K w mg Hk gk σ env h g H → postS K w mg W Hk gk g H (n env h) Dn → T Dn σ H)
    (p : postS K w mg W Hk gk g H (match r with | .nx env h => n env h | r => r) Dn) : postS K w mg W Hk gk g H r { Dn with nx := T Dn } := by
  cases r with
  | nx e h => exact fun σ' g' H' s' x => k e h σ' g' H' x (postS.step s' p)
  | rt r e h => exact p
  | bk e h => exact p
  | ct e h => exact p
  | err x e h => exact p
  | no => exact p
theorem sss_cons {m n : MS} (h1 : SS F st m) (h2 : SSs F sts n) : SSs F (st :: sts) (sSeq m n) := fun X W gd tk Hk gk σ env h g H Dn at_ p => by
  refine uSs_of (pss_cons ps_u pss_u) ?_
  refine h1 X W gd tk Hk gk σ env h g H _ at_ (seq_post (fun env' h' σ' g' H' a' q => h2 X W gd tk Hk gk σ' env' h' g' H' Dn a' q) ?_)
  exact p
theorem sss_one {m : MS} (h1 : SS F st m) : SSs F [st] m := fun X W gd tk Hk gk σ env h g H Dn at_ p => uSs_of (pss_one ps_u) (h1 X W gd tk Hk gk σ env h g H Dn at_ p)
def sExpr (m : ME) : MS := fun env h => (m env h).bindS fun _ env h => .nx env h
theorem ss_expr {m : ME} (he : SE F e m) (hs : ∀ env, swapsWith e none pos.line env = pure false := by intros; rfl) : SS F (.Expr e pos) (sExpr m) := fun X W gd tk Hk gk σ env h g H Dn at_ p => by
  refine uS_of (ps_expr pe_u (hs _)) ?_
  exact he.goS gd.toGood tk at_ p fun r env1 h1 g1 H1 x s1 a1 rx p1 => p1 σ g1 H1 (Step.refl _ _) a1
def sRet (m : ME) : MS := fun env h => (m env h).bindS fun r env h => .rt r env h
theorem ss_ret {m : ME} (he : SE F e m) : SS F (.Return (some e) pos) (sRet m) := fun X W gd tk Hk gk σ env h g H Dn at_ p => by
  refine uS_of (ps_ret pe_u) ?_
  exact he.goS gd.toGood tk at_ p fun r env1 h1 g1 H1 x s1 a1 rx p1 => p1 x σ g1 H1 (Step.refl _ _) a1 rx
def sRetN : MS := fun env h => .rt (.v .non) env h
theorem ss_retN : SS F (.Return none pos) sRetN := fun X W gd tk Hk gk σ env h g H Dn at_ p => uS_of ps_retN (p .non σ g H (Step.refl _ _) at_ (by simp [RR, Rep]))
def sBk : MS := fun env h => .bk env h
def sCt : MS := fun env h => .ct env h
theorem ss_pass : SS F (.Pass pos) sNil := fun X W gd tk Hk gk σ env h g H Dn at_ p => uS_of ps_pass (p σ g H (Step.refl _ _) at_)
theorem ss_break : SS F (.Break pos) sBk := fun X W gd tk Hk gk σ env h g H Dn at_ p => uS_of ps_break (p σ g H (Step.refl _ _) at_)
theorem ss_cont : SS F (.Continue pos) sCt := fun X W gd tk Hk gk σ env h g H Dn at_ p => uS_of ps_continue (p σ g H (Step.refl _ _) at_)
def sNo : MS := fun _ _ => .no
theorem ss_no : SS F st sNo := fun X W gd tk Hk gk σ env h g H Dn at_ p => p.elim
def sIf (c : MB) (m n : MS) : MS := fun env h => (c env h).bindS fun b env h => if b = true then m env h else n env h
theorem ss_if {mc : MB} {m n : MS} {A B : List Stmt} (hc : SB F c mc) (ha : SSs F A m) (hb : SSs F B n) : SS F (.If c A B pos) (sIf mc m n) := fun X W gd tk Hk gk σ env h g H Dn at_ p => by
  refine uS_of (ps_if pt_u pss_u pss_u) ?_
  refine hc.goS gd.toGood tk at_ p fun b env1 h1 g1 H1 s1 a1 p1 => ?_
  cases b with
  | true => rw [if_pos rfl] at p1 ⊢; exact ha X W gd tk Hk gk σ env1 h1 g1 H1 Dn a1 p1
  | false => rw [if_neg (by decide)] at p1 ⊢; exact hb X W gd tk Hk gk σ env1 h1 g1 H1 Dn a1 p1
def sSet (i : Nat) (m : ME) : MS := fun env h => (m env h).bindS fun r env h => .nx (env.set i r.sl) h
theorem ss_set {i : Nat} {x : Str} {m : ME} {pos' : Pos} (hN : F.N[i]? = some x := by rfl) (hx : F.sc.names.lookup x = some .local ∨ (F.sc.names.lookup x = some .cell ∧ F.fn x = true) := by first | exact Or.inl rfl | exact Or.inr ⟨rfl, rfl⟩) (he : SE F e m) (hs : ∀ env, swapsWith e (some (.Name x pos')) pos.line env = pure false := by intros; rfl) :
    SS F (.Assign [.Name x pos'] e pos) (sSet i m) := fun X W gd tk Hk gk σ env h g H Dn at_ p => by
  have hl : X.fn x = true ∨ X.env.scope.names.lookup x = some .local := by
    rw [gd.sc]
    rcases hx with hx | hx
    · exact .inr hx
    · exact .inl (gd.fn x hx.2)
  refine uS_of (ps_set (i := i) gd.nd (by rw [gd.N]; exact hN) (by unfold L2.Loc; rw [gd.sc]; exact hx.imp id (·.1)) pe_u (hs _) hl) ?_
  exact he.goS gd.toGood tk at_ p fun r env1 h1 g1 H1 x s1 a1 rx p1 => p1 _ g1 H1 (Step.refl _ _) (a1.asg i rx)
def sAug (i : Nat) (op : MH → D → D → Option R) (m : MV) : MS := fun env h => match env[i]? with
  | some (.v d) => (m env h).bindS fun y env h => match op h d y with
    | some r => .nx (env.set i r.sl) h
    | none => .no
  | _ => .no
theorem ss_aug {i : Nat} {x : Str} {op : Operator} {o : MH → D → D → Option R} {m : MV} {pos' : Pos} (hN : F.N[i]? = some x := by rfl) (hx : F.sc.names.lookup x = some .local ∨ (F.sc.names.lookup x = some .cell ∧ F.fn x = true) := by first | exact Or.inl rfl | exact Or.inr ⟨rfl, rfl⟩) (ho : OpOk F (inplaceOp op) o) (he : SV F e m) :
    SS F (.AugAssign (.Name x pos') op e pos) (sAug i o m) := fun X W gd tk Hk gk σ env h g H Dn at_ p => by
  have hl : X.fn x = true ∨ X.env.scope.names.lookup x = some .local := by
    rw [gd.sc]
    rcases hx with hx | hx
    · exact .inr hx
    · exact .inl (gd.fn x hx.2)
  refine uS_of (ps_aug (i := i) (ti := uOp X (inplaceOp op)) gd.nd (by rw [gd.N]; exact hN) (by unfold L2.Loc; rw [gd.sc]; exact hx.imp id (·.1)) pe_u op_u hl) ?_
  unfold sAug at p
  split at p
  · rename_i d ed
    obtain ⟨v, h1, h2⟩ := at_.val i d ed
    refine ⟨v, h1, ?_⟩
    refine he.goS gd.toGood tk at_ p fun y env1 h1 g1 H1 z s1 a1 rz p1 => ?_
    split at p1
    · rename_i r er
      refine ho X gd.toGood h1 g1 H1 a1.hat v z d y r (h2.step s1) rz er _ fun z' g' H' gr q => ?_
      exact p1 _ g' H' (gr.fstep a1.hat).toStep ((gr.at a1).asg i (q.rr a1 gr))
    · exact p1.elim
  · exact p.elim

/-! ## a def's body -/
def runF (n : Nat) (mb : MS) : MF := fun ds h => match mb (ds.map Sl.v ++ List.replicate (n - ds.length) .un) h with
  | .nx _ h' => .ok (.v .non) h'
  | .rt r _ h' => .ok r h'
  | .err x _ h' => .err x h'
  | _ => .no
theorem at_start {K : PySem.W.Frag} {w : World} {mg : Str → Option Value} {N : List Str} {vs : List V} {ds : List D} (hat : HAt K w h g H) (rs : Reps K w g H vs ds) : At K w mg H g (L2.start N vs) (ds.map Sl.v ++ List.replicate (N.length - ds.length) .un) h g H where
  hat := hat
  fs := FStep.refl hat
  len := by unfold L2.start; rw [List.length_append, List.length_append, List.length_map, List.length_map, List.length_replicate, List.length_replicate, rs.length]
  val := fun i d e => by
    by_cases hi : i < ds.length
    · rw [List.getElem?_append_left (by rw [List.length_map]; exact hi), List.getElem?_map] at e
      rw [List.getElem?_eq_getElem hi] at e
      simp at e
      obtain ⟨v, e1, r⟩ := rs.get' (List.getElem?_eq_getElem hi)
      refine ⟨v, ?_, by rw [← e]; exact r⟩
      unfold L2.start
      rw [List.getElem?_append_left (by rw [List.length_map, rs.length]; exact hi), List.getElem?_map, e1]
      rfl
    · rw [List.getElem?_append_right (by rw [List.length_map]; omega), List.getElem?_replicate] at e
      split at e <;> cases e
  own := fun i d e => by
    by_cases hi : i < ds.length
    · rw [List.getElem?_append_left (by rw [List.length_map]; exact hi), List.getElem?_map] at e
      rw [List.getElem?_eq_getElem hi] at e
      simp at e
    · rw [List.getElem?_append_right (by rw [List.length_map]; omega), List.getElem?_replicate] at e
      split at e <;> cases e
  dist := fun i j d1 d2 a e => by
    by_cases hi : i < ds.length
    · rw [List.getElem?_append_left (by rw [List.length_map]; exact hi), List.getElem?_map] at e
      rw [List.getElem?_eq_getElem hi] at e
      simp at e
    · rw [List.getElem?_append_right (by rw [List.length_map]; omega), List.getElem?_replicate] at e
      split at e <;> cases e
  exc := fun i x e => by
    by_cases hi : i < ds.length
    · rw [List.getElem?_append_left (by rw [List.length_map]; exact hi), List.getElem?_map] at e
      rw [List.getElem?_eq_getElem hi] at e
      simp at e
    · rw [List.getElem?_append_right (by rw [List.length_map]; omega), List.getElem?_replicate] at e
      split at e <;> cases e
theorem RR.rf {K : PySem.W.Frag} {w : World} {g' : Gh} {H' : Hp} {v : V} {r : R} (q : RR K w H σ env g' H' v r) : RF K w H g' H' v r := by
  cases r with
  | v d => exact q
  | own ds =>
    obtain ⟨a, e, ⟨⟨vs, h1, h2⟩, h3, h4, h5⟩, _⟩ := q
    exact ⟨a, vs, e, h5, h1, h2, h3, h4⟩
/-- THE RULE for a def: the body's mirror is the def's -/
theorem fn_ok {P : Program} {w : World} {K : PySem.W.Frag} {mg : Str → Option Value} {base : Heap} {x qual : Str} {st : Stmt} {f : Addr} {fd : FuncData} {N ps : List Str} {k : Nat} {mb : MS} (F0 : Fun K x qual st f fd) (Sc : FnScope N ps (defScope st))
    (body : SSs ⟨P, w, K, mg, base, N, defScope st, k, fun _ => true, true⟩ (defBody st) mb) : FnG P w K mg base (L2N.CX P w) (k + 1) f fd ps (spM K w mg ps.length (runF N.length mb)) := by
  refine fnG_of F0 Sc (fun vs H Q E hsp => hsp.1) (fun cdv A outer s H vs Q E hr hgd hsp => ⟨uSs _ _, pss_u, ?_⟩)
  obtain ⟨hl, g, ds, h, hat, rs, hm⟩ := hsp
  refine body _ (fun cls d _ H => E cls d H) ⟨⟨rfl, rfl, rfl, rfl, rfl, rfl, Sc.nd, rfl, Sc.kind, hr.dp, hr.un, fun _ => hr.hd, hgd, fun _ => rfl, fun _ _ => rfl, fun z => nomatch z⟩, fun _ => passes_of rfl, rfl, rfl, rfl⟩ (L2N.takes_of rfl rfl rfl rfl) H g _ _ h g H _ (at_start hat rs) ?_
  unfold runF at hm
  cases er : mb (ds.map Sl.v ++ List.replicate (N.length - ds.length) .un) h with
  | nx e h' => rw [er] at hm; exact fun σ' g' H' s' a' => hm .non g' H' a'.fs a'.hat (by simp [RF, Rep])
  | rt r e h' => rw [er] at hm; exact fun v σ' g' H' s' a' q => hm v g' H' a'.fs a'.hat q.rf
  | bk e h' => rw [er] at hm; exact hm.elim
  | ct e h' => rw [er] at hm; exact hm.elim
  | err x e h' => rw [er] at hm; exact fun σ' g' H' cls d s' a' q => hm cls d g' H' a'.fs a'.hat q
  | no => rw [er] at hm; exact hm.elim
end
end Mi
end
section
set_option Elab.async false
set_option linter.all false
set_option maxRecDepth 100000
open PySem PySem.Spec PyProof.Rows L2
namespace Mi

/-! ## targets -/
abbrev Tg := D → Ev → Option Ev
section
variable (X : Cx)
def uG (t : Expr) : TG := fun v σ H Q => ∀ pins s u, Inv X pins σ H s → RelV v u → wpAny (model X.prog X.w) X.A (assign t X.env u) (fun _ s' => ∃ σ' H', Inv X pins σ' H' s' ∧ Q σ' H') X.xe s
def uGs (ts : List Expr) : TGs := fun vs σ H Q => ∀ pins s us, Inv X pins σ H s → Vals vs us → wpAny (model X.prog X.w) X.A (assignInOrder ((assignEach ts X.env).map (·.2)) us) (fun _ s' => ∃ σ' H', Inv X pins σ' H' s' ∧ Q σ' H') X.xe s
def uI (tg it : Expr) : TI := fun σ H R => ∀ pins s, Inv X pins σ H s → wpAny (model X.prog X.w) X.A (eval it X.env) (fun v s1 => wpAny (model X.prog X.w) X.A (pyIter v) (PIE X pins σ tg R) X.xe s1) X.xe s
variable {X}
theorem pg_u {t : Expr} : PG X t (uG X t) := ⟨fun pins s σ H v u Q I r h => h pins s u I r⟩
theorem pgs_u {ts : List Expr} : PGs X ts (uGs X ts) := ⟨fun pins s σ H vs us Q I r h => h pins s us I r⟩
theorem pi_u {tg it : Expr} : PI X tg it (uI X tg it) := ⟨fun pins s σ H R I h => h pins s I⟩
theorem uG_of {t : Expr} {g : TG} (h : PG X t g) {v : V} {σ : L2.St} {H : Hp} {Q : L2.St → Hp → Prop} (q : g v σ H Q) : uG X t v σ H Q := fun pins s u I r => h.run pins s σ H v u Q I r q
theorem uGs_of {ts : List Expr} {g : TGs} (h : PGs X ts g) {vs : List V} {σ : L2.St} {H : Hp} {Q : L2.St → Hp → Prop} (q : g vs σ H Q) : uGs X ts vs σ H Q := fun pins s us I r => h.run pins s σ H vs us Q I r q
theorem uI_of {tg it : Expr} {w : TI} (h : PI X tg it w) {σ : L2.St} {H : Hp} {R : It → Hp → Prop} (q : w σ H R) : uI X tg it σ H R := fun pins s I => h.run pins s σ H R I q
end
/-- agree but at these places -/
def Agree (vs : List Nat) (σ σ' : L2.St) : Prop := σ'.length = σ.length ∧ ∀ i, i ∉ vs → σ'[i]? = σ[i]?
theorem wipe_get {σ : L2.St} {i : Nat} : ∀ {vs : List Nat}, i ∈ vs → i < σ.length → (wipe σ vs)[i]? = some none
  | [], h, _ => by simp at h
  | v :: vs, h, hl => by
    unfold wipe
    by_cases e : v = i
    · subst e
      rw [List.getElem?_set_self (by rw [wipe_length]; exact hl)]
    · rw [List.getElem?_set_ne e]
      refine wipe_get ?_ hl
      rcases List.mem_cons.mp h with q | q
      · exact absurd q.symm e
      · exact q
theorem Agree.wipe {vs : List Nat} {σ σ' : L2.St} (a : Agree vs σ σ') : L2.wipe σ' vs = L2.wipe σ vs := by
  apply List.ext_getElem?
  intro i
  by_cases h : i ∈ vs
  · by_cases hl : i < σ.length
    · rw [wipe_get h hl, wipe_get h (by rw [a.1]; exact hl)]
    · rw [List.getElem?_eq_none (by rw [wipe_length, a.1]; omega), List.getElem?_eq_none (by rw [wipe_length]; omega)]
  · rw [wipe_out h, wipe_out h, a.2 i h]
def SG (F : Fr) (t : Expr) (vs : List Nat) (m : Tg) : Prop := ∀ X, Good F X → ∀ Hk gk σ env h g H x d env', At X.K X.w X.mg Hk gk σ env h g H → Rep X.K X.w g H x d → m d env = some env' →
  ∀ Q : L2.St → Hp → Prop, (∀ σ', Agree vs σ σ' → At X.K X.w X.mg Hk gk σ' env' h g H → Q σ' H) → uG X t x σ H Q
def SGs (F : Fr) (ts : List Expr) (vs : List Nat) (m : List D → Ev → Option Ev) : Prop := ∀ X, Good F X → ∀ Hk gk σ env h g H xs ds env', At X.K X.w X.mg Hk gk σ env h g H → Reps X.K X.w g H xs ds → m ds env = some env' →
  ∀ Q : L2.St → Hp → Prop, (∀ σ', Agree vs σ σ' → At X.K X.w X.mg Hk gk σ' env' h g H → Q σ' H) → uGs X ts xs σ H Q
def tN (i : Nat) : Tg := fun d env => some (env.set i (.v d))
def tsNil : List D → Ev → Option Ev := fun ds env => match ds with
  | [] => some env
  | _ => none
def tsCons (m : Tg) (n : List D → Ev → Option Ev) : List D → Ev → Option Ev := fun ds env => match ds with
  | d :: ds => (match m d env with
    | some env => n ds env
    | none => none)
  | [] => none
def tT (n : List D → Ev → Option Ev) (k : Nat) : Tg := fun d env => match d with
  | .tup ds => if ds.length = k then n ds env else none
  | _ => none
section
variable {F : Fr} {e a b c : Expr} {es : List Expr} {pos : Pos} {X : Cx} {W : WX} {Hk : Hp} {gk g : Gh} {σ : L2.St} {env : Ev} {h : MH} {H : Hp}
theorem sg_name {i : Nat} {nm : Str} (hN : F.N[i]? = some nm := by rfl) (hx : F.sc.names.lookup nm = some .local ∨ (F.sc.names.lookup nm = some .cell ∧ F.fn nm = true) := by first | exact Or.inl rfl | exact Or.inr ⟨rfl, rfl⟩) : SG F (.Name nm pos) [i] (tN i) := fun X gd Hk gk σ env h g H x d env' at_ rx em Q k => by
  have hl : X.fn nm = true ∨ X.env.scope.names.lookup nm = some .local := by
    rw [gd.sc]
    rcases hx with hx | hx
    · exact .inr hx
    · exact .inl (gd.fn nm hx.2)
  refine uG_of (pg_name (i := i) gd.nd (by rw [gd.N]; exact hN) (by unfold L2.Loc; rw [gd.sc]; exact hx.imp id (·.1)) hl) ?_
  cases em
  refine k _ ⟨by rw [List.length_set], fun j hj => ?_⟩ (at_.asg (r := .v d) i rx)
  rw [List.getElem?_set_ne]
  intro q
  exact hj (by rw [q]; exact List.mem_cons_self)
theorem sgs_nil : SGs F [] [] tsNil := fun X gd Hk gk σ env h g H xs ds env' at_ rs em Q k => by
  refine uGs_of pgs_nil ?_
  cases ds with
  | nil =>
    rw [Reps.nil_iff] at rs
    cases em
    exact ⟨rs, k σ ⟨rfl, fun _ _ => rfl⟩ at_⟩
  | cons d ds => cases em
theorem sgs_cons {vs us : List Nat} {m : Tg} {n : List D → Ev → Option Ev} (h1 : SG F e vs m) (h2 : SGs F es us n) (hs : ∀ env, (assignEach (e :: es) env).map (·.2) = assign e env :: (assignEach es env).map (·.2) := by intros; rfl) : SGs F (e :: es) (vs ++ us) (tsCons m n) := fun X gd Hk gk σ env h g H xs ds env' at_ rs em Q k => by
  refine uGs_of (pgs_cons pg_u pgs_u (hs _)) ?_
  cases ds with
  | nil => cases em
  | cons d ds =>
    rw [Reps.cons_iff] at rs
    obtain ⟨v, r, rfl, r1, r2⟩ := rs
    simp only [tsCons] at em
    split at em
    · rename_i env1 e1
      refine ⟨v, r, rfl, ?_⟩
      refine h1 X gd Hk gk σ env h g H v d env1 at_ r1 e1 _ fun σ1 ag a1 => ?_
      refine h2 X gd Hk gk σ1 env1 h g H r ds env' a1 r2 em _ fun σ2 ag2 a2 => ?_
      refine k σ2 ⟨ag2.1.trans ag.1, fun i hi => ?_⟩ a2
      rw [ag2.2 i fun z => hi (List.mem_append_right _ z), ag.2 i fun z => hi (List.mem_append_left _ z)]
    · cases em
theorem sg_tup {vs : List Nat} {n : List D → Ev → Option Ev} {j k : Nat} (h1 : SGs F es vs n) (hcm : F.cm = true := by rfl) (hn : ∀ env, (assignEach es env).length = k := by intros; rfl) (hst : ∀ env, (assignEach es env).findIdx? (·.1) = none := by intros; rfl) : SG F (.Tuple es j pos) vs (tT n k) := fun X gd Hk gk σ env h g H x d env' at_ rx em Q kk => by
  refine uG_of (pg_tup (n := k) (gd.calm hcm) pgs_u (hn _) (hst _)) ?_
  cases d with
  | tup ds =>
    simp only [Rep] at rx
    obtain ⟨a, us, rfl, t, rs⟩ := rx
    simp only [tT] at em
    split at em
    · rename_i hl
      exact ⟨a, us, rfl, t.sq, by rw [rs.length]; exact hl, h1 X gd Hk gk σ env h g H us ds env' at_ rs em _ kk⟩
    · cases em
  | _ => cases em
/-- the same of a list -/
def tL (n : List D → Ev → Option Ev) (k : Nat) : Tg := fun d env => match d with
  | .lst ds => if ds.length = k then n ds env else none
  | _ => none
theorem sg_lst {vs : List Nat} {n : List D → Ev → Option Ev} {j k : Nat} (h1 : SGs F es vs n) (hcm : F.cm = true := by rfl) (hn : ∀ env, (assignEach es env).length = k := by intros; rfl) (hst : ∀ env, (assignEach es env).findIdx? (·.1) = none := by intros; rfl) : SG F (.Tuple es j pos) vs (tL n k) := fun X gd Hk gk σ env h g H x d env' at_ rx em Q kk => by
  refine uG_of (pg_unl (n := k) (gd.calm hcm) pgs_u (hn _) (hst _)) ?_
  cases d with
  | lst ds =>
    simp only [Rep] at rx
    obtain ⟨a, us, rfl, t, rs⟩ := rx
    simp only [tL] at em
    split at em
    · rename_i hl
      exact ⟨a, us, rfl, t.sq, by rw [rs.length]; exact hl, h1 X gd Hk gk σ env h g H us ds env' at_ rs em _ kk⟩
    · cases em
  | _ => cases em
def sAsg (t : Tg) (m : MV) : MS := fun env h => (m env h).bindS fun d env h => match t d env with
  | some env => .nx env h
  | none => .no
theorem ss_asg {t : Expr} {vs : List Nat} {m : MV} {tm : Tg} (hg : SG F t vs tm) (he : SV F e m) (hs : ∀ env, swapsWithSole [t] e pos.line env = pure false := by intros; rfl) (hw : ∀ env, swappedStores [t] e env = pure none := by intros; rfl) (h1 : ∀ env, (assignEach [t] env).map (·.2) = [assign t env] := by intros; rfl) :
    SS F (.Assign [t] e pos) (sAsg tm m) := fun X W gd tk Hk gk σ env h g H Dn at_ p => by
  refine uS_of (ps_asg pe_u pg_u (hs _) (hw _) (h1 _)) ?_
  refine he.goS gd.toGood tk at_ p fun d env1 h1 g1 H1 x s1 a1 rx p1 => ?_
  split at p1
  · rename_i env2 e2
    exact hg X gd.toGood Hk gk σ env1 h1 g1 H1 x d env2 a1 rx e2 _ fun σ' _ a2 => p1 σ' g1 H1 (Step.refl _ _) a2
  · exact p1.elim

/-! ## what is walked -/
/-- J hands out the ds, whatever happens meanwhile -/
def ItOk (K : PySem.W.Frag) (w : World) (g0 : Gh) (H0 : Hp) (J : It) (ds : List D) : Prop := ∀ g H h, Step g0 H0 g H → HAt K w h g H → ∀ i,
  (ds.length ≤ i → J.stop i H) ∧ ∀ d, ds[i]? = some d → J.go i H ∧ ∀ x H', J.yld i H x H' → ∃ g', Grow g H g' H' ∧ Rep K w g' H' x d
abbrev MI := Ev → MH → Rs (List D)
def SI (F : Fr) (tg it : Expr) (m : MI) : Prop := ∀ X W, Good F X → Takes X W → ∀ Hk gk σ env h g H (R : It → Hp → Prop), At X.K X.w X.mg Hk gk σ env h g H →
  post X.K X.w X.mg W Hk gk σ g H (m env h) (fun ds _ _ g' H' => ∀ J, ItOk X.K X.w g' H' J ds → R J H') → uI X tg it σ H R
def chars (s : List Nat) : List D := s.map fun c => .str [c]
def itemsD : D → Option (List D)
  | .lst ds => some ds
  | .tup ds => some ds
  | .str s => some (chars s)
  | _ => none
def iOf (m : MV) : MI := fun env h => (m env h).bind fun d env h => match itemsD d with
  | some ds => .ok ds env h
  | none => .no
theorem itl_ok {K : PySem.W.Frag} {w : World} {g0 : Gh} {H0 : Hp} {a : Addr} {vs : List V} {ds : List D} (l : LAt K g0 H0 a vs) (rs : Reps K w g0 H0 vs ds) : ItOk K w g0 H0 (Itl K a) ds := fun g H h s hat i => by
  have hq : SqL K H a vs := (l.step s).sq
  refine ⟨fun hi => ⟨vs, hq, by rw [rs.length]; exact hi⟩, fun d hd => ?_⟩
  obtain ⟨v, e, r⟩ := rs.get' hd
  refine ⟨⟨vs, v, hq, e⟩, fun x H' hy => ?_⟩
  obtain ⟨rfl, hx⟩ := hy
  have := hx vs hq
  rw [e] at this
  cases this
  exact ⟨g, Grow.refl hat, r.step s⟩
theorem itt_ok {K : PySem.W.Frag} {w : World} {g0 : Gh} {H0 : Hp} {a : Addr} {vs : List V} {ds : List D} (l : TAt K g0 H0 a vs) (rs : Reps K w g0 H0 vs ds) : ItOk K w g0 H0 (Itt K a) ds := fun g H h s hat i => by
  have hq : SqT K H a vs := (l.step s).sq
  refine ⟨fun hi => ⟨vs, hq, by rw [rs.length]; exact hi⟩, fun d hd => ?_⟩
  obtain ⟨v, e, r⟩ := rs.get' hd
  refine ⟨⟨vs, v, hq, e⟩, fun x H' hy => ?_⟩
  obtain ⟨rfl, hx⟩ := hy
  have := hx vs hq
  rw [e] at this
  cases this
  exact ⟨g, Grow.refl hat, r.step s⟩
theorem its_ok {K : PySem.W.Frag} {w : World} {g0 : Gh} {H0 : Hp} {s : List Nat} : ItOk K w g0 H0 (Its (S s)) (chars s) := fun g H h st hat i => by
  refine ⟨fun hi => by unfold chars at hi; rw [List.length_map] at hi; show (S s).cps.size ≤ i; simpa [S] using hi, fun d hd => ?_⟩
  unfold chars at hd
  rw [List.getElem?_map] at hd
  cases e : s[i]? with
  | none => rw [e] at hd; cases hd
  | some c =>
    rw [e] at hd
    cases hd
    have hi : i < s.length := (List.getElem?_eq_some_iff.mp e).1
    refine ⟨by show i < (S s).cps.size; simpa [S] using hi, fun x H' hy => ?_⟩
    obtain ⟨rfl, c', e', rfl⟩ := hy
    have : c' = c := by
      have e2 : (S s).cps[i]? = s[i]? := by simp [S]
      rw [e2, e] at e'
      exact (Option.some.inj e').symm
    subst this
    exact ⟨g, Grow.refl hat, by simp [Rep, S]⟩
theorem itr_ok {K : PySem.W.Frag} {w : World} {g0 : Gh} {H0 : Hp} {lo : Int} {n : Nat} : ItOk K w g0 H0 (Itr lo n) ((List.range n).map fun k => D.int (lo + (k : Nat))) := fun g H h st hat i => by
  refine ⟨fun hi => by rw [List.length_map, List.length_range] at hi; exact hi, fun d hd => ?_⟩
  rw [List.getElem?_map] at hd
  by_cases hi : i < n
  · rw [List.getElem?_range hi] at hd
    cases hd
    refine ⟨hi, fun x H' hy => ?_⟩
    obtain ⟨rfl, rfl⟩ := hy
    exact ⟨g, Grow.refl hat, by simp [Rep]⟩
  · rw [List.getElem?_eq_none (by rw [List.length_range]; omega)] at hd
    cases hd
/-- over a value: the rule is chosen by the data -/
theorem si_val {tg : Expr} {m : MV} (he : SV F e m) : SI F tg e (iOf m) := fun X W gd tk Hk gk σ env h g H R at_ p => by
  have p := post.bind p
  cases em : m env h with
  | no => rw [em] at p; exact p.elim
  | err x2 e2 h2 =>
    rw [em] at p
    refine uI_of (pi_list pe_u) ?_
    refine he X W gd tk Hk gk σ env h g H _ at_ ?_
    rw [em]
    exact p
  | ok d env1 h1 =>
    rw [em] at p
    cases d with
    | lst ds =>
      refine uI_of (pi_list pe_u) ?_
      refine he X W gd tk Hk gk σ env h g H _ at_ ?_
      rw [em]
      refine fun g1 H1 s1 a1 x rx => ?_
      simp only [Rep] at rx
      obtain ⟨a, vs, rfl, l, rs⟩ := rx
      exact ⟨a, rfl, ⟨vs, l.sq⟩, p g1 H1 s1 a1 g1 H1 (Step.refl _ _) a1 _ (itl_ok l rs)⟩
    | tup ds =>
      refine uI_of (pi_tup pe_u) ?_
      refine he X W gd tk Hk gk σ env h g H _ at_ ?_
      rw [em]
      refine fun g1 H1 s1 a1 x rx => ?_
      simp only [Rep] at rx
      obtain ⟨a, vs, rfl, l, rs⟩ := rx
      exact ⟨a, rfl, ⟨vs, l.sq⟩, p g1 H1 s1 a1 g1 H1 (Step.refl _ _) a1 _ (itt_ok l rs)⟩
    | str s =>
      refine uI_of (pi_str pe_u) ?_
      refine he X W gd tk Hk gk σ env h g H _ at_ ?_
      rw [em]
      refine fun g1 H1 s1 a1 x rx => ?_
      exact ⟨S s, by simpa [Rep] using rx, p g1 H1 s1 a1 g1 H1 (Step.refl _ _) a1 _ its_ok⟩
    | _ => exact (p g H (Step.refl g H) |> fun q => by
        refine uI_of (pi_list pe_u) ?_
        refine he X W gd tk Hk gk σ env h g H _ at_ ?_
        rw [em]
        exact fun g1 H1 s1 a1 x rx => (p g1 H1 s1 a1).elim)
def rangeD (lo : Int) (n : Nat) : List D := (List.range n).map fun k => D.int (lo + (k : Nat))
/-- no large int; its test is cheap for the kernel -/
def smallI (j : Int) : Prop := j.natAbs ≤ 1099511627776
instance (j : Int) : Decidable (smallI j) := by unfold smallI; infer_instance
def iRange1 (m : MV) : MI := fun env h => (m env h).bind fun d env h => match d with
  | .int j => if smallI j then .ok (rangeD 0 j.toNat) env h else .no
  | _ => .no
theorem si_range1 {tg : Expr} {m : MV} {p : Pos} (ha : SV F a m) (hg : F.sc.names.lookup ("range" : Str) = some .globalImplicit := by rfl) (hm : F.mg "range" = none) (hs : ∀ env, starEach [a] env = [(false, eval a env)] := by intros; rfl) : SI F tg (.Call (.Name "range" p) [a] [] pos) (iRange1 m) := fun X W gd tk Hk gk σ env h g H R at_ p => by
  refine uI_of (pi_range1 (by show X.env.scope.names.lookup _ = _; rw [gd.sc]; exact hg) (by rw [gd.mg]; exact hm) (pa_cons pe_u pa_nil (by rw [hs]; rfl)) (hs _)) ?_
  show uE X a σ H fun x H1 => ∃ j : Int, [x] = [.int j] ∧ -(2 ^ 62) ≤ j ∧ j < 2 ^ 62 ∧ R (Itr 0 j.toNat) H1
  refine ha.go gd tk at_ p fun d env1 h1 g1 H1 x s1 a1 rx p1 => ?_
  split at p1
  · rename_i j
    split at p1
    · rename_i hj
      unfold smallI at hj
      exact ⟨j, by simpa [Rep] using rx, by omega, by omega, p1 g1 H1 (Step.refl _ _) a1 _ itr_ok⟩
    · exact p1.elim
  · exact p1.elim
def iRange2 (m n : MV) : MI := fun env h => (m env h).bind fun d env h => (n env h).bind fun d' env h => match d, d' with
  | .int i, .int j => if smallI i ∧ smallI j then .ok (rangeD i (j - i).toNat) env h else .no
  | _, _ => .no
theorem si_range2 {tg : Expr} {m n : MV} {p : Pos} (ha : SV F a m) (hb : SV F b n) (hg : F.sc.names.lookup ("range" : Str) = some .globalImplicit := by rfl) (hm : F.mg "range" = none) (hs : ∀ env, starEach [a, b] env = [(false, eval a env), (false, eval b env)] := by intros; rfl) (hs2 : ∀ env, starEach [b] env = [(false, eval b env)] := by intros; rfl) :
    SI F tg (.Call (.Name "range" p) [a, b] [] pos) (iRange2 m n) := fun X W gd tk Hk gk σ env h g H R at_ p => by
  refine uI_of (pi_range2 (by show X.env.scope.names.lookup _ = _; rw [gd.sc]; exact hg) (by rw [gd.mg]; exact hm) (pa_cons pe_u (pa_cons pe_u pa_nil (by rw [hs2]; rfl)) (by rw [hs, hs2])) (hs _) (hs2 _)) ?_
  show uE X a σ H fun x H1 => uE X b σ H1 fun y H2 => ∃ i j : Int, [x, y] = [.int i, .int j] ∧ (-(2 ^ 62) ≤ i ∧ i < 2 ^ 62 ∧ -(2 ^ 62) ≤ j ∧ j < 2 ^ 62) ∧ R (Itr i (j - i).toNat) H2
  refine ha.go gd tk at_ p fun d env1 h1 g1 H1 x s1 a1 rx p1 => ?_
  refine hb.go gd tk a1 p1 fun d' env2 h2 g2 H2 y s2 a2 ry p2 => ?_
  split at p2
  · rename_i i j
    split at p2
    · rename_i hj
      have e1 : x = .int i := by simpa [Rep] using rx
      have e2 : y = .int j := by simpa [Rep] using ry
      obtain ⟨hj1, hj2⟩ := hj
      unfold smallI at hj1 hj2
      exact ⟨i, j, by rw [e1, e2], by refine ⟨?_, ?_, ?_, ?_⟩ <;> omega, p2 g2 H2 (Step.refl _ _) a2 _ itr_ok⟩
    · exact p2.elim
  · exact p2.elim

/-! ## for, while -/
def sForL (t : Tg) (mb : MS) : List D → MS
  | [], env, h => .nx env h
  | d :: ds, env, h => match t d env with
    | none => .no
    | some env1 => match mb env1 h with
      | .nx e h => sForL t mb ds e h
      | .ct e h => sForL t mb ds e h
      | .bk e h => .nx e h
      | r => r
def sFor (t : Tg) (m : MI) (mb : MS) : MS := fun env h => (m env h).bindS fun ds env h => sForL t mb ds env h
theorem ss_for {tg it : Expr} {vs : List Nat} {t : Tg} {m : MI} {mb : MS} {body : List Stmt} (hg : SG F tg vs t) (hi : SI F tg it m) (hb : SSs F body mb) (hcm : F.cm = true := by rfl) (hs : ∀ env x, foldedSetIterable it env x = pure x := by intros; rfl) : SS F (.For tg it body [] pos) (sFor t m mb) := fun X W gd tk Hk gk σ env h g H Dn at_ p => by
  refine uS_of (ps_for (gd.po hcm) (gd.calm hcm) pi_u pg_u pss_u (hs _)) ?_
  refine hi X W gd.toGood tk Hk gk σ env h g H _ at_ ((postS.bind p).imp fun ds env1 h1 g1 H1 s1 a1 q J hJ => ?_)
  refine ⟨fun i m σ H => m = ds.length - i ∧ ∃ env h g, Step g1 H1 g H ∧ At X.K X.w X.mg Hk gk σ env h g H ∧ postS X.K X.w X.mg W Hk gk g H (sForL t mb (ds.drop i) env h) Dn,
    ⟨ds.length, by omega, env1, h1, g1, Step.refl _ _, a1, q⟩, fun i m σ2 H2 hW => ?_⟩
  obtain ⟨rfl, env2, h2, g2, s2, a2, q2⟩ := hW
  have hj := hJ g2 H2 h2 s2 a2.hat i
  by_cases hlen : i < ds.length
  · obtain ⟨hgo, hy⟩ := hj.2 _ (List.getElem?_eq_getElem hlen)
    rw [List.drop_eq_getElem_cons hlen] at q2
    refine .inr ⟨hgo, fun σ' H' => ∃ env h g, Step g1 H1 g H' ∧ At X.K X.w X.mg Hk gk σ' env h g H' ∧ postS X.K X.w X.mg W Hk gk g H' (sForL t mb (ds.drop (i + 1)) env h) Dn, fun σ' H' hN => ?_, fun x H' y => ?_⟩
    · obtain ⟨env3, h3, g3, s3, a3, q3⟩ := hN
      exact ⟨ds.length - (i + 1), by omega, rfl, env3, h3, g3, s3, a3, q3⟩
    · obtain ⟨g3, gr, r3⟩ := hy x H' y
      have a3 := gr.at a2
      have s3 := (gr.fstep a2.hat).toStep
      have q3 := postS.step s3 q2
      unfold sForL at q3
      split at q3
      · exact q3.elim
      · rename_i env3 et
        refine hg X gd.toGood Hk gk σ2 env2 h2 g3 H' x _ env3 a3 r3 et _ fun σ3 _ a4 => ?_
        refine hb X W gd tk Hk gk σ3 env3 h2 g3 H' _ a4 ?_
        cases er : mb env3 h2 with
        | nx e h' => rw [er] at q3; exact fun σ' g' H'' s' a' => ⟨e, h', g', (s2.trans s3).trans s', a', postS.step s' q3⟩
        | ct e h' => rw [er] at q3; exact fun σ' g' H'' s' a' => ⟨e, h', g', (s2.trans s3).trans s', a', postS.step s' q3⟩
        | bk e h' => rw [er] at q3; exact q3
        | rt r e h' => rw [er] at q3; exact q3
        | err x e h' => rw [er] at q3; exact q3
        | no => rw [er] at q3; exact q3.elim
  · rw [List.drop_eq_nil_of_le (by omega)] at q2
    exact .inl ⟨hj.1 (by omega), q2 σ2 g2 H2 (Step.refl _ _) a2⟩
def sWhile (c : MB) (mb : MS) : Nat → MS
  | 0, _, _ => .no
  | n + 1, env, h => (c env h).bindS fun b env h => if b = true then (match mb env h with
      | .nx e h => sWhile c mb n e h
      | .ct e h => sWhile c mb n e h
      | .bk e h => .nx e h
      | r => r) else .nx env h
theorem ss_while {c : Expr} {mc : MB} {mb : MS} {body : List Stmt} (n : Nat) (hc : SB F c mc) (hb : SSs F body mb) (hcm : F.cm = true := by rfl) : SS F (.While c body [] pos) (sWhile mc mb n) := fun X W gd tk Hk gk σ env h g H Dn at_ p => by
  refine uS_of (ps_while (gd.po hcm) pt_u pss_u) ?_
  refine ⟨fun m σ H' => ∃ env h g', Step g H g' H' ∧ At X.K X.w X.mg Hk gk σ env h g' H' ∧ postS X.K X.w X.mg W Hk gk g' H' (sWhile mc mb m env h) Dn, ⟨n, env, h, g, Step.refl _ _, at_, p⟩, fun m σ1 H1 hW => ?_⟩
  obtain ⟨env1, h1, g1, s1, a1, p1⟩ := hW
  cases m with
  | zero => exact p1.elim
  | succ m =>
    unfold sWhile at p1
    refine hc.goS gd.toGood tk a1 p1 fun b env2 h2 g2 H2 s2 a2 p2 => ?_
    cases b with
    | false => rw [if_neg (by decide)] at p2 ⊢; exact p2 σ1 g2 H2 (Step.refl _ _) a2
    | true =>
      rw [if_pos rfl] at p2 ⊢
      refine ⟨fun σ' H' => ∃ env h g', Step g H g' H' ∧ At X.K X.w X.mg Hk gk σ' env h g' H' ∧ postS X.K X.w X.mg W Hk gk g' H' (sWhile mc mb m env h) Dn, fun σ' H' hN => ⟨m, Nat.lt_succ_self m, hN⟩, ?_⟩
      refine hb X W gd tk Hk gk σ1 env2 h2 g2 H2 _ a2 ?_
      cases er : mb env2 h2 with
      | nx e h' => rw [er] at p2; exact fun σ' g' H'' s' a' => ⟨e, h', g', (s1.trans s2).trans s', a', postS.step s' p2⟩
      | ct e h' => rw [er] at p2; exact fun σ' g' H'' s' a' => ⟨e, h', g', (s1.trans s2).trans s', a', postS.step s' p2⟩
      | bk e h' => rw [er] at p2; exact p2
      | rt r e h' => rw [er] at p2; exact p2
      | err x e h' => rw [er] at p2; exact p2
      | no => rw [er] at p2; exact p2.elim
end
end Mi
end
section
set_option Elab.async false
set_option linter.all false
set_option maxRecDepth 100000
open PySem PySem.Spec PyProof.Rows L2
namespace Mi

/-! ## list comprehensions -/
def frz1 (env : Ev) (i : Nat) : Ev := match env[i]? with
  | some (.own ds) => env.set i (.v (.lst ds))
  | _ => env
def frzE (cap : List Nat) (env : Ev) : Ev := cap.foldl frz1 env
def maskS : Sl → Sl
  | .v d => .v d
  | _ => .un
def mask (cap : List Nat) : Nat → Ev → Ev
  | _, [] => []
  | n, s :: r => (if n ∈ cap then maskS s else .un) :: mask cap (n + 1) r
theorem mask_length (cap : List Nat) : ∀ (n : Nat) (env : Ev), (mask cap n env).length = env.length
  | _, [] => rfl
  | n, s :: r => by unfold mask; rw [List.length_cons, List.length_cons, mask_length cap (n + 1) r]
theorem mask_get (cap : List Nat) : ∀ (n : Nat) (env : Ev) (i : Nat), (mask cap n env)[i]? = env[i]?.map fun s => if n + i ∈ cap then maskS s else .un
  | _, [], _ => by simp [mask]
  | n, s :: r, 0 => by simp [mask]
  | n, s :: r, i + 1 => by
    unfold mask
    rw [List.getElem?_cons_succ, List.getElem?_cons_succ, mask_get cap (n + 1) r i]
    have : n + 1 + i = n + (i + 1) := by omega
    rw [this]
def compL (t : Tg) (c : MB) (elt : MV) (menv : Ev) : List D → MH → List D → Option (List D × MH)
  | [], h, acc => some (acc, h)
  | d :: ds, h, acc => match t d menv with
    | none => none
    | some e1 => match c e1 h with
      | .ok b e2 h2 => if b = true then (match elt e2 h2 with
          | .ok y _ h3 => if acc.length < sizeLine then compL t c elt menv ds h3 (acc ++ [y]) else none
          | _ => none) else compL t c elt menv ds h2 acc
      | _ => none
def eComp (cap : List Nat) (t : Tg) (mi : MI) (c : MB) (elt : MV) : ME := fun env h => (mi env h).bind fun ds env h => match compL t c elt (mask cap 0 (frzE cap env)) ds h [] with
  | some (acc, h') => .ok (.own acc) (frzE cap env) h'
  | none => .no
section
variable (X : Cx)
def uTs (ifs : List Expr) : TT := fun σ H Q => ∀ pins s, Inv X pins σ H s → wpAny (model X.prog X.w) X.A (forIn ifs true fun c r => if r = true then do let ok ← isTrue c X.env (eval c X.env); pure (ForInStep.yield ok) else pure (ForInStep.yield r)) (TP X pins σ Q) X.xe s
abbrev blkX (s : Shared) (H : Hp) (scope : Scope) (C : Addr) (cl : List (Str × Addr)) (fp : List Addr) : Cx := X.blk s H scope (compEnvC scope cl C X.env) fp
def uGb (scope : Scope) (t : Expr) : TG := fun v σ H Q => ∀ s0 H0 C cl fp, uG (blkX X s0 H0 scope C cl fp) t v σ H Q
def uTb (scope : Scope) (ifs : List Expr) : TT := fun σ H Q => ∀ s0 H0 C cl fp, uTs (blkX X s0 H0 scope C cl fp) ifs σ H Q
def uEb (scope : Scope) (e : Expr) : TE := fun σ H Q => ∀ s0 H0 C cl fp, uE (blkX X s0 H0 scope C cl fp) e σ H Q
def uIb (scope : Scope) (tg it : Expr) : TI := fun σ H R => ∀ s0 H0 C cl fp, uI (blkX X s0 H0 scope C cl fp) tg it σ H R
end
theorem pts_u {X : Cx} {ifs : List Expr} : PTs X ifs (uTs X ifs) := ⟨fun pins s σ H Q I h => h pins s I⟩
theorem uTs_of {X : Cx} {ifs : List Expr} {t : TT} (h : PTs X ifs t) {σ : L2.St} {H : Hp} {Q : Bool → Hp → Prop} (q : t σ H Q) : uTs X ifs σ H Q := fun pins s I => h.run pins s σ H Q I q
def SBs (F : Fr) (ifs : List Expr) (m : MB) : Prop := ∀ X W, Good F X → Takes X W → ∀ Hk gk σ env h g H (Q : Bool → Hp → Prop), At X.K X.w X.mg Hk gk σ env h g H →
  post X.K X.w X.mg W Hk gk σ g H (m env h) (fun b _ _ _ H' => Q b H') → uTs X ifs σ H Q
def bYes : MB := fun env h => .ok true env h
theorem sbs_nil {F : Fr} : SBs F [] bYes := fun X W gd tk Hk gk σ env h g H Q at_ p => uTs_of pts_nil (p g H (Step.refl _ _) at_)
theorem sbs_one {F : Fr} {c : Expr} {m : MB} (hc : SB F c m) : SBs F [c] m := fun X W gd tk Hk gk σ env h g H Q at_ p => uTs_of (pts_one pt_u) (hc X W gd tk Hk gk σ env h g H Q at_ p)
/-- the frame of a comprehension's block -/
def Fr.blk (F : Fr) (scope : Scope) : Fr := { F with sc := relS scope F.sc, fn := fun x => scope.names.lookup x == some .cell }
theorem good_blk {F : Fr} {X : Cx} {scope : Scope} {own : List (Str × Nat)} (gd : Good F X) (ok : BlkOk F.N F.sc scope own) (s0 : Shared) (H0 : Hp) (C : Addr) (cl : List (Str × Addr)) (fp : List Addr) (hcm : F.cm = true ∨ HotX (blkX X s0 H0 scope C cl fp)) : Good (F.blk scope) (blkX X s0 H0 scope C cl fp) where
  prog := gd.prog
  w := gd.w
  K := gd.K
  mg := gd.mg
  base := gd.base
  N := gd.N
  nd := gd.nd
  sc := by
    show relabel scope X.env = relS scope F.sc
    unfold relabel relS
    rw [← gd.sc]
    rfl
  kf := ok.kind
  dp := gd.dp
  un := gd.un
  hdn := gd.hdn
  gds := gd.gds
  calm := gd.calm
  fn := fun x hx => hx
  hot := fun z => by
    rcases hcm with h | h
    · have z : F.cm = false := z
      rw [h] at z; cases z
    · exact h
theorem wipe_wipe (σ : L2.St) (vs : List Nat) : L2.wipe (L2.wipe σ vs) vs = L2.wipe σ vs := by
  apply List.ext_getElem?
  intro i
  by_cases h : i ∈ vs
  · by_cases hl : i < σ.length
    · rw [wipe_get h hl, wipe_get h (by rw [wipe_length]; exact hl)]
    · rw [List.getElem?_eq_none (by rw [wipe_length, wipe_length]; omega), List.getElem?_eq_none (by rw [wipe_length]; omega)]
  · rw [wipe_out h, wipe_out h]
section
variable {K : PySem.W.Frag} {w : World} {mg : Str → Option Value} {W : WX} {Hk : Hp} {gk : Gh} {σ : L2.St} {g g1 g' : Gh} {H H1 H' : Hp} {env : Ev} {h h' : MH}
theorem At.frzE (cap : List Nat) : ∀ {env : Ev} {g : Gh}, At K w mg Hk gk σ env h g H → ∃ g', At K w mg Hk gk σ (Mi.frzE cap env) h g' H ∧ Step g H g' H := by
  induction cap with
  | nil => exact fun a => ⟨_, a, Step.refl _ _⟩
  | cons i cap ih =>
    intro env g a
    show ∃ g', At K w mg Hk gk σ (Mi.frzE cap (frz1 env i)) h g' H ∧ Step g H g' H
    unfold frz1
    split
    · rename_i ds e
      obtain ⟨x, h1, b1, b2, b3⟩ := a.freezeAt e
      obtain ⟨g', c1, c2⟩ := ih b1
      exact ⟨g', c1, b2.trans c2⟩
    · exact ih a
theorem At.blk {cap vs : List Nat} (a : At K w mg Hk gk σ env h g H) (hd : ∀ i ∈ cap, i ∉ vs) : At K w mg H g (L2.wipe σ vs) (mask cap 0 env) h g H where
  hat := a.hat
  fs := FStep.refl a.hat
  len := by rw [mask_length, wipe_length]; exact a.len
  val := fun i d e => by
    rw [mask_get] at e
    cases e2 : env[i]? with
    | none => rw [e2] at e; cases e
    | some s =>
      rw [e2] at e
      simp only [Option.map_some, Option.some.injEq, Nat.zero_add] at e
      split at e
      · rename_i hc
        cases s with
        | v d' =>
          cases e
          obtain ⟨x, h1, h2⟩ := a.val i d e2
          exact ⟨x, by rw [wipe_out (hd i hc)]; exact h1, h2⟩
        | un => cases e
        | own ds => cases e
        | exc x => cases e
      · cases e
  own := fun i d e => by
    rw [mask_get] at e
    cases e2 : env[i]? with
    | none => rw [e2] at e; cases e
    | some s =>
      rw [e2] at e
      simp only [Option.map_some, Option.some.injEq, Nat.zero_add] at e
      split at e
      · cases s <;> cases e
      · cases e
  dist := fun i j d1 d2 x e => by
    rw [mask_get] at e
    cases e2 : env[i]? with
    | none => rw [e2] at e; cases e
    | some s =>
      rw [e2] at e
      simp only [Option.map_some, Option.some.injEq, Nat.zero_add] at e
      split at e
      · cases s <;> cases e
      · cases e
  exc := fun i x e => by
    rw [mask_get] at e
    cases e2 : env[i]? with
    | none => rw [e2] at e; cases e
    | some s =>
      rw [e2] at e
      simp only [Option.map_some, Option.some.injEq, Nat.zero_add] at e
      split at e
      · cases s <;> cases e
      · cases e
theorem mask_exc {cap : List Nat} {env : Ev} (i : Nat) (x : Xc) : (mask cap 0 env)[i]? ≠ some (.exc x) := fun e => by
  rw [mask_get] at e
  cases e2 : env[i]? with
  | none => rw [e2] at e; cases e
  | some s =>
    rw [e2] at e
    simp only [Option.map_some, Option.some.injEq, Nat.zero_add] at e
    split at e
    · cases s <;> cases e
    · cases e
/-- a list in hand is changed -/
theorem At.mutFree (a : At K w mg Hk gk σ env h g H) {x : Addr} {ds es : List D} {us : List V} (o : OwnAt K w Hk g H x ds) (n : ∀ (i : Nat) (ds : List D), env[i]? = some (.own ds) → σ[i]? ≠ some (some (.ref x))) (r : Reps K w g H us es) :
    At K w mg Hk gk σ env h g (upd H x (.lst us)) ∧ Step g H g (upd H x (.lst us)) ∧ OwnAt K w Hk g (upd H x (.lst us)) x es := by
  have s : Step g H g (upd H x (.lst us)) := ⟨fun _ f => f, fun b f => upd_ne fun z => o.nf (by rw [← z]; exact f), Nat.le_refl _, fun _ _ => rfl⟩
  refine ⟨⟨⟨a.hat.top, fun b f => ?_, fun m ob e' => ?_, a.hat.inj⟩, ⟨a.fs.toStep.trans s, fun b u e' n => ?_, a.fs.newρ, a.fs.newF⟩, a.len, fun j d e' => ?_, fun j d e' => ?_, a.dist, fun i x e => (a.exc i x e).imp fun _ q => ⟨q.1, q.2.step s⟩⟩, s, ⟨⟨us, upd_same, r.step s⟩, o.nf, o.nρ, o.nk⟩⟩
  · rw [upd_ne (show b ≠ x from fun z => o.nf (by rw [← z]; exact f))]
    exact a.hat.fz b f
  · obtain ⟨h3, h4⟩ := a.hat.obj m ob e'
    have hm : g.ρ m ≠ x := o.nρ m (by rw [a.hat.top]; exact (List.getElem?_eq_some_iff.mp e').1)
    exact ⟨ORep.step s (fun u q => by rw [upd_ne hm]; exact q) h3, h4⟩
  · rw [upd_ne (show b ≠ x from fun z => by rw [z, o.nk] at e'; cases e')]
    exact a.fs.keep b u e' n
  · obtain ⟨y, h5, h6⟩ := a.val j d e'
    exact ⟨y, h5, h6.step s⟩
  · obtain ⟨y, h5, h6⟩ := a.own j d e'
    obtain ⟨ws, h7, h8⟩ := h6.at_
    have hy : y ≠ x := fun z => n j d e' (by rw [h5, z])
    exact ⟨y, h5, ⟨ws, by rw [upd_ne hy]; exact h7, h8.step s⟩, h6.nf, h6.nρ, h6.nk⟩
end
section
variable {F : Fr} {e a b c : Expr} {es : List Expr} {pos : Pos} {X : Cx} {W : WX} {Hk : Hp} {gk g : Gh} {σ : L2.St} {env : Ev} {h : MH} {H : Hp}
/-- the loop of a comprehension's clause: σb, menv are the block's slots at each turn's beginning -/
theorem compL_W {scope : Scope} {elt tg : Expr} {ifs : List Expr} {tvs vs : List Nat} {t : Tg} {mc : MB} {me : MV} {Fb : Fr} (hg : SG Fb tg tvs t) (htv : ∀ i ∈ tvs, i ∈ vs) (hc : SBs Fb ifs mc) (he : SV Fb elt me)
    (gdb : ∀ s0 H0 C cl fp, Good Fb (blkX X s0 H0 scope C cl fp)) {σb : L2.St} {menv : Ev} {g1 : Gh} {H1 : Hp} (hno : ∀ (i : Nat) (ds : List D), menv[i]? ≠ some (.own ds)) (hnx : ∀ (i : Nat) (x : Xc), menv[i]? ≠ some (.exc x)) (hlen : menv.length = σb.length)
    (hval : ∀ (i : Nat) (d : D), menv[i]? = some (.v d) → ∃ x, σb[i]? = some (some x) ∧ Rep X.K X.w g1 H1 x d) {J : It} {ds : List D} (hJ : ItOk X.K X.w g1 H1 J ds)
    {Dl : Addr} (f4 : ∀ (i : Nat) (es : List D), env[i]? = some (.own es) → σ[i]? ≠ some (some (.ref Dl))) {res : List D × MH} {Fin : Hp → Prop}
    (hfin : ∀ h g H acc, Step g1 H1 g H → At X.K X.w X.mg Hk gk σ env h g H → OwnAt X.K X.w Hk g H Dl acc → res = (acc, h) → Fin H)
    {h2 : MH} {g2 : Gh} {H2 : Hp} {acc2 : List D} (s2 : Step g1 H1 g2 H2) (a2 : At X.K X.w X.mg Hk gk σ env h2 g2 H2) (o2 : OwnAt X.K X.w Hk g2 H2 Dl acc2) (e2 : compL t mc me menv ds h2 acc2 = some res) :
    ∃ W : Nat → Nat → Hp → Prop, (∃ m, W 0 m H2) ∧ ∀ i m H, W i m H →
      (J.stop i H ∧ Fin H) ∨ (J.go i H ∧ ∃ Nx : Hp → Prop, (∀ H', Nx H' → ∃ m', m' < m ∧ W (i + 1) m' H') ∧ ∀ x H', J.yld i H x H' → uGb X scope tg x σb H' fun σ2 H2 => L2.wipe σ2 vs = L2.wipe σb vs ∧ uTb X scope ifs σ2 H2 fun b H3 =>
        if b = true then uEb X scope elt σ2 H3 fun y H4 => ∃ acc, H4 Dl = some (.lst acc) ∧ acc.length < sizeLine ∧ Nx (upd H4 Dl (.lst (acc ++ [y]))) else Nx H3) := by
  refine ⟨fun i m H => m = ds.length - i ∧ ∃ h g acc, Step g1 H1 g H ∧ At X.K X.w X.mg Hk gk σ env h g H ∧ OwnAt X.K X.w Hk g H Dl acc ∧ compL t mc me menv (ds.drop i) h acc = some res,
    ⟨ds.length, by omega, h2, g2, acc2, s2, a2, o2, e2⟩, fun i m H2 hW => ?_⟩
  obtain ⟨rfl, h2, g2, acc, s2, a2, o2, e2⟩ := hW
  have hj := hJ g2 H2 h2 s2 a2.hat i
  by_cases hlen2 : i < ds.length
  · obtain ⟨hgo, hy⟩ := hj.2 _ (List.getElem?_eq_getElem hlen2)
    rw [List.drop_eq_getElem_cons hlen2] at e2
    refine .inr ⟨hgo, fun H' => ∃ h g acc, Step g1 H1 g H' ∧ At X.K X.w X.mg Hk gk σ env h g H' ∧ OwnAt X.K X.w Hk g H' Dl acc ∧ compL t mc me menv (ds.drop (i + 1)) h acc = some res,
      fun H' hN => ⟨ds.length - (i + 1), by omega, rfl, hN⟩, fun x H3 hx => ?_⟩
    obtain ⟨g3, gr, r3⟩ := hy x H3 hx
    have fs3 := gr.fstep a2.hat
    have a3 := gr.at a2
    have o3 := o2.fstep fs3
    have st3 := s2.trans fs3.toStep
    have b3 : At X.K X.w X.mg H3 g3 σb menv h2 g3 H3 := ⟨a3.hat, FStep.refl a3.hat, hlen, fun i d e => (hval i d e).imp fun x hx => ⟨hx.1, hx.2.step st3⟩, fun i d e => absurd e (hno i d), fun i j d1 d2 x e => absurd e (hno i d1), fun i x e => absurd e (hnx i x)⟩
    unfold compL at e2
    split at e2
    · cases e2
    · rename_i e1 et
      intro s0 H0 C cl fp
      refine hg (blkX X s0 H0 scope C cl fp) (gdb s0 H0 C cl fp) H3 g3 _ _ h2 g3 H3 x _ e1 b3 r3 et _ fun σ2 ag a4 => ?_
      have ag' : Agree vs σb σ2 := ⟨ag.1, fun i hi => ag.2 i fun z => hi (htv i z)⟩
      refine ⟨ag'.wipe, ?_⟩
      intro s0 H0 C cl fp
      refine hc (blkX X s0 H0 scope C cl fp) _ (gdb s0 H0 C cl fp) takes0 H3 g3 σ2 e1 h2 g3 H3 _ a4 ?_
      cases ec : mc e1 h2 with
      | no => rw [ec] at e2; cases e2
      | err x3 e3 h3 => rw [ec] at e2; cases e2
      | ok b env3 h3 =>
        rw [ec] at e2
        refine fun g5 H5 s5 a5 => ?_
        cases b with
        | false =>
          rw [if_neg (by decide)]
          dsimp only at e2
          rw [if_neg (by decide)] at e2
          exact ⟨h3, g5, acc, st3.trans s5, a3.fstep a5.fs a5.hat, o3.fstep a5.fs, e2⟩
        | true =>
          rw [if_pos rfl]
          dsimp only at e2
          rw [if_pos rfl] at e2
          intro s0 H0 C cl fp
          refine he (blkX X s0 H0 scope C cl fp) _ (gdb s0 H0 C cl fp) takes0 H3 g3 σ2 env3 h3 g5 H5 _ a5 ?_
          cases ee : me env3 h3 with
          | no => rw [ee] at e2; cases e2
          | err x3 e3 h3 => rw [ee] at e2; cases e2
          | ok y env4 h4 =>
            rw [ee] at e2
            dsimp only at e2
            split at e2
            · rename_i hz
              refine fun g6 H6 s6 a6 z rz => ?_
              have o6 := o3.fstep a6.fs
              have a7 := a3.fstep a6.fs a6.hat
              obtain ⟨vs, hD6, rs6⟩ := o6.at_
              refine ⟨vs, hD6, by rw [rs6.length]; exact hz, ?_⟩
              obtain ⟨a8, s8, o8⟩ := a7.mutFree (us := vs ++ [z]) (es := acc ++ [y]) o6 f4 (rs6.append (Reps.cons rz Reps.nil))
              exact ⟨h4, g6, acc ++ [y], ((st3.trans s5).trans s6).trans s8, a8, o8, e2⟩
            · cases e2
  · rw [List.drop_eq_nil_of_le (by omega)] at e2
    cases e2
    exact .inl ⟨hj.1 (by omega), hfin h2 g2 H2 acc s2 a2 o2 rfl⟩
theorem comp_go {elt tg iter : Expr} {ifs : List Expr} {scope : Scope} {own : List (Str × Nat)} {cap tvs : List Nat} {t : Tg} {mi : MI} {mc : MB} {me : MV} (hi : SI F tg iter mi) (ok : BlkOk F.N F.sc scope own) (hd : ∀ i ∈ cap, i ∉ own.map (·.2))
    (hg : SG (F.blk scope) tg tvs t) (htv : ∀ i ∈ tvs, i ∈ own.map (·.2)) (hc : SBs (F.blk scope) ifs mc) (he : SV (F.blk scope) elt me) (hcm : F.cm = true) (gd : Good F X) (tk : Takes X W) (at_ : At X.K X.w X.mg Hk gk σ env h g H) {Q : VK}
    (p : post X.K X.w X.mg W Hk gk σ g H (eComp cap t mi mc me env h) (fun r env' _ g' H' => ∀ x, RR X.K X.w Hk σ env' g' H' x r → Q x H')) :
    tLc (uI X tg iter) (uGb X scope tg) (uTb X scope ifs) (uEb X scope elt) (own.map (·.2)) σ H Q := by
  refine hi X W gd tk Hk gk σ env h g H _ at_ ((post.bind p).imp fun ds env1 h1 g1 H1 s1 a1 q J hJ => ?_)
  intro Dl hD
  split at q
  · rename_i res hf eres
    obtain ⟨g1f, a1f, sf⟩ := a1.frzE cap
    have grD : Grow g1f H1 g1f (upd H1 Dl (.lst [])) := grow_new a1f.hat hD
    have aD := grD.at a1f
    have sD := (grD.fstep a1f.hat).toStep
    obtain ⟨f1, f2, f3, f4⟩ := a1f.fresh hD
    have oD : OwnAt X.K X.w Hk g1f (upd H1 Dl (.lst [])) Dl [] := ⟨⟨[], upd_same, Reps.nil⟩, f2, f3, f1⟩
    have bD := aD.blk hd
    have := compL_W (vs := own.map (·.2)) (scope := scope) hg htv hc he (fun s0 H0 C cl fp => good_blk gd ok s0 H0 C cl fp (.inl hcm)) (σb := L2.wipe σ (own.map (·.2))) (menv := mask cap 0 (frzE cap env1)) (g1 := g1f) (H1 := upd H1 Dl (.lst []))
      (fun i d e => by obtain ⟨x, _, o⟩ := bD.own i d e; have := o.nk; obtain ⟨vs, e3, _⟩ := o.at_; rw [e3] at this; cases this) mask_exc bD.len bD.val
      (J := J) (ds := ds) (fun g H h s hat i => hJ g H h ((sf.trans sD).trans s) hat i) f4 (res := (res, hf)) (Fin := fun H => Q (.ref Dl) H)
      (fun h g H acc s a o e => by cases e; exact q g H ((sf.trans sD).trans s) a _ ⟨Dl, rfl, o, f4⟩) (Step.refl _ _) aD oD eres
    rw [wipe_wipe] at this
    exact this
  · exact q.elim
theorem se_comp {elt tg iter : Expr} {ifs : List Expr} {scope : Scope} {own : List (Str × Nat)} {cap tvs : List Nat} {t : Tg} {mi : MI} {mc : MB} {me : MV} (hi : SI F tg iter mi) (ok : BlkOk F.N F.sc scope own := by exact blkOk_by (by (try dsimp only [Fr.blk]); decide +kernel)) (hd : ∀ i ∈ cap, i ∉ own.map (·.2) := by decide)
    (hg : SG (F.blk scope) tg tvs t) (htv : ∀ i ∈ tvs, i ∈ own.map (·.2) := by decide) (hc : SBs (F.blk scope) ifs mc) (he : SV (F.blk scope) elt me) (hcm : F.cm = true := by rfl) (hs : ∀ env x, foldedSetIterable iter env x = pure x := by intros; rfl) :
    SE F (.ListComp elt [⟨tg, iter, ifs, 0⟩] scope pos) (eComp cap t mi mc me) := fun X W gd tk Hk gk σ env h g H Q at_ p => by
  refine uE_of (pe_lc (own := own) (gd.calm hcm) gd.nd pi_u (by rw [gd.N, gd.sc]; exact ok) (g := uGb X scope tg) (tt := uTb X scope ifs) (te := uEb X scope elt) (fun s H C cl fp => ⟨fun pins s σ H v u Q I r h => h _ _ _ _ _ pins s u I r⟩)
    (fun s H C cl fp => ⟨fun pins s σ H Q I h => h _ _ _ _ _ pins s I⟩) (fun s H C cl fp => ⟨fun pins s σ H Q I h => h _ _ _ _ _ pins s I⟩) (hs _)) ?_
  exact comp_go hi ok hd hg htv hc he hcm gd tk at_ p
/-- name = [..] on one line, the name a local -/
theorem ss_setLc {i : Nat} {y : Str} {py spos : Pos} {elt tg iter : Expr} {ifs : List Expr} {scope : Scope} {own : List (Str × Nat)} {cap tvs : List Nat} {t : Tg} {mi : MI} {mc : MB} {me : MV} (hN : F.N[i]? = some y := by rfl) (hx : F.sc.names.lookup y = some .local := by rfl)
    (hsw : ∀ env : PySem.Env, env.scope.kind = .function → env.scope.names.lookup y = some .local → swapsWith (.ListComp elt [⟨tg, iter, ifs, 0⟩] scope pos) (some (.Name y py)) spos.line env = pure true := by exact fun _ h1 h2 => sw_true h1 h2 rfl (by decide +kernel))
    (hi : SI F tg iter mi) (ok : BlkOk F.N F.sc scope own := by exact blkOk_by (by (try dsimp only [Fr.blk]); decide +kernel)) (hd : ∀ i ∈ cap, i ∉ own.map (·.2) := by decide)
    (hg : SG (F.blk scope) tg tvs t) (htv : ∀ i ∈ tvs, i ∈ own.map (·.2) := by decide) (hc : SBs (F.blk scope) ifs mc) (he : SV (F.blk scope) elt me) (hcm : F.cm = true := by rfl) (hs : ∀ env x, foldedSetIterable iter env x = pure x := by intros; rfl) :
    SS F (.Assign [.Name y py] (.ListComp elt [⟨tg, iter, ifs, 0⟩] scope pos) spos) (sSet i (eComp cap t mi mc me)) := fun X W gd tk Hk gk σ env h g H Dn at_ p => by
  refine uS_of (ps_setLc (own := own) (gd.calm hcm) gd.nd (by rw [gd.N]; exact hN) (by rw [gd.sc]; exact hx) (hsw _ (by rw [gd.sc]; exact gd.kf) (by rw [gd.sc]; exact hx)) pi_u (by rw [gd.N, gd.sc]; exact ok) (g := uGb X scope tg) (tt := uTb X scope ifs) (te := uEb X scope elt)
    (fun s H C cl fp => ⟨fun pins s σ H v u Q I r h => h _ _ _ _ _ pins s u I r⟩) (fun s H C cl fp => ⟨fun pins s σ H Q I h => h _ _ _ _ _ pins s I⟩) (fun s H C cl fp => ⟨fun pins s σ H Q I h => h _ _ _ _ _ pins s I⟩) (hs _)) ?_
  refine comp_go (Q := fun x H1 => Dn.nx (σ.set i (some x)) H1) hi ok hd hg htv hc he hcm gd.toGood tk at_ ((postS.bind p).imp fun r env1 h1 g1 H1 s1 a1 q x rx => ?_)
  exact q _ g1 H1 (Step.refl _ _) (a1.asg i rx)
end
end Mi
end
section
set_option Elab.async false
set_option linter.all false
set_option maxRecDepth 100000
open PySem PySem.Spec PyProof.Rows L2
namespace Mi

/-! ## comprehensions of two clauses -/
def unE (vs : List Nat) (env : Ev) : Ev := vs.foldl (fun env i => env.set i .un) env
theorem unE_length (vs : List Nat) : ∀ env : Ev, (unE vs env).length = env.length := by
  induction vs with
  | nil => intro env; rfl
  | cons v vs ih => intro env; show (unE vs (env.set v .un)).length = _; rw [ih, List.length_set]
theorem unE_v (vs : List Nat) : ∀ (env : Ev) (i : Nat) (s : Sl), (unE vs env)[i]? = some s → s ≠ .un → i ∉ vs ∧ env[i]? = some s := by
  induction vs with
  | nil => intro env i s h _; exact ⟨by simp, h⟩
  | cons v vs ih =>
    intro env i s h hs
    obtain ⟨h1, h2⟩ := ih (env.set v .un) i s h hs
    rw [List.getElem?_set] at h2
    by_cases e : v = i
    · rw [if_pos e] at h2
      split at h2
      · cases h2; exact absurd rfl hs
      · cases h2
    · rw [if_neg e] at h2
      exact ⟨fun z => (List.mem_cons.mp z).elim (fun q => e q.symm) h1, h2⟩
def compL2 (t : Tg) (c : MB) (mi1 : MI) (t1 : Tg) (c1 : MB) (elt : MV) (vs1 : List Nat) (menv : Ev) : List D → MH → List D → Option (List D × MH)
  | [], h, acc => some (acc, h)
  | d :: ds, h, acc => match t d menv with
    | none => none
    | some e1 => match c e1 h with
      | .ok b e2 h2 => if b = true then (match mi1 e2 h2 with
          | .ok ds1 e3 h3 => (match compL t1 c1 elt (unE vs1 (e3.map maskS)) ds1 h3 acc with
              | some (acc', h') => compL2 t c mi1 t1 c1 elt vs1 menv ds h' acc'
              | none => none)
          | _ => none) else compL2 t c mi1 t1 c1 elt vs1 menv ds h2 acc
      | _ => none
def eComp2 (cap : List Nat) (t : Tg) (mi : MI) (c : MB) (mi1 : MI) (t1 : Tg) (c1 : MB) (elt : MV) (vs1 : List Nat) : ME := fun env h => (mi env h).bind fun ds env h => match compL2 t c mi1 t1 c1 elt vs1 (mask cap 0 (frzE cap env)) ds h [] with
  | some (acc, h') => .ok (.own acc) (frzE cap env) h'
  | none => .no
section
variable {F : Fr} {e a b c : Expr} {es : List Expr} {pos : Pos} {X : Cx} {W : WX} {Hk : Hp} {gk g : Gh} {σ : L2.St} {env : Ev} {h : MH} {H : Hp}
theorem comp2_go {elt tg iter tg1 iter1 : Expr} {ifs ifs1 : List Expr} {scope : Scope} {own : List (Str × Nat)} {cap tvs tvs1 vs1 : List Nat} {t t1 : Tg} {mi mi1 : MI} {mc mc1 : MB} {me : MV} (hi : SI F tg iter mi) (ok : BlkOk F.N F.sc scope own) (hd : ∀ i ∈ cap, i ∉ own.map (·.2))
    (hg : SG (F.blk scope) tg tvs t) (htv : ∀ i ∈ tvs, i ∈ own.map (·.2)) (hc : SBs (F.blk scope) ifs mc) (hi1 : SI (F.blk scope) tg1 iter1 mi1) (hg1 : SG (F.blk scope) tg1 tvs1 t1) (htv1 : ∀ i ∈ tvs1, i ∈ vs1) (hc1 : SBs (F.blk scope) ifs1 mc1)
    (he : SV (F.blk scope) elt me) (hcm : F.cm = true) (gd : Good F X) (tk : Takes X W) (at_ : At X.K X.w X.mg Hk gk σ env h g H) {Q : VK}
    (p : post X.K X.w X.mg W Hk gk σ g H (eComp2 cap t mi mc mi1 t1 mc1 me vs1 env h) (fun r env' _ g' H' => ∀ x, RR X.K X.w Hk σ env' g' H' x r → Q x H')) :
    tLc2 (uI X tg iter) (uGb X scope tg) (uTb X scope ifs) (uIb X scope tg1 iter1) (uGb X scope tg1) (uTb X scope ifs1) (uEb X scope elt) (own.map (·.2)) vs1 σ H Q := by
  refine hi X W gd tk Hk gk σ env h g H _ at_ ((post.bind p).imp fun ds env1 h1 g1 H1 s1 a1 q J hJ => ?_)
  intro Dl hD
  split at q
  · rename_i res hf eres
    obtain ⟨g1f, a1f, sf⟩ := a1.frzE cap
    have grD : Grow g1f H1 g1f (upd H1 Dl (.lst [])) := grow_new a1f.hat hD
    have aD := grD.at a1f
    have sD := (grD.fstep a1f.hat).toStep
    obtain ⟨f1, f2, f3, f4⟩ := a1f.fresh hD
    have oD : OwnAt X.K X.w Hk g1f (upd H1 Dl (.lst [])) Dl [] := ⟨⟨[], upd_same, Reps.nil⟩, f2, f3, f1⟩
    refine ⟨fun i m H => m = ds.length - i ∧ ∃ h g acc, Step g1 H1 g H ∧ At X.K X.w X.mg Hk gk σ (frzE cap env1) h g H ∧ OwnAt X.K X.w Hk g H Dl acc ∧ compL2 t mc mi1 t1 mc1 me vs1 (mask cap 0 (frzE cap env1)) (ds.drop i) h acc = some (res, hf),
      ⟨ds.length, by omega, h1, g1f, [], sf.trans sD, aD, oD, eres⟩, fun i m H2 hW => ?_⟩
    obtain ⟨rfl, h2, g2, acc, s2, a2, o2, e2⟩ := hW
    have hj := hJ g2 H2 h2 s2 a2.hat i
    by_cases hlen : i < ds.length
    · obtain ⟨hgo, hy⟩ := hj.2 _ (List.getElem?_eq_getElem hlen)
      rw [List.drop_eq_getElem_cons hlen] at e2
      refine .inr ⟨hgo, fun H' => ∃ h g acc, Step g1 H1 g H' ∧ At X.K X.w X.mg Hk gk σ (frzE cap env1) h g H' ∧ OwnAt X.K X.w Hk g H' Dl acc ∧ compL2 t mc mi1 t1 mc1 me vs1 (mask cap 0 (frzE cap env1)) (ds.drop (i + 1)) h acc = some (res, hf),
        fun H' hN => ⟨ds.length - (i + 1), by omega, rfl, hN⟩, fun x H3 hx => ?_⟩
      obtain ⟨g3, gr, r3⟩ := hy x H3 hx
      have fs3 := gr.fstep a2.hat
      have a3 := gr.at a2
      have o3 := o2.fstep fs3
      have st3 := s2.trans fs3.toStep
      have b3 := a3.blk hd
      unfold compL2 at e2
      split at e2
      · cases e2
      · rename_i e1 et
        intro s0 H0 C cl fp
        refine hg (blkX X s0 H0 scope C cl fp) (good_blk gd ok s0 H0 C cl fp (.inl hcm)) H3 g3 _ _ h2 g3 H3 x _ e1 b3 r3 et _ fun σ2 ag a4 => ?_
        have ag' : Agree (own.map (·.2)) (L2.wipe σ (own.map (·.2))) σ2 := ⟨ag.1, fun i hi => ag.2 i fun z => hi (htv i z)⟩
        refine ⟨by rw [ag'.wipe, wipe_wipe], ?_⟩
        intro s0 H0 C cl fp
        refine hc (blkX X s0 H0 scope C cl fp) _ (good_blk gd ok s0 H0 C cl fp (.inl hcm)) takes0 H3 g3 σ2 e1 h2 g3 H3 _ a4 ?_
        cases ec : mc e1 h2 with
        | no => rw [ec] at e2; cases e2
        | err x3 e3 h3 => rw [ec] at e2; cases e2
        | ok b env3 h3 =>
          rw [ec] at e2
          refine fun g5 H5 s5 a5 => ?_
          cases b with
          | false =>
            rw [if_neg (by decide)]
            dsimp only at e2
            rw [if_neg (by decide)] at e2
            exact ⟨h3, g5, acc, st3.trans s5, a3.fstep a5.fs a5.hat, o3.fstep a5.fs, e2⟩
          | true =>
            rw [if_pos rfl]
            dsimp only at e2
            rw [if_pos rfl] at e2
            intro s0 H0 C cl fp
            refine hi1 (blkX X s0 H0 scope C cl fp) _ (good_blk gd ok s0 H0 C cl fp (.inl hcm)) takes0 H3 g3 σ2 env3 h3 g5 H5 _ a5 ?_
            cases ei : mi1 env3 h3 with
            | no => rw [ei] at e2; cases e2
            | err x3 e3 h3 => rw [ei] at e2; cases e2
            | ok ds1 env4 h4 =>
              rw [ei] at e2
              dsimp only at e2
              split at e2
              · rename_i acc' h' ecl
                refine fun g6 H6 s6 a6 J1 hJ1 => ?_
                have hno : ∀ (i : Nat) (ds : List D), (unE vs1 (env4.map maskS))[i]? ≠ some (.own ds) := fun i ds z => by
                  obtain ⟨_, z2⟩ := unE_v vs1 _ i _ z (fun q => nomatch q)
                  rw [List.getElem?_map] at z2
                  cases e9 : env4[i]? with
                  | none => rw [e9] at z2; cases z2
                  | some s => rw [e9] at z2; cases s <;> cases z2
                have hnx : ∀ (i : Nat) (x : Xc), (unE vs1 (env4.map maskS))[i]? ≠ some (.exc x) := fun i ds z => by
                  obtain ⟨_, z2⟩ := unE_v vs1 _ i _ z (fun q => nomatch q)
                  rw [List.getElem?_map] at z2
                  cases e9 : env4[i]? with
                  | none => rw [e9] at z2; cases z2
                  | some s => rw [e9] at z2; cases s <;> cases z2
                have := compL_W (vs := vs1) (scope := scope) hg1 htv1 hc1 he (fun s0 H0 C cl fp => good_blk gd ok s0 H0 C cl fp (.inl hcm)) (σb := L2.wipe σ2 vs1) (menv := unE vs1 (env4.map maskS)) (g1 := g6) (H1 := H6) hno hnx
                  (by rw [unE_length, List.length_map, wipe_length]; exact a6.len)
                  (fun i d z => by
                    obtain ⟨z1, z2⟩ := unE_v vs1 _ i _ z (fun q => nomatch q)
                    rw [List.getElem?_map] at z2
                    cases e9 : env4[i]? with
                    | none => rw [e9] at z2; cases z2
                    | some s =>
                      rw [e9] at z2
                      cases s with
                      | v d' =>
                        cases z2
                        obtain ⟨y, y1, y2⟩ := a6.val i _ e9
                        exact ⟨y, by rw [wipe_out z1]; exact y1, y2⟩
                      | un => cases z2
                      | own ds => cases z2
                      | exc x => cases z2)
                  (J := J1) (ds := ds1) hJ1 f4 (res := (acc', h')) (Fin := fun H' => ∃ h g acc, Step g1 H1 g H' ∧ At X.K X.w X.mg Hk gk σ (frzE cap env1) h g H' ∧ OwnAt X.K X.w Hk g H' Dl acc ∧ compL2 t mc mi1 t1 mc1 me vs1 (mask cap 0 (frzE cap env1)) (ds.drop (i + 1)) h acc = some (res, hf))
                  (fun h g H acc s a o e => by cases e; exact ⟨_, g, _, ((st3.trans s5).trans s6).trans s, a, o, e2⟩) (Step.refl _ _) (a3.fstep a6.fs a6.hat) (o3.fstep a6.fs) ecl
                rw [wipe_wipe] at this
                exact this
              · cases e2
    · rw [List.drop_eq_nil_of_le (by omega)] at e2
      cases e2
      exact .inl ⟨hj.1 (by omega), q g2 H2 s2 a2 _ ⟨Dl, rfl, o2, f4⟩⟩
  · exact q.elim
theorem se_comp2 {elt tg iter tg1 iter1 : Expr} {ifs ifs1 : List Expr} {scope : Scope} {own : List (Str × Nat)} {cap tvs tvs1 vs1 : List Nat} {t t1 : Tg} {mi mi1 : MI} {mc mc1 : MB} {me : MV} (hi : SI F tg iter mi) (ok : BlkOk F.N F.sc scope own := by exact blkOk_by (by (try dsimp only [Fr.blk]); decide +kernel)) (hd : ∀ i ∈ cap, i ∉ own.map (·.2) := by decide)
    (hg : SG (F.blk scope) tg tvs t) (htv : ∀ i ∈ tvs, i ∈ own.map (·.2) := by decide) (hc : SBs (F.blk scope) ifs mc) (hi1 : SI (F.blk scope) tg1 iter1 mi1) (hg1 : SG (F.blk scope) tg1 tvs1 t1) (htv1 : ∀ i ∈ tvs1, i ∈ vs1 := by decide) (hv1 : ∀ i ∈ vs1, i ∈ own.map (·.2) := by decide) (hc1 : SBs (F.blk scope) ifs1 mc1)
    (he : SV (F.blk scope) elt me) (hcm : F.cm = true := by rfl) (hs : ∀ env x, foldedSetIterable iter env x = pure x := by intros; rfl) (hs1 : ∀ env x, foldedSetIterable iter1 env x = pure x := by intros; rfl) :
    SE F (.ListComp elt [⟨tg, iter, ifs, 0⟩, ⟨tg1, iter1, ifs1, 0⟩] scope pos) (eComp2 cap t mi mc mi1 t1 mc1 me vs1) := fun X W gd tk Hk gk σ env h g H Q at_ p => by
  refine uE_of (pe_lc2 (own := own) (vs1 := vs1) (gd.calm hcm) gd.nd pi_u (by rw [gd.N, gd.sc]; exact ok) hv1 (g := uGb X scope tg) (tt := uTb X scope ifs) (wi1 := uIb X scope tg1 iter1) (g1 := uGb X scope tg1) (tt1 := uTb X scope ifs1) (te := uEb X scope elt)
    (fun s H C cl fp => ⟨fun pins s σ H v u Q I r h => h _ _ _ _ _ pins s u I r⟩) (fun s H C cl fp => ⟨fun pins s σ H Q I h => h _ _ _ _ _ pins s I⟩) (fun s H C cl fp => ⟨fun pins s σ H R I h => h _ _ _ _ _ pins s I⟩)
    (fun s H C cl fp => ⟨fun pins s σ H v u Q I r h => h _ _ _ _ _ pins s u I r⟩) (fun s H C cl fp => ⟨fun pins s σ H Q I h => h _ _ _ _ _ pins s I⟩) (fun s H C cl fp => ⟨fun pins s σ H Q I h => h _ _ _ _ _ pins s I⟩) (hs _) hs1) ?_
  exact comp2_go hi ok hd hg htv hc hi1 hg1 htv1 hc1 he hcm gd tk at_ p
theorem ss_setLc2 {i : Nat} {y : Str} {py spos : Pos} {elt tg iter tg1 iter1 : Expr} {ifs ifs1 : List Expr} {scope : Scope} {own : List (Str × Nat)} {cap tvs tvs1 vs1 : List Nat} {t t1 : Tg} {mi mi1 : MI} {mc mc1 : MB} {me : MV} (hN : F.N[i]? = some y := by rfl) (hx : F.sc.names.lookup y = some .local := by rfl)
    (hsw : ∀ env : PySem.Env, env.scope.kind = .function → env.scope.names.lookup y = some .local → swapsWith (.ListComp elt [⟨tg, iter, ifs, 0⟩, ⟨tg1, iter1, ifs1, 0⟩] scope pos) (some (.Name y py)) spos.line env = pure true := by exact fun _ h1 h2 => sw_true h1 h2 rfl (by decide +kernel))
    (hi : SI F tg iter mi) (ok : BlkOk F.N F.sc scope own := by exact blkOk_by (by (try dsimp only [Fr.blk]); decide +kernel)) (hd : ∀ i ∈ cap, i ∉ own.map (·.2) := by decide)
    (hg : SG (F.blk scope) tg tvs t) (htv : ∀ i ∈ tvs, i ∈ own.map (·.2) := by decide) (hc : SBs (F.blk scope) ifs mc) (hi1 : SI (F.blk scope) tg1 iter1 mi1) (hg1 : SG (F.blk scope) tg1 tvs1 t1) (htv1 : ∀ i ∈ tvs1, i ∈ vs1 := by decide) (hv1 : ∀ i ∈ vs1, i ∈ own.map (·.2) := by decide) (hc1 : SBs (F.blk scope) ifs1 mc1)
    (he : SV (F.blk scope) elt me) (hcm : F.cm = true := by rfl) (hs : ∀ env x, foldedSetIterable iter env x = pure x := by intros; rfl) (hs1 : ∀ env x, foldedSetIterable iter1 env x = pure x := by intros; rfl) :
    SS F (.Assign [.Name y py] (.ListComp elt [⟨tg, iter, ifs, 0⟩, ⟨tg1, iter1, ifs1, 0⟩] scope pos) spos) (sSet i (eComp2 cap t mi mc mi1 t1 mc1 me vs1)) := fun X W gd tk Hk gk σ env h g H Dn at_ p => by
  refine uS_of (ps_setLc2 (own := own) (vs1 := vs1) (gd.calm hcm) gd.nd (by rw [gd.N]; exact hN) (by rw [gd.sc]; exact hx) (hsw _ (by rw [gd.sc]; exact gd.kf) (by rw [gd.sc]; exact hx)) pi_u (by rw [gd.N, gd.sc]; exact ok) hv1 (g := uGb X scope tg) (tt := uTb X scope ifs) (wi1 := uIb X scope tg1 iter1) (g1 := uGb X scope tg1) (tt1 := uTb X scope ifs1) (te := uEb X scope elt)
    (fun s H C cl fp => ⟨fun pins s σ H v u Q I r h => h _ _ _ _ _ pins s u I r⟩) (fun s H C cl fp => ⟨fun pins s σ H Q I h => h _ _ _ _ _ pins s I⟩) (fun s H C cl fp => ⟨fun pins s σ H R I h => h _ _ _ _ _ pins s I⟩)
    (fun s H C cl fp => ⟨fun pins s σ H v u Q I r h => h _ _ _ _ _ pins s u I r⟩) (fun s H C cl fp => ⟨fun pins s σ H Q I h => h _ _ _ _ _ pins s I⟩) (fun s H C cl fp => ⟨fun pins s σ H Q I h => h _ _ _ _ _ pins s I⟩) (hs _) hs1) ?_
  refine comp2_go (Q := fun x H1 => Dn.nx (σ.set i (some x)) H1) hi ok hd hg htv hc hi1 hg1 htv1 hc1 he hcm gd.toGood tk at_ ((postS.bind p).imp fun r env1 h1 g1 H1 s1 a1 q x rx => ?_)
  exact q _ g1 H1 (Step.refl _ _) (a1.asg i rx)
end

/-! ## built-ins and methods by values -/
def CallOk (F : Fr) (f : Value) (op : MH → List D → Option R) : Prop := ∀ X, Good F X → ∀ h g H, HAt X.K X.w h g H → ∀ xs ds r, Reps X.K X.w g H xs ds → op h ds = some r →
  ∀ Q : VK, (∀ z g' H', Grow g H g' H' → RN X.K X.w H g' H' z r → Q z H') → uCl X f xs H Q
def eCallB (op : MH → List D → Option R) (m : MA) : ME := fun env h => (m env h).bind fun ds env h => ofO (op h ds) env h
def MtOk (F : Fr) (id : String) (op : MH → D → List D → Option R) : Prop := ∀ X, Good F X → ∀ h g H, HAt X.K X.w h g H → ∀ x d xs ds r, Rep X.K X.w g H x d → Reps X.K X.w g H xs ds → op h d ds = some r →
  ∀ Q : VK, (∀ z g' H', Grow g H g' H' → RN X.K X.w H g' H' z r → Q z H') → uMt X id x xs H Q
def isS : D → Bool
  | .str _ => true
  | _ => false
def eMtS (op : MH → D → List D → Option R) (mo : MV) (m : MA) : ME := fun env h => (mo env h).bind fun d env h => if isS d = true then (m env h).bind fun ds env h => ofO (op h d ds) env h else .no
def IxOk (F : Fr) (op : MH → D → D → Option R) : Prop := ∀ X, Good F X → ∀ h g H, HAt X.K X.w h g H → ∀ x y dx dy r, Rep X.K X.w g H x dx → Rep X.K X.w g H y dy → op h dx dy = some r →
  ∀ Q : VK, (∀ z g' H', Grow g H g' H' → RN X.K X.w H g' H' z r → Q z H') → uIx X x y H Q
section
variable {F : Fr} {e a b c o : Expr} {es : List Expr} {pos apos cpos : Pos} {X : Cx} {W : WX} {Hk : Hp} {gk g : Gh} {σ : L2.St} {env : Ev} {h : MH} {H : Hp}
theorem se_callB {x : Str} {id : String} {op : MH → List D → Option R} {m : MA} {p : Pos} (hc : CallOk F (.builtin id) op) (ha : SA F (e :: es) m) (hg : F.sc.names.lookup x = some .globalImplicit := by rfl) (hm : F.mg x = none) (hv : bootBuiltins x = some (.builtin id) := by decide +kernel) (hn : x ≠ "__name__" := by decide) (hdb : (x == ("__debug__" : Str)) = false := by decide)
    (he : ∀ env, starEach (e :: es) env = (false, eval e env) :: starEach es env := by intros; rfl) (hpl : ∀ env, (backTo pos (starEach es env)).any (·.1) = false := by intros; rfl) : SE F (.Call (.Name x p) (e :: es) [] pos) (eCallB op m) := fun X W gd tk Hk gk σ env h g H Q at_ p => by
  refine uE_of (pe_callB cl_u (by show X.env.scope.names.lookup x = _; rw [gd.sc]; exact hg) (by rw [gd.mg]; exact hm) hv pa_u hn hdb (he _) (hpl _)) ?_
  refine ha.go gd tk at_ p fun ds env1 h1 g1 H1 xs s1 a1 rs p1 => ?_
  obtain ⟨r, er, k⟩ := ofO_go a1 p1
  exact hc X gd h1 g1 H1 a1.hat xs ds r rs er Q k
theorem se_callTy {x : Str} {T : String} {op : MH → List D → Option R} {m : MA} {p : Pos} (hc : CallOk F (.type T) op) (ha : SA F (e :: es) m) (hg : F.sc.names.lookup x = some .globalImplicit := by rfl) (hm : F.mg x = none) (hv : bootBuiltins x = some (.type T) := by decide +kernel) (hn : x ≠ "__name__" := by decide) (hdb : (x == ("__debug__" : Str)) = false := by decide)
    (he : ∀ env, starEach (e :: es) env = (false, eval e env) :: starEach es env := by intros; rfl) (hpl : ∀ env, (backTo pos (starEach es env)).any (·.1) = false := by intros; rfl) : SE F (.Call (.Name x p) (e :: es) [] pos) (eCallB op m) := fun X W gd tk Hk gk σ env h g H Q at_ p => by
  refine uE_of (pe_callTy cl_u (by show X.env.scope.names.lookup x = _; rw [gd.sc]; exact hg) (by rw [gd.mg]; exact hm) hv pa_u hn hdb (he _) (hpl _)) ?_
  refine ha.go gd tk at_ p fun ds env1 h1 g1 H1 xs s1 a1 rs p1 => ?_
  obtain ⟨r, er, k⟩ := ofO_go a1 p1
  exact hc X gd h1 g1 H1 a1.hat xs ds r rs er Q k
/-- s.m(e, ..), s a text -/
theorem se_mtS {name : Str} {id : String} {op : MH → D → List D → Option R} {mo : MV} {m : MA} (slot : Slot "str" name id) (hty : typeOf (.builtin id) = pure (.type "method_descriptor")) (hm : MtOk F id op) (ho : SV F o mo) (ha : SA F (e :: es) m)
    (hbase : ∀ env, attributeBase o name env (eval o env) = eval o env := by intros; rfl)
    (hfew : ∀ env, ((backTo cpos (starEach (e :: es) env)).all (fun x => !x.1) && (backToKw cpos (keywordEach [] env)).all (fun x => x.1.isSome) && decide ((e :: es).length + ([] : List Keyword).length + (if ([] : List Keyword).isEmpty then 0 else 1) < 30)) = true := by intros; rfl)
    (hline : (apos.endLine == cpos.line) = true := by rfl) (hs : ∀ env, starEach (e :: es) env = (false, eval e env) :: starEach es env := by intros; rfl) (hplain : ∀ env, (backTo cpos (starEach es env)).any (·.1) = false := by intros; rfl) :
    SE F (.Call (.Attribute o name apos) (e :: es) [] cpos) (eMtS op mo m) := fun X W gd tk Hk gk σ env h g H Q at_ p => by
  refine uE_of (pe_bm PySem.F.plainAttrs_str slot hty mt_u pe_u pa_u (hbase _) (hfew _) hline (hs _) (hplain _)) ?_
  refine ho.go gd tk at_ p fun d env1 h1 g1 H1 x s1 a1 rx p1 => ?_
  split at p1
  · rename_i hd
    refine ⟨?_, ha.go gd tk a1 p1 fun ds env2 h2 g2 H2 xs s2 a2 rs p2 => ?_⟩
    · cases d <;> first | cases hd | skip
      simp only [Rep] at rx
      subst rx
      rfl
    · obtain ⟨r, er, k⟩ := ofO_go a2 p2
      exact hm X gd h2 g2 H2 a2.hat x d xs ds r (rx.step s2) rs er Q k
  · exact p1.elim
theorem se_mtS0 {name : Str} {id : String} {op : MH → D → List D → Option R} {mo : MV} (slot : Slot "str" name id) (hty : typeOf (.builtin id) = pure (.type "method_descriptor")) (hm : MtOk F id op) (ho : SV F o mo)
    (hbase : ∀ env, attributeBase o name env (eval o env) = eval o env := by intros; rfl) (hline : (apos.endLine == cpos.line) = true := by rfl) :
    SE F (.Call (.Attribute o name apos) [] [] cpos) (eMtS op mo aNil) := fun X W gd tk Hk gk σ env h g H Q at_ p => by
  refine uE_of (pe_bm0 PySem.F.plainAttrs_str slot hty mt_u pe_u (hbase _) hline) ?_
  refine ho.go gd tk at_ p fun d env1 h1 g1 H1 x s1 a1 rx p1 => ?_
  split at p1
  · rename_i hd
    refine ⟨?_, ?_⟩
    · cases d <;> first | cases hd | skip
      simp only [Rep] at rx
      subst rx
      rfl
    · obtain ⟨r, er, k⟩ := ofO_go a1 p1
      exact hm X gd h1 g1 H1 a1.hat x d [] [] r rx Reps.nil er Q k
  · exact p1.elim
theorem se_ix {op : MH → D → D → Option R} {ma mb : MV} (hi : IxOk F op) (ha : SV F a ma) (hb : SV F b mb) (hs : PlainIx b := by exact fun _ _ => rfl) : SE F (.Subscript a b pos) (eOp2 op ma mb) := fun X W gd tk Hk gk σ env h g H Q at_ p => by
  refine uE_of (pe_ix ix_u pe_u pe_u hs) ?_
  refine ha.go gd tk at_ p fun dx env1 h1 g1 H1 x s1 a1 rx p1 => ?_
  refine hb.go gd tk a1 p1 fun dy env2 h2 g2 H2 y s2 a2 ry p2 => ?_
  obtain ⟨r, er, k⟩ := ofO_go a2 p2
  exact hi X gd h2 g2 H2 a2.hat x y dx dy r (rx.step s2) ry er Q k
/-- something is known of the slot -/
def live (env : Ev) (i : Nat) : Bool := match env[i]? with
  | some (.v _) => true
  | some (.own _) => true
  | _ => false
/-- x[k], x a name: its own list is not frozen -/
def eIxV (i : Nat) (op : MH → D → D → Option R) (mk : MV) : ME := fun env h => if live env i = true then (mk env h).bind fun k env h => match env[i]? with
  | some (.own xs) => (match k with
    | .int j => (match atI xs j with
      | some d => .ok (.v d) env h
      | none => .no)
    | _ => .no)
  | some (.v d) => ofO (op h d k) env h
  | _ => .no else .no
theorem atI_reps {K : PySem.W.Frag} {w : World} {g : Gh} {H : Hp} {vs : List V} {ds : List D} {j : Int} {d : D} (rs : Reps K w g H vs ds) (e : atI ds j = some d) : ∃ v, atI vs j = some v ∧ Rep K w g H v d := by
  unfold atI at e ⊢
  rw [rs.length]
  cases q : ixN ds.length j with
  | none => rw [q] at e; cases e
  | some k =>
    rw [q] at e
    exact rs.get' e
theorem slot_of (at_ : At X.K X.w X.mg Hk gk σ env h g H) {i : Nat} (e : live env i = true) : ∃ x, σ[i]? = some (some x) := by
  unfold live at e
  split at e
  · rename_i d e1; obtain ⟨x, h1, _⟩ := at_.val i d e1; exact ⟨x, h1⟩
  · rename_i ds e1; obtain ⟨x, h1, _⟩ := at_.own i ds e1; exact ⟨_, h1⟩
  · cases e
theorem se_ixv {i : Nat} {x : Str} {op : MH → D → D → Option R} {mb : MV} {p2 : Pos} (hN : F.N[i]? = some x := by rfl) (hv : Vis F.sc x := by first | exact Or.inl rfl | exact Or.inr (Or.inl rfl) | exact Or.inr (Or.inr rfl)) (hd : (x == ("__debug__" : Str)) = false := by decide) (hcd : (x == ("__classdict__" : Str)) = false := by decide) (hi : IxOk F op) (hb : SV F b mb) (hs : PlainIx b := by exact fun _ _ => rfl) :
    SE F (.Subscript (.Name x p2) b pos) (eIxV i op mb) := fun X W gd tk Hk gk σ env h g H Q at_ p => by
  refine uE_of (pe_ix ix_u (pe_var (i := i) (by rw [gd.N]; exact hN) (by rw [gd.sc]; exact hv) hd hcd) pe_u hs) ?_
  unfold eIxV at p
  split at p
  · rename_i hl
    obtain ⟨x, hx⟩ := slot_of at_ hl
    refine ⟨x, hx, ?_⟩
    refine hb.go gd tk at_ p fun k env1 h1 g1 H1 y s1 a1 ry p1 => ?_
    split at p1
    · rename_i xs e1
      obtain ⟨a, h2, o⟩ := a1.own i xs e1
      rw [hx] at h2
      cases h2
      split at p1
      · rename_i j
        split at p1
        · rename_i d ed
          obtain ⟨vs, h3, rs⟩ := o.at_
          obtain ⟨v, ev, rv⟩ := atI_reps rs ed
          have ey : y = .int j := by simpa [Rep] using ry
          exact uIx_of ix_list ⟨a, vs, j, v, rfl, ey, .of h3, ev, p1 g1 H1 (Step.refl _ _) a1 v rv⟩
        · exact p1.elim
      · exact p1.elim
    · rename_i d e1
      obtain ⟨x', h2, rx⟩ := a1.val i d e1
      rw [hx] at h2
      cases h2
      obtain ⟨r, er, kk⟩ := ofO_go a1 p1
      exact hi X gd h1 g1 H1 a1.hat x y d k r rx ry er Q kk
    · exact p1.elim
  · exact p.elim
/-- len(x), x a name: its own list is not frozen -/
def eLenV (i : Nat) (op : MH → List D → Option R) : ME := fun env h => match env[i]? with
  | some (.own xs) => .ok (.v (.int xs.length)) env h
  | some (.v d) => ofO (op h [d]) env h
  | _ => .no
theorem se_lenv {i : Nat} {nm x : Str} {op : MH → List D → Option R} {p p2 : Pos} (hN : F.N[i]? = some x := by rfl) (hv : Vis F.sc x := by first | exact Or.inl rfl | exact Or.inr (Or.inl rfl) | exact Or.inr (Or.inr rfl)) (hd : (x == ("__debug__" : Str)) = false := by decide) (hcd : (x == ("__classdict__" : Str)) = false := by decide) (hc : CallOk F (.builtin "len") op) (hg : F.sc.names.lookup nm = some .globalImplicit := by rfl) (hm : F.mg nm = none)
    (hvb : bootBuiltins nm = some (.builtin "len") := by decide +kernel) (hn : nm ≠ "__name__" := by decide) (hdb : (nm == ("__debug__" : Str)) = false := by decide) : SE F (.Call (.Name nm p) [.Name x p2] [] pos) (eLenV i op) := fun X W gd tk Hk gk σ env h g H Q at_ pp => by
  refine uE_of (pe_callB cl_u (by show X.env.scope.names.lookup nm = _; rw [gd.sc]; exact hg) (by rw [gd.mg]; exact hm) hvb (pa_cons (pe_var (i := i) (by rw [gd.N]; exact hN) (by rw [gd.sc]; exact hv) hd hcd) pa_nil) hn hdb) ?_
  unfold eLenV at pp
  split at pp
  · rename_i xs e1
    obtain ⟨a, h2, o⟩ := at_.own i xs e1
    obtain ⟨vs, h3, rs⟩ := o.at_
    refine ⟨.ref a, h2, ?_⟩
    refine uCl_of call_len_seq ⟨a, vs, rfl, .inl (.of h3), ?_⟩
    rw [rs.length]
    exact pp g H (Step.refl _ _) at_ _ (by simp [RR, Rep])
  · rename_i d e1
    obtain ⟨y, h2, ry⟩ := at_.val i d e1
    refine ⟨y, h2, ?_⟩
    obtain ⟨r, er, kk⟩ := ofO_go at_ pp
    exact hc X gd h g H at_.hat [y] [d] r (Reps.cons ry Reps.nil) er Q kk
  · exact pp.elim
/-- if x: x a name -/
def bTruV (i : Nat) : MB := fun env h => match env[i]? with
  | some (.own xs) => .ok (!xs.isEmpty) env h
  | some (.v d) => (match truD h d with
    | some b => .ok b env h
    | none => .no)
  | _ => .no
theorem sb_truv {i : Nat} {x : Str} (hN : F.N[i]? = some x := by rfl) (hv : Vis F.sc x := by first | exact Or.inl rfl | exact Or.inr (Or.inl rfl) | exact Or.inr (Or.inr rfl)) (hd : (x == ("__debug__" : Str)) = false := by decide) (hcd : (x == ("__classdict__" : Str)) = false := by decide) : SB F (.Name x pos) (bTruV i) := fun X W gd tk Hk gk σ env h g H Q at_ pp => by
  refine uT_of (pt_truth (pe_var (i := i) (by rw [gd.N]; exact hN) (by rw [gd.sc]; exact hv) hd hcd) (fun _ => rfl)) ?_
  unfold bTruV at pp
  split at pp
  · rename_i xs e1
    obtain ⟨a, h2, o⟩ := at_.own i xs e1
    obtain ⟨vs, h3, rs⟩ := o.at_
    exact ⟨.ref a, h2, _, .inl ⟨vs, .of h3, by rw [isEmpty_reps rs]⟩, pp g H (Step.refl _ _) at_⟩
  · rename_i d e1
    obtain ⟨y, h2, ry⟩ := at_.val i d e1
    split at pp
    · rename_i b eb
      exact ⟨y, h2, b, truD_ok at_.hat ry eb, pp g H (Step.refl _ _) at_⟩
    · exact pp.elim
  · exact pp.elim

/-! ## lists that change -/
/-- a method of a list: what becomes of the list, what is handed back -/
def MutOk (F : Fr) (id : String) (op : List D → List D → Option (List D × D)) : Prop := ∀ X, Good F X → ∀ g H l vs xs args ds xs' r, H l = some (.lst vs) → Reps X.K X.w g H vs xs → Reps X.K X.w g H args ds → op xs ds = some (xs', r) →
  ∀ Q : VK, (∀ vs' z, Reps X.K X.w g H vs' xs' → Rep X.K X.w g H z r → Q z (upd H l (.lst vs'))) → uMt X id (.ref l) args H Q
def mutAt (i : Nat) (op : List D → List D → Option (List D × D)) (ds : List D) : ME := fun env h => match env[i]? with
  | some (.own xs) => (match op xs ds with
    | some (xs', r) => .ok (.v r) (env.set i (.own xs')) h
    | none => .no)
  | some (.v (.loc n)) => (match h[n]? with
    | some (.lst xs) => (match op xs ds with
      | some (xs', r) => .ok (.v r) env (h.set n (.lst xs'))
      | none => .no)
    | none => .no)
  | _ => .no
def isList (env : Ev) (h : MH) (i : Nat) : Bool := match env[i]? with
  | some (.own _) => true
  | some (.v (.loc n)) => (match h[n]? with
    | some (.lst _) => true
    | none => false)
  | _ => false
def eMut (i : Nat) (op : List D → List D → Option (List D × D)) (m : MA) : ME := fun env h => if isList env h i = true then (m env h).bind fun ds env h => mutAt i op ds env h else .no
theorem isList_ty (at_ : At X.K X.w X.mg Hk gk σ env h g H) {i : Nat} (e : isList env h i = true) : ∃ a, σ[i]? = some (some (.ref a)) ∧ tyV X.K "list" (.ref a) H := by
  unfold isList at e
  split at e
  · rename_i ds e1
    obtain ⟨a, h1, o⟩ := at_.own i ds e1
    obtain ⟨vs, h2, _⟩ := o.at_
    exact ⟨a, h1, .inl ⟨rfl, vs, .of h2⟩⟩
  · rename_i n e1
    obtain ⟨y, h1, ry⟩ := at_.val i _ e1
    simp only [Rep] at ry
    obtain ⟨_, rfl⟩ := ry
    split at e
    · rename_i ds e2
      obtain ⟨⟨vs, h2, _⟩, _⟩ := at_.hat.obj n _ e2
      exact ⟨_, h1, .inl ⟨rfl, vs, .of h2⟩⟩
    · cases e
  · cases e
theorem mutAt_go {id : String} {op : List D → List D → Option (List D × D)} {i : Nat} {ds : List D} {xs : List V} (hm : MutOk F id op) (gd : Good F X) (at_ : At X.K X.w X.mg Hk gk σ env h g H) {x : V} (hx : σ[i]? = some (some x)) (rs : Reps X.K X.w g H xs ds) {Q : VK}
    (p : post X.K X.w X.mg W Hk gk σ g H (mutAt i op ds env h) (fun r env' _ g' H' => ∀ x, RR X.K X.w Hk σ env' g' H' x r → Q x H')) : uMt X id x xs H Q := by
  unfold mutAt at p
  split at p
  · rename_i ys e1
    obtain ⟨a, h1, o⟩ := at_.own i ys e1
    rw [hx] at h1
    cases h1
    obtain ⟨vs, h2, rv⟩ := o.at_
    split at p
    · rename_i ys' r eo
      refine hm X gd g H a vs ys xs ds ys' r h2 rv rs eo Q fun vs' z rv' rz => ?_
      obtain ⟨a2, s2⟩ := at_.mut e1 hx rv'
      exact p g _ s2 a2 z (rz.step s2)
    · exact p.elim
  · rename_i n e1
    obtain ⟨y, h1, ry⟩ := at_.val i _ e1
    rw [hx] at h1
    cases h1
    simp only [Rep] at ry
    obtain ⟨_, rfl⟩ := ry
    split at p
    · rename_i ys e2
      obtain ⟨⟨vs, h2, rv⟩, _⟩ := at_.hat.obj n _ e2
      split at p
      · rename_i ys' r eo
        refine hm X gd g H _ vs ys xs ds ys' r h2 rv rs eo Q fun vs' z rv' rz => ?_
        obtain ⟨a2, s2⟩ := at_.mutLoc e2 rv'
        exact p g _ s2 a2 z (rz.step s2)
      · exact p.elim
    · exact p.elim
  · exact p.elim
theorem se_mut {i : Nat} {x name : Str} {id : String} {op : List D → List D → Option (List D × D)} {m : MA} {p2 : Pos} (hN : F.N[i]? = some x := by rfl) (hv : Vis F.sc x := by first | exact Or.inl rfl | exact Or.inr (Or.inl rfl) | exact Or.inr (Or.inr rfl)) (hd : (x == ("__debug__" : Str)) = false := by decide) (hcd : (x == ("__classdict__" : Str)) = false := by decide)
    (slot : Slot "list" name id) (hty : typeOf (.builtin id) = pure (.type "method_descriptor")) (hm : MutOk F id op) (ha : SA F (e :: es) m)
    (hfew : ∀ env, ((backTo cpos (starEach (e :: es) env)).all (fun x => !x.1) && (backToKw cpos (keywordEach [] env)).all (fun x => x.1.isSome) && decide ((e :: es).length + ([] : List Keyword).length + (if ([] : List Keyword).isEmpty then 0 else 1) < 30)) = true := by intros; rfl)
    (hline : (apos.endLine == cpos.line) = true := by rfl) (hs : ∀ env, starEach (e :: es) env = (false, eval e env) :: starEach es env := by intros; rfl) (hplain : ∀ env, (backTo cpos (starEach es env)).any (·.1) = false := by intros; rfl) :
    SE F (.Call (.Attribute (.Name x p2) name apos) (e :: es) [] cpos) (eMut i op m) := fun X W gd tk Hk gk σ env h g H Q at_ p => by
  refine uE_of (pe_bm PySem.F.plainAttrs_list slot hty mt_u (pe_var (i := i) (by rw [gd.N]; exact hN) (by rw [gd.sc]; exact hv) hd hcd) pa_u rfl (hfew _) hline (hs _) (hplain _)) ?_
  unfold eMut at p
  split at p
  · rename_i hl
    obtain ⟨a, h1, ty⟩ := isList_ty at_ hl
    refine ⟨.ref a, h1, ty, ?_⟩
    exact ha.go gd tk at_ p fun ds env1 h1' g1 H1 xs s1 a1 rs p1 => mutAt_go hm gd a1 h1 rs p1
  · exact p.elim
theorem se_mut0 {i : Nat} {x name : Str} {id : String} {op : List D → List D → Option (List D × D)} {p2 : Pos} (hN : F.N[i]? = some x := by rfl) (hv : Vis F.sc x := by first | exact Or.inl rfl | exact Or.inr (Or.inl rfl) | exact Or.inr (Or.inr rfl)) (hd : (x == ("__debug__" : Str)) = false := by decide) (hcd : (x == ("__classdict__" : Str)) = false := by decide)
    (slot : Slot "list" name id) (hty : typeOf (.builtin id) = pure (.type "method_descriptor")) (hm : MutOk F id op) (hline : (apos.endLine == cpos.line) = true := by rfl) :
    SE F (.Call (.Attribute (.Name x p2) name apos) [] [] cpos) (eMut i op aNil) := fun X W gd tk Hk gk σ env h g H Q at_ p => by
  refine uE_of (pe_bm0 PySem.F.plainAttrs_list slot hty mt_u (pe_var (i := i) (by rw [gd.N]; exact hN) (by rw [gd.sc]; exact hv) hd hcd) rfl hline) ?_
  unfold eMut at p
  split at p
  · rename_i hl
    obtain ⟨a, h1, ty⟩ := isList_ty at_ hl
    exact ⟨.ref a, h1, ty, mutAt_go hm gd at_ h1 Reps.nil p⟩
  · exact p.elim
/-- x[k] = e, x a name of a list -/
def setOp (d : D) : List D → List D → Option (List D × D) := fun xs ks => match ks with
  | [.int j] => (match ixN xs.length j with
    | some n => some (xs.set n d, .non)
    | none => none)
  | _ => none
def sStIx (i : Nat) (mk mv : MV) : MS := fun env h => (mv env h).bindS fun d env h => if isList env h i = true then (mk env h).bindS fun k env h => (mutAt i (setOp d) [k] env h).bindS fun _ env h => .nx env h else .no
theorem ss_stix {i : Nat} {x : Str} {mk mv : MV} {p2 spos : Pos} (hN : F.N[i]? = some x := by rfl) (hv : Vis F.sc x := by first | exact Or.inl rfl | exact Or.inr (Or.inl rfl) | exact Or.inr (Or.inr rfl)) (hd : (x == ("__debug__" : Str)) = false := by decide) (hcd : (x == ("__classdict__" : Str)) = false := by decide) (hk : SV F a mk) (he : SV F e mv)
    (hs : ∀ env, swapsWithSole [.Subscript (.Name x p2) a pos] e spos.line env = pure false := by intros; rfl) (hw : ∀ env, swappedStores [.Subscript (.Name x p2) a pos] e env = pure none := by intros; rfl) (h1 : ∀ env, (assignEach [.Subscript (.Name x p2) a pos] env).map (·.2) = [assign (.Subscript (.Name x p2) a pos) env] := by intros; rfl)
    (has : ∀ (env : PySem.Env) v, assign (.Subscript (.Name x p2) a pos) env v = (do
      let ov ← holding [v] (eval (.Name x p2) env)
      let iv ← holding [v, ov] (eval a env)
      standAt pos
      holding [v, ov, iv] (setItem ov iv v)
      release [v, ov, iv] []) := by intros; rfl) : SS F (.Assign [.Subscript (.Name x p2) a pos] e spos) (sStIx i mk mv) := fun X W gd tk Hk gk σ env h g H Dn at_ p => by
  refine uS_of (ps_asg pe_u (pg_sub (pe_var (i := i) (by rw [gd.N]; exact hN) (by rw [gd.sc]; exact hv) hd hcd) pe_u set_list (has _)) (hs _) (hw _) (h1 _)) ?_
  refine he.goS gd.toGood tk at_ p fun d env1 h1 g1 H1 x s1 a1 rx p1 => ?_
  split at p1
  · rename_i hl
    obtain ⟨b, h2, _⟩ := isList_ty a1 hl
    refine ⟨.ref b, h2, ?_⟩
    refine hk.goS gd.toGood tk a1 p1 fun k env2 h3 g2 H2 y s2 a2 ry p2 => ?_
    have rx2 := rx.step s2
    have p2 := postS.bind (σ := σ) p2
    unfold mutAt at p2
    split at p2
    · rename_i ys e1
      obtain ⟨c, h4, o⟩ := a2.own i ys e1
      rw [h2] at h4
      cases h4
      obtain ⟨vs, h5, rv⟩ := o.at_
      split at p2
      · rename_i ys' r eo
        unfold setOp at eo
        split at eo
        · rename_i j ek
          cases ek
          split at eo
          · rename_i n en
            cases eo
            have ey : y = .int j := by simpa [Rep] using ry
            obtain ⟨a3, s3⟩ := a2.mut e1 h2 (rv.set n rx2)
            exact ⟨b, vs, j, n, rfl, ey, h5, by rw [rv.length]; exact en, p2 g2 _ s3 a3 σ g2 _ (Step.refl _ _) a3⟩
          · cases eo
        · cases eo
      · exact p2.elim
    · rename_i n e1
      obtain ⟨z, h4, rz⟩ := a2.val i _ e1
      rw [h2] at h4
      cases h4
      simp only [Rep] at rz
      obtain ⟨_, ez⟩ := rz
      cases ez
      split at p2
      · rename_i ys e2
        obtain ⟨⟨vs, h5, rv⟩, _⟩ := a2.hat.obj n _ e2
        split at p2
        · rename_i ys' r eo
          unfold setOp at eo
          split at eo
          · rename_i j ek
            cases ek
            split at eo
            · rename_i m en
              cases eo
              have ey : y = .int j := by simpa [Rep] using ry
              obtain ⟨a3, s3⟩ := a2.mutLoc e2 (rv.set m rx2)
              exact ⟨_, vs, j, m, rfl, ey, h5, by rw [rv.length]; exact en, p2 g2 _ s3 a3 σ g2 _ (Step.refl _ _) a3⟩
            · cases eo
          · cases eo
        · exact p2.elim
      · exact p2.elim
    · exact p2.elim
  · exact p1.elim
end
end Mi
end
section
set_option Elab.async false
set_option linter.all false
set_option maxRecDepth 100000
open PySem PySem.Spec PyProof.Rows L2
namespace Mi
section
variable {F : Fr}
theorem S_app (s t : List Nat) : S s ++ S t = S (s ++ t) := by
  show Str.mk (s.toArray ++ t.toArray) = Str.mk (s ++ t).toArray
  simp
/-! ## arithmetic -/
def addO (h : MH) : D → D → Option R
  | .int i, .int j => some (.v (.int (i + j)))
  | .str s, .str t => if s.length + t.length ≤ sizeLine then some (.v (.str (s ++ t))) else none
  | .lst xs, .lst ys => if xs.length + ys.length ≤ sizeLine then some (.own (xs ++ ys)) else none
  | .tup xs, .tup ys => if xs.length + ys.length ≤ sizeLine ∧ xs ≠ [] then some (.v (.tup (xs ++ ys))) else none
  | _, _ => none
theorem cat_sq {X : Cx} : OpR X (binaryOp .Add) (fun x y H Q => ∃ l b xs zs, x = .ref l ∧ y = .ref b ∧ SqL X.K H l xs ∧ SqL X.K H b zs ∧ xs.length + zs.length ≤ sizeLine ∧ ∀ p, H p = none → Q (.ref p) (upd H p (.lst (xs ++ zs)))) := by
  intro pins s σ H x y v u Q I rx ry h
  obtain ⟨l, b, xs, zs, rfl, rfl, hH, hB, hz, q⟩ := h
  cases rx
  cases ry
  obtain ⟨its, r, hl, _⟩ := I.list hH
  obtain ⟨its2, r2, hb, _⟩ := I.list hB
  obtain ⟨⟨cls, dd, data, sl⟩, n, ho, hc, hdd, hd⟩ := hl
  obtain ⟨⟨cls2, dd2, data2, sl2⟩, n2, ho2, hc2, hdd2, hd2⟩ := hb
  simp only at hc hd hc2 hd2
  subst hc hd hc2 hd2
  have e1 := r.length
  have e2 := r2.length
  refine concat_meets ⟨_, ho, rfl⟩ ⟨_, ho2, rfl⟩ noFill_list_add seq_list_add PySem.F.slot_list_add PySem.F.entry_list_add (PySem.F.args_list_add_2 _ _) (PyProof.Rows.list_addW l b its.toArray its2.toArray n n2 dd dd2 sl sl2 (by rw [List.size_toArray, List.size_toArray]; omega)) ⟨ho, ho2, ?_⟩
  have e : its.toArray ++ its2.toArray = (its ++ its2).toArray := by simp
  rw [e]
  exact ⟨.ref _, _, I.lnew (t' := s.toks) (r.append r2) (by rw [List.length_append]; omega), rfl, q _ I.fresh⟩
theorem ok_add : OpOk F (binaryOp .Add) addO := fun X gd h g H hat x y dx dy r rx ry e Q k => by
  unfold addO at e
  split at e
  · simp only [Rep] at rx ry
    subst rx; subst ry; cases e
    exact uOp_of op_add ⟨_, _, rfl, rfl, k _ g H (Grow.refl hat) (by simp [RN, Rep])⟩
  · simp only [Rep] at rx ry
    subst rx; subst ry
    split at e
    · rename_i hl
      cases e
      exact uOp_of op_add_str ⟨_, _, rfl, rfl, by rw [S_length, S_length]; exact hl, k _ g H (Grow.refl hat) (by simp [RN, Rep, S_app])⟩
    · cases e
  · simp only [Rep] at rx ry
    obtain ⟨a, vs, rfl, l1, r1⟩ := rx
    obtain ⟨b, us, rfl, l2, r2⟩ := ry
    split at e
    · rename_i hl
      cases e
      exact uOp_of cat_sq ⟨a, b, vs, us, rfl, rfl, l1.sq, l2.sq, by rw [r1.length, r2.length]; exact hl, fun p hp => k _ g _ (grow_new hat hp) (rep_newLst hat hp (r1.append r2))⟩
    · cases e
  · have rx0 := rx
    simp only [Rep] at rx ry
    obtain ⟨a, vs, rfl, l1, r1⟩ := rx
    obtain ⟨b, us, rfl, l2, r2⟩ := ry
    split at e
    · rename_i hl
      cases e
      refine uOp_of op_catT ⟨a, b, vs, us, rfl, rfl, l1.sq, l2.sq, fun z => hl.2 ?_, by rw [r1.length, r2.length]; exact hl.1, fun z => ?_, fun z p hp => k _ _ _ (grow_fr hat hp) (rep_newTup hat hp (r1.append r2))⟩
      · have := r1.length
        rw [z] at this
        exact List.length_eq_zero_iff.mp this.symm
      · refine k _ g H (Grow.refl hat) ?_
        have := r2.length
        rw [z] at this
        rw [List.length_eq_zero_iff.mp this.symm, List.append_nil]
        exact rx0
    · cases e
  · cases e
def iaddO (h : MH) : D → D → Option R
  | .int i, .int j => some (.v (.int (i + j)))
  | .str s, .str t => if s.length + t.length ≤ sizeLine then some (.v (.str (s ++ t))) else none
  | _, _ => none
theorem ok_iadd : OpOk F (inplaceOp .Add) iaddO := fun X gd h g H hat x y dx dy r rx ry e Q k => by
  unfold iaddO at e
  split at e
  · simp only [Rep] at rx ry
    subst rx; subst ry; cases e
    exact uOp_of iop_add ⟨_, _, rfl, rfl, k _ g H (Grow.refl hat) (by simp [RN, Rep])⟩
  · simp only [Rep] at rx ry
    subst rx; subst ry
    split at e
    · rename_i hl
      cases e
      exact uOp_of iop_add_str ⟨_, _, rfl, rfl, by rw [S_length, S_length]; exact hl, k _ g H (Grow.refl hat) (by simp [RN, Rep, S_app])⟩
    · cases e
  · cases e
def subO (h : MH) : D → D → Option R
  | .int i, .int j => some (.v (.int (i - j)))
  | _, _ => none
theorem ok_sub : OpOk F (binaryOp .Sub) subO := fun X gd h g H hat x y dx dy r rx ry e Q k => by
  unfold subO at e
  split at e
  · simp only [Rep] at rx ry
    subst rx; subst ry; cases e
    exact uOp_of op_sub ⟨_, _, rfl, rfl, k _ g H (Grow.refl hat) (by simp [RN, Rep])⟩
  · cases e
def mulC (i j : Int) : Prop := i.natAbs < 2 ^ 64 ∨ j.natAbs < 2 ^ 64
instance (i j : Int) : Decidable (mulC i j) := by unfold mulC; infer_instance
def repeatL {α : Type} (k : Int) (xs : List α) : List α := (List.replicate k.toNat xs).flatten
def mulO (h : MH) : D → D → Option R
  | .int i, .int j => if mulC i j then some (.v (.int (i * j))) else none
  | .str s, .int j => if s.length * j.toNat ≤ sizeLine ∧ j.natAbs < 2 ^ 62 then some (.v (.str (repeatL j s))) else none
  | _, _ => none
def fdivO (h : MH) : D → D → Option R
  | .int i, .int j => if 0 < j ∧ j.natAbs < 1073741824 then some (.v (.int (i / j))) else none
  | _, _ => none
theorem ok_fdiv : OpOk F (binaryOp .FloorDiv) fdivO := fun X gd h g H hat x y dx dy r rx ry e Q k => by
  unfold fdivO at e
  split at e
  · simp only [Rep] at rx ry
    subst rx; subst ry
    split at e
    · rename_i hj
      cases e
      exact uOp_of op_fdiv ⟨_, _, rfl, rfl, ⟨hj.1, by have := hj.2; have := hj.1; omega⟩, k _ g H (Grow.refl hat) (by simp [RN, Rep])⟩
    · cases e
  · cases e
def modO (h : MH) : D → D → Option R
  | .int i, .int j => if 0 < j then some (.v (.int (i % j))) else none
  | _, _ => none
theorem ok_mod : OpOk F (binaryOp .Mod) modO := fun X gd h g H hat x y dx dy r rx ry e Q k => by
  unfold modO at e
  split at e
  · simp only [Rep] at rx ry
    subst rx; subst ry
    split at e
    · rename_i hj
      cases e
      exact uOp_of op_mod ⟨_, _, rfl, rfl, hj, k _ g H (Grow.refl hat) (by simp [RN, Rep])⟩
    · cases e
  · cases e
def negO (h : MH) : D → Option R
  | .int i => some (.v (.int (-i)))
  | _ => none
theorem ok_neg : UnOk F (unaryOp .USub) negO := fun X gd h g H hat x dx r rx e Q k => by
  unfold negO at e
  split at e
  · simp only [Rep] at rx
    subst rx; cases e
    exact uUn_of un_neg ⟨_, rfl, k _ g H (Grow.refl hat) (by simp [RN, Rep])⟩
  · cases e
theorem ok_isub : OpOk F (inplaceOp .Sub) subO := fun X gd h g H hat x y dx dy r rx ry e Q k => by
  unfold subO at e
  split at e
  · simp only [Rep] at rx ry
    subst rx; subst ry; cases e
    exact uOp_of iop_sub ⟨_, _, rfl, rfl, k _ g H (Grow.refl hat) (by simp [RN, Rep])⟩
  · cases e
def mulIO (h : MH) : D → D → Option R
  | .int i, .int j => if mulC i j then some (.v (.int (i * j))) else none
  | _, _ => none
theorem ok_mulI : OpOk F (binaryOp .Mult) mulIO := fun X gd h g H hat x y dx dy r rx ry e Q k => by
  unfold mulIO at e
  split at e
  · simp only [Rep] at rx ry
    subst rx; subst ry
    split at e
    · rename_i hj
      cases e
      refine uOp_of op_mul ⟨_, _, rfl, rfl, ?_, k _ g H (Grow.refl hat) (by simp [RN, Rep])⟩
      unfold mulC at hj
      unfold CMul
      omega
    · cases e
  · cases e
/-! ## comparisons -/
def cmpO (p : Int → Int → Bool) (q : List Nat → List Nat → Bool) (h : MH) : D → D → Option R
  | .int i, .int j => some (.v (.bl (p i j)))
  | .str s, .str t => some (.v (.bl (q s t)))
  | _, _ => none
abbrev ltO := cmpO (fun i j => decide (i < j)) (fun s t => decide (s < t))
abbrev gtO := cmpO (fun i j => decide (j < i)) (fun s t => decide (t < s))
abbrev leO := cmpO (fun i j => decide (i ≤ j)) (fun s t => !decide (t < s))
abbrev geO := cmpO (fun i j => decide (j ≤ i)) (fun s t => !decide (s < t))
theorem ok_lt : OpOk F (compareOp .Lt) ltO := fun X gd h g H hat x y dx dy r rx ry e Q k => by
  unfold ltO cmpO at e
  split at e
  · simp only [Rep] at rx ry
    subst rx; subst ry; cases e
    exact uOp_of op_lt ⟨_, _, rfl, rfl, k _ g H (Grow.refl hat) (by simp [RN, Rep])⟩
  · simp only [Rep] at rx ry
    subst rx; subst ry; cases e
    exact uOp_of op_lt_str ⟨_, _, rfl, rfl, k _ g H (Grow.refl hat) (by simp [RN, Rep, S_list])⟩
  · cases e
theorem ok_gt : OpOk F (compareOp .Gt) gtO := fun X gd h g H hat x y dx dy r rx ry e Q k => by
  unfold gtO cmpO at e
  split at e
  · simp only [Rep] at rx ry
    subst rx; subst ry; cases e
    exact uOp_of op_gt ⟨_, _, rfl, rfl, k _ g H (Grow.refl hat) (by simp [RN, Rep])⟩
  · simp only [Rep] at rx ry
    subst rx; subst ry; cases e
    exact uOp_of op_gt_str ⟨_, _, rfl, rfl, k _ g H (Grow.refl hat) (by simp [RN, Rep, S_list])⟩
  · cases e
theorem ok_le : OpOk F (compareOp .LtE) leO := fun X gd h g H hat x y dx dy r rx ry e Q k => by
  unfold leO cmpO at e
  split at e
  · simp only [Rep] at rx ry
    subst rx; subst ry; cases e
    exact uOp_of op_le ⟨_, _, rfl, rfl, k _ g H (Grow.refl hat) (by simp [RN, Rep])⟩
  · simp only [Rep] at rx ry
    subst rx; subst ry; cases e
    exact uOp_of op_le_str ⟨_, _, rfl, rfl, k _ g H (Grow.refl hat) (by simp [RN, Rep, S_list])⟩
  · cases e
theorem ok_ge : OpOk F (compareOp .GtE) geO := fun X gd h g H hat x y dx dy r rx ry e Q k => by
  unfold geO cmpO at e
  split at e
  · simp only [Rep] at rx ry
    subst rx; subst ry; cases e
    exact uOp_of op_ge ⟨_, _, rfl, rfl, k _ g H (Grow.refl hat) (by simp [RN, Rep])⟩
  · simp only [Rep] at rx ry
    subst rx; subst ry; cases e
    exact uOp_of op_ge_str ⟨_, _, rfl, rfl, k _ g H (Grow.refl hat) (by simp [RN, Rep, S_list])⟩
  · cases e
/-! ## equality -/
mutual
def toPy : D → Option PyData
  | .non => some .none
  | .bl b => some (.bool b)
  | .int i => some (.int i)
  | .str s => some (.str (S s))
  | .tup ds => (toPys ds).map .tuple
  | .lst ds => (toPys ds).map .list
  | .loc _ => none
  | .dct _ _ => none
def toPys : List D → Option (List PyData)
  | [] => some []
  | d :: ds => match toPy d, toPys ds with
    | some a, some r => some (a :: r)
    | _, _ => none
end
mutual
theorem rep_dp {K : PySem.W.Frag} {w : World} {g : Gh} {H : Hp} : ∀ (d : D) {x : V} {p : PyData}, Rep K w g H x d → toPy d = some p → Dp K H x p
  | .non, _, _, r, e => by simp only [Rep] at r; subst r; simp [toPy] at e; subst e; exact .non
  | .bl b, _, _, r, e => by simp only [Rep] at r; subst r; simp [toPy] at e; subst e; exact .bl b
  | .int i, _, _, r, e => by simp only [Rep] at r; subst r; simp [toPy] at e; subst e; exact .int i
  | .str s, _, _, r, e => by simp only [Rep] at r; subst r; simp [toPy] at e; subst e; exact .str _
  | .tup ds, _, _, r, e => by
    simp only [Rep] at r
    obtain ⟨a, vs, rfl, t, rs⟩ := r
    simp only [toPy] at e
    cases e2 : toPys ds with
    | none => rw [e2] at e; cases e
    | some l => rw [e2] at e; cases e; exact .tup t.sq (reps_dp ds rs e2)
  | .lst ds, _, _, r, e => by
    simp only [Rep] at r
    obtain ⟨a, vs, rfl, t, rs⟩ := r
    simp only [toPy] at e
    cases e2 : toPys ds with
    | none => rw [e2] at e; cases e
    | some l => rw [e2] at e; cases e; exact .lst t.sq (reps_dp ds rs e2)
  | .loc _, _, _, _, e => by simp [toPy] at e
  | .dct _ _, _, _, _, e => by simp [toPy] at e
theorem reps_dp {K : PySem.W.Frag} {w : World} {g : Gh} {H : Hp} : ∀ (ds : List D) {xs : List V} {ps : List PyData}, Reps K w g H xs ds → toPys ds = some ps → DpAll K H xs ps
  | [], _, _, r, e => by rw [Reps.nil_iff] at r; subst r; simp [toPys] at e; subst e; exact .nil
  | d :: ds, _, _, r, e => by
    rw [Reps.cons_iff] at r
    obtain ⟨v, vs, rfl, r1, r2⟩ := r
    simp only [toPys] at e
    cases e1 : toPy d with
    | none => rw [e1] at e; cases e
    | some p =>
      cases e2 : toPys ds with
      | none => rw [e1, e2] at e; cases e
      | some ps => rw [e1, e2] at e; cases e; exact .cons (rep_dp d r1 e1) (reps_dp ds r2 e2)
end
/-- == of two data, where it is told -/
def eqD (x y : D) : Option Bool := match x, y with
  | .str s, .str t => some (decide (s = t))
  | .int i, .int j => some (decide (i = j))
  | .bl i, .bl j => some (decide (i = j))
  | .non, .str _ => some false
  | .str _, .non => some false
  | .non, .int _ => some false
  | .int _, .non => some false
  | x, y => match toPy x, toPy y with
    | some a, some b => if SeqAt.shaped a = true ∧ SeqAt.shaped b = true then some (PyData.eqv a b) else none
    | _, _ => none
def eqO (h : MH) (x y : D) : Option R := (eqD x y).map fun b => .v (.bl b)
def neO (h : MH) (x y : D) : Option R := (eqD x y).map fun b => .v (.bl (!b))
theorem eqD_ok {X : Cx} {g : Gh} {H : Hp} {x y : V} {dx dy : D} {b : Bool} (rx : Rep X.K X.w g H x dx) (ry : Rep X.K X.w g H y dy) (e : eqD dx dy = some b) :
    (scal x y = true ∧ b = decide (x = y)) ∨ ∃ p q, Dp X.K H x p ∧ Dp X.K H y q ∧ SeqAt.shaped p = true ∧ SeqAt.shaped q = true ∧ b = PyData.eqv p q := by
  unfold eqD at e
  split at e
  · simp only [Rep] at rx ry
    subst rx; subst ry; cases e
    refine .inl ⟨rfl, ?_⟩
    rename_i s t
    by_cases h : s = t
    · subst h; simp
    · rw [decide_eq_false h, decide_eq_false]
      intro q
      injection q with q
      exact h (S_inj q)
  · simp only [Rep] at rx ry
    subst rx; subst ry; cases e
    exact .inl ⟨rfl, by simp⟩
  · simp only [Rep] at rx ry
    subst rx; subst ry; cases e
    exact .inl ⟨rfl, by simp⟩
  · simp only [Rep] at rx ry
    subst rx; subst ry; cases e
    exact .inl ⟨rfl, by simp⟩
  · simp only [Rep] at rx ry
    subst rx; subst ry; cases e
    exact .inl ⟨rfl, by simp⟩
  · simp only [Rep] at rx ry
    subst rx; subst ry; cases e
    exact .inl ⟨rfl, by simp⟩
  · simp only [Rep] at rx ry
    subst rx; subst ry; cases e
    exact .inl ⟨rfl, by simp⟩
  · split at e
    · rename_i a b e1 e2
      split at e
      · rename_i hs
        cases e
        exact .inr ⟨a, b, rep_dp _ rx e1, rep_dp _ ry e2, hs.1, hs.2, rfl⟩
      · cases e
    · cases e
theorem ok_eq : OpOk F (compareOp .Eq) eqO := fun X gd h g H hat x y dx dy r rx ry e Q k => by
  unfold eqO at e
  cases eb : eqD dx dy with
  | none => rw [eb] at e; cases e
  | some b =>
    rw [eb] at e
    cases e
    rcases eqD_ok rx ry eb with ⟨h1, rfl⟩ | ⟨p, q, d1, d2, s1, s2, rfl⟩
    · exact uOp_of op_eq ⟨h1, k _ g H (Grow.refl hat) (by simp [RN, Rep])⟩
    · exact uOp_of (op_eqD gd.units) ⟨p, q, d1, d2, s1, s2, k _ g H (Grow.refl hat) (by simp [RN, Rep])⟩
theorem ok_ne : OpOk F (compareOp .NotEq) neO := fun X gd h g H hat x y dx dy r rx ry e Q k => by
  unfold neO at e
  cases eb : eqD dx dy with
  | none => rw [eb] at e; cases e
  | some b =>
    rw [eb] at e
    cases e
    rcases eqD_ok rx ry eb with ⟨h1, rfl⟩ | ⟨p, q, d1, d2, s1, s2, rfl⟩
    · exact uOp_of op_ne ⟨h1, k _ g H (Grow.refl hat) (by simp [RN, Rep])⟩
    · exact uOp_of (op_neD gd.units) ⟨p, q, d1, d2, s1, s2, k _ g H (Grow.refl hat) (by simp [RN, Rep])⟩
/-- is None, is not None -/
def isNonD : D → Bool
  | .non => true
  | _ => false
def isNO (h : MH) (x y : D) : Option R := match y with
  | .non => some (.v (.bl (isNonD x)))
  | _ => none
def notNO (h : MH) (x y : D) : Option R := match y with
  | .non => some (.v (.bl (!isNonD x)))
  | _ => none
theorem isNon_ok {K : PySem.W.Frag} {w : World} {g : Gh} {H : Hp} {x : V} {d : D} (r : Rep K w g H x d) : decide (x = .non) = isNonD d := by
  cases d <;> simp only [Rep] at r
  · subst r; rfl
  · subst r; rfl
  · subst r; rfl
  · subst r; rfl
  · obtain ⟨a, vs, rfl, _⟩ := r; rfl
  · obtain ⟨a, vs, rfl, _⟩ := r; rfl
  · obtain ⟨_, rfl⟩ := r; rfl
  · obtain ⟨a, vs, rfl, _⟩ := r; rfl
theorem ok_is : OpOk F (compareOp .Is) isNO := fun X gd h g H hat x y dx dy r rx ry e Q k => by
  unfold isNO at e
  split at e
  · simp only [Rep] at ry
    subst ry; cases e
    exact uOp_of op_isN ⟨rfl, k _ g H (Grow.refl hat) (by simp [RN, Rep, isNon_ok rx])⟩
  · cases e
theorem ok_isnot : OpOk F (compareOp .IsNot) notNO := fun X gd h g H hat x y dx dy r rx ry e Q k => by
  unfold notNO at e
  split at e
  · simp only [Rep] at ry
    subst ry; cases e
    exact uOp_of op_notN ⟨rfl, k _ g H (Grow.refl hat) (by simp [RN, Rep, isNon_ok rx])⟩
  · cases e
/-! ## in -/
def flatD : D → Bool
  | .non => true
  | .bl _ => true
  | .int _ => true
  | .str _ => true
  | _ => false
def eqF : D → D → Bool
  | .non, .non => true
  | .bl a, .bl b => a == b
  | .bl a, .int b => (if a then 1 else 0) == b
  | .int a, .bl b => a == (if b then 1 else 0)
  | .int a, .int b => a == b
  | .str a, .str b => a == b
  | _, _ => false
def inL (x : D) (ys : List D) : Option Bool := if flatD x = true ∧ ys.all flatD = true then some (ys.any fun y => eqF y x) else none
def inD (h : MH) (x y : D) : Option Bool := match y with
  | .str t => (match x with
    | .str [c] => some (decide (c ∈ t))
    | _ => none)
  | .tup ys => inL x ys
  | .lst ys => inL x ys
  | .dct ks ds => (match x with
    | .str s => if ks.length = ds.length then some (decide (s ∈ ks)) else none
    | _ => none)
  | _ => none
def inO (h : MH) (x y : D) : Option R := (inD h x y).map fun b => .v (.bl b)
def ninO (h : MH) (x y : D) : Option R := (inD h x y).map fun b => .v (.bl (!b))
theorem flat_ok {K : PySem.W.Frag} {w : World} {g : Gh} {H : Hp} {x : V} {d : D} (r : Rep K w g H x d) (f : flatD d = true) : flatV x = true := by
  cases d <;> simp only [Rep] at r <;> first | (subst r; rfl) | cases f
theorem eqF_ok {K : PySem.W.Frag} {w : World} {g : Gh} {H : Hp} {x y : V} {d e : D} (rx : Rep K w g H x d) (ry : Rep K w g H y e) (f1 : flatD d = true) (f2 : flatD e = true) : eqV x y = eqF d e := by
  cases d <;> cases e <;> first | exact absurd f1 Bool.false_ne_true | exact absurd f2 Bool.false_ne_true | skip
  all_goals
    simp only [Rep] at rx ry
    subst rx; subst ry
    first | rfl | skip
  rename_i a b
  show (S a == S b) = (a == b)
  by_cases h : a = b
  · subst h; simp
  · rw [beq_eq_false_iff_ne.mpr h, beq_eq_false_iff_ne.mpr fun z => h (S_inj z)]
theorem flats_ok {K : PySem.W.Frag} {w : World} {g : Gh} {H : Hp} : ∀ {ds : List D} {xs : List V}, Reps K w g H xs ds → ds.all flatD = true → xs.all flatV = true
  | [], _, r, _ => by rw [Reps.nil_iff] at r; subst r; rfl
  | d :: ds, _, r, f => by
    rw [Reps.cons_iff] at r
    obtain ⟨v, vs, rfl, r1, r2⟩ := r
    rw [List.all_cons, Bool.and_eq_true] at f ⊢
    exact ⟨flat_ok r1 f.1, flats_ok r2 f.2⟩
theorem any_ok {K : PySem.W.Frag} {w : World} {g : Gh} {H : Hp} {x : V} {d : D} (rx : Rep K w g H x d) (f1 : flatD d = true) : ∀ {ds : List D} {xs : List V}, Reps K w g H xs ds → ds.all flatD = true → inV x xs = ds.any fun y => eqF y d
  | [], _, r, _ => by rw [Reps.nil_iff] at r; subst r; rfl
  | e :: ds, _, r, f => by
    rw [Reps.cons_iff] at r
    obtain ⟨v, vs, rfl, r1, r2⟩ := r
    rw [List.all_cons, Bool.and_eq_true] at f
    have := any_ok rx f1 r2 f.2
    unfold inV at this ⊢
    rw [List.any_cons, List.any_cons, this, eqF_ok r1 rx f.1 f1]
theorem lookup_mem : ∀ (ks : List (List Nat)) (vs : List V) (s : List Nat), ks.length = vs.length → ((ks.zip vs).lookup s).isSome = decide (s ∈ ks)
  | [], _, s, _ => by simp
  | k :: ks, [], s, h => by simp at h
  | k :: ks, v :: vs, s, h => by
    rw [List.zip_cons_cons, List.lookup_cons]
    by_cases e : s = k
    · subst e; simp
    · have : (s == k) = false := beq_eq_false_iff_ne.mpr e
      rw [this]
      have ih := lookup_mem ks vs s (by simpa using h)
      simp [ih, e]
theorem valV_kv (s : List Nat) : ∀ (ks : List (List Nat)) (vs : List V), valV (kvK ks vs) (Sum.inr (S s)) = (ks.zip vs).lookup s
  | [], vs => by simp [kvK, valV]
  | k :: ks, [] => by simp [kvK, valV]
  | k :: ks, v :: vs => by
    have ih := valV_kv s ks vs
    unfold kvK valV at *
    rw [List.map_cons, List.zip_cons_cons, List.find?_cons, List.zip_cons_cons, List.lookup_cons]
    by_cases e : s = k
    · subst e; simp
    · have h1 : (s == k) = false := beq_eq_false_iff_ne.mpr e
      have h2 : decide ((Sum.inr (S k) : Key) = Sum.inr (S s)) = false := decide_eq_false fun z => e (S_inj (Sum.inr.inj z)).symm
      rw [h1, h2]
      exact ih
/-- in a made dict -/
theorem dd_in {X : Cx} (hu : X.A.units + 1 < cLine) {a : Addr} {ks : List (List Nat)} {vs : List V} {s : List Nat} (hl : ks.length = vs.length) :
    OpR X (compareOp .In) (fun x y H Q => x = .str (S s) ∧ y = .ref a ∧ H a = some (.dK (kvK ks vs)) ∧ Q (.bl (decide (s ∈ ks))) H) ∧ OpR X (compareOp .NotIn) (fun x y H Q => x = .str (S s) ∧ y = .ref a ∧ H a = some (.dK (kvK ks vs)) ∧ Q (.bl (!decide (s ∈ ks))) H) := by
  constructor
  · intro pins s' σ H x y v u Q I rx ry q
    obtain ⟨rfl, rfl, hd, q⟩ := q
    obtain rfl : u = Value.ref a := ry
    refine d_in hu I (DGet.k (k := Sum.inr (S s)) hd) rx fun s2 I2 => ?_
    rw [valV_kv, lookup_mem ks vs s hl]
    exact ⟨.bl _, H, I2, rfl, q⟩
  · intro pins s' σ H x y v u Q I rx ry q
    obtain ⟨rfl, rfl, hd, q⟩ := q
    obtain rfl : u = Value.ref a := ry
    refine d_notIn hu I (DGet.k (k := Sum.inr (S s)) hd) rx fun s2 I2 => ?_
    rw [valV_kv, lookup_mem ks vs s hl]
    exact ⟨.bl _, H, I2, rfl, q⟩
theorem kd_in {X : Cx} {a : Addr} {ks : List (List Nat)} {vs : List V} {s : List Nat} (k : KDc X.K X.w a ks vs) (hl : ks.length = vs.length) :
    OpR X (compareOp .In) (fun x y H Q => x = .str (S s) ∧ y = .ref a ∧ Q (.bl (decide (s ∈ ks))) H) ∧ OpR X (compareOp .NotIn) (fun x y H Q => x = .str (S s) ∧ y = .ref a ∧ Q (.bl (!decide (s ∈ ks))) H) := by
  obtain ⟨es, n, h1, h2, h3, h4⟩ := k
  have h4 := h4 s
  have hfind : ∃ r, PySem.W.nsIn X.K a (S s) = some r ∧ r.isSome = decide (s ∈ ks) := by
    rw [← lookup_mem ks vs s hl]
    split at h4
    · rename_i v e
      obtain ⟨u, e1, _⟩ := h4
      exact ⟨_, e1, by rw [e]; rfl⟩
    · rename_i e
      exact ⟨_, h4, by rw [e]; rfl⟩
  obtain ⟨r, e1, e2⟩ := hfind
  constructor
  · intro pins s' σ H x y v u Q I rx ry q
    obtain ⟨rfl, rfl, q⟩ := q
    obtain ⟨t, rfl⟩ := rx
    obtain rfl : u = Value.ref a := ry
    have hm := PySem.W.mapOf_K (prog := X.prog) (w := X.w) I.kIn h1 h2
    refine wpAny_in_of (strKind_is X.prog X.w (S s) t) h3 hm ?_
    rw [PySem.W.find_K h1 e1, e2]
    exact ⟨.bl _, H, I.tok _, rfl, q⟩
  · intro pins s' σ H x y v u Q I rx ry q
    obtain ⟨rfl, rfl, q⟩ := q
    obtain ⟨t, rfl⟩ := rx
    obtain rfl : u = Value.ref a := ry
    have hm := PySem.W.mapOf_K (prog := X.prog) (w := X.w) I.kIn h1 h2
    refine wpAny_notIn_of (strKind_is X.prog X.w (S s) t) h3 hm ?_
    rw [PySem.W.find_K h1 e1, e2]
    exact ⟨.bl _, H, I.tok _, rfl, q⟩
theorem ok_in : OpOk F (compareOp .In) inO := fun X gd h g H hat x y dx dy r rx ry e Q k => by
  unfold inO at e
  cases eb : inD h dx dy with
  | none => rw [eb] at e; cases e
  | some b =>
    rw [eb] at e
    cases e
    have k' : Q (.bl b) H := k _ g H (Grow.refl hat) (by simp [RN, Rep])
    unfold inD at eb
    split at eb
    · split at eb
      · rename_i t _ c
        simp only [Rep] at rx ry
        subst rx; subst ry; cases eb
        exact uOp_of op_in_sign ⟨c, S t, rfl, rfl, by rw [S_list]; exact k'⟩
      · cases eb
    · simp only [Rep] at ry
      obtain ⟨a, vs, rfl, l, rs⟩ := ry
      unfold inL at eb
      split at eb
      · rename_i f
        cases eb
        refine uOp_of op_in_seq ⟨a, vs, rfl, .inr l.sq, flat_ok rx f.1, flats_ok rs f.2, ?_⟩
        rw [if_neg (by decide), any_ok rx f.1 rs f.2]
        exact k'
      · cases eb
    · simp only [Rep] at ry
      obtain ⟨a, vs, rfl, l, rs⟩ := ry
      unfold inL at eb
      split at eb
      · rename_i f
        cases eb
        refine uOp_of op_in_seq ⟨a, vs, rfl, .inl l.sq, flat_ok rx f.1, flats_ok rs f.2, ?_⟩
        rw [if_neg (by decide), any_ok rx f.1 rs f.2]
        exact k'
      · cases eb
    · split at eb
      · split at eb
        · rename_i ks ds _ s hl
          simp only [Rep] at rx ry
          obtain ⟨a, vs, rfl, kd, rs⟩ := ry
          subst rx
          cases eb
          rcases kd with ⟨kd, _⟩ | ⟨_, kd⟩
          · exact uOp_of (kd_in kd (by rw [hl, rs.length])).1 ⟨rfl, rfl, k'⟩
          · exact uOp_of (dd_in (by have := gd.units; omega) (by rw [hl, rs.length])).1 ⟨rfl, rfl, kd, k'⟩
        · cases eb
      · cases eb
    · cases eb
theorem ok_nin : OpOk F (compareOp .NotIn) ninO := fun X gd h g H hat x y dx dy r rx ry e Q k => by
  unfold ninO at e
  cases eb : inD h dx dy with
  | none => rw [eb] at e; cases e
  | some b =>
    rw [eb] at e
    cases e
    have k' : Q (.bl (!b)) H := k _ g H (Grow.refl hat) (by simp [RN, Rep])
    unfold inD at eb
    split at eb
    · split at eb
      · rename_i t _ c
        simp only [Rep] at rx ry
        subst rx; subst ry; cases eb
        exact uOp_of op_notIn_sign ⟨c, S t, rfl, rfl, by rw [S_list]; exact k'⟩
      · cases eb
    · simp only [Rep] at ry
      obtain ⟨a, vs, rfl, l, rs⟩ := ry
      unfold inL at eb
      split at eb
      · rename_i f
        cases eb
        refine uOp_of op_notIn_seq ⟨a, vs, rfl, .inr l.sq, flat_ok rx f.1, flats_ok rs f.2, ?_⟩
        rw [if_pos rfl, any_ok rx f.1 rs f.2]
        exact k'
      · cases eb
    · simp only [Rep] at ry
      obtain ⟨a, vs, rfl, l, rs⟩ := ry
      unfold inL at eb
      split at eb
      · rename_i f
        cases eb
        refine uOp_of op_notIn_seq ⟨a, vs, rfl, .inl l.sq, flat_ok rx f.1, flats_ok rs f.2, ?_⟩
        rw [if_pos rfl, any_ok rx f.1 rs f.2]
        exact k'
      · cases eb
    · split at eb
      · split at eb
        · rename_i ks ds _ s hl
          simp only [Rep] at rx ry
          obtain ⟨a, vs, rfl, kd, rs⟩ := ry
          subst rx
          cases eb
          rcases kd with ⟨kd, _⟩ | ⟨_, kd⟩
          · exact uOp_of (kd_in kd (by rw [hl, rs.length])).2 ⟨rfl, rfl, k'⟩
          · exact uOp_of (dd_in (by have := gd.units; omega) (by rw [hl, rs.length])).2 ⟨rfl, rfl, kd, k'⟩
        · cases eb
      · cases eb
    · cases eb
end
end Mi
end
section
set_option Elab.async false
set_option linter.all false
set_option maxRecDepth 100000
open PySem PySem.Spec PyProof.Rows L2
namespace Mi
section
variable {F : Fr}
/-! ## subscripts -/
def ixD (h : MH) (x y : D) : Option D := match x with
  | .lst ds => (match y with
    | .int j => atI ds j
    | _ => none)
  | .tup ds => (match y with
    | .int j => atI ds j
    | _ => none)
  | .str s => (match y with
    | .int j => if s.length ≤ sizeLine then (atI s j).map fun c => .str [c] else none
    | _ => none)
  | .loc n => (match h[n]? with
    | some (.lst ds) => (match y with
      | .int j => atI ds j
      | _ => none)
    | none => none)
  | .dct ks ds => (match y with
    | .str s => (ks.zip ds).lookup s
    | _ => none)
  | _ => none
def ixO (h : MH) (x y : D) : Option R := (ixD h x y).map .v
theorem lookup_reps {K : PySem.W.Frag} {w : World} {g : Gh} {H : Hp} : ∀ (ks : List (List Nat)) (ds : List D) (vs : List V) (s : List Nat) (d : D), Reps K w g H vs ds → (ks.zip ds).lookup s = some d → ∃ v, (ks.zip vs).lookup s = some v ∧ Rep K w g H v d
  | [], ds, vs, s, d, _, e => by simp at e
  | k :: ks, [], vs, s, d, _, e => by simp at e
  | k :: ks, d0 :: ds, vs, s, d, r, e => by
    rw [Reps.cons_iff] at r
    obtain ⟨v0, r0, rfl, h1, h2⟩ := r
    rw [List.zip_cons_cons, List.lookup_cons] at e ⊢
    cases q : s == k with
    | true => rw [q] at e; cases e; exact ⟨v0, rfl, h1⟩
    | false => rw [q] at e; exact lookup_reps ks ds r0 s d h2 e
theorem ix_dd {X : Cx} (hu : X.A.units + 1 < cLine) : IxR X (fun x y H Q => ∃ a v, x = .ref a ∧ DGet H a y (some v) ∧ Q v H) := by
  intro value slice pins s σ H x y v u Q I rx ry z hs
  obtain ⟨a, r, rfl, gt, q⟩ := z
  obtain rfl : v = Value.ref a := rx
  exact tail_any (dict_typeIs I gt) slot_dict_getitem.lookup (d_getItem hu I gt ry fun w' s2 I2 rw' => ⟨r, H, I2, rw', q⟩) hs
theorem ok_ix : IxOk F ixO := fun X gd h g H hat x y dx dy r rx ry e Q k => by
  unfold ixO at e
  cases eb : ixD h dx dy with
  | none => rw [eb] at e; cases e
  | some d =>
    rw [eb] at e
    cases e
    have k' : ∀ v, Rep X.K X.w g H v d → Q v H := fun v q => k _ g H (Grow.refl hat) q
    unfold ixD at eb
    split at eb
    · split at eb
      · simp only [Rep] at rx ry
        obtain ⟨a, vs, rfl, l, rs⟩ := rx
        subst ry
        obtain ⟨v, ev, rv⟩ := atI_reps rs eb
        exact uIx_of ix_list ⟨a, vs, _, v, rfl, rfl, l.sq, ev, k' v rv⟩
      · cases eb
    · split at eb
      · simp only [Rep] at rx ry
        obtain ⟨a, vs, rfl, l, rs⟩ := rx
        subst ry
        obtain ⟨v, ev, rv⟩ := atI_reps rs eb
        exact uIx_of ix_tup ⟨a, vs, _, v, rfl, rfl, l.sq, ev, k' v rv⟩
      · cases eb
    · split at eb
      · split at eb
        · rename_i s _ j hl
          simp only [Rep] at rx ry
          subst rx; subst ry
          cases ec : atI s j with
          | none => rw [ec] at eb; cases eb
          | some c =>
            rw [ec] at eb
            cases eb
            exact uIx_of ix_str ⟨S s, j, c, rfl, rfl, by rw [S_length]; exact hl, by rw [S_list]; exact ec, k' _ (by simp [Rep, S])⟩
        · cases eb
      · cases eb
    · split at eb
      · rename_i n _ ds e2
        split at eb
        · simp only [Rep] at rx ry
          obtain ⟨_, rfl⟩ := rx
          subst ry
          obtain ⟨⟨vs, h1, rs⟩, _⟩ := hat.obj n _ e2
          obtain ⟨v, ev, rv⟩ := atI_reps rs eb
          exact uIx_of ix_list ⟨_, vs, _, v, rfl, rfl, .of h1, ev, k' v rv⟩
        · cases eb
      · cases eb
    · split at eb
      · rename_i ks ds _ s
        simp only [Rep] at rx ry
        obtain ⟨a, vs, rfl, kd, rs⟩ := rx
        subst ry
        obtain ⟨v, ev, rv⟩ := lookup_reps ks ds vs s d rs eb
        rcases kd with ⟨⟨es, n, h1, h2, h3, h4⟩, _⟩ | ⟨_, kd⟩
        · have h4 := h4 s
          rw [ev] at h4
          obtain ⟨u, e1, ru⟩ := h4
          exact uIx_of ix_kdict ⟨a, S s, v, rfl, rfl, ⟨es, n, u, h1, h2, e1, ru⟩, k' v rv⟩
        · exact uIx_of (ix_dd (by have := gd.units; omega)) ⟨a, v, rfl, by rw [← ev, ← valV_kv]; exact DGet.k (k := Sum.inr (S s)) kd, k' v rv⟩
      · cases eb
    · cases eb
/-! ## slices -/
def cutL {α : Type} (xs : List α) (lo hi : Option Int) : List α := (xs.drop (HT.sIx xs.length 0 lo)).take (HT.sIx xs.length xs.length hi - HT.sIx xs.length 0 lo)
theorem cutL_whole {α : Type} {xs : List α} {lo hi : Option Int} (h : HT.sIx xs.length 0 lo = 0 ∧ HT.sIx xs.length xs.length hi = xs.length) : cutL xs lo hi = xs := by
  unfold cutL
  rw [h.1, h.2]
  simp
theorem cutV_reps {K : PySem.W.Frag} {w : World} {g : Gh} {H : Hp} {vs : List V} {ds : List D} (r : Reps K w g H vs ds) (lo hi : Option Int) : Reps K w g H (cutV vs lo hi) (cutL ds lo hi) := by
  unfold cutV cutL
  rw [r.length]
  exact (r.drop _).take _
def MO' := Ev → MH → Rs (Option Int)
def SO (F : Fr) (e : Option Expr) (m : MO') : Prop := ∀ X W, Good F X → Takes X W → ∀ Hk gk σ env h g H (Q : Option Int → Hp → Prop), At X.K X.w X.mg Hk gk σ env h g H →
  post X.K X.w X.mg W Hk gk σ g H (m env h) (fun o _ _ _ H' => Q o H') → ∃ t, PO X e t ∧ t σ H Q
def pNone : MO' := fun env h => .ok none env h
def pSome (m : MV) : MO' := fun env h => (m env h).bind fun d env h => match d with
  | .int i => .ok (some i) env h
  | _ => .no
end
section
variable (X : Cx)
def uO (e : Option Expr) : TO := fun σ H Q => ∀ pins s, Inv X pins σ H s → wpAny (model X.prog X.w) X.A (evalPart e X.env) (fun u s' => ∃ o H', Inv X pins σ H' s' ∧ IsPart u o ∧ Q o H') X.xe s
def uSl : V → Option Int → Option Int → Hp → VK → Prop := fun x lo hi H Q => ∀ pins s σ v vl vu sl, Inv X pins σ H s → RelV x v → s.heap.IsSliceOf sl vl vu .none → IsPart vl lo → IsPart vu hi →
    ∃ T id, typeLookup (.type T) "__getitem__" = pure (some (.builtin id)) ∧ s.TypeIs v T ∧ wpAny (model X.prog X.w) X.A (getItem v (.ref sl)) (EP X pins σ Q) X.xe s
variable {X}
theorem po_u {e : Option Expr} : PO X e (uO X e) := ⟨fun pins s σ H Q I h => h pins s I⟩
theorem sl_u : SlR X (uSl X) := fun pins s σ H x v vl vu lo hi sl Q I rx hs pl pu h => h pins s σ v vl vu sl I rx hs pl pu
theorem uO_of {e : Option Expr} {t : TO} (h : PO X e t) {σ : L2.St} {H : Hp} {Q : Option Int → Hp → Prop} (q : t σ H Q) : uO X e σ H Q := fun pins s I => h.run pins s σ H Q I q
theorem uSl_of {r : V → Option Int → Option Int → Hp → VK → Prop} (h : SlR X r) {x : V} {lo hi : Option Int} {H : Hp} {Q : VK} (q : r x lo hi H Q) : uSl X x lo hi H Q := fun pins s σ v vl vu sl I rx hs pl pu => h pins s σ H x v vl vu lo hi sl Q I rx hs pl pu q
end
section
variable {F : Fr} {e a b c : Expr} {es : List Expr} {pos : Pos} {X : Cx} {W : WX} {Hk : Hp} {gk g : Gh} {σ : L2.St} {env : Ev} {h : MH} {H : Hp}
theorem so_none : SO F none pNone := fun X W gd tk Hk gk σ env h g H Q at_ p => ⟨_, po_none, p g H (Step.refl _ _) at_⟩
theorem so_some {m : MV} (he : SV F e m) : SO F (some e) (pSome m) := fun X W gd tk Hk gk σ env h g H Q at_ p => by
  refine ⟨_, po_some pe_u, ?_⟩
  refine he.go gd tk at_ p fun d env1 h1 g1 H1 x s1 a1 rx p1 => ?_
  split at p1
  · rename_i i
    exact ⟨i, by simpa [Rep] using rx, p1 g1 H1 (Step.refl _ _) a1⟩
  · exact p1.elim
theorem SO.go {o : Option Expr} {m : MO'} (s : SO F o m) (gd : Good F X) (tk : Takes X W) (at_ : At X.K X.w X.mg Hk gk σ env h g H) {β : Type} {f : Option Int → Ev → MH → Rs β} {C : β → Ev → MH → Gh → Hp → Prop} {Q : Option Int → Hp → Prop} (p : post X.K X.w X.mg W Hk gk σ g H ((m env h).bind f) C)
    (k : ∀ i env1 h1 g1 H1, Step g H g1 H1 → At X.K X.w X.mg Hk gk σ env1 h1 g1 H1 → post X.K X.w X.mg W Hk gk σ g1 H1 (f i env1 h1) C → Q i H1) : uO X o σ H Q := by
  obtain ⟨t, h1, h2⟩ := s X W gd tk Hk gk σ env h g H Q at_ ((post.bind p).imp fun d env1 h1 g1 H1 st a1 q => k d env1 h1 g1 H1 st a1 q)
  exact uO_of h1 h2
def slO (x : D) (lo hi : Option Int) : Option R := match x with
  | .str s => if s.length ≤ sizeLine then some (.v (.str (cutL s lo hi))) else none
  | .lst ds => some (.own (cutL ds lo hi))
  | .tup ds => some (.v (.tup (cutL ds lo hi)))
  | _ => none
def eSl (m : MV) (lo hi : MO') : ME := fun env h => (m env h).bind fun x env h => (lo env h).bind fun l env h => (hi env h).bind fun u env h => ofO (slO x l u) env h
theorem se_sl {m : MV} {lo hi : Option Expr} {ml mh : MO'} {p2 : Pos} (he : SV F e m) (hl : SO F lo ml) (hh : SO F hi mh) : SE F (.Subscript e (.Slice lo hi none p2) pos) (eSl m ml mh) := fun X W gd tk Hk gk σ env h g H Q at_ p => by
  refine uE_of (pe_slice sl_u pe_u po_u po_u) ?_
  refine he.go gd tk at_ p fun d env1 h1 g1 H1 x s1 a1 rx p1 => ?_
  refine hl.go gd tk a1 p1 fun l env2 h2 g2 H2 s2 a2 p2 => ?_
  refine hh.go gd tk a2 p2 fun u env3 h3 g3 H3 s3 a3 p3 => ?_
  obtain ⟨r, er, k⟩ := ofO_go a3 p3
  have rx := rx.step (s2.trans s3)
  unfold slO at er
  split at er
  · split at er
    · rename_i s _ hz
      simp only [Rep] at rx
      subst rx
      cases er
      refine uSl_of sl_str ⟨S s, rfl, by rw [S_length]; exact hz, k _ g3 H3 (Grow.refl a3.hat) ?_⟩
      simp only [RN, Rep]
      unfold cutS cutL S
      simp [Str.length]
    · cases er
  · simp only [Rep] at rx
    obtain ⟨a, vs, rfl, l1, rs⟩ := rx
    cases er
    exact uSl_of sl_list ⟨a, vs, rfl, l1.sq, fun p hp => k _ g3 _ (grow_new a3.hat hp) (rep_newLst a3.hat hp (cutV_reps rs _ _))⟩
  · have rx0 := rx
    simp only [Rep] at rx
    obtain ⟨a, vs, rfl, l1, rs⟩ := rx
    cases er
    refine uSl_of sl_tupA ⟨a, vs, rfl, l1.sq, fun hz => ?_, fun _ p hp => k _ _ _ (grow_fr a3.hat hp) (rep_newTup a3.hat hp (cutV_reps rs _ _))⟩
    rw [rs.length] at hz
    rw [cutL_whole hz] at k
    exact k _ g3 H3 (Grow.refl a3.hat) rx0
  · cases er
/-- x[a:b], x a name: its own list is not frozen -/
def eSlV (i : Nat) (lo hi : MO') : ME := fun env h => if live env i = true then (lo env h).bind fun l env h => (hi env h).bind fun u env h => match env[i]? with
  | some (.own ds) => .ok (.own (cutL ds l u)) env h
  | some (.v d) => ofO (slO d l u) env h
  | _ => .no else .no
theorem se_slv {i : Nat} {nm : Str} {lo hi : Option Expr} {ml mh : MO'} {p1 p2 : Pos} (hN : F.N[i]? = some nm := by rfl) (hv : Vis F.sc nm := by first | exact Or.inl rfl | exact Or.inr (Or.inl rfl) | exact Or.inr (Or.inr rfl)) (hd : (nm == ("__debug__" : Str)) = false := by decide) (hcd : (nm == ("__classdict__" : Str)) = false := by decide) (hl : SO F lo ml) (hh : SO F hi mh) : SE F (.Subscript (.Name nm p1) (.Slice lo hi none p2) pos) (eSlV i ml mh) := fun X W gd tk Hk gk σ env h g H Q at_ p => by
  refine uE_of (pe_slice sl_u (pe_var (i := i) (by rw [gd.N]; exact hN) (by rw [gd.sc]; exact hv) hd hcd) po_u po_u) ?_
  unfold eSlV at p
  split at p
  · rename_i hli
    obtain ⟨x, hx⟩ := slot_of at_ hli
    refine ⟨x, hx, ?_⟩
    refine hl.go gd tk at_ p fun l env2 h2 g2 H2 s2 a2 p2 => ?_
    refine hh.go gd tk a2 p2 fun u env3 h3 g3 H3 s3 a3 p3 => ?_
    split at p3
    · rename_i ds e1
      obtain ⟨a, h4, o⟩ := a3.own i ds e1
      rw [hx] at h4
      cases h4
      obtain ⟨vs, h5, rs⟩ := o.at_
      exact uSl_of sl_list ⟨a, vs, rfl, .of h5, fun p hp => p3 _ _ ((grow_new a3.hat hp).fstep a3.hat).toStep ((grow_new a3.hat hp).at a3) _ ((rep_newLst a3.hat hp (cutV_reps rs _ _)).rr a3 (grow_new a3.hat hp))⟩
    · rename_i d e1
      obtain ⟨x', h4, rx⟩ := a3.val i d e1
      rw [hx] at h4
      cases h4
      obtain ⟨r, er, k⟩ := ofO_go a3 p3
      unfold slO at er
      split at er
      · split at er
        · rename_i s hz
          simp only [Rep] at rx
          subst rx
          cases er
          refine uSl_of sl_str ⟨S s, rfl, by rw [S_length]; exact hz, k _ g3 H3 (Grow.refl a3.hat) ?_⟩
          simp only [RN, Rep]
          unfold cutS cutL S
          simp [Str.length]
        · cases er
      · simp only [Rep] at rx
        obtain ⟨a, vs, rfl, l1, rs⟩ := rx
        cases er
        exact uSl_of sl_list ⟨a, vs, rfl, l1.sq, fun p hp => k _ g3 _ (grow_new a3.hat hp) (rep_newLst a3.hat hp (cutV_reps rs _ _))⟩
      · have rx0 := rx
        simp only [Rep] at rx
        obtain ⟨a, vs, rfl, l1, rs⟩ := rx
        cases er
        refine uSl_of sl_tupA ⟨a, vs, rfl, l1.sq, fun hz => ?_, fun _ p hp => k _ _ _ (grow_fr a3.hat hp) (rep_newTup a3.hat hp (cutV_reps rs _ _))⟩
        rw [rs.length] at hz
        rw [cutL_whole hz] at k
        exact k _ g3 H3 (Grow.refl a3.hat) rx0
      · cases er
    · exact p3.elim
  · exact p.elim
end
section
variable {F : Fr}
/-! ## built-ins -/
def lenO (h : MH) (ds : List D) : Option R := match ds with
  | [.lst xs] => some (.v (.int xs.length))
  | [.tup xs] => some (.v (.int xs.length))
  | [.str s] => if s.length ≤ sizeLine then some (.v (.int s.length)) else none
  | [.loc n] => (match h[n]? with
    | some (.lst xs) => some (.v (.int xs.length))
    | none => none)
  | _ => none
theorem one_reps {K : PySem.W.Frag} {w : World} {g : Gh} {H : Hp} {xs : List V} {d : D} (r : Reps K w g H xs [d]) : ∃ x, xs = [x] ∧ Rep K w g H x d := by
  rw [Reps.cons_iff] at r
  obtain ⟨v, t, rfl, h1, h2⟩ := r
  rw [Reps.nil_iff] at h2
  subst h2
  exact ⟨v, rfl, h1⟩
theorem two_reps {K : PySem.W.Frag} {w : World} {g : Gh} {H : Hp} {xs : List V} {d e : D} (r : Reps K w g H xs [d, e]) : ∃ x y, xs = [x, y] ∧ Rep K w g H x d ∧ Rep K w g H y e := by
  rw [Reps.cons_iff] at r
  obtain ⟨v, t, rfl, h1, h2⟩ := r
  obtain ⟨y, rfl, h3⟩ := one_reps h2
  exact ⟨v, y, rfl, h1, h3⟩
theorem ok_len : CallOk F (.builtin "len") lenO := fun X gd h g H hat xs ds r rs e Q k => by
  unfold lenO at e
  split at e
  · cases e
    obtain ⟨x, rfl, rx⟩ := one_reps rs
    simp only [Rep] at rx
    obtain ⟨a, vs, rfl, l, rv⟩ := rx
    refine uCl_of call_len_seq ⟨a, vs, rfl, .inl l.sq, ?_⟩
    rw [rv.length]
    exact k _ g H (Grow.refl hat) (by simp [RN, Rep])
  · cases e
    obtain ⟨x, rfl, rx⟩ := one_reps rs
    simp only [Rep] at rx
    obtain ⟨a, vs, rfl, l, rv⟩ := rx
    refine uCl_of call_len_seq ⟨a, vs, rfl, .inr l.sq, ?_⟩
    rw [rv.length]
    exact k _ g H (Grow.refl hat) (by simp [RN, Rep])
  · split at e
    · rename_i hz
      cases e
      obtain ⟨x, rfl, rx⟩ := one_reps rs
      simp only [Rep] at rx
      subst rx
      refine uCl_of call_len_str ⟨_, rfl, by rw [S_length]; exact hz, ?_⟩
      rw [S_length]
      exact k _ g H (Grow.refl hat) (by simp [RN, Rep])
    · cases e
  · split at e
    · rename_i n _ xs e2
      cases e
      obtain ⟨x, rfl, rx⟩ := one_reps rs
      simp only [Rep] at rx
      obtain ⟨_, rfl⟩ := rx
      obtain ⟨⟨vs, h1, rv⟩, _⟩ := hat.obj n _ e2
      refine uCl_of call_len_seq ⟨_, vs, rfl, .inl (.of h1), ?_⟩
      rw [rv.length]
      exact k _ g H (Grow.refl hat) (by simp [RN, Rep])
    · cases e
  · cases e
def absO (h : MH) (ds : List D) : Option R := match ds with
  | [.int i] => some (.v (.int (if i < 0 then -i else i)))
  | _ => none
theorem ok_abs : CallOk F (.builtin "abs") absO := fun X gd h g H hat xs ds r rs e Q k => by
  unfold absO at e
  split at e
  · cases e
    obtain ⟨x, rfl, rx⟩ := one_reps rs
    simp only [Rep] at rx
    subst rx
    exact uCl_of call_abs ⟨_, rfl, k _ g H (Grow.refl hat) (by simp [RN, Rep])⟩
  · cases e
def max2O (h : MH) (ds : List D) : Option R := match ds with
  | [.int i, .int j] => some (.v (.int (if j > i then j else i)))
  | _ => none
theorem ok_max2 (hcm : F.cm = true := by rfl) : CallOk F (.builtin "max") max2O := fun X gd h g H hat xs ds r rs e Q k => by
  unfold max2O at e
  split at e
  · cases e
    obtain ⟨x, y, rfl, rx, ry⟩ := two_reps rs
    simp only [Rep] at rx ry
    subst rx; subst ry
    exact uCl_of (call_max2 (gd.calm hcm)) ⟨_, _, rfl, k _ g H (Grow.refl hat) (by simp [RN, Rep])⟩
  · cases e
def min2O (h : MH) (ds : List D) : Option R := match ds with
  | [.int i, .int j] => some (.v (.int (if j < i then j else i)))
  | _ => none
theorem ok_min2 (hcm : F.cm = true := by rfl) : CallOk F (.builtin "min") min2O := fun X gd h g H hat xs ds r rs e Q k => by
  unfold min2O at e
  split at e
  · cases e
    obtain ⟨x, y, rfl, rx, ry⟩ := two_reps rs
    simp only [Rep] at rx ry
    subst rx; subst ry
    exact uCl_of (call_min2 (gd.calm hcm)) ⟨_, _, rfl, k _ g H (Grow.refl hat) (by simp [RN, Rep])⟩
  · cases e
/-- ints of data -/
def toInts : List D → Option (List Int)
  | [] => some []
  | .int i :: ds => (toInts ds).map (i :: ·)
  | _ :: _ => none
theorem toInts_ok {K : PySem.W.Frag} {w : World} {g : Gh} {H : Hp} : ∀ {ds : List D} {vs : List V} {ns : List Int}, Reps K w g H vs ds → toInts ds = some ns → vs = ns.map V.int
  | [], vs, ns, r, e => by rw [Reps.nil_iff] at r; subst r; simp [toInts] at e; subst e; rfl
  | d :: ds, vs, ns, r, e => by
    rw [Reps.cons_iff] at r
    obtain ⟨v, t, rfl, h1, h2⟩ := r
    cases d <;> first | (simp [toInts] at e; done) | skip
    rename_i i
    simp only [toInts] at e
    cases e2 : toInts ds with
    | none => rw [e2] at e; cases e
    | some l =>
      rw [e2] at e
      cases e
      simp only [Rep] at h1
      subst h1
      rw [toInts_ok h2 e2]
      rfl
theorem toInts_map (ns : List Int) : toInts (ns.map D.int) = some ns := by
  induction ns with
  | nil => rfl
  | cons n ns ih => simp [toInts, ih]
def sumO (h : MH) (ds : List D) : Option R := match ds with
  | [.lst xs] => (toInts xs).map fun ns => .v (.int ns.sum)
  | _ => none
theorem ok_sum (hcm : F.cm = true := by rfl) : CallOk F (.builtin "sum") sumO := fun X gd h g H hat xs ds r rs e Q k => by
  unfold sumO at e
  split at e
  · rename_i ys
    cases e2 : toInts ys with
    | none => rw [e2] at e; cases e
    | some ns =>
      rw [e2] at e
      cases e
      obtain ⟨x, rfl, rx⟩ := one_reps rs
      simp only [Rep] at rx
      obtain ⟨a, vs, rfl, l, rv⟩ := rx
      rw [toInts_ok rv e2] at l
      exact uCl_of (cr_sum (gd.calm hcm)) ⟨a, ns, rfl, l.sq, k _ g H (Grow.refl hat) (by simp [RN, Rep])⟩
  · cases e
def intO (h : MH) (ds : List D) : Option R := match ds with
  | [.int i] => some (.v (.int i))
  | [.bl b] => some (.v (.int (if b then 1 else 0)))
  | [.str s] => if s.length ≤ 640 then (PySem.intText? (S s)).map fun n => .v (.int n) else none
  | _ => none
theorem ok_int : CallOk F (.type "int") intO := fun X gd h g H hat xs ds r rs e Q k => by
  unfold intO at e
  split at e
  · cases e
    obtain ⟨x, rfl, rx⟩ := one_reps rs
    simp only [Rep] at rx
    subst rx
    exact uCl_of call_int1 (.inl ⟨_, rfl, k _ g H (Grow.refl hat) (by simp [RN, Rep])⟩)
  · cases e
    obtain ⟨x, rfl, rx⟩ := one_reps rs
    simp only [Rep] at rx
    subst rx
    exact uCl_of call_int1 (.inr ⟨_, rfl, k _ g H (Grow.refl hat) (by simp [RN, Rep])⟩)
  · split at e
    · rename_i s hz
      cases e2 : PySem.intText? (S s) with
      | none => rw [e2] at e; cases e
      | some n =>
        rw [e2] at e
        cases e
        obtain ⟨x, rfl, rx⟩ := one_reps rs
        simp only [Rep] at rx
        subst rx
        exact uCl_of call_int_str ⟨_, n, rfl, e2, by rw [S_length]; exact hz, k _ g H (Grow.refl hat) (by simp [RN, Rep])⟩
    · cases e
  · cases e
/-- the signs of a number -/
def strI (i : Int) : List Nat := (Str.ofString (toString i)).cps.toList
def strO (h : MH) (ds : List D) : Option R := match ds with
  | [.int i] => if i.natAbs.log2 < 1920 then some (.v (.str (strI i))) else none
  | _ => none
theorem ok_str : CallOk F (.type "str") strO := fun X gd h g H hat xs ds r rs e Q k => by
  unfold strO at e
  split at e
  · split at e
    · rename_i i hz
      cases e
      obtain ⟨x, rfl, rx⟩ := one_reps rs
      simp only [Rep] at rx
      subst rx
      refine uCl_of call_str_int ⟨_, rfl, hz, k _ g H (Grow.refl hat) ?_⟩
      simp only [RN, Rep]
      unfold strI
      rw [S_of]
    · cases e
  · cases e
def tupleO (h : MH) (ds : List D) : Option R := match ds with
  | [.lst xs] => some (.v (.tup xs))
  | [.tup xs] => some (.v (.tup xs))
  | [.loc n] => (match h[n]? with
    | some (.lst xs) => some (.v (.tup xs))
    | none => none)
  | _ => none
theorem ok_tuple : CallOk F (.type "tuple") tupleO := fun X gd h g H hat xs ds r rs e Q k => by
  unfold tupleO at e
  split at e
  · cases e
    obtain ⟨x, rfl, rx⟩ := one_reps rs
    simp only [Rep] at rx
    obtain ⟨a, vs, rfl, l, rv⟩ := rx
    exact uCl_of call_tuple_of ⟨a, vs, rfl, .inl ⟨l.sq, fun p hp => k _ _ _ (grow_fr hat hp) (rep_newTup hat hp rv)⟩⟩
  · cases e
    obtain ⟨x, rfl, rx⟩ := one_reps rs
    have rx0 := rx
    simp only [Rep] at rx
    obtain ⟨a, vs, rfl, l, rv⟩ := rx
    exact uCl_of call_tuple_of ⟨a, vs, rfl, .inr ⟨l.sq, k _ g H (Grow.refl hat) rx0⟩⟩
  · split at e
    · rename_i n _ xs e2
      cases e
      obtain ⟨x, rfl, rx⟩ := one_reps rs
      simp only [Rep] at rx
      obtain ⟨_, rfl⟩ := rx
      obtain ⟨⟨vs, h1, rv⟩, _⟩ := hat.obj n _ e2
      exact uCl_of call_tuple_of ⟨_, vs, rfl, .inl ⟨.of h1, fun p hp => k _ _ _ (grow_fr hat hp) (rep_newTup hat hp rv)⟩⟩
    · cases e
  · cases e
theorem sign_vals (s : List Nat) (us : Array Value) (h : ItemsOf (SignAt (S s)) us (S s).cps.size) : Vals (s.map fun c => V.str ⟨#[c]⟩) us.toList := by
  have hs : (S s).cps.size = s.length := by simp [S]
  refine vals_of_at (by rw [List.length_map]; have := h.1; have e : us.toList.length = us.size := by simp
                        omega) fun j x u e1 e2 => ?_
  rw [List.getElem?_map] at e1
  cases ec : s[j]? with
  | none => rw [ec] at e1; cases e1
  | some c =>
    rw [ec] at e1
    cases e1
    obtain ⟨c', t, e3, rfl⟩ := h.2 j u (by rw [← e2, Array.getElem?_toList])
    have : (S s).cps[j]? = s[j]? := by simp [S]
    rw [this, ec] at e3
    cases e3
    exact ⟨t, rfl⟩
theorem chars_reps {K : PySem.W.Frag} {w : World} {g : Gh} {H : Hp} (s : List Nat) : Reps K w g H (s.map fun c => V.str ⟨#[c]⟩) (chars s) := by
  unfold chars
  induction s with
  | nil => exact Reps.nil
  | cons c s ih => exact Reps.cons (by simp [Rep, S]) ih
def listO (h : MH) (ds : List D) : Option R := match ds with
  | [.lst xs] => some (.own xs)
  | [.tup xs] => some (.own xs)
  | [.str s] => if s.length ≤ sizeLine then some (.own (chars s)) else none
  | [.loc n] => (match h[n]? with
    | some (.lst xs) => some (.own xs)
    | none => none)
  | _ => none
theorem list_str {X : Cx} (hh : X.A.handled = none) (s : List Nat) (hz : s.length ≤ sizeLine) : CallR X (.type "list") (fun xs H Q => xs = [.str (S s)] ∧ ∀ p, H p = none → Q (.ref p) (upd H p (.lst (s.map fun c => V.str ⟨#[c]⟩)))) := by
  intro pins st σ H xs us Q I r q
  obtain ⟨rfl, q⟩ := q
  obtain ⟨u, rfl, ru⟩ := vals1 r
  obtain ⟨t, rfl⟩ := ru
  refine call_list_str hh (S s) t (fun h' tk acc' c' hk hS hacc => ?_) (by simp [S]; exact hz)
  refine ⟨.ref _, _, I.laid (o := .lst (s.map fun c => V.str ⟨#[c]⟩)) (t' := tk) hk (Nat.le_refl _) ⟨by rw [List.length_map]; exact hz, acc'.toList, c', sign_vals s acc' hacc, hS⟩, rfl, q _ I.fresh⟩
theorem ok_list (hcm : F.cm = true := by rfl) : CallOk F (.type "list") listO := fun X gd h g H hat xs ds r rs e Q k => by
  unfold listO at e
  split at e
  · cases e
    obtain ⟨x, rfl, rx⟩ := one_reps rs
    simp only [Rep] at rx
    obtain ⟨a, vs, rfl, l, rv⟩ := rx
    exact uCl_of call_list_of ⟨a, vs, rfl, .inl l.sq, fun p hp => k _ g _ (grow_new hat hp) (rep_newLst hat hp rv)⟩
  · cases e
    obtain ⟨x, rfl, rx⟩ := one_reps rs
    simp only [Rep] at rx
    obtain ⟨a, vs, rfl, l, rv⟩ := rx
    exact uCl_of call_list_of ⟨a, vs, rfl, .inr l.sq, fun p hp => k _ g _ (grow_new hat hp) (rep_newLst hat hp rv)⟩
  · split at e
    · rename_i s hz
      cases e
      obtain ⟨x, rfl, rx⟩ := one_reps rs
      simp only [Rep] at rx
      subst rx
      exact uCl_of (list_str (gd.hdn hcm) s hz) ⟨rfl, fun p hp => k _ g _ (grow_new hat hp) (rep_newLst hat hp (chars_reps s))⟩
    · cases e
  · split at e
    · rename_i n _ xs e2
      cases e
      obtain ⟨x, rfl, rx⟩ := one_reps rs
      simp only [Rep] at rx
      obtain ⟨_, rfl⟩ := rx
      obtain ⟨⟨vs, h1, rv⟩, _⟩ := hat.obj n _ e2
      exact uCl_of call_list_of ⟨_, vs, rfl, .inl (.of h1), fun p hp => k _ g _ (grow_new hat hp) (rep_newLst hat hp rv)⟩
    · cases e
  · cases e
def toBls : List D → Option (List Bool)
  | [] => some []
  | .bl i :: ds => (toBls ds).map (i :: ·)
  | _ :: _ => none
theorem toBls_ok {K : PySem.W.Frag} {w : World} {g : Gh} {H : Hp} : ∀ {ds : List D} {vs : List V} {ns : List Bool}, Reps K w g H vs ds → toBls ds = some ns → vs = ns.map V.bl
  | [], vs, ns, r, e => by rw [Reps.nil_iff] at r; subst r; simp [toBls] at e; subst e; rfl
  | d :: ds, vs, ns, r, e => by
    rw [Reps.cons_iff] at r
    obtain ⟨v, t, rfl, h1, h2⟩ := r
    cases d <;> first | (simp [toBls] at e; done) | skip
    rename_i i
    simp only [toBls] at e
    cases e2 : toBls ds with
    | none => rw [e2] at e; cases e
    | some l =>
      rw [e2] at e
      cases e
      simp only [Rep] at h1
      subst h1
      rw [toBls_ok h2 e2]
      rfl
theorem toBls_map {α : Type} (f : α → Bool) (ns : List α) : toBls (ns.map fun x => D.bl (f x)) = some (ns.map f) := by
  induction ns with
  | nil => rfl
  | cons n ns ih => simp [toBls, ih]
def allO (h : MH) (ds : List D) : Option R := match ds with
  | [.lst xs] => (toBls xs).map fun bs => .v (.bl (bs.all id))
  | _ => none
def anyO (h : MH) (ds : List D) : Option R := match ds with
  | [.lst xs] => (toBls xs).map fun bs => .v (.bl (bs.any id))
  | _ => none
theorem ok_all (hcm : F.cm = true := by rfl) : CallOk F (.builtin "all") allO := fun X gd h g H hat xs ds r rs e Q k => by
  unfold allO at e
  split at e
  · rename_i ys
    cases e2 : toBls ys with
    | none => rw [e2] at e; cases e
    | some ns =>
      rw [e2] at e
      cases e
      obtain ⟨x, rfl, rx⟩ := one_reps rs
      simp only [Rep] at rx
      obtain ⟨a, vs, rfl, l, rv⟩ := rx
      rw [toBls_ok rv e2] at l
      exact uCl_of (cr_all (gd.calm hcm)) ⟨a, ns, rfl, l.sq, k _ g H (Grow.refl hat) (by simp [RN, Rep])⟩
  · cases e
theorem ok_any (hcm : F.cm = true := by rfl) : CallOk F (.builtin "any") anyO := fun X gd h g H hat xs ds r rs e Q k => by
  unfold anyO at e
  split at e
  · rename_i ys
    cases e2 : toBls ys with
    | none => rw [e2] at e; cases e
    | some ns =>
      rw [e2] at e
      cases e
      obtain ⟨x, rfl, rx⟩ := one_reps rs
      simp only [Rep] at rx
      obtain ⟨a, vs, rfl, l, rv⟩ := rx
      rw [toBls_ok rv e2] at l
      exact uCl_of (cr_any (gd.calm hcm)) ⟨a, ns, rfl, l.sq, k _ g H (Grow.refl hat) (by simp [RN, Rep])⟩
  · cases e
/-- texts of data -/
def toStrs : List D → Option (List (List Nat))
  | [] => some []
  | .str i :: ds => (toStrs ds).map (i :: ·)
  | _ :: _ => none
theorem toStrs_ok {K : PySem.W.Frag} {w : World} {g : Gh} {H : Hp} : ∀ {ds : List D} {vs : List V} {ns : List (List Nat)}, Reps K w g H vs ds → toStrs ds = some ns → vs = (ns.map S).map V.str
  | [], vs, ns, r, e => by rw [Reps.nil_iff] at r; subst r; simp [toStrs] at e; subst e; rfl
  | d :: ds, vs, ns, r, e => by
    rw [Reps.cons_iff] at r
    obtain ⟨v, t, rfl, h1, h2⟩ := r
    cases d <;> first | (simp [toStrs] at e; done) | skip
    rename_i i
    simp only [toStrs] at e
    cases e2 : toStrs ds with
    | none => rw [e2] at e; cases e
    | some l =>
      rw [e2] at e
      cases e
      simp only [Rep] at h1
      subst h1
      rw [toStrs_ok h2 e2]
      rfl
theorem toStrs_map {α : Type} (f : α → List Nat) (ns : List α) : toStrs (ns.map fun x => D.str (f x)) = some (ns.map f) := by
  induction ns with
  | nil => rfl
  | cons n ns ih => simp [toStrs, ih]
theorem strs_reps {K : PySem.W.Frag} {w : World} {g : Gh} {H : Hp} (l : List (List Nat)) : Reps K w g H ((l.map S).map V.str) (l.map D.str) := by
  induction l with
  | nil => exact Reps.nil
  | cons c s ih => exact Reps.cons (by simp [Rep]) ih
def leS (a b : List Nat) : Bool := !decide (b < a)
def sortS (l : List (List Nat)) : List (List Nat) := l.mergeSort leS
def sortSO (h : MH) (ds : List D) : Option R := match ds with
  | [.lst xs] => (match toStrs xs with
    | some l => if l.length < 64 then some (.own ((sortS l).map D.str)) else none
    | none => none)
  | _ => none
/-! ## isinstance -/
def tyD : D → String
  | .non => "NoneType"
  | .bl _ => "bool"
  | .int _ => "int"
  | .str _ => "str"
  | .tup _ => "tuple"
  | .lst _ => "list"
  | .loc _ => "list"
  | .dct _ _ => "dict"
def isT (T : String) (d : D) : Bool := tyD d == T || (tyD d == "bool" && T == "int")
theorem tyX_ok {K : PySem.W.Frag} {w : World} {h : MH} {g : Gh} {H : Hp} (hat : HAt K w h g H) {x : V} {d : D} (r : Rep K w g H x d) : TyX K H x (.type (tyD d)) := by
  cases d with
  | non => simp only [Rep] at r; subst r; exact .base .non
  | bl b => simp only [Rep] at r; subst r; exact .base (.bl b)
  | int i => simp only [Rep] at r; subst r; exact .base (.int i)
  | str s => simp only [Rep] at r; subst r; exact .base (.str _)
  | tup ds =>
    simp only [Rep] at r
    obtain ⟨a, vs, rfl, l, rv⟩ := r
    rcases l with ⟨_, l | ⟨o, l⟩⟩ | ⟨o, its, n, l1, l2, _⟩
    · exact .base (.tup l)
    · exact .fTuple l
    · exact .kTuple l1 l2
  | lst ds =>
    simp only [Rep] at r
    obtain ⟨a, vs, rfl, l, rv⟩ := r
    rcases l with ⟨_, l | ⟨o, l⟩⟩ | ⟨o, its, n, l1, l2, _⟩
    · exact .base (.lst l)
    · exact .base (.frz l)
    · exact .kList l1 l2
  | loc n =>
    simp only [Rep] at r
    obtain ⟨hn, rfl⟩ := r
    have hl : n < h.length := by rw [← hat.top]; exact hn
    obtain ⟨h1, _⟩ := hat.obj n _ (List.getElem?_eq_getElem hl)
    cases e : h[n] with
    | lst ds => rw [e] at h1; obtain ⟨vs, h2, _⟩ := h1; exact .base (.lst h2)
  | dct ks ds =>
    simp only [Rep] at r
    obtain ⟨a, vs, rfl, kd, _⟩ := r
    rcases kd with ⟨⟨es, n, h1, _⟩, _⟩ | ⟨_, kd⟩
    · exact .kDict h1 rfl
    · exact .base (.dK kd)
/-- the built-in types that are asked -/
def askT (T : String) : Bool := ["int", "str", "bool", "tuple", "list", "dict"].contains T
theorem kit_all : ∀ t ∈ ["NoneType", "bool", "int", "str", "tuple", "list", "dict"], ∀ T ∈ ["int", "str", "bool", "tuple", "list", "dict"], kitB t T = some (t == T || (t == "bool" && T == "int")) := by decide +kernel
theorem kit_D {K : PySem.W.Frag} {d : D} {T : String} (hT : askT T = true) : PySem.W.kitOne K (.type (tyD d)) (.type T) = some (isT T d) := by
  refine kit_ty (kit_all _ ?_ T ?_)
  · cases d <;> simp [tyD]
  · unfold askT at hT
    exact List.contains_iff_mem.mp hT
def eIsi (T : String) (m : MV) : ME := fun env h => (m env h).bind fun d env h => .ok (.v (.bl (isT T d))) env h
def eIsi2 (T1 T2 : String) (m : MV) : ME := fun env h => (m env h).bind fun d env h => .ok (.v (.bl (isT T1 d || isT T2 d))) env h
end
section
variable {F : Fr} {e a b c : Expr} {es : List Expr} {pos : Pos} {X : Cx} {W : WX} {Hk : Hp} {gk g : Gh} {σ : L2.St} {env : Ev} {h : MH} {H : Hp}
theorem pe_ty {x : Str} {T : String} {p : Pos} (gd : Good F X) (hg : F.sc.names.lookup x = some .globalImplicit) (hm : F.mg x = none) (hv : bootBuiltins x = some (.type T)) (hn : x ≠ "__name__") (hd : (x == ("__debug__" : Str)) = false) : PE X (.Name x p) (tC (.ty T)) :=
  pe_bltn (v := .ty T) (by show X.env.scope.names.lookup x = _; rw [gd.sc]; exact hg) (by rw [gd.mg]; exact hm) hv rfl hn hd
theorem se_isi {x : Str} {T : String} {m : MV} {p p2 : Pos} (ha : SV F a m) (hT : askT T = true := by decide) (hgi : F.sc.names.lookup ("isinstance" : Str) = some .globalImplicit := by rfl) (hmi : F.mg "isinstance" = none) (hg : F.sc.names.lookup x = some .globalImplicit := by rfl) (hm : F.mg x = none) (hv : bootBuiltins x = some (.type T) := by decide +kernel) (hn : x ≠ "__name__" := by decide) (hd : (x == ("__debug__" : Str)) = false := by decide)
    (he : ∀ env, starEach [a, .Name x p2] env = (false, eval a env) :: starEach [.Name x p2] env := by intros; rfl) (hpl : ∀ env, (backTo pos (starEach [.Name x p2] env)).any (·.1) = false := by intros; rfl) : SE F (.Call (.Name "isinstance" p) [a, .Name x p2] [] pos) (eIsi T m) := fun X W gd tk Hk gk σ env h g H Q at_ pp => by
  refine uE_of (pe_callB call_isi (by show X.env.scope.names.lookup _ = _; rw [gd.sc]; exact hgi) (by rw [gd.mg]; exact hmi) (by decide +kernel) (pa_cons pe_u (pa_cons (pe_ty gd hg hm hv hn hd) pa_nil) (he _)) (by decide) (by decide) (he _) (hpl _)) ?_
  show uE X a σ H fun y H1 => rIsi X.K [y, .ty T] H1 Q
  refine ha.go gd tk at_ pp fun d env1 h1 g1 H1 y s1 a1 ry p1 => ?_
  exact ⟨y, .ty T, .type (tyD d), .type T, isT T d, rfl, .ty T, tyX_ok a1.hat ry, kit_D hT, p1 g1 H1 (Step.refl _ _) a1 _ (by simp [RR, Rep])⟩
theorem se_isi2 {x x' : Str} {T T' : String} {m : MV} {p p2 p3 p4 : Pos} {kk : Nat} (ha : SV F a m) (hT : askT T = true := by decide) (hT' : askT T' = true := by decide) (hgi : F.sc.names.lookup ("isinstance" : Str) = some .globalImplicit := by rfl) (hmi : F.mg "isinstance" = none) (hg : F.sc.names.lookup x = some .globalImplicit := by rfl) (hm : F.mg x = none) (hv : bootBuiltins x = some (.type T) := by decide +kernel) (hn : x ≠ "__name__" := by decide) (hd : (x == ("__debug__" : Str)) = false := by decide)
    (hg' : F.sc.names.lookup x' = some .globalImplicit := by rfl) (hm' : F.mg x' = none) (hv' : bootBuiltins x' = some (.type T') := by decide +kernel) (hn' : x' ≠ "__name__" := by decide) (hd' : (x' == ("__debug__" : Str)) = false := by decide)
    (he : ∀ env, starEach [a, .Tuple [.Name x p2, .Name x' p3] kk p4] env = (false, eval a env) :: starEach [.Tuple [.Name x p2, .Name x' p3] kk p4] env := by intros; rfl) (hpl : ∀ env, (backTo pos (starEach [.Tuple [.Name x p2, .Name x' p3] kk p4] env)).any (·.1) = false := by intros; rfl) : SE F (.Call (.Name "isinstance" p) [a, .Tuple [.Name x p2, .Name x' p3] kk p4] [] pos) (eIsi2 T T' m) := fun X W gd tk Hk gk σ env h g H Q at_ pp => by
  refine uE_of (pe_callB call_isiT (by show X.env.scope.names.lookup _ = _; rw [gd.sc]; exact hgi) (by rw [gd.mg]; exact hmi) (by decide +kernel) (pa_cons pe_u (pa_cons (pe_tup (pa_cons (pe_ty gd hg hm hv hn hd) (pa_cons (pe_ty gd hg' hm' hv' hn' hd') pa_nil))) pa_nil) (he _)) (by decide) (by decide) (he _) (hpl _)) ?_
  show uE X a σ H fun y H1 => 2 ≤ sizeLine ∧ ∀ q, H1 q = none → rIsiT X.K [y, .ref q] (upd H1 q (.tup [.ty T, .ty T'])) Q
  refine ha.go gd tk at_ pp fun d env1 h1 g1 H1 y s1 a1 ry p1 => ?_
  refine ⟨by decide, fun q hq => ?_⟩
  have gr := grow_new (o := .tup [.ty T, .ty T']) a1.hat hq
  refine ⟨y, q, [.ty T, .ty T'], .type (tyD d), [.type T, .type T'], isT T d || isT T' d, rfl, upd_same, .cons (.ty T) (.cons (.ty T') .nil), tyX_ok (gr.hat a1.hat) (ry.step (gr.fstep a1.hat).toStep), ?_, p1 g1 _ (gr.fstep a1.hat).toStep (gr.at a1) _ (by simp [RR, Rep])⟩
  refine kitAny_cons (kit_D hT) (fun z => ?_) (fun z => by rw [z]; rfl)
  rw [z, Bool.false_or]
  exact kitAny_cons (kit_D hT') (fun z => by rw [z]; exact kitAny_nil) (fun z => z)
end
end Mi
end
section
set_option Elab.async false
set_option linter.all false
set_option maxRecDepth 100000
open PySem PySem.Spec PyProof.Rows L2
namespace Mi
theorem leS_iff (a b : List Nat) : leS a b = true ↔ a ≤ b := by
  unfold leS
  rw [Bool.not_eq_true', decide_eq_false_iff_not]
  exact List.not_lt
theorem sortS_perm (l : List (List Nat)) : (sortS l).Perm l := List.mergeSort_perm _ _
theorem leS_trans (a b c : List Nat) (h1 : leS a b = true) (h2 : leS b c = true) : leS a c = true := by
  rw [leS_iff] at h1 h2 ⊢
  exact List.le_trans h1 h2
theorem sortS_sorted (l : List (List Nat)) : (sortS l).Pairwise (fun a b => leS a b = true) := by
  refine List.pairwise_mergeSort (fun a b c h1 h2 => leS_trans a b c h1 h2) (fun a b => ?_) l
  rw [Bool.or_eq_true, leS_iff, leS_iff]
  exact List.le_total a b
theorem sortS_the {l m : List (List Nat)} (p : m.Perm l) (s : m.Pairwise (fun a b => leS a b = true)) : m = sortS l := by
  refine List.Perm.eq_of_pairwise (le := fun a b => leS a b = true) (fun a b _ _ h1 h2 => ?_) s (sortS_sorted l) (p.trans (sortS_perm l).symm)
  rw [leS_iff] at h1 h2
  exact List.le_antisymm h1 h2
theorem rising_pw : ∀ (l : List Str) (p : Str), risingS p l = true → (∀ x, x ∈ l → leS p.cps.toList x.cps.toList = true) ∧ l.Pairwise (fun a b => leS a.cps.toList b.cps.toList = true)
  | [], _, _ => ⟨fun _ h => absurd h List.not_mem_nil, List.Pairwise.nil⟩
  | x :: r, p, h => by
    unfold risingS at h
    rw [Bool.and_eq_true] at h
    have h1 : leS p.cps.toList x.cps.toList = true := by
      unfold leS
      rw [← PyProof.Rows.ltCps_eq]
      exact h.1
    obtain ⟨h2, h3⟩ := rising_pw r x h.2
    refine ⟨fun y hy => ?_, List.Pairwise.cons h2 h3⟩
    rcases List.mem_cons.mp hy with rfl | hy
    · exact h1
    · exact leS_trans _ _ _ h1 (h2 y hy)
theorem sorted_pw : ∀ (l : List Str), sortedS l = true → l.Pairwise (fun a b => leS a.cps.toList b.cps.toList = true)
  | [], _ => List.Pairwise.nil
  | x :: r, h => by
    obtain ⟨h2, h3⟩ := rising_pw r x h
    exact List.Pairwise.cons h2 h3
section
variable {F : Fr}
theorem ok_sortS : CallOk F (.builtin "sorted") sortSO := fun X gd h g H hat xs ds r rs e Q k => by
  unfold sortSO at e
  split at e
  · rename_i ys
    split at e
    · rename_i l e2
      split at e
      · rename_i hz
        cases e
        obtain ⟨x, rfl, rx⟩ := one_reps rs
        simp only [Rep] at rx
        obtain ⟨a, vs, rfl, la, rv⟩ := rx
        rw [toStrs_ok rv e2] at la
        refine uCl_of cr_sortedS ⟨a, l.map S, rfl, la.sq, by rw [List.length_map]; exact hz, fun zs p hp hs hn => k _ g _ (grow_new hat hn) (rep_newLst hat hn ?_)⟩
        have e3 : zs.map (fun z => z.cps.toList) = sortS l := by
          refine sortS_the ?_ ?_
          · have := hp.map fun z : Str => z.cps.toList
            rw [List.map_map] at this
            have e4 : ((fun z : Str => z.cps.toList) ∘ S) = id := by funext t; exact S_list t
            rw [e4, List.map_id] at this
            exact this
          · rw [List.pairwise_map]
            exact sorted_pw zs hs
        have e5 : zs = (sortS l).map S := by
          rw [← e3, List.map_map]
          have e6 : (S ∘ fun z : Str => z.cps.toList) = id := by funext t; exact S_of t
          rw [e6, List.map_id]
        rw [e5]
        exact strs_reps _
      · cases e
    · cases e
  · cases e
/-! ## methods of texts -/
def joinL (sep : List Nat) (l : List (List Nat)) : List Nat := TL.joinL sep l
def joinO (h : MH) (x : D) (ds : List D) : Option R := match x, ds with
  | .str s, [.lst xs] => (match toStrs xs with
    | some l => if (l.map List.length).sum + l.length * s.length ≤ 16777216 then some (.v (.str (TL.joinL s l))) else none
    | none => none)
  | .str s, [.tup xs] => (match toStrs xs with
    | some l => if (l.map List.length).sum + l.length * s.length ≤ 16777216 then some (.v (.str (TL.joinL s l))) else none
    | none => none)
  | _, _ => none
theorem join_S (s : List Nat) (l : List (List Nat)) : Txt.join (S s) (l.map S) = S (TL.joinL s l) := by
  rw [TL.join_eq]
  rw [← S_of (Str.join (S s) (l.map S))]
  congr 1
  have := TL.tl_join (S s) (l.map S)
  rw [List.map_map] at this
  have e4 : (TL.tl ∘ S) = id := by funext t; exact S_list t
  rw [e4, List.map_id] at this
  have e5 : TL.tl (S s) = s := S_list s
  rw [e5] at this
  exact this
theorem join_sz (s : List Nat) (l : List (List Nat)) : ((l.map S).map fun x : Str => x.length).sum + (l.map S).length * (S s).length = (l.map List.length).sum + l.length * s.length := by
  rw [List.map_map, List.length_map, S_length]
  have : ((fun x : Str => x.length) ∘ S) = List.length := by funext t; exact S_length t
  rw [this]
theorem ok_join : MtOk F "str.join" joinO := fun X gd h g H hat x d xs ds r rx rs e Q k => by
  unfold joinO at e
  split at e
  · split at e
    · rename_i l e2
      split at e
      · rename_i hz
        cases e
        obtain ⟨y, rfl, ry⟩ := one_reps rs
        simp only [Rep] at rx ry
        subst rx
        obtain ⟨a, vs, rfl, la, rv⟩ := ry
        rw [toStrs_ok rv e2] at la
        refine uMt_of mt_join ⟨_, a, l.map S, rfl, rfl, .inl la.sq, by rw [join_sz]; exact hz, ?_⟩
        rw [join_S]
        exact k _ g H (Grow.refl hat) (by simp [RN, Rep])
      · cases e
    · cases e
  · split at e
    · rename_i l e2
      split at e
      · rename_i hz
        cases e
        obtain ⟨y, rfl, ry⟩ := one_reps rs
        simp only [Rep] at rx ry
        subst rx
        obtain ⟨a, vs, rfl, la, rv⟩ := ry
        rw [toStrs_ok rv e2] at la
        refine uMt_of mt_join ⟨_, a, l.map S, rfl, rfl, .inr la.sq, by rw [join_sz]; exact hz, ?_⟩
        rw [join_S]
        exact k _ g H (Grow.refl hat) (by simp [RN, Rep])
      · cases e
    · cases e
  · cases e
def splitL (sep s : List Nat) : List (List Nat) := TL.spl sep 0 [] s
def splitO (h : MH) (x : D) (ds : List D) : Option R := match x, ds with
  | .str s, [.str t] => if t ≠ [] ∧ t.all (· < 256) = true ∧ s.length + 2 ≤ sizeLine then some (.own ((splitL t s).map D.str)) else none
  | _, _ => none
theorem ok_split : MtOk F "str.split" splitO := fun X gd h g H hat x d xs ds r rx rs e Q k => by
  unfold splitO at e
  split at e
  · rename_i s t
    split at e
    · rename_i hz
      cases e
      obtain ⟨y, rfl, ry⟩ := one_reps rs
      simp only [Rep] at rx ry
      subst rx; subst ry
      refine uMt_of mt_split ⟨_, _, rfl, rfl, ?_, by rw [S_length]; exact hz.2.2, fun p hp => ?_⟩
      · rw [S_length]
        cases t with
        | nil => exact absurd rfl hz.1
        | cons c t => rfl
      · refine k _ g _ (grow_new hat hp) ?_
        have h1 := TL.split_spl (S s) (S t) (by show (S t).cps.toList ≠ []; rw [S_list]; exact hz.1) (TL.kind_ok (by show (S t).cps.all (· < 256) = true; simpa [S] using hz.2.1))
        have e1 : Txt.split (S s) (S t) = (splitL t s).map S := by
          have e2 : (TL.tl (S t)) = t := S_list t
          have e3 : (TL.tl (S s)) = s := S_list s
          rw [e2, e3] at h1
          unfold splitL
          rw [← h1, List.map_map]
          have e6 : (S ∘ TL.tl) = id := by funext t; exact S_of t
          rw [e6, List.map_id]
        rw [e1]
        exact rep_newLst hat hp (strs_reps _)
    · cases e
  · cases e
def startsO (h : MH) (x : D) (ds : List D) : Option R := match x, ds with
  | .str s, [.str t] => some (.v (.bl (decide (s.take t.length = t))))
  | _, _ => none
def endsO (h : MH) (x : D) (ds : List D) : Option R := match x, ds with
  | .str s, [.str t] => some (.v (.bl (decide (t.length ≤ s.length) && decide (s.drop (s.length - t.length) = t))))
  | _, _ => none
theorem subAt_S (s t : List Nat) (i : Nat) : Builtin.Str.subAt (S s) (S t) i = decide ((s.drop i).take t.length = t) := by
  unfold Builtin.Str.subAt
  have : (S s).cps.extract i (i + (S t).length) = ((s.drop i).take t.length).toArray := by
    rw [S_length]
    apply Array.ext'
    simp [S, Array.toList_extract]
  rw [this]
  show (((s.drop i).take t.length).toArray == t.toArray) = _
  by_cases e : (s.drop i).take t.length = t
  · rw [e]; simp
  · rw [decide_eq_false e]
    rw [beq_eq_false_iff_ne]
    intro q
    exact e (by simpa using congrArg Array.toList q)
theorem ok_starts : MtOk F "str.startswith" startsO := fun X gd h g H hat x d xs ds r rx rs e Q k => by
  unfold startsO at e
  split at e
  · rename_i s t
    cases e
    obtain ⟨y, rfl, ry⟩ := one_reps rs
    simp only [Rep] at rx ry
    subst rx; subst ry
    refine uMt_of mt_startswith ⟨_, _, rfl, rfl, k _ g H (Grow.refl hat) ?_⟩
    simp only [RN, Rep]
    congr 1
    unfold Txt.startswith
    rw [subAt_S, S_length, S_length, List.drop_zero]
    by_cases e : s.take t.length = t
    · have : t.length ≤ s.length := by
        have := congrArg List.length e
        rw [List.length_take] at this
        omega
      simp [e]; omega
    · simp [e]
  · cases e
theorem ok_ends : MtOk F "str.endswith" endsO := fun X gd h g H hat x d xs ds r rx rs e Q k => by
  unfold endsO at e
  split at e
  · rename_i s t
    cases e
    obtain ⟨y, rfl, ry⟩ := one_reps rs
    simp only [Rep] at rx ry
    subst rx; subst ry
    refine uMt_of mt_endswith ⟨_, _, rfl, rfl, k _ g H (Grow.refl hat) ?_⟩
    simp only [RN, Rep]
    congr 1
    unfold Txt.endswith
    rw [subAt_S, S_length, S_length]
    by_cases hl : t.length ≤ s.length
    · have e1 : (s.drop (s.length - t.length)).take t.length = s.drop (s.length - t.length) := by
        rw [List.take_of_length_le]
        rw [List.length_drop]
        omega
      rw [e1]
      simp [hl]
    · simp [hl]
  · cases e
/-! ## lists that change -/
def appOp : List D → List D → Option (List D × D) := fun xs as => match as with
  | [d] => if xs.length < sizeLine then some (xs ++ [d], .non) else none
  | _ => none
theorem ok_append : MutOk F "list.append" appOp := fun X gd g H l vs xs args ds xs' r hl rv ra e Q k => by
  unfold appOp at e
  split at e
  · rename_i d
    split at e
    · rename_i hz
      cases e
      obtain ⟨y, rfl, ry⟩ := one_reps ra
      exact uMt_of mt_append ⟨l, vs, y, rfl, rfl, hl, by rw [rv.length]; exact hz, k _ _ (rv.append (Reps.cons ry Reps.nil)) (by simp [Rep])⟩
    · cases e
  · cases e
def popOp : List D → List D → Option (List D × D) := fun xs as => match as with
  | [] => (match xs[xs.length - 1]? with
    | some d => some (xs.dropLast, d)
    | none => none)
  | [.int i] => if xs.length ≤ sizeLine then (match ixN xs.length i with
    | some k => (match xs[k]? with
      | some d => some (xs.eraseIdx k, d)
      | none => none)
    | none => none) else none
  | _ => none
theorem ok_pop : MutOk F "list.pop" popOp := fun X gd g H l vs xs args ds xs' r hl rv ra e Q k => by
  unfold popOp at e
  split at e
  · split at e
    · rename_i d ed
      cases e
      rw [Reps.nil_iff] at ra
      subst ra
      rw [← rv.length] at ed
      rw [rv.length] at ed
      obtain ⟨v, ev, r1⟩ := rv.get' ed
      refine uMt_of mt_pop ⟨l, vs, v, rfl, rfl, hl, by rw [rv.length]; exact ev, k _ _ ?_ r1⟩
      rw [List.dropLast_eq_take, List.dropLast_eq_take, rv.length]
      exact rv.take _
    · cases e
  · rename_i i
    split at e
    · rename_i hi
      split at e
      · rename_i n en
        split at e
        · rename_i d ed
          cases e
          obtain ⟨y, rfl, ry⟩ := one_reps ra
          simp only [Rep] at ry
          subst ry
          obtain ⟨v, ev, r1⟩ := rv.get' ed
          have hq := ixN_seq en
          have hz : sizeLine = 16777216 := rfl
          exact uMt_of mt_popAt ⟨l, vs, i, n, v, rfl, rfl, hl, by omega, by omega, by rw [rv.length]; exact (ixN_seq en).1, ev, k _ _ (rv.eraseIdx n) r1⟩
        · cases e
      · cases e
    · cases e
  · cases e
end
end Mi
end
section
set_option Elab.async false
set_option linter.all false
set_option maxRecDepth 100000
open PySem PySem.Spec PyProof.Rows L2
namespace Mi
/-- a constant of the module: its data -/
def Cst (K : PySem.W.Frag) (w : World) (mg : Str → Option Value) (x : Str) (d : D) : Prop := ∃ u v, mg x = some u ∧ RelV v u ∧ ∀ g H, Rep K w g H v d
/-- the def of this name keeps its promise -/
def FnM (P : Program) (w : World) (K : PySem.W.Frag) (mg : Str → Option Value) (base : Heap) (k : Nat) (x : Str) (n : Nat) (m : MF) : Prop :=
  ∃ f fd ps, FnG P w K mg base (L2N.CX P w) k f fd ps (spM K w mg n m) ∧ mg x = some (.ref f) ∧ PySem.W.keepIn K (.ref f) = true ∧ Binds K fd ps []
section
variable {P : Program} {w : World} {K : PySem.W.Frag} {mg : Str → Option Value} {base : Heap}
theorem FnM.mono {j k : Nat} {x : Str} {n : Nat} {m : MF} (f : FnM P w K mg base j x n m) (h : j ≤ k := by omega) : FnM P w K mg base k x n m := by
  obtain ⟨f, fd, ps, G, h1, h2, h3⟩ := f
  exact ⟨f, fd, ps, G.mono h, h1, h2, h3⟩
/-- what the top has of a def -/
structure Df (K : PySem.W.Frag) (mg : Str → Option Value) (x : Str) (st : Stmt) (ps : List Str) : Prop where
  ex : ∃ f fd, Fun K x x st f fd ∧ mg x = some (.ref f) ∧ Binds K fd ps []
theorem df_mk {x : Str} {st : Stmt} {f : Addr} {oc : Value} {od an : Option Addr} {osl : Array (Option Value)} {kV doc pm cdv ct : Value} {ps : List Str} (hm : mg x = some (.ref f)) (l : K.lookup f = some ⟨oc, od, .func (PySem.W.fnOf x x (defArgs st) (defBody st) (defScope st) .none kV doc pm an cdv ct), osl⟩)
    (c : PySem.W.codeIn K cdv x = true) (k : PySem.W.keepIn K (.ref f) = true)
    (h : ∀ (kV doc pm : Value) (an : Option Addr) (cdv ct : Value) (us : List Value), us.length = ps.length → bindArgs (PySem.W.fnOf x x (defArgs st) (defBody st) (defScope st) .none kV doc pm an cdv ct) ⟨us, []⟩ = pure (ps.zip us)) : Df K mg x st ps :=
  ⟨f, _, fun_mk l c k, hm, (fun_mk l c k).binds h⟩
/-- THE RULE for a def -/
theorem fnM_ok {x : Str} {st : Stmt} {N ps : List Str} {k n : Nat} {mb : MS} {m : MF} (D0 : Df K mg x st ps) (Sc : FnScope N ps (defScope st))
    (body : SSs ⟨P, w, K, mg, base, N, defScope st, k, fun _ => true, true⟩ (defBody st) mb) (hn : ps.length = n := by rfl) (hm : m = runF N.length mb := by rfl) : FnM P w K mg base (k + 1) x n m := by
  obtain ⟨f, fd, F0, hmg, hb⟩ := D0
  subst hn; subst hm
  exact ⟨f, fd, ps, fn_ok F0 Sc body, hmg, F0.kp, hb⟩
/-- a def that calls itself: by the depth -/
theorem fnM_rec {x : Str} {st : Stmt} {N ps : List Str} {k : Nat} {m : Nat → MF} {mb : MF → MS} (D0 : Df K mg x st ps) (Sc : FnScope N ps (defScope st))
    (body : ∀ n, FnM P w K mg base (k + 1 + n) x ps.length (m n) → SSs ⟨P, w, K, mg, base, N, defScope st, k + 1 + n, fun _ => true, true⟩ (defBody st) (mb (m n))) (m0 : m 0 = runF N.length sNo := by rfl) (mS : ∀ n, m (n + 1) = runF N.length (mb (m n)) := by intros; rfl) : ∀ n, FnM P w K mg base (k + 1 + n) x ps.length (m n)
  | 0 => fnM_ok (mb := sNo) D0 Sc (fun X W gd tk Hk gk σ env h g H Dn at_ p => p.elim) rfl m0
  | n + 1 => fnM_ok D0 Sc (body n (fnM_rec D0 Sc body m0 mS n)) rfl (mS n)
end
section
variable {F : Fr} {pos : Pos}
theorem se_cst {x : Str} {d : D} (c : Cst F.K F.w F.mg x d) (hg : F.sc.names.lookup x = some .globalImplicit := by rfl) (hd : (x == ("__debug__" : Str)) = false := by decide) : SE F (.Name x pos) (eC d) := by
  obtain ⟨u, v, h1, h2, h3⟩ := c
  exact se_glob h1 h2 h3 hg hd
theorem sss_no {st : List Stmt} : SSs F st sNo := fun X W gd tk Hk gk σ env h g H Dn at_ p => p.elim
end
theorem ints_reps {K : PySem.W.Frag} {w : World} {g : Gh} {H : Hp} (ns : List Int) : Reps K w g H (ns.map V.int) (ns.map D.int) := by
  induction ns with
  | nil => exact Reps.nil
  | cons n ns ih => exact Reps.cons (by simp [Rep]) ih
/-- the law's end: from its promise over mini data to the promise that the head asks -/
def spLaw (K : PySem.W.Frag) : Sp := fun vs H Q _ => ∃ (a : Addr) (ns : List Int), vs = [.ref a] ∧ SqL K H a (ns.map V.int) ∧ ns.length ≤ 63 ∧ ∀ H', Q (.bl true) H'
theorem law_end {P : Program} {w : World} {K : PySem.W.Frag} {mg : Str → Option Value} {base : Heap} {k : Nat} {f : Addr} {fd : FuncData} {ps : List Str} {m : MF} (hm : ∀ ns : List Int, ns.length ≤ 63 → ∃ h', m [.lst (ns.map D.int)] [] = .ok (.v (.bl true)) h')
    (G : FnG P w K mg base (L2N.CX P w) k f fd ps (spM K w mg 1 m)) : FnG P w K mg base (L2N.CX P w) k f fd ps (spLaw K) := by
  refine G.imp fun vs H Q E hs => ?_
  obtain ⟨a, ns, rfl, hl, hn, q⟩ := hs
  obtain ⟨h', e⟩ := hm ns hn
  have fin : ∀ g : Gh, g.top = 0 → (∀ b, g.Fz b → H b ≠ none) → LAt K g H a (ns.map V.int) → spM K w mg 1 m [.ref a] H Q E := fun g ht hf la => by
    refine ⟨rfl, g, [.lst (ns.map D.int)], [], ⟨ht, hf, fun n o e => by simp at e, fun n m hn => by rw [ht] at hn; exact absurd hn (Nat.not_lt_zero _)⟩, Reps.cons (by simp only [Rep]; exact ⟨a, _, rfl, la, ints_reps ns⟩) Reps.nil, ?_⟩
    rw [e]
    refine fun v g' H' fs hat rf => ?_
    have : v = .bl true := by simpa [RF, Rep] using rf
    rw [this]
    exact q H'
  rcases hl with hl | hl
  · refine fin ⟨fun b => b = a, fun _ => a, 0⟩ rfl (fun b hb => ?_) (.inl ⟨rfl, hl⟩)
    have hb : b = a := hb
    subst hb
    rcases hl with hl | ⟨o, hl⟩ <;> rw [hl] <;> exact fun z => nomatch z
  · exact fin ⟨fun _ => False, fun _ => a, 0⟩ rfl (fun b hb => hb.elim) (.inr hl)
end Mi
end
section
set_option Elab.async false
set_option linter.all false
set_option maxRecDepth 100000
open PySem PySem.Spec PyProof.Rows L2
namespace Mi
/-! ### constants of the module, from what the top has written -/
def CV (K : PySem.W.Frag) (w : World) (u : Value) (d : D) : Prop := ∃ v, RelV v u ∧ ∀ g H, Rep K w g H v d
def CVs (K : PySem.W.Frag) (w : World) (us : List Value) (ds : List D) : Prop := ∃ vs, Vals vs us ∧ ∀ g H, Reps K w g H vs ds
def CEs (K : PySem.W.Frag) (w : World) (es : List DictEntry) (ks : List (List Nat)) (ds : List D) : Prop :=
  PySem.W.KeysLit w.params es ∧ ∃ vs, (∀ g H, Reps K w g H vs ds) ∧ ∀ x : List Nat, match (ks.zip vs).lookup x with
    | some v => ∃ e, es.find? (·.key.isStr (S x)) = some e ∧ RelV v e.val
    | none => es.find? (·.key.isStr (S x)) = none
section
variable {K : PySem.W.Frag} {w : World}
theorem cv_int {i : Int} {t : Tok} : CV K w (.int i t) (.int i) := ⟨.int i, ⟨t, rfl⟩, fun g H => by simp [Rep]⟩
theorem cv_bl {b : Bool} : CV K w (.bool b) (.bl b) := ⟨.bl b, rfl, fun g H => by simp [Rep]⟩
theorem cv_non : CV K w .none .non := ⟨.non, rfl, fun g H => by simp [Rep]⟩
theorem cv_str {z : Str} {t : Tok} {l : List Nat} (h : z = S l) : CV K w (.str z t) (.str l) := ⟨.str z, ⟨t, rfl⟩, fun g H => by simp [Rep, h]⟩
theorem cvs_nil : CVs K w [] [] := ⟨[], .nil, fun g H => Reps.nil⟩
theorem cvs_cons {u : Value} {us : List Value} {d : D} {ds : List D} (h : CV K w u d) (hs : CVs K w us ds) : CVs K w (u :: us) (d :: ds) := by
  obtain ⟨v, h1, h2⟩ := h
  obtain ⟨vs, g1, g2⟩ := hs
  exact ⟨v :: vs, .cons h1 g1, fun g H => Reps.cons (h2 g H) (g2 g H)⟩
theorem cv_tup {a : Addr} {od : Option Addr} {its : Array Value} {n : Nat} {sl : Array (Option Value)} {ds : List D} (l : K.lookup a = some ⟨.type "tuple", od, .seq its n, sl⟩) (hs : its.size ≤ sizeLine) (h : CVs K w its.toList ds) : CV K w (.ref a) (.tup ds) := by
  obtain ⟨vs, h1, h2⟩ := h
  exact ⟨.ref a, rfl, fun g H => by simp only [Rep]; exact ⟨a, vs, rfl, .inr ⟨_, its, n, l, rfl, rfl, hs, h1⟩, h2 g H⟩⟩
theorem cv_lst {a : Addr} {its : Array Value} {n : Nat} {sl : Array (Option Value)} {ds : List D} (l : K.lookup a = some ⟨.type "list", none, .seq its n, sl⟩) (hs : its.size ≤ sizeLine) (h : CVs K w its.toList ds) : CV K w (.ref a) (.lst ds) := by
  obtain ⟨vs, h1, h2⟩ := h
  exact ⟨.ref a, rfl, fun g H => by simp only [Rep]; exact ⟨a, vs, rfl, .inr ⟨_, its, n, l, rfl, rfl, rfl, hs, h1⟩, h2 g H⟩⟩
theorem ces_nil : CEs K w [] [] [] := ⟨trivial, [], fun g H => Reps.nil, fun x => by simp⟩
theorem ces_cons {e : DictEntry} {es : List DictEntry} {k : List Nat} {ks : List (List Nat)} {d : D} {ds : List D} {z : Str} {t : Tok} (hk : e.key = .str z t) (hz : z = S k) (hh : e.hash = PyData.keyHash w.params z) (h : CV K w e.val d) (hs : CEs K w es ks ds) : CEs K w (e :: es) (k :: ks) (d :: ds) := by
  obtain ⟨v, h1, h2⟩ := h
  obtain ⟨g0, vs, g1, g2⟩ := hs
  refine ⟨⟨⟨z, t, hk, hh⟩, g0⟩, v :: vs, fun g H => Reps.cons (h2 g H) (g1 g H), fun x => ?_⟩
  have e1 : e.key.isStr (S x) = (x == k) := by
    rw [hk, hz, PySem.W.isStr_of]
    show (S k == S x) = (x == k)
    by_cases q : x = k
    · subst q
      rw [beq_self_eq_true, beq_self_eq_true]
    · have q2 : ¬ S k = S x := fun z => q (S_inj z).symm
      rw [beq_eq_false_iff_ne.mpr q, beq_eq_false_iff_ne.mpr q2]
  rw [List.zip_cons_cons, List.lookup_cons, List.find?_cons, e1]
  cases q : (x == k) with
  | true => exact ⟨e, rfl, h1⟩
  | false => exact g2 x
theorem keysLit_ref {P : Params} : ∀ {es : List DictEntry}, PySem.W.KeysLit P es → es.any (·.refKey) = false
  | [], _ => rfl
  | e :: r, ⟨⟨x, t, h, _⟩, g⟩ => by
    rw [List.any_cons, keysLit_ref g, Bool.or_false]
    show e.refKey = false
    unfold DictEntry.refKey
    rw [h]
theorem cv_dct {a : Addr} {es : Array DictEntry} {n : Nat} {ks : List (List Nat)} {ds : List D} (l : K.lookup a = some ⟨.type "dict", none, .dict es n, #[]⟩) (low : (a == sysModules) = false) (h : CEs K w es.toList ks ds) (hne : ks ≠ [] := by exact List.cons_ne_nil _ _) : CV K w (.ref a) (.dct ks ds) := by
  obtain ⟨h0, vs, h1, h2⟩ := h
  refine ⟨.ref a, rfl, fun g H => ?_⟩
  simp only [Rep]
  refine ⟨a, vs, rfl, .inl ⟨⟨es, n, l, h0, low, fun x => ?_⟩, hne⟩, h1 g H⟩
  have h3 := h2 x
  unfold PySem.W.nsIn
  rw [l]
  cases q : (ks.zip vs).lookup x with
  | some v =>
    rw [q] at h3
    obtain ⟨e, e1, e2⟩ := h3
    exact ⟨e.val, by simp only [e1], e2⟩
  | none =>
    rw [q] at h3
    simp only [h3, keysLit_ref h0]
    rfl
theorem cst_of {h : Heap} {mg : Str → Option Value} {x : Str} {u : Value} {d : D} (X : K.In h) (G : h.Ns mainGlobals mg) (e : PySem.W.nsIn K mainGlobals x = some (some u)) (c : CV K w u d) : Cst K w mg x d := by
  obtain ⟨v, h1, h2⟩ := c
  exact ⟨u, v, PySem.W.mg_of X G e, h1, h2⟩
/-- a def, from what the top has written -/
theorem df_of {h : Heap} {mg : Str → Option Value} (X : K.In h) (G : h.Ns mainGlobals mg) {x : Str} {st : Stmt} {f : Addr} {oc : Value} {od an : Option Addr} {osl : Array (Option Value)} {kV doc pm cdv ct : Value} {ps : List Str} (a : PySem.W.nsIn K mainGlobals x = some (some (.ref f))) (l : K.lookup f = some ⟨oc, od, .func (PySem.W.fnOf x x (defArgs st) (defBody st) (defScope st) .none kV doc pm an cdv ct), osl⟩)
    (c : PySem.W.codeIn K cdv x = true) (k : PySem.W.keepIn K (.ref f) = true)
    (hb : ∀ (kV doc pm : Value) (an : Option Addr) (cdv ct : Value) (us : List Value), us.length = ps.length → bindArgs (PySem.W.fnOf x x (defArgs st) (defBody st) (defScope st) .none kV doc pm an cdv ct) ⟨us, []⟩ = pure (ps.zip us)) : Df K mg x st ps :=
  df_mk (PySem.W.mg_of X G a) l c k hb
/-- the law's own def: what walk_of asks -/
theorem law_of {P : Program} {h : Heap} {mg : Str → Option Value} (X : K.In h) (G : h.Ns mainGlobals mg) {fa f : Addr} (hfa : mg "law" = some (.ref fa)) {q : Str} {N : List Str} {k : Nat} {mb : MS} {m : MF} {st : Stmt}
    {oc : Value} {od an : Option Addr} {osl : Array (Option Value)} {kV doc pm cdv ct : Value} (a : PySem.W.nsIn K mainGlobals "law" = some (some (.ref f))) (l : K.lookup f = some ⟨oc, od, .func (PySem.W.fnOf "law" "law" (defArgs st) (defBody st) (defScope st) .none kV doc pm an cdv ct), osl⟩)
    (c : PySem.W.codeIn K cdv "law" = true) (kp : PySem.W.keepIn K (.ref f) = true) (hb : ∀ u : Value, bindArgs (PySem.W.fnOf "law" "law" (defArgs st) (defBody st) (defScope st) .none kV doc pm an cdv ct) ⟨[u], []⟩ = pure [(q, u)]) (Sc : FnScope N [q] (defScope st))
    (body : ∀ base : Heap, K.In base → base.Ns mainGlobals mg → SSs ⟨P, w, K, mg, base, N, defScope st, k, fun _ => true, true⟩ (defBody st) mb) (em : m = runF N.length mb) (hm : ∀ ns : List Int, ns.length ≤ 63 → ∃ h', m [.lst (ns.map D.int)] [] = .ok (.v (.bl true)) h') :
    ∃ fd : FuncData, (∀ (s : Shared) (u : Value), BindsTo s fd ⟨[u], []⟩ [(q, u)]) ∧ ∀ base : Heap, K.In base → base.Ns mainGlobals mg → FnG P w K mg base (L2N.CX P w) (k + 1) fa fd [q] (spLaw K) := by
  have e := hfa.symm.trans (PySem.W.mg_of X G a)
  cases e
  subst em
  exact ⟨_, fun s u => BindsTo.of_eq (hb u), fun base b1 b2 => law_end hm (fn_ok (fun_mk l c kp) Sc (body base b1 b2))⟩
theorem law_walk {l : PySem.W.OpenLaw} {q : Program} {loose : List Str} {XP : (Str → Option Value) → Heap → Prop} {YP : World → Heap → Prop} {d : DefRec} {K : Params → PySem.W.Frag} {k : Nat} {x : Str} (hr : Room k callerA) (hn : l.most = some 63) (hdf : d.params.defaults = [])
    (hY : ∀ (w : World) (h : Heap), YP w h → (K w.params).In h)
    (F : ∀ (w : World) (mg : Str → Option Value) (fa : Addr) (h : Heap), (K w.params).In h → h.Ns mainGlobals mg → mg d.name = some (.ref fa) →
      ∃ fd : FuncData, (∀ (s : Shared) (u : Value), BindsTo s fd ⟨[u], []⟩ [(x, u)]) ∧ ∀ base : Heap, (K w.params).In base → base.Ns mainGlobals mg → FnG l.prog w (K w.params) mg base (L2N.CX l.prog w) k fa fd [x] (spLaw (K w.params))) :
    PySem.W.WalkO q loose XP YP l.row.toRowW d [] (fun f vs => PySem.call f vs) :=
  walk_ofG (n := 63) (k := k) (x := x) (CX := fun w => L2N.CX l.prog w) (sp := fun w => spLaw (K w.params)) hn (by decide) hdf hr hY F (fun _ _ a ns hl _ hS => ⟨a, ns, rfl, hS, hl, fun _ => rfl⟩) fun w H s e s' z => by
    obtain ⟨_, _, _, _, _, _, _, _, _, _, _, _, z⟩ := z
    exact z
end
end Mi
end
section
set_option Elab.async false
set_option linter.all false
set_option maxRecDepth 100000
open PySem PySem.Spec PyProof.Rows L2
namespace Mi
/-! ## the calculus: what the mini layer's words tell, for simp -/
@[simp] theorem x_dv (d : D) : R.d (.v d) = d := rfl
@[simp] theorem x_down (ds : List D) : R.d (.own ds) = .lst ds := rfl
@[simp] theorem x_slv (d : D) : R.sl (.v d) = .v d := rfl
@[simp] theorem x_slown (ds : List D) : R.sl (.own ds) = .own ds := rfl
@[simp] theorem x_bindSe {α : Type} (x : Xc) (e : Ev) (h : MH) (f : α → Ev → MH → Fl) : (Rs.err x e h : Rs α).bindS f = .err x e h := rfl
@[simp] theorem x_bindSn {α : Type} (f : α → Ev → MH → Fl) : (Rs.no : Rs α).bindS f = .no := rfl
@[simp] theorem x_fz (m : ME) (env : Ev) (h : MH) : fz m env h = ((m env h).bind fun r env h => .ok r.d env h) := rfl
@[simp] theorem x_eC (d : D) (env : Ev) (h : MH) : eC d env h = (.ok (.v d) env h) := rfl
@[simp] theorem x_eVar (i : Nat) (env : Ev) (h : MH) : eVar i env h = (match env[i]? with
  | some (.v d) => .ok (.v d) env h
  | some (.own ds) => .ok (.v (.lst ds)) (env.set i (.v (.lst ds))) h
  | _ => .no) := rfl
@[simp] theorem x_ofO (o : Option R) (env : Ev) (h : MH) : ofO o env h = (match o with
  | some r => .ok r env h
  | none => .no) := rfl
@[simp] theorem x_eOp2 (op : MH → D → D → Option R) (ma mb : MV) (env : Ev) (h : MH) : eOp2 op ma mb env h = ((ma env h).bind fun x env h => (mb env h).bind fun y env h => ofO (op h x y) env h) := rfl
@[simp] theorem x_eOp1 (op : MH → D → Option R) (ma : MV) (env : Ev) (h : MH) : eOp1 op ma env h = ((ma env h).bind fun x env h => ofO (op h x) env h) := rfl
@[simp] theorem x_toB (m : ME) (env : Ev) (h : MH) : toB m env h = ((m env h).bind fun r env h => match r with
  | .v (.bl b) => .ok b env h
  | _ => .no) := rfl
@[simp] theorem x_bTru (m : MV) (env : Ev) (h : MH) : bTru m env h = ((m env h).bind fun d env h => match truD h d with
  | some b => .ok b env h
  | none => .no) := rfl
@[simp] theorem x_bNot (m : MB) (env : Ev) (h : MH) : bNot m env h = ((m env h).bind fun b env h => .ok (!b) env h) := rfl
@[simp] theorem x_bAnd (m n : MB) (env : Ev) (h : MH) : bAnd m n env h = ((m env h).bind fun b env h => if b = true then n env h else .ok false env h) := rfl
@[simp] theorem x_bOr (m n : MB) (env : Ev) (h : MH) : bOr m n env h = ((m env h).bind fun b env h => if b = true then .ok true env h else n env h) := rfl
@[simp] theorem x_eNot (m : MV) (env : Ev) (h : MH) : eNot m env h = ((m env h).bind fun d env h => match d with
  | .bl b => .ok (.v (.bl (!b))) env h
  | _ => .no) := rfl
@[simp] theorem x_eIf (c : MB) (m n : ME) (env : Ev) (h : MH) : eIf c m n env h = ((c env h).bind fun b env h => if b = true then m env h else n env h) := rfl
@[simp] theorem x_aNil  (env : Ev) (h : MH) : aNil  env h = (.ok [] env h) := rfl
@[simp] theorem x_aCons (m : MV) (n : MA) (env : Ev) (h : MH) : aCons m n env h = ((m env h).bind fun d env h => (n env h).bind fun ds env h => .ok (d :: ds) env h) := rfl
@[simp] theorem x_eTup (m : MA) (env : Ev) (h : MH) : eTup m env h = ((m env h).bind fun ds env h => if ds.length ≤ sizeLine then .ok (.v (.tup ds)) env h else .no) := rfl
@[simp] theorem x_eLst (m : MA) (env : Ev) (h : MH) : eLst m env h = ((m env h).bind fun ds env h => if ds.length ≤ sizeLine then .ok (.own ds) env h else .no) := rfl
@[simp] theorem x_eLoc (m : MA) (env : Ev) (h : MH) : eLoc m env h = ((m env h).bind fun ds env h => if ds.length ≤ sizeLine then .ok (.v (.loc h.length)) env (h ++ [.lst ds]) else .no) := rfl
@[simp] theorem x_eCall (mf : MF) (m : MA) (env : Ev) (h : MH) : eCall mf m env h = ((m env h).bind fun ds env h => match mf ds h with
  | .ok r h' => .ok r env h'
  | .err x h' => .err x env h'
  | .no => .no) := rfl
@[simp] theorem x_sNil  (env : Ev) (h : MH) : sNil  env h = (.nx env h) := rfl
@[simp] theorem x_sSeq (m n : MS) (env : Ev) (h : MH) : sSeq m n env h = (match m env h with
  | .nx env h => n env h
  | r => r) := rfl
@[simp] theorem x_sExpr (m : ME) (env : Ev) (h : MH) : sExpr m env h = ((m env h).bindS fun _ env h => .nx env h) := rfl
@[simp] theorem x_sRet (m : ME) (env : Ev) (h : MH) : sRet m env h = ((m env h).bindS fun r env h => .rt r env h) := rfl
@[simp] theorem x_sRetN  (env : Ev) (h : MH) : sRetN  env h = (.rt (.v .non) env h) := rfl
@[simp] theorem x_sBk  (env : Ev) (h : MH) : sBk  env h = (.bk env h) := rfl
@[simp] theorem x_sCt  (env : Ev) (h : MH) : sCt  env h = (.ct env h) := rfl
@[simp] theorem x_sNo  (env : Ev) (h : MH) : sNo  env h = (.no) := rfl
@[simp] theorem x_sIf (c : MB) (m n : MS) (env : Ev) (h : MH) : sIf c m n env h = ((c env h).bindS fun b env h => if b = true then m env h else n env h) := rfl
@[simp] theorem x_sSet (i : Nat) (m : ME) (env : Ev) (h : MH) : sSet i m env h = ((m env h).bindS fun r env h => .nx (env.set i r.sl) h) := rfl
@[simp] theorem x_sAug (i : Nat) (op : MH → D → D → Option R) (m : MV) (env : Ev) (h : MH) : sAug i op m env h = (match env[i]? with
  | some (.v d) => (m env h).bindS fun y env h => match op h d y with
    | some r => .nx (env.set i r.sl) h
    | none => .no
  | _ => .no) := rfl
@[simp] theorem x_runF (n : Nat) (mb : MS) (ds : List D) (h : MH) : runF n mb ds h = (match mb (ds.map Sl.v ++ List.replicate (n - ds.length) .un) h with
  | .nx _ h' => .ok (.v .non) h'
  | .rt r _ h' => .ok r h'
  | .err x _ h' => .err x h'
  | _ => .no) := rfl
@[simp] theorem x_tN (i : Nat) (d : D) (env : Ev) : tN i d env = (some (env.set i (.v d))) := rfl
@[simp] theorem x_tsNil  (ds : List D) (env : Ev) : tsNil  ds env = (match ds with
  | [] => some env
  | _ => none) := rfl
@[simp] theorem x_tsCons (m : Tg) (n : List D → Ev → Option Ev) (ds : List D) (env : Ev) : tsCons m n ds env = (match ds with
  | d :: ds => (match m d env with
    | some env => n ds env
    | none => none)
  | [] => none) := rfl
@[simp] theorem x_tT (n : List D → Ev → Option Ev) (k : Nat) (d : D) (env : Ev) : tT n k d env = (match d with
  | .tup ds => if ds.length = k then n ds env else none
  | _ => none) := rfl
@[simp] theorem x_tL (n : List D → Ev → Option Ev) (k : Nat) (d : D) (env : Ev) : tL n k d env = (match d with
  | .lst ds => if ds.length = k then n ds env else none
  | _ => none) := rfl
@[simp] theorem x_sAsg (t : Tg) (m : MV) (env : Ev) (h : MH) : sAsg t m env h = ((m env h).bindS fun d env h => match t d env with
  | some env => .nx env h
  | none => .no) := rfl
@[simp] theorem x_iOf (m : MV) (env : Ev) (h : MH) : iOf m env h = ((m env h).bind fun d env h => match itemsD d with
  | some ds => .ok ds env h
  | none => .no) := rfl
@[simp] theorem x_sFor (t : Tg) (m : MI) (mb : MS) (env : Ev) (h : MH) : sFor t m mb env h = ((m env h).bindS fun ds env h => sForL t mb ds env h) := rfl
@[simp] theorem x_eComp (cap : List Nat) (t : Tg) (mi : MI) (c : MB) (elt : MV) (env : Ev) (h : MH) : eComp cap t mi c elt env h = ((mi env h).bind fun ds env h => match compL t c elt (mask cap 0 (frzE cap env)) ds h [] with
  | some (acc, h') => .ok (.own acc) (frzE cap env) h'
  | none => .no) := rfl
@[simp] theorem x_bYes  (env : Ev) (h : MH) : bYes  env h = (.ok true env h) := rfl
@[simp] theorem x_eComp2 (cap : List Nat) (t : Tg) (mi : MI) (c : MB) (mi1 : MI) (t1 : Tg) (c1 : MB) (elt : MV) (vs1 : List Nat) (env : Ev) (h : MH) : eComp2 cap t mi c mi1 t1 c1 elt vs1 env h = ((mi env h).bind fun ds env h => match compL2 t c mi1 t1 c1 elt vs1 (mask cap 0 (frzE cap env)) ds h [] with
  | some (acc, h') => .ok (.own acc) (frzE cap env) h'
  | none => .no) := rfl
@[simp] theorem x_eCallB (op : MH → List D → Option R) (m : MA) (env : Ev) (h : MH) : eCallB op m env h = ((m env h).bind fun ds env h => ofO (op h ds) env h) := rfl
@[simp] theorem x_eMtS (op : MH → D → List D → Option R) (mo : MV) (m : MA) (env : Ev) (h : MH) : eMtS op mo m env h = ((mo env h).bind fun d env h => if isS d = true then (m env h).bind fun ds env h => ofO (op h d ds) env h else .no) := rfl
@[simp] theorem x_eIxV (i : Nat) (op : MH → D → D → Option R) (mk : MV) (env : Ev) (h : MH) : eIxV i op mk env h = (if live env i = true then (mk env h).bind fun k env h => match env[i]? with
  | some (.own xs) => (match k with
    | .int j => (match atI xs j with
      | some d => .ok (.v d) env h
      | none => .no)
    | _ => .no)
  | some (.v d) => ofO (op h d k) env h
  | _ => .no else .no) := rfl
@[simp] theorem x_eLenV (i : Nat) (op : MH → List D → Option R) (env : Ev) (h : MH) : eLenV i op env h = (match env[i]? with
  | some (.own xs) => .ok (.v (.int xs.length)) env h
  | some (.v d) => ofO (op h [d]) env h
  | _ => .no) := rfl
@[simp] theorem x_bTruV (i : Nat) (env : Ev) (h : MH) : bTruV i env h = (match env[i]? with
  | some (.own xs) => .ok (!xs.isEmpty) env h
  | some (.v d) => (match truD h d with
    | some b => .ok b env h
    | none => .no)
  | _ => .no) := rfl
@[simp] theorem x_mutAt (i : Nat) (op : List D → List D → Option (List D × D)) (ds : List D) (env : Ev) (h : MH) : mutAt i op ds env h = (match env[i]? with
  | some (.own xs) => (match op xs ds with
    | some (xs', r) => .ok (.v r) (env.set i (.own xs')) h
    | none => .no)
  | some (.v (.loc n)) => (match h[n]? with
    | some (.lst xs) => (match op xs ds with
      | some (xs', r) => .ok (.v r) env (h.set n (.lst xs'))
      | none => .no)
    | none => .no)
  | _ => .no) := rfl
@[simp] theorem x_eMut (i : Nat) (op : List D → List D → Option (List D × D)) (m : MA) (env : Ev) (h : MH) : eMut i op m env h = (if isList env h i = true then (m env h).bind fun ds env h => mutAt i op ds env h else .no) := rfl
@[simp] theorem x_sStIx (i : Nat) (mk mv : MV) (env : Ev) (h : MH) : sStIx i mk mv env h = ((mv env h).bindS fun d env h => if isList env h i = true then (mk env h).bindS fun k env h => (mutAt i (setOp d) [k] env h).bindS fun _ env h => .nx env h else .no) := rfl
@[simp] theorem x_pNone  (env : Ev) (h : MH) : pNone  env h = (.ok none env h) := rfl
@[simp] theorem x_pSome (m : MV) (env : Ev) (h : MH) : pSome m env h = ((m env h).bind fun d env h => match d with
  | .int i => .ok (some i) env h
  | _ => .no) := rfl
@[simp] theorem x_eSl (m : MV) (lo hi : MO') (env : Ev) (h : MH) : eSl m lo hi env h = ((m env h).bind fun x env h => (lo env h).bind fun l env h => (hi env h).bind fun u env h => ofO (slO x l u) env h) := rfl
@[simp] theorem x_eSlV (i : Nat) (lo hi : MO') (env : Ev) (h : MH) : eSlV i lo hi env h = (if live env i = true then (lo env h).bind fun l env h => (hi env h).bind fun u env h => match env[i]? with
  | some (.own ds) => .ok (.own (cutL ds l u)) env h
  | some (.v d) => ofO (slO d l u) env h
  | _ => .no else .no) := rfl
@[simp] theorem x_eIsi (T : String) (m : MV) (env : Ev) (h : MH) : eIsi T m env h = ((m env h).bind fun d env h => .ok (.v (.bl (isT T d))) env h) := rfl
@[simp] theorem x_eIsi2 (T1 T2 : String) (m : MV) (env : Ev) (h : MH) : eIsi2 T1 T2 m env h = ((m env h).bind fun d env h => .ok (.v (.bl (isT T1 d || isT T2 d))) env h) := rfl

/-- a branch by a truth value -/
def brO (o : Option R) (k : Unit → Rs R) (env : Ev) (h : MH) : Rs R := match o with
  | some (.v (.bl true)) => k ()
  | some (.v (.bl false)) => .ok (.v (.bl false)) env h
  | _ => .no
@[simp] theorem brO_bl (b : Bool) (k : Unit → Rs R) (env : Ev) (h : MH) : brO (some (.v (.bl b))) k env h = if b = true then k () else .ok (.v (.bl false)) env h := by cases b <;> rfl
@[simp] theorem x_eChain (o o' : MH → D → D → Option R) (ma mb mc : MV) (env : Ev) (h : MH) : eChain o o' ma mb mc env h = (ma env h).bind fun x env h => (mb env h).bind fun y env h => brO (o h x y) (fun _ => (mc env h).bind fun z env h => ofO (o' h y z) env h) env h := rfl
def brA (d : D) (k : Unit → Rs R) (env : Ev) (h : MH) : Rs R := match d with
  | .bl true => k ()
  | .bl false => .ok (.v (.bl false)) env h
  | _ => .no
@[simp] theorem brA_bl (b : Bool) (k : Unit → Rs R) (env : Ev) (h : MH) : brA (.bl b) k env h = if b = true then k () else .ok (.v (.bl false)) env h := by cases b <;> rfl
@[simp] theorem x_eAnd (m : MV) (n : ME) (env : Ev) (h : MH) : eAnd m n env h = (m env h).bind fun d env h => brA d (fun _ => n env h) env h := rfl
def brR (d : D) (k : Unit → Rs R) (env : Ev) (h : MH) : Rs R := match d with
  | .bl true => .ok (.v (.bl true)) env h
  | .bl false => k ()
  | _ => .no
@[simp] theorem brR_bl (b : Bool) (k : Unit → Rs R) (env : Ev) (h : MH) : brR (.bl b) k env h = if b = true then .ok (.v (.bl true)) env h else k () := by cases b <;> rfl
@[simp] theorem x_eOr (m : MV) (n : ME) (env : Ev) (h : MH) : eOr m n env h = (m env h).bind fun d env h => brR d (fun _ => n env h) env h := rfl
/-! ranges -/
def rngO (d : D) (env : Ev) (h : MH) : Rs (List D) := match d with
  | .int j => if smallI j then .ok (rangeD 0 j.toNat) env h else .no
  | _ => .no
@[simp] theorem x_iRange1 (m : MV) (env : Ev) (h : MH) : iRange1 m env h = (m env h).bind fun d env h => rngO d env h := rfl
@[simp] theorem rngO_int {j : Int} (h1 : -1000000000000 ≤ j) (h2 : j ≤ 1000000000000) (env : Ev) (h : MH) : rngO (.int j) env h = .ok (rangeD 0 j.toNat) env h := by
  unfold rngO
  exact if_pos (by unfold smallI; omega)
def rngO2 (d d' : D) (env : Ev) (h : MH) : Rs (List D) := match d, d' with
  | .int i, .int j => if smallI i ∧ smallI j then .ok (rangeD i (j - i).toNat) env h else .no
  | _, _ => .no
@[simp] theorem x_iRange2 (m n : MV) (env : Ev) (h : MH) : iRange2 m n env h = (m env h).bind fun d env h => (n env h).bind fun d' env h => rngO2 d d' env h := rfl
@[simp] theorem rngO2_int {i j : Int} (h1 : -1000000000000 ≤ i) (h2 : i ≤ 1000000000000) (h3 : -1000000000000 ≤ j) (h4 : j ≤ 1000000000000) (env : Ev) (h : MH) : rngO2 (.int i) (.int j) env h = .ok (rangeD i (j - i).toNat) env h := by
  unfold rngO2
  exact if_pos (by unfold smallI; omega)
/-! masks -/
@[simp] theorem x_frzE0 (env : Ev) : frzE [] env = env := rfl
@[simp] theorem x_frzE (i : Nat) (cap : List Nat) (env : Ev) : frzE (i :: cap) env = frzE cap (match env[i]? with
  | some (.own ds) => env.set i (.v (.lst ds))
  | _ => env) := rfl
@[simp] theorem x_maskv (d : D) : maskS (.v d) = .v d := rfl
@[simp] theorem x_masko (d : List D) : maskS (.own d) = .un := rfl
@[simp] theorem x_masku : maskS .un = .un := rfl
@[simp] theorem x_mask0 (cap : List Nat) (n : Nat) : mask cap n [] = [] := rfl
@[simp] theorem x_mask1 (cap : List Nat) (n : Nat) (s : Sl) (r : Ev) : mask cap n (s :: r) = (if n ∈ cap then maskS s else .un) :: mask cap (n + 1) r := rfl
@[simp] theorem x_unE (i : Nat) (vs : List Nat) (env : Ev) : unE (i :: vs) env = unE vs (env.set i .un) := rfl
@[simp] theorem x_unE0 (env : Ev) : unE [] env = env := rfl
@[simp] theorem x_live (env : Ev) (i : Nat) : live env i = (match env[i]? with
  | some (.v _) => true
  | some (.own _) => true
  | _ => false) := rfl
@[simp] theorem x_isList (env : Ev) (h : MH) (i : Nat) : isList env h i = (match env[i]? with
  | some (.own _) => true
  | some (.v (.loc n)) => (match h[n]? with
    | some (.lst _) => true
    | none => false)
  | _ => false) := rfl
/-! operations -/
section
variable (h : MH)
@[simp] theorem x_addi (i j : Int) : addO h (.int i) (.int j) = some (.v (.int (i + j))) := rfl
@[simp] theorem x_adds (s t : List Nat) : addO h (.str s) (.str t) = if s.length + t.length ≤ sizeLine then some (.v (.str (s ++ t))) else none := rfl
@[simp] theorem x_addl (s t : List D) : addO h (.lst s) (.lst t) = if s.length + t.length ≤ sizeLine then some (.own (s ++ t)) else none := rfl
@[simp] theorem x_addt (s t : List D) : addO h (.tup s) (.tup t) = if s.length + t.length ≤ sizeLine ∧ s ≠ [] then some (.v (.tup (s ++ t))) else none := rfl
@[simp] theorem x_iaddi (i j : Int) : iaddO h (.int i) (.int j) = some (.v (.int (i + j))) := rfl
@[simp] theorem x_iadds (s t : List Nat) : iaddO h (.str s) (.str t) = if s.length + t.length ≤ sizeLine then some (.v (.str (s ++ t))) else none := rfl
@[simp] theorem x_subi (i j : Int) : subO h (.int i) (.int j) = some (.v (.int (i - j))) := rfl
@[simp] theorem x_muli (i j : Int) : mulIO h (.int i) (.int j) = if mulC i j then some (.v (.int (i * j))) else none := rfl
@[simp] theorem x_fdiv (i j : Int) : fdivO h (.int i) (.int j) = if 0 < j ∧ j.natAbs < 1073741824 then some (.v (.int (i / j))) else none := rfl
@[simp] theorem x_mod (i j : Int) : modO h (.int i) (.int j) = if 0 < j then some (.v (.int (i % j))) else none := rfl
@[simp] theorem x_neg (i : Int) : negO h (.int i) = some (.v (.int (-i))) := rfl
@[simp] theorem x_cmpi (p : Int → Int → Bool) (q : List Nat → List Nat → Bool) (i j : Int) : cmpO p q h (.int i) (.int j) = some (.v (.bl (p i j))) := rfl
@[simp] theorem x_cmps (p : Int → Int → Bool) (q : List Nat → List Nat → Bool) (i j : List Nat) : cmpO p q h (.str i) (.str j) = some (.v (.bl (q i j))) := rfl
@[simp] theorem x_eqDs (s t : List Nat) : eqD (.str s) (.str t) = some (decide (s = t)) := rfl
@[simp] theorem x_eqDi (s t : Int) : eqD (.int s) (.int t) = some (decide (s = t)) := rfl
@[simp] theorem x_eqDb (s t : Bool) : eqD (.bl s) (.bl t) = some (decide (s = t)) := rfl
@[simp] theorem x_eqO (x y : D) : eqO h x y = (eqD x y).map fun b => .v (.bl b) := rfl
@[simp] theorem x_neO (x y : D) : neO h x y = (eqD x y).map fun b => .v (.bl (!b)) := rfl
@[simp] theorem x_isNO (x : D) : isNO h x .non = some (.v (.bl (isNonD x))) := rfl
@[simp] theorem x_notNO (x : D) : notNO h x .non = some (.v (.bl (!isNonD x))) := rfl
@[simp] theorem x_inO (x y : D) : inO h x y = (inD h x y).map fun b => .v (.bl b) := rfl
@[simp] theorem x_ninO (x y : D) : ninO h x y = (inD h x y).map fun b => .v (.bl (!b)) := rfl
@[simp] theorem x_ins (c : Nat) (t : List Nat) : inD h (.str [c]) (.str t) = some (decide (c ∈ t)) := rfl
@[simp] theorem x_int (x : D) (t : List D) : inD h x (.tup t) = inL x t := rfl
@[simp] theorem x_inl (x : D) (t : List D) : inD h x (.lst t) = inL x t := rfl
@[simp] theorem x_ind (s : List Nat) (ks : List (List Nat)) (ds : List D) : inD h (.str s) (.dct ks ds) = if ks.length = ds.length then some (decide (s ∈ ks)) else none := rfl
@[simp] theorem x_ixO (x y : D) : ixO h x y = (ixD h x y).map .v := rfl
@[simp] theorem x_ixl (ds : List D) (j : Int) : ixD h (.lst ds) (.int j) = atI ds j := rfl
@[simp] theorem x_ixt (ds : List D) (j : Int) : ixD h (.tup ds) (.int j) = atI ds j := rfl
@[simp] theorem x_ixs (s : List Nat) (j : Int) : ixD h (.str s) (.int j) = if s.length ≤ sizeLine then (atI s j).map fun c => .str [c] else none := rfl
theorem x_ixo {h : MH} {n : Nat} {ds : List D} (j : Int) (e : h[n]? = some (.lst ds)) : ixD h (.loc n) (.int j) = atI ds j := by
  simp only [ixD, e]
@[simp] theorem x_ixd (ks : List (List Nat)) (ds : List D) (s : List Nat) : ixD h (.dct ks ds) (.str s) = (ks.zip ds).lookup s := rfl
@[simp] theorem x_trub (b : Bool) : truD h (.bl b) = some b := rfl
@[simp] theorem x_trun : truD h .non = some false := rfl
@[simp] theorem x_trui (i : Int) : truD h (.int i) = some (i != 0) := rfl
@[simp] theorem x_trus (s : List Nat) : truD h (.str s) = if s.length ≤ sizeLine then some (!s.isEmpty) else none := rfl
@[simp] theorem x_trut (s : List D) : truD h (.tup s) = some (!s.isEmpty) := rfl
@[simp] theorem x_trul (s : List D) : truD h (.lst s) = some (!s.isEmpty) := rfl
@[simp] theorem x_lenl (xs : List D) : lenO h [.lst xs] = some (.v (.int xs.length)) := rfl
@[simp] theorem x_lent (xs : List D) : lenO h [.tup xs] = some (.v (.int xs.length)) := rfl
@[simp] theorem x_lens (s : List Nat) : lenO h [.str s] = if s.length ≤ sizeLine then some (.v (.int s.length)) else none := rfl
@[simp] theorem x_abs (i : Int) : absO h [.int i] = some (.v (.int (if i < 0 then -i else i))) := rfl
@[simp] theorem x_max2 (i j : Int) : max2O h [.int i, .int j] = some (.v (.int (if j > i then j else i))) := rfl
@[simp] theorem x_min2 (i j : Int) : min2O h [.int i, .int j] = some (.v (.int (if j < i then j else i))) := rfl
@[simp] theorem x_intI (i : Int) : intO h [.int i] = some (.v (.int i)) := rfl
@[simp] theorem x_intB (b : Bool) : intO h [.bl b] = some (.v (.int (if b then 1 else 0))) := rfl
@[simp] theorem x_intS (s : List Nat) : intO h [.str s] = if s.length ≤ 640 then (PySem.intText? (S s)).map fun n => .v (.int n) else none := rfl
@[simp] theorem x_str (i : Int) : strO h [.int i] = if i.natAbs.log2 < 1920 then some (.v (.str (strI i))) else none := rfl
@[simp] theorem x_tupl (xs : List D) : tupleO h [.lst xs] = some (.v (.tup xs)) := rfl
@[simp] theorem x_tupt (xs : List D) : tupleO h [.tup xs] = some (.v (.tup xs)) := rfl
@[simp] theorem x_listl (xs : List D) : listO h [.lst xs] = some (.own xs) := rfl
@[simp] theorem x_listt (xs : List D) : listO h [.tup xs] = some (.own xs) := rfl
@[simp] theorem x_lists (s : List Nat) : listO h [.str s] = if s.length ≤ sizeLine then some (.own (chars s)) else none := rfl
@[simp] theorem x_all (xs : List D) : allO h [.lst xs] = (toBls xs).map fun bs => .v (.bl (bs.all id)) := rfl
@[simp] theorem x_any (xs : List D) : anyO h [.lst xs] = (toBls xs).map fun bs => .v (.bl (bs.any id)) := rfl
@[simp] theorem x_sum (xs : List D) : sumO h [.lst xs] = (toInts xs).map fun ns => .v (.int ns.sum) := rfl
@[simp] theorem x_join (s : List Nat) (xs : List D) : joinO h (.str s) [.lst xs] = (match toStrs xs with
    | some l => if (l.map List.length).sum + l.length * s.length ≤ 16777216 then some (.v (.str (TL.joinL s l))) else none
    | none => none) := rfl
@[simp] theorem x_split (s t : List Nat) : splitO h (.str s) [.str t] = if t ≠ [] ∧ t.all (· < 256) = true ∧ s.length + 2 ≤ sizeLine then some (.own ((splitL t s).map D.str)) else none := rfl
@[simp] theorem x_starts (s t : List Nat) : startsO h (.str s) [.str t] = some (.v (.bl (decide (s.take t.length = t)))) := rfl
@[simp] theorem x_ends (s t : List Nat) : endsO h (.str s) [.str t] = some (.v (.bl (decide (t.length ≤ s.length) && decide (s.drop (s.length - t.length) = t)))) := rfl
@[simp] theorem x_isS (s : List Nat) : isS (.str s) = true := rfl
@[simp] theorem x_app (xs : List D) (d : D) : appOp xs [d] = if xs.length < sizeLine then some (xs ++ [d], .non) else none := rfl
@[simp] theorem x_set (d : D) (xs : List D) (j : Int) : setOp d xs [.int j] = (match ixN xs.length j with
    | some n => some (xs.set n d, .non)
    | none => none) := rfl
@[simp] theorem x_sls (s : List Nat) (lo hi : Option Int) : slO (.str s) lo hi = if s.length ≤ sizeLine then some (.v (.str (cutL s lo hi))) else none := rfl
@[simp] theorem x_sll (s : List D) (lo hi : Option Int) : slO (.lst s) lo hi = some (.own (cutL s lo hi)) := rfl
end
/-! items -/
@[simp] theorem x_itl (ds : List D) : itemsD (.lst ds) = some ds := rfl
@[simp] theorem x_itt (ds : List D) : itemsD (.tup ds) = some ds := rfl
@[simp] theorem x_its (s : List Nat) : itemsD (.str s) = some (chars s) := rfl
@[simp] theorem x_for0 (t : Tg) (mb : MS) (env : Ev) (h : MH) : sForL t mb [] env h = .nx env h := rfl
@[simp] theorem x_isT (T : String) (d : D) : isT T d = (tyD d == T || (tyD d == "bool" && T == "int")) := rfl
@[simp] theorem x_tyn : tyD .non = "NoneType" := rfl
@[simp] theorem x_tyb (b : Bool) : tyD (.bl b) = "bool" := rfl
@[simp] theorem x_tyi (b : Int) : tyD (.int b) = "int" := rfl
@[simp] theorem x_tys (b : List Nat) : tyD (.str b) = "str" := rfl
@[simp] theorem x_tyt (b : List D) : tyD (.tup b) = "tuple" := rfl
@[simp] theorem x_tyl (b : List D) : tyD (.lst b) = "list" := rfl
@[simp] theorem x_tyo (b : Nat) : tyD (.loc b) = "list" := rfl
/-! places -/
theorem atI_ofNat {α : Type} (xs : List α) (j : Nat) : atI xs (j : Int) = xs[j]? := by
  cases e : xs[j]? with
  | some v => exact atI_nat e
  | none =>
    rw [List.getElem?_eq_none_iff] at e
    unfold atI ixN
    rw [if_pos (by omega), if_neg (by omega)]
    rfl
@[simp] theorem atI_0 {α : Type} (xs : List α) : atI xs 0 = xs[0]? := atI_ofNat xs 0
@[simp] theorem atI_2 {α : Type} (xs : List α) : atI xs 2 = xs[2]? := atI_ofNat xs 2
@[simp] theorem atI_3 {α : Type} (xs : List α) : atI xs 3 = xs[3]? := atI_ofNat xs 3
@[simp] theorem atI_4 {α : Type} (xs : List α) : atI xs 4 = xs[4]? := atI_ofNat xs 4
@[simp] theorem atI_5 {α : Type} (xs : List α) : atI xs 5 = xs[5]? := atI_ofNat xs 5
@[simp] theorem atI_6 {α : Type} (xs : List α) : atI xs 6 = xs[6]? := atI_ofNat xs 6
@[simp] theorem atI_7 {α : Type} (xs : List α) : atI xs 7 = xs[7]? := atI_ofNat xs 7
@[simp] theorem atI_1 {α : Type} (xs : List α) : atI xs 1 = xs[1]? := atI_ofNat xs 1
@[simp] theorem ixN_0 (n : Nat) : ixN (n + 1) 0 = some 0 := by unfold ixN; rw [if_pos (by omega), if_pos (by omega)]; rfl
theorem pop_nat {xs : List D} {n : Nat} {d : D} (h : xs[n]? = some d) (hl : xs.length ≤ sizeLine) : popOp xs [.int (n : Int)] = some (xs.eraseIdx n, d) := by
  have hn := (List.getElem?_eq_some_iff.mp h).1
  have e : ixN xs.length (n : Int) = some n := by unfold ixN; rw [if_pos (by omega), if_pos (by omega)]; simp
  unfold popOp
  simp only
  rw [if_pos hl, e]
  simp only
  rw [h]
theorem ixN_lit {n j : Nat} (h : j < n) : ixN n (j : Int) = some j := by unfold ixN; rw [if_pos (by omega), if_pos (by omega)]; simp
@[simp] theorem x_toBls0 : toBls [] = some [] := rfl
theorem toBls_fun {α : Type} (f : α → Bool) (l : List α) : toBls (l.map fun a => D.bl (f a)) = some (l.map f) := by
  induction l with
  | nil => rfl
  | cons a l ih => simp [toBls, ih]
theorem toInts_fun {α : Type} (f : α → Int) (l : List α) : toInts (l.map fun a => D.int (f a)) = some (l.map f) := by
  induction l with
  | nil => rfl
  | cons a l ih => simp [toInts, ih]
theorem toStrs_fun {α : Type} (f : α → List Nat) (l : List α) : toStrs (l.map fun a => D.str (f a)) = some (l.map f) := by
  induction l with
  | nil => rfl
  | cons a l ih => simp [toStrs, ih]
theorem toStrs_str (l : List (List Nat)) : toStrs (l.map D.str) = some l := by
  have := toStrs_fun (fun a => a) l
  simpa using this
theorem toInts_int (l : List Int) : toInts (l.map D.int) = some l := by
  have := toInts_fun (fun a => a) l
  simpa using this
/-! ## comprehensions -/
/-- one that changes nothing: a filter, a map -/
theorem compL_ok {t : Tg} {c : MB} {elt : MV} {menv : Ev} {h : MH} {p : D → Bool} {f : D → D} : ∀ (ds acc : List D), (∀ d ∈ ds, ∃ e1 e2, t d menv = some e1 ∧ c e1 h = .ok (p d) e2 h ∧ (p d = true → ∃ e3, elt e2 h = .ok (f d) e3 h)) → acc.length + ds.length ≤ sizeLine →
    compL t c elt menv ds h acc = some (acc ++ (ds.filter p).map f, h)
  | [], acc, _, _ => by simp [compL]
  | d :: ds, acc, hh, hl => by
    obtain ⟨e1, e2, h1, h2, h3⟩ := hh d (by simp)
    rw [List.length_cons] at hl
    unfold compL
    rw [h1]
    simp only
    rw [h2]
    cases q : p d with
    | true =>
      obtain ⟨e3, h4⟩ := h3 q
      simp only [if_true]
      rw [h4]
      simp only
      rw [if_pos (by omega), compL_ok ds _ (fun d' m => hh d' (by simp [m])) (by simp; omega)]
      simp [q]
    | false =>
      show (if false = true then _ else _) = _
      rw [if_neg (by simp), compL_ok ds _ (fun d' m => hh d' (by simp [m])) (by omega)]
      simp [q]
theorem compL_map {t : Tg} {elt : MV} {menv : Ev} {h : MH} {f : D → D} {ds : List D} (hh : ∀ d ∈ ds, ∃ e1 e3, t d menv = some e1 ∧ elt e1 h = .ok (f d) e3 h) (hl : ds.length ≤ sizeLine) :
    compL t bYes elt menv ds h [] = some (ds.map f, h) := by
  rw [compL_ok (p := fun _ => true) (f := f) ds [] (fun d m => by
    obtain ⟨e1, e3, h1, h2⟩ := hh d m
    exact ⟨e1, e1, h1, rfl, fun _ => ⟨e3, h2⟩⟩) (by simpa using hl), List.filter_eq_self.mpr (by simp)]
  simp
/-- one that draws: an invariant of the shared lists, a promise of each element -/
theorem compL_inv {t : Tg} {c : MB} {elt : MV} {menv : Ev} {I : MH → Prop} {Q : D → Prop} : ∀ (ds acc : List D) (h : MH), I h → (∀ d ∈ ds, ∀ h, I h → ∃ e1 e2 b h2, t d menv = some e1 ∧ c e1 h = .ok b e2 h2 ∧ I h2 ∧ (b = true → ∃ y e3 h3, elt e2 h2 = .ok y e3 h3 ∧ I h3 ∧ Q y)) → acc.length + ds.length ≤ sizeLine →
    ∃ ys h', compL t c elt menv ds h acc = some (acc ++ ys, h') ∧ I h' ∧ ys.length ≤ ds.length ∧ ∀ y ∈ ys, Q y
  | [], acc, h, i0, _, _ => ⟨[], h, by simp [compL], i0, by simp, by simp⟩
  | d :: ds, acc, h, i0, hh, hl => by
    obtain ⟨e1, e2, b, h2, g1, g2, i2, g3⟩ := hh d (by simp) h i0
    rw [List.length_cons] at hl
    unfold compL
    rw [g1]
    simp only
    rw [g2]
    cases b with
    | true =>
      obtain ⟨y, e3, h3, g4, i3, q⟩ := g3 rfl
      simp only [if_true]
      rw [g4]
      simp only
      rw [if_pos (by omega)]
      obtain ⟨ys, h', r1, r2, r3, r4⟩ := compL_inv ds (acc ++ [y]) h3 i3 (fun d' m => hh d' (by simp [m])) (by simp; omega)
      exact ⟨y :: ys, h', by rw [r1]; simp, r2, by simp; omega, fun z m => by
        rcases List.mem_cons.mp m with rfl | m
        · exact q
        · exact r4 z m⟩
    | false =>
      show ∃ ys h', (if false = true then _ else _) = _ ∧ _
      rw [if_neg (by simp)]
      obtain ⟨ys, h', r1, r2, r3, r4⟩ := compL_inv ds acc h2 i2 (fun d' m => hh d' (by simp [m])) (by omega)
      exact ⟨ys, h', r1, r2, by simp; omega, r4⟩
theorem compL_all {t : Tg} {elt : MV} {menv : Ev} {I : MH → Prop} {Q : D → Prop} : ∀ (ds acc : List D) (h : MH), I h → (∀ d ∈ ds, ∀ h, I h → ∃ e1, t d menv = some e1 ∧ ∃ y e3 h3, elt e1 h = .ok y e3 h3 ∧ I h3 ∧ Q y) → acc.length + ds.length ≤ sizeLine →
    ∃ ys h', compL t bYes elt menv ds h acc = some (acc ++ ys, h') ∧ I h' ∧ ys.length = ds.length ∧ ∀ y ∈ ys, Q y
  | [], acc, h, i0, _, _ => ⟨[], h, by simp [compL], i0, by simp, by simp⟩
  | d :: ds, acc, h, i0, hh, hl => by
    obtain ⟨e1, g1, y, e3, h3, g4, i3, q⟩ := hh d (by simp) h i0
    rw [List.length_cons] at hl
    unfold compL
    rw [g1]
    show ∃ ys h', (if true = true then (match elt e1 h with
          | .ok y _ h3 => if acc.length < sizeLine then compL t bYes elt menv ds h3 (acc ++ [y]) else none
          | _ => none) else compL t bYes elt menv ds h acc) = _ ∧ _
    rw [if_pos rfl, g4]
    simp only
    rw [if_pos (by omega)]
    obtain ⟨ys, h', r1, r2, r3, r4⟩ := compL_all ds (acc ++ [y]) h3 i3 (fun d' m => hh d' (by simp [m])) (by simp; omega)
    exact ⟨y :: ys, h', by rw [r1]; simp, r2, by simp; omega, fun z m => by
      rcases List.mem_cons.mp m with rfl | m
      · exact q
      · exact r4 z m⟩
/-- two clauses that change nothing -/
theorem compL2_ok {t : Tg} {mi1 : MI} {t1 : Tg} {elt : MV} {vs1 : List Nat} {menv : Ev} {h : MH} {f : D → List D} {n : Nat} : ∀ (ds acc : List D), (∀ d ∈ ds, ∃ e1 ds1 e3, t d menv = some e1 ∧ mi1 e1 h = .ok ds1 e3 h ∧ ds1.length ≤ n ∧ compL t1 bYes elt (unE vs1 (e3.map maskS)) ds1 h [] = some (f d, h) ∧ (f d).length ≤ n ∧
      ∀ acc, acc.length + ds1.length ≤ sizeLine → compL t1 bYes elt (unE vs1 (e3.map maskS)) ds1 h acc = some (acc ++ f d, h)) → acc.length + ds.length * n ≤ sizeLine →
    compL2 t bYes mi1 t1 bYes elt vs1 menv ds h acc = some (acc ++ ds.flatMap f, h)
  | [], acc, _, _ => by simp [compL2]
  | d :: ds, acc, hh, hl => by
    obtain ⟨e1, ds1, e3, h1, h2, h3, h4, h5, h6⟩ := hh d (by simp)
    have e0 : (ds.length + 1) * n = ds.length * n + n := by rw [Nat.add_mul, Nat.one_mul]
    rw [List.length_cons, e0] at hl
    unfold compL2
    rw [h1]
    show (if true = true then (match mi1 e1 h with
          | .ok ds1 e3 h3 => (match compL t1 bYes elt (unE vs1 (e3.map maskS)) ds1 h3 acc with
              | some (acc', h') => compL2 t bYes mi1 t1 bYes elt vs1 menv ds h' acc'
              | none => none)
          | _ => none) else compL2 t bYes mi1 t1 bYes elt vs1 menv ds h acc) = _
    rw [if_pos rfl, h2]
    simp only
    rw [h6 acc (by omega)]
    simp only
    rw [compL2_ok ds _ (fun d' m => hh d' (by simp [m])) (by simp; omega)]
    simp
/-! ## loops -/
/-- a for by an invariant of slots and shared lists -/
theorem for_inv {t : Tg} {mb : MS} {J : Nat → Ev → MH → Prop} {B : Ev → MH → Prop} {C : R → Ev → MH → Prop} : ∀ (ds : List D) (k : Nat) (env : Ev) (h : MH), J k env h → (∀ i d env h, ds[i]? = some d → J (k + i) env h → ∃ e1, t d env = some e1 ∧ match mb e1 h with
      | .nx e h => J (k + i + 1) e h
      | .ct e h => J (k + i + 1) e h
      | .bk e h => B e h
      | .rt r e h => C r e h
      | _ => False) →
    match sForL t mb ds env h with
      | .nx e h => J (k + ds.length) e h ∨ B e h
      | .rt r e h => C r e h
      | _ => False
  | [], k, env, h, j, _ => .inl j
  | d :: ds, k, env, h, j, hh => by
    obtain ⟨e1, h1, h2⟩ := hh 0 d env h rfl j
    unfold sForL
    rw [h1]
    simp only
    have step : ∀ e h, J (k + 0 + 1) e h → match sForL t mb ds e h with
      | .nx e h => J (k + (d :: ds).length) e h ∨ B e h
      | .rt r e h => C r e h
      | _ => False := fun e h j' => by
      have := for_inv (J := J) (B := B) (C := C) ds (k + 1) e h j' (fun i d' env h e j => by
        have := hh (i + 1) d' env h (by simpa using e) (by rw [show k + (i + 1) = k + 1 + i by omega]; exact j)
        rw [show k + (i + 1) = k + 1 + i by omega] at this
        exact this)
      rw [List.length_cons, show k + (ds.length + 1) = k + 1 + ds.length by omega]
      exact this
    cases e : mb e1 h with
    | nx e h => rw [e] at h2; exact step _ _ h2
    | ct e h => rw [e] at h2; exact step _ _ h2
    | bk e h => rw [e] at h2; exact .inr h2
    | rt r e h => rw [e] at h2; exact h2
    | err x e h => rw [e] at h2; exact h2.elim
    | no => rw [e] at h2; exact h2.elim
end Mi
end
section
set_option Elab.async false
set_option linter.all false
set_option maxRecDepth 100000
open PySem PySem.Spec PyProof.Rows L2
namespace Mi
/-! ## == of nested data -/
mutual
def dOk : D → Bool
  | .non => true
  | .int _ => true
  | .str s => s.all (· < 0x110000)
  | .tup ds => dOks ds
  | .lst ds => dOks ds
  | _ => false
def dOks : List D → Bool
  | [] => true
  | d :: ds => dOk d && dOks ds
end
mutual
def dDep : D → Nat
  | .tup ds => dDeps ds + 1
  | .lst ds => dDeps ds + 1
  | _ => 0
def dDeps : List D → Nat
  | [] => 0
  | d :: ds => max (dDep d) (dDeps ds)
end
mutual
theorem toPy_ok : ∀ (d : D), dOk d = true → ∃ p, toPy d = some p ∧ p.canLay0 = true ∧ p.depth = dDep d
  | .non, _ => ⟨_, rfl, by simp [PyData.canLay0], by simp [PyData.depth, dDep]⟩
  | .int _, _ => ⟨_, rfl, by simp [PyData.canLay0], by simp [PyData.depth, dDep]⟩
  | .str s, h => ⟨_, rfl, by simpa [PyData.canLay0, PyData.strOk, S, dOk] using h, by simp [PyData.depth, dDep]⟩
  | .tup ds, h => by
    obtain ⟨ps, h1, h2, h3⟩ := toPys_ok ds (by simpa [dOk] using h)
    exact ⟨.tuple ps, by simp [toPy, h1], by simpa [PyData.canLay0] using h2, by simp [PyData.depth, dDep, h3]⟩
  | .lst ds, h => by
    obtain ⟨ps, h1, h2, h3⟩ := toPys_ok ds (by simpa [dOk] using h)
    exact ⟨.list ps, by simp [toPy, h1], by simpa [PyData.canLay0] using h2, by simp [PyData.depth, dDep, h3]⟩
  | .bl _, h => by simp [dOk] at h
  | .loc _, h => by simp [dOk] at h
  | .dct _ _, h => by simp [dOk] at h
theorem toPys_ok : ∀ (ds : List D), dOks ds = true → ∃ ps, toPys ds = some ps ∧ PyData.canLayAll0 ps = true ∧ PyData.depthAll ps = dDeps ds
  | [], _ => ⟨[], by simp [toPys], by simp [PyData.canLayAll0], by simp [PyData.depthAll, dDeps]⟩
  | d :: ds, h => by
    simp only [dOks, Bool.and_eq_true] at h
    obtain ⟨p, h1, h2, h3⟩ := toPy_ok d h.1
    obtain ⟨ps, g1, g2, g3⟩ := toPys_ok ds h.2
    exact ⟨p :: ps, by simp [toPys, h1, g1], by simp [PyData.canLayAll0, h2, g2], by simp [PyData.depthAll, dDeps, h3, g3]⟩
end
mutual
theorem eqv_iff : ∀ (x y : D) (p q : PyData), dOk x = true → dOk y = true → toPy x = some p → toPy y = some q → (PyData.eqv p q = true ↔ x = y)
  | .non, y, p, q, hx, hy, ex, ey => by
    cases y <;> simp [dOk, toPy] at hx hy ex ey
    all_goals (try obtain ⟨_, _, ey⟩ := ey)
    all_goals (subst ex; (try subst ey); simp [PyData.eqv])
  | .int i, y, p, q, hx, hy, ex, ey => by
    cases y <;> simp [dOk, toPy] at hx hy ex ey
    all_goals (try obtain ⟨_, _, ey⟩ := ey)
    all_goals (subst ex; (try subst ey); simp [PyData.eqv])
  | .str s, y, p, q, hx, hy, ex, ey => by
    cases y <;> simp [dOk, toPy] at hx hy ex ey
    all_goals (try obtain ⟨_, _, ey⟩ := ey)
    all_goals (subst ex; (try subst ey); simp [PyData.eqv])
    exact ⟨fun h => S_inj h, fun h => by rw [h]⟩
  | .tup ds, y, p, q, hx, hy, ex, ey => by
    simp only [dOk] at hx
    simp only [toPy, Option.map_eq_some_iff] at ex
    obtain ⟨ps, e1, rfl⟩ := ex
    cases y with
    | tup es =>
      simp only [dOk] at hy
      simp only [toPy, Option.map_eq_some_iff] at ey
      obtain ⟨qs, e2, rfl⟩ := ey
      simp only [PyData.eqv, D.tup.injEq]
      exact eqvs_iff ds es ps qs hx hy e1 e2
    | lst es =>
      simp only [toPy, Option.map_eq_some_iff] at ey
      obtain ⟨qs, e2, rfl⟩ := ey
      simp [PyData.eqv]
    | _ => simp [dOk, toPy] at hy ey <;> (try subst ey) <;> simp [PyData.eqv]
  | .lst ds, y, p, q, hx, hy, ex, ey => by
    simp only [dOk] at hx
    simp only [toPy, Option.map_eq_some_iff] at ex
    obtain ⟨ps, e1, rfl⟩ := ex
    cases y with
    | lst es =>
      simp only [dOk] at hy
      simp only [toPy, Option.map_eq_some_iff] at ey
      obtain ⟨qs, e2, rfl⟩ := ey
      simp only [PyData.eqv, D.lst.injEq]
      exact eqvs_iff ds es ps qs hx hy e1 e2
    | tup es =>
      simp only [toPy, Option.map_eq_some_iff] at ey
      obtain ⟨qs, e2, rfl⟩ := ey
      simp [PyData.eqv]
    | _ => simp [dOk, toPy] at hy ey <;> (try subst ey) <;> simp [PyData.eqv]
  | .bl _, _, _, _, h, _, _, _ => by simp [dOk] at h
  | .loc _, _, _, _, h, _, _, _ => by simp [dOk] at h
  | .dct _ _, _, _, _, h, _, _, _ => by simp [dOk] at h
theorem eqvs_iff : ∀ (xs ys : List D) (ps qs : List PyData), dOks xs = true → dOks ys = true → toPys xs = some ps → toPys ys = some qs → (PyData.eqvAll ps qs = true ↔ xs = ys)
  | [], ys, ps, qs, hx, hy, ex, ey => by
    simp [toPys] at ex
    subst ex
    cases ys with
    | nil => simp [toPys] at ey; subst ey; simp [PyData.eqvAll]
    | cons y ys =>
      simp only [toPys] at ey
      split at ey
      · cases ey; simp [PyData.eqvAll]
      · cases ey
  | x :: xs, ys, ps, qs, hx, hy, ex, ey => by
    simp only [dOks, Bool.and_eq_true] at hx
    simp only [toPys] at ex
    cases e1 : toPy x with
    | none => rw [e1] at ex; cases ex
    | some p =>
      cases e2 : toPys xs with
      | none => rw [e1, e2] at ex; cases ex
      | some ps' =>
        rw [e1, e2] at ex; cases ex
        cases ys with
        | nil => simp [toPys] at ey; subst ey; simp [PyData.eqvAll]
        | cons y ys =>
          simp only [dOks, Bool.and_eq_true] at hy
          simp only [toPys] at ey
          cases e3 : toPy y with
          | none => rw [e3] at ey; cases ey
          | some q =>
            cases e4 : toPys ys with
            | none => rw [e3, e4] at ey; cases ey
            | some qs' =>
              rw [e3, e4] at ey; cases ey
              simp only [PyData.eqvAll, Bool.and_eq_true, List.cons.injEq]
              rw [eqv_iff x y p q hx.1 hy.1 e1 e3, eqvs_iff xs ys ps' qs' hx.2 hy.2 e2 e4]
end
theorem eqD_deep {x y : D} (hx : dOk x = true) (hy : dOk y = true) (kx : dDep x ≤ 64) (ky : dDep y ≤ 64) : ∃ b, eqD x y = some b ∧ (b = true ↔ x = y) := by
  obtain ⟨p, p1, p2, p3⟩ := toPy_ok x hx
  obtain ⟨q, q1, q2, q3⟩ := toPy_ok y hy
  have s1 : SeqAt.shaped p = true := by unfold SeqAt.shaped; rw [p2, p3]; simpa using kx
  have s2 : SeqAt.shaped q = true := by unfold SeqAt.shaped; rw [q2, q3]; simpa using ky
  have gen : ∃ b, (match toPy x, toPy y with
    | some a, some b => if SeqAt.shaped a = true ∧ SeqAt.shaped b = true then some (PyData.eqv a b) else none
    | _, _ => none) = some b ∧ (b = true ↔ x = y) := ⟨PyData.eqv p q, by rw [p1, q1]; simp [s1, s2], eqv_iff x y p q hx hy p1 q1⟩
  unfold eqD
  split
  all_goals first
    | exact gen
    | exact ⟨_, rfl, by simp⟩
theorem eqD_refl {x : D} (hx : dOk x = true) (kx : dDep x ≤ 64) : eqD x x = some true := by
  obtain ⟨b, h1, h2⟩ := eqD_deep hx hx kx kx
  rw [h1, h2.mpr rfl]
theorem dOks_all : ∀ {ds : List D}, (∀ d ∈ ds, dOk d = true) → dOks ds = true
  | [], _ => rfl
  | d :: ds, h => by
    simp only [dOks, Bool.and_eq_true]
    exact ⟨h d (by simp), dOks_all fun e m => h e (by simp [m])⟩
theorem dDeps_le {n : Nat} : ∀ {ds : List D}, (∀ d ∈ ds, dDep d ≤ n) → dDeps ds ≤ n
  | [], _ => Nat.zero_le _
  | d :: ds, h => by
    simp only [dDeps]
    have h1 := h d (by simp)
    have h2 := dDeps_le (ds := ds) (n := n) fun e m => h e (by simp [m])
    omega
/-! ## texts of words -/
abbrev jn (c : Nat) (l : List (List Nat)) : List Nat := TL.joinL [c] l
theorem jn_one (c : Nat) (a : List Nat) : jn c [a] = a := by simp [jn, TL.joinL]
theorem jn_cons (c : Nat) (a b : List Nat) (l : List (List Nat)) : jn c (a :: b :: l) = a ++ (c :: jn c (b :: l)) := by simp [jn, TL.joinL]
theorem jn_app (c : Nat) : ∀ (a b : List (List Nat)), a ≠ [] → b ≠ [] → jn c (a ++ b) = jn c a ++ (c :: jn c b)
  | [], _, h, _ => absurd rfl h
  | [x], b, _, hb => by
    cases b with
    | nil => exact absurd rfl hb
    | cons y b => rw [jn_one]; exact jn_cons c x y b
  | x :: y :: a, b, _, hb => by
    have := jn_app c (y :: a) b (by simp) hb
    rw [List.cons_append, List.cons_append] at *
    rw [jn_cons, jn_cons, this]
    simp
theorem jn_split {c : Nat} {l : List (List Nat)} (hn : l ≠ []) (h : ∀ p ∈ l, c ∉ p) : splitL [c] (jn c l) = l := TL.spl_join hn h
/-- a text of texts is the text of all words -/
theorem jn_jn (c : Nat) (a : List (List Nat)) : ∀ (bs : List (List (List Nat))), (∀ b ∈ bs, b ≠ []) → a ≠ [] → jn c (a ++ bs.map (jn c)) = jn c (a ++ bs.flatten)
  | [], _, _ => by simp
  | b :: bs, hb, ha => by
    have h1 := jn_jn c b bs (fun x m => hb x (by simp [m])) (hb b (by simp))
    have hbn := hb b (by simp)
    rw [List.map_cons, List.flatten_cons, jn_app c a _ ha (by simp), jn_app c a _ ha (by simp [hbn]), ← h1]
    cases bs with
    | nil => simp [jn_one]
    | cons x bs =>
      rw [List.map_cons, jn_cons, jn_app c b (jn c x :: bs.map (jn c)) hbn (by simp)]
theorem jn_len (c : Nat) : ∀ (l : List (List Nat)), (jn c l).length + 1 ≤ (l.map List.length).sum + l.length + 1
  | [] => by simp [jn, TL.joinL]
  | [a] => by simp [jn_one]
  | a :: b :: l => by
    have := jn_len c (b :: l)
    rw [jn_cons]
    simp only [List.length_append, List.length_cons, List.map_cons, List.sum_cons] at *
    omega
end Mi
end
section
set_option Elab.async false
set_option linter.all false
set_option maxRecDepth 100000
set_option maxHeartbeats 2000000
/-! an exception of a class of the program: __init__ says super().__init__('..'), self.f = f -/
namespace Mi
open PySem PySem.W PySem.Calls PyProof.Rows PySem.HandSPX
def xA (f : Str) (p1 p2 : Pos) : Arguments := { posonlyargs := [], args := [{ arg := "self", annotation := none, pos := p1 }, { arg := f, annotation := none, pos := p2 }], vararg := none, kwonlyargs := [], kw_defaults := [], kwarg := none, defaults := [] }
def xB (f msg : Str) (i : Nat) (a0 a1 a2 a3 a4 a5 q1 q2 q3 q4 : Pos) : List Stmt :=
  [.Expr (.Call (.Attribute (.Call (.Name "super" a0) [] [] a1) "__init__" a2) [.Constant (.str msg) i a3] [] a4) a5, .Assign [.Attribute (.Name "self" q1) f q2] (.Name f q3) q4]
def xS (f : Str) : Scope := { kind := .function, names := [(PySem.Str.ofString "self", .local), (f, .local), (PySem.Str.ofString "__class__", .free), (PySem.Str.ofString "super", .globalImplicit)], isGenerator := false, isCoroutine := false, more := [] }
/-- what the written part says of the class x at C, its __init__ at fI, the cell cc, the code cda -/
structure XT (prog : Program) (K : Frag) (mg : Str → Option Value) (x f : Str) (C fI cc cda : Addr) : Prop where
  gC : mg x = some (.ref C)
  cls : ∃ nm q N bs bm sn sub ab col dd k0 k1 k2 k3 k5, K.lookup C = some (excClassObj nm q C N bs bm true sn sub ab col dd k0 k1 k2 k3 k5 "ValueError.__new__") ∧ refsVE bm = true ∧ alongIn K "__init__" bm = some (some (.builtin "ValueError.__init__"))
  sa : findIn K (.ref C) "__setattr__" = some (some (.builtin "object.__setattr__"))
  ga : findIn K (.ref C) "__getattribute__" = some (some (.builtin "BaseException.__getattribute__"))
  gg : findIn K (.ref C) "__getattr__" = some none
  noN : findIn K (.ref C) f = some none
  iC : findIn K (.ref C) "__init__" = some (some (.ref fI))
  tC : typeIn K (.ref fI) = some (.type "function")
  kC : keepIn K (.ref C) = true
  exC : subIn K (.ref C) (.type "BaseException") = some true
  veC : subIn K (.ref C) (.type "ValueError") = some true
  tyC : typeIn K (.ref C) = some (.type "type")
  hdC : hasDictIn K C = true
  opq : nsIn K cStatics "thirdparty.any" = some none
  cel : ∃ cl cld csl, K.lookup cc = some ⟨cl, cld, .cell (some (.ref C)), csl⟩
  cod : ∃ ccl cdd vs ccs file tf, K.lookup cda = some ⟨ccl, cdd, .fields vs, ccs⟩ ∧ vs[2]? = some (.str file tf) ∧ ((prog.main.file : Str) == file) = true
  sup : mg "super" = none
  top : (prog.main.scope.names.lookup ("super" : Str)).isSome = false
  nf : (f == ("self" : Str)) = false ∧ (f == ("__class__" : Str)) = false ∧ (f == ("super" : Str)) = false ∧ (f == ("__debug__" : Str)) = false
  fn : ∃ (oc : Value) (od : Option Addr) (doc pm : Value) (an : Option Addr) (ct : Value) (osl : Array (Option Value)) (q msg : Str) (i : Nat) (p1 p2 a0 a1 a2 a3 a4 a5 q1 q2 q3 q4 : Pos),
    K.lookup fI = some ⟨oc, od, .func (ksFn "__init__" q (xA f p1 p2) (xB f msg i a0 a1 a2 a3 a4 a5 q1 q2 q3 q4) (xS f) .none .none doc pm an (.ref cda) ct cc), osl⟩ ∧ codeIn K (.ref cda) q = true ∧ (a2.endLine == a4.line) = true ∧
    ∀ (s : Shared) (u v : Value), BindsTo s (ksFn "__init__" q (xA f p1 p2) (xB f msg i a0 a1 a2 a3 a4 a5 q1 q2 q3 q4) (xS f) .none .none doc pm an (.ref cda) ct cc) ⟨[u, v], []⟩ [("self", u), (f, v)]
structure XEnd (h h' : Heap) (x C dx t1 : Addr) (f : Str) (v : Value) : Prop where
  keep : ∀ b o, b ≠ x → h.get? b = some o → h'.get? b = some o
  obj : h'.get? x = some { cls := .ref C, dict := some dx, data := .fields #[.ref t1, .none, .none, .none, .bool false, .none] }
  dbig : h.objs.size ≤ dx
  dne : dx ≠ x
  ns : h'.Ns1 dx (fun y => if y = f then some v else none)
theorem fits1 (v : Value) : [v].length ≤ sizeLine := by
  rw [sizeLine_eq]
  exact (by decide : 1 ≤ 16777216)
section
variable {prog : Program} {w : World} {A : Around} {E : Value → Shared → Prop} {h : Heap} {g : Array GenState} {d : Drawn} {t : Nat} {os : OsState}
/-- the method-wrapper of ValueError.__init__ called -/
theorem call_mw {nm q : Str} {C N : Addr} {bs bm : List Value} {hdct : Bool} {sn : List Str} {sub : List Value} {ab : Bool} {col : Option Bool} {dd : Option Addr} {k0 k1 k2 k3 k5 : Option Value} {u e t0 : Addr} {rest : List Value} {Q : Value → Shared → Prop}
    (hC : h.get? C = some (excClassObj nm q C N bs bm hdct sn sub ab col dd k0 k1 k2 k3 k5 "ValueError.__new__")) (he : h.get? e = some (excO C t0)) (hu : h.get? u = some (kxs_mw "ValueError.__init__" e)) (hrest : rest.length ≤ sizeLine)
    (hq : ∀ h' t1, (∀ b o, b ≠ e → h.get? b = some o → h'.get? b = some o) → h'.get? e = some (excO C t1) → h.objs.size ≤ h'.objs.size → Q .none ⟨h', g, d, t, os⟩) :
    wpAny (model prog w) A (call (.ref u) rest) Q E ⟨h, g, d, t, os⟩ := by
  have FB := F.excBase_ValueError
  refine wpAny_call (codeAny_of_tree ?_)
  show wpAny _ A.in1 (callAny (.ref u) ⟨rest, []⟩) _ _ _
  simp only [callAny]
  refine wpAny_bind (wpAny_load hu ?_)
  simp only [kxs_mw, show (Value.type "method-wrapper" == Value.type "method" || Value.type "method-wrapper" == Value.type "builtin_function_or_method" || Value.type "method-wrapper" == Value.type "method-wrapper") = true by decide, if_true]
  refine KFB.if_so (by decide) ?_
  refine wpAny_bind (check_bound_init FB.toExcCallFacts hC he rfl ?_)
  refine wpAny_bind (wpAny_pure (wpAny_pure ?_))
  refine ⟨plainId_quiet FB.init.plain _, codeAny_builtin FB.initEntry ?_⟩
  refine exc_init_tree (cls := .ref C) (t0 := t0) (dv := none) (c2 := .none) (c3 := .none) (b4 := .bool false) he hrest fun h' k e' t' => ?_
  refine hq h' h.objs.size k e' (Nat.le_of_lt (Heap.lt_size t'))
end
section
variable {prog : Program} {w : World} {A : Around} {E : Value → Shared → Prop} {R : Result → Shared → Prop} {s : Shared} {K : Frag} {mg : Str → Option Value} {x : Str} {f : Str} {C fI cc cda : Addr}
theorem xi_init (T : XT prog K mg x f C fI cc cda) {e t0 : Addr} {v : Value} (X : K.In s.heap) (hg : s.heap.Ns mainGlobals mg) (hb : ∃ mb, s.heap.Ns builtinsNs mb ∧ ∀ x : Str, x ≠ "__name__" → mb x = bootBuiltins x) (hlim : s.heap.NoLimit)
    (hx : s.heap.get? e = some (excO C t0)) (hnx : K.lookup e = none) (hbx : ∀ b, b = mainGlobals ∨ b = builtinsNs → b ≠ e) (hroom : A.depth < recursionLimit)
    (hq : ∀ h' tk dx t1, XEnd s.heap h' e C dx t1 f v → R (.ok (.ret .none)) { s with heap := h', toks := tk }) :
    codeAny (model prog w) A (.call (.ref fI) ⟨[.ref e, v], []⟩) R s := by
  obtain ⟨oc, od, doc, pm, an, ct, osl, q, msg, i, p1, p2, a0, a1, a2, a3, a4, a5, q1, q2, q3, q4, ho, hcd, hpp, hbd⟩ := T.fn
  obtain ⟨nm, qn, N, bs, bm, sn, sub, ab, col, dd, k0, k1, k2, k3, k5, hC, hbm, hal⟩ := T.cls
  obtain ⟨cl, cld, csl, hcc⟩ := T.cel
  obtain ⟨ccl, cdd, vs, ccs, file, tf, hco, hvs, hfile⟩ := T.cod
  obtain ⟨n1, n2, n3, n4⟩ := T.nf
  have hcl : clsIn K C = some { name := nm, bases := bs, mro := .ref C :: bm, ns := N, qualname := qn, hasDict := true, slotNames := sn, subclasses := sub, abstract := ab, collection := col, hasDel := false } := by unfold clsIn; rw [hC] <;> rfl
  have s0 : (("self" : Str) == f) = false := by rw [← n1]; exact Bool.eq_iff_iff.mpr ⟨fun z => beq_iff_eq.mpr (beq_iff_eq.mp z).symm, fun z => beq_iff_eq.mpr (beq_iff_eq.mp z).symm⟩
  have s1 : ((PySem.Str.ofString "self") == f) = false := s0
  have lkf : (xS f).names.lookup f = some .local := by
    show List.lookup f [(PySem.Str.ofString "self", NameKind.local), (f, .local), (PySem.Str.ofString "__class__", .free), (PySem.Str.ofString "super", .globalImplicit)] = _
    rw [List.lookup_cons, show (f == PySem.Str.ofString "self") = false from n1, List.lookup_cons]
    simp
  have lks : (xS f).names.lookup ("super" : Str) = some .globalImplicit := by
    show List.lookup ("super" : Str) [(PySem.Str.ofString "self", NameKind.local), (f, .local), (PySem.Str.ofString "__class__", .free), (PySem.Str.ofString "super", .globalImplicit)] = _
    have : (("super" : Str) == f) = false := by rw [← n3]; exact Bool.eq_iff_iff.mpr ⟨fun z => beq_iff_eq.mpr (beq_iff_eq.mp z).symm, fun z => beq_iff_eq.mpr (beq_iff_eq.mp z).symm⟩
    rw [List.lookup_cons, show (("super" : Str) == PySem.Str.ofString "self") = false by decide, List.lookup_cons, this, List.lookup_cons, show (("super" : Str) == PySem.Str.ofString "__class__") = false by decide, List.lookup_cons, show (("super" : Str) == PySem.Str.ofString "super") = true by decide]
  have lkc : (xS f).names.lookup ("__class__" : Str) = some .free := by
    show List.lookup ("__class__" : Str) [(PySem.Str.ofString "self", NameKind.local), (f, .local), (PySem.Str.ofString "__class__", .free), (PySem.Str.ofString "super", .globalImplicit)] = _
    have : (("__class__" : Str) == f) = false := by rw [← n2]; exact Bool.eq_iff_iff.mpr ⟨fun z => beq_iff_eq.mpr (beq_iff_eq.mp z).symm, fun z => beq_iff_eq.mpr (beq_iff_eq.mp z).symm⟩
    rw [List.lookup_cons, show (("__class__" : Str) == PySem.Str.ofString "self") = false by decide, List.lookup_cons, this, List.lookup_cons, show (("__class__" : Str) == PySem.Str.ofString "__class__") = true by decide]
  have lkself : (xS f).names.lookup ("self" : Str) = some .local := by
    show List.lookup ("self" : Str) [(PySem.Str.ofString "self", NameKind.local), (f, .local), (PySem.Str.ofString "__class__", .free), (PySem.Str.ofString "super", .globalImplicit)] = _
    rw [List.lookup_cons, show (("self" : Str) == PySem.Str.ofString "self") = true by decide]
  refine ks_codeAny_call_defAt (fd := ksFn "__init__" q (xA f p1 p2) (xB f msg i a0 a1 a2 a3 a4 a5 q1 q2 q3 q4) (xS f) .none .none doc pm an (.ref cda) ct cc) (body := xB f msg i a0 a1 a2 a3 a4 a5 q1 q2 q3 q4) (binds := [("self", .ref e), (f, v)])
    hroom (X _ _ ho) rfl hlim (codeRec_of X hcd) rfl (hbd _ _ _) ?cell ?loc (fun h₁ hns k => ?_)
  case cell =>
    intro y hy
    simp [xS] at hy
    rcases hy with rfl | rfl | rfl | rfl <;> simp
  case loc =>
    intro y hy
    simp at hy
    rcases hy with rfl | rfl
    · exact lkself
    · exact lkf
  have X₁ : K.In h₁ := X.keeps k
  have hx₁ := k _ _ hx
  have hxL : s.heap.objs.size ≠ e := Nat.ne_of_gt (Heap.lt_size hx)
  have hC₁ := X₁ _ _ hC
  have hs : s.heap.objs.size < h₁.objs.size := hns.lt
  generalize hL : s.heap.objs.size = L at *
  obtain ⟨hp, g, dr, tk, os⟩ := s
  dsimp only at *
  show PySem.wpAt _ _ _ (execs _ (ksEnv q (xS f) L fI (.ref cda) cc)) _ _ _
  have he : ∀ pl : Sem Bool, eval (.Call (.Attribute (.Call (.Name "super" a0) [] [] a1) "__init__" a2) [.Constant (.str msg) i a3] [] a4) (ksEnv q (xS f) L fI (.ref cda) cc) = (do
      let ov ← attributeBase (.Call (.Name "super" a0) [] [] a1) "__init__" (ksEnv q (xS f) L fI (.ref cda) cc) (eval (.Call (.Name "super" a0) [] [] a1) (ksEnv q (xS f) L fI (.ref cda) cc))
      standAt a2.atName
      let (fx, first) ← holding [ov] (getMethod ov "__init__" (do return (← importBound (.Call (.Name "super" a0) [] [] a1) (ksEnv q (xS f) L fI (.ref cda) cc)).getD true))
      callWith a4 fx first (backTo a4 (starEach [.Constant (.str msg) i a3] (ksEnv q (xS f) L fI (.ref cda) cc))) []) := by
    intro pl
    have hm : methodCallPos true (.Call (.Name "super" a0) [] [] a1) (ksEnv q (xS f) L fI (.ref cda) cc) a2 a4 = pure a4 := by
      unfold methodCallPos
      rw [if_pos (by rw [hpp]; rfl)]
    show (do
      let ov ← attributeBase (.Call (.Name "super" a0) [] [] a1) "__init__" (ksEnv q (xS f) L fI (.ref cda) cc) (eval (.Call (.Name "super" a0) [] [] a1) (ksEnv q (xS f) L fI (.ref cda) cc))
      standAt a2.atName
      let (fx, first) ← holding [ov] (getMethod ov "__init__" (do return (← importBound (.Call (.Name "super" a0) [] [] a1) (ksEnv q (xS f) L fI (.ref cda) cc)).getD true))
      let cp ← methodCallPos true (.Call (.Name "super" a0) [] [] a1) (ksEnv q (xS f) L fI (.ref cda) cc) a2 a4
      callWith cp fx first (backTo a4 (starEach [.Constant (.str msg) i a3] (ksEnv q (xS f) L fI (.ref cda) cc))) []) = _
    rw [hm]
    simp only [pure_bind]
  refine ks_wpAt_execs_cons (ks_wpAt_Expr_any (ks_wpAt_MethodCall (he := he (pure true)) ?_))
  have hns' : (⟨h₁, g, dr, tk + [(("self" : Str), Value.ref e), (f, v)].length, os⟩ : Shared).heap.Ns L (fun x => [(("self" : Str), Value.ref e), (f, v)].reverse.lookup x) := hns
  have vself : (fun x => [(("self" : Str), Value.ref e), (f, v)].reverse.lookup x) ("self" : Str) = some (.ref e) := by
    show List.lookup ("self" : Str) [(f, v), (("self" : Str), Value.ref e)] = _
    rw [List.lookup_cons, s0, List.lookup_cons]
    simp
  have vf : (fun x => [(("self" : Str), Value.ref e), (f, v)].reverse.lookup x) f = some v := by
    show List.lookup f [(f, v), (("self" : Str), Value.ref e)] = _
    rw [List.lookup_cons]
    simp
  obtain ⟨mb, hb1, hb2⟩ := hb
  refine ks_wpAt_super_base (env := ksEnv q (xS f) L fI (.ref cda) cc) lks lkc (by decide) rfl (X₁ _ _ ho) rfl rfl rfl (X₁ _ _ hco) rfl hvs hfile T.top ?_
  refine ks_loadName_global rfl lks (loadGlobal_builtin (env := ksEnv q (xS f) L fI (.ref cda) cc) (hg.keeps k) T.sup (hb1.keeps k) ((hb2 "super" (by decide)).trans (show bootBuiltins "super" = some (.type "super") by decide +kernel)) ⟨rfl, ?_⟩)
  refine wpAny_loadName_free rfl lkc rfl ⟨_, X₁ _ _ hcc, rfl⟩ ?_
  refine wpAny_loadName_local rfl lkself hns' vself ?_
  refine ks_wpAny_isType_cls hC₁ rfl ⟨rfl, ?_⟩
  have hsub : mroIn K C (.ref C) = some true := by
    unfold mroIn
    rw [hcl, Option.bind_some, if_neg (by simp)]
    simp
  refine ks_wpAny_call_super hC₁ rfl hx₁ rfl (fun c z => by cases z) (looks_mroIn X₁ hsub) (fun h₂ eso k2 => ?_)
  have X₂ : K.In h₂ := X₁.keeps k2
  have hx₂ := k2 _ _ hx₁
  have hne : e ≠ C := fun z => by rw [z, hC] at hnx; cases hnx
  have I₂ : InstAt h₂ e (excO C t0) C none := ⟨hx₂, rfl, rfl, trivial⟩
  refine kxs_getMethod kxs_ValueError eso (looks_opaque X₂ T.opq) (l₀ := .ref C :: bm) (l := bm) (fun A Q E s k q => wpAny_bind ((looks_clsIn X₂ hcl) A _ E s k (wpAny_pure q))) (ESX.drop_own C bm) X₂ hal (I₂.type.andThen (looks_subIn X₂ T.veC)) hne (by decide) ?_
  refine kxs_callWith (i := "ValueError.__init__") (x := e) rfl ?_
  have up : ∀ b o, h₂.get? b = some o → (h₂.push (kxs_mw "ValueError.__init__" e)).get? b = some o := fun b o z => Heap.get?_push_of_some _ z
  have hmw : (h₂.push (kxs_mw "ValueError.__init__" e)).get? h₂.objs.size = some (kxs_mw "ValueError.__init__" e) := Heap.get?_push_at rfl rfl
  refine Calls.evalArgs_plain (Calls.spliced_cons (Calls.Constant_str (k := i) (pos := a3) (Calls.spliced_nil ⟨hmw, ?_⟩)))
  refine call_mw (up _ _ (X₂ _ _ hC)) (up _ _ hx₂) hmw (fits1 _) fun h₃ t1 k3 hx₃ hz3 => ?_
  have old3 : ∀ b o, b ≠ e → h₁.get? b = some o → h₃.get? b = some o := fun b o hb z => k3 b o hb (up _ _ (k2 b o z))
  have X₃ : K.In h₃ := fun b o z => old3 b o (fun q => by rw [q, hnx] at z; cases z) (X₁ b o z)
  have lne : L ≠ e := hxL
  have hns3 : h₃.Ns L (fun x => [(("self" : Str), Value.ref e), (f, v)].reverse.lookup x) := by
    obtain ⟨oL, es, ep, hLo, r⟩ := hns
    exact ⟨oL, es, ep, old3 _ _ lne hLo, r⟩
  refine wpAt_of_wpAny (wpAny_execs_cons (plainObj_wpAny_Assign_Attribute ?_))
  have ldv : ∀ {Q : Value → Shared → Prop} {s' : Shared} {pos : Pos}, s'.heap.Ns L (fun x => [(("self" : Str), Value.ref e), (f, v)].reverse.lookup x) → Q v s' → wpAny (model prog w) (A.deeper (ksEnv q (xS f) L fI (.ref cda) cc)) (eval (.Name f pos) (ksEnv q (xS f) L fI (.ref cda) cc)) Q (fun e s' => wpAny (model prog w) (A.deeper (ksEnv q (xS f) L fI (.ref cda) cc)) (leaving (ksEnv q (xS f) L fI (.ref cda) cc) e) (fun _ s'' => R (.error e) s'') (fun e' s'' => R (.error e') s'') s') s' := fun hn hQ =>
    wpAny_Name (wpAny_loadName_local rfl lkf hn vf hQ) n4
  have lds : ∀ {Q : Value → Shared → Prop} {s' : Shared} {pos : Pos}, s'.heap.Ns L (fun x => [(("self" : Str), Value.ref e), (f, v)].reverse.lookup x) → Q (.ref e) s' → wpAny (model prog w) (A.deeper (ksEnv q (xS f) L fI (.ref cda) cc)) (eval (.Name "self" pos) (ksEnv q (xS f) L fI (.ref cda) cc)) Q (fun e s' => wpAny (model prog w) (A.deeper (ksEnv q (xS f) L fI (.ref cda) cc)) (leaving (ksEnv q (xS f) L fI (.ref cda) cc) e) (fun _ s'' => R (.error e) s'') (fun e' s'' => R (.error e') s'') s') s' := fun hn hQ =>
    wpAny_Name (wpAny_loadName_local rfl lkself hn vself hQ) (by decide)
  refine ldv hns3 (lds hns3 ?_)
  refine set_plain X₃ (ox := excO C t1) (od := none) ⟨hx₃, rfl, rfl, trivial⟩ T.sa ?_
  refine HandSPX.exc_osa X₃ hx₃ hcl (show refsVE (.ref C :: bm) = true from hbm) rfl T.noN (fun h₄ tk₄ dx k₄ dn dne hx₄ hn₄ => ?_)
  show wpAny _ _ (execs _ _) _ _ _
  have z : hp.objs.size ≤ h₃.objs.size := by
    have a1 : L ≤ h₁.objs.size := Nat.le_of_lt hs
    have a2 : L < h₃.objs.size := by
      obtain ⟨oL, es, ep, hLo, r⟩ := hns3
      exact Heap.lt_size hLo
    omega
  exact wpAny_execs_nil (hq h₄ _ dx t1 ⟨fun b o hb z => k₄ b o hb (old3 b o hb (k b o z)), hx₄, Nat.le_trans z dn, dne, hn₄⟩)
end
end Mi
end
section
set_option Elab.async false
set_option linter.all false
set_option maxRecDepth 100000
set_option maxHeartbeats 2000000
namespace Mi
section
open PySem PySem.W PySem.Calls PyProof.Rows PySem.HandSPX
/-- a made exception -/
structure XMade (h h' : Heap) (e C d : Addr) (f : Str) (v : Value) : Prop where
  keep : ∀ b o, h.get? b = some o → h'.get? b = some o
  new : h.objs.size ≤ e
  obj : ∃ oe vs, h'.get? e = some oe ∧ oe.cls = .ref C ∧ oe.dict = some d ∧ oe.data = .fields vs ∧ vs[1]? = some .none ∧ vs[2]? = some .none
  dbig : h.objs.size ≤ d
  dne : d ≠ e
  ns : h'.Ns1 d (fun y => if y = f then some v else none)
variable {prog : Program} {w : World} {A : Around} {E : Value → Shared → Prop} {R : Result → Shared → Prop} {s : Shared} {K : Frag} {mg : Str → Option Value} {x : Str} {f : Str} {C fI cc cda : Addr}
theorem xi_made (T : XT prog K mg x f C fI cc cda) {v : Value} (X : K.In s.heap) (hg : s.heap.Ns mainGlobals mg) (hb : ∃ mb, s.heap.Ns builtinsNs mb ∧ ∀ x : Str, x ≠ "__name__" → mb x = bootBuiltins x) (hlim : s.heap.NoLimit) (hroom : A.depth + 1 < recursionLimit)
    (hq : ∀ h' tk e d, XMade s.heap h' e C d f v → R (.ok (.ret (.ref e))) { s with heap := h', toks := tk }) :
    codeAny (model prog w) A (.call (.ref C) ⟨[v], []⟩) R s := by
  obtain ⟨nm, q, N, bs, bm, sn, sub, ab, col, dd, k0, k1, k2, k3, k5, hC, hbm, _⟩ := T.cls
  obtain ⟨hp, g, dr, tk, os⟩ := s
  have k : ∀ b o, hp.get? b = some o → ((hp.push (kdv_tup [v])).push (excO C hp.objs.size)).get? b = some o := fun b o e => Heap.get?_push_of_some _ (Heap.get?_push_of_some _ e)
  have hget : ((hp.push (kdv_tup [v])).push (excO C hp.objs.size)).get? (hp.objs.size + 1) = some (excO C hp.objs.size) := by heap_get
  have lt1 : ∀ b o, hp.get? b = some o → b ≠ hp.objs.size + 1 := fun b o z q => by
    subst q
    exact absurd (Nat.lt_of_succ_lt (Heap.lt_size z)) (Nat.lt_irrefl _)
  have hnx : K.lookup (hp.objs.size + 1) = none := by
    cases e : K.lookup (hp.objs.size + 1) with
    | none => rfl
    | some o => exact absurd rfl (lt1 _ o (X _ _ e))
  obtain ⟨mb, hb1, hb2⟩ := hb
  refine call_own F.excBase_ValueError (fun X => refsVE_contains X bm hbm) (X _ _ hC) (looks_findIn X T.iC) (fun self => bind_fn X self T.tC) (fits1 v) ?_
  refine xi_init (s := ⟨(hp.push (kdv_tup [v])).push (excO C hp.objs.size), g, dr, tk, os⟩) T (X.keeps k) (hg.keeps k) ⟨mb, hb1.keeps k, hb2⟩ (hlim.keeps k) hget hnx ?_ ?_ fun h' tk' dx t1 ⟨k', hx, dn, dne, hns⟩ => ?_
  · intro b hb
    rcases hb with rfl | rfl
    · obtain ⟨o, es, ep, ho, _⟩ := hg
      exact lt1 _ o ho
    · obtain ⟨o, es, ep, ho, _⟩ := hb1
      exact lt1 _ o ho
  · show A.depth + 1 < recursionLimit
    exact hroom
  · have old : ∀ b o, hp.get? b = some o → h'.get? b = some o := fun b o e => k' b o (Nat.ne_of_lt (Nat.lt_succ_of_lt (Heap.lt_size e))) (k b o e)
    have z : hp.objs.size + 1 + 1 ≤ dx := by
      first
        | (simpa only [Heap.size_push] using dn)
        | exact dn
        | (have q := dn; rw [Heap.size_push, Heap.size_push] at q; exact q)
    exact ⟨rfl, hq h' tk' (hp.objs.size + 1) dx ⟨old, Nat.le_succ _, ⟨_, _, hx, rfl, rfl, rfl, rfl, rfl⟩, Nat.le_trans (Nat.le_trans (Nat.le_succ _) (Nat.le_succ _)) z, dne, hns⟩⟩
end
section
open PySem PySem.Spec PyProof.Rows L2
theorem relO_x {f : Str} {v : V} {v' : Value} (r : RelV v v') (y : Str) : RelO (List.lookup y [(f, v)]) (if y = f then some v' else none) := by
  by_cases hw : y = f
  · subst hw
    rw [if_pos rfl]
    have q : List.lookup y [(y, v)] = some v := by simp [List.lookup]
    rw [q]
    exact r
  · rw [if_neg hw]
    have qw : (y == f) = false := by simpa using hw
    have q2 : List.lookup y [(f, v)] = none := by simp [List.lookup, qw]
    rw [q2]
    trivial
variable {X : Cx} {x f : Str} {C fI cc cda : Addr}
/-- x(e) -/
def tMkX (f : Str) (C : Addr) (ta : TA) : L2.St → Hp → XK → Prop := fun σ H Q => ta σ H fun vs H1 => ∃ v, vs = [v] ∧ ∀ d, H1 d = none → Q (.ref C) (some d) (upd H1 d (.xd [(f, v)]))
theorem pmk_x {a : Expr} {ta : TA} {p pos : Pos} {k : Nat} (T : XT X.prog X.K X.mg x f C fI cc cda) (hr : Room k X.A) (ha : PA X [a] ta) (hg : Gl X x) (hdb : (x == ("__debug__" : Str)) = false)
    (he : starEach (a :: []) X.env = (false, eval a X.env) :: starEach [] X.env := by rfl) (hpl : (backTo pos (starEach [] X.env)).any (·.1) = false := by rfl) :
    L2N.PMk X (.Call (.Name x p) [a] [] pos) (tMkX f C ta) := by
  intro pins s σ H Q I h
  refine wpAny_Call_Name_kw (ld_glob I hg T.gC ?_ hdb)
  refine PySem.W.callWith_K (h₀ := X.base) I.ok.mod.kin T.kC (thn (ha.run pos pins s σ H _ I h) fun us s1 hh => ?_) he hpl
  obtain ⟨vs, H1, I1, r1, v, ev, q1⟩ := hh
  subst ev
  refine ⟨I1.kIn, ?_⟩
  cases r1 with
  | cons rv rn =>
    rename_i v' us'
    cases rn
    show wpAny _ _ (call (.ref C) [v']) _ _ _
    have hlim := I1.nolimit
    have hgl := I1.mod.glob.keeps I1.bk
    have hbl : ∃ mb, s1.heap.Ns builtinsNs mb ∧ ∀ x : Str, x ≠ "__name__" → mb x = bootBuiltins x := by
      obtain ⟨mb, h1, h2⟩ := I1.mod.blt
      exact ⟨mb, h1.keeps I1.bk, h2⟩
    obtain ⟨hp, g, dr, tk, os⟩ := s1
    refine wpAny_call (xi_made T I1.kIn hgl hbl hlim (by have := hr.dp; omega) fun h' tk' e d M => ?_)
    show L2N.MkP X pins σ Q (.ref e) ⟨h', g, dr, tk', os⟩
    obtain ⟨oe, fv, hoe, hc, hd, hdat, h1, hctx⟩ := M.obj
    have hns := M.ns
    obtain ⟨G', g1, g2⟩ := restrict h' fun b => decide (b ≠ e)
    have gk : ∀ b, b ≠ e → G'.get? b = h'.get? b := fun b hb => g1 b (decide_eq_true hb)
    have ge : G'.get? e = none := g2 e (by simp)
    have old : ∀ b o, hp.get? b = some o → G'.get? b = some o := fun b o q => (gk b (Nat.ne_of_lt (Nat.lt_of_lt_of_le (Heap.lt_size q) M.new))).trans (M.keep b o q)
    have ob : ObjOk X.prog X.w (upd H1 d (.xd [(f, v)])) G' d (.xd [(f, v)]) :=
      ⟨_, hns.at (fun o q => (gk d M.dne).trans q), fun y => relO_x rv y⟩
    have J : Inv X pins σ (upd H1 d (.xd [(f, v)])) ⟨G', g, dr, tk', os⟩ := I1.laid (t' := tk') old M.dbig ob
    refine ⟨e, oe, fv, ⟨G', g, dr, tk', os⟩, _, .ref C, some d, rfl, J, fun b o q => ?_, ge, hoe, ⟨hc, hd, fun vs q => by rw [hdat] at q; cases q; exact hctx⟩, hdat, h1, ?_, rfl, I1.bare, raises_own T.exC T.tyC, q1 d (I1.hok.fresh M.dbig)⟩
    · by_cases hb : b = e
      · have q' : G'.get? b = some o := q
        rw [hb, ge] at q'; cases q'
      · exact (gk b hb).symm.trans q
    · rw [upd_ne (Ne.symm M.dne)]
      exact I1.hok.fresh M.new
end
end Mi
end
section
set_option Elab.async false
set_option linter.all false
set_option maxRecDepth 100000
set_option maxHeartbeats 2000000
/-! try .. except X as n, the exception a thing of the heap while its suite runs -/
namespace Mi
open PySem PySem.Spec PyProof.Rows L2
/-- the exception, as it stands -/
abbrev exT (a : Addr) (oe : Obj) : HO := .frz oe (.own a)
/-- the context of a suite: the exception stands in the heap at the entry -/
abbrev suiteH (X : Cx) (a : Addr) (oe : Obj) (pn : List (Addr × Obj)) : Cx := { X.suite a pn with H_0 := upd X.H_0 a (exT a oe) }
theorem exT_own {a x : Addr} {oe : Obj} : exT a oe ≠ .own x := fun z => nomatch z
theorem exT_tup {a : Addr} {oe : Obj} {xs : List V} : exT a oe ≠ .tup xs := fun z => nomatch z
/-- the ends of a suite whose exception goes -/
def Ends.trk (i : Nat) (a : Addr) (oe : Obj) (D : Ends) : Ends :=
  { nx := fun τ G => G a = some (exT a oe) ∧ D.nx (τ.set i none) (del G a), rt := fun v G => G a = some (exT a oe) ∧ D.rt v (del G a),
    bk := fun τ G => G a = some (exT a oe) ∧ D.bk (τ.set i none) (del G a), ct := fun τ G => G a = some (exT a oe) ∧ D.ct (τ.set i none) (del G a) }
/-- what the clause wishes of an exception of the body -/
def wTrk (K : PySem.W.Frag) (c : Value) (i : Nat) (ts : TS) (Wout : WX) (D : Ends) : WX := fun cls d σ H =>
  ∃ b, PySem.W.exmOne K cls c = some b ∧ (b = true → ∀ a oe, H a = none → L2N.Zn cls d oe → (∃ vs, oe.data = .fields vs) → ts (Ends.trk i a oe D) (σ.set i (some (.ref a))) (upd H a (exT a oe))) ∧ (b = false → Wout cls d σ H)
section
variable {X : Cx} {pins : List (Addr × Obj)} {σ : L2.St} {H : Hp} {s : Shared} {a : Addr} {oe : Obj}
/-- from a pin to a thing of the heap -/
theorem track (I : Inv (X.suite a ((a, oe) :: (X.pn ++ pins))) [] σ H s) (n0 : X.s_0.heap.get? a = none) (hX : X.ex = []) (hf : ∃ vs, oe.data = .fields vs) (hp : ∀ p ∈ X.pn ++ pins, p.1 ≠ a) :
    Inv (suiteH X a oe (X.pn ++ pins)) [] σ (upd H a (exT a oe)) s := by
  obtain ⟨ha, na, nL, nF, nC⟩ := I.pin (a, oe) (List.mem_append_left _ List.mem_cons_self)
  dsimp only at ha na nL nF nC
  have b0 : ∀ b o, X.s_0.heap.get? b = some o → b ≠ a := fun b o e q => by rw [q, n0] at e; cases e
  have hne : ∀ b o, H b = some o → b ≠ a := fun b o e q => by rw [q, na] at e; cases e
  refine ⟨⟨I.ok.mod, I.ok.kind, I.ok.glob, I.ok.blt, I.ok.above, I.ok.inj, I.ok.has, I.ok.cab, I.ok.hd, I.ok.frames, I.ok.stk, I.ok.exf, fun b o e => ?_, I.ok.bsz, I.ok.noex, I.ok.exfs, I.ok.funs, fun b hb => ?_⟩,
    I.os, I.bare, ⟨fun b o e n => ?_, fun b o e n => ?_, fun b o e n x => ?_, I.base.there, fun b xs e => ?_, fun b o u e => ?_, fun b ps e => ?_⟩, I.loc, I.cell, ?_, fun x c e => ?_, fun p h => ?_, fun b o e => ?_, I.len⟩
  · obtain ⟨e1, e2⟩ := I.ok.bs b o e
    refine ⟨e1, ?_⟩
    show upd X.H_0 a (exT a oe) b = none
    rw [upd_ne (b0 b o e1)]
    exact e2
  · show upd X.H_0 a (exT a oe) b = none
    rw [upd_ne (show b ≠ a from fun q => nF (by rw [← q]; exact hb))]
    exact I.ok.frf b hb
  · have n : upd X.H_0 a (exT a oe) b = none := n
    rw [upd_ne (b0 b o e)] at n
    exact I.base.keep b o e n
  · have n : upd X.H_0 a (exT a oe) b = none := n
    rw [upd_ne (b0 b o e)] at n
    exact I.base.slot b o e n
  · have n : upd X.H_0 a (exT a oe) b = none := n
    rw [upd_ne (b0 b o e)] at n ⊢
    exact I.base.free b o e n x
  · have e : upd X.H_0 a (exT a oe) b = some (.tup xs) := e
    by_cases q : b = a
    · rw [q, upd_same] at e; cases e
    · rw [upd_ne q] at e ⊢
      exact I.base.tups b xs e
  · have e : upd X.H_0 a (exT a oe) b = some (.frz o u) := e
    by_cases q : b = a
    · rw [q] at e ⊢
      rw [upd_same] at e ⊢
      exact e
    · rw [upd_ne q] at e ⊢
      exact I.base.frzs b o u e
  · have e : upd X.H_0 a (exT a oe) b = some (.tbl ps) := e
    by_cases q : b = a
    · rw [q, upd_same] at e; cases e
    · rw [upd_ne q] at e
      obtain ⟨more, z⟩ := I.base.tbls b ps e
      exact ⟨more, by rw [upd_ne q]; exact z⟩
  · rw [upd_ne (Ne.symm nL)]
    exact I.free
  · have cn : c ≠ a := fun q => by
      obtain ⟨v, oc, hc, hd⟩ := I.cell x c e
      rw [q, ha] at hc
      cases hc
      exact nC _ hd
    rw [upd_ne cn]
    exact I.freeC x c e
  · have h' : p ∈ X.pn ++ pins := by simpa using h
    obtain ⟨h1, h2, h3, h4, h5⟩ := I.pin p (List.mem_append_left _ (List.mem_cons_of_mem _ h'))
    exact ⟨h1, by rw [upd_ne (hp p h')]; exact h2, h3, h4, h5⟩
  · by_cases q : b = a
    · subst q
      rw [upd_same] at e
      cases e
      exact ⟨ha, _, ha⟩
    · rw [upd_ne q] at e
      refine (I.hok b o e).stay (fun _ _ _ z => z) (fun c z => ?_) fun c xs z => ?_
      · rw [upd_ne (hne c _ z)]
        exact z
      · rw [upd_ne (hne c _ z)]
        exact z
/-- and back -/
theorem untrack {pn' : List (Addr × Obj)} (I : Inv (suiteH X a oe pn') [] σ H s) (ok : X.Ok) (ha : H a = some (exT a oe)) (n0 : X.s_0.heap.get? a = none) (hz : (∀ xs, X.H_0 a ≠ some (.tup xs)) ∧ (∀ o u, X.H_0 a ≠ some (.frz o u)) ∧ ∀ ps, X.H_0 a ≠ some (.tbl ps)) (hp : ∀ p ∈ X.pn ++ pins, p ∈ pn') :
    Inv X pins σ (del H a) s := by
  have b0 : ∀ b, b ≠ a → del H a b = H b := fun b h => del_ne h
  have ba : ∀ b o, X.s_0.heap.get? b = some o → b ≠ a := fun b o e q => by rw [q, n0] at e; cases e
  have un : ∀ b, b ≠ a → upd X.H_0 a (exT a oe) b = X.H_0 b := fun b h => upd_ne h
  refine ⟨ok, I.os, I.bare, ⟨fun b o e n => I.base.keep b o e ((un b (ba b o e)).trans n), fun b o e n => I.base.slot b o e ((un b (ba b o e)).trans n), fun b o e n x => ?_, I.base.there, fun b xs e => ?_, fun b o u e => ?_, fun b ps e => ?_⟩, I.loc, I.cell, ?_, fun x c e => ?_, fun p h => ?_, fun b o e => ?_, I.len⟩
  · rw [b0 b (ba b o e)]
    exact I.base.free b o e ((un b (ba b o e)).trans n) x
  · have q : b ≠ a := fun q => hz.1 xs (q ▸ e)
    rw [b0 b q]
    exact I.base.tups b xs ((un b q).trans e)
  · have q : b ≠ a := fun q => hz.2.1 o u (q ▸ e)
    rw [b0 b q]
    exact I.base.frzs b o u ((un b q).trans e)
  · have q : b ≠ a := fun q => hz.2.2 ps (q ▸ e)
    rw [b0 b q]
    exact I.base.tbls b ps ((un b q).trans e)
  · by_cases q : X.env.locals = a
    · rw [q]; exact del_same
    · rw [b0 _ q]; exact I.free
  · by_cases q : c = a
    · rw [q]; exact del_same
    · rw [b0 _ q]; exact I.freeC x c e
  · obtain ⟨h1, h2, h3, h4, h5⟩ := I.pin p (List.mem_append_left _ (hp p h))
    refine ⟨h1, ?_, h3, h4, h5⟩
    by_cases q : p.1 = a
    · rw [q]; exact del_same
    · rw [b0 _ q]; exact h2
  · by_cases q : b = a
    · rw [q, del_same] at e; cases e
    · rw [b0 b q] at e
      refine (I.hok b o e).stay (fun _ _ _ z => z) (fun c z => ?_) fun c xs z => ?_
      · rw [b0 c (at_ne ha z exT_own)]; exact z
      · rw [b0 c (at_ne ha z exT_tup)]; exact z
theorem no_kinds (I : Inv X pins σ H s) (na : H a = none) : (∀ xs, X.H_0 a ≠ some (.tup xs)) ∧ (∀ o u, X.H_0 a ≠ some (.frz o u)) ∧ ∀ ps, X.H_0 a ≠ some (.tbl ps) := by
  refine ⟨fun xs e => ?_, fun o u e => ?_, fun ps e => ?_⟩
  · have := I.base.tups a xs e
    rw [na] at this; cases this
  · have := I.base.frzs a o u e
    rw [na] at this; cases this
  · obtain ⟨more, this⟩ := I.base.tbls a ps e
    rw [na] at this; cases this
end
section
variable {X : Cx} {x n : Str} {c : Value} {i : Nat} {body suite : List Stmt} {b₀ : Stmt} {np pos pos' : Pos} {tb : WX → TS} {ts : TS} {Wout : WX}
theorem ps_try_trk (hstk : X.stack = X.env :: X.outer) (hfrm : X.env.frame = some X.env.locals) (hnd : X.N.Nodup) (hix : X.N[i]? = some n) (hkd : X.env.kindOf n = some .local) (hnm : Names X x c) (hex : X.ex = []) (tk : Takes X Wout)
    (hbody : ∀ (W : WX) (pn : List (Addr × Obj)) (xe : Value → Shared → Prop), Takes (X.tr pn xe) W → PassesOwn (model X.prog X.w) X.A X.env xe → PSs (X.tr pn xe) body (tb W))
    (hsuite : ∀ (a : Addr) (oe : Obj) (pn : List (Addr × Obj)), HotO oe → PSs (suiteH X a oe pn) (b₀ :: suite) ts) :
    PS X (.Try body [.ExceptHandler (some (.Name x np)) (some n) (b₀ :: suite) pos'] [] [] pos) (fun D σ H => tb (wTrk X.K c i ts Wout D) D σ H) := by
  refine ⟨fun pins s σ H D I hh => ?_⟩
  have okX := I.ok
  have hfrs : X.A.frames = some (X.env :: X.outer) := by rw [okX.frames, hstk]
  have hlc : Loc X.env.scope n := .inl hkd
  refine wpAny_Try_except ?_
  let xe' : Value → Shared → Prop := fun e t₁ => wpAny (model X.prog X.w) X.A (noteFrame e X.env) (fun _ t₂ => wpAny (model X.prog X.w) X.A (setFlight e none) (fun _ t₃ =>
    wpAny (model X.prog X.w) X.A (handleBy e X.env [.ExceptHandler (some (.Name x np)) (some n) (b₀ :: suite) pos']) (SP X pins D) X.xe t₃) X.xe t₂) X.xe t₁
  have hpass : PassesOwn (model X.prog X.w) X.A X.env xe' := PassesOwn.looking
  have htake : Takes (X.tr (X.pn ++ pins) xe') (wTrk X.K c i ts Wout D) := by
    rintro u s' ⟨a, B, sI, pins', τ, G, cls, d, rfl, J', nb, up, sky, na, os, ag, b, hb1, hyes, hno⟩
    have J : Inv X pins τ G sI := J'.ofTry okX
    have sky' : Sky B (X.env :: X.outer) a (L2N.Zn cls d) X.env.locals s'.heap := by rw [← hstk]; exact sky
    show wpAny (model X.prog X.w) X.A (noteFrame (.ref a) X.env) _ _ _
    refine L2N.Sky.land L2N.Zn.steady hfrs hfrm sky' fun h3 fl3 up3 => ?_
    have J3 : Inv X pins τ G { s' with heap := h3 } := J.landed nb fl3.1 (up.trans up3) os ag
    obtain ⟨oe3, vs3, he3, hz3, hd3⟩ := fl3.there
    have nfr : a ∉ frs (X.env :: X.outer) := fun hm => by
      obtain ⟨_, o', e', hnf⟩ := fl3.2.2.1.mem hm
      rw [he3] at e'; cases e'
      exact hnf _ hd3
    have nI : sI.heap.get? a = none := by
      cases q : sI.heap.get? a with
      | none => rfl
      | some o =>
        have := nb a o q (by rw [hstk]; exact nfr)
        rw [fl3.2.1] at this; cases this
    have n0 : X.s_0.heap.get? a = none := by
      cases q : X.s_0.heap.get? a with
      | none => rfl
      | some o =>
        obtain ⟨o', z⟩ := J.base.there a o q (by rw [hex]; simp)
        rw [nI] at z; cases z
    have nL : a ≠ X.env.locals := fun z => nfr (List.mem_filterMap.mpr ⟨X.env, List.mem_cons_self, by rw [hfrm, z]⟩)
    have nF : a ∉ X.fs := fun hm => by
      obtain ⟨e, he, q⟩ := List.mem_filterMap.mp hm
      exact nfr (List.mem_filterMap.mpr ⟨e, List.mem_cons_of_mem _ he, q⟩)
    have npin : ∀ p ∈ X.pn ++ pins, p.1 ≠ a := fun p hp q => by
      have := (J.pin p hp).1
      rw [q, nI] at this; cases this
    have S3 := J3.suite he3 hd3 na nL nF
    refine wpAny_handleBy_cons (codeAny_handlers_test ?_) (by intro q; cases q)
    have LT : PySem.W.Looks (model X.prog X.w) h3 (typeOf (.ref a)) cls := fun A Q E s k q => wpAny_typeOf_ref (k _ _ he3) (by rw [hz3.1]; exact q)
    have LM := PySem.W.exm_one (M := model X.prog X.w) (J3.kIn) LT hb1
    have test : ∀ {Q : Value → Shared → Prop} {E : Value → Shared → Prop}, Q c { s' with heap := h3 } → wpAny (model X.prog X.w) (X.A.mark (some (.ref a))) (eval (.Name x np) X.env) Q E { s' with heap := h3 } := fun {Q E} q => by
      obtain ⟨hg, hdbg, hm | ⟨hm, hv, hnn⟩⟩ := hnm
      · exact ld_glob (X := X.suite a ((a, oe3) :: (X.pn ++ pins))) S3 hg hm q hdbg
      · exact ld_blt (X := X.suite a ((a, oe3) :: (X.pn ++ pins))) S3 hg hm hv q hnn hdbg
    refine test (LM.here ?_)
    cases b with
    | true =>
      refine codeAny_handlers_suite_as ?_
      refine HandSPX.lands_againZ fl3 fun h4 fl4 up4 => ?_
      have J4 : Inv X pins τ G { s' with heap := h4 } := J.landed nb fl4.1 ((up.trans up3).trans up4) os ag
      obtain ⟨oe4, vs4, he4, hz4, hd4⟩ := fl4.there
      have nk := no_kinds J4 na
      have S4 := J4.suite he4 hd4 na nL nF
      refine store_ok (X := X.suite a ((a, oe4) :: (X.pn ++ pins))) (v := .ref a) S4 hnd hix hlc rfl (fun s5 S5 => ?_) (.inr hkd)
      have T5 := track S5 n0 hex ⟨_, hd4⟩ npin
      refine wpAny_mono ((hsuite a oe4 (X.pn ++ pins) ⟨_, hd4, hz4.2.2 _ hd4⟩).run [] s5 _ _ _ T5 (hyes rfl a oe4 na hz4 ⟨_, hd4⟩)) (fun f s6 hsp => ?_) (fun _ _ z => False.elim z)
      have end_ : ∀ {σ6 : L2.St} {H6 : Hp} {Q : Shared → Prop}, Inv (suiteH X a oe4 (X.pn ++ pins)) [] σ6 H6 s6 → H6 a = some (exT a oe4) → (∀ s7, Inv X pins (σ6.set i none) (del H6 a) s7 → Q s7) →
          wpAny (model X.prog X.w) X.A (do bindName X.env n .none; unbindBehindTheSuite X.env n pos') (fun _ s7 => Q s7) X.xe s6 := fun {σ6 H6 Q} S6 ha6 hq => gone_ok (untrack S6 okX ha6 n0 nk fun p hp => hp) hnd hix hkd hq
      cases f with
      | next =>
        obtain ⟨σ6, H6, S6, ha6, q6⟩ := hsp
        exact end_ S6 ha6 fun s7 J7 => ⟨_, _, J7, q6⟩
      | brk =>
        obtain ⟨σ6, H6, S6, ha6, q6⟩ := hsp
        exact end_ S6 ha6 fun s7 J7 => ⟨_, _, J7, q6⟩
      | cont =>
        obtain ⟨σ6, H6, S6, ha6, q6⟩ := hsp
        exact end_ S6 ha6 fun s7 J7 => ⟨_, _, J7, q6⟩
      | ret u =>
        obtain ⟨v6, σ6, H6, S6, r6, ha6, q6⟩ := hsp
        exact end_ S6 ha6 fun s7 J7 => ⟨_, _, _, J7, r6, q6⟩
    | false =>
      show wpAny _ X.A (handleBy (.ref a) X.env []) _ _ _
      refine wpAny_handleBy_nil ?_
      obtain ⟨k1, k2, k3, oe, vs, T, oT, ts', he, hz, hd, h1, hr⟩ := id fl3
      unfold PySem.passOn
      refine wpAny_bind (wpAny_field he hd h1 ?_)
      rw [if_neg (show ¬ ((Value.ref T == Value.none) = true) from by simp)]
      have fin : wpAny (model X.prog X.w) X.A (setFlight (.ref a) X.env.frame) (fun _ s4 => wpAny (model X.prog X.w) X.A (throw (.ref a) : Sem Flow) (SP X pins D) X.xe s4) X.xe { s' with heap := h3 } := by
        rw [hfrm]
        refine HandSPX.setFlight_upZ fl3 fun h4 hh4 up4 => wpAny_throw (tk _ _ ?_)
        exact ⟨a, B, sI, pins, τ, G, cls, d, rfl, J, nb, (up.trans up3).trans up4, .inr (.inr (by rw [hstk]; exact hh4)), na, os, ag, hno rfl⟩
      first
        | exact wpAny_bind (wpAny_pure (wpAny_bind fin))
        | exact wpAny_bind fin
  refine wpAny_mono ((hbody _ (X.pn ++ pins) xe' htake hpass).run [] s σ H D (I.toTry _) hh) (fun f s1 hsp => ?_) (fun e s1 he => he)
  cases f with
  | next =>
    obtain ⟨τ, G, J', q⟩ := hsp
    exact wpAny_execs_nil ⟨τ, G, J'.ofTry okX, q⟩
  | brk =>
    obtain ⟨τ, G, J', q⟩ := hsp
    exact ⟨τ, G, J'.ofTry okX, q⟩
  | cont =>
    obtain ⟨τ, G, J', q⟩ := hsp
    exact ⟨τ, G, J'.ofTry okX, q⟩
  | ret u =>
    obtain ⟨v, τ, G, J', r, q⟩ := hsp
    exact ⟨v, τ, G, J'.ofTry okX, r, q⟩
end
end Mi
end
section
set_option Elab.async false
set_option linter.all false
set_option maxRecDepth 100000
set_option maxHeartbeats 1000000
open PySem PySem.Spec PyProof.Rows L2
namespace Mi
/-! ## raise -/
def sRaise (x f : Str) (m : MA) : MS := fun env h => (m env h).bindS fun ds env h => match ds with
  | [d] => .err ⟨x, [f], [d]⟩ env h
  | _ => .no
section
variable {F : Fr} {e a b c : Expr} {es : List Expr} {pos : Pos} {X : Cx} {W : WX} {Hk : Hp} {gk g : Gh} {σ : L2.St} {env : Ev} {h : MH} {H : Hp}
theorem SA.goS {es : List Expr} {m : MA} (s : SA F es m) (gd : Good F X) (tk : Takes X W) (at_ : At X.K X.w X.mg Hk gk σ env h g H) {f : List D → Ev → MH → Fl} {Dn : Ends} {Q : List V → Hp → Prop} (p : postS X.K X.w X.mg W Hk gk g H ((m env h).bindS f) Dn)
    (k : ∀ ds env1 h1 g1 H1 xs, Step g H g1 H1 → At X.K X.w X.mg Hk gk σ env1 h1 g1 H1 → Reps X.K X.w g1 H1 xs ds → postS X.K X.w X.mg W Hk gk g1 H1 (f ds env1 h1) Dn → Q xs H1) : uA X es σ H Q := by
  refine s.run X W gd tk Hk gk σ env h g H Q at_ ((postS.bind p).imp fun ds env1 h1 g1 H1 st a1 q => ?_)
  exact fun xs rs => k ds env1 h1 g1 H1 xs st a1 rs q
theorem ss_raise {x f : Str} {m : MA} {p pos2 : Pos} {C fI cc cda : Addr} (T : XT F.P F.K F.mg x f C fI cc cda) (ha : SA F [a] m) (hcm : F.cm = true := by rfl) (hg : F.sc.names.lookup x = some .globalImplicit := by rfl) (hdb : (x == ("__debug__" : Str)) = false := by decide)
    (he : ∀ env, starEach (a :: []) env = (false, eval a env) :: starEach [] env := by intros; rfl) (hpl : ∀ env, (backTo pos (starEach [] env)).any (·.1) = false := by intros; rfl) :
    SS F (.Raise (some (.Call (.Name x p) [a] [] pos)) none pos2) (sRaise x f m) := fun X W gd tk Hk gk σ env h g H Dn at_ p => by
  have T' : XT X.prog X.K X.mg x f C fI cc cda := by rw [gd.prog, gd.K, gd.mg]; exact T
  refine uS_of (L2N.ps_raise (gd.calm hcm) tk (pmk_x T' (gd.room hcm) pa_u (by show X.env.scope.names.lookup x = _; rw [gd.sc]; exact hg) hdb (he _) (hpl _))) ?_
  show uA X [a] σ H fun vs H1 => ∃ v, vs = [v] ∧ ∀ d, H1 d = none → W (.ref C) (some d) σ (upd H1 d (.xd [(f, v)]))
  refine ha.goS gd.toGood tk at_ p fun ds env1 h1 g1 H1 xs s1 a1 rs p1 => ?_
  cases ds with
  | nil => exact p1.elim
  | cons d ds =>
    cases ds with
    | cons d2 ds => exact p1.elim
    | nil =>
      rw [Reps.cons_iff] at rs
      obtain ⟨v, r, rfl, r1, r2⟩ := rs
      rw [Reps.nil_iff] at r2
      subst r2
      refine ⟨v, rfl, fun dx hn => ?_⟩
      have gr := grow_fr (o := .xd [(f, v)]) a1.hat hn
      refine p1 σ _ _ (.ref C) (some dx) (gr.fstep a1.hat).toStep (gr.at a1) ⟨T'.gC, dx, [v], rfl, .inr rfl, upd_same, Reps.cons (r1.step (gr.fstep a1.hat).toStep) Reps.nil⟩
end
/-! ## the heap without the exception -/
def Gh.un (g : Gh) (a : Addr) : Gh := ⟨fun b => g.Fz b ∧ b ≠ a, g.ρ, g.top⟩
def wipeX (env : Ev) : Ev := env.map fun s => match s with
  | .exc _ => .un
  | s => s
section
variable {K : PySem.W.Frag} {w : World} {mg : Str → Option Value} {W : WX} {Hk : Hp} {gk : Gh} {σ : L2.St} {g g1 g' : Gh} {H H1 H' : Hp} {env : Ev} {h h' : MH} {a : Addr} {oe : Obj}
theorem rd_del {b : Addr} {u : HO} (ha : H a = some (exT a oe)) (hu : u ≠ exT a oe) (hu2 : u ≠ .own a) (r : Rd H b u) : b ≠ a ∧ Rd (del H a) b u := by
  have hb : b ≠ a := fun q => by
    subst q
    rcases r with r | ⟨o, r⟩
    · rw [ha] at r; cases r; exact hu rfl
    · rw [ha] at r; cases r; exact hu2 rfl
  refine ⟨hb, ?_⟩
  unfold Rd at *
  rw [del_ne hb]
  exact r
mutual
theorem Rep.del (ha : H a = some (exT a oe)) : ∀ (d : D) {x : V}, Rep K w g H x d → Rep K w (g.un a) (L2.del H a) x d
  | .non, _, h => by simpa [Rep] using h
  | .bl _, _, h => by simpa [Rep] using h
  | .int _, _, h => by simpa [Rep] using h
  | .str _, _, h => by simpa [Rep] using h
  | .tup ds, _, h => by
    simp only [Rep] at h ⊢
    obtain ⟨b, vs, e, t, r⟩ := h
    refine ⟨b, vs, e, ?_, Reps.del ha ds r⟩
    rcases t with ⟨f, t⟩ | t
    · obtain ⟨n, q⟩ := rd_del (u := .tup vs) ha (fun z => nomatch z) (fun z => nomatch z) t
      exact .inl ⟨⟨f, n⟩, q⟩
    · exact .inr t
  | .lst ds, _, h => by
    simp only [Rep] at h ⊢
    obtain ⟨b, vs, e, t, r⟩ := h
    refine ⟨b, vs, e, ?_, Reps.del ha ds r⟩
    rcases t with ⟨f, t⟩ | t
    · obtain ⟨n, q⟩ := rd_del (u := .lst vs) ha (fun z => nomatch z) (fun z => nomatch z) t
      exact .inl ⟨⟨f, n⟩, q⟩
    · exact .inr t
  | .loc n, _, h => by
    simp only [Rep] at h ⊢
    exact h
  | .dct ks ds, _, h => by
    simp only [Rep] at h ⊢
    obtain ⟨b, vs, e, t, r⟩ := h
    refine ⟨b, vs, e, ?_, Reps.del ha ds r⟩
    rcases t with t | ⟨f, t⟩
    · exact .inl t
    · have hb : b ≠ a := fun q => by rw [q, ha] at t; cases t
      exact .inr ⟨⟨f, hb⟩, by rw [del_ne hb]; exact t⟩
theorem Reps.del (ha : H a = some (exT a oe)) : ∀ (ds : List D) {vs : List V}, Reps K w g H vs ds → Reps K w (g.un a) (L2.del H a) vs ds
  | [], _, h => by simpa [Reps] using h
  | d :: ds, _, h => by
    simp only [Reps] at h ⊢
    obtain ⟨v, r, e, h1, h2⟩ := h
    exact ⟨v, r, e, Rep.del ha d h1, Reps.del ha ds h2⟩
end
theorem wipeX_length (env : Ev) : (wipeX env).length = env.length := by simp [wipeX]
theorem wipeX_get {env : Ev} {i : Nat} {s : Sl} (e : (wipeX env)[i]? = some s) : (∀ x, s ≠ .exc x) ∧ (s = .un ∨ env[i]? = some s) := by
  unfold wipeX at e
  rw [List.getElem?_map, Option.map_eq_some_iff] at e
  obtain ⟨t, e1, e2⟩ := e
  cases t <;> simp at e2 <;> subst e2 <;> simp [e1]
/-- the state behind the suite -/
theorem At.del (aS : At K w mg Hk gk σ env h g H) (ha : H a = some (exT a oe)) (fa : g.Fz a) (n0 : ¬ gk.Fz a) (k0 : Hk a = none) (i : Nat) : At K w mg Hk gk (σ.set i none) (wipeX (env.set i .un)) h (g.un a) (L2.del H a) where
  hat := by
    refine ⟨aS.hat.top, fun b f => ?_, fun n o e => ?_, aS.hat.inj⟩
    · rw [del_ne f.2]; exact aS.hat.fz b f.1
    · obtain ⟨h1, h2⟩ := aS.hat.obj n o e
      refine ⟨?_, fun f => h2 f.1⟩
      cases o with
      | lst ds =>
        obtain ⟨vs, h3, h4⟩ := h1
        have hn : g.ρ n ≠ a := fun q => by rw [q, ha] at h3; cases h3
        exact ⟨vs, by show L2.del H a (g.ρ n) = _; rw [del_ne hn]; exact h3, Reps.del ha ds h4⟩
  fs := by
    have f := aS.fs
    refine ⟨⟨fun b z => ⟨f.fz b z, fun q => by rw [q] at z; exact n0 z⟩, fun b z => ?_, f.top, f.ρ⟩, fun b o e n => ?_, f.newρ, fun b z => f.newF b z.1⟩
    · rw [del_ne (fun q => by rw [q] at z; exact n0 z)]; exact f.st b z
    · rw [del_ne (fun q => by rw [q, k0] at e; cases e)]; exact f.keep b o e n
  len := by rw [wipeX_length, List.length_set, List.length_set]; exact aS.len
  val := fun j d e => by
    rcases (wipeX_get e).2 with q | q
    · cases q
    · rw [List.getElem?_set] at q
      by_cases hij : i = j
      · rw [if_pos hij] at q; split at q <;> cases q
      · rw [if_neg hij] at q
        obtain ⟨x, h1, h2⟩ := aS.val j d q
        exact ⟨x, by rw [List.getElem?_set_ne hij]; exact h1, Rep.del ha d h2⟩
  own := fun j d e => by
    rcases (wipeX_get e).2 with q | q
    · cases q
    · rw [List.getElem?_set] at q
      by_cases hij : i = j
      · rw [if_pos hij] at q; split at q <;> cases q
      · rw [if_neg hij] at q
        obtain ⟨x, h1, h2⟩ := aS.own j d q
        obtain ⟨vs, h3, h4⟩ := h2.at_
        have hx : x ≠ a := fun q => by rw [q, ha] at h3; cases h3
        exact ⟨x, by rw [List.getElem?_set_ne hij]; exact h1, ⟨vs, by rw [del_ne hx]; exact h3, Reps.del ha d h4⟩, fun f => h2.nf f.1, h2.nρ, h2.nk⟩
  dist := fun j k ds es b e1 e2 e3 e4 => by
    have fix : ∀ (m : Nat) (dd : List D), (wipeX (env.set i .un))[m]? = some (.own dd) → i ≠ m ∧ env[m]? = some (.own dd) := fun m dd e => by
      rcases (wipeX_get e).2 with q | q
      · cases q
      · rw [List.getElem?_set] at q
        by_cases hm : i = m
        · rw [if_pos hm] at q; split at q <;> cases q
        · rw [if_neg hm] at q; exact ⟨hm, q⟩
    obtain ⟨f1, f2⟩ := fix j ds e1
    obtain ⟨f3, f4⟩ := fix k es e2
    rw [List.getElem?_set_ne f1] at e3
    rw [List.getElem?_set_ne f3] at e4
    exact aS.dist j k ds es b f2 f4 e3 e4
  exc := fun j x e => absurd rfl ((wipeX_get e).1 x)
theorem RR.del {x : V} {r : R} (aS : At K w mg Hk gk σ env h g H) (ha : H a = some (exT a oe)) (i : Nat) (q : RR K w Hk σ env g H x r) : RR K w Hk (σ.set i none) (wipeX (env.set i .un)) (g.un a) (L2.del H a) x r := by
  cases r with
  | v d => exact Rep.del ha d q
  | own ds =>
    obtain ⟨p, e, o, n⟩ := q
    obtain ⟨vs, h3, h4⟩ := o.at_
    have hx : p ≠ a := fun q => by rw [q, ha] at h3; cases h3
    refine ⟨p, e, ⟨⟨vs, by rw [del_ne hx]; exact h3, Reps.del ha ds h4⟩, fun f => o.nf f.1, o.nρ, o.nk⟩, fun j es e2 z => ?_⟩
    rcases (wipeX_get e2).2 with q | q
    · cases q
    · rw [List.getElem?_set] at q
      by_cases hij : i = j
      · rw [if_pos hij] at q; split at q <;> cases q
      · rw [if_neg hij] at q
        rw [List.getElem?_set_ne hij] at z
        exact n j es q z
/-- a slot gets the exception -/
theorem At.setx (aS : At K w mg Hk gk σ env h g H) {x : Xc} (i : Nat) (q : ExAt K w mg g H a x) : At K w mg Hk gk (σ.set i (some (.ref a))) (env.set i (.exc x)) h g H where
  hat := aS.hat
  fs := aS.fs
  len := by rw [List.length_set, List.length_set]; exact aS.len
  val := fun j d e => by
    rw [List.getElem?_set] at e
    by_cases hij : i = j
    · rw [if_pos hij] at e; split at e <;> cases e
    · rw [if_neg hij] at e
      rw [List.getElem?_set_ne hij]
      exact aS.val j d e
  own := fun j d e => by
    rw [List.getElem?_set] at e
    by_cases hij : i = j
    · rw [if_pos hij] at e; split at e <;> cases e
    · rw [if_neg hij] at e
      rw [List.getElem?_set_ne hij]
      exact aS.own j d e
  dist := fun j k ds es b e1 e2 e3 e4 => by
    rw [List.getElem?_set] at e1 e2
    by_cases h1 : i = j
    · rw [if_pos h1] at e1; split at e1 <;> cases e1
    · by_cases h2 : i = k
      · rw [if_pos h2] at e2; split at e2 <;> cases e2
      · rw [if_neg h1] at e1
        rw [if_neg h2] at e2
        rw [List.getElem?_set_ne h1] at e3
        rw [List.getElem?_set_ne h2] at e4
        exact aS.dist j k ds es b e1 e2 e3 e4
  exc := fun j y e => by
    rw [List.getElem?_set] at e
    by_cases hij : i = j
    · subst hij
      rw [if_pos rfl] at e
      split at e
      · rename_i hi
        cases e
        exact ⟨a, by rw [List.getElem?_set_self (by rw [← aS.len]; exact hi)], q⟩
      · cases e
    · rw [if_neg hij] at e
      rw [List.getElem?_set_ne hij]
      exact aS.exc j y e
end
end Mi
end
section
set_option Elab.async false
set_option linter.all false
set_option maxRecDepth 100000
set_option maxHeartbeats 1000000
open PySem PySem.Spec PyProof.Rows L2
namespace Mi
/-! ## try: .. except c as n: .. -/
def sTry (subs others : List Str) (mb : MS) (i : Nat) (ms : MS) : MS := fun env h => match mb env h with
  | .err x e h' => if x.cls ∈ subs then (match ms (e.set i (.exc x)) h' with
      | .nx e2 h2 => .nx (wipeX (e2.set i .un)) h2
      | .rt r e2 h2 => .rt r (wipeX (e2.set i .un)) h2
      | .bk e2 h2 => .bk (wipeX (e2.set i .un)) h2
      | .ct e2 h2 => .ct (wipeX (e2.set i .un)) h2
      | _ => .no)
    else if x.cls ∈ others then .err x e h' else .no
  | r => r
/-- the frame of a suite -/
def Fr.susp (F : Fr) : Fr := { F with cm := false }
section
variable {F : Fr} {X : Cx} {W : WX} {Hk : Hp} {gk g : Gh} {σ : L2.St} {env : Ev} {h : MH} {H : Hp}
theorem good_tr (gd : GoodS F X) (pn : List (Addr × Obj)) (xe : Value → Shared → Prop) (po : PassesOwn (model X.prog X.w) X.A X.env xe) : GoodS F (X.tr pn xe) where
  prog := gd.prog
  w := gd.w
  K := gd.K
  mg := gd.mg
  base := gd.base
  N := gd.N
  nd := gd.nd
  sc := gd.sc
  kf := gd.kf
  dp := gd.dp
  un := gd.un
  hdn := gd.hdn
  gds := gd.gds
  calm := gd.calm
  fn := gd.fn
  hot := gd.hot
  po := fun _ => po
  stk := gd.stk
  frm := gd.frm
  nex := gd.nex
theorem good_susp (gd : GoodS F X) (a : Addr) (oe : Obj) (ho : HotO oe) (pn : List (Addr × Obj)) : GoodS F.susp (suiteH X a oe pn) where
  prog := gd.prog
  w := gd.w
  K := gd.K
  mg := gd.mg
  base := gd.base
  N := gd.N
  nd := gd.nd
  sc := gd.sc
  kf := gd.kf
  dp := gd.dp
  un := gd.un
  hdn := fun z => nomatch z
  gds := gd.gds
  calm := fun z => nomatch z
  fn := gd.fn
  hot := fun _ => ⟨a, oe, rfl, upd_same, ho⟩
  po := fun z => nomatch z
  stk := gd.stk
  frm := gd.frm
  nex := gd.nex
/-- from the heap with the exception to the heap without -/
theorem step_del {g' g2 : Gh} {H' H2 : Hp} {a : Addr} {oe : Obj} (s1 : Step g H g' H') (hat : HAt X.K X.w h g' H') (na : H' a = none) (s2 : Step (g'.fr a) (upd H' a (exT a oe)) g2 H2) : Step g H (g2.un a) (L2.del H2 a) := by
  have n0 : ¬ g'.Fz a := fun f => hat.fz a f na
  refine ⟨fun b f => ⟨s2.fz b (.inl (s1.fz b f)), fun q => n0 (by rw [← q]; exact s1.fz b f)⟩, fun b f => ?_, Nat.le_trans s1.top s2.top, fun n hn => ?_⟩
  · have hb : b ≠ a := fun q => n0 (by rw [← q]; exact s1.fz b f)
    rw [del_ne hb, s2.st b (.inl (s1.fz b f)), upd_ne hb]
    exact s1.st b f
  · show g2.ρ n = g.ρ n
    rw [s2.ρ n (Nat.lt_of_lt_of_le hn s1.top)]
    exact s1.ρ n hn
theorem ss_try {cx n : Str} {c : Value} {i : Nat} {subs others : List Str} {mb ms : MS} {body suite : List Stmt} {b₀ : Stmt} {np pos pos' : Pos} (hb : SSs F body mb) (hs : SSs F.susp (b₀ :: suite) ms)
    (hc : F.mg cx = some c) (hsub : ∀ nm ∈ subs, ∃ C, F.mg nm = some (.ref C) ∧ PySem.W.exmOne F.K (.ref C) c = some true) (hoth : ∀ nm ∈ others, ∃ C, F.mg nm = some (.ref C) ∧ PySem.W.exmOne F.K (.ref C) c = some false) (hcm : F.cm = true := by rfl)
    (hN : F.N[i]? = some n := by rfl) (hl : F.sc.names.lookup n = some .local := by rfl) (hg : F.sc.names.lookup cx = some .globalImplicit := by rfl) (hdb : (cx == ("__debug__" : Str)) = false := by decide) :
    SS F (.Try body [.ExceptHandler (some (.Name cx np)) (some n) (b₀ :: suite) pos'] [] [] pos) (sTry subs others mb i ms) := fun X W gd tk Hk gk σ env h g H Dn at_ p => by
  have nm : Names X cx c := ⟨by show X.env.scope.names.lookup cx = _; rw [gd.sc]; exact hg, hdb, .inl (by rw [gd.mg]; exact hc)⟩
  refine uS_of (ps_try_trk (i := i) (tb := fun W D σ H => ∀ pn xe, Takes (X.tr pn xe) W → PassesOwn (model X.prog X.w) X.A X.env xe → uSs (X.tr pn xe) body D σ H)
    (ts := fun D σ H => ∀ a oe pn, HotO oe → uSs (suiteH X a oe pn) (b₀ :: suite) D σ H) gd.stk gd.frm gd.nd (by rw [gd.N]; exact hN) (by show X.env.scope.names.lookup n = _; rw [gd.sc]; exact hl) nm gd.nex tk
    (fun W pn xe tkW po => ⟨fun pins s σ H D I q => q pn xe tkW po pins s I⟩) (fun a oe pn ho => ⟨fun pins s σ H D I q => q a oe pn ho pins s I⟩)) ?_
  intro pn xe tkW po
  refine hb (X.tr pn xe) _ (good_tr gd pn xe po) tkW Hk gk σ env h g H Dn at_ ?_
  unfold sTry at p
  cases eb : mb env h with
  | nx e h' => rw [eb] at p; exact p
  | rt r e h' => rw [eb] at p; exact p
  | bk e h' => rw [eb] at p; exact p
  | ct e h' => rw [eb] at p; exact p
  | no => rw [eb] at p; exact p
  | err x e h' =>
    rw [eb] at p
    dsimp only at p
    intro σ' g' H' cls d s1 a1 xr
    obtain ⟨hm, dx, vs, rfl, fdx, hdx, rs⟩ := xr
    have hm' : F.mg x.cls = some cls := by rw [← gd.mg]; exact hm
    have hK : (X.tr pn xe).K = F.K := gd.K
    by_cases c1 : x.cls ∈ subs
    · rw [if_pos c1] at p
      obtain ⟨C, c3, c4⟩ := hsub _ c1
      rw [hm'] at c3
      cases c3
      refine ⟨true, by show PySem.W.exmOne X.K (.ref C) c = _; rw [gd.K]; exact c4, fun _ a oe na hz hf => ?_, fun q => nomatch q⟩
      intro a2 oe2 pn2 ho2
      have n0 : ¬ g'.Fz a := fun f => a1.hat.fz a f na
      have gr := grow_fr (o := exT a oe) a1.hat na
      have a2' := gr.at a1
      have st := (gr.fstep a1.hat).toStep
      have k0 : Hk a = none := a1.fs.back a1.hat na
      have gk0 : ¬ gk.Fz a := fun f => n0 (a1.fs.fz a f)
      have ex : ExAt X.K X.w X.mg (g'.fr a) (upd H' a (exT a oe)) a x := ⟨.inr rfl, oe, C, dx, vs, upd_same, hz.1, hz.2.1, hf, hm, .inl fdx, by rw [upd_ne (fun q => by rw [q, na] at hdx; cases hdx)]; exact hdx, rs.step st⟩
      have a3 := a2'.setx i ex
      refine hs (suiteH X a2 oe2 pn2) (fun _ _ _ _ => False) (good_susp gd a2 oe2 ho2 pn2) takes0 Hk gk _ _ h' _ _ _ a3 ?_
      cases es : ms (e.set i (.exc x)) h' with
      | nx e2 h2 =>
        rw [es] at p
        intro σ2 g2 H2 s2 a4
        have h2a : H2 a = some (exT a oe) := by rw [s2.st a (.inr rfl)]; exact upd_same
        exact ⟨h2a, p _ _ _ (step_del s1 a1.hat na s2) (a4.del h2a (s2.fz a (.inr rfl)) gk0 k0 i)⟩
      | rt r e2 h2 =>
        rw [es] at p
        intro v σ2 g2 H2 s2 a4 rr
        have h2a : H2 a = some (exT a oe) := by rw [s2.st a (.inr rfl)]; exact upd_same
        exact ⟨h2a, p v _ _ _ (step_del s1 a1.hat na s2) (a4.del h2a (s2.fz a (.inr rfl)) gk0 k0 i) (RR.del a4 h2a i rr)⟩
      | bk e2 h2 =>
        rw [es] at p
        intro σ2 g2 H2 s2 a4
        have h2a : H2 a = some (exT a oe) := by rw [s2.st a (.inr rfl)]; exact upd_same
        exact ⟨h2a, p _ _ _ (step_del s1 a1.hat na s2) (a4.del h2a (s2.fz a (.inr rfl)) gk0 k0 i)⟩
      | ct e2 h2 =>
        rw [es] at p
        intro σ2 g2 H2 s2 a4
        have h2a : H2 a = some (exT a oe) := by rw [s2.st a (.inr rfl)]; exact upd_same
        exact ⟨h2a, p _ _ _ (step_del s1 a1.hat na s2) (a4.del h2a (s2.fz a (.inr rfl)) gk0 k0 i)⟩
      | err x2 e2 h2 => rw [es] at p; exact p.elim
      | no => rw [es] at p; exact p.elim
    · rw [if_neg c1] at p
      by_cases c2 : x.cls ∈ others
      · rw [if_pos c2] at p
        obtain ⟨C, c3, c4⟩ := hoth _ c2
        rw [hm'] at c3
        cases c3
        refine ⟨false, by show PySem.W.exmOne X.K (.ref C) c = _; rw [gd.K]; exact c4, fun q => (nomatch q), fun _ => ?_⟩
        exact p σ' g' H' (.ref C) (some dx) s1 a1 ⟨hm, dx, vs, rfl, fdx, hdx, rs⟩
      · rw [if_neg c2] at p
        exact p.elim
end
end Mi
end
section
set_option Elab.async false
set_option linter.all false
set_option maxRecDepth 100000
set_option maxHeartbeats 1000000
open PySem PySem.Spec PyProof.Rows L2
namespace Mi
/-! ## what a suite asks of its exception -/
structure XI (K : PySem.W.Frag) (D : Addr) : Prop where
  cl : (PySem.W.clsIn K D).isSome = true
  ga : PySem.W.findIn K (.ref D) "__getattribute__" = some (some (.builtin "BaseException.__getattribute__"))
  gg : PySem.W.findIn K (.ref D) "__getattr__" = some none
  bs : PySem.W.subIn K (.ref D) (.type "BaseException") = some true
  ha : PySem.W.findIn K (.ref D) "__class__" = some (some (.builtin "object.__class__"))
  hn : PySem.W.specialIn K (.builtin "object.__class__") "__get__" = some (some (.builtin "getset_descriptor.__get__"))
  ht : PySem.W.takesIn K (.builtin "object.__class__") = some true
  hm : PySem.W.mroIn K D (.type "object") = some true
  hd : PySem.W.hasDictIn K D = true
/-- the exception as an instance -/
def XInst (H : Hp) (a D dx : Addr) (fs : List (Str × V)) : Prop := ∃ oe : Obj, H a = some (exT a oe) ∧ oe.cls = .ref D ∧ oe.dict = some dx ∧ (∃ vs, oe.data = .fields vs) ∧ H dx = some (.xd fs)
theorem XInst.at {X : Cx} {pins : List (Addr × Obj)} {σ : L2.St} {H : Hp} {s : Shared} {a D dx : Addr} {fs : List (Str × V)} (x : XInst H a D dx fs) (I : Inv X pins σ H s) :
    ∃ (oe od : Obj) (mA : Str → Option Value), PySem.W.InstAt s.heap a oe D (some od) ∧ s.heap.Ns1 dx mA ∧ s.heap.get? dx = some od ∧ (∀ f, RelO (fs.lookup f) (mA f)) := by
  obtain ⟨oe, h1, h2, h3, ⟨vs, h4⟩, h5⟩ := x
  obtain ⟨hg, _⟩ := I.hok a _ h1
  obtain ⟨mA, hn, hr⟩ := I.hok dx _ h5
  obtain ⟨od, es, ep, ho, r⟩ := id hn
  obtain ⟨oc, odx, oda, osl⟩ := oe
  dsimp only at h2 h3 h4
  subst h2 h3 h4
  exact ⟨_, od, mA, ⟨hg, rfl, rfl, ho⟩, hn, ho, hr⟩
/-- isinstance(e, c) -/
def rXis (K : PySem.W.Frag) : List V → Hp → VK → Prop := fun xs H Q => ∃ (a D dx : Addr) (fs : List (Str × V)) (c : V) (cv : Value) (b : Bool), xs = [.ref a, c] ∧ XInst H a D dx fs ∧ XI K D ∧ (∀ u, RelV c u → u = cv) ∧ PySem.W.kitOne K (.ref D) cv = some b ∧ Q (.bl b) H
theorem call_xis {X : Cx} : CallR X (.builtin "isinstance") (rXis X.K) := by
  intro pins s σ H xs us Q I r z
  obtain ⟨a, D, dx, fs, c, cv, b, rfl, xi, C, hcv, e, q⟩ := z
  cases r with
  | cons rx rr =>
    cases rr with
    | cons rt rr =>
      cases rr
      cases rx
      have ec := hcv _ rt
      subst ec
      obtain ⟨oe, od, mA, J, _⟩ := xi.at I
      have kx : PySem.W.KitX X.K (.ref a) (.ref D) (fun h => PySem.W.InstAt h a oe D (some od)) := by
        refine PySem.W.kitx_exc C.cl C.ga C.gg C.bs C.ha C.hn C.ht C.hm
      exact PySem.W.kia_one kx I.kIn J e (fun z => nomatch z) fun tk => ⟨.bl b, H, I.kept (t' := tk) fun _ _ z => z, rfl, q⟩
def eXis (i : Nat) (subs others : List Str) : ME := fun env h => match env[i]? with
  | some (.exc x) => if x.cls ∈ subs then .ok (.v (.bl true)) env h else if x.cls ∈ others then .ok (.v (.bl false)) env h else .no
  | _ => .no
def eXf (i : Nat) (cls : List Str) (f : Str) : ME := fun env h => match env[i]? with
  | some (.exc x) => if x.cls ∈ cls then (match (x.ks.zip x.ds).lookup f with
      | some d => .ok (.v d) env h
      | none => .no) else .no
  | _ => .no
theorem ExAt.inst {K : PySem.W.Frag} {w : World} {mg : Str → Option Value} {g : Gh} {H : Hp} {a : Addr} {x : Xc} {D : Addr} (e : ExAt K w mg g H a x) (hm : mg x.cls = some (.ref D)) : ∃ dx vs, XInst H a D dx (x.ks.zip vs) ∧ Reps K w g H vs x.ds := by
  obtain ⟨f, oe, C, dx, vs, h1, h2, h3, h4, h5, h6, h7, h8⟩ := e
  rw [hm] at h5
  cases h5
  exact ⟨dx, vs, ⟨oe, h1, h2, h3, h4, h7⟩, h8⟩
section
variable {F : Fr} {pos : Pos}
theorem se_xis {n cx : Str} {i : Nat} {subs others : List Str} {C : Addr} {p p1 p2 : Pos} (hgi : F.sc.names.lookup ("isinstance" : Str) = some .globalImplicit := by rfl) (hmi : F.mg "isinstance" = none) (hc : F.mg cx = some (.ref C))
    (hsub : ∀ nm ∈ subs, ∃ D, F.mg nm = some (.ref D) ∧ XI F.K D ∧ PySem.W.kitOne F.K (.ref D) (.ref C) = some true) (hoth : ∀ nm ∈ others, ∃ D, F.mg nm = some (.ref D) ∧ XI F.K D ∧ PySem.W.kitOne F.K (.ref D) (.ref C) = some false)
    (hN : F.N[i]? = some n := by rfl) (hv : Vis F.sc n := by first | exact Or.inl rfl | exact Or.inr (Or.inl rfl) | exact Or.inr (Or.inr rfl)) (hg : F.sc.names.lookup cx = some .globalImplicit := by rfl)
    (hd1 : (n == ("__debug__" : Str)) = false := by decide) (hd2 : (n == ("__classdict__" : Str)) = false := by decide) (hd3 : (cx == ("__debug__" : Str)) = false := by decide)
    (he : ∀ env, starEach [.Name n p1, .Name cx p2] env = (false, eval (.Name n p1) env) :: starEach [.Name cx p2] env := by intros; rfl) (he2 : ∀ env, starEach [.Name cx p2] env = (false, eval (.Name cx p2) env) :: starEach [] env := by intros; rfl) (hpl : ∀ env, (backTo pos (starEach [.Name cx p2] env)).any (·.1) = false := by intros; rfl) :
    SE F (.Call (.Name "isinstance" p) [.Name n p1, .Name cx p2] [] pos) (eXis i subs others) := fun X W gd tk Hk gk σ env h g H Q at_ pp => by
  refine uE_of (pe_callB call_xis (by show X.env.scope.names.lookup _ = _; rw [gd.sc]; exact hgi) (by rw [gd.mg]; exact hmi) (by decide +kernel)
    (pa_cons (pe_var (i := i) (by rw [gd.N]; exact hN) (by rw [gd.sc]; exact hv) hd1 hd2) (pa_cons (pe_glob (v := .ref C) (by show X.env.scope.names.lookup cx = _; rw [gd.sc]; exact hg) (by rw [gd.mg]; exact hc) rfl hd3) pa_nil (he2 _)) (he _)) (by decide) (by decide) (he _) (hpl _)) ?_
  unfold eXis at pp
  have key : ∀ (x : Xc) (b : Bool), env[i]? = some (.exc x) → (∃ D, F.mg x.cls = some (.ref D) ∧ XI F.K D ∧ PySem.W.kitOne F.K (.ref D) (.ref C) = some b) → Q (.bl b) H →
      tCB (rXis X.K) (tCons (tVar i) (tCons (tC (.ref C)) tNil)) σ H Q := fun x b e hD q => by
    obtain ⟨D, d1, d2, d3⟩ := hD
    obtain ⟨a, h1, h2⟩ := at_.exc i x e
    obtain ⟨dx, vs, xi, _⟩ := h2.inst (D := D) (by rw [gd.mg]; exact d1)
    exact ⟨_, h1, a, D, dx, _, .ref C, .ref C, b, rfl, xi, by rw [gd.K]; exact d2, fun u r => r, by rw [gd.K]; exact d3, q⟩
  split at pp
  · rename_i x e
    by_cases c1 : x.cls ∈ subs
    · rw [if_pos c1] at pp
      exact key x true e (hsub _ c1) (pp g H (Step.refl _ _) at_ _ (by simp [RR, Rep]))
    · rw [if_neg c1] at pp
      by_cases c2 : x.cls ∈ others
      · rw [if_pos c2] at pp
        exact key x false e (hoth _ c2) (pp g H (Step.refl _ _) at_ _ (by simp [RR, Rep]))
      · rw [if_neg c2] at pp
        exact pp.elim
  · exact pp.elim
end
/-- e.f -/
def tXa (K : PySem.W.Frag) (f : Str) (te : TE) : TE := fun σ H Q => te σ H fun x H1 => ∃ (a D dx : Addr) (fs : List (Str × V)) (v : V), x = .ref a ∧ XInst H1 a D dx fs ∧ XI K D ∧ PySem.W.findIn K (.ref D) f = some none ∧ fs.lookup f = some v ∧ Q v H1
theorem pe_xa {X : Cx} {e : Expr} {te : TE} {f : Str} {pos : Pos} (he : PE X e te) (hb : attributeBase e f X.env (eval e X.env) = eval e X.env := by rfl) : PE X (.Attribute e f pos) (tXa X.K f te) := by
  refine ⟨fun pins s σ H Q I z => ?_⟩
  refine attr_of hb (thn (he.run pins s σ H _ I z) fun u t₁ hh => ?_)
  obtain ⟨x, H1, I1, rx, a, D, dx, fs, v, rfl, xi, C, no, lk, q⟩ := hh
  obtain rfl : u = Value.ref a := rx
  obtain ⟨oe, od, mA, J, hns, ho, hr⟩ := xi.at I1
  obtain ⟨od', ho', hl⟩ := lookIn_ns hns
  rw [ho] at ho'
  cases ho'
  obtain ⟨u, hu, ru⟩ := RelO.some_of (v := v) (o := mA f) (by rw [← lk]; exact hr f)
  exact HandSPX.exc_get I1.kIn J C.ga C.gg C.bs (PySem.W.findObj_own C.hd no rfl (by rw [hl, hu])) (handed_of ru) ⟨v, H1, I1.tok _, ru, q⟩
theorem reps_lookup {K : PySem.W.Frag} {w : World} {g : Gh} {H : Hp} {f : Str} : ∀ {ks : List Str} {ds : List D} {vs : List V} {d : D}, Reps K w g H vs ds → (ks.zip ds).lookup f = some d → ∃ v, (ks.zip vs).lookup f = some v ∧ Rep K w g H v d
  | [], ds, vs, d, _, e => by simp at e
  | k :: ks, [], vs, d, _, e => by simp at e
  | k :: ks, d0 :: ds, vs, d, r, e => by
    rw [Reps.cons_iff] at r
    obtain ⟨v0, r', rfl, h1, h2⟩ := r
    rw [List.zip_cons_cons, List.lookup_cons] at e ⊢
    split at e
    · rename_i hk
      cases e
      exact ⟨v0, rfl, h1⟩
    · rename_i hk
      obtain ⟨v, q1, q2⟩ := reps_lookup h2 e
      exact ⟨v, q1, q2⟩
section
variable {F : Fr} {pos : Pos}
theorem se_xf {n f : Str} {i : Nat} {cls : List Str} {p1 : Pos} (hcl : ∀ nm ∈ cls, ∃ D, F.mg nm = some (.ref D) ∧ XI F.K D ∧ PySem.W.findIn F.K (.ref D) f = some none)
    (hN : F.N[i]? = some n := by rfl) (hv : Vis F.sc n := by first | exact Or.inl rfl | exact Or.inr (Or.inl rfl) | exact Or.inr (Or.inr rfl)) (hd1 : (n == ("__debug__" : Str)) = false := by decide) (hd2 : (n == ("__classdict__" : Str)) = false := by decide)
    (hb : ∀ env, attributeBase (.Name n p1) f env (eval (.Name n p1) env) = eval (.Name n p1) env := by intros; rfl) :
    SE F (.Attribute (.Name n p1) f pos) (eXf i cls f) := fun X W gd tk Hk gk σ env h g H Q at_ pp => by
  refine uE_of (pe_xa (pe_var (i := i) (by rw [gd.N]; exact hN) (by rw [gd.sc]; exact hv) hd1 hd2) (hb _)) ?_
  unfold eXf at pp
  split at pp
  · rename_i x e
    by_cases c1 : x.cls ∈ cls
    · rw [if_pos c1] at pp
      split at pp
      · rename_i d lk
        obtain ⟨D, d1, d2, d3⟩ := hcl _ c1
        obtain ⟨a, h1, h2⟩ := at_.exc i x e
        obtain ⟨dx, vs, xi, rs⟩ := h2.inst (D := D) (by rw [gd.mg]; exact d1)
        obtain ⟨v, l1, l2⟩ := reps_lookup rs lk
        exact ⟨_, h1, a, D, dx, _, v, rfl, xi, by rw [gd.K]; exact d2, by rw [gd.K]; exact d3, l1, pp g H (Step.refl _ _) at_ _ l2⟩
      · exact pp.elim
    · rw [if_neg c1] at pp
      exact pp.elim
  · exact pp.elim
end
end Mi
end
section
set_option Elab.async false
set_option linter.all false
set_option maxRecDepth 100000
set_option maxHeartbeats 1000000
open PySem PySem.Spec PyProof.Rows L2
namespace Mi
/-! ## repr -/
mutual
theorem toPy_noDict : ∀ (d : D) (p : PyData), toPy d = some p → p.hasDict = false
  | .non, p, e => by simp [toPy] at e; subst e; rfl
  | .bl b, p, e => by simp [toPy] at e; subst e; rfl
  | .int i, p, e => by simp [toPy] at e; subst e; rfl
  | .str s, p, e => by simp [toPy] at e; subst e; rfl
  | .tup ds, p, e => by
    simp only [toPy, Option.map_eq_some_iff] at e
    obtain ⟨ps, e1, rfl⟩ := e
    simpa [PyData.hasDict] using toPys_noDict ds ps e1
  | .lst ds, p, e => by
    simp only [toPy, Option.map_eq_some_iff] at e
    obtain ⟨ps, e1, rfl⟩ := e
    simpa [PyData.hasDict] using toPys_noDict ds ps e1
  | .loc n, p, e => by simp [toPy] at e
  | .dct k d, p, e => by simp [toPy] at e
theorem toPys_noDict : ∀ (ds : List D) (ps : List PyData), toPys ds = some ps → PyData.hasDictAll ps = false
  | [], ps, e => by simp [toPys] at e; subst e; rfl
  | d :: ds, ps, e => by
    simp only [toPys] at e
    split at e
    · rename_i a r e1 e2
      cases e
      simp [PyData.hasDictAll, toPy_noDict d a e1, toPys_noDict ds r e2]
    · cases e
end
def reprO (h : MH) : List D → Option R
  | [d] => (match toPy d with
    | some p => if p.showable = true ∧ p.depth ≤ 64 ∧ p.shown.length ≤ sizeLine then some (.v (.str p.shown.cps.toList)) else none
    | none => none)
  | _ => none
def rReprD (K : PySem.W.Frag) : List V → Hp → VK → Prop := fun xs H Q => ∃ (x : V) (p : PyData), xs = [x] ∧ Dp K H x p ∧ p.hasDict = false ∧ p.showable = true ∧ p.depth ≤ 64 ∧ p.shown.length ≤ sizeLine ∧ Q (.str p.shown) H
theorem call_reprD {X : Cx} (gds : X.A.guards = some []) (un : X.A.units + 70 < cLine) : CallR X (.builtin "repr") (rReprD X.K) := by
  intro pins s σ H xs us Q I r z
  obtain ⟨x, p, rfl, dp, nd, sh, dep, len, q⟩ := z
  obtain ⟨u, rfl, rx⟩ := vals1 r
  have fin : ∀ (h' : Heap) (tk tk' : Nat), (∀ b o, s.heap.get? b = some o → h'.get? b = some o) → EP X pins σ Q (.str p.shown tk') { s with heap := h', toks := tk } := fun h' tk tk' k => ⟨.str p.shown, H, I.kept k, ⟨_, rfl⟩, q⟩
  obtain ⟨as, rd⟩ := Dp.reads I p x u dp rx
  cases rd with
  | none => exact PySem.P.repr_of_none (fin s.heap _ _ fun _ _ e => e)
  | bool b => exact PySem.P.repr_of_bool (fin s.heap _ _ fun _ _ e => e)
  | int i t => exact PySem.P.repr_of_int (by simpa [PyData.showable] using sh) (fin s.heap _ _ fun _ _ e => e)
  | str y t => exact PySem.P.repr_of_str (fin s.heap _ _ fun _ _ e => e) (by simpa [PyData.shown] using len)
  | list h1 h2 h3 h4 => exact repr_of_reads' (.list h1 h2 h3 h4) sh (fun z => by rw [nd] at z; cases z) gds (by omega) (fun _ _ e => e) (fun h' u tk k => fin h' tk u k) len
  | tuple h1 h2 h3 h4 => exact repr_of_reads' (.tuple h1 h2 h3 h4) sh (fun z => by rw [nd] at z; cases z) gds (by omega) (fun _ _ e => e) (fun h' u tk k => fin h' tk u k) len
  | dict h1 h2 h3 h4 h5 => simp [PyData.hasDict] at nd
section
variable {F : Fr}
theorem Good.units2 {X : Cx} (gd : Good F X) : X.A.units + 70 < cLine := by have := gd.un; omega
theorem ok_repr : CallOk F (.builtin "repr") reprO := fun X gd h g H hat xs ds r rs e Q k => by
  unfold reprO at e
  split at e
  · rename_i d
    split at e
    · rename_i p ep
      split at e
      · rename_i c
        cases e
        obtain ⟨x, rfl, rx⟩ := one_reps rs
        refine uCl_of (call_reprD gd.gds gd.units2) ⟨x, p, rfl, rep_dp d rx ep, toPy_noDict d p ep, c.1, c.2.1, c.2.2, k _ g H (Grow.refl hat) ?_⟩
        simp [RN, Rep, S_of]
      · cases e
    · cases e
  · cases e
end
end Mi
end
section
set_option Elab.async false
set_option linter.all false
set_option maxRecDepth 100000
set_option maxHeartbeats 1000000
open PySem PySem.Spec PyProof.Rows L2
namespace Mi
/-! ## s[::-1] -/
def eRev (m : MV) : ME := fun env h => (m env h).bind fun d env h => match d with
  | .str s => if s.length ≤ sizeLine then .ok (.v (.str s.reverse)) env h else .no
  | .lst ds => .ok (.own ds.reverse) env h
  | _ => .no
theorem pick_rev (s : List Nat) : ((Builtin.Str.strSliceIndices none none (-1) s.length).filterMap (s.toArray[·]?)) = s.reverse := by
  rw [picked_rev]
  have h2 : ((List.range s.length).map fun k => s.length - 1 - k) = (List.range s.length).reverse := by
    apply List.ext_getElem
    · simp
    · intro i h1 h2
      simp
  have h3 := PySem.W.krv_all s.toArray
  simp only [List.size_toArray, List.toList_toArray] at h3
  rw [h2, List.filterMap_reverse, h3]
def tRevS (te : TE) : TE := fun σ H Q => te σ H fun x H1 => ∃ s : List Nat, x = .str (S s) ∧ s.length ≤ sizeLine ∧ Q (.str (S s.reverse)) H1
theorem pe_revS {X : Cx} {e : Expr} {te : TE} {k : Nat} {p1 p2 p3 pos : Pos} (he : PE X e te) : PE X (.Subscript e (.Slice none none (some (.UnaryOp .USub (.Constant (.int 1) k p1) p2)) p3) pos) (tRevS te) := by
  refine ⟨fun pins s σ H Q I z => ?_⟩
  refine Subscript_ (thn (he.run pins s σ H _ I z) fun v t₁ ⟨x, G1, I1, r1, q1⟩ => ?_)
  obtain ⟨y, ex, hz, q⟩ := q1
  subst ex
  obtain ⟨tk, rfl⟩ := r1
  have step : PO X (some (.UnaryOp .USub (.Constant (.int 1) k p1) p2)) (tPart (tUn (rU fun i => .int (-i)) (tC (.int 1)))) := po_some (pe_un un_neg pe_int)
  refine wpAny_Slice (thn (po_none.run pins t₁ σ G1 (fun o G2 => o = none ∧ G2 = G1) I1 ⟨rfl, rfl⟩) fun vl t₂ ⟨l, G2, I2, pl, el, e2⟩ => ?_)
  subst el e2
  refine thn (po_none.run pins t₂ σ G2 (fun o G3 => o = none ∧ G3 = G2) I2 ⟨rfl, rfl⟩) fun vu t₃ ⟨u, G3, I3, pu, eu, e3⟩ => ?_
  subst eu e3
  refine thn (step.run pins t₃ σ G3 (fun o G4 => o = some (-1) ∧ G4 = G3) I3 ⟨1, rfl, -1, rfl, rfl, rfl⟩) fun vs t₄ ⟨o, G4, I4, ps, eo, e4⟩ => ?_
  subst eo e4
  have I5 : Inv X pins σ G4 { t₄ with heap := t₄.heap.push { cls := .type "slice", data := .fields #[vl, vu, vs] } } := I4.kept (t' := t₄.toks) fun b ob w => Heap.get?_push_of_some _ w
  have hsl := Heap.IsSliceOf.new t₄.heap vl vu vs
  obtain ⟨os, hos, hcs, hds⟩ := hsl
  obtain ⟨l, rfl, hl⟩ := IsPart.raw pl
  obtain ⟨u, rfl, hu⟩ := IsPart.raw pu
  obtain ⟨st, rfl, hst⟩ := IsPart.raw ps
  cases l with
  | some p => simp at hl
  | none =>
    cases u with
    | some p => simp at hu
    | none =>
      cases st with
      | none => simp at hst
      | some st =>
        obtain ⟨j, jt⟩ := st
        simp at hst
        subst hst
        refine tail_any (ops := [.str (S y) tk, .ref t₄.heap.objs.size]) (typeIs_str _ _ _) (F.slot_str_getitem.lookup) ?_ (by with_unfolding_all rfl)
        refine wpAny_getItem_str_slice (l := none) (u := none) (st := some (-1, jt)) ⟨os, hos, hcs, hds⟩ rfl ?_
        have hp := pick_rev y
        show Made.post (if ((-1 : Int) == 1 && (Builtin.Str.strSliceIndices none none (-1) (S y).length).length == (S y).length) = true then Made.val (.str (S y) tk)
          else Made.str ⟨((Builtin.Str.strSliceIndices none none (-1) (S y).length).filterMap ((S y).cps[·]?)).toArray⟩) _ _
        rw [if_neg (by simp)]
        have : ((Builtin.Str.strSliceIndices none none (-1) (S y).length).filterMap ((S y).cps[·]?)).toArray = y.reverse.toArray := by
          rw [show (S y).length = y.length from S_length y]
          exact congrArg List.toArray hp
        rw [this]
        refine ⟨by show (S y.reverse).length ≤ sizeLine; rw [S_length, List.length_reverse]; exact hz, .str (S y.reverse), G4, I5.tok _, ⟨_, rfl⟩, q⟩
section
variable {F : Fr} {e a b c : Expr} {es : List Expr} {pos : Pos} {X : Cx} {W : WX} {Hk : Hp} {gk g : Gh} {σ : L2.St} {env : Ev} {h : MH} {H : Hp}
theorem se_rev {m : MV} {k : Nat} {p1 p2 p3 : Pos} (he : SV F e m) : SE F (.Subscript e (.Slice none none (some (.UnaryOp .USub (.Constant (.int 1) k p1) p2)) p3) pos) (eRev m) := fun X W gd tk Hk gk σ env h g H Q at_ p => by
  unfold eRev at p
  have p := post.bind p
  cases em : m env h with
  | no => rw [em] at p; exact p.elim
  | err x2 e2 h2 =>
    rw [em] at p
    refine uE_of (pe_revS pe_u) ?_
    refine he X W gd tk Hk gk σ env h g H _ at_ ?_
    rw [em]
    exact p
  | ok d env1 h1 =>
    rw [em] at p
    cases d with
    | str s =>
      refine uE_of (pe_revS pe_u) ?_
      refine he X W gd tk Hk gk σ env h g H _ at_ ?_
      rw [em]
      refine fun g1 H1 s1 a1 x rx => ?_
      have p1 := p g1 H1 s1 a1
      dsimp only at p1
      split at p1
      · rename_i hz
        exact ⟨s, by simpa [Rep] using rx, hz, p1 g1 H1 (Step.refl _ _) a1 _ (by simp [RR, Rep])⟩
      · exact p1.elim
    | lst ds =>
      refine uE_of (pe_revL pe_u) ?_
      refine he X W gd tk Hk gk σ env h g H _ at_ ?_
      rw [em]
      refine fun g1 H1 s1 a1 x rx => ?_
      have p1 := p g1 H1 s1 a1
      simp only [Rep] at rx
      obtain ⟨a, vs, rfl, l, rs⟩ := rx
      refine ⟨a, vs, rfl, (by rw [gd.K] at l ⊢; exact l.sq), fun q hq => ?_⟩
      have gr := grow_new (o := .lst vs.reverse) a1.hat hq
      refine p1 g1 _ (gr.fstep a1.hat).toStep (gr.at a1) _ (RN.rr (r := .own ds.reverse) a1 gr ⟨q, vs.reverse, rfl, hq, upd_same, ?_, ?_⟩)
      · exact (rs.step (gr.fstep a1.hat).toStep).reverse
      · exact fun f => a1.hat.fz q f hq
    | _ => exact (p g H (Step.refl g H) |> fun q => by
        refine uE_of (pe_revS pe_u) ?_
        refine he X W gd tk Hk gk σ env h g H _ at_ ?_
        rw [em]
        exact fun g1 H1 s1 a1 x rx => (p g1 H1 s1 a1).elim)
/-! ## s.index(t), found -/
def indexO (h : MH) : D → List D → Option R
  | .str s, [.str t] => (match Builtin.Str.occurrences (S s) (S t) 0 (S s).length 1 with
    | i :: _ => some (.v (.int (i : Nat)))
    | [] => none)
  | _, _ => none
theorem ok_index : MtOk F "str.index" indexO := fun X gd h g H hat x d xs ds r rx rs e Q k => by
  unfold indexO at e
  split at e
  · rename_i s t
    split at e
    · rename_i i rest ho
      cases e
      obtain ⟨y, rfl, ry⟩ := one_reps rs
      simp only [Rep] at rx ry
      subst rx; subst ry
      exact uMt_of mt_sindex ⟨S s, S t, i, rest, rfl, rfl, ho, k _ g H (Grow.refl hat) (by simp [RN, Rep])⟩
    · cases e
  · cases e
/-! ## s * k -/
def mulSO (h : MH) : D → D → Option R
  | .str s, .int j => if 0 < s.length ∧ 2 ≤ j ∧ j.natAbs ≤ 10000 ∧ s.length ≤ 1000 then some (.v (.str (List.replicate j.toNat s).flatten)) else none
  | _, _ => none
theorem fold_flat (s : List Nat) : ∀ (n : Nat) (acc : Array Nat), (List.replicate n s.toArray).foldl (· ++ ·) acc = (acc.toList ++ (List.replicate n s).flatten).toArray
  | 0, acc => by simp
  | n + 1, acc => by
    rw [List.replicate_succ, List.foldl_cons, fold_flat s n, List.replicate_succ, List.flatten_cons]
    simp
theorem op_mulS : OpR X (binaryOp .Mult) (fun x y H Q => ∃ (s : List Nat) (j : Int), x = .str (S s) ∧ y = .int j ∧ 0 < s.length ∧ 2 ≤ j ∧ j.natAbs ≤ 10000 ∧ s.length ≤ 1000 ∧ Q (.str (S (List.replicate j.toNat s).flatten)) H) := by
  intro pins s σ H x y v u Q I rx ry z
  obtain ⟨t, j, rfl, rfl, h1, h2, h3, h4, q⟩ := z
  obtain ⟨tk, rfl⟩ := rx
  obtain ⟨tk2, rfl⟩ := ry
  have hj : j ≤ 10000 := by omega
  have el : (S t).length = t.length := S_length t
  refine PySem.SB.mul ⟨?_, fun _ _ => ?_, fun _ _ => ?_⟩ fun t' k => ?_
  · simp; omega
  · rw [el]
    have h5 : (1000 : Int) ≤ (2 ^ 63 - 1) / j := by
      rw [Int.le_ediv_iff_mul_le (by omega)]
      omega
    omega
  · have h5 : t.length * j.toNat ≤ 1000 * 10000 := Nat.mul_le_mul h4 (by omega)
    show decide ((S t).length * j.toNat > sizeLine) = false
    rw [el, sizeLine_eq]
    simp
    omega
  · have e : Txt.mul (S t) j = S (List.replicate j.toNat t).flatten := by
      unfold Txt.mul
      rw [if_neg (by omega), if_neg (by rw [el]; simp only [Bool.or_eq_true, beq_iff_eq]; omega)]
      show (⟨(List.replicate j.toNat t.toArray).foldl (· ++ ·) #[]⟩ : Str) = _
      rw [fold_flat]
      simp [S]
    rw [e]
    exact ⟨.str _, H, I.tok _, ⟨_, rfl⟩, q⟩
theorem ok_mulS : OpOk F (binaryOp .Mult) mulSO := fun X gd h g H hat x y dx dy r rx ry e Q k => by
  unfold mulSO at e
  split at e
  · rename_i s j
    split at e
    · rename_i hc
      cases e
      simp only [Rep] at rx ry
      subst rx; subst ry
      exact uOp_of op_mulS ⟨s, j, rfl, rfl, hc.1, hc.2.1, hc.2.2.1, hc.2.2.2, k _ g H (Grow.refl hat) (by simp [RN, Rep])⟩
    · cases e
  · cases e
end
end Mi
end
section
set_option Elab.async false
set_option linter.all false
set_option maxRecDepth 100000
set_option maxHeartbeats 1000000
open PySem PySem.Spec PyProof.Rows L2
namespace Mi
/-! ## {k: v for x in ..}: new keys only, all of them texts -/
structure DOwn (K : PySem.W.Frag) (w : World) (Hk : Hp) (g : Gh) (H : Hp) (a : Addr) (ks : List (List Nat)) (ds : List D) : Prop where
  at_ : ∃ vs, H a = some (.dK (kvK ks vs)) ∧ Reps K w g H vs ds ∧ ks.length = vs.length
  nf : ¬ g.Fz a
  nρ : ∀ n, n < g.top → g.ρ n ≠ a
  nk : Hk a = none
section
variable {K : PySem.W.Frag} {w : World} {mg : Str → Option Value} {W : WX} {Hk : Hp} {gk : Gh} {σ : L2.St} {g g1 g' : Gh} {H H1 H' : Hp} {env : Ev} {h h' : MH}
theorem DOwn.fstep {a : Addr} {ks : List (List Nat)} {ds : List D} (o : DOwn K w Hk g H a ks ds) (t : FStep g H g' H') : DOwn K w Hk g' H' a ks ds := by
  obtain ⟨⟨vs, h3, h4, h5⟩, nf, nρ, nk⟩ := o
  refine ⟨⟨vs, t.keep _ _ h3 nρ, h4.step t.toStep, h5⟩, fun f => ?_, fun n hn q => ?_, nk⟩
  · rcases t.newF _ f with f | f
    · exact nf f
    · rw [h3] at f; cases f
  · by_cases hk : n < g.top
    · rw [t.ρ n hk] at q; exact nρ n hk q
    · have := t.newρ n (Nat.le_of_not_lt hk) hn
      rw [q, h3] at this; cases this
/-- the dict in hand is written -/
theorem At.mutD (a : At K w mg Hk gk σ env h g H) {x : Addr} {ks ks' : List (List Nat)} {ds es : List D} {us : List V} (o : DOwn K w Hk g H x ks ds) (r : Reps K w g H us es) (hl : ks'.length = us.length) :
    At K w mg Hk gk σ env h g (upd H x (.dK (kvK ks' us))) ∧ Step g H g (upd H x (.dK (kvK ks' us))) ∧ DOwn K w Hk g (upd H x (.dK (kvK ks' us))) x ks' es := by
  obtain ⟨vs0, hx, _, _⟩ := o.at_
  have s : Step g H g (upd H x (.dK (kvK ks' us))) := ⟨fun _ f => f, fun b f => upd_ne fun z => o.nf (by rw [← z]; exact f), Nat.le_refl _, fun _ _ => rfl⟩
  refine ⟨⟨⟨a.hat.top, fun b f => ?_, fun m ob e' => ?_, a.hat.inj⟩, ⟨a.fs.toStep.trans s, fun b u e' n => ?_, a.fs.newρ, a.fs.newF⟩, a.len, fun j d e' => ?_, fun j d e' => ?_, a.dist, fun i x e => (a.exc i x e).imp fun _ q => ⟨q.1, q.2.step s⟩⟩, s, ⟨⟨us, upd_same, r.step s, hl⟩, o.nf, o.nρ, o.nk⟩⟩
  · rw [upd_ne (show b ≠ x from fun z => o.nf (by rw [← z]; exact f))]
    exact a.hat.fz b f
  · obtain ⟨h3, h4⟩ := a.hat.obj m ob e'
    have hm : g.ρ m ≠ x := o.nρ m (by rw [a.hat.top]; exact (List.getElem?_eq_some_iff.mp e').1)
    exact ⟨ORep.step s (fun u q => by rw [upd_ne hm]; exact q) h3, h4⟩
  · rw [upd_ne (show b ≠ x from fun z => by rw [z, o.nk] at e'; cases e')]
    exact a.fs.keep b u e' n
  · obtain ⟨y, h5, h6⟩ := a.val j d e'
    exact ⟨y, h5, h6.step s⟩
  · obtain ⟨y, h5, h6⟩ := a.own j d e'
    obtain ⟨ws, h7, h8⟩ := h6.at_
    have hy : y ≠ x := fun z => by rw [z, hx] at h7; cases h7
    exact ⟨y, h5, ⟨ws, by rw [upd_ne hy]; exact h7, h8.step s⟩, h6.nf, h6.nρ, h6.nk⟩
/-- and frozen -/
theorem At.freezeD (a : At K w mg Hk gk σ env h g H) {x : Addr} {ks : List (List Nat)} {ds : List D} (o : DOwn K w Hk g H x ks ds) :
    At K w mg Hk gk σ env h (g.fr x) H ∧ Step g H (g.fr x) H ∧ Rep K w (g.fr x) H (.ref x) (.dct ks ds) := by
  have s : Step g H (g.fr x) H := ⟨fun b f => .inl f, fun _ _ => rfl, Nat.le_refl _, fun _ _ => rfl⟩
  obtain ⟨vs, h3, h4, h5⟩ := o.at_
  refine ⟨⟨⟨a.hat.top, fun b f => ?_, fun m ob e => ?_, a.hat.inj⟩, ⟨a.fs.toStep.trans s, a.fs.keep, a.fs.newρ, fun b f => ?_⟩, a.len, fun i d e => ?_, fun i es e => ?_, a.dist, fun i x e => (a.exc i x e).imp fun _ q => ⟨q.1, q.2.step s⟩⟩, s, ?_⟩
  · rcases f with f | rfl
    · exact a.hat.fz b f
    · rw [h3]; exact fun z => nomatch z
  · obtain ⟨h1, h2⟩ := a.hat.obj m ob e
    refine ⟨ORep.step s (fun _ q => q) h1, fun f => ?_⟩
    rcases f with f | f
    · exact h2 f
    · exact o.nρ m (by rw [a.hat.top]; exact (List.getElem?_eq_some_iff.mp e).1) f
  · rcases f with f | rfl
    · exact a.fs.newF b f
    · exact .inr o.nk
  · obtain ⟨y, h1, h2⟩ := a.val i d e
    exact ⟨y, h1, h2.step s⟩
  · obtain ⟨y, h1, h2⟩ := a.own i es e
    obtain ⟨us, h5, h6⟩ := h2.at_
    refine ⟨y, h1, ⟨us, h5, h6.step s⟩, fun f => ?_, h2.nρ, h2.nk⟩
    rcases f with f | f
    · exact h2.nf f
    · rw [f, h3] at h5; cases h5
  · simp only [Rep]
    exact ⟨x, vs, rfl, .inr ⟨.inr rfl, h3⟩, h4.step s⟩
theorem kvK_new (s : List Nat) (v : V) : ∀ (ks : List (List Nat)) (vs : List V), ks.length = vs.length → s ∉ ks → putK (kvK ks vs) (Sum.inr (S s)) v = kvK (ks ++ [s]) (vs ++ [v]) := by
  intro ks vs hl hs
  have h1 : (kvK ks vs).any (fun kv => decide (kv.1 = (Sum.inr (S s) : Key))) = false := by
    rw [List.any_eq_false]
    intro kv hm
    have := (List.of_mem_zip hm).1
    obtain ⟨k, hk, e⟩ := List.mem_map.mp this
    simp only [decide_eq_true_eq]
    intro z
    rw [← e] at z
    exact hs (by rw [← S_inj (Sum.inr.inj z)]; exact hk)
  unfold putK
  rw [h1, if_neg (by decide)]
  unfold kvK
  rw [List.map_append, List.zip_append (by rw [List.length_map]; exact hl)]
  rfl
end
def compD (t : Tg) (mk mv : MV) (menv : Ev) : List D → MH → List (List Nat) → List D → Option (List (List Nat) × List D × MH)
  | [], h, ks, acc => some (ks, acc, h)
  | d :: ds, h, ks, acc => match t d menv with
    | none => none
    | some e1 => match mk e1 h with
      | .ok (.str k) e2 h2 => (match mv e2 h2 with
          | .ok y _ h3 => if k ∉ ks ∧ ks.length < 65536 then compD t mk mv menv ds h3 (ks ++ [k]) (acc ++ [y]) else none
          | _ => none)
      | _ => none
def eCompD (cap : List Nat) (t : Tg) (mi : MI) (mk mv : MV) : ME := fun env h => (mi env h).bind fun ds env h => match compD t mk mv (mask cap 0 (frzE cap env)) ds h [] [] with
  | some (ks, acc, h') => .ok (.v (.dct ks acc)) (frzE cap env) h'
  | none => .no
section
variable {F : Fr} {pos : Pos} {X : Cx} {W : WX} {Hk : Hp} {gk g : Gh} {σ : L2.St} {env : Ev} {h : MH} {H : Hp}
theorem compD_W {scope : Scope} {kx vx tg : Expr} {tvs vs : List Nat} {t : Tg} {mk mv : MV} {Fb : Fr} (hg : SG Fb tg tvs t) (htv : ∀ i ∈ tvs, i ∈ vs) (hkx : SV Fb kx mk) (hvx : SV Fb vx mv)
    (gdb : ∀ s0 H0 C cl fp, Good Fb (blkX X s0 H0 scope C cl fp)) {σb : L2.St} {menv : Ev} {g1 : Gh} {H1 : Hp} (hno : ∀ (i : Nat) (ds : List D), menv[i]? ≠ some (.own ds)) (hnx : ∀ (i : Nat) (x : Xc), menv[i]? ≠ some (.exc x)) (hlen : menv.length = σb.length)
    (hval : ∀ (i : Nat) (d : D), menv[i]? = some (.v d) → ∃ x, σb[i]? = some (some x) ∧ Rep X.K X.w g1 H1 x d) {J : It} {ds : List D} (hJ : ItOk X.K X.w g1 H1 J ds)
    {Dl : Addr} {res : List (List Nat) × List D × MH} {Fin : Hp → Prop}
    (hfin : ∀ h g H ks acc, Step g1 H1 g H → At X.K X.w X.mg Hk gk σ env h g H → DOwn X.K X.w Hk g H Dl ks acc → res = (ks, acc, h) → Fin H)
    {h2 : MH} {g2 : Gh} {H2 : Hp} {ks2 : List (List Nat)} {acc2 : List D} (s2 : Step g1 H1 g2 H2) (a2 : At X.K X.w X.mg Hk gk σ env h2 g2 H2) (o2 : DOwn X.K X.w Hk g2 H2 Dl ks2 acc2) (e2 : compD t mk mv menv ds h2 ks2 acc2 = some res) :
    ∃ W : Nat → Nat → Hp → Prop, (∃ m, W 0 m H2) ∧ ∀ i m H, W i m H →
      (J.stop i H ∧ Fin H) ∨ (J.go i H ∧ ∃ Nx : Hp → Prop, (∀ H', Nx H' → ∃ m', m' < m ∧ W (i + 1) m' H') ∧ ∀ x H', J.yld i H x H' → uGb X scope tg x σb H' fun σ2 H2 => L2.wipe σ2 vs = L2.wipe σb vs ∧ uTb X scope [] σ2 H2 fun b H3 =>
        if b = true then uEb X scope kx σ2 H3 fun y H4 => uEb X scope vx σ2 H4 fun z H5 => ∃ kvs k, y = kV k ∧ H5 Dl = some (.dK kvs) ∧ kvs.length < sizeLine ∧ Nx (upd H5 Dl (.dK (putK kvs k z))) else Nx H3) := by
  refine ⟨fun i m H => m = ds.length - i ∧ ∃ h g ks acc, Step g1 H1 g H ∧ At X.K X.w X.mg Hk gk σ env h g H ∧ DOwn X.K X.w Hk g H Dl ks acc ∧ compD t mk mv menv (ds.drop i) h ks acc = some res,
    ⟨ds.length, by omega, h2, g2, ks2, acc2, s2, a2, o2, e2⟩, fun i m H2 hW => ?_⟩
  obtain ⟨rfl, h2, g2, ks, acc, s2, a2, o2, e2⟩ := hW
  have hj := hJ g2 H2 h2 s2 a2.hat i
  by_cases hlen2 : i < ds.length
  · obtain ⟨hgo, hy⟩ := hj.2 _ (List.getElem?_eq_getElem hlen2)
    rw [List.drop_eq_getElem_cons hlen2] at e2
    refine .inr ⟨hgo, fun H' => ∃ h g ks acc, Step g1 H1 g H' ∧ At X.K X.w X.mg Hk gk σ env h g H' ∧ DOwn X.K X.w Hk g H' Dl ks acc ∧ compD t mk mv menv (ds.drop (i + 1)) h ks acc = some res,
      fun H' hN => ⟨ds.length - (i + 1), by omega, rfl, hN⟩, fun x H3 hx => ?_⟩
    obtain ⟨g3, gr, r3⟩ := hy x H3 hx
    have fs3 := gr.fstep a2.hat
    have a3 := gr.at a2
    have o3 := o2.fstep fs3
    have st3 := s2.trans fs3.toStep
    have b3 : At X.K X.w X.mg H3 g3 σb menv h2 g3 H3 := ⟨a3.hat, FStep.refl a3.hat, hlen, fun i d e => (hval i d e).imp fun x hx => ⟨hx.1, hx.2.step st3⟩, fun i d e => absurd e (hno i d), fun i j d1 d2 x e => absurd e (hno i d1), fun i x e => absurd e (hnx i x)⟩
    unfold compD at e2
    split at e2
    · cases e2
    · rename_i e1 et
      intro s0 H0 C cl fp
      refine hg (blkX X s0 H0 scope C cl fp) (gdb s0 H0 C cl fp) H3 g3 _ _ h2 g3 H3 x _ e1 b3 r3 et _ fun σ2 ag a4 => ?_
      have ag' : Agree vs σb σ2 := ⟨ag.1, fun i hi => ag.2 i fun z => hi (htv i z)⟩
      refine ⟨ag'.wipe, ?_⟩
      intro s0 H0 C cl fp
      refine uTs_of pts_nil ?_
      unfold tYes
      dsimp only
      rw [if_pos rfl]
      intro s0 H0 C cl fp
      refine hkx (blkX X s0 H0 scope C cl fp) _ (gdb s0 H0 C cl fp) takes0 H3 g3 σ2 e1 h2 g3 H3 _ a4 ?_
      cases ek : mk e1 h2 with
      | no => rw [ek] at e2; cases e2
      | err x3 e3 h3 => rw [ek] at e2; cases e2
      | ok kd env3 h3 =>
        rw [ek] at e2
        split at e2
        · rename_i k _ _ eq
          cases eq
          refine fun g5 H5 s5 a5 y ry => ?_
          intro s0 H0 C cl fp
          refine hvx (blkX X s0 H0 scope C cl fp) _ (gdb s0 H0 C cl fp) takes0 H3 g3 σ2 _ _ g5 H5 _ a5 ?_
          split at e2
          · rename_i yv _ h4 ev
            rw [ev]
            split at e2
            · rename_i hz
              refine fun g6 H6 s6 a6 z rz => ?_
              have o6 := o3.fstep a6.fs
              have a7 := a3.fstep a6.fs a6.hat
              obtain ⟨us, hD6, rs6, hl6⟩ := o6.at_
              refine ⟨kvK ks us, Sum.inr (S k), by simpa [Rep, kV] using ry, hD6, ?_, ?_⟩
              · unfold kvK
                rw [List.length_zip, List.length_map, hl6, Nat.min_self, ← hl6]
                exact Nat.lt_of_lt_of_le hz.2 (by decide)
              · rw [kvK_new k z ks us hl6 hz.1]
                obtain ⟨a8, s8, o8⟩ := a7.mutD (us := us ++ [z]) (es := acc ++ [yv]) (ks' := ks ++ [k]) o6 (rs6.append (Reps.cons rz Reps.nil)) (by simp [hl6])
                exact ⟨h4, g6, ks ++ [k], acc ++ [yv], ((st3.trans s5).trans s6).trans s8, a8, o8, e2⟩
            · cases e2
          · cases e2
        · cases e2
  · rw [List.drop_eq_nil_of_le (by omega)] at e2
    cases e2
    exact .inl ⟨hj.1 (by omega), hfin h2 g2 H2 ks acc s2 a2 o2 rfl⟩
theorem se_compD {kx vx tg iter : Expr} {scope : Scope} {own : List (Str × Nat)} {cap tvs : List Nat} {t : Tg} {mi : MI} {mk mv : MV} (hi : SI F tg iter mi) (ok : BlkOk F.N F.sc scope own := by exact blkOk_by (by (try dsimp only [Fr.blk]); decide +kernel)) (hd : ∀ i ∈ cap, i ∉ own.map (·.2) := by decide)
    (hg : SG (F.blk scope) tg tvs t) (htv : ∀ i ∈ tvs, i ∈ own.map (·.2) := by decide) (hkx : SV (F.blk scope) kx mk) (hvx : SV (F.blk scope) vx mv) (hcm : F.cm = true := by rfl) (hs : ∀ env x, foldedSetIterable iter env x = pure x := by intros; rfl) :
    SE F (.DictComp kx vx [⟨tg, iter, [], 0⟩] scope pos) (eCompD cap t mi mk mv) := fun X W gd tk Hk gk σ env h g H Q at_ p => by
  refine uE_of (pe_dc (own := own) (gd.calm hcm) gd.nd pi_u (by rw [gd.N, gd.sc]; exact ok) (g := uGb X scope tg) (tt := uTb X scope []) (tk := uEb X scope kx) (tv := uEb X scope vx) (fun s H C cl fp => ⟨fun pins s σ H v u Q I r h => h _ _ _ _ _ pins s u I r⟩)
    (fun s H C cl fp => ⟨fun pins s σ H Q I h => h _ _ _ _ _ pins s I⟩) (fun s H C cl fp => ⟨fun pins s σ H Q I h => h _ _ _ _ _ pins s I⟩) (fun s H C cl fp => ⟨fun pins s σ H Q I h => h _ _ _ _ _ pins s I⟩) (hs _)) ?_
  refine hi X W gd tk Hk gk σ env h g H _ at_ ((post.bind p).imp fun ds env1 h1 g1 H1 s1 a1 q J hJ => ?_)
  intro Dl hD
  split at q
  · rename_i ks res hf eres
    obtain ⟨g1f, a1f, sf⟩ := a1.frzE cap
    have grD : Grow g1f H1 g1f (upd H1 Dl (.dK [])) := grow_new a1f.hat hD
    have aD := grD.at a1f
    have sD := (grD.fstep a1f.hat).toStep
    obtain ⟨f1, f2, f3, f4⟩ := a1f.fresh hD
    have oD : DOwn X.K X.w Hk g1f (upd H1 Dl (.dK [])) Dl [] [] := ⟨⟨[], upd_same, Reps.nil, rfl⟩, f2, f3, f1⟩
    have bD := aD.blk hd
    have := compD_W (vs := own.map (·.2)) (scope := scope) hg htv hkx hvx (fun s0 H0 C cl fp => good_blk gd ok s0 H0 C cl fp (.inl hcm)) (σb := L2.wipe σ (own.map (·.2))) (menv := mask cap 0 (frzE cap env1)) (g1 := g1f) (H1 := upd H1 Dl (.dK []))
      (fun i d e => by obtain ⟨x, _, o⟩ := bD.own i d e; have := o.nk; obtain ⟨vs, e3, _⟩ := o.at_; rw [e3] at this; cases this) mask_exc bD.len bD.val
      (J := J) (ds := ds) (fun g H h s hat i => hJ g H h ((sf.trans sD).trans s) hat i) (res := (ks, res, hf)) (Fin := fun H => Q (.ref Dl) H)
      (fun h g H ks acc s a o e => by
        cases e
        obtain ⟨b1, b2, b3⟩ := a.freezeD o
        exact q _ H (((sf.trans sD).trans s).trans b2) b1 _ b3) (Step.refl _ _) aD oD eres
    rw [wipe_wipe] at this
    exact this
  · exact q.elim
end
end Mi
end
section
set_option Elab.async false
set_option linter.all false
set_option maxRecDepth 100000
set_option maxHeartbeats 1000000
open PySem PySem.Spec PyProof.Rows L2
namespace Mi
/-! ## {'a': 1, ..}, {}, d.get(k, x) -/
inductive CPs : List (Option Expr) → List Expr → List (List Nat) → List Int → Prop
  | nil : CPs [] [] [] []
  | cons {x : Str} {k : List Nat} {j : Int} {i1 i2 : Nat} {p1 p2 : Pos} {ks : List (Option Expr)} {vs : List Expr} {a : List (List Nat)} {b : List Int} (h : S k = x) (r : CPs ks vs a b) : CPs (some (.Constant (.str x) i1 p1) :: ks) (.Constant (.int j) i2 p2 :: vs) (k :: a) (j :: b)
theorem upd_upd2 {H : Hp} {p : Addr} {o u : HO} : upd (upd H p o) p u = upd H p u := by
  funext b
  by_cases h : b = p
  · subst h; rw [upd_same, upd_same]
  · rw [upd_ne h, upd_ne h, upd_ne h]
theorem merge_kv : ∀ (ks2 : List (List Nat)) (vs2 : List V) (ks : List (List Nat)) (vs : List V), ks.length = vs.length → ks2.length = vs2.length → (ks ++ ks2).Nodup → mergeK (kvK ks vs) (kvK ks2 vs2) = kvK (ks ++ ks2) (vs ++ vs2)
  | [], [], ks, vs, _, _, _ => by simp [mergeK, kvK]
  | [], v :: vs2, ks, vs, _, h, _ => by simp at h
  | k :: ks2, [], ks, vs, _, h, _ => by simp at h
  | k :: ks2, v :: vs2, ks, vs, h1, h2, h3 => by
    have hk : k ∉ ks := fun m => by
      rw [List.nodup_append] at h3
      exact h3.2.2 k m k (by simp) rfl
    have e : kvK (k :: ks2) (v :: vs2) = (Sum.inr (S k), v) :: kvK ks2 vs2 := rfl
    have ih := merge_kv ks2 vs2 (ks ++ [k]) (vs ++ [v]) (by simp [h1]) (by simpa using h2) (by simpa using h3)
    unfold mergeK at ih ⊢
    rw [e, List.foldl_cons]
    show List.foldl _ (putK (kvK ks vs) (Sum.inr (S k)) v) _ = _
    rw [kvK_new k v ks vs h1 hk, ih]
    simp
def eDctC (ks : List (List Nat)) (js : List Int) : ME := fun env h => .ok (.v (.dct ks (js.map D.int))) env h
section
variable {F : Fr} {e a b c : Expr} {es : List Expr} {pos : Pos} {X : Cx} {W : WX} {Hk : Hp} {gk g : Gh} {σ : L2.St} {env : Ev} {h : MH} {H : Hp}
theorem cps_run {keys : List (Option Expr)} {values : List Expr} {ks : List (List Nat)} {js : List Int} (c : CPs keys values ks js) : ∃ trs, PPs X pos keys values trs ∧ keys.all (·.isSome) = true ∧ keys.length = values.length ∧ keys.length = ks.length ∧ ks.length = js.length ∧
    ∀ (σ : L2.St) (H : Hp) (Q : List (V × V) → Hp → Prop), Q ((kvK ks (js.map V.int)).map fun kv => (kV kv.1, kv.2)) H → tPairs trs σ H Q := by
  induction c with
  | nil => exact ⟨[], pps_nil, rfl, rfl, rfl, rfl, fun σ H Q q => q⟩
  | @cons x k j i1 i2 p1 p2 ks vs a b hx r ih =>
    obtain ⟨trs, t1, t2, t3, t4, t5, t6⟩ := ih
    refine ⟨(tC (.str x), tC (.int j)) :: trs, pps_cons pe_str pe_int t1, by simpa using t2, by simp [t3], by simp [t4], by simp [t5], fun σ H Q q => ?_⟩
    refine t6 σ H (fun ps H3 => Q ((V.str x, V.int j) :: ps) H3) ?_
    subst hx
    exact q
theorem se_dctC {keys : List (Option Expr)} {values : List Expr} {ks : List (List Nat)} {js : List Int} (c : CPs keys values ks js) (hn : ks.Nodup := by decide) (h0 : keys ≠ [] := by simp) (h15 : keys.length ≤ 15 := by decide) : SE F (.Dict keys values pos) (eDctC ks js) := fun X W gd tk Hk gk σ env h g H Q at_ p => by
  obtain ⟨trs, t1, t2, t3, t4, t5, t6⟩ := cps_run (X := X) (pos := pos) c
  refine uE_of (pe_disp t1 t2 t3 h0 h15) ?_
  intro q hq
  refine t6 _ _ _ ?_
  refine ⟨upd_same, kvK ks (js.map V.int), rfl, ?_, ?_⟩
  · unfold kvK
    rw [List.length_zip, List.length_map, List.length_map, ← t5, Nat.min_self, ← t4]
    exact h15
  · have m := merge_kv ks (js.map V.int) [] [] rfl (by simp [t5]) (by simpa using hn)
    rw [show kvK [] [] = [] from rfl] at m
    rw [m, upd_upd2]
    have gr := grow_fr (o := .dK (kvK ([] ++ ks) ([] ++ js.map V.int))) at_.hat hq
    refine p _ _ (gr.fstep at_.hat).toStep (gr.at at_) _ ?_
    show Rep _ _ _ _ _ (.dct ks (js.map D.int))
    simp only [Rep]
    exact ⟨q, js.map V.int, rfl, .inr ⟨.inr rfl, upd_same⟩, ints_reps js⟩
theorem se_dct0 : SE F (.Dict [] [] pos) (eDctC [] []) := fun X W gd tk Hk gk σ env h g H Q at_ p => by
  refine uE_of pe_dnewK ?_
  intro q hq
  have gr := grow_fr (o := .dK []) at_.hat hq
  refine p _ _ (gr.fstep at_.hat).toStep (gr.at at_) _ ?_
  show Rep _ _ _ _ _ (.dct [] [])
  simp only [Rep]
  exact ⟨q, [], rfl, .inr ⟨.inr rfl, upd_same⟩, Reps.nil⟩
/-- {..}.get(k, x) -/
def eGetC (ks : List (List Nat)) (js : List Int) (mk mx : MV) : ME := fun env h => (mk env h).bind fun k env h => (mx env h).bind fun x env h => match k with
  | .str s => .ok (.v (((ks.zip (js.map D.int)).lookup s).getD x)) env h
  | _ => .no
theorem zip_lookup_ints (s : List Nat) : ∀ (ks : List (List Nat)) (js : List Int), (ks.zip (js.map V.int)).lookup s = ((ks.zip js).lookup s).map V.int ∧ (ks.zip (js.map D.int)).lookup s = ((ks.zip js).lookup s).map D.int
  | [], js => by simp
  | k :: ks, [] => by simp
  | k :: ks, j :: js => by
    have ih := zip_lookup_ints s ks js
    simp only [List.map_cons, List.zip_cons_cons, List.lookup_cons]
    cases s == k <;> simp [ih]
theorem se_getC {keys : List (Option Expr)} {values : List Expr} {ks : List (List Nat)} {js : List Int} {mk mx : MV} {dpos apos : Pos} (cp : CPs keys values ks js) (hk : SV F a mk) (hx : SV F b mx) (hn : ks.Nodup := by decide) (h0 : keys ≠ [] := by simp) (h15 : keys.length ≤ 15 := by decide)
    (m1 : ∀ env, attributeBase (.Dict keys values dpos) "get" env (eval (.Dict keys values dpos) env) = eval (.Dict keys values dpos) env := by intros; rfl)
    (m2 : ∀ env, ((backTo pos (starEach [a, b] env)).all (fun x => !x.1) && (backToKw pos (keywordEach [] env)).all (fun x => x.1.isSome) && decide (([a, b] : List Expr).length + ([] : List Keyword).length + (if ([] : List Keyword).isEmpty then 0 else 1) < 30)) = true := by intros; rfl)
    (m3 : (apos.endLine == pos.line) = true := by rfl) (m4 : ∀ env, backTo pos (starEach [a, b] env) = [(false, eval a env), (false, eval b env)] := by intros; rfl) :
    SE F (.Call (.Attribute (.Dict keys values dpos) "get" apos) [a, b] [] pos) (eGetC ks js mk mx) := fun X W gd tk Hk gk σ env h g H Q at_ p => by
  obtain ⟨trs, t1, t2, t3, t4, t5, t6⟩ := cps_run (X := X) (pos := dpos) cp
  refine uE_of (pe_dget2 (by have := gd.units; omega) (pe_disp t1 t2 t3 h0 h15) pe_u pe_u ⟨m1 _, m2 _, m3, m4 _⟩) ?_
  intro q hq
  refine t6 _ _ _ ?_
  refine ⟨upd_same, kvK ks (js.map V.int), rfl, ?_, ?_⟩
  · unfold kvK
    rw [List.length_zip, List.length_map, List.length_map, ← t5, Nat.min_self, ← t4]
    exact h15
  · have m := merge_kv ks (js.map V.int) [] [] rfl (by simp [t5]) (by simpa using hn)
    rw [show kvK [] [] = [] from rfl, List.nil_append, List.nil_append] at m
    rw [m, upd_upd2]
    have gr := grow_fr (o := .dK (kvK ks (js.map V.int))) at_.hat hq
    have st := (gr.fstep at_.hat).toStep
    refine ⟨q, rfl, .inl ⟨_, .inl upd_same⟩, ?_⟩
    refine hk.go gd tk (gr.at at_) (post.step st p) fun kd env1 h1 g1 H1 y s1 a1 ry p1 => ?_
    refine hx.go gd tk a1 p1 fun xd env2 h2 g2 H2 z s2 a2 rz p2 => ?_
    split at p2
    · rename_i s
      simp only [Rep] at ry
      subst ry
      have hq2 : H2 q = some (.dK (kvK ks (js.map V.int))) := by
        rw [(s1.trans s2).st q (.inr rfl)]
        exact upd_same
      refine ⟨_, DGet.k (k := Sum.inr (S s)) hq2, ?_⟩
      rw [valV_kv]
      have zl := zip_lookup_ints s ks js
      refine p2 g2 H2 (Step.refl _ _) a2 _ ?_
      rw [zl.1, zl.2]
      cases (ks.zip js).lookup s with
      | none => exact rz
      | some j => simp [RR, Rep]
    · exact p2.elim
end
end Mi
end
section
set_option Elab.async false
set_option linter.all false
set_option maxRecDepth 100000
set_option maxHeartbeats 1000000
open PySem PySem.Spec PyProof.Rows L2
namespace Mi
/-! ## f(a, b, c) of names, an own list lent -/
def lent (env : Ev) (i : Nat) : Option D := match env[i]? with
  | some (.v d) => some d
  | some (.own ds) => some (.lst ds)
  | _ => none
def flatH (h : MH) : Bool := h.all fun o => match o with
  | .lst ds => ds.all flatD
def eBor3 (mf : MF) (i j k : Nat) : ME := fun env h => match lent env i, lent env j, lent env k with
  | some a, some b, some c => (match mf [a, b, c] h with
    | .ok (.v d) h' => if flatD d = true ∧ flatH h' = true then .ok (.v d) env h' else .no
    | _ => .no)
  | _, _, _ => .no
theorem flat_rep {K : PySem.W.Frag} {w : World} {g g' : Gh} {H H' : Hp} {d : D} (f : flatD d = true) {x : V} (r : Rep K w g H x d) : Rep K w g' H' x d := by
  cases d <;> simp [flatD] at f <;> simpa [Rep] using r
theorem flat_reps {K : PySem.W.Frag} {w : World} {g g' : Gh} {H H' : Hp} : ∀ {ds : List D}, ds.all flatD = true → ∀ {vs : List V}, Reps K w g H vs ds → Reps K w g' H' vs ds
  | [], _, vs, r => by rw [Reps.nil_iff] at r; subst r; exact Reps.nil
  | d :: ds, f, vs, r => by
    simp only [List.all_cons, Bool.and_eq_true] at f
    rw [Reps.cons_iff] at r
    obtain ⟨v, r', rfl, h1, h2⟩ := r
    exact Reps.cons (flat_rep f.1 h1) (flat_reps f.2 h2)
section
variable {K : PySem.W.Frag} {w : World} {mg : Str → Option Value} {W : WX} {Hk : Hp} {gk : Gh} {σ : L2.St} {g g1 g' : Gh} {H H1 H' : Hp} {env : Ev} {h h' : MH}
/-- a lent value: frozen for the call's time -/
theorem At.lend (aS : At K w mg Hk gk σ env h g H) {i : Nat} {d : D} (e : lent env i = some d) : ∃ x, σ[i]? = some (some x) ∧ (Rep K w g H x d ∨ ∃ (a : Addr) (ds : List D) (vs : List V), d = .lst ds ∧ x = .ref a ∧ H a = some (.lst vs) ∧ Reps K w g H vs ds ∧ OwnAt K w Hk g H a ds) := by
  unfold lent at e
  split at e
  · rename_i d' e'
    cases e
    obtain ⟨x, h1, h2⟩ := aS.val i _ e'
    exact ⟨x, h1, .inl h2⟩
  · rename_i ds e'
    cases e
    obtain ⟨x, h1, h2⟩ := aS.own i _ e'
    obtain ⟨vs, h3, h4⟩ := h2.at_
    exact ⟨_, h1, .inr ⟨x, ds, vs, rfl, rfl, h3, h4, h2⟩⟩
  · cases e
/-- ghosts with these addresses frozen, too -/
def Gh.mo (g : Gh) (B : Addr → Prop) : Gh := ⟨fun b => g.Fz b ∨ B b, g.ρ, g.top⟩
theorem step_mo (g : Gh) (H : Hp) (B : Addr → Prop) : Step g H (g.mo B) H := ⟨fun b f => .inl f, fun _ _ => rfl, Nat.le_refl _, fun _ _ => rfl⟩
theorem hat_mo (hat : HAt K w h g H) {B : Addr → Prop} (hb : ∀ b, B b → H b ≠ none ∧ ∀ n, n < g.top → g.ρ n ≠ b) : HAt K w h (g.mo B) H := by
  refine ⟨hat.top, fun b f => ?_, fun n o e => ?_, hat.inj⟩
  · rcases f with f | f
    · exact hat.fz b f
    · exact (hb b f).1
  · obtain ⟨h1, h2⟩ := hat.obj n o e
    refine ⟨ORep.step (step_mo g H B) (fun _ q => q) h1, fun f => ?_⟩
    rcases f with f | f
    · exact h2 f
    · exact (hb _ f).2 n (by rw [hat.top]; exact (List.getElem?_eq_some_iff.mp e).1) rfl
def Gh.le (g : Gh) (g0 : Gh) (B : Addr → Prop) : Gh := ⟨fun b => g.Fz b ∧ (g0.Fz b ∨ ¬ B b), g.ρ, g.top⟩
/-- behind the call the lent lists are the owner's again -/
theorem unlend (hat : HAt K w h g H) {B : Addr → Prop} {g2 : Gh} {H2 : Hp} (fs : FStep (g.mo B) H g2 H2) (hat2 : HAt K w h' g2 H2) (fl : flatH h' = true) : FStep g H (g2.le g B) H2 ∧ HAt K w h' (g2.le g B) H2 := by
  refine ⟨⟨⟨fun b f => ⟨fs.fz b (.inl f), .inl f⟩, fun b f => fs.st b (.inl f), fs.top, fs.ρ⟩, fs.keep, fs.newρ, fun b f => ?_⟩, ⟨hat2.top, fun b f => hat2.fz b f.1, fun n o e => ?_, hat2.inj⟩⟩
  · rcases fs.newF b f.1 with q | q
    · rcases q with q | q
      · exact .inl q
      · rcases f.2 with z | z
        · exact .inl z
        · exact absurd q z
    · exact .inr q
  · obtain ⟨h1, h2⟩ := hat2.obj n o e
    refine ⟨?_, fun f => h2 f.1⟩
    have fo := List.all_eq_true.mp fl o (List.mem_of_getElem? e)
    cases o with
    | lst ds =>
      obtain ⟨vs, h3, h4⟩ := h1
      exact ⟨vs, h3, flat_reps fo h4⟩
end
section
variable {F : Fr} {pos : Pos}
theorem se_bor3 {x n1 n2 n3 : Str} {i j k : Nat} {mf : MF} {p p1 p2 p3 : Pos} (hf : FnF F x 3 mf) (hcm : F.cm = true := by rfl) (hg : F.sc.names.lookup x = some .globalImplicit := by rfl) (hdb : (x == ("__debug__" : Str)) = false := by decide)
    (N1 : F.N[i]? = some n1 := by rfl) (V1 : Vis F.sc n1 := by first | exact Or.inl rfl | exact Or.inr (Or.inl rfl) | exact Or.inr (Or.inr rfl)) (D1 : (n1 == ("__debug__" : Str)) = false ∧ (n1 == ("__classdict__" : Str)) = false := by decide)
    (N2 : F.N[j]? = some n2 := by rfl) (V2 : Vis F.sc n2 := by first | exact Or.inl rfl | exact Or.inr (Or.inl rfl) | exact Or.inr (Or.inr rfl)) (D2 : (n2 == ("__debug__" : Str)) = false ∧ (n2 == ("__classdict__" : Str)) = false := by decide)
    (N3 : F.N[k]? = some n3 := by rfl) (V3 : Vis F.sc n3 := by first | exact Or.inl rfl | exact Or.inr (Or.inl rfl) | exact Or.inr (Or.inr rfl)) (D3 : (n3 == ("__debug__" : Str)) = false ∧ (n3 == ("__classdict__" : Str)) = false := by decide)
    (s1 : ∀ env, starEach [.Name n1 p1, .Name n2 p2, .Name n3 p3] env = (false, eval (.Name n1 p1) env) :: starEach [.Name n2 p2, .Name n3 p3] env := by intros; rfl) (s2 : ∀ env, starEach [.Name n2 p2, .Name n3 p3] env = (false, eval (.Name n2 p2) env) :: starEach [.Name n3 p3] env := by intros; rfl)
    (s3 : ∀ env, starEach [.Name n3 p3] env = (false, eval (.Name n3 p3) env) :: starEach [] env := by intros; rfl) (hpl : ∀ env, (backTo pos (starEach [.Name n2 p2, .Name n3 p3] env)).any (·.1) = false := by intros; rfl) :
    SE F (.Call (.Name x p) [.Name n1 p1, .Name n2 p2, .Name n3 p3] [] pos) (eBor3 mf i j k) := fun X W gd tk Hk gk σ env h g H Q at_ pp => by
  obtain ⟨f, fd, ps, G, hm, kp, bd⟩ := hf
  have G' : FnG X.prog X.w X.K X.mg X.base (L2N.CX X.prog X.w) F.k f fd ps (spM X.K X.w X.mg 3 mf) := by rw [gd.prog, gd.w, gd.K, gd.mg, gd.base]; exact G
  have pv : ∀ {m : Nat} {n : Str} {q : Pos}, F.N[m]? = some n → Vis F.sc n → (n == ("__debug__" : Str)) = false ∧ (n == ("__classdict__" : Str)) = false → PE X (.Name n q) (tVar m) := fun hN hv hd => pe_var (by rw [gd.N]; exact hN) (by rw [gd.sc]; exact hv) hd.1 hd.2
  refine uE_of (pe_callG (E := WE (fun _ _ _ _ => False)) G' (gd.room hcm) gd.gds (by show X.env.scope.names.lookup x = _; rw [gd.sc]; exact hg) (by rw [gd.mg]; exact hm) (by rw [gd.K]; exact kp) (by rw [gd.K]; exact bd) (fun σ => L2N.passAt takes0 σ)
    (pa_cons (pv N1 V1 D1) (pa_cons (pv N2 V2 D2) (pa_cons (pv N3 V3 D3) pa_nil (s3 _)) (s2 _)) (s1 _)) hdb (s1 _) (hpl _)) ?_
  unfold eBor3 at pp
  split at pp
  · rename_i a b c ea eb ec
    obtain ⟨x1, e1, r1⟩ := at_.lend ea
    obtain ⟨x2, e2, r2⟩ := at_.lend eb
    obtain ⟨x3, e3, r3⟩ := at_.lend ec
    let B : Addr → Prop := fun q => (x1 = .ref q ∧ ∃ ds, OwnAt X.K X.w Hk g H q ds) ∨ (x2 = .ref q ∧ ∃ ds, OwnAt X.K X.w Hk g H q ds) ∨ (x3 = .ref q ∧ ∃ ds, OwnAt X.K X.w Hk g H q ds)
    have hB : ∀ q, B q → H q ≠ none ∧ ∀ n, n < g.top → g.ρ n ≠ q := fun q hq => by
      have : ∃ ds, OwnAt X.K X.w Hk g H q ds := by
        rcases hq with ⟨_, z⟩ | ⟨_, z⟩ | ⟨_, z⟩ <;> exact z
      obtain ⟨ds, o⟩ := this
      obtain ⟨vs, h3, _⟩ := o.at_
      exact ⟨by rw [h3]; exact (fun z => nomatch z), o.nρ⟩
    have hatB := hat_mo at_.hat hB
    have stB := step_mo g H B
    have rep : ∀ {y : V} {d : D}, (∀ q ds, y = .ref q → OwnAt X.K X.w Hk g H q ds → B q) → (Rep X.K X.w g H y d ∨ ∃ (a : Addr) (ds : List D) (vs : List V), d = .lst ds ∧ y = .ref a ∧ H a = some (.lst vs) ∧ Reps X.K X.w g H vs ds ∧ OwnAt X.K X.w Hk g H a ds) → Rep X.K X.w (g.mo B) H y d := fun {y d} hb r => by
      rcases r with r | ⟨q, ds, vs, rfl, rfl, l1, l2, l3⟩
      · exact r.step stB
      · simp only [Rep]
        exact ⟨q, vs, rfl, .inl ⟨.inr (hb q ds rfl l3), .inl l1⟩, l2.step stB⟩
    refine ⟨x1, e1, x2, e2, x3, e3, rfl, g.mo B, [a, b, c], h, hatB, Reps.cons (rep (fun q ds z o => .inl ⟨z, ds, o⟩) r1) (Reps.cons (rep (fun q ds z o => .inr (.inl ⟨z, ds, o⟩)) r2) (Reps.cons (rep (fun q ds z o => .inr (.inr ⟨z, ds, o⟩)) r3) Reps.nil)), ?_⟩
    split at pp
    · rename_i d h' em
      rw [em]
      split at pp
      · rename_i fl
        intro v g2 H2 fs hat2 rf
        obtain ⟨u1, u2⟩ := unlend at_.hat fs hat2 fl.2
        exact pp _ H2 u1.toStep (at_.fstep u1 u2) v (flat_rep fl.1 rf)
      · exact pp.elim
    · exact pp.elim
  · exact pp.elim
end
end Mi
end
section
set_option Elab.async false
set_option linter.all false
set_option maxRecDepth 100000
set_option maxHeartbeats 1000000
namespace Mi
open PySem PySem.W PySem.Calls PyProof.Rows PySem.HandSPX
open L2 (defArgs defBody defScope)
/-- the first def of a class -/
def clsFn (st : Stmt) : Stmt := match st with
  | .ClassDef (body := b :: _) .. => b
  | s => s
theorem xt_of {prog : Program} {h : Heap} {K : Frag} {mg : Str → Option Value} (KX : K.In h) (G : h.Ns mainGlobals mg) {x f : Str} {st : Stmt} {C fI cc cda N : Addr} {nm q qn : Str} {bs bm : List Value} {sn : List Str} {sub : List Value} {ab : Bool} {col : Option Bool} {dd : Option Addr} {k0 k1 k2 k3 k5 : Option Value}
    {oc doc pm ct cl ccl : Value} {od an cld cdd : Option Addr} {osl csl ccs : Array (Option Value)} {vs : Array Value} {file msg : Str} {tf : Tok} {i : Nat} {p1 p2 a0 a1 a2 a3 a4 a5 q1 q2 q3 q4 : Pos}
    (aC : nsIn K mainGlobals x = some (some (.ref C))) (xC : K.lookup C = some (excClassObj nm q C N bs bm true sn sub ab col dd k0 k1 k2 k3 k5 "ValueError.__new__")) (rv : refsVE bm = true) (al : alongIn K "__init__" bm = some (some (.builtin "ValueError.__init__")))
    (sa : findIn K (.ref C) "__setattr__" = some (some (.builtin "object.__setattr__"))) (ga : findIn K (.ref C) "__getattribute__" = some (some (.builtin "BaseException.__getattribute__"))) (gg : findIn K (.ref C) "__getattr__" = some none) (noN : findIn K (.ref C) f = some none)
    (iC : findIn K (.ref C) "__init__" = some (some (.ref fI))) (tC : typeIn K (.ref fI) = some (.type "function")) (kC : keepIn K (.ref C) = true) (exC : subIn K (.ref C) (.type "BaseException") = some true) (veC : subIn K (.ref C) (.type "ValueError") = some true)
    (tyC : typeIn K (.ref C) = some (.type "type")) (hdC : hasDictIn K C = true) (opq : nsIn K cStatics "thirdparty.any" = some none) (l : K.lookup fI = some ⟨oc, od, .func (ksFn "__init__" qn (defArgs st) (defBody st) (defScope st) .none .none doc pm an (.ref cda) ct cc), osl⟩) (c : codeIn K (.ref cda) qn = true)
    (cel : K.lookup cc = some ⟨cl, cld, .cell (some (.ref C)), csl⟩) (cod : K.lookup cda = some ⟨ccl, cdd, .fields vs, ccs⟩) (vs2 : vs[2]? = some (.str file tf)) (fl : ((prog.main.file : Str) == file) = true) (sup : nsIn K mainGlobals "super" = some none) (top : (prog.main.scope.names.lookup ("super" : Str)).isSome = false)
    (nf : (f == ("self" : Str)) = false ∧ (f == ("__class__" : Str)) = false ∧ (f == ("super" : Str)) = false ∧ (f == ("__debug__" : Str)) = false)
    (ea : defArgs st = xA f p1 p2) (eb : defBody st = xB f msg i a0 a1 a2 a3 a4 a5 q1 q2 q3 q4) (es : defScope st = xS f) (hp : (a2.endLine == a4.line) = true)
    (hb : ∀ (qn : Str) (doc pm : Value) (an : Option Addr) (cda : Addr) (ct : Value) (cc : Addr) (u v : Value), bindArgs (ksFn "__init__" qn (defArgs st) (defBody st) (defScope st) .none .none doc pm an (.ref cda) ct cc) ⟨[u, v], []⟩ = pure [(("self" : Str), u), (f, v)]) : XT prog K mg x f C fI cc cda := by
  rw [ea, eb, es] at l hb
  exact { gC := mg_of KX G aC, cls := ⟨nm, q, N, bs, bm, sn, sub, ab, col, dd, k0, k1, k2, k3, k5, xC, rv, al⟩, sa := sa, ga := ga, gg := gg, noN := noN, iC := iC, tC := tC, kC := kC, exC := exC, veC := veC, tyC := tyC, hdC := hdC, opq := opq,
          cel := ⟨cl, cld, csl, cel⟩, cod := ⟨ccl, cdd, vs, ccs, file, tf, cod, vs2, fl⟩, sup := mg_none_of KX G sup, top := top, nf := nf,
          fn := ⟨oc, od, doc, pm, an, ct, osl, qn, msg, i, p1, p2, a0, a1, a2, a3, a4, a5, q1, q2, q3, q4, l, c, hp, fun s u v => BindsTo.of_eq (hb _ _ _ _ _ _ _ u v)⟩ }
abbrev adr {mg : Str → Option Value} {x : Str} {C : Addr} (_ : mg x = some (.ref C)) : Addr := C
theorem mg_cls {h : Heap} {K : Frag} {mg : Str → Option Value} (KX : K.In h) (G : h.Ns mainGlobals mg) {x : Str} {C : Addr} (a : nsIn K mainGlobals x = some (some (.ref C))) : mg x = some (.ref C) := PySem.W.mg_of KX G a
/-- an exception of the class at D, a clause for the class at C -/
theorem exm_mk {K : Frag} {mg : Str → Option Value} {x y : Str} {D C : Addr} {b : Bool} (t : typeIn K (.ref D) = some (.type "type")) (gD : mg x = some (.ref D)) (gC : mg y = some (.ref C)) (h1 : subIn K (.ref C) (.type "BaseException") = some true) (h2 : hasDictIn K C = true)
    (h3 : typeIn K (.ref C) = some (.type "type")) (h4 : subIn K (.ref D) (.ref C) = some b) : exmOne K (.ref D) (.ref C) = some b := exm_ref h1 h2 h3 h4
theorem xi_of {prog : Program} {K : Frag} {mg : Str → Option Value} {x f : Str} {C fI cc cda : Addr} (T : XT prog K mg x f C fI cc cda) (ha : findIn K (.ref C) "__class__" = some (some (.builtin "object.__class__")))
    (hn : specialIn K (.builtin "object.__class__") "__get__" = some (some (.builtin "getset_descriptor.__get__"))) (ht : takesIn K (.builtin "object.__class__") = some true) : XI K C := by
  obtain ⟨nm, q, N, bs, bm, sn, sub, ab, col, dd, k0, k1, k2, k3, k5, hC, hbm, hal⟩ := T.cls
  have hcl : clsIn K C = some { name := nm, bases := bs, mro := .ref C :: bm, ns := N, qualname := q, hasDict := true, slotNames := sn, subclasses := sub, abstract := ab, collection := col, hasDel := false } := by unfold clsIn; rw [hC] <;> rfl
  refine ⟨by rw [hcl]; rfl, T.ga, T.gg, T.exC, ha, hn, ht, ?_, T.hdC⟩
  unfold mroIn
  rw [hcl, Option.bind_some, if_neg (by simp)]
  have := refsVE_contains "object" bm hbm
  simp only [List.contains_cons, this]
  rfl
/-- isinstance of an exception of the class at D: the class at C -/
theorem kit_mk {K : Frag} {D C : Addr} {b : Bool} (h2 : hasDictIn K C = true) (h3 : typeIn K (.ref C) = some (.type "type")) (h4 : subIn K (.ref D) (.ref C) = some b) (h5 : D = C → b = true) : kitOne K (.ref D) (.ref C) = some b := by
  obtain ⟨cd, hc, _⟩ := any_some h2
  unfold kitOne
  by_cases e : D = C
  · subst e
    rw [if_pos (by simp), h5 rfl]
  · rw [if_neg (by simp [e])]
    show (if ((clsIn K C).isSome && typeIn K (.ref C) == some (.type "type")) = true then subIn K (.ref D) (.ref C) else none) = _
    rw [if_pos (by rw [hc, h3]; rfl)]
    exact h4
theorem kit_ve {K : Frag} {D : Addr} (h4 : subIn K (.ref D) (.type "ValueError") = some true) : kitOne K (.ref D) (.type "ValueError") = some true := by
  unfold kitOne
  rw [if_neg (by simp)]
  show (if kitMeta "ValueError" = true then subIn K (.ref D) (.type "ValueError") else none) = _
  rw [if_pos (by decide)]
  exact h4
end Mi
end
section
set_option Elab.async false
set_option linter.all false
set_option maxRecDepth 100000
set_option maxHeartbeats 1000000
open PySem PySem.Spec PyProof.Rows L2
namespace Mi
/-! ## isinstance(e, ValueError) -/
section
variable {F : Fr} {pos : Pos}
theorem se_xisT {n cx : Str} {T : String} {i : Nat} {subs others : List Str} {p p1 p2 : Pos} (hgi : F.sc.names.lookup ("isinstance" : Str) = some .globalImplicit := by rfl) (hmi : F.mg "isinstance" = none) (hm : F.mg cx = none) (hvT : bootBuiltins cx = some (.type T) := by decide +kernel)
    (hsub : ∀ nm ∈ subs, ∃ D, F.mg nm = some (.ref D) ∧ XI F.K D ∧ PySem.W.kitOne F.K (.ref D) (.type T) = some true) (hoth : ∀ nm ∈ others, ∃ D, F.mg nm = some (.ref D) ∧ XI F.K D ∧ PySem.W.kitOne F.K (.ref D) (.type T) = some false)
    (hN : F.N[i]? = some n := by rfl) (hv : Vis F.sc n := by first | exact Or.inl rfl | exact Or.inr (Or.inl rfl) | exact Or.inr (Or.inr rfl)) (hg : F.sc.names.lookup cx = some .globalImplicit := by rfl)
    (hd1 : (n == ("__debug__" : Str)) = false := by decide) (hd2 : (n == ("__classdict__" : Str)) = false := by decide) (hd3 : (cx == ("__debug__" : Str)) = false := by decide) (hd4 : cx ≠ "__name__" := by decide)
    (he : ∀ env, starEach [.Name n p1, .Name cx p2] env = (false, eval (.Name n p1) env) :: starEach [.Name cx p2] env := by intros; rfl) (he2 : ∀ env, starEach [.Name cx p2] env = (false, eval (.Name cx p2) env) :: starEach [] env := by intros; rfl) (hpl : ∀ env, (backTo pos (starEach [.Name cx p2] env)).any (·.1) = false := by intros; rfl) :
    SE F (.Call (.Name "isinstance" p) [.Name n p1, .Name cx p2] [] pos) (eXis i subs others) := fun X W gd tk Hk gk σ env h g H Q at_ pp => by
  refine uE_of (pe_callB call_xis (by show X.env.scope.names.lookup _ = _; rw [gd.sc]; exact hgi) (by rw [gd.mg]; exact hmi) (by decide +kernel)
    (pa_cons (pe_var (i := i) (by rw [gd.N]; exact hN) (by rw [gd.sc]; exact hv) hd1 hd2) (pa_cons (pe_ty gd hg hm hvT hd4 hd3) pa_nil (he2 _)) (he _)) (by decide) (by decide) (he _) (hpl _)) ?_
  unfold eXis at pp
  have key : ∀ (x : Xc) (b : Bool), env[i]? = some (.exc x) → (∃ D, F.mg x.cls = some (.ref D) ∧ XI F.K D ∧ PySem.W.kitOne F.K (.ref D) (.type T) = some b) → Q (.bl b) H →
      tCB (rXis X.K) (tCons (tVar i) (tCons (tC (.ty T)) tNil)) σ H Q := fun x b e hD q => by
    obtain ⟨D, d1, d2, d3⟩ := hD
    obtain ⟨a, h1, h2⟩ := at_.exc i x e
    obtain ⟨dx, vs, xi, _⟩ := h2.inst (D := D) (by rw [gd.mg]; exact d1)
    exact ⟨_, h1, a, D, dx, _, .ty T, .type T, b, rfl, xi, by rw [gd.K]; exact d2, fun u r => r, by rw [gd.K]; exact d3, q⟩
  split at pp
  · rename_i x e
    by_cases c1 : x.cls ∈ subs
    · rw [if_pos c1] at pp
      exact key x true e (hsub _ c1) (pp g H (Step.refl _ _) at_ _ (by simp [RR, Rep]))
    · rw [if_neg c1] at pp
      by_cases c2 : x.cls ∈ others
      · rw [if_pos c2] at pp
        exact key x false e (hoth _ c2) (pp g H (Step.refl _ _) at_ _ (by simp [RR, Rep]))
      · rw [if_neg c2] at pp
        exact pp.elim
  · exact pp.elim
/-! ## a, b, c = x, y, z -/
def sPar3 (i j l : Nat) (m : MA) : MS := fun env h => (m env h).bindS fun ds env h => match ds with
  | [a, b, c] => .nx (((env.set i (.v a)).set j (.v b)).set l (.v c)) h
  | _ => .no
theorem ss_par3 {i j l : Nat} {x y z : Str} {a b c : Expr} {m : MA} {px py pz pt : Pos} {kt k2 : Nat} {pt2 : Pos} (ha : SA F [a, b, c] m) (hcm : F.cm = true := by rfl) (hi : F.N[i]? = some x := by rfl) (hj : F.N[j]? = some y := by rfl) (hl : F.N[l]? = some z := by rfl) (hij : i ≠ j ∧ i ≠ l ∧ j ≠ l := by decide)
    (hx : F.sc.names.lookup x = some .local := by rfl) (hy : F.sc.names.lookup y = some .local := by rfl) (hz : F.sc.names.lookup z = some .local := by rfl)
    (hw : ∀ env : PySem.Env, env.scope = F.sc → swappedStores [.Tuple [.Name x px, .Name y py, .Name z pz] kt pt] (.Tuple [a, b, c] k2 pt2) env = pure (some [x, y, z]) := by exact fun ⟨_, _, _, _, _, _, _, _⟩ q => by cases q; rfl)
    (hs : ∀ env, swapsWithSole [.Tuple [.Name x px, .Name y py, .Name z pz] kt pt] (.Tuple [a, b, c] k2 pt2) pos.line env = pure false := by intros; rfl) :
    SS F (.Assign [.Tuple [.Name x px, .Name y py, .Name z pz] kt pt] (.Tuple [a, b, c] k2 pt2) pos) (sPar3 i j l m) := fun X W gd tk Hk gk σ env h g H Dn at_ p => by
  have hl' : ∀ {n : Str}, F.sc.names.lookup n = some .local → X.env.scope.names.lookup n = some .local := fun q => by rw [gd.sc]; exact q
  refine uS_of (ps_par3 (i := i) (j := j) (l := l) (gd.calm hcm) gd.nd (by rw [gd.N]; exact hi) (by rw [gd.N]; exact hj) (by rw [gd.N]; exact hl) hij.1 hij.2.1 hij.2.2 (hl' hx) (hl' hy) (hl' hz) pa_u (hw _ gd.sc) (hs _)) ?_
  show uA X [a, b, c] σ H fun vs H1 => ∃ u v w, vs = [u, v, w] ∧ Dn.nx (((σ.set i (some u)).set j (some v)).set l (some w)) H1
  refine ha.goS gd.toGood tk at_ p fun ds env1 h1 g1 H1 xs s1 a1 rs p1 => ?_
  split at p1
  · rename_i da db dc
    rw [Reps.cons_iff] at rs
    obtain ⟨v1, r1, rfl, q1, rs⟩ := rs
    rw [Reps.cons_iff] at rs
    obtain ⟨v2, r2, rfl, q2, rs⟩ := rs
    rw [Reps.cons_iff] at rs
    obtain ⟨v3, r3, rfl, q3, rs⟩ := rs
    rw [Reps.nil_iff] at rs
    subst rs
    refine ⟨v1, v2, v3, rfl, p1 _ g1 H1 (Step.refl _ _) ?_⟩
    exact ((a1.asg (r := .v da) i q1).asg (r := .v db) j q2).asg (r := .v dc) l q3
  · exact p1.elim
end
/-! ## tuple(text) -/
theorem tuple_str {X : Cx} (hh : X.A.handled = none) (s : List Nat) (hz : s.length ≤ sizeLine) : CallR X (.type "tuple") (fun xs H Q => xs = [.str (S s)] ∧ ∀ p, H p = none → Q (.ref p) (upd H p (.tup (s.map fun c => V.str ⟨#[c]⟩)))) := by
  intro pins st σ H xs us Q I r q
  obtain ⟨rfl, q⟩ := q
  obtain ⟨u, rfl, ru⟩ := vals1 r
  obtain ⟨t, rfl⟩ := ru
  refine call_tuple_str hh (S s) t (fun h' tk acc hk hacc => ?_) (by simp [S]; exact hz)
  have I1 : Inv X pins σ H { st with heap := h', toks := tk } := I.kept (t' := tk) hk
  have I2 : Inv X pins σ (upd H h'.objs.size (.tup (s.map fun c => V.str ⟨#[c]⟩))) { st with heap := h'.push { cls := .type "tuple", data := .seq acc }, toks := tk } :=
    I1.laid (t' := tk) (fun b o e => Heap.get?_push_of_some _ e) (Nat.le_refl _) (show ObjOk X.prog X.w _ _ _ (.tup _) from ⟨by rw [List.length_map]; exact hz, acc.toList, sign_vals s acc hacc, IsTup.new _ _⟩)
  exact ⟨.ref h'.objs.size, _, I2, rfl, q _ (I1.hok.fresh (Nat.le_refl _))⟩
def tupleSO (h : MH) (ds : List D) : Option R := match ds with
  | [.str s] => if s.length ≤ sizeLine then some (.v (.tup (chars s))) else none
  | ds => tupleO h ds
section
variable {F : Fr}
theorem ok_tupleS (hcm : F.cm = true := by rfl) : CallOk F (.type "tuple") tupleSO := fun X gd h g H hat xs ds r rs e Q k => by
  unfold tupleSO at e
  split at e
  · split at e
    · rename_i s hz
      cases e
      obtain ⟨x, rfl, rx⟩ := one_reps rs
      simp only [Rep] at rx
      subst rx
      exact uCl_of (tuple_str (gd.hdn hcm) s hz) ⟨rfl, fun p hp => k _ _ _ (grow_fr hat hp) (rep_newTup hat hp (chars_reps s))⟩
    · cases e
  · exact ok_tuple X gd h g H hat xs ds r rs e Q k
/-! ## {} == {}, repr({}) -/
def isD0 : D → Bool
  | .dct [] [] => true
  | _ => false
def eqXO (h : MH) (x y : D) : Option R := if isD0 x = true ∧ isD0 y = true then some (.v (.bl true)) else eqO h x y
theorem rep_d0 {K : PySem.W.Frag} {w : World} {g : Gh} {H : Hp} {x : V} {d : D} (e : isD0 d = true) (r : Rep K w g H x d) : ∃ a, x = .ref a ∧ H a = some (.dK []) := by
  unfold isD0 at e
  split at e
  · simp only [Rep] at r
    obtain ⟨a, vs, rfl, kd, _⟩ := r
    rcases kd with ⟨_, n⟩ | ⟨_, kd⟩
    · exact absurd rfl n
    · exact ⟨a, rfl, kd⟩
  · cases e
theorem ok_eqX : OpOk F (compareOp .Eq) eqXO := fun X gd h g H hat x y dx dy r rx ry e Q k => by
  unfold eqXO at e
  split at e
  · rename_i c
    cases e
    obtain ⟨a, rfl, ha⟩ := rep_d0 c.1 rx
    obtain ⟨b, rfl, hb⟩ := rep_d0 c.2 ry
    exact uOp_of (op_eq_dict (by have := gd.units; omega)) ⟨a, b, [], rfl, rfl, ha, hb, by simp, by simp, k _ g H (Grow.refl hat) (by simp [RN, Rep])⟩
  · exact ok_eq X gd h g H hat x y dx dy r rx ry e Q k
def reprXO (h : MH) : List D → Option R
  | [.dct [] []] => some (.v (.str [123, 125]))
  | ds => reprO h ds
theorem call_repr0 {X : Cx} (gds : X.A.guards = some []) (un : X.A.units + 70 < cLine) : CallR X (.builtin "repr") (fun xs H Q => ∃ a, xs = [.ref a] ∧ H a = some (.dK []) ∧ Q (.str (S [123, 125])) H) := by
  intro pins s σ H xs us Q I r z
  obtain ⟨a, rfl, ha, q⟩ := z
  obtain ⟨u, rfl, rx⟩ := vals1 r
  obtain rfl : u = Value.ref a := rx
  obtain ⟨_, ya, va, ra, o, es, ep, ho, ex, hd, ke, hp, nd⟩ := (show ObjOk X.prog X.w H s.heap a (.dK []) from I.hok a _ ha)
  cases ra
  have he : es.toList = [] := by
    have := hp.length
    simpa using this
  have rd : Reads s.heap (.ref a) (.dict []) ([a] ++ [] ++ []) := .dict (o := o) (es := es) (n := ep) ho ex.1 hd (by rw [he]; exact .nil) (by rw [he]; exact .nil)
  exact repr_of_reads' rd rfl (fun _ m => by simp at m; rw [m] at ya; simp at ya) gds (by simp [PyData.depth, PyData.depthKv]; omega) (fun _ _ e => e) (fun h' u tk k => ⟨.str _, H, I.kept k, ⟨_, rfl⟩, q⟩) (by decide)
theorem ok_reprX : CallOk F (.builtin "repr") reprXO := fun X gd h g H hat xs ds r rs e Q k => by
  unfold reprXO at e
  split at e
  · cases e
    obtain ⟨x, rfl, rx⟩ := one_reps rs
    obtain ⟨a, rfl, ha⟩ := rep_d0 rfl rx
    exact uCl_of (call_repr0 gd.gds gd.units2) ⟨a, rfl, ha, k _ g H (Grow.refl hat) (by simp [RN, Rep])⟩
  · exact ok_repr X gd h g H hat xs ds r rs e Q k
end
end Mi
end
section
set_option Elab.async false
set_option linter.all false
set_option maxRecDepth 100000
open PySem PySem.Spec PyProof.Rows L2
namespace Mi
/-! ## the calculus of the later words -/
def revR (d : D) (env : Ev) (h : MH) : Rs R := match d with
  | .str s => if s.length ≤ sizeLine then .ok (.v (.str s.reverse)) env h else .no
  | .lst ds => .ok (.own ds.reverse) env h
  | _ => .no
@[simp] theorem x_eRev (m : MV) (env : Ev) (h : MH) : eRev m env h = (m env h).bind fun d env h => revR d env h := rfl
@[simp] theorem revR_s (s : List Nat) (env : Ev) (h : MH) : revR (.str s) env h = if s.length ≤ sizeLine then .ok (.v (.str s.reverse)) env h else .no := rfl
@[simp] theorem x_eCompD (cap : List Nat) (t : Tg) (mi : MI) (mk mv : MV) (env : Ev) (h : MH) : eCompD cap t mi mk mv env h = (mi env h).bind fun ds env h => match compD t mk mv (mask cap 0 (frzE cap env)) ds h [] [] with
  | some (ks, acc, h') => .ok (.v (.dct ks acc)) (frzE cap env) h'
  | none => .no := rfl
@[simp] theorem x_compD0 (t : Tg) (mk mv : MV) (menv : Ev) (h : MH) (ks : List (List Nat)) (acc : List D) : compD t mk mv menv [] h ks acc = some (ks, acc, h) := rfl
theorem x_compDc {t : Tg} {mk mv : MV} {menv : Ev} {d : D} {ds : List D} {h : MH} {ks : List (List Nat)} {acc : List D} {e1 e2 e3 : Ev} {k : List Nat} {h2 h3 : MH} {y : D} (et : t d menv = some e1) (ek : mk e1 h = .ok (.str k) e2 h2) (ev : mv e2 h2 = .ok y e3 h3) (hk : k ∉ ks) (hz : ks.length < 65536) :
    compD t mk mv menv (d :: ds) h ks acc = compD t mk mv menv ds h3 (ks ++ [k]) (acc ++ [y]) := by
  rw [compD, et]
  dsimp only
  rw [ek]
  dsimp only
  rw [ev]
  dsimp only
  rw [if_pos ⟨hk, hz⟩]
@[simp] theorem x_eDctC (ks : List (List Nat)) (js : List Int) (env : Ev) (h : MH) : eDctC ks js env h = .ok (.v (.dct ks (js.map D.int))) env h := rfl
def getR (ks : List (List Nat)) (js : List Int) (k x : D) (env : Ev) (h : MH) : Rs R := match k with
  | .str s => .ok (.v (((ks.zip (js.map D.int)).lookup s).getD x)) env h
  | _ => .no
@[simp] theorem x_eGetC (ks : List (List Nat)) (js : List Int) (mk mx : MV) (env : Ev) (h : MH) : eGetC ks js mk mx env h = (mk env h).bind fun k env h => (mx env h).bind fun x env h => getR ks js k x env h := rfl
@[simp] theorem getR_s (ks : List (List Nat)) (js : List Int) (s : List Nat) (x : D) (env : Ev) (h : MH) : getR ks js (.str s) x env h = .ok (.v (((ks.zip (js.map D.int)).lookup s).getD x)) env h := rfl
@[simp] theorem x_sRaise (x f : Str) (m : MA) (env : Ev) (h : MH) : sRaise x f m env h = (m env h).bindS fun ds env h => match ds with
  | [d] => .err ⟨x, [f], [d]⟩ env h
  | _ => .no := rfl
@[simp] theorem x_sPar3 (i j l : Nat) (m : MA) (env : Ev) (h : MH) : sPar3 i j l m env h = (m env h).bindS fun ds env h => match ds with
  | [a, b, c] => .nx (((env.set i (.v a)).set j (.v b)).set l (.v c)) h
  | _ => .no := rfl
def xisR (s : Option Sl) (subs others : List Str) (env : Ev) (h : MH) : Rs R := match s with
  | some (.exc x) => if x.cls ∈ subs then .ok (.v (.bl true)) env h else if x.cls ∈ others then .ok (.v (.bl false)) env h else .no
  | _ => .no
@[simp] theorem x_eXis (i : Nat) (subs others : List Str) (env : Ev) (h : MH) : eXis i subs others env h = xisR env[i]? subs others env h := by unfold eXis xisR; rfl
@[simp] theorem xisR_exc (x : Xc) (subs others : List Str) (env : Ev) (h : MH) : xisR (some (.exc x)) subs others env h = if x.cls ∈ subs then .ok (.v (.bl true)) env h else if x.cls ∈ others then .ok (.v (.bl false)) env h else .no := rfl
def xfR (s : Option Sl) (cls : List Str) (f : Str) (env : Ev) (h : MH) : Rs R := match s with
  | some (.exc x) => if x.cls ∈ cls then (match (x.ks.zip x.ds).lookup f with
      | some d => .ok (.v d) env h
      | none => .no) else .no
  | _ => .no
@[simp] theorem x_eXf (i : Nat) (cls : List Str) (f : Str) (env : Ev) (h : MH) : eXf i cls f env h = xfR env[i]? cls f env h := by unfold eXf xfR; rfl
@[simp] theorem xfR_exc (x : Xc) (cls : List Str) (f : Str) (env : Ev) (h : MH) : xfR (some (.exc x)) cls f env h = if x.cls ∈ cls then (match (x.ks.zip x.ds).lookup f with
      | some d => .ok (.v d) env h
      | none => .no) else .no := rfl
/-- the suite's end -/
def wipR (i : Nat) : Fl → Fl
  | .nx e2 h2 => .nx (wipeX (e2.set i .un)) h2
  | .rt r e2 h2 => .rt r (wipeX (e2.set i .un)) h2
  | .bk e2 h2 => .bk (wipeX (e2.set i .un)) h2
  | .ct e2 h2 => .ct (wipeX (e2.set i .un)) h2
  | _ => .no
theorem sTry_nx {subs others : List Str} {mb ms : MS} {i : Nat} {env e1 : Ev} {h h1 : MH} (e : mb env h = .nx e1 h1) : sTry subs others mb i ms env h = .nx e1 h1 := by unfold sTry; rw [e]
theorem sTry_rt {subs others : List Str} {mb ms : MS} {i : Nat} {env e1 : Ev} {h h1 : MH} {r : R} (e : mb env h = .rt r e1 h1) : sTry subs others mb i ms env h = .rt r e1 h1 := by unfold sTry; rw [e]
theorem sTry_err {subs others : List Str} {mb ms : MS} {i : Nat} {env e1 : Ev} {h h1 : MH} {x : Xc} (e : mb env h = .err x e1 h1) (hx : x.cls ∈ subs) : sTry subs others mb i ms env h = wipR i (ms (e1.set i (.exc x)) h1) := by
  unfold sTry
  rw [e]
  dsimp only
  rw [if_pos hx]
  unfold wipR
  cases ms (e1.set i (.exc x)) h1 <;> rfl
@[simp] theorem x_eBor3 (mf : MF) (i j k : Nat) (env : Ev) (h : MH) : eBor3 mf i j k env h = (match lent env i, lent env j, lent env k with
  | some a, some b, some c => (match mf [a, b, c] h with
    | .ok (.v d) h' => if flatD d = true ∧ flatH h' = true then .ok (.v d) env h' else .no
    | _ => .no)
  | _, _, _ => .no) := rfl
section
variable (h : MH)
@[simp] theorem x_tupsl (xs : List D) : tupleSO h [.lst xs] = some (.v (.tup xs)) := rfl
@[simp] theorem x_tupst (xs : List D) : tupleSO h [.tup xs] = some (.v (.tup xs)) := rfl
@[simp] theorem x_tupss (s : List Nat) : tupleSO h [.str s] = if s.length ≤ sizeLine then some (.v (.tup (chars s))) else none := rfl
@[simp] theorem x_mulS (s : List Nat) (j : Int) : mulSO h (.str s) (.int j) = if 0 < s.length ∧ 2 ≤ j ∧ j.natAbs ≤ 10000 ∧ s.length ≤ 1000 then some (.v (.str (List.replicate j.toNat s).flatten)) else none := rfl
end
section
variable {F : Fr} {e : Expr} {pos : Pos}
theorem ss_asgC {t : Expr} {vs : List Nat} {m : MV} {tm : Tg} (hg : SG F t vs tm) (he : SV F e m) (hs : ∀ env, swapsWithSole [t] e pos.line env = pure false := by intros; rfl) (hw : ∀ env : PySem.Env, env.scope = F.sc → swappedStores [t] e env = pure none := by (intro env q; cases env; dsimp only at q; subst q; rfl)) (h1 : ∀ env, (assignEach [t] env).map (·.2) = [assign t env] := by intros; rfl) :
    SS F (.Assign [t] e pos) (sAsg tm m) := fun X W gd tk Hk gk σ env h g H Dn at_ p => by
  refine uS_of (ps_asg pe_u pg_u (hs _) (hw _ gd.sc) (h1 _)) ?_
  refine he.goS gd.toGood tk at_ p fun d env1 h1 g1 H1 x s1 a1 rx p1 => ?_
  split at p1
  · rename_i env2 e2
    exact hg X gd.toGood Hk gk σ env1 h1 g1 H1 x d env2 a1 rx e2 _ fun σ' _ a2 => p1 σ' g1 H1 (Step.refl _ _) a2
  · exact p1.elim
end
/-! s.index(c) of a sign -/
theorem at_one {s : List Nat} {c i : Nat} : StrLaws.At (S s) (S [c]) (S s).length i ↔ s[i]? = some c := by
  have := StrLaws.subAt_one (S s) c i
  rw [S_list] at this
  exact this
theorem x_index {h : MH} {s : List Nat} {c i : Nat} (hi : s[i]? = some c) (hn : ∀ k, k < i → s[k]? ≠ some c) : indexO h (.str s) [.str [c]] = some (.v (.int i)) := by
  unfold indexO
  dsimp only
  rcases StrLaws.occ_head (S s) (S [c]) 1 (Nat.le_refl _) with ⟨_, h2⟩ | ⟨j, r, h1, h2, h3⟩
  · exact absurd (at_one.mpr hi) (h2 i)
  · rw [h1]
    have h4 := at_one.mp h2
    have : j = i := by
      rcases Nat.lt_trichotomy j i with q | q | q
      · exact absurd h4 (hn j q)
      · exact q
      · exact absurd (at_one.mpr hi) (h3 i q)
    subst this
    rfl
theorem x_indexI {h : MH} {s : List Nat} {c : Nat} (hc : c ∈ s) : indexO h (.str s) [.str [c]] = some (.v (.int (s.idxOf c : Nat))) := by
  have hl := List.idxOf_lt_length_of_mem hc
  refine x_index (by rw [List.getElem?_eq_getElem hl, List.getElem_idxOf hl]) fun k hk e => ?_
  have h1 : k < s.length := by omega
  rw [List.getElem?_eq_getElem h1] at e
  have h2 := List.not_of_lt_findIdx (p := (· == c)) (xs := s) (by simpa [List.idxOf] using hk)
  simp at h2
  exact h2 (Option.some.inj e)
theorem fa_nil {α : Type} {p : α → Prop} : ∀ a ∈ ([] : List α), p a := fun _ h => nomatch h
theorem fa_cons {α : Type} {p : α → Prop} {a : α} {l : List α} (h : p a) (r : ∀ b ∈ l, p b) : ∀ b ∈ a :: l, p b := fun b m => by
  rcases List.mem_cons.mp m with rfl | m
  · exact h
  · exact r b m
/-! list(range(n)) -/
def lrgR (d : D) (env : Ev) (h : MH) : Rs R := match d with
  | .int j => if j.natAbs ≤ 65536 then .ok (.own (rangeD 0 j.toNat)) env h else .no
  | _ => .no
def eLRg (m : MV) : ME := fun env h => (m env h).bind fun d env h => lrgR d env h
@[simp] theorem x_eLRg (m : MV) (env : Ev) (h : MH) : eLRg m env h = (m env h).bind fun d env h => lrgR d env h := rfl
theorem lrgR_int {j : Int} (h1 : 0 ≤ j) (h2 : j ≤ 65536) (env : Ev) (h : MH) : lrgR (.int j) env h = .ok (.own (rangeD 0 j.toNat)) env h := by
  unfold lrgR
  exact if_pos (by omega)
section
variable {F : Fr} {a : Expr} {pos : Pos}
theorem rg_reps {K : PySem.W.Frag} {w : World} {g : Gh} {H : Hp} (j : Int) : Reps K w g H (rgV 0 j) (rangeD 0 j.toNat) := by
  have h := ints_reps (K := K) (w := w) (g := g) (H := H) ((List.range j.toNat).map fun i => (0 + (i : Nat) : Int))
  rw [List.map_map, List.map_map] at h
  unfold rgV rangeD
  rw [Int.sub_zero]
  exact h
theorem se_lrg {m : MV} {p p2 pos2 : Pos} (ha : SV F a m) (hcm : F.cm = true := by rfl) (hgl : F.sc.names.lookup ("list" : Str) = some .globalImplicit := by rfl) (hml : F.mg "list" = none) (hg : F.sc.names.lookup ("range" : Str) = some .globalImplicit := by rfl) (hm : F.mg "range" = none)
    (n1 : ∀ env, starEach [.Call (.Name "range" p2) [a] [] pos2] env = (false, eval (.Call (.Name "range" p2) [a] [] pos2) env) :: starEach [] env := by intros; rfl) (n2 : ∀ env, starEach [a] env = (false, eval a env) :: starEach [] env := by intros; rfl) :
    SE F (.Call (.Name "list" p) [.Call (.Name "range" p2) [a] [] pos2] [] pos) (eLRg m) := fun X W gd tk Hk gk σ env h g H Q at_ pp => by
  refine uE_of (pe_listRg (gd.calm hcm) (by show X.env.scope.names.lookup _ = _; rw [gd.sc]; exact hgl) (by rw [gd.mg]; exact hml) (prg_1 (by show X.env.scope.names.lookup _ = _; rw [gd.sc]; exact hg) (by rw [gd.mg]; exact hm) pe_u (n2 _)) (n1 _)) ?_
  show uE X a σ H fun x H1 => ∃ n, x = .int n ∧ RgOk 0 n ∧ ∀ q, H1 q = none → Q (.ref q) (upd H1 q (.lst (rgV 0 n)))
  refine ha.go gd tk at_ pp fun d env1 h1 g1 H1 x s1 a1 rx p1 => ?_
  unfold lrgR at p1
  split at p1
  · rename_i j
    split at p1
    · rename_i hj
      refine ⟨j, by simpa [Rep] using rx, ⟨by omega, by omega, by omega, by omega, by omega⟩, fun q nq => ?_⟩
      exact p1 _ _ ((grow_new a1.hat nq).fstep a1.hat).toStep ((grow_new a1.hat nq).at a1) _ ((rep_newLst a1.hat nq (rg_reps j)).rr a1 (grow_new a1.hat nq))
    · exact p1.elim
  · exact p1.elim
end
section
variable {F : Fr} {e a b c : Expr} {pos : Pos}
/-! ## a choice as a test; a comprehension stored in a captured name -/
def bIf (mc m n : MB) : MB := fun env h => (mc env h).bind fun b env h => if b = true then m env h else n env h
@[simp] theorem x_bIf (mc m n : MB) (env : Ev) (h : MH) : bIf mc m n env h = ((mc env h).bind fun b env h => if b = true then m env h else n env h) := rfl
theorem pt_ifx {X : Cx} {tc ta tb : TT} (hc : PT X c tc) (ha : PT X a ta) (hb : PT X b tb) : PT X (.IfExp c a b pos) (fun σ H Q => tc σ H fun d H1 => if d = true then ta σ H1 Q else tb σ H1 Q) := by
  refine ⟨fun pins s σ H Q I h => ?_⟩
  show wpAny _ _ (isTrue c X.env (eval c X.env) >>= fun d => if d = true then isTrue a X.env (eval a X.env) else isTrue b X.env (eval b X.env)) _ _ _
  refine wpAny_bind (thn (hc.run pins s σ H _ I h) fun d s1 ⟨H1, I1, q1⟩ => ?_)
  cases d with
  | true => exact ha.run pins s1 σ H1 Q I1 q1
  | false => exact hb.run pins s1 σ H1 Q I1 q1
theorem sb_ifx {mc m n : MB} (hc : SB F c mc) (ha : SB F a m) (hb : SB F b n) : SB F (.IfExp c a b pos) (bIf mc m n) := fun X W gd tk Hk gk σ env h g H Q at_ p => by
  refine uT_of (pt_ifx pt_u pt_u pt_u) ?_
  refine hc.go gd tk at_ p fun c env1 h1 g1 H1 s1 a1 p1 => ?_
  cases c with
  | true => rw [if_pos rfl] at p1 ⊢; exact ha X W gd tk Hk gk σ env1 h1 g1 H1 Q a1 p1
  | false => rw [if_neg (by decide)] at p1 ⊢; exact hb X W gd tk Hk gk σ env1 h1 g1 H1 Q a1 p1
theorem ss_setC {i : Nat} {x : Str} {m : ME} {pos' : Pos} (hN : F.N[i]? = some x := by rfl) (hx : F.sc.names.lookup x = some .local ∨ (F.sc.names.lookup x = some .cell ∧ F.fn x = true) := by first | exact Or.inl rfl | exact Or.inr ⟨rfl, rfl⟩) (he : SE F e m)
    (hs : ∀ env : PySem.Env, env.scope = F.sc → swapsWith e (some (.Name x pos')) pos.line env = pure false := by (intro env q; cases env; dsimp only at q; subst q; rfl)) :
    SS F (.Assign [.Name x pos'] e pos) (sSet i m) := fun X W gd tk Hk gk σ env h g H Dn at_ p => by
  have hl : X.fn x = true ∨ X.env.scope.names.lookup x = some .local := by
    rw [gd.sc]
    rcases hx with hx | hx
    · exact .inr hx
    · exact .inl (gd.fn x hx.2)
  refine uS_of (ps_set (i := i) gd.nd (by rw [gd.N]; exact hN) (by unfold L2.Loc; rw [gd.sc]; exact hx.imp id (·.1)) pe_u (hs _ gd.sc) hl) ?_
  exact he.goS gd.toGood tk at_ p fun r env1 h1 g1 H1 x s1 a1 rx p1 => p1 _ g1 H1 (Step.refl _ _) (a1.asg i rx)
end
end Mi
end
section
set_option Elab.async false
set_option linter.all false
set_option maxRecDepth 100000
namespace Mi
open PySem PySem.W PySem.Calls PyProof.Rows PySem.HandSPX
/-- kit_mk, with the exception's facts at hand -/
theorem kit_mk2 {P : Program} {K : Frag} {mg : Str → Option Value} {x f y : Str} {D fI cc cda C : Addr} {b : Bool} (T : XT P K mg x f D fI cc cda) (gC : mg y = some (.ref C)) (h2 : hasDictIn K C = true) (h3 : typeIn K (.ref C) = some (.type "type")) (h4 : subIn K (.ref D) (.ref C) = some b) (h5 : D = C → b = true) : kitOne K (.ref D) (.ref C) = some b := kit_mk h2 h3 h4 h5
end Mi
end
section
set_option Elab.async false
set_option linter.all false
set_option maxRecDepth 100000
set_option maxHeartbeats 1000000
open PySem PySem.Spec PyProof.Rows L2
namespace Mi
/-! ## a name's list handed on whole: return x -/
def eMov (i : Nat) : ME := fun env h => match env[i]? with
  | some (.own ds) => .ok (.own ds) (env.set i .un) h
  | some (.v d) => .ok (.v d) env h
  | _ => .no
/-! ## lists lent while an expression with a flat answer runs -/
def lendS : Sl → Sl
  | .own ds => .v (.lst ds)
  | .exc _ => .un
  | s => s
def flat2 : D → Bool
  | .tup ds => ds.all flatD
  | d => flatD d
def eLend (m : ME) : ME := fun env h => match m (env.map lendS) h with
  | .ok (.v d) _ h' => if flat2 d = true ∧ flatH h' = true then .ok (.v d) env h' else .no
  | _ => .no
def bLend (m : MB) : MB := fun env h => match m (env.map lendS) h with
  | .ok b _ h' => if flatH h' = true then .ok b env h' else .no
  | _ => .no
section
variable {K : PySem.W.Frag} {w : World} {mg : Str → Option Value} {W : WX} {Hk : Hp} {gk : Gh} {σ : L2.St} {g g1 g' : Gh} {H H1 H' : Hp} {env : Ev} {h h' : MH}
/-- the addresses of the lists that the names hold -/
def ownB (σ : L2.St) (env : Ev) : Addr → Prop := fun a => ∃ (i : Nat) (ds : List D), env[i]? = some (.own ds) ∧ σ[i]? = some (some (.ref a))
theorem ownB_own (at_ : At K w mg Hk gk σ env h g H) {a : Addr} (b : ownB σ env a) : ∃ ds, OwnAt K w Hk g H a ds := by
  obtain ⟨i, ds, e1, e2⟩ := b
  obtain ⟨x, e3, o⟩ := at_.own i ds e1
  rw [e2] at e3
  cases e3
  exact ⟨ds, o⟩
theorem ownB_hat (at_ : At K w mg Hk gk σ env h g H) : HAt K w h (g.mo (ownB σ env)) H := hat_mo at_.hat fun b hb => by
  obtain ⟨ds, o⟩ := ownB_own at_ hb
  obtain ⟨vs, h3, _⟩ := o.at_
  exact ⟨by rw [h3]; exact (fun z => nomatch z), o.nρ⟩
theorem lendS_get {i : Nat} {s : Sl} (e : (env.map lendS)[i]? = some s) : (∀ ds, s ≠ .own ds) ∧ (∀ x, s ≠ .exc x) ∧ ∀ d, s = .v d → env[i]? = some (.v d) ∨ ∃ ds, d = .lst ds ∧ env[i]? = some (.own ds) := by
  rw [List.getElem?_map, Option.map_eq_some_iff] at e
  obtain ⟨t, e1, e2⟩ := e
  cases t with
  | un => cases e2; exact ⟨fun _ q => (nomatch q), fun _ q => (nomatch q), fun _ q => nomatch q⟩
  | v d => cases e2; exact ⟨fun _ q => (nomatch q), fun _ q => (nomatch q), fun d' q => by cases q; exact .inl e1⟩
  | own ds => cases e2; exact ⟨fun _ q => (nomatch q), fun _ q => (nomatch q), fun d' q => by cases q; exact .inr ⟨ds, rfl, e1⟩⟩
  | exc x => cases e2; exact ⟨fun _ q => (nomatch q), fun _ q => (nomatch q), fun _ q => nomatch q⟩
theorem At.lendAll (at_ : At K w mg Hk gk σ env h g H) : At K w mg H (g.mo (ownB σ env)) σ (env.map lendS) h (g.mo (ownB σ env)) H where
  hat := ownB_hat at_
  fs := FStep.refl (ownB_hat at_)
  len := by rw [List.length_map]; exact at_.len
  val := fun i d e => by
    rcases (lendS_get e).2.2 d rfl with e1 | ⟨ds, rfl, e1⟩
    · obtain ⟨x, h1, h2⟩ := at_.val i d e1
      exact ⟨x, h1, h2.step (step_mo g H _)⟩
    · obtain ⟨a, h1, o⟩ := at_.own i ds e1
      obtain ⟨vs, h3, h4⟩ := o.at_
      refine ⟨_, h1, ?_⟩
      simp only [Rep]
      exact ⟨a, vs, rfl, .inl ⟨.inr ⟨i, ds, e1, h1⟩, .inl h3⟩, h4.step (step_mo g H _)⟩
  own := fun i ds e => absurd rfl ((lendS_get e).1 ds)
  dist := fun i j d1 d2 a e => absurd rfl ((lendS_get e).1 d1)
  exc := fun i x e => absurd rfl ((lendS_get e).2.1 x)
theorem flat2_rep {B : Addr → Prop} {g2 : Gh} {H2 : Hp} {d : D} (f : flat2 d = true) (hB : ∀ a, B a → ∃ vs, H2 a = some (.lst vs)) {x : V} (r : Rep K w g2 H2 x d) : Rep K w (g2.le g B) H2 x d := by
  cases d with
  | tup ds =>
    simp only [Rep] at r ⊢
    obtain ⟨a, vs, rfl, t, rs⟩ := r
    refine ⟨a, vs, rfl, ?_, flat_reps (by simpa [flat2] using f) rs⟩
    rcases t with ⟨z, t⟩ | t
    · refine .inl ⟨⟨z, .inr fun b => ?_⟩, t⟩
      obtain ⟨us, e⟩ := hB a b
      rcases t with t | ⟨o, t⟩
      · rw [e] at t; cases t
      · rw [e] at t; cases t
    · exact .inr t
  | _ => exact flat_rep (by simpa [flat2] using f) r
theorem ownB_lst (at_ : At K w mg Hk gk σ env h g H) {g2 : Gh} {H2 : Hp} (fs : FStep (g.mo (ownB σ env)) H g2 H2) : ∀ a, ownB σ env a → ∃ vs, H2 a = some (.lst vs) := fun a b => by
  obtain ⟨ds, o⟩ := ownB_own at_ b
  obtain ⟨vs, h3, _⟩ := o.at_
  exact ⟨vs, by rw [fs.st a (.inr b)]; exact h3⟩
end
section
variable {F : Fr} {e : Expr} {pos : Pos}
theorem se_mov {x : Str} {i : Nat} (hN : F.N[i]? = some x := by rfl) (hv : Vis F.sc x := by first | exact Or.inl rfl | exact Or.inr (Or.inl rfl) | exact Or.inr (Or.inr rfl)) (hd : (x == ("__debug__" : Str)) = false := by decide) (hcd : (x == ("__classdict__" : Str)) = false := by decide) : SE F (.Name x pos) (eMov i) := fun X W gd tk Hk gk σ env h g H Q at_ p => by
  refine uE_of (pe_var (i := i) (by rw [gd.N]; exact hN) (by rw [gd.sc]; exact hv) hd hcd) ?_
  unfold eMov at p
  split at p
  · rename_i ds e
    obtain ⟨a, h1, o⟩ := at_.own i ds e
    refine ⟨.ref a, h1, p g H (Step.refl _ _) (at_.unset i) (.ref a) ⟨a, rfl, o, fun j es e2 z => ?_⟩⟩
    rw [List.getElem?_set] at e2
    by_cases hij : i = j
    · rw [if_pos hij] at e2; split at e2 <;> cases e2
    · rw [if_neg hij] at e2
      exact hij (at_.dist i j ds es a e e2 h1 z)
  · rename_i d e
    obtain ⟨x, h1, h2⟩ := at_.val i d e
    exact ⟨x, h1, p g H (Step.refl _ _) at_ x h2⟩
  · exact p.elim
theorem se_lend {m : ME} (he : SE F e m) : SE F e (eLend m) := fun X W gd tk Hk gk σ env h g H Q at_ p => by
  refine he X W gd tk H (g.mo (ownB σ env)) σ (env.map lendS) h (g.mo (ownB σ env)) H Q at_.lendAll ?_
  unfold eLend at p
  cases em : m (env.map lendS) h with
  | no => rw [em] at p; exact p.elim
  | err x2 e2 h2 => rw [em] at p; exact p.elim
  | ok r e2 h2 =>
    rw [em] at p
    cases r with
    | own ds => exact p.elim
    | v d =>
      dsimp only at p
      split at p
      · rename_i fl
        intro g2 H2 s2 a2 x rx
        obtain ⟨u1, u2⟩ := unlend at_.hat a2.fs a2.hat fl.2
        exact p _ H2 u1.toStep (at_.fstep u1 u2) x (flat2_rep fl.1 (ownB_lst at_ a2.fs) rx)
      · exact p.elim
theorem sb_lend {m : MB} (he : SB F e m) : SB F e (bLend m) := fun X W gd tk Hk gk σ env h g H Q at_ p => by
  refine he X W gd tk H (g.mo (ownB σ env)) σ (env.map lendS) h (g.mo (ownB σ env)) H Q at_.lendAll ?_
  unfold bLend at p
  cases em : m (env.map lendS) h with
  | no => rw [em] at p; exact p.elim
  | err x2 e2 h2 => rw [em] at p; exact p.elim
  | ok b e2 h2 =>
    rw [em] at p
    dsimp only at p
    split at p
    · rename_i fl
      intro g2 H2 s2 a2
      obtain ⟨u1, u2⟩ := unlend at_.hat a2.fs a2.hat fl
      exact p _ H2 u1.toStep (at_.fstep u1 u2)
    · exact p.elim
end
@[simp] theorem x_eMov (i : Nat) (env : Ev) (h : MH) : eMov i env h = (match env[i]? with
  | some (.own ds) => .ok (.own ds) (env.set i .un) h
  | some (.v d) => .ok (.v d) env h
  | _ => .no) := rfl
theorem x_eLend {m : ME} {env e2 : Ev} {h h' : MH} {d : D} (e : m (env.map lendS) h = .ok (.v d) e2 h') (f : flat2 d = true) (fh : flatH h' = true) : eLend m env h = .ok (.v d) env h' := by
  unfold eLend
  rw [e]
  dsimp only
  rw [if_pos ⟨f, fh⟩]
theorem x_bLend {m : MB} {env e2 : Ev} {h h' : MH} {b : Bool} (e : m (env.map lendS) h = .ok b e2 h') (fh : flatH h' = true) : bLend m env h = .ok b env h' := by
  unfold bLend
  rw [e]
  dsimp only
  rw [if_pos fh]
end Mi
end
section
set_option Elab.async false
set_option linter.all false
set_option maxRecDepth 100000
set_option maxHeartbeats 2000000
/-! several clauses: try .. except A as a: .. except B as b: .. -/
namespace Mi
open PySem PySem.Spec PyProof.Rows L2
/-- one clause -/
structure HSp where
  x : Str
  n : Str
  c : Value
  i : Nat
  b₀ : Stmt
  suite : List Stmt
  np : Pos
  pos' : Pos
  ts : TS
def HSp.h (z : HSp) : ExceptHandler := .ExceptHandler (some (.Name z.x z.np)) (some z.n) (z.b₀ :: z.suite) z.pos'
structure HSp.Ok (X : Cx) (z : HSp) : Prop where
  ix : X.N[z.i]? = some z.n
  kd : X.env.kindOf z.n = some .local
  nm : Names X z.x z.c
  su : ∀ (a : Addr) (oe : Obj) (pn : List (Addr × Obj)), HotO oe → PSs (suiteH X a oe pn) (z.b₀ :: z.suite) z.ts
/-- what the clauses wish of an exception of the body -/
def wTrkN (K : PySem.W.Frag) (Wout : WX) (D : Ends) : List HSp → WX
  | [] => Wout
  | z :: zs => fun cls d σ H => ∃ b, PySem.W.exmOne K cls z.c = some b ∧ (b = true → ∀ a oe, H a = none → L2N.Zn cls d oe → (∃ vs, oe.data = .fields vs) → z.ts (Ends.trk z.i a oe D) (σ.set z.i (some (.ref a))) (upd H a (exT a oe))) ∧ (b = false → wTrkN K Wout D zs cls d σ H)
section
variable {X : Cx} {body : List Stmt} {pos : Pos} {tb : WX → TS} {Wout : WX} {z₀ : HSp} {zs : List HSp}
theorem ps_try_trkN (hstk : X.stack = X.env :: X.outer) (hfrm : X.env.frame = some X.env.locals) (hnd : X.N.Nodup) (hok : ∀ z ∈ z₀ :: zs, z.Ok X) (hex : X.ex = []) (tk : Takes X Wout)
    (hbody : ∀ (W : WX) (pn : List (Addr × Obj)) (xe : Value → Shared → Prop), Takes (X.tr pn xe) W → PassesOwn (model X.prog X.w) X.A X.env xe → PSs (X.tr pn xe) body (tb W)) :
    PS X (.Try body ((z₀ :: zs).map HSp.h) [] [] pos) (fun D σ H => tb (wTrkN X.K Wout D (z₀ :: zs)) D σ H) := by
  refine ⟨fun pins s σ H D I hh => ?_⟩
  have okX := I.ok
  have hfrs : X.A.frames = some (X.env :: X.outer) := by rw [okX.frames, hstk]
  refine wpAny_Try_except ?_
  let xe' : Value → Shared → Prop := fun e t₁ => wpAny (model X.prog X.w) X.A (noteFrame e X.env) (fun _ t₂ => wpAny (model X.prog X.w) X.A (setFlight e none) (fun _ t₃ =>
    wpAny (model X.prog X.w) X.A (handleBy e X.env ((z₀ :: zs).map HSp.h)) (SP X pins D) X.xe t₃) X.xe t₂) X.xe t₁
  have hpass : PassesOwn (model X.prog X.w) X.A X.env xe' := PassesOwn.looking
  have htake : Takes (X.tr (X.pn ++ pins) xe') (wTrkN X.K Wout D (z₀ :: zs)) := by
    rintro u s' ⟨a, B, sI, pins', τ, G, cls, d, rfl, J', nb, up, sky, na, os, ag, hw⟩
    have J : Inv X pins τ G sI := J'.ofTry okX
    have sky' : Sky B (X.env :: X.outer) a (L2N.Zn cls d) X.env.locals s'.heap := by rw [← hstk]; exact sky
    show wpAny (model X.prog X.w) X.A (noteFrame (.ref a) X.env) _ _ _
    refine L2N.Sky.land L2N.Zn.steady hfrs hfrm sky' fun h3 fl3 up3 => ?_
    have J3 : Inv X pins τ G { s' with heap := h3 } := J.landed nb fl3.1 (up.trans up3) os ag
    obtain ⟨oe3, vs3, he3, hz3, hd3⟩ := fl3.there
    have nfr : a ∉ frs (X.env :: X.outer) := fun hm => by
      obtain ⟨_, o', e', hnf⟩ := fl3.2.2.1.mem hm
      rw [he3] at e'; cases e'
      exact hnf _ hd3
    have nI : sI.heap.get? a = none := by
      cases q : sI.heap.get? a with
      | none => rfl
      | some o =>
        have := nb a o q (by rw [hstk]; exact nfr)
        rw [fl3.2.1] at this; cases this
    have n0 : X.s_0.heap.get? a = none := by
      cases q : X.s_0.heap.get? a with
      | none => rfl
      | some o =>
        obtain ⟨o', z⟩ := J.base.there a o q (by rw [hex]; simp)
        rw [nI] at z; cases z
    have nL : a ≠ X.env.locals := fun z => nfr (List.mem_filterMap.mpr ⟨X.env, List.mem_cons_self, by rw [hfrm, z]⟩)
    have nF : a ∉ X.fs := fun hm => by
      obtain ⟨e, he, q⟩ := List.mem_filterMap.mp hm
      exact nfr (List.mem_filterMap.mpr ⟨e, List.mem_cons_of_mem _ he, q⟩)
    have npin : ∀ p ∈ X.pn ++ pins, p.1 ≠ a := fun p hp q => by
      have := (J.pin p hp).1
      rw [q, nI] at this; cases this
    have S3 := J3.suite he3 hd3 na nL nF
    have key : ∀ l : List HSp, (∀ z ∈ l, z.Ok X) → wTrkN X.K Wout D l cls d τ G → wpAny (model X.prog X.w) X.A (handleBy (.ref a) X.env (l.map HSp.h)) (SP X pins D) X.xe { s' with heap := h3 } := by
      intro l
      induction l with
      | nil =>
        intro _ hno
        refine wpAny_handleBy_nil ?_
        obtain ⟨k1, k2, k3, oe, vs, T, oT, ts', he, hz, hd, h1, hr⟩ := id fl3
        unfold PySem.passOn
        refine wpAny_bind (wpAny_field he hd h1 ?_)
        rw [if_neg (show ¬ ((Value.ref T == Value.none) = true) from by simp)]
        have fin : wpAny (model X.prog X.w) X.A (setFlight (.ref a) X.env.frame) (fun _ s4 => wpAny (model X.prog X.w) X.A (throw (.ref a) : Sem Flow) (SP X pins D) X.xe s4) X.xe { s' with heap := h3 } := by
          rw [hfrm]
          refine HandSPX.setFlight_upZ fl3 fun h4 hh4 up4 => wpAny_throw (tk _ _ ?_)
          exact ⟨a, B, sI, pins, τ, G, cls, d, rfl, J, nb, (up.trans up3).trans up4, .inr (.inr (by rw [hstk]; exact hh4)), na, os, ag, hno⟩
        first
          | exact wpAny_bind (wpAny_pure (wpAny_bind fin))
          | exact wpAny_bind fin
      | cons z l ih =>
        intro hok hw
        have hok1 := hok z (by simp)
        obtain ⟨b, hb1, hyes, hno⟩ := hw
        refine wpAny_handleBy_cons (codeAny_handlers_test ?_) (by intro q; cases q)
        have LT : PySem.W.Looks (model X.prog X.w) h3 (typeOf (.ref a)) cls := fun A Q E s k q => wpAny_typeOf_ref (k _ _ he3) (by rw [hz3.1]; exact q)
        have LM := PySem.W.exm_one (M := model X.prog X.w) (J3.kIn) LT hb1
        have test : ∀ {Q : Value → Shared → Prop} {E : Value → Shared → Prop}, Q z.c { s' with heap := h3 } → wpAny (model X.prog X.w) (X.A.mark (some (.ref a))) (eval (.Name z.x z.np) X.env) Q E { s' with heap := h3 } := fun {Q E} q => by
          obtain ⟨hg, hdbg, hm | ⟨hm, hv, hnn⟩⟩ := hok1.nm
          · exact ld_glob (X := X.suite a ((a, oe3) :: (X.pn ++ pins))) S3 hg hm q hdbg
          · exact ld_blt (X := X.suite a ((a, oe3) :: (X.pn ++ pins))) S3 hg hm hv q hnn hdbg
        refine test (LM.here ?_)
        cases b with
        | true =>
          refine codeAny_handlers_suite_as ?_
          refine HandSPX.lands_againZ fl3 fun h4 fl4 up4 => ?_
          have J4 : Inv X pins τ G { s' with heap := h4 } := J.landed nb fl4.1 ((up.trans up3).trans up4) os ag
          obtain ⟨oe4, vs4, he4, hz4, hd4⟩ := fl4.there
          have nk := no_kinds J4 na
          have S4 := J4.suite he4 hd4 na nL nF
          refine store_ok (X := X.suite a ((a, oe4) :: (X.pn ++ pins))) (v := .ref a) S4 hnd hok1.ix (Or.inl hok1.kd) rfl (fun s5 S5 => ?_) (.inr hok1.kd)
          have T5 := track S5 n0 hex ⟨_, hd4⟩ npin
          refine wpAny_mono ((hok1.su a oe4 (X.pn ++ pins) ⟨_, hd4, hz4.2.2 _ hd4⟩).run [] s5 _ _ _ T5 (hyes rfl a oe4 na hz4 ⟨_, hd4⟩)) (fun f s6 hsp => ?_) (fun _ _ z => False.elim z)
          have end_ : ∀ {σ6 : L2.St} {H6 : Hp} {Q : Shared → Prop}, Inv (suiteH X a oe4 (X.pn ++ pins)) [] σ6 H6 s6 → H6 a = some (exT a oe4) → (∀ s7, Inv X pins (σ6.set z.i none) (del H6 a) s7 → Q s7) →
              wpAny (model X.prog X.w) X.A (do bindName X.env z.n .none; unbindBehindTheSuite X.env z.n z.pos') (fun _ s7 => Q s7) X.xe s6 := fun {σ6 H6 Q} S6 ha6 hq => gone_ok (untrack S6 okX ha6 n0 nk fun p hp => hp) hnd hok1.ix hok1.kd hq
          cases f with
          | next =>
            obtain ⟨σ6, H6, S6, ha6, q6⟩ := hsp
            exact end_ S6 ha6 fun s7 J7 => ⟨_, _, J7, q6⟩
          | brk =>
            obtain ⟨σ6, H6, S6, ha6, q6⟩ := hsp
            exact end_ S6 ha6 fun s7 J7 => ⟨_, _, J7, q6⟩
          | cont =>
            obtain ⟨σ6, H6, S6, ha6, q6⟩ := hsp
            exact end_ S6 ha6 fun s7 J7 => ⟨_, _, J7, q6⟩
          | ret u =>
            obtain ⟨v6, σ6, H6, S6, r6, ha6, q6⟩ := hsp
            exact end_ S6 ha6 fun s7 J7 => ⟨_, _, _, J7, r6, q6⟩
        | false => exact ih (fun y m => hok y (by simp [m])) (hno rfl)
    exact key _ hok hw
  refine wpAny_mono ((hbody _ (X.pn ++ pins) xe' htake hpass).run [] s σ H D (I.toTry _) hh) (fun f s1 hsp => ?_) (fun e s1 he => he)
  cases f with
  | next =>
    obtain ⟨τ, G, J', q⟩ := hsp
    exact wpAny_execs_nil ⟨τ, G, J'.ofTry okX, q⟩
  | brk =>
    obtain ⟨τ, G, J', q⟩ := hsp
    exact ⟨τ, G, J'.ofTry okX, q⟩
  | cont =>
    obtain ⟨τ, G, J', q⟩ := hsp
    exact ⟨τ, G, J'.ofTry okX, q⟩
  | ret u =>
    obtain ⟨v, τ, G, J', r, q⟩ := hsp
    exact ⟨v, τ, G, J'.ofTry okX, r, q⟩
end
end Mi
end
section
set_option Elab.async false
set_option linter.all false
set_option maxRecDepth 100000
set_option maxHeartbeats 1000000
open PySem PySem.Spec PyProof.Rows L2
namespace Mi
/-! ## try with several clauses -/
structure Cl where
  subs : List Str
  nos : List Str
  i : Nat
  ms : MS
def hdl : List Cl → Xc → Ev → MH → Fl
  | [], x, e, h => .err x e h
  | c :: cs, x, e, h => if x.cls ∈ c.subs then (match c.ms (e.set c.i (.exc x)) h with
      | .nx e2 h2 => .nx (wipeX (e2.set c.i .un)) h2
      | .rt r e2 h2 => .rt r (wipeX (e2.set c.i .un)) h2
      | .bk e2 h2 => .bk (wipeX (e2.set c.i .un)) h2
      | .ct e2 h2 => .ct (wipeX (e2.set c.i .un)) h2
      | _ => .no)
    else if x.cls ∈ c.nos then hdl cs x e h else .no
def sTryN (mb : MS) (cs : List Cl) : MS := fun env h => match mb env h with
  | .err x e h' => hdl cs x e h'
  | r => r
inductive HCl (F : Fr) : List ExceptHandler → List Cl → Prop
  | nil : HCl F [] []
  | cons {cx n : Str} {c : Value} {i : Nat} {subs nos : List Str} {ms : MS} {suite : List Stmt} {b₀ : Stmt} {np pos' : Pos} {hds : List ExceptHandler} {cs : List Cl} (hs : SSs F.susp (b₀ :: suite) ms) (hc : F.mg cx = some c)
      (hsub : ∀ nm ∈ subs, ∃ C, F.mg nm = some (.ref C) ∧ PySem.W.exmOne F.K (.ref C) c = some true) (hoth : ∀ nm ∈ nos, ∃ C, F.mg nm = some (.ref C) ∧ PySem.W.exmOne F.K (.ref C) c = some false) (r : HCl F hds cs)
      (hN : F.N[i]? = some n := by rfl) (hl : F.sc.names.lookup n = some .local := by rfl) (hg : F.sc.names.lookup cx = some .globalImplicit := by rfl) (hdb : (cx == ("__debug__" : Str)) = false := by decide) :
      HCl F (.ExceptHandler (some (.Name cx np)) (some n) (b₀ :: suite) pos' :: hds) (⟨subs, nos, i, ms⟩ :: cs)
section
variable {F : Fr} {X : Cx} {W : WX} {Hk : Hp} {gk g : Gh} {σ : L2.St} {env : Ev} {h : MH} {H : Hp}
theorem hcl_run {hds : List ExceptHandler} {cs : List Cl} (hc : HCl F hds cs) (gd : GoodS F X) : ∃ zs : List HSp, zs.map HSp.h = hds ∧ (∀ z ∈ zs, z.Ok X) ∧
    ∀ (W : WX) (Dn : Ends) (Hk : Hp) (gk g : Gh) (H : Hp) (x : Xc) (e : Ev) (h' : MH) (σ' : L2.St) (g' : Gh) (H' : Hp) (cls : Value) (d : Option Addr), Step g H g' H' → At X.K X.w X.mg Hk gk σ' e h' g' H' → XR X.K X.w X.mg g' H' x cls d →
      postS X.K X.w X.mg W Hk gk g H (hdl cs x e h') Dn → wTrkN X.K W Dn zs cls d σ' H' := by
  induction hc with
  | nil => exact ⟨[], rfl, by simp, fun W Dn Hk gk g H x e h' σ' g' H' cls d s1 a1 xr p => p σ' g' H' cls d s1 a1 xr⟩
  | @cons cx n c i subs nos ms suite b₀ np pos' hds cs hs hc hsub hoth r hN hl hg hdb ih =>
    obtain ⟨zs, z1, z2, z3⟩ := ih
    have nm : Names X cx c := ⟨by show X.env.scope.names.lookup cx = _; rw [gd.sc]; exact hg, hdb, .inl (by rw [gd.mg]; exact hc)⟩
    refine ⟨⟨cx, n, c, i, b₀, suite, np, pos', fun D σ H => ∀ a oe pn, HotO oe → uSs (suiteH X a oe pn) (b₀ :: suite) D σ H⟩ :: zs, by rw [List.map_cons, z1]; rfl, fun z m => ?_, fun W Dn Hk gk g H x e h' σ' g' H' cls d s1 a1 xr p => ?_⟩
    · rcases List.mem_cons.mp m with rfl | m
      · exact ⟨by show X.N[i]? = _; rw [gd.N]; exact hN, by show X.env.scope.names.lookup n = _; rw [gd.sc]; exact hl, nm, fun a oe pn ho => ⟨fun pins s σ H D I q => q a oe pn ho pins s I⟩⟩
      · exact z2 z m
    · have xr0 := xr
      obtain ⟨hm, dx, vs, rfl, fdx, hdx, rs⟩ := xr
      have hm' : F.mg x.cls = some cls := by rw [← gd.mg]; exact hm
      unfold hdl at p
      by_cases c1 : x.cls ∈ subs
      · rw [if_pos c1] at p
        obtain ⟨C, c3, c4⟩ := hsub _ c1
        rw [hm'] at c3
        cases c3
        refine ⟨true, by show PySem.W.exmOne X.K (.ref C) c = _; rw [gd.K]; exact c4, fun _ a oe na hz hf => ?_, fun q => nomatch q⟩
        intro a2 oe2 pn2 ho2
        have n0 : ¬ g'.Fz a := fun f => a1.hat.fz a f na
        have gr := grow_fr (o := exT a oe) a1.hat na
        have a2' := gr.at a1
        have st := (gr.fstep a1.hat).toStep
        have k0 : Hk a = none := a1.fs.back a1.hat na
        have gk0 : ¬ gk.Fz a := fun f => n0 (a1.fs.fz a f)
        have ex : ExAt X.K X.w X.mg (g'.fr a) (upd H' a (exT a oe)) a x := ⟨.inr rfl, oe, C, dx, vs, upd_same, hz.1, hz.2.1, hf, hm, .inl fdx, by rw [upd_ne (fun q => by rw [q, na] at hdx; cases hdx)]; exact hdx, rs.step st⟩
        have a3 := a2'.setx i ex
        refine hs (suiteH X a2 oe2 pn2) (fun _ _ _ _ => False) (good_susp gd a2 oe2 ho2 pn2) takes0 Hk gk _ _ h' _ _ _ a3 ?_
        dsimp only at p
        cases es : ms (e.set i (.exc x)) h' with
        | nx e2 h2 =>
          rw [es] at p
          intro σ2 g2 H2 s2 a4
          have h2a : H2 a = some (exT a oe) := by rw [s2.st a (.inr rfl)]; exact upd_same
          exact ⟨h2a, p _ _ _ (step_del s1 a1.hat na s2) (a4.del h2a (s2.fz a (.inr rfl)) gk0 k0 i)⟩
        | rt r e2 h2 =>
          rw [es] at p
          intro v σ2 g2 H2 s2 a4 rr
          have h2a : H2 a = some (exT a oe) := by rw [s2.st a (.inr rfl)]; exact upd_same
          exact ⟨h2a, p v _ _ _ (step_del s1 a1.hat na s2) (a4.del h2a (s2.fz a (.inr rfl)) gk0 k0 i) (RR.del a4 h2a i rr)⟩
        | bk e2 h2 =>
          rw [es] at p
          intro σ2 g2 H2 s2 a4
          have h2a : H2 a = some (exT a oe) := by rw [s2.st a (.inr rfl)]; exact upd_same
          exact ⟨h2a, p _ _ _ (step_del s1 a1.hat na s2) (a4.del h2a (s2.fz a (.inr rfl)) gk0 k0 i)⟩
        | ct e2 h2 =>
          rw [es] at p
          intro σ2 g2 H2 s2 a4
          have h2a : H2 a = some (exT a oe) := by rw [s2.st a (.inr rfl)]; exact upd_same
          exact ⟨h2a, p _ _ _ (step_del s1 a1.hat na s2) (a4.del h2a (s2.fz a (.inr rfl)) gk0 k0 i)⟩
        | err x2 e2 h2 => rw [es] at p; exact p.elim
        | no => rw [es] at p; exact p.elim
      · rw [if_neg c1] at p
        by_cases c2 : x.cls ∈ nos
        · rw [if_pos c2] at p
          obtain ⟨C, c3, c4⟩ := hoth _ c2
          rw [hm'] at c3
          cases c3
          refine ⟨false, by show PySem.W.exmOne X.K (.ref C) c = _; rw [gd.K]; exact c4, fun q => (nomatch q), fun _ => ?_⟩
          exact z3 W Dn Hk gk g H x e h' σ' g' H' (.ref C) (some dx) s1 a1 xr0 p
        · rw [if_neg c2] at p
          exact p.elim
theorem ss_tryN {mb : MS} {body : List Stmt} {hd : ExceptHandler} {hds : List ExceptHandler} {c0 : Cl} {cs : List Cl} {pos : Pos} (hb : SSs F body mb) (hc : HCl F (hd :: hds) (c0 :: cs)) (hcm : F.cm = true := by rfl) :
    SS F (.Try body (hd :: hds) [] [] pos) (sTryN mb (c0 :: cs)) := fun X W gd tk Hk gk σ env h g H Dn at_ p => by
  obtain ⟨zs, z1, z2, z3⟩ := hcl_run hc gd
  cases zs with
  | nil => simp at z1
  | cons z₀ zs =>
    rw [← z1]
    refine uS_of (ps_try_trkN (tb := fun W D σ H => ∀ pn xe, Takes (X.tr pn xe) W → PassesOwn (model X.prog X.w) X.A X.env xe → uSs (X.tr pn xe) body D σ H) gd.stk gd.frm gd.nd z2 gd.nex tk
      (fun W pn xe tkW po => ⟨fun pins s σ H D I q => q pn xe tkW po pins s I⟩)) ?_
    intro pn xe tkW po
    refine hb (X.tr pn xe) _ (good_tr gd pn xe po) tkW Hk gk σ env h g H Dn at_ ?_
    unfold sTryN at p
    cases eb : mb env h with
    | nx e h' => rw [eb] at p; exact p
    | rt r e h' => rw [eb] at p; exact p
    | bk e h' => rw [eb] at p; exact p
    | ct e h' => rw [eb] at p; exact p
    | no => rw [eb] at p; exact p
    | err x e h' =>
      rw [eb] at p
      intro σ' g' H' cls d s1 a1 xr
      exact z3 W Dn Hk gk g H x e h' σ' g' H' cls d s1 a1 xr p
end
theorem sTryN_nx {mb : MS} {cs : List Cl} {env e1 : Ev} {h h1 : MH} (e : mb env h = .nx e1 h1) : sTryN mb cs env h = .nx e1 h1 := by unfold sTryN; rw [e]
theorem sTryN_rt {mb : MS} {cs : List Cl} {env e1 : Ev} {h h1 : MH} {r : R} (e : mb env h = .rt r e1 h1) : sTryN mb cs env h = .rt r e1 h1 := by unfold sTryN; rw [e]
theorem sTryN_err {mb : MS} {cs : List Cl} {env e1 : Ev} {h h1 : MH} {x : Xc} (e : mb env h = .err x e1 h1) : sTryN mb cs env h = hdl cs x e1 h1 := by unfold sTryN; rw [e]
theorem hdl_hit {c : Cl} {cs : List Cl} {x : Xc} {e : Ev} {h : MH} (hx : x.cls ∈ c.subs) : hdl (c :: cs) x e h = wipR c.i (c.ms (e.set c.i (.exc x)) h) := by
  unfold hdl
  rw [if_pos hx]
  unfold wipR
  cases c.ms (e.set c.i (.exc x)) h <;> rfl
theorem hdl_miss {c : Cl} {cs : List Cl} {x : Xc} {e : Ev} {h : MH} (hx : x.cls ∉ c.subs) (hn : x.cls ∈ c.nos) : hdl (c :: cs) x e h = hdl cs x e h := by
  rw [hdl, if_neg hx, if_pos hn]
end Mi
end
section
set_option Elab.async false
set_option linter.all false
set_option maxRecDepth 100000
set_option maxHeartbeats 4000000
/-! set(list of texts), its length -/
namespace Mi
open PySem PySem.Spec PyProof.Rows
/-- the texts that are met, each once -/
def metF (a : List (List Nat)) (x : List Nat) : List (List Nat) := if x ∈ a then a else a ++ [x]
def mets (l : List (List Nat)) : List (List Nat) := l.foldl metF []
theorem mets_snoc (l : List (List Nat)) (x : List Nat) : mets (l ++ [x]) = metF (mets l) x := by
  unfold mets
  rw [List.foldl_append]
  rfl
theorem metF_mem (y : List Nat) : ∀ (l a : List (List Nat)), y ∈ l.foldl metF a ↔ y ∈ a ∨ y ∈ l
  | [], a => by simp
  | x :: l, a => by
    rw [List.foldl_cons, metF_mem y l, List.mem_cons]
    unfold metF
    split
    · rename_i h
      constructor
      · rintro (h1 | h1)
        · exact .inl h1
        · exact .inr (.inr h1)
      · rintro (h1 | rfl | h1)
        · exact .inl h1
        · exact .inl h
        · exact .inr h1
    · rw [List.mem_append, List.mem_singleton, or_assoc]
theorem mets_mem (l : List (List Nat)) (y : List Nat) : y ∈ mets l ↔ y ∈ l := by
  unfold mets
  rw [metF_mem]
  simp
theorem metF_len (l a : List (List Nat)) : (l.foldl metF a).length ≤ a.length + l.length := by
  induction l generalizing a with
  | nil => simp
  | cons x l ih =>
    rw [List.foldl_cons]
    have := ih (metF a x)
    have h : (metF a x).length ≤ a.length + 1 := by
      unfold metF
      split
      · omega
      · simp
    rw [List.length_cons]
    omega
theorem mets_len (l : List (List Nat)) : (mets l).length ≤ l.length := by
  have := metF_len l []
  simpa [mets] using this
theorem metF_nodup : ∀ (l a : List (List Nat)), (a ++ l).Nodup → l.foldl metF a = a ++ l
  | [], a, _ => by simp
  | x :: l, a, h => by
    have hx : x ∉ a := fun m => by
      rw [List.nodup_append] at h
      exact h.2.2 x m x (by simp) rfl
    rw [List.foldl_cons, show metF a x = a ++ [x] by unfold metF; rw [if_neg hx], metF_nodup l (a ++ [x]) (by simpa using h)]
    simp
theorem mets_nodup {l : List (List Nat)} (h : l.Nodup) : mets l = l := by
  unfold mets
  rw [metF_nodup l [] (by simpa using h)]
  simp
/-- what the set of the first i texts is -/
def hasS (xs : List (List Nat)) (k : Str) : Bool := xs.any fun x => S x == k
theorem hasS_snoc (xs : List (List Nat)) (x : List Nat) (k : Str) : hasS (xs ++ [x]) k = (hasS xs k || decide (k = S x)) := by
  unfold hasS
  rw [List.any_append]
  congr 1
  simp only [List.any_cons, List.any_nil, Bool.or_false]
  by_cases e : k = S x
  · subst e
    simp
  · have e2 : (S x == k) = false := beq_eq_false_iff_ne.mpr fun z => e z.symm
    rw [e2, decide_eq_false e]
theorem hasS_mem (xs : List (List Nat)) (x : List Nat) : hasS xs (S x) = decide (x ∈ mets xs) := by
  rw [Bool.eq_iff_iff]
  unfold hasS
  simp only [List.any_eq_true, decide_eq_true_eq, mets_mem]
  constructor
  · rintro ⟨y, hy, e⟩
    rw [← S_inj (eq_of_beq e)]
    exact hy
  · exact fun h => ⟨x, h, beq_self_eq_true _⟩
section
variable {P : Program} {w : World} {A : Around}
abbrev SetAtS (P : Program) (w : World) (h : Heap) (a : Addr) (xs : List (List Nat)) : Prop := h.SetOf (PySem.strKind P w) a (hasS xs) (mets xs).length
theorem setS_keep {h h' : Heap} {a : Addr} {xs : List (List Nat)} (st : SetAtS P w h a xs) (k : ∀ o, h.get? a = some o → h'.get? a = some o) : SetAtS P w h' a xs := by
  obtain ⟨o, es, ep, t, ho, r⟩ := st
  exact ⟨o, es, ep, t, k o ho, r⟩
/-- the loop of an update by texts -/
theorem set_texts {I : Addr} {fp wr : List Addr} {G : Array GenState → Array GenState → Prop} {Pv : Nat → Value → Prop} {St : Nat → Shared → Prop} {R : Result → Shared → Prop} (a : Addr) (hf : a ∉ fp) (xs : List (List Nat)) (hb : xs.length + 1 < scanBound)
    (W : WalksS P w A.in1 I fp wr G xs.length Pv St) (hv : ∀ i v, Pv i v → ∃ x t, xs[i]? = some x ∧ v = .str (S x) t) : ∀ (j i : Nat) (s : Shared), i + j = xs.length → St i s → SetAtS P w s.heap a (xs.take i) →
      (∀ s', Moved (a :: wr) G s s' → SetAtS P w s'.heap a xs → R (.ok (.ret .none)) s') → codeAny (model P w) A (.builtin "set.update.loop" ⟨[.ref a, .ref I], []⟩) R s
  | 0, i, s, ij, st, sa, hR => by
    obtain rfl : i = xs.length := ij
    rw [List.take_length] at sa
    have nw : a ∉ wr := fun z => hf (W.sub _ z)
    refine codeAny_builtin F.entry_set_update_loop ?_
    rw [Around.under_plainId F.plain_set_update_loop _]
    show wpAny _ A.in1 (pyNext (.ref I) >>= _) _ _ s
    exact wpAny_bind (W.done s _ _ st fun s' hm => wpAny_pure (hR s' (hm.mono fun b hb => List.mem_cons_of_mem _ hb) (setS_keep sa fun o e => hm.heap a o nw e)))
  | j + 1, i, s, ij, st, sa, hR => by
    have nw : a ∉ wr := fun z => hf (W.sub _ z)
    have sub : ∀ b ∈ wr, b ∈ a :: wr := fun b hb => List.mem_cons_of_mem _ hb
    have hi : i < xs.length := by omega
    refine codeAny_builtin F.entry_set_update_loop ?_
    rw [Around.under_plainId F.plain_set_update_loop _]
    show wpAny _ A.in1 (pyNext (.ref I) >>= _) _ _ s
    refine wpAny_bind (W.item i s _ _ hi st fun v s1 hp st1 hm => ?_)
    obtain ⟨x, t, ex, rfl⟩ := hv i v hp
    have sa1 : SetAtS P w s1.heap a (xs.take i) := setS_keep sa fun o e => hm.heap a o nw e
    have tk : xs.take (i + 1) = xs.take i ++ [x] := by rw [List.take_succ, ex]; rfl
    show wpAny _ A.in1 (holding [Value.str (S x) t] (setAdd a (.str (S x) t)) >>= _) _ _ s1
    refine wpAny_bind (wpAny_holding ?_)
    unfold setAdd
    refine wpAny_holding (wpAny_bind ((PySem.strKind P w).pyHash (k := S x) (strKind_is _ _ _ _) ?_))
    have room : (mets (xs.take i)).length + 1 < scanBound := by
      have h1 := mets_len (xs.take i)
      have h2 := List.length_take_le i xs
      omega
    refine wpAny_setAddHashed_of (knd := PySem.strKind P w) (s := { s1 with toks := s1.toks + 1 }) (strKind_is _ _ _ _) rfl sa1 room fun h2 sb sa2 => ?_
    have sa3 : SetAtS P w h2 a (xs.take (i + 1)) := by
      refine SetOf_congr sa2 (fun k => ?_) ?_
      · rw [tk, hasS_snoc]
      · rw [tk, mets_snoc, hasS_mem]
        unfold metF
        by_cases c : x ∈ mets (xs.take i)
        · rw [if_pos (decide_eq_true c), if_pos c]
        · rw [if_neg (by simpa using c), if_neg c, List.length_append]
          rfl
    refine wpAny_pure ⟨plainId_quiet F.plain_set_update_loop _, ?_⟩
    refine set_texts a hf xs hb W hv j (i + 1) _ (by omega) ?_ sa3 fun s3 hm3 sa4 => ?_
    · refine W.frame _ s1 _ _ st1 (Nat.le_succ _) fun b hb o e => ?_
      rw [sb.2 b fun z => hf (z ▸ hb)]
      exact e
    · refine hR s3 (Moved.trans W.gtrans ((hm.mono sub).then_heap (Nat.le_succ _) fun b o hb e => ?_) hm3) sa4
      rw [sb.2 b fun z => hb (z ▸ List.mem_cons_self)]
      exact e
end
abbrev setO0 (led : Bool) : Obj := { cls := .type "set", dict := none, data := .set #[] 0 (.fresh 0 0 led) }
section
variable {P : Program} {w : World} {A : Around} {E : Value → Shared → Prop}
theorem setS_new {h : Heap} {a : Addr} {led : Bool} (e : h.get? a = some (setO0 led)) : SetAtS P w h a [] := by
  refine PyProof.Rows.SetOf_congr ((setObjOf_fresh (knd := PySem.strKind P w) led).setOf e ?_) (fun _ => rfl) rfl
  unfold scanBound
  omega
set_option maxHeartbeats 6400000 in
/-- set(l), l a list of texts -/
theorem call_set_texts {s : Shared} {l : Addr} {items : Array Value} (xs : List (List Nat)) {Q : Value → Shared → Prop} (hh : A.handled = none) (hl : s.heap.IsList l items) (sz : items.size = xs.length)
    (hv : ∀ (i : Nat) (v : Value), items[i]? = some v → ∃ x t, xs[i]? = some x ∧ v = .str (S x) t) (hb : xs.length + 1 < scanBound)
    (hQ : ∀ (h' : Heap) (tk : Nat), SetAtS P w h' s.heap.objs.size xs → (∀ b o, s.heap.get? b = some o → h'.get? b = some o) → Q (.ref s.heap.objs.size) { s with heap := h', toks := tk }) :
    wpAny (model P w) A (call (.type "set") [.ref l]) Q E s := by
  obtain ⟨_, _, mro⟩ := PySem.F.called_set.mro
  have made := PySem.F.called_set.made
  have sub0 := PySem.F.called_set.sub
  refine wpAny_call (codeAny_of_tree ?_)
  show wpAny _ _ (callAny (.type "set") _) _ _ _
  refine wpAny_pure ⟨Code.quiet_builtin _ (by decide +kernel), ?_⟩
  refine codeAny_builtin PySem.F.entry_type_call ?_
  rw [Around.under_plain (weight_type_call_type "set" [.ref l] []) rfl]
  have nt := PySem.F.called_set.notType
  have cc := PySem.F.called_set.canCreate
  have tc := PySem.F.typeCall_set_1 (.ref l)
  repeat any_goals first | assumption | wp_step
  refine codeAny_mono (code_set_new_1 (.ref l) (E := E) (Q₁ := fun r s1 => ∃ led, r = .ref s.heap.objs.size ∧ s1 = { s with heap := s.heap.push (setO0 led) }) fun led => ⟨led, rfl, rfl⟩) fun r s1 hr => ?_
  cases r with
  | error e => exact hr
  | ok fl =>
    cases fl with
    | next => exact hr.elim
    | brk => exact hr.elim
    | cont => exact hr.elim
    | ret u =>
      obtain ⟨led, rfl, rfl⟩ := hr
      have at0 : (s.heap.push (setO0 led)).get? s.heap.objs.size = some (setO0 led) := Heap.get?_push_size _ rfl
      have ty0 : Shared.TypeIs { s with heap := s.heap.push (setO0 led) } (.ref s.heap.objs.size) "set" := ⟨_, at0, rfl⟩
      have il := PySem.F.called_set.init.lookup
      have ib := PySem.F.called_set.init.bind (.ref s.heap.objs.size)
      repeat any_goals first | assumption | wp_step
      refine codeAny_mono (codeAny_call_builtin (R := wants (fun r s2 => r = .none ∧ ∃ h' tk, s2 = { s with heap := h', toks := tk } ∧ SetAtS P w h' s.heap.objs.size xs ∧ ∀ b o, s.heap.get? b = some o → h'.get? b = some o) E)
        PySem.F.called_set.init.plain PySem.F.entry_set_init (check_set_init_1 ty0 ?_)) fun r2 s2 hr2 => ?_
      · obtain ⟨ol, gl, cl, nl, dl⟩ := hl
        obtain ⟨c1, d1, t1, u1⟩ := ol
        simp only at cl dl
        subst cl; subst dl
        have gl1 := Heap.get?_push_of_some (setO0 led) gl
        have f1 := PySem.F.sub_list_set
        have f2 := PySem.F.sub_list_frozenset
        have f3 : (Value.type "list" == Value.type "dict") = false := by decide
        have il1 : (s.heap.push (setO0 led)).IsList l items := ⟨_, gl1, rfl, nl, rfl⟩
        unfold Builtin.«set.__init__» noKeywords Builtin.Frozenset.updateFrom
        generalize ePI : pyIter = PI
        wp_walk
        subst ePI
        refine wpAny_pyIter_list il1 (wpAny_bind (wpAny_runValue ?_))
        have lS : l < s.heap.objs.size := Heap.lt_size gl
        have z1 : (s.heap.push (setO0 led)).objs.size = s.heap.objs.size + 1 := Heap.size_push ..
        have nI : l ≠ (s.heap.push (setO0 led)).objs.size := by
          rw [z1]
          exact Nat.ne_of_lt (Nat.lt_succ_of_lt lS)
        have nS : s.heap.objs.size ∉ [(s.heap.push (setO0 led)).objs.size, l] := by
          rw [z1]
          intro m
          rcases List.mem_cons.mp m with m | m
          · exact Nat.lt_irrefl _ (Nat.lt_of_lt_of_eq (Nat.lt_succ_self _) m.symm)
          · rw [List.mem_singleton.mp m] at lS
            exact Nat.lt_irrefl _ lS
        have hd : A.in1.in1.in1.handled = none := by simp [hh]
        refine set_texts s.heap.objs.size nS xs hb (by rw [← sz]; exact (Walks.list hd _ l nI items).toS) hv xs.length 0 _ (Nat.zero_add _) ?i1 ?i2 fun s' hm st => ?_
        case i1 => exact ⟨⟨_, Heap.get?_push_size _ rfl, rfl, rfl⟩, il1.push _⟩
        case i2 => exact setS_new (led := led) (Heap.get?_push_of_some _ at0)
        obtain ⟨h', g', d', tk', os'⟩ := s'
        have eg : g' = s.gens := hm.gens
        have ed : d' = s.drawn := hm.drawn
        have eo : os' = s.os := hm.os
        subst eg; subst ed; subst eo
        show wpAny _ _ _ _ _ _
        refine wpAny_pure ?_
        show wpAny _ _ (ret Value.none) _ _ _
        refine wpAny_pure ⟨rfl, h', tk', rfl, st, fun b o e => ?_⟩
        have lb := Heap.lt_size e
        refine hm.heap b o (fun m => ?_) (Heap.get?_push_of_some _ (Heap.get?_push_of_some _ e))
        rcases List.mem_cons.mp m with m | m
        · rw [m] at lb
          exact Nat.lt_irrefl _ lb
        · rw [List.mem_singleton.mp m, z1] at lb
          exact Nat.lt_irrefl _ (Nat.lt_trans (Nat.lt_succ_self _) lb)
      · cases r2 with
        | error e => exact hr2
        | ok fl2 =>
          cases fl2 with
          | next => exact hr2.elim
          | brk => exact hr2.elim
          | cont => exact hr2.elim
          | ret u =>
            obtain ⟨rfl, h', tk, rfl, st, kp⟩ := hr2
            repeat any_goals first | assumption | wp_step
            exact hQ _ _ st kp
end
end Mi
end
section
set_option Elab.async false
set_option linter.all false
set_option maxRecDepth 100000
set_option maxHeartbeats 2000000
open PySem PySem.Spec PyProof.Rows L2
namespace Mi
/-! ## t[::-1], t a tuple -/
theorem rev_places (n : Nat) : Builtin.Slice.slicePlaces ((n : Int) - 1) (-1) (-1) = n := by
  unfold Builtin.Slice.slicePlaces
  rw [if_neg (by decide)]
  cases n with
  | zero => simp
  | succ n =>
    rw [if_pos (by omega)]
    have : ((((n + 1 : Nat) : Int) - 1 - -1 - 1) / -(-1) + 1) = ((n + 1 : Nat) : Int) := by
      rw [show (-(-1) : Int) = 1 by decide, Int.ediv_one]
      omega
    rw [this]
    rfl
theorem rev_items (xs : Array Value) : ((List.range xs.size).filterMap fun (k : Nat) => xs[((((xs.size : Nat) : Int) - 1) + (k : Int) * (-1)).toNat]?) = xs.toList.reverse := by
  have h : ∀ k ∈ List.range xs.size, xs[((((xs.size : Nat) : Int) - 1) + (k : Int) * (-1)).toNat]? = xs.toList.reverse[k]? := fun k m => by
    have hk := List.mem_range.mp m
    rw [show ((((xs.size : Nat) : Int) - 1) + (k : Int) * (-1)).toNat = xs.size - 1 - k by omega]
    rw [List.getElem?_reverse (by simpa using hk), Array.getElem?_toList]
    simp
  have all : ∀ (l : List Value), (List.range l.length).filterMap (fun k => l[k]?) = l := by
    intro l
    induction l with
    | nil => rfl
    | cons a l ih =>
      rw [List.length_cons, List.range_succ_eq_map, List.filterMap_cons]
      simp only [List.getElem?_cons_zero, List.filterMap_map]
      have : ((fun k => (a :: l)[k]?) ∘ Nat.succ) = fun k => l[k]? := by
        funext k
        simp
      rw [this, ih]
  have cg : ∀ (m : List Nat) (f g : Nat → Option Value), (∀ k ∈ m, f k = g k) → m.filterMap f = m.filterMap g := by
    intro m f g e
    induction m with
    | nil => rfl
    | cons a m ih => rw [List.filterMap_cons, List.filterMap_cons, e a (by simp), ih fun k q => e k (by simp [q])]
  rw [cg _ _ _ h]
  have e := all xs.toList.reverse
  rw [List.length_reverse, Array.length_toList] at e
  exact e
section
variable {prog : Program} {w : World} {A : Around} {E : Value → Shared → Prop} {s : Shared}
theorem getItem_tuple_rev {t sl : Addr} {items : Array Value} {vl vu vs : Value} {Q : Value → Shared → Prop} (ht : IsTup s.heap t items) (hs : s.heap.IsSliceOf sl vl vu vs) (pl : IsPart vl none) (pu : IsPart vu none) (ps : IsPart vs (some (-1)))
    (hz : items.size ≤ sizeLine) (h : Q (.ref s.heap.objs.size) { s with heap := s.heap.push { cls := .type "tuple", data := .seq items.toList.reverse.toArray } }) : wpAny (model prog w) A (getItem (.ref t) (.ref sl)) Q E s := by
  have fit : sizeOk (.seq items.toList.reverse.toArray) := by
    show items.toList.reverse.toArray.size ≤ sizeLine
    simpa using hz
  obtain ⟨os, g1, c1, d1⟩ := id hs
  have ts : s.TypeIs (.ref sl) "slice" := ⟨os, g1, c1⟩
  unfold getItem
  try with_reducible refine wpAny_holding ?_
  first | refine wpAny_bind (wpAny_pure ?_) | skip
  refine wpAny_bind (wpAny_sequenceKey ht.typeIs (by decide) ?_)
  refine wpAny_bind (wpAny_callSpecial?_slot (name := Str.ofString "__getitem__") ht.typeIs PyProof.Rows.slot_tuple_getitem
    (wpAny_call_entry PyProof.Rows.slot_tuple_getitem ht.typeIs entry_tuple_getitem ?_ (args_tuple_getitem _ _)))
  show wpAny _ _ (Builtin.Tuple.tupleItemsOf (.ref t) >>= _) _ _ s
  refine wpAny_bind (PyProof.Rows.tupleItemsOf_ ht ?_)
  refine wpAny_bind (wpAny_typeOf ts ?_)
  rw [if_pos (by decide)]
  unfold Builtin.Slice.sliceApplied Builtin.Slice.sliceFields
  refine wpAny_bind (wpAny_bind (wpAny_bind (wpAny_field g1 d1 (x := vl) rfl (wpAny_bind (wpAny_field g1 d1 (x := vu) rfl (wpAny_bind (wpAny_field g1 d1 (x := vs) rfl (wpAny_pure ?_))))))))
  refine wpAny_bind (HT.slicePart_ ps ?_)
  show wpAny _ _ (if ((-1 : Int) == 0) = true then _ else _) _ _ s
  rw [if_neg (by decide)]
  refine wpAny_bind (HT.slicePart_ pl (wpAny_bind (HT.slicePart_ pu (wpAny_bind (wpAny_pure ?_)))))
  show wpAny _ _ (pure (((items.size : Nat) : Int) - 1, (-1 : Int), Builtin.Slice.slicePlaces (((items.size : Nat) : Int) - 1) (-1) (-1))) _ _ s
  rw [rev_places]
  refine wpAny_pure ?_
  have no : ¬ (((((items.size : Nat) : Int) - 1) == 0 && (-1 : Int) == 1 && items.size == items.size) = true) := by simp
  show wpAny _ _ (if ((((items.size : Nat) : Int) - 1) == 0 && (-1 : Int) == 1 && items.size == items.size) = true then _ else _) _ _ s
  rw [if_neg no, rev_items]
  first
    | exact wpAny_bind (m := Builtin.Tuple.tupleExact _) (wpAny_newObj_type (wpAny_pure ⟨_, rfl, wpAny_pure h⟩) fit)
    | exact wpAny_bind (wpAny_bind (m := Builtin.Tuple.tupleExact _) (wpAny_newObj_type (wpAny_pure (wpAny_pure ⟨_, rfl, wpAny_pure h⟩)) fit))
end
def tRevT (K : PySem.W.Frag) (te : TE) : TE := fun σ H Q => te σ H fun x H1 => ∃ a xs, x = .ref a ∧ SqT K H1 a xs ∧ ∀ p, H1 p = none → Q (.ref p) (upd H1 p (.tup xs.reverse))
theorem pe_revT {X : Cx} {e : Expr} {te : TE} {k : Nat} {p1 p2 p3 pos : Pos} (he : PE X e te) : PE X (.Subscript e (.Slice none none (some (.UnaryOp .USub (.Constant (.int 1) k p1) p2)) p3) pos) (tRevT X.K te) := by
  refine ⟨fun pins s σ H Q I z => ?_⟩
  refine Subscript_ (thn (he.run pins s σ H _ I z) fun v t1 ⟨x, G1, I1, r1, q1⟩ => ?_)
  obtain ⟨a, xs, ex, hx, q⟩ := q1
  subst ex
  cases r1
  have step : PO X (some (.UnaryOp .USub (.Constant (.int 1) k p1) p2)) (tPart (tUn (rU fun i => .int (-i)) (tC (.int 1)))) := po_some (pe_un un_neg pe_int)
  refine wpAny_Slice (thn (po_none.run pins t1 σ G1 (fun o G2 => o = none ∧ G2 = G1) I1 ⟨rfl, rfl⟩) fun vl t2 ⟨l, G2, I2, pl, el, e2⟩ => ?_)
  subst el e2
  refine thn (po_none.run pins t2 σ G2 (fun o G3 => o = none ∧ G3 = G2) I2 ⟨rfl, rfl⟩) fun vu t3 ⟨u, G3, I3, pu, eu, e3⟩ => ?_
  subst eu e3
  refine thn (step.run pins t3 σ G3 (fun o G4 => o = some (-1) ∧ G4 = G3) I3 ⟨1, rfl, -1, rfl, rfl, rfl⟩) fun vs t4 ⟨o, G4, I4, ps, eo, e4⟩ => ?_
  subst eo e4
  have I5 : Inv X pins σ G4 { t4 with heap := t4.heap.push { cls := .type "slice", data := .fields #[vl, vu, vs] } } := I4.kept (t' := t4.toks) fun b ob w => Heap.get?_push_of_some _ w
  obtain ⟨its, r, ht, hz⟩ := I5.tuple hx
  have hn := r.length
  refine tail_any (ops := [.ref a, .ref t4.heap.objs.size]) ht.typeIs (PyProof.Rows.slot_tuple_getitem.lookup) ?_ (by with_unfolding_all rfl)
  refine getItem_tuple_rev ht (Heap.IsSliceOf.new _ vl vu vs) pl pu ps (by rw [List.size_toArray]; omega) ?_
  refine ⟨.ref _, _, I5.laid (t' := t4.toks) (o := .tup xs.reverse) (fun b ob w => Heap.get?_push_of_some _ w) (Nat.le_refl _) ?_, rfl, q _ (I5.hok.fresh (Nat.le_refl _))⟩
  exact ⟨by rw [List.length_reverse]; exact hz, _, r.reverse, IsTup.new _ _⟩
def revTR (d : D) (env : Ev) (h : MH) : Rs R := match d with
  | .tup ds => .ok (.v (.tup ds.reverse)) env h
  | _ => .no
def eRevT (m : MV) : ME := fun env h => (m env h).bind revTR
@[simp] theorem x_eRevT (m : MV) (env : Ev) (h : MH) : eRevT m env h = (m env h).bind revTR := rfl
@[simp] theorem x_revTR (ds : List D) (env : Ev) (h : MH) : revTR (.tup ds) env h = .ok (.v (.tup ds.reverse)) env h := rfl
section
variable {F : Fr} {e a b c : Expr} {es : List Expr} {pos : Pos} {X : Cx} {W : WX} {Hk : Hp} {gk g : Gh} {σ : L2.St} {env : Ev} {h : MH} {H : Hp}
theorem se_revT {m : MV} {k : Nat} {p1 p2 p3 : Pos} (he : SV F e m) : SE F (.Subscript e (.Slice none none (some (.UnaryOp .USub (.Constant (.int 1) k p1) p2)) p3) pos) (eRevT m) := fun X W gd tk Hk gk σ env h g H Q at_ p => by
  refine uE_of (pe_revT pe_u) ?_
  refine he.go gd tk at_ p fun d env1 h1 g1 H1 x s1 a1 rx p1 => ?_
  unfold revTR at p1
  split at p1
  · rename_i ds
    simp only [Rep] at rx
    obtain ⟨a, vs, rfl, l, rs⟩ := rx
    refine ⟨a, vs, rfl, l.sq, fun q nq => ?_⟩
    exact p1 _ _ ((grow_fr a1.hat nq).fstep a1.hat).toStep ((grow_fr a1.hat nq).at a1) _ (rep_newTup a1.hat nq rs.reverse)
  · exact p1.elim
/-! ## t + u, of any tuples; t * n -/
def addAO (h : MH) : D → D → Option R
  | .tup xs, .tup ys => if xs.length + ys.length ≤ sizeLine then some (.v (.tup (xs ++ ys))) else none
  | x, y => addO h x y
theorem ok_addA : OpOk F (binaryOp .Add) addAO := fun X gd h g H hat x y dx dy r rx ry e Q k => by
  unfold addAO at e
  split at e
  · have rx0 := rx
    have ry0 := ry
    simp only [Rep] at rx ry
    obtain ⟨a, vs, rfl, l1, r1⟩ := rx
    obtain ⟨b, us, rfl, l2, r2⟩ := ry
    split at e
    · rename_i hl
      cases e
      refine uOp_of op_catA ⟨a, b, vs, us, rfl, rfl, l1.sq, l2.sq, by rw [r1.length, r2.length]; exact hl, fun z => ?_, fun _ z => ?_, fun _ _ p hp => k _ _ _ (grow_fr hat hp) (rep_newTup hat hp (r1.append r2))⟩
      · refine k _ g H (Grow.refl hat) ?_
        have := r1.length
        rw [z] at this
        rw [List.length_eq_zero_iff.mp this.symm, List.nil_append]
        exact ry0
      · refine k _ g H (Grow.refl hat) ?_
        have := r2.length
        rw [z] at this
        rw [List.length_eq_zero_iff.mp this.symm, List.append_nil]
        exact rx0
    · cases e
  · exact ok_add X gd h g H hat x y dx dy r rx ry e Q k
def mulTO (h : MH) : D → D → Option R
  | .tup xs, .int j => if xs ≠ [] ∧ 2 ≤ j ∧ j ≤ 1000 ∧ xs.length ≤ 1000 then some (.v (.tup (repeatL j xs))) else none
  | _, _ => none
theorem Reps.flat {K : PySem.W.Frag} {w : World} {g : Gh} {H : Hp} {ds : List D} {vs : List V} (r : Reps K w g H vs ds) : ∀ n : Nat, Reps K w g H (List.replicate n vs).flatten (List.replicate n ds).flatten
  | 0 => Reps.nil
  | n + 1 => by
    rw [List.replicate_succ, List.replicate_succ, List.flatten_cons, List.flatten_cons]
    exact r.append (Reps.flat r n)
theorem ok_mulT : OpOk F (binaryOp .Mult) mulTO := fun X gd h g H hat x y dx dy r rx ry e Q k => by
  unfold mulTO at e
  split at e
  · rename_i xs j
    simp only [Rep] at rx ry
    obtain ⟨a, vs, rfl, l1, r1⟩ := rx
    subst ry
    split at e
    · rename_i c
      cases e
      refine uOp_of op_repT ⟨a, j, vs, rfl, rfl, l1.sq, fun z => c.1 ?_, c.2.1, c.2.2.1, by rw [r1.length]; exact c.2.2.2, fun p hp => k _ _ _ (grow_fr hat hp) (rep_newTup hat hp (r1.flat _))⟩
      have := r1.length
      rw [z] at this
      exact List.length_eq_zero_iff.mp this.symm
    · cases e
  · cases e
/-! ## [..] * n -/
def repLR (xs : List D) (d : D) (env : Ev) (h : MH) : Rs R := match d with
  | .int j => if j.natAbs ≤ 1000000 ∧ xs.length * j.toNat ≤ sizeLine then .ok (.own (repeatL j xs)) env h else .no
  | _ => .no
def eRepL (ma : MA) (mb : MV) : ME := fun env h => (ma env h).bind fun xs env h => if xs.length ≤ sizeLine then (mb env h).bind fun d env h => repLR xs d env h else .no
@[simp] theorem x_eRepL (ma : MA) (mb : MV) (env : Ev) (h : MH) : eRepL ma mb env h = (ma env h).bind fun xs env h => if xs.length ≤ sizeLine then (mb env h).bind fun d env h => repLR xs d env h else .no := rfl
theorem se_repl {ma : MA} {mb : MV} {p2 : Pos} (ha : SA F es ma) (hb : SV F b mb) : SE F (.BinOp (.List es p2) .Mult b pos) (eRepL ma mb) := fun X W gd tk Hk gk σ env h g H Q at_ p => by
  refine uE_of (pe_op op_rep (pe_lst pa_u) pe_u) ?_
  refine ha.go gd tk at_ p fun ds env1 h1 g1 H1 xs s1 a1 rs p1 => ?_
  split at p1
  · rename_i hl
    refine ⟨by rw [rs.length]; exact hl, fun q nq => ?_⟩
    have gr := grow_fr (o := .lst xs) a1.hat nq
    refine hb.go gd tk (gr.at a1) (post.step (gr.fstep a1.hat).toStep p1) fun d env2 h2 g2 H2 y s2 a2 ry p2 => ?_
    unfold repLR at p2
    split at p2
    · rename_i j
      split at p2
      · rename_i c
        have hq : H2 q = some (.lst xs) := by
          rw [s2.st q (.inr rfl)]
          exact upd_same
        have ej : y = .int j := by simpa [Rep] using ry
        refine ⟨q, j, xs, rfl, ej, hq, by omega, by omega, by rw [rs.length]; exact c.2, fun p np => ?_⟩
        have gr2 := grow_new (o := .lst (List.replicate j.toNat xs).flatten) a2.hat np
        have rs2 := (rs.step (gr.fstep a1.hat).toStep).step s2
        exact p2 _ _ (gr2.fstep a2.hat).toStep (gr2.at a2) _ ((rep_newLst a2.hat np (rs2.flat _)).rr a2 gr2)
      · exact p2.elim
    · exact p2.elim
  · exact p1.elim
end
end Mi
end
section
set_option Elab.async false
set_option linter.all false
set_option maxRecDepth 100000
set_option maxHeartbeats 2000000
open PySem PySem.Spec PyProof.Rows L2
namespace Mi
/-! ## sorted(ints) -/
def sortI (l : List Int) : List Int := l.mergeSort (fun a b => decide (a ≤ b))
theorem sortI_perm (l : List Int) : (sortI l).Perm l := List.mergeSort_perm _ _
theorem sortI_sorted (l : List Int) : (sortI l).Pairwise (· ≤ ·) := by
  have h := List.pairwise_mergeSort (le := fun a b : Int => decide (a ≤ b)) (fun a b c h1 h2 => by simp at *; omega) (fun a b => by simp; omega) l
  exact h.imp fun h => by simpa using h
theorem sortI_the {l m : List Int} (p : m.Perm l) (s : m.Pairwise (· ≤ ·)) : m = sortI l :=
  List.Perm.eq_of_pairwise (le := fun a b : Int => a ≤ b) (fun a b _ _ h1 h2 => by omega) s (sortI_sorted l) (p.trans (sortI_perm l).symm)
def sortIO (h : MH) (ds : List D) : Option R := match ds with
  | [.lst xs] => (match toInts xs with
    | some l => some (.own ((sortI l).map D.int))
    | none => none)
  | _ => none
theorem ints_reps' {K : PySem.W.Frag} {w : World} {g : Gh} {H : Hp} (l : List Int) : Reps K w g H (l.map V.int) (l.map D.int) := by
  induction l with
  | nil => exact Reps.nil
  | cons c s ih => exact Reps.cons (by simp [Rep]) ih
section
variable {F : Fr} {e a b c : Expr} {es : List Expr} {pos : Pos} {X : Cx} {W : WX} {Hk : Hp} {gk g : Gh} {σ : L2.St} {env : Ev} {h : MH} {H : Hp}
theorem ok_sortI : CallOk F (.builtin "sorted") sortIO := fun X gd h g H hat xs ds r rs e Q k => by
  unfold sortIO at e
  split at e
  · rename_i ys
    split at e
    · rename_i l e2
      cases e
      obtain ⟨x, rfl, rx⟩ := one_reps rs
      simp only [Rep] at rx
      obtain ⟨a, vs, rfl, la, rv⟩ := rx
      rw [toInts_ok rv e2] at la
      refine uCl_of cr_sortedI ⟨a, l, rfl, la.sq, fun zs p hp hs hn => k _ g _ (grow_new hat hn) (rep_newLst hat hn ?_)⟩
      rw [sortI_the hp hs]
      exact ints_reps' _
    · cases e
  · cases e
/-! ## for x in reversed(l) -/
def itemsR : D → Option (List D)
  | .lst ds => some ds.reverse
  | .tup ds => some ds.reverse
  | _ => none
def iRevI (m : MV) : MI := fun env h => (m env h).bind fun d env h => match itemsR d with
  | some ds => .ok ds env h
  | none => .no
theorem rev_get {α : Type} (l : List α) (i : Nat) (h : i < l.length) : l.reverse[i]? = l[l.length - 1 - i]? := List.getElem?_reverse h
theorem itv_ok {K : PySem.W.Frag} {w : World} {g0 : Gh} {H0 : Hp} {a : Addr} {vs : List V} {ds : List D} (l : LAt K g0 H0 a vs) (rs : Reps K w g0 H0 vs ds) : ItOk K w g0 H0 (Itv K a vs.length) ds.reverse := fun g H h s hat i => by
  have hq : SqL K H a vs := (l.step s).sq
  have hn := rs.length
  refine ⟨fun hi => by show vs.length ≤ i; rw [List.length_reverse] at hi; omega, fun d hd => ?_⟩
  have hi : i < ds.length := by have := (List.getElem?_eq_some_iff.mp hd).1; simpa using this
  rw [rev_get ds i hi, ← hn] at hd
  obtain ⟨v, e, r⟩ := rs.get' hd
  refine ⟨⟨by omega, vs, v, hq, e⟩, fun x H' hy => ?_⟩
  obtain ⟨rfl, hx⟩ := hy
  have := hx vs hq
  rw [e] at this
  cases this
  exact ⟨g, Grow.refl hat, r.step s⟩
theorem itvT_ok {K : PySem.W.Frag} {w : World} {g0 : Gh} {H0 : Hp} {a : Addr} {vs : List V} {ds : List D} (l : TAt K g0 H0 a vs) (rs : Reps K w g0 H0 vs ds) : ItOk K w g0 H0 (RT.ItvT K a vs.length) ds.reverse := fun g H h s hat i => by
  have hq : SqT K H a vs := (l.step s).sq
  have hn := rs.length
  refine ⟨fun hi => by show vs.length ≤ i; rw [List.length_reverse] at hi; omega, fun d hd => ?_⟩
  have hi : i < ds.length := by have := (List.getElem?_eq_some_iff.mp hd).1; simpa using this
  rw [rev_get ds i hi, ← hn] at hd
  obtain ⟨v, e, r⟩ := rs.get' hd
  refine ⟨⟨by omega, vs, v, hq, e⟩, fun x H' hy => ?_⟩
  obtain ⟨rfl, hx⟩ := hy
  have := hx vs hq
  rw [e] at this
  cases this
  exact ⟨g, Grow.refl hat, r.step s⟩
theorem si_rev {tg : Expr} {m : MV} {p : Pos} (he : SV F e m) (hg : F.sc.names.lookup ("reversed" : Str) = some .globalImplicit := by rfl) (hm : F.mg "reversed" = none) (hs : ∀ env, starEach [e] env = (false, eval e env) :: starEach [] env := by intros; rfl) : SI F tg (.Call (.Name "reversed" p) [e] [] pos) (iRevI m) := fun X W gd tk Hk gk σ env h g H R at_ p => by
  refine uI_of (RT.pi_revA (by show X.env.scope.names.lookup _ = _; rw [gd.sc]; exact hg) (by rw [gd.mg]; exact hm) pe_u (hs _)) ?_
  refine he.go gd tk at_ p fun d env1 h1 g1 H1 x s1 a1 rx p1 => ?_
  cases d with
  | lst ds =>
    simp only [Rep] at rx
    obtain ⟨a, vs, rfl, l, rs⟩ := rx
    exact ⟨a, vs, rfl, .inl ⟨l.sq, p1 g1 H1 (Step.refl _ _) a1 _ (itv_ok l rs)⟩⟩
  | tup ds =>
    simp only [Rep] at rx
    obtain ⟨a, vs, rfl, l, rs⟩ := rx
    exact ⟨a, vs, rfl, .inr ⟨l.sq, p1 g1 H1 (Step.refl _ _) a1 _ (itvT_ok l rs)⟩⟩
  | _ => exact p1.elim
@[simp] theorem x_iRevI (m : MV) (env : Ev) (h : MH) : iRevI m env h = (m env h).bind fun d env h => match itemsR d with
  | some ds => .ok ds env h
  | none => .no := rfl
/-! ## len(set(l)), l a list of texts -/
def lenSR (d : D) (env : Ev) (h : MH) : Rs R := match d with
  | .lst xs => (match toStrs xs with
    | some l => if l.length ≤ 4000 then .ok (.v (.int (mets l).length)) env h else .no
    | none => .no)
  | _ => .no
def eLenS (m : MV) : ME := fun env h => (m env h).bind fun d env h => lenSR d env h
@[simp] theorem x_eLenS (m : MV) (env : Ev) (h : MH) : eLenS m env h = (m env h).bind fun d env h => lenSR d env h := rfl
theorem lenSR_strs {l : List (List Nat)} (hl : l.length ≤ 4000) (env : Ev) (h : MH) : lenSR (.lst (l.map D.str)) env h = .ok (.v (.int (mets l).length)) env h := by
  unfold lenSR
  dsimp only
  rw [show toStrs (l.map D.str) = some l by simpa using toStrs_map id l]
  exact if_pos hl
def tLenS (K : PySem.W.Frag) (ta : TE) : TE := fun σ H Q => ta σ H fun x H1 => ∃ (l : Addr) (xs : List (List Nat)), x = .ref l ∧ SqL K H1 l ((xs.map S).map V.str) ∧ xs.length ≤ 4000 ∧ Q (.int (mets xs).length) H1
theorem pe_lenS {ta : TE} {p p2 q : Pos} (hc : X.calm = true) (hg : Gl X "len") (hm : X.mg "len" = none) (hg2 : Gl X "set") (hm2 : X.mg "set" = none) (ha : PE X a ta)
    (na : starEach [a] X.env = (false, eval a X.env) :: starEach [] X.env := by rfl) : PE X (.Call (.Name "len" p) [.Call (.Name "set" p2) [a] [] q] [] pos) (tLenS X.K ta) := by
  refine ⟨fun pins s σ H Q I z => ?_⟩
  refine Call_ (ld_blt I hg hm boot_len ?_)
  refine PyProof.Rows.callWith_builtin1 (PyProof.Rows.args_cons ?_ rfl) rfl rfl
  refine Call_ (ld_blt I hg2 hm2 boot_set ?_)
  refine PyProof.Rows.callWith_type1 (PyProof.Rows.args_cons (thn (ha.run pins s σ H _ I z) fun v s1 ⟨x, H1, I1, r1, q1⟩ => PyProof.Rows.args_nil ?_) na) na rfl
  obtain ⟨l, xs, rfl, hq, hz, qq⟩ := q1
  cases r1
  obtain ⟨its, r, pl, _⟩ := I1.list hq
  have hn : its.length = xs.length := by have := r.length; simp at this; omega
  refine call_set_texts xs (I1.ok.hd hc) pl.isList (by rw [List.size_toArray]; exact hn) (fun i v hv => ?_) (by unfold scanBound; omega) fun h' tk st kp => ?_
  · rw [List.getElem?_toArray] at hv
    have hi : i < xs.length := by have := (List.getElem?_eq_some_iff.mp hv).1; omega
    obtain ⟨u, hu, ru⟩ := r.get (i := i) (x := .str (S xs[i])) (by simp [hi])
    rw [hv] at hu
    cases hu
    obtain ⟨t, rfl⟩ := ru
    exact ⟨xs[i], t, List.getElem?_eq_getElem hi, rfl⟩
  · refine PyProof.Rows.args_nil ?_
    obtain ⟨o, es, ep, t, ho, hex, hd, _, _, _, hf, ne⟩ := st
    have I2 : Inv X pins σ H1 { s1 with heap := h', toks := tk } := I1.kept kp
    have hm2 := mets_len xs
    refine call_len_set ho hex hd hf (by rw [ne]; omega) ⟨.int (mets xs).length, H1, I2.tok _, ⟨_, by rw [ne]⟩, qq⟩
theorem se_lenS {m : MV} {p p2 q : Pos} (ha : SV F a m) (hcm : F.cm = true := by rfl) (hg : F.sc.names.lookup ("len" : Str) = some .globalImplicit := by rfl) (hm : F.mg "len" = none) (hg2 : F.sc.names.lookup ("set" : Str) = some .globalImplicit := by rfl) (hm2 : F.mg "set" = none)
    (n1 : ∀ env, starEach [a] env = (false, eval a env) :: starEach [] env := by intros; rfl) : SE F (.Call (.Name "len" p) [.Call (.Name "set" p2) [a] [] q] [] pos) (eLenS m) := fun X W gd tk Hk gk σ env h g H Q at_ pp => by
  refine uE_of (pe_lenS (gd.calm hcm) (by show X.env.scope.names.lookup _ = _; rw [gd.sc]; exact hg) (by rw [gd.mg]; exact hm) (by show X.env.scope.names.lookup _ = _; rw [gd.sc]; exact hg2) (by rw [gd.mg]; exact hm2) pe_u (n1 _)) ?_
  refine ha.go gd tk at_ pp fun d env1 h1 g1 H1 x s1 a1 rx p1 => ?_
  unfold lenSR at p1
  split at p1
  · rename_i ys
    split at p1
    · rename_i l el
      split at p1
      · rename_i hl
        simp only [Rep] at rx
        obtain ⟨b, vs, rfl, la, rv⟩ := rx
        rw [toStrs_ok rv el] at la
        exact ⟨b, l, rfl, la.sq, hl, p1 g1 H1 (Step.refl _ _) a1 _ (by simp [RR, Rep])⟩
      · exact p1.elim
    · exact p1.elim
  · exact p1.elim
end
@[simp] theorem x_addA_tup (h : MH) (xs ys : List D) : addAO h (.tup xs) (.tup ys) = if xs.length + ys.length ≤ sizeLine then some (.v (.tup (xs ++ ys))) else none := rfl
@[simp] theorem x_sortI {h : MH} (l : List Int) : sortIO h [.lst (l.map D.int)] = some (.own ((sortI l).map D.int)) := by
  unfold sortIO
  dsimp only
  rw [toInts_map]
@[simp] theorem x_itemsR_lst (ds : List D) : itemsR (.lst ds) = some ds.reverse := rfl
@[simp] theorem x_itemsR_tup (ds : List D) : itemsR (.tup ds) = some ds.reverse := rfl
theorem repLR_int {xs : List D} {j : Int} (h1 : 0 ≤ j) (h2 : j ≤ 1000000) (h3 : xs.length * j.toNat ≤ sizeLine) (env : Ev) (h : MH) : repLR xs (.int j) env h = .ok (.own (repeatL j xs)) env h := by
  unfold repLR
  exact if_pos ⟨by omega, h3⟩
theorem mulT_tup (h : MH) {xs : List D} {j : Int} (h0 : xs ≠ []) (h1 : 2 ≤ j) (h2 : j ≤ 1000) (h3 : xs.length ≤ 1000) : mulTO h (.tup xs) (.int j) = some (.v (.tup (repeatL j xs))) := by
  unfold mulTO
  exact if_pos ⟨h0, h1, h2, h3⟩
end Mi
end
section
set_option Elab.async false
set_option linter.all false
set_option maxRecDepth 100000
set_option maxHeartbeats 2000000
open PySem PySem.Spec PyProof.Rows L2
namespace Mi
/-! ## x in v, x not in v: v a name, its own list is not frozen -/
def inVR (neg : Bool) (s : Option Sl) (x : D) (env : Ev) (h : MH) : Rs R := match s with
  | some (.own ds) => (match inL x ds with
    | some b => .ok (.v (.bl (b != neg))) env h
    | none => .no)
  | some (.v (.loc n)) => (match h[n]? with
    | some (.lst ds) => (match inL x ds with
      | some b => .ok (.v (.bl (b != neg))) env h
      | none => .no)
    | none => .no)
  | some (.v d) => (match inD h x d with
    | some b => .ok (.v (.bl (b != neg))) env h
    | none => .no)
  | _ => .no
def eInV (neg : Bool) (mx : MV) (i : Nat) : ME := fun env h => if live env i = true then (mx env h).bind fun x env h => inVR neg env[i]? x env h else .no
@[simp] theorem x_eInV (neg : Bool) (mx : MV) (i : Nat) (env : Ev) (h : MH) : eInV neg mx i env h = if live env i = true then (mx env h).bind fun x env h => inVR neg env[i]? x env h else .no := rfl
@[simp] theorem inVR_own (neg : Bool) (ds : List D) (x : D) (env : Ev) (h : MH) : inVR neg (some (.own ds)) x env h = (match inL x ds with
    | some b => .ok (.v (.bl (b != neg))) env h
    | none => .no) := rfl
theorem inVR_loc (neg : Bool) {n : Nat} {ds : List D} {h : MH} (e : h[n]? = some (.lst ds)) (x : D) (env : Ev) : inVR neg (some (.v (.loc n))) x env h = (match inL x ds with
    | some b => .ok (.v (.bl (b != neg))) env h
    | none => .no) := by
  unfold inVR
  dsimp only
  rw [e]
@[simp] theorem inVR_str (neg : Bool) (s : List Nat) (x : D) (env : Ev) (h : MH) : inVR neg (some (.v (.str s))) x env h = (match inD h x (.str s) with
    | some b => .ok (.v (.bl (b != neg))) env h
    | none => .no) := rfl
@[simp] theorem inVR_tup (neg : Bool) (s : List D) (x : D) (env : Ev) (h : MH) : inVR neg (some (.v (.tup s))) x env h = (match inL x s with
    | some b => .ok (.v (.bl (b != neg))) env h
    | none => .no) := rfl
@[simp] theorem inVR_lst (neg : Bool) (s : List D) (x : D) (env : Ev) (h : MH) : inVR neg (some (.v (.lst s))) x env h = (match inL x s with
    | some b => .ok (.v (.bl (b != neg))) env h
    | none => .no) := rfl
section
variable {F : Fr} {e a b c : Expr} {es : List Expr} {pos : Pos} {X : Cx} {W : WX} {Hk : Hp} {gk g : Gh} {σ : L2.St} {env : Ev} {h : MH} {H : Hp}
def opN (neg : Bool) : CmpOp := if neg then .NotIn else .In
theorem in_seq (neg : Bool) {g : Gh} {H : Hp} {x : V} {y : Addr} {d : D} {vs : List V} {ds : List D} {r : Bool} (hs : SqL X.K H y vs) (rx : Rep X.K X.w g H x d) (rs : Reps X.K X.w g H vs ds) (e : inL d ds = some r) {Q : VK} (q : Q (.bl (r != neg)) H) : uOp X (compareOp (opN neg)) x (.ref y) H Q := by
  unfold inL at e
  split at e
  · rename_i f
    cases e
    cases neg with
    | false =>
      refine uOp_of op_in_seq ⟨y, vs, rfl, .inl hs, flat_ok rx f.1, flats_ok rs f.2, ?_⟩
      rw [if_neg (by decide), any_ok rx f.1 rs f.2]
      simpa using q
    | true =>
      refine uOp_of op_notIn_seq ⟨y, vs, rfl, .inl hs, flat_ok rx f.1, flats_ok rs f.2, ?_⟩
      rw [if_pos rfl, any_ok rx f.1 rs f.2]
      simpa using q
  · cases e
theorem inv_go (neg : Bool) {mx : MV} {i : Nat} (ha : SV F a mx) (gd : Good F X) (tk : Takes X W) (at_ : At X.K X.w X.mg Hk gk σ env h g H) {Q : VK}
    (p : post X.K X.w X.mg W Hk gk σ g H (eInV neg mx i env h) (fun r env' _ g' H' => ∀ x, RR X.K X.w Hk σ env' g' H' x r → Q x H')) : tOp (uOp X (compareOp (opN neg))) (uE X a) (tVar i) σ H Q := by
  unfold eInV at p
  split at p
  · rename_i hl
    refine ha.go gd tk at_ p fun dx env1 h1 g1 H1 x s1 a1 rx p1 => ?_
    obtain ⟨y, hy⟩ := slot_of at_ hl
    refine ⟨y, hy, ?_⟩
    unfold inVR at p1
    split at p1
    · rename_i ds e1
      obtain ⟨b, h2, o⟩ := a1.own i ds e1
      rw [hy] at h2
      cases h2
      obtain ⟨vs, h3, rs⟩ := o.at_
      split at p1
      · rename_i r er
        exact in_seq neg (.of h3) rx rs er (p1 g1 H1 (Step.refl _ _) a1 _ (by simp [RR, Rep]))
      · exact p1.elim
    · rename_i n e1
      obtain ⟨z, h2, rz⟩ := a1.val i _ e1
      rw [hy] at h2
      cases h2
      simp only [Rep] at rz
      obtain ⟨_, rfl⟩ := rz
      split at p1
      · rename_i ds e2
        obtain ⟨⟨vs, h3, rs⟩, _⟩ := a1.hat.obj n _ e2
        split at p1
        · rename_i r er
          exact in_seq neg (.of h3) rx rs er (p1 g1 H1 (Step.refl _ _) a1 _ (by simp [RR, Rep]))
        · exact p1.elim
      · exact p1.elim
    · rename_i d hn e1
      obtain ⟨z, h2, rz⟩ := a1.val i d e1
      rw [hy] at h2
      cases h2
      split at p1
      · rename_i r er
        cases neg with
        | false =>
          refine ok_in X gd h1 g1 H1 a1.hat x y dx d (.v (.bl r)) rx rz (by unfold inO; rw [er]; rfl) Q fun z g' H' gr q => ?_
          exact p1 g' H' (gr.fstep a1.hat).toStep (gr.at a1) z (by simpa using q.rr a1 gr)
        | true =>
          refine ok_nin X gd h1 g1 H1 a1.hat x y dx d (.v (.bl (!r))) rx rz (by unfold ninO; rw [er]; rfl) Q fun z g' H' gr q => ?_
          exact p1 g' H' (gr.fstep a1.hat).toStep (gr.at a1) z (by simpa using q.rr a1 gr)
      · exact p1.elim
    · exact p1.elim
  · exact p.elim
theorem se_inv {neg : Bool} {op : CmpOp} {mx : MV} {i : Nat} {nm : Str} {p2 : Pos} (hop : op = opN neg := by rfl) (ha : SV F a mx) (hN : F.N[i]? = some nm := by rfl) (hv : Vis F.sc nm := by first | exact Or.inl rfl | exact Or.inr (Or.inl rfl) | exact Or.inr (Or.inr rfl)) (hd : (nm == ("__debug__" : Str)) = false := by decide) (hcd : (nm == ("__classdict__" : Str)) = false := by decide)
    (hm : behindInMarks op (.Name nm p2) = false := by rfl) : SE F (.Compare a [op] [.Name nm p2] pos) (eInV neg mx i) := fun X W gd tk Hk gk σ env h g H Q at_ p => by
  subst hop
  exact uE_of (pe_cmpR op_u pe_u (pe_var (i := i) (by rw [gd.N]; exact hN) (by rw [gd.sc]; exact hv) hd hcd) hm) (inv_go neg ha gd tk at_ p)
theorem sb_inv {neg : Bool} {op : CmpOp} {mx : MV} {i : Nat} {nm : Str} {p2 : Pos} (hop : op = opN neg := by rfl) (ha : SV F a mx) (hN : F.N[i]? = some nm := by rfl) (hv : Vis F.sc nm := by first | exact Or.inl rfl | exact Or.inr (Or.inl rfl) | exact Or.inr (Or.inr rfl)) (hd : (nm == ("__debug__" : Str)) = false := by decide) (hcd : (nm == ("__classdict__" : Str)) = false := by decide)
    (hm : behindInMarks op (.Name nm p2) = false := by rfl) : SB F (.Compare a [op] [.Name nm p2] pos) (toB (eInV neg mx i)) := fun X W gd tk Hk gk σ env h g H Q at_ p => by
  subst hop
  exact uT_of (pt_cmpR op_u pe_u (pe_var (i := i) (by rw [gd.N]; exact hN) (by rw [gd.sc]; exact hv) hd hcd) hm) (tb_go (fun Q p => inv_go neg ha gd tk at_ p) p)
end
end Mi
end
section
set_option Elab.async false
set_option linter.all false
set_option maxRecDepth 100000
set_option maxHeartbeats 2000000
/-! frames in which an exception is handled: walks over lists, tuple targets, list comprehensions -/
namespace Mi
open PySem PySem.Spec PyProof.Rows L2 HotX
section
variable {prog : Program} {w : World} {A : Around} {E : Value → Shared → Prop} {s : Shared}
/-- the end of a walk: StopIteration made and thrown while x1 is handled -/
theorem stop_h {x1 it : Addr} {h2 : Heap} {Q : Option Value → Shared → Prop} {f : Obj → Obj} (hot : HotAt A x1 s.heap) (ne : x1 ≠ it) (e2 : h2 = s.heap.update it f)
    (q : ∀ h', Heap.ExtBut it s.heap h' → Q none { s with heap := h' }) :
    wpAny (model prog w) A.in1 (Builtin.SmallTypes.stopIteration : Sem PySem.Fin) (fun _ _ => False) (fun e s' => wpAny (model prog w) A (isInstance e (.type "StopIteration")) (fun b s2 => b = true ∧ Q none s2) E s') { s with heap := h2 } := by
  obtain ⟨hh, o1, vs1, k1, d1, c1⟩ := hot
  have k2 : h2.get? x1 = some o1 := by rw [e2, Heap.get?_update_other _ _ ne.symm]; exact k1
  have k3 : ∀ b o, b ≠ it → s.heap.get? b = some o → h2.get? b = some o := fun b o hb e => by rw [e2, Heap.get?_update_other _ _ (Ne.symm hb)]; exact e
  show wpAny _ _ (newExc (.type "StopIteration") [] >>= _) _ _ (_ : Shared)
  refine wpAny_bind ?_
  simp only [newExc, newTuple]
  refine (wpAny_bind (wpAny_newObj_type ?_ (by size_fits)))
  refine (wpAny_bind (m := firstArgMember _ _) (wpAny_of_eq (a := Value.none) (by first | rfl | (simp only [firstArgMember]; rfl)) ?_))
  refine (wpAny_newObj_type ?_ (by size_fits))
  refine raiseNew_hot (A := A.in1) ⟨hh, o1, vs1, Heap.get?_push_of_some _ (Heap.get?_push_of_some _ k2), d1, c1⟩ (Nat.ne_of_lt (Heap.lt_size (Heap.get?_push_of_some _ k2))) (Heap.get?_push_size _ rfl) rfl (by first | (simp; done) | (simp; omega) | (simp only [Array.size_append]; simp; omega)) ?_
  refine (wpAny_isInstance (T := "StopIteration") (b := true) ⟨_, Heap.get?_update_self _ (Heap.get?_push_size _ rfl) rfl, rfl⟩ isSubtype_stop ?_)
  refine ⟨rfl, q _ fun b o hb e => ?_⟩
  have e' := k3 b o hb e
  rw [Heap.get?_update_other _ _ (Nat.ne_of_gt (Heap.lt_size (Heap.get?_push_of_some _ e')))]
  exact (Heap.get?_push_of_some _ (Heap.get?_push_of_some _ e'))
theorem next_lst_end {it l x1 : Addr} {i : Nat} {items : Array Value} {Q : Option Value → Shared → Prop} (hot : HotAt A x1 s.heap) (ne : x1 ≠ it) (hi : s.heap.IsListIter it l i) (hl : s.heap.IsList l items) (hx : items[i]? = none)
    (q : ∀ h', Heap.ExtBut it s.heap h' → Q none { s with heap := h' }) : wpAny (model prog w) A (pyNext (.ref it)) Q E s := by
  obtain ⟨oi, hoi, ci, di⟩ := id hi
  obtain ⟨ol, hol, _, nl, dl⟩ := hl
  unfold pyNext
  refine wpAny_bind (wpAny_attempt (wpAny_callSpecial?_slot (name := Str.ofString "__next__") hi.typeIs slot_listiter_next
    (wpAny_call_entry slot_listiter_next hi.typeIs entry_listiter_next ?_ (args_listiter_next _))))
  show wpAny _ _ (field (.ref it) 0 >>= _) _ _ _
  refine wpAny_bind (wpAny_field hoi di (x := .ref l) rfl ?_)
  show wpAny _ _ (if (Value.ref l == Value.none) = true then _ else _) _ _ _
  rw [if_neg (show ¬ (Value.ref l == Value.none) = true from Bool.false_ne_true)]
  show wpAny _ _ (field (.ref it) 1 >>= _) _ _ _
  refine wpAny_bind (wpAny_field hoi di (x := .int i 0) rfl ?_)
  show wpAny _ _ (seqItems? (.ref l) >>= _) _ _ _
  refine wpAny_bind (wpAny_seqItems hol dl ?_)
  simp only [Int.toNat_natCast, hx]
  refine wpAny_bind (wpAny_rule (wpAny_bind (wpAny_setField hoi di (by simp) ?_)))
  refine wpAny_mono (stop_h (E := E) hot ne rfl q) (fun _ _ z => False.elim z) fun e s' z => ?_
  refine wpAny_bind (wpAny_mono z (fun b s2 y => ?_) fun _ _ y => y)
  obtain ⟨rfl, y⟩ := y
  exact wpAny_pure y
theorem next_tup_end {it l x1 : Addr} {i : Nat} {items : Array Value} {Q : Option Value → Shared → Prop} (hot : HotAt A x1 s.heap) (ne : x1 ≠ it) (hi : IsTupIter s.heap it l i) (hl : IsTup s.heap l items) (hx : items[i]? = none)
    (q : ∀ h', Heap.ExtBut it s.heap h' → Q none { s with heap := h' }) : wpAny (model prog w) A (pyNext (.ref it)) Q E s := by
  obtain ⟨oi, hoi, ci, di⟩ := id hi
  obtain ⟨ol, hol, _, nl, dl⟩ := hl
  unfold pyNext
  refine wpAny_bind (wpAny_attempt (wpAny_callSpecial?_slot (name := Str.ofString "__next__") hi.typeIs slot_tupleiter_next
    (wpAny_call_entry slot_tupleiter_next hi.typeIs entry_tupleiter_next ?_ (args_tupleiter_next _))))
  show wpAny _ _ (field (.ref it) 0 >>= _) _ _ _
  refine wpAny_bind (wpAny_field hoi di (x := .ref l) rfl ?_)
  show wpAny _ _ (if (Value.ref l == Value.none) = true then _ else _) _ _ _
  rw [if_neg (show ¬ (Value.ref l == Value.none) = true from Bool.false_ne_true)]
  show wpAny _ _ (field (.ref it) 1 >>= _) _ _ _
  refine wpAny_bind (wpAny_field hoi di (x := .int i 0) rfl ?_)
  show wpAny _ _ (seqItems? (.ref l) >>= _) _ _ _
  refine wpAny_bind (wpAny_seqItems hol dl ?_)
  simp only [Int.toNat_natCast, hx]
  refine wpAny_bind (wpAny_rule (wpAny_bind (wpAny_setField hoi di (by simp) ?_)))
  refine wpAny_mono (stop_h (E := E) hot ne rfl q) (fun _ _ z => False.elim z) fun e s' z => ?_
  refine wpAny_bind (wpAny_mono z (fun b s2 y => ?_) fun _ _ y => y)
  obtain ⟨rfl, y⟩ := y
  exact wpAny_pure y
theorem hot_but {x1 it : Addr} {h h' : Heap} (hot : HotAt A x1 h) (ne : x1 ≠ it) (e : ∀ b o, b ≠ it → h.get? b = some o → h'.get? b = some o) : HotAt A x1 h' := by
  obtain ⟨hh, o1, vs1, k1, d1, c1⟩ := hot
  exact ⟨hh, o1, vs1, e _ _ ne k1, d1, c1⟩
theorem unpack_tupH {x1 t : Addr} {items : Array Value} {tgs : List (Bool × (Value → Sem Unit))} {Q : Unit → Shared → Prop} (hot : HotAt A x1 s.heap) (ht : IsTup s.heap t items) (hn : tgs.length = items.size) (hst : tgs.findIdx? (·.1) = none)
    (q : ∀ h', Heap.ExtBut s.heap.objs.size s.heap h' → wpAny (model prog w) A (assignInOrder (tgs.map (·.2)) items.toList) Q E { s with heap := h' }) : wpAny (model prog w) A (unpack (.ref t) tgs) Q E s := by
  have hlt : t ≠ s.heap.objs.size := by obtain ⟨o, ho, _⟩ := ht; exact Nat.ne_of_lt (Heap.lt_size ho)
  have hx : x1 ≠ s.heap.objs.size := by obtain ⟨_, o, _, ho, _⟩ := hot; exact Nat.ne_of_lt (Heap.lt_size ho)
  unfold unpack
  rw [hn, hst]
  refine wpAny_bind (wpAny_holding ?_)
  unfold unpackItems
  refine wpAny_bind ?_
  unfold notIterableAtAll
  refine wpAny_bind (wpAny_specialOf ht.typeIs (slot_tuple_iter.lookup) ?_)
  refine wpAny_pure ?_
  simp only [Bool.false_eq_true, if_false]
  refine wpAny_bind (wpAny_holding (iter_tuple ht ?_))
  refine wpAny_bind (wpAny_holding (draw_tuple hlt items.size 0 _ _ ⟨_, Heap.get?_push_size _ rfl, rfl, rfl⟩ (ht.push _) (by omega) fun h1 i1 s1 => ?_))
  have all : List.take items.size (List.drop 0 items.toList) = items.toList := by
    rw [List.drop_zero]
    exact List.take_of_length_le (by simp)
  rw [all, if_neg (by simp)]
  have t1 : IsTup h1 t items := (ht.push _).extBut s1.extBut hlt
  have ho1 : HotAt A x1 h1 := hot_but hot hx fun b o hb e => s1.extBut b o hb (Heap.get?_push_of_some _ e)
  refine wpAny_bind (wpAny_holding (next_tup_end ho1 hx i1 t1 (by simp) fun h2 e2 => ?_))
  simp only [Option.isSome_none, Bool.false_eq_true, if_false]
  exact wpAny_pure (q h2 fun b o hb e => e2 b o hb (s1.extBut b o hb (Heap.get?_push_of_some _ e)))
end
theorem HotX.at {X : Cx} {pins : List (Addr × Obj)} {σ : L2.St} {H : Hp} {s : Shared} (hx : HotX X) (I : Inv X pins σ H s) : ∃ a, HotAt X.A a s.heap ∧ H a ≠ none := by
  obtain ⟨a, oe, h1, h2, vs, h3, h4⟩ := hx
  have e := I.base.frzs a oe _ h2
  obtain ⟨hg, _⟩ := I.hok a _ e
  exact ⟨a, ⟨h1, oe, vs, hg, h3, h4⟩, by rw [e]; exact fun z => nomatch z⟩
section
variable {X : Cx} {pos : Pos}
theorem pg_tupH {es : List Expr} {k : Nat} {t : TGs} {n : Nat} (hx : HotX X) (h : PGs X es t) (hn : (assignEach es X.env).length = n) (hst : (assignEach es X.env).findIdx? (·.1) = none) : PG X (.Tuple es k pos) (gTup X.K n t) := by
  refine ⟨fun pins s σ H v u Q I r hw => ?_⟩
  obtain ⟨a, xs, rfl, hq, hl, hw⟩ := hw
  cases r
  obtain ⟨its, rv, ht, hz⟩ := I.tuple hq
  obtain ⟨x1, hot, _⟩ := hx.at I
  rw [assign_Tuple]
  refine wpAny_bind (wpAny_standAt (unpack_tupH hot ht (by simp [hn, ← hl, rv.length]) hst fun h' hx' => ?_))
  have I1 : Inv X pins σ H { s with heap := h' } := I.kept (t' := s.toks) fun b o e => hx' b o (Nat.ne_of_lt (Heap.lt_size e)) e
  exact h.run pins _ σ H xs _ Q I1 (by simpa using rv) hw
end
end Mi
end
section
set_option Elab.async false
set_option linter.all false
set_option maxRecDepth 100000
set_option maxHeartbeats 2000000
/-! list comprehensions in frames in which an exception is handled -/
namespace Mi
open PySem PySem.Spec PyProof.Rows L2 HotX
/-- a walk's turns in such frames -/
structure TurnX (P : Program) (w : World) (K : PySem.W.Frag) (tg : Expr) (J : It) (fp : List Addr) (it : Addr) (tn : Nat → Heap → Prop) : Prop where
  mem : it ∈ fp
  obj : ∀ i h, tn i h → ∀ b ∈ fp, ∃ o, h.get? b = some o ∧ ∀ v, o.data ≠ .cell v
  keep : ∀ i h h', tn i h → (∀ b ∈ fp, ∀ o, h.get? b = some o → h'.get? b = some o) → tn i h'
  item : ∀ (Y : Cx), Y.prog = P → Y.w = w → Y.K = K → HotX Y → ∀ (i : Nat) (ps : List (Addr × Obj)) (t : Shared) (τ : L2.St) (G : Hp) (E : Value → Shared → Prop), Inv Y ps τ G t → (∀ b ∈ fp, FpOk Y ps G b) → tn i t.heap → J.go i G →
    wpAny (model P w) Y.A (pyNext (.ref it)) (fun r t1 => ∃ u, r = some u ∧ wpAny (model P w) Y.A (letOwnedTupleGo tg (.ref it) u) (fun _ t2 => ∃ x G', Inv Y ps τ G' t2 ∧ RelV x u ∧ J.yld i G x G' ∧ tn (i + 1) t2.heap ∧ ∀ b ∈ fp, G' b = none) E t1) E t
  done : ∀ (Y : Cx), Y.prog = P → Y.w = w → Y.K = K → HotX Y → ∀ (i : Nat) (ps : List (Addr × Obj)) (t : Shared) (τ : L2.St) (G : Hp) (E : Value → Shared → Prop), Inv Y ps τ G t → (∀ b ∈ fp, FpOk Y ps G b) → tn i t.heap → J.stop i G →
    wpAny (model P w) Y.A (pyNext (.ref it)) (fun r t1 => r = none ∧ Inv Y ps τ G t1) E t
  self : ∀ (A : Around) (i : Nat) (t : Shared) (Q : Value → Shared → Prop) (E : Value → Shared → Prop), tn i t.heap → Q (.ref it) t → wpAny (model P w) A (pyIter (.ref it)) Q E t
theorem turn_lstX {P : Program} {w : World} {K : PySem.W.Frag} {tg : Expr} (a it : Addr) : TurnX P w K tg (Itl K a) [it] it (fun i h => h.IsListIter it a i) where
  mem := (turn_list (P := P) (w := w) (K := K) (tg := tg) a it).mem
  obj := (turn_list (P := P) (w := w) (K := K) (tg := tg) a it).obj
  keep := (turn_list (P := P) (w := w) (K := K) (tg := tg) a it).keep
  item := by
    intro Y hP hw hK hc i ps t τ G E J hf st hg
    subst hP hw hK
    obtain ⟨xs, x, hq, e⟩ := hg
    obtain ⟨its, rv, p, _⟩ := J.list hq
    obtain ⟨u, hu, ru⟩ := rv.get e
    obtain ⟨n0, n1, n2, n3, n4, n5⟩ := hf it (by simp)
    refine wpAny_pyNext_list_item st p.isList (x := u) (by simpa using hu) fun h' st' sb => ?_
    have J1 : Inv Y ps τ G { t with heap := h' } := J.turned (t' := t.toks) (fun b o hb e => (sb.2 b hb).trans e) n0 n1 n3 n4 n5
    obtain ⟨o, e1, c, d⟩ := id st'
    exact ⟨u, rfl, go_of (s := { t with heap := h' }) e1 c d (by decide) ⟨x, G, J1, ru, ⟨rfl, fun ys hy => (J.list_inj hy hq) ▸ e⟩, st', fun b hb => (hf b hb).1⟩⟩
  done := by
    intro Y hP hw hK hc i ps t τ G E J hf st hg
    subst hP hw hK
    obtain ⟨xs, hq, hz⟩ := hg
    obtain ⟨its, rv, p, _⟩ := J.list hq
    obtain ⟨n0, n1, n2, n3, n4, n5⟩ := hf it (by simp)
    obtain ⟨x1, hot, na⟩ := hc.at J
    have ln := rv.length
    exact next_lst_end hot (fun q => na (q ▸ n0)) st p.isList (by simp; omega) fun h' eb => ⟨rfl, J.turned (t' := t.toks) (fun b o hb e => eb b o hb e) n0 n1 n3 n4 n5⟩
  self := (turn_list (P := P) (w := w) (K := K) (tg := tg) a it).self
def PIEX (X : Cx) (pins : List (Addr × Obj)) (σ : L2.St) (tg : Expr) (R : It → Hp → Prop) (itv : Value) (t : Shared) : Prop :=
  ∃ (it : Addr) (fp : List Addr) (tn : Nat → Heap → Prop) (J : It) (G : Hp), itv = .ref it ∧ Inv X pins σ G t ∧ TurnX X.prog X.w X.K tg J fp it tn ∧ tn 0 t.heap ∧ (∀ b ∈ fp, FpOk X pins G b) ∧ R J G
structure PIX (X : Cx) (tg iter : Expr) (wi : TI) : Prop where
  run : ∀ (pins : List (Addr × Obj)) (s : Shared) (σ : L2.St) (H : Hp) (R : It → Hp → Prop), Inv X pins σ H s → wi σ H R →
    wpAny (model X.prog X.w) X.A (eval iter X.env) (fun v t => wpAny (model X.prog X.w) X.A (pyIter v) (PIEX X pins σ tg R) X.xe t) X.xe s
section
variable {X : Cx} {tg : Expr}
theorem pix_list {l : Expr} {tl : TE} (hl : PE X l tl) : PIX X tg l (iList X.K tl) := by
  refine ⟨fun pins s σ H R I h => thn (hl.run pins s σ H _ I h) fun v t z => ?_⟩
  obtain ⟨x, G, J, rx, a, rfl, ⟨xs, hq⟩, q⟩ := z
  cases rx
  obtain ⟨its, rv, p, _⟩ := J.list hq
  refine wpAny_pyIter_list p.isList ⟨t.heap.objs.size, [t.heap.objs.size], _, _, G, rfl, J.kept (t' := t.toks) fun b o e => Heap.get?_push_of_some _ e, turn_lstX a _, ⟨_, Heap.get?_push_size _ rfl, rfl, rfl⟩, fun b hb => ?_, q⟩
  have e : b = t.heap.objs.size := by simpa using hb
  rw [e]
  exact J.fpOk (Nat.le_refl _) (J.hok.fresh (Nat.le_refl _))
/-- the core, in a hot frame -/
theorem lc_hot {pins : List (Addr × Obj)} {s : Shared} {σ : L2.St} {H : Hp} {Q : VK} {elt iter : Expr} {ifs : List Expr} {scope : Scope} {own : List (Str × Nat)} {pos pos' : Pos} {wi : TI} {g : TG} {tt : TT} {te : TE} {use : Option (Value → Sem Unit)} {Qf : Value → Shared → Prop}
    (hx : HotX X) (hN : X.N.Nodup) (I : Inv X pins σ H s) (hi : PIX X tg iter wi) (ok : BlkOk X.N X.env.scope scope own)
    (hg : ∀ (s : Shared) (H : Hp) (C : Addr) (cl : List (Str × Addr)) (fp : List Addr), HotX (X.blk s H scope (compEnvC scope cl C X.env) fp) → PG (X.blk s H scope (compEnvC scope cl C X.env) fp) tg g)
    (ht : ∀ (s : Shared) (H : Hp) (C : Addr) (cl : List (Str × Addr)) (fp : List Addr), HotX (X.blk s H scope (compEnvC scope cl C X.env) fp) → PTs (X.blk s H scope (compEnvC scope cl C X.env) fp) ifs tt)
    (he : ∀ (s : Shared) (H : Hp) (C : Addr) (cl : List (Str × Addr)) (fp : List Addr), HotX (X.blk s H scope (compEnvC scope cl C X.env) fp) → PE (X.blk s H scope (compEnvC scope cl C X.env) fp) elt te) (hs : ∀ x, foldedSetIterable iter X.env x = pure x)
    (h : tLc wi g tt te (own.map (·.2)) σ H Q)
    (fin : ∀ D C t m G, Inv X pins σ G t → Q (.ref D) G → t.heap.Ns C m → FpOk X pins G C → compPost (model X.prog X.w) X.A X.xe use Qf (.ref D) C (.ok .next) t) :
    wpAny (model X.prog X.w) X.A (comprehension (.ListComp elt [⟨tg, iter, ifs, 0⟩] scope pos) scope X.env pos' (newList []) false (eval iter X.env) use) Qf X.xe s := by
  have fr : ∀ y ∈ scope.names, y.2 = .free → ∃ c, X.env.cells.lookup y.1 = some c := fun y hy e => I.ok.has _ ((ok.free y hy e).imp (fun z => z) fun z => z)
  refine wpAny_comprehension_free (use := use) rfl hs (closure_ok fr) ok.kind (fun y hy e => by rw [ok.uniq y hy, e]) (thn (hi.run pins s σ H _ I h) fun xv t1 z1 => thn z1 fun itv t2 z2 => ?_)
  obtain ⟨it, fp, tn, J, G2, rfl, J2, T, tn2, fp2, q2⟩ := z2
  refine wpAny_newObj_type (newEnv_comp ?_) (by show 0 ≤ sizeLine; decide)
  obtain ⟨D, hD⟩ : ∃ D, D = t2.heap.objs.size := ⟨_, rfl⟩
  rw [← hD]
  have nD : G2 D = none := J2.hok.fresh (Nat.le_of_eq hD.symm)
  obtain ⟨W, ⟨m0, w0⟩, turn⟩ := q2 D nD
  obtain ⟨t3, ht3⟩ : ∃ t3 : Shared, t3 = { t2 with heap := t2.heap.push { cls := .type "list", data := .seq ([] : List Value).toArray } } := ⟨_, rfl⟩
  rw [← ht3]
  have hp3 : t3.heap = t2.heap.push { cls := .type "list", data := .seq ([] : List Value).toArray } := by rw [ht3]
  obtain ⟨G3, hG3⟩ : ∃ G3, G3 = upd G2 D (.lst []) := ⟨_, rfl⟩
  rw [← hG3] at w0
  have J3 : Inv X pins σ G3 t3 := by
    rw [ht3, hG3]
    refine J2.laid (t' := t2.toks) (fun b o e => Heap.get?_push_of_some _ e) (Nat.le_of_eq hD.symm) ⟨Nat.zero_le _, [], 0, .nil, ?_⟩
    rw [hD]
    exact (Heap.get?_push_size _ rfl)
  have small : ∀ b ∈ fp, b < t2.heap.objs.size := fun b hb => by
    obtain ⟨o, e, _⟩ := T.obj _ _ tn2 b hb
    exact (Heap.lt_size e)
  have fp3 : ∀ b ∈ fp, FpOk X pins G3 b ∧ b < t3.heap.objs.size := fun b hb => by
    have lt := small b hb
    refine ⟨⟨?_, (fp2 b hb).2⟩, by rw [hp3, Heap.size_push]; exact Nat.lt_succ_of_lt lt⟩
    rw [hG3, upd_ne (by rw [hD]; exact Nat.ne_of_lt lt)]
    exact (fp2 b hb).1
  have tn3 : tn 0 t3.heap := T.keep _ _ _ tn2 fun b _ o e => by rw [hp3]; exact (Heap.get?_push_of_some _ e)
  have J4 := block_start J3 ok hN fp3
  obtain ⟨ce, hce⟩ : ∃ ce, ce = compEnvC scope (cellsFrom (t3.heap.objs.size + 1) scope.names (cloFrom X.env.cells scope.names [])) t3.heap.objs.size X.env := ⟨_, rfl⟩
  have hot : HotX (X.blk t3 G3 scope ce fp) := by
    obtain ⟨a, oe, k1, k2, k3⟩ := hx
    exact ⟨a, oe, k1, J3.base.frzs a oe _ k2, k3⟩
  have pg := hg t3 G3 t3.heap.objs.size (cellsFrom (t3.heap.objs.size + 1) scope.names (cloFrom X.env.cells scope.names [])) fp (hce ▸ hot)
  have pt := ht t3 G3 t3.heap.objs.size (cellsFrom (t3.heap.objs.size + 1) scope.names (cloFrom X.env.cells scope.names [])) fp (hce ▸ hot)
  have pe := he t3 G3 t3.heap.objs.size (cellsFrom (t3.heap.objs.size + 1) scope.names (cloFrom X.env.cells scope.names [])) fp (hce ▸ hot)
  rw [← hce] at J4 pg pt pe
  have cL : ce.locals = t3.heap.objs.size := by rw [hce]; rfl
  obtain ⟨t4, ht4⟩ : ∃ t4 : Shared, t4 = { t3 with heap := pushCells (t3.heap.push { cls := .type "dict", data := .dict #[] }) scope.names } := ⟨_, rfl⟩
  rw [← ht4] at J4
  have goal : codeAny (model X.prog X.w) X.A (.compStart (.ListComp elt [⟨tg, iter, ifs, 0⟩] scope pos) 0 (.ref it) (.ref D) ce) (compPost (model X.prog X.w) X.A X.xe use Qf (.ref D) t3.heap.objs.size) t4 := by
    have nfp : ∀ b ∈ fp, G3 b = none := fun b hb => (fp3 b hb).1.1
    have tn4 : tn 0 t4.heap := T.keep _ _ _ tn3 fun b _ o e => by rw [ht4]; exact pushCells_keeps _ _ _ _ (Heap.get?_push_of_some _ e)
    have stat : ∀ {τ : L2.St} {G : Hp} {t : Shared}, Inv (X.blk t3 G3 scope ce fp) [] τ G t → (∀ b ∈ fp, G b = none) → ∀ b ∈ fp, FpOk (X.blk t3 G3 scope ce fp) [] G b := fun {τ G t} K hn b hb =>
      ⟨hn b hb, (K.ok.exf b hb).1, K.ok.exfs b hb, .inl hb, fun x c e => (K.ok.exf b hb).2 x c e, fun p hp => absurd (show p ∈ ([] : List (Addr × Obj)) ++ [] from hp) (by simp)⟩
    suffices lp : codeAny (model X.prog X.w) X.A (.compLoop (.ListComp elt [⟨tg, iter, ifs, 0⟩] scope pos) 0 (.ref it) (.ref D) ce) (compPost (model X.prog X.w) X.A X.xe use Qf (.ref D) t3.heap.objs.size) t4 from codeAny_compStart_list lp (T.self X.A 0 _ _ _ tn4 lp)
    refine compLoop_any (fun n t => ∃ i G, Inv (X.blk t3 G3 scope ce fp) [] (L2.wipe σ (own.map (·.2))) G t ∧ tn i t.heap ∧ (∀ b ∈ fp, G b = none) ∧ W i n G) ?_ m0 ⟨0, G3, J4, tn4, nfp, w0⟩
    rintro n t5 ⟨i, G5, J5, tn5, n5, w5⟩
    rcases turn i n G5 w5 with ⟨stop, qq⟩ | ⟨go, Nx, hNx, step⟩
    · refine thnF (T.done (X.blk t3 G3 scope ce fp) rfl rfl rfl hot i [] t5 _ G5 (fun _ _ => False) J5 (stat J5 n5) tn5 stop) fun r t6 z6 => ?_
      obtain ⟨rfl, J6⟩ := z6
      have J7 : Inv X pins σ G5 t6 := J3.call' (ch := fp) J6.os J6.base J6.hok J6.bare fun b hb => ⟨(fp3 b hb).1.2.2.2.1, (fp3 b hb).1.2.1, (fp3 b hb).1.2.2.2.2.1, (fp3 b hb).1.2.2.2.2.2⟩
      have nC : G5 t3.heap.objs.size = none := by
        have z : G5 ce.locals = none := J6.free
        rwa [cL] at z
      obtain ⟨m, hn, _⟩ := J6.loc
      have hn : t6.heap.Ns ce.locals m := hn
      rw [cL] at hn
      exact fin D t3.heap.objs.size t6 m G5 J7 qq hn (J3.fpOk (Nat.le_refl _) nC)
    · refine thnF (T.item (X.blk t3 G3 scope ce fp) rfl rfl rfl hot i [] t5 _ G5 (fun _ _ => False) J5 (stat J5 n5) tn5 go) fun r t6 z6 => ?_
      obtain ⟨u, rfl, z6⟩ := z6
      refine thnF z6 fun _ t7 z7 => ?_
      obtain ⟨x, G7, J7, r7, y7, tn7, n7⟩ := z7
      have J7' := J7.pinned (stat J7 n7) (T.obj _ _ tn7)
      refine thnF (pg.run _ t7 _ G7 x u _ J7' r7 (step x G7 y7)) fun _ t8 z8 => ?_
      obtain ⟨τ8, G8, J8, w8, q8⟩ := z8
      refine thnF (pt.run _ t8 τ8 G8 _ J8 q8) fun b t9 z9 => ?_
      obtain ⟨G9, J9, q9⟩ := z9
      have again : ∀ {t : Shared} {G : Hp}, Inv (X.blk t3 G3 scope ce fp) ([] ++ pinsAt fp t7.heap) τ8 G t → Nx G → ∃ m, m < n ∧ ∃ i G, Inv (X.blk t3 G3 scope ce fp) [] (L2.wipe σ (own.map (·.2))) G t ∧ tn i t.heap ∧ (∀ b ∈ fp, G b = none) ∧ W i m G := fun {t G} K nx => by
        obtain ⟨m', hm, w'⟩ := hNx G nx
        have pin : ∀ b ∈ fp, ∀ o, t7.heap.get? b = some o → t.heap.get? b = some o ∧ G b = none := fun b hb o e =>
          have z := K.pin (b, o) (List.mem_append_right _ (List.mem_append_right _ (mem_pinsAt hb e)))
          ⟨z.1, z.2.1⟩
        have ln : (L2.wipe σ (own.map (·.2))).length = τ8.length := by rw [← w8, wipe_length]
        refine ⟨m', hm, i + 1, G, (K.unpinned (pins := [])).weak ln (fun j v e => ?_), T.keep _ _ _ tn7 fun b hb o e => (pin b hb o e).1, fun b hb => ?_, w'⟩
        · rw [← w8] at e
          exact (wipe_some e).1
        · obtain ⟨o, e, _⟩ := T.obj _ _ tn7 b hb
          exact (pin b hb o e).2
      cases b with
      | false =>
        simp only [Bool.false_eq_true, if_false] at q9 ⊢
        exact again J9 q9
      | true =>
        simp only [if_true] at q9 ⊢
        refine thnF (pe.run _ t9 τ8 G9 _ J9 q9) fun z t10 z10 => ?_
        obtain ⟨yv, G10, J10, r10, acc, a1, a2, nx⟩ := z10
        exact app_ok (X := X.blk t3 G3 scope ce fp) J10 a1 a2 r10 fun t11 J11 => again J11 nx
  rw [hce, ht4] at goal
  exact goal
theorem pe_lcH {elt iter : Expr} {ifs : List Expr} {scope : Scope} {own : List (Str × Nat)} {pos : Pos} {wi : TI} {g : TG} {tt : TT} {te : TE} (hx : HotX X) (hN : X.N.Nodup) (hi : PIX X tg iter wi) (ok : BlkOk X.N X.env.scope scope own)
    (hg : ∀ (s : Shared) (H : Hp) (C : Addr) (cl : List (Str × Addr)) (fp : List Addr), HotX (X.blk s H scope (compEnvC scope cl C X.env) fp) → PG (X.blk s H scope (compEnvC scope cl C X.env) fp) tg g)
    (ht : ∀ (s : Shared) (H : Hp) (C : Addr) (cl : List (Str × Addr)) (fp : List Addr), HotX (X.blk s H scope (compEnvC scope cl C X.env) fp) → PTs (X.blk s H scope (compEnvC scope cl C X.env) fp) ifs tt)
    (he : ∀ (s : Shared) (H : Hp) (C : Addr) (cl : List (Str × Addr)) (fp : List Addr), HotX (X.blk s H scope (compEnvC scope cl C X.env) fp) → PE (X.blk s H scope (compEnvC scope cl C X.env) fp) elt te) (hs : ∀ x, foldedSetIterable iter X.env x = pure x) :
    PE X (.ListComp elt [⟨tg, iter, ifs, 0⟩] scope pos) (tLc wi g tt te (own.map (·.2))) := by
  refine ⟨fun pins s σ H Q I h => ?_⟩
  rw [eval_ListComp]
  refine lc_hot hx hN I hi ok hg ht he hs h fun D C t m G J q hn f => ⟨m, hn, fun h'' sb => ?_⟩
  obtain ⟨f0, f1, f2, f3, f4, f5⟩ := f
  exact ⟨.ref D, G, J.turned (t' := t.toks) (fun b o hb e => (sb.2 b hb).trans e) f0 f1 f3 f4 f5, rfl, q⟩
end
end Mi
end
section
set_option Elab.async false
set_option linter.all false
set_option maxRecDepth 100000
set_option maxHeartbeats 2000000
/-! the mini layer's words in frames in which an exception is handled -/
namespace Mi
open PySem PySem.Spec PyProof.Rows L2 HotX
section
variable (X : Cx)
def uIX (tg it : Expr) : TI := fun σ H R => ∀ pins s, Inv X pins σ H s → wpAny (model X.prog X.w) X.A (eval it X.env) (fun v t => wpAny (model X.prog X.w) X.A (pyIter v) (PIEX X pins σ tg R) X.xe t) X.xe s
def uGbx (scope : Scope) (t : Expr) : TG := fun v σ H Q => ∀ s0 H0 C cl fp, HotX (blkX X s0 H0 scope C cl fp) → uG (blkX X s0 H0 scope C cl fp) t v σ H Q
def uTbx (scope : Scope) (ifs : List Expr) : TT := fun σ H Q => ∀ s0 H0 C cl fp, HotX (blkX X s0 H0 scope C cl fp) → uTs (blkX X s0 H0 scope C cl fp) ifs σ H Q
def uEbx (scope : Scope) (e : Expr) : TE := fun σ H Q => ∀ s0 H0 C cl fp, HotX (blkX X s0 H0 scope C cl fp) → uE (blkX X s0 H0 scope C cl fp) e σ H Q
end
theorem pix_u {X : Cx} {tg it : Expr} : PIX X tg it (uIX X tg it) := ⟨fun pins s σ H R I h => h pins s I⟩
theorem uIX_of {X : Cx} {tg it : Expr} {t : TI} (h : PIX X tg it t) {σ : L2.St} {H : Hp} {R : It → Hp → Prop} (q : t σ H R) : uIX X tg it σ H R := fun pins s I => h.run pins s σ H R I q
def SIX (F : Fr) (tg it : Expr) (m : MI) : Prop := ∀ X W, Good F X → HotX X → Takes X W → ∀ Hk gk σ env h g H (R : It → Hp → Prop), At X.K X.w X.mg Hk gk σ env h g H →
  post X.K X.w X.mg W Hk gk σ g H (m env h) (fun ds _ _ g' H' => ∀ J, ItOk X.K X.w g' H' J ds → R J H') → uIX X tg it σ H R
/-- a list, walked -/
def iOfL (m : MV) : MI := fun env h => (m env h).bind fun d env h => match d with
  | .lst ds => .ok ds env h
  | _ => .no
section
variable {F : Fr} {e a b c : Expr} {es : List Expr} {pos : Pos} {X : Cx} {W : WX} {Hk : Hp} {gk g : Gh} {σ : L2.St} {env : Ev} {h : MH} {H : Hp}
theorem six_val {tg : Expr} {m : MV} (he : SV F e m) : SIX F tg e (iOfL m) := fun X W gd hx tk Hk gk σ env h g H R at_ p => by
  refine uIX_of (pix_list pe_u) ?_
  refine he.go gd tk at_ p fun d env1 h1 g1 H1 x s1 a1 rx p1 => ?_
  split at p1
  · simp only [Rep] at rx
    obtain ⟨a, vs, rfl, l, rs⟩ := rx
    exact ⟨a, rfl, ⟨vs, l.sq⟩, p1 g1 H1 (Step.refl _ _) a1 _ (itl_ok l rs)⟩
  · exact p1.elim
theorem sg_tupH {vs : List Nat} {n : List D → Ev → Option Ev} {j k : Nat} (h1 : SGs F es vs n) (hcm : F.cm = false := by rfl) (hn : ∀ env, (assignEach es env).length = k := by intros; rfl) (hst : ∀ env, (assignEach es env).findIdx? (·.1) = none := by intros; rfl) : SG F (.Tuple es j pos) vs (tT n k) := fun X gd Hk gk σ env h g H x d env' at_ rx em Q kk => by
  refine uG_of (pg_tupH (n := k) (gd.hot hcm) pgs_u (hn _) (hst _)) ?_
  cases d with
  | tup ds =>
    simp only [Rep] at rx
    obtain ⟨a, us, rfl, t, rs⟩ := rx
    simp only [tT] at em
    split at em
    · rename_i hl
      exact ⟨a, us, rfl, t.sq, by rw [rs.length]; exact hl, h1 X gd Hk gk σ env h g H us ds env' at_ rs em _ kk⟩
    · cases em
  | _ => cases em
/-- the loop of a comprehension's clause: σb, menv are the block's slots at each turn's beginning -/
theorem compL_Wx {scope : Scope} {elt tg : Expr} {ifs : List Expr} {tvs vs : List Nat} {t : Tg} {mc : MB} {me : MV} {Fb : Fr} (hg : SG Fb tg tvs t) (htv : ∀ i ∈ tvs, i ∈ vs) (hc : SBs Fb ifs mc) (he : SV Fb elt me)
    (gdb : ∀ s0 H0 C cl fp, HotX (blkX X s0 H0 scope C cl fp) → Good Fb (blkX X s0 H0 scope C cl fp)) {σb : L2.St} {menv : Ev} {g1 : Gh} {H1 : Hp} (hno : ∀ (i : Nat) (ds : List D), menv[i]? ≠ some (.own ds)) (hnx : ∀ (i : Nat) (x : Xc), menv[i]? ≠ some (.exc x)) (hlen : menv.length = σb.length)
    (hval : ∀ (i : Nat) (d : D), menv[i]? = some (.v d) → ∃ x, σb[i]? = some (some x) ∧ Rep X.K X.w g1 H1 x d) {J : It} {ds : List D} (hJ : ItOk X.K X.w g1 H1 J ds)
    {Dl : Addr} (f4 : ∀ (i : Nat) (es : List D), env[i]? = some (.own es) → σ[i]? ≠ some (some (.ref Dl))) {res : List D × MH} {Fin : Hp → Prop}
    (hfin : ∀ h g H acc, Step g1 H1 g H → At X.K X.w X.mg Hk gk σ env h g H → OwnAt X.K X.w Hk g H Dl acc → res = (acc, h) → Fin H)
    {h2 : MH} {g2 : Gh} {H2 : Hp} {acc2 : List D} (s2 : Step g1 H1 g2 H2) (a2 : At X.K X.w X.mg Hk gk σ env h2 g2 H2) (o2 : OwnAt X.K X.w Hk g2 H2 Dl acc2) (e2 : compL t mc me menv ds h2 acc2 = some res) :
    ∃ W : Nat → Nat → Hp → Prop, (∃ m, W 0 m H2) ∧ ∀ i m H, W i m H →
      (J.stop i H ∧ Fin H) ∨ (J.go i H ∧ ∃ Nx : Hp → Prop, (∀ H', Nx H' → ∃ m', m' < m ∧ W (i + 1) m' H') ∧ ∀ x H', J.yld i H x H' → uGbx X scope tg x σb H' fun σ2 H2 => L2.wipe σ2 vs = L2.wipe σb vs ∧ uTbx X scope ifs σ2 H2 fun b H3 =>
        if b = true then uEbx X scope elt σ2 H3 fun y H4 => ∃ acc, H4 Dl = some (.lst acc) ∧ acc.length < sizeLine ∧ Nx (upd H4 Dl (.lst (acc ++ [y]))) else Nx H3) := by
  refine ⟨fun i m H => m = ds.length - i ∧ ∃ h g acc, Step g1 H1 g H ∧ At X.K X.w X.mg Hk gk σ env h g H ∧ OwnAt X.K X.w Hk g H Dl acc ∧ compL t mc me menv (ds.drop i) h acc = some res,
    ⟨ds.length, by omega, h2, g2, acc2, s2, a2, o2, e2⟩, fun i m H2 hW => ?_⟩
  obtain ⟨rfl, h2, g2, acc, s2, a2, o2, e2⟩ := hW
  have hj := hJ g2 H2 h2 s2 a2.hat i
  by_cases hlen2 : i < ds.length
  · obtain ⟨hgo, hy⟩ := hj.2 _ (List.getElem?_eq_getElem hlen2)
    rw [List.drop_eq_getElem_cons hlen2] at e2
    refine .inr ⟨hgo, fun H' => ∃ h g acc, Step g1 H1 g H' ∧ At X.K X.w X.mg Hk gk σ env h g H' ∧ OwnAt X.K X.w Hk g H' Dl acc ∧ compL t mc me menv (ds.drop (i + 1)) h acc = some res,
      fun H' hN => ⟨ds.length - (i + 1), by omega, rfl, hN⟩, fun x H3 hx => ?_⟩
    obtain ⟨g3, gr, r3⟩ := hy x H3 hx
    have fs3 := gr.fstep a2.hat
    have a3 := gr.at a2
    have o3 := o2.fstep fs3
    have st3 := s2.trans fs3.toStep
    have b3 : At X.K X.w X.mg H3 g3 σb menv h2 g3 H3 := ⟨a3.hat, FStep.refl a3.hat, hlen, fun i d e => (hval i d e).imp fun x hx => ⟨hx.1, hx.2.step st3⟩, fun i d e => absurd e (hno i d), fun i j d1 d2 x e => absurd e (hno i d1), fun i x e => absurd e (hnx i x)⟩
    unfold compL at e2
    split at e2
    · cases e2
    · rename_i e1 et
      intro s0 H0 C cl fp hk
      refine hg (blkX X s0 H0 scope C cl fp) (gdb s0 H0 C cl fp hk) H3 g3 _ _ h2 g3 H3 x _ e1 b3 r3 et _ fun σ2 ag a4 => ?_
      have ag' : Agree vs σb σ2 := ⟨ag.1, fun i hi => ag.2 i fun z => hi (htv i z)⟩
      refine ⟨ag'.wipe, ?_⟩
      intro s0 H0 C cl fp hk
      refine hc (blkX X s0 H0 scope C cl fp) _ (gdb s0 H0 C cl fp hk) takes0 H3 g3 σ2 e1 h2 g3 H3 _ a4 ?_
      cases ec : mc e1 h2 with
      | no => rw [ec] at e2; cases e2
      | err x3 e3 h3 => rw [ec] at e2; cases e2
      | ok b env3 h3 =>
        rw [ec] at e2
        refine fun g5 H5 s5 a5 => ?_
        cases b with
        | false =>
          rw [if_neg (by decide)]
          dsimp only at e2
          rw [if_neg (by decide)] at e2
          exact ⟨h3, g5, acc, st3.trans s5, a3.fstep a5.fs a5.hat, o3.fstep a5.fs, e2⟩
        | true =>
          rw [if_pos rfl]
          dsimp only at e2
          rw [if_pos rfl] at e2
          intro s0 H0 C cl fp hk
          refine he (blkX X s0 H0 scope C cl fp) _ (gdb s0 H0 C cl fp hk) takes0 H3 g3 σ2 env3 h3 g5 H5 _ a5 ?_
          cases ee : me env3 h3 with
          | no => rw [ee] at e2; cases e2
          | err x3 e3 h3 => rw [ee] at e2; cases e2
          | ok y env4 h4 =>
            rw [ee] at e2
            dsimp only at e2
            split at e2
            · rename_i hz
              refine fun g6 H6 s6 a6 z rz => ?_
              have o6 := o3.fstep a6.fs
              have a7 := a3.fstep a6.fs a6.hat
              obtain ⟨vs, hD6, rs6⟩ := o6.at_
              refine ⟨vs, hD6, by rw [rs6.length]; exact hz, ?_⟩
              obtain ⟨a8, s8, o8⟩ := a7.mutFree (us := vs ++ [z]) (es := acc ++ [y]) o6 f4 (rs6.append (Reps.cons rz Reps.nil))
              exact ⟨h4, g6, acc ++ [y], ((st3.trans s5).trans s6).trans s8, a8, o8, e2⟩
            · cases e2
  · rw [List.drop_eq_nil_of_le (by omega)] at e2
    cases e2
    exact .inl ⟨hj.1 (by omega), hfin h2 g2 H2 acc s2 a2 o2 rfl⟩
theorem comp_gox {elt tg iter : Expr} {ifs : List Expr} {scope : Scope} {own : List (Str × Nat)} {cap tvs : List Nat} {t : Tg} {mi : MI} {mc : MB} {me : MV} (hi : SIX F tg iter mi) (ok : BlkOk F.N F.sc scope own) (hd : ∀ i ∈ cap, i ∉ own.map (·.2))
    (hg : SG (F.blk scope) tg tvs t) (htv : ∀ i ∈ tvs, i ∈ own.map (·.2)) (hc : SBs (F.blk scope) ifs mc) (he : SV (F.blk scope) elt me) (hcm : F.cm = false) (gd : Good F X) (tk : Takes X W) (at_ : At X.K X.w X.mg Hk gk σ env h g H) {Q : VK}
    (p : post X.K X.w X.mg W Hk gk σ g H (eComp cap t mi mc me env h) (fun r env' _ g' H' => ∀ x, RR X.K X.w Hk σ env' g' H' x r → Q x H')) :
    tLc (uIX X tg iter) (uGbx X scope tg) (uTbx X scope ifs) (uEbx X scope elt) (own.map (·.2)) σ H Q := by
  refine hi X W gd (gd.hot hcm) tk Hk gk σ env h g H _ at_ ((post.bind p).imp fun ds env1 h1 g1 H1 s1 a1 q J hJ => ?_)
  intro Dl hD
  split at q
  · rename_i res hf eres
    obtain ⟨g1f, a1f, sf⟩ := a1.frzE cap
    have grD : Grow g1f H1 g1f (upd H1 Dl (.lst [])) := grow_new a1f.hat hD
    have aD := grD.at a1f
    have sD := (grD.fstep a1f.hat).toStep
    obtain ⟨f1, f2, f3, f4⟩ := a1f.fresh hD
    have oD : OwnAt X.K X.w Hk g1f (upd H1 Dl (.lst [])) Dl [] := ⟨⟨[], upd_same, Reps.nil⟩, f2, f3, f1⟩
    have bD := aD.blk hd
    have := compL_Wx (vs := own.map (·.2)) (scope := scope) hg htv hc he (fun s0 H0 C cl fp hk => good_blk gd ok s0 H0 C cl fp (.inr hk)) (σb := L2.wipe σ (own.map (·.2))) (menv := mask cap 0 (frzE cap env1)) (g1 := g1f) (H1 := upd H1 Dl (.lst []))
      (fun i d e => by obtain ⟨x, _, o⟩ := bD.own i d e; have := o.nk; obtain ⟨vs, e3, _⟩ := o.at_; rw [e3] at this; cases this) mask_exc bD.len bD.val
      (J := J) (ds := ds) (fun g H h s hat i => hJ g H h ((sf.trans sD).trans s) hat i) f4 (res := (res, hf)) (Fin := fun H => Q (.ref Dl) H)
      (fun h g H acc s a o e => by cases e; exact q g H ((sf.trans sD).trans s) a _ ⟨Dl, rfl, o, f4⟩) (Step.refl _ _) aD oD eres
    rw [wipe_wipe] at this
    exact this
  · exact q.elim
theorem se_compH {elt tg iter : Expr} {ifs : List Expr} {scope : Scope} {own : List (Str × Nat)} {cap tvs : List Nat} {t : Tg} {mi : MI} {mc : MB} {me : MV} (hi : SIX F tg iter mi) (ok : BlkOk F.N F.sc scope own := by exact blkOk_by (by (try dsimp only [Fr.blk]); decide +kernel)) (hd : ∀ i ∈ cap, i ∉ own.map (·.2) := by decide)
    (hg : SG (F.blk scope) tg tvs t) (htv : ∀ i ∈ tvs, i ∈ own.map (·.2) := by decide) (hc : SBs (F.blk scope) ifs mc) (he : SV (F.blk scope) elt me) (hcm : F.cm = false := by rfl) (hs : ∀ env x, foldedSetIterable iter env x = pure x := by intros; rfl) :
    SE F (.ListComp elt [⟨tg, iter, ifs, 0⟩] scope pos) (eComp cap t mi mc me) := fun X W gd tk Hk gk σ env h g H Q at_ p => by
  refine uE_of (pe_lcH (own := own) (gd.hot hcm) gd.nd pix_u (by rw [gd.N, gd.sc]; exact ok) (g := uGbx X scope tg) (tt := uTbx X scope ifs) (te := uEbx X scope elt) (fun s H C cl fp hk => ⟨fun pins s σ H v u Q I r h => h _ _ _ _ _ hk pins s u I r⟩)
    (fun s H C cl fp hk => ⟨fun pins s σ H Q I h => h _ _ _ _ _ hk pins s I⟩) (fun s H C cl fp hk => ⟨fun pins s σ H Q I h => h _ _ _ _ _ hk pins s I⟩) (hs _)) ?_
  exact comp_gox hi ok hd hg htv hc he hcm gd tk at_ p
end
/-! ## defs called while an exception is handled -/
def HotA (A : Around) (H : Hp) : Prop := ∃ (a : Addr) (oe : Obj), A.handled = some (.ref a) ∧ H a = some (.frz oe (.own a)) ∧ HotO oe
theorem HotX.a {X : Cx} {pins : List (Addr × Obj)} {σ : L2.St} {H : Hp} {s : Shared} (hx : HotX X) (I : Inv X pins σ H s) : HotA X.A H := by
  obtain ⟨a, oe, h1, h2, h3⟩ := hx
  exact ⟨a, oe, h1, I.base.frzs a oe _ h2, h3⟩
structure FnGH (P : Program) (w : World) (K : PySem.W.Frag) (mg : Str → Option Value) (base : Heap) (CX : CXT) (k : Nat) (f : Addr) (fd : FuncData) (ps : List Str) (sp : Sp) : Prop where
  len : ∀ vs H Q E, sp vs H Q E → vs.length = ps.length
  run : ∀ (A : Around) (outer : List Env) (s : Shared) (H : Hp) (args : Args) (us : List Value) (vs : List V) (Q : VK) (E : XK), L2H.RoomH k A → A.guards = some [] → HotA A H → Env0 P w K mg base A outer s H → BindsTo s fd args (ps.zip us) → Vals vs us → sp vs H Q E →
    codeAny (model P w) A (.call (.ref f) args) (CR CX outer P w H s Q E) s
theorem FnGH.mono {P : Program} {w : World} {K : PySem.W.Frag} {mg : Str → Option Value} {base : Heap} {CX : CXT} {j k : Nat} {f : Addr} {fd : FuncData} {ps : List Str} {sp : Sp} (G : FnGH P w K mg base CX j f fd ps sp) (le : j ≤ k) :
    FnGH P w K mg base CX k f fd ps sp := ⟨G.len, fun A l s H args us vs Q E rm => G.run A l s H args us vs Q E (rm.mono le)⟩
abbrev cxC (CX : CXT) (P : Program) (w : World) (K : PySem.W.Frag) (mg : Str → Option Value) (base : Heap) (N : List Str) (qual : Str) (scope : Scope) (f : Addr) (cd : Value) (A : Around) (outer : List Env) (s : Shared) (H : Hp) (E : XK) : Cx :=
  { cxOf CX P w K mg base N qual scope f cd A outer s H E with calm := false }
theorem unpin {X : Cx} {pn : List (Addr × Obj)} {σ : L2.St} {H : Hp} {s : Shared} (I : Inv { X with pn := pn } [] σ H s) (h0 : X.pn = []) : Inv X [] σ H s :=
  ⟨⟨I.ok.mod, I.ok.kind, I.ok.glob, I.ok.blt, I.ok.above, I.ok.inj, I.ok.has, I.ok.cab, I.ok.hd, I.ok.frames, I.ok.stk, I.ok.exf, I.ok.bs, I.ok.bsz, I.ok.noex, I.ok.exfs, I.ok.funs, I.ok.frf⟩,
    I.os, I.bare, I.base, I.loc, I.cell, I.free, I.freeC, fun p hp => by rw [h0] at hp; simp at hp, I.hok, I.len⟩
theorem fnGH_of {CX : CXT} {P : Program} {w : World} {K : PySem.W.Frag} {mg : Str → Option Value} {base : Heap} {k : Nat} {x qual : Str} {st : Stmt} {f : Addr} {fd : FuncData} {N ps : List Str} {sp : Sp} (F0 : Fun K x qual st f fd) (Sc : FnScope N ps (defScope st))
    (ln : ∀ vs H Q E, sp vs H Q E → vs.length = ps.length)
    (bodyOk : ∀ (cdv : Value) (A : Around) (l : List Env) (s : Shared) (H : Hp) (vs : List V) (Q : VK) (E : XK), L2H.RoomH k (A.deeper (envOfC qual (defScope st) s.heap.objs.size f cdv)) → A.guards = some [] → HotA A H → sp vs H Q E →
      ∃ t, PSs (cxC CX P w K mg base N qual (defScope st) f cdv A l s H E) (defBody st) t ∧ t { nx := fun _ H' => Q .non H', rt := Q } (L2.start N vs) H) :
    FnGH P w K mg base CX (k + 1) f fd ps sp := by
  obtain ⟨oc, od, kV, doc, pm, an, cdv, ct, osl, rfl, look, isCode⟩ := F0.ex
  refine ⟨ln, fun A l s H args us vs Q E rm gds hot en bnd rv hsp => ?_⟩
  have hlen := ln _ _ _ _ hsp
  have inK : K.In s.heap := en.mod.kin.keeps fun b o z => (en.bs b o z).1
  have noLim : s.heap.NoLimit := en.mod.nolimit.keeps fun b o z => (en.bs b o z).1
  have kinds : ∀ y ∈ ps.zip us, (defScope st).names.lookup y.1 = some .local ∨ ((defScope st).names.lookup y.1 = some .cell ∧ ((cellsFrom (s.heap.objs.size + 1) (defScope st).names []).lookup y.1).isSome = true) := fun ⟨n, v⟩ hy =>
    (Sc.par n (List.of_mem_zip hy).1).imp id fun q => ⟨q, PySem.W.cellsFrom_some _ _ _ (.inl q)⟩
  refine codeAny_call_function rm.depth (inK _ _ look) rfl Sc.co Sc.gen rfl (PySem.W.codeRec_of inK isCode) (bnd _ _ _ _ ?_)
  refine wpAny_newFunctionEnv_cells Sc.kind kinds fun env heq t₁ inC => ?_
  subst heq
  refine ⟨noLim.keeps inC.toInCall.keep, codeAny_func ?_⟩
  obtain ⟨t, pt, hq⟩ := bodyOk cdv A l s H vs Q E (rm.deeper _) gds hot hsp
  have bf := en.mod.kin _ _ look
  have pin : L2H.PinOk l H s (f, _) := ⟨(en.bs _ _ bf).1, (en.bs _ _ bf).2, (fun hm => by have := (en.funs.mem hm).1; rw [bf] at this; cases this), (fun v z => nomatch z)⟩
  have inv : Inv (cxC CX P w K mg base N qual (defScope st) f cdv A l s H E) [] (L2.start N vs) H t₁ := unpin (L2H.inv_startH Sc pin en hlen rv inC) rfl
  refine wpAny_mono (pt.run [] t₁ (L2.start N vs) H _ inv hq) (fun fl s' hs => ?_) fun e s' hs => hs
  have out : ∀ {τ : L2.St} {G : Hp} {v : V} {u : Value}, Inv (cxC CX P w K mg base N qual (defScope st) f cdv A l s H E) [] τ G s' → RelV v u → Q v G → CE l P w H s Q u s' :=
    fun {τ G v u} J r z => ⟨v, G, J.os, J.bare, J.base, J.hok, r, z⟩
  cases fl with
  | ret u =>
    obtain ⟨v, τ, G, J, r, z⟩ := hs
    exact out J r z
  | next =>
    obtain ⟨τ, G, J, z⟩ := hs
    exact out (v := V.non) (u := Value.none) J rfl z
  | brk =>
    obtain ⟨_, _, _, z⟩ := hs
    exact z.elim
  | cont =>
    obtain ⟨_, _, _, z⟩ := hs
    exact z.elim
section
variable {X : Cx} {CX : CXT} {k : Nat} {f : Addr} {fd : FuncData} {ps : List Str} {sp : Sp} {E : L2.St → XK} {x : Str} {p pos : Pos} {e : Expr} {es : List Expr} {t : TA}
theorem pe_callGH (hx : HotX X) (G : FnGH X.prog X.w X.K X.mg X.base CX k f fd ps sp) (rm : L2H.RoomH k X.A) (gds : X.A.guards = some []) (gl : Gl X x) (hm : X.mg x = some (.ref f)) (kp : PySem.W.keepIn X.K (.ref f) = true) (bd : Binds X.K fd ps []) (px : ∀ σ, PassesAt CX X σ (E σ))
    (pa : PA X (e :: es) t) (hdb : (x == ("__debug__" : Str)) = false := by decide) (he : starEach (e :: es) X.env = (false, eval e X.env) :: starEach es X.env := by rfl) (hpl : (backTo pos (starEach es X.env)).any (·.1) = false := by rfl) :
    PE X (.Call (.Name x p) (e :: es) [] pos) (tCallS sp E t) := by
  refine ⟨fun pins s σ H Q I z => ?_⟩
  refine wpAny_Call_Name_kw (ld_glob I gl hm ?_ hdb)
  refine PySem.W.callWith_K (h₀ := X.base) I.ok.mod.kin kp (thn (pa.run pos pins s σ H _ I z) fun us t₁ ⟨vs, G1, I1, r, q⟩ => ⟨I1.kIn, ?_⟩) he hpl
  have ln : us.length = ps.length := by rw [← r.length]; exact G.len _ _ _ _ q
  have bnd := bd t₁ us I1.kIn (by rw [List.append_nil]; exact ln)
  rw [List.append_nil] at bnd
  refine wpAny_call (codeAny_mono (G.run X.A X.stack t₁ G1 ⟨us, []⟩ us vs Q (E σ) rm gds (hx.a I1) I1.env0 bnd r q) fun res s' hr => ?_)
  cases res with
  | error er => exact px σ pins G1 t₁ er s' I1 hr
  | ok fl =>
    cases fl with
    | ret u => exact I1.after hr
    | next => exact hr.elim
    | brk => exact hr.elim
    | cont => exact hr.elim
end
/-- the def's answer by the exception -/
abbrev MFX := Xc → MH → FR
def spX (K : PySem.W.Frag) (w : World) (mg : Str → Option Value) (m : MFX) : Sp := fun vs H Q E => ∃ a, vs = [.ref a] ∧ ∃ g h x, HAt K w h g H ∧ ExAt K w mg g H a x ∧ match m x h with
  | .ok r h' => ∀ v g' H', FStep g H g' H' → HAt K w h' g' H' → RF K w H g' H' v r → Q v H'
  | .err x h' => ∀ cls d g' H', FStep g H g' H' → HAt K w h' g' H' → XR K w mg g' H' x cls d → E cls d H'
  | .no => False
def runX (n : Nat) (mb : MS) : MFX := fun x h => match mb (.exc x :: List.replicate (n - 1) .un) h with
  | .nx _ h' => .ok (.v .non) h'
  | .rt r _ h' => .ok r h'
  | .err x _ h' => .err x h'
  | _ => .no
theorem at_startX {K : PySem.W.Frag} {w : World} {mg : Str → Option Value} {N : List Str} {a : Addr} {x : Xc} {g : Gh} {h : MH} {H : Hp} (hat : HAt K w h g H) (ex : ExAt K w mg g H a x) : At K w mg H g (L2.start N [.ref a]) (.exc x :: List.replicate (N.length - 1) .un) h g H where
  hat := hat
  fs := FStep.refl hat
  len := by unfold L2.start; simp [Nat.add_comm]
  val := fun i d e => by
    cases i with
    | zero => simp at e
    | succ i => rw [List.getElem?_cons_succ, List.getElem?_replicate] at e; split at e <;> cases e
  own := fun i d e => by
    cases i with
    | zero => simp at e
    | succ i => rw [List.getElem?_cons_succ, List.getElem?_replicate] at e; split at e <;> cases e
  dist := fun i j d1 d2 a e => by
    cases i with
    | zero => simp at e
    | succ i => rw [List.getElem?_cons_succ, List.getElem?_replicate] at e; split at e <;> cases e
  exc := fun i y e => by
    cases i with
    | zero => simp at e; subst e; exact ⟨a, by simp [L2.start], ex⟩
    | succ i => rw [List.getElem?_cons_succ, List.getElem?_replicate] at e; split at e <;> cases e
theorem fn_okX {P : Program} {w : World} {K : PySem.W.Frag} {mg : Str → Option Value} {base : Heap} {x qual q : Str} {st : Stmt} {f : Addr} {fd : FuncData} {N : List Str} {k : Nat} {mb : MS} (F0 : Fun K x qual st f fd) (Sc : FnScope N [q] (defScope st))
    (body : SSs ⟨P, w, K, mg, base, N, defScope st, k, fun _ => true, false⟩ (defBody st) mb) : FnGH P w K mg base (L2N.CX P w) (k + 1) f fd [q] (spX K w mg (runX N.length mb)) := by
  refine fnGH_of F0 Sc (fun vs H Q E hsp => by obtain ⟨a, rfl, _⟩ := hsp; rfl) (fun cdv A outer s H vs Q E hr hgd hot hsp => ⟨uSs _ _, pss_u, ?_⟩)
  obtain ⟨a, rfl, g, h, x, hat, ex, hm⟩ := hsp
  have hot' : HotX (cxC (L2N.CX P w) P w K mg base N qual (defScope st) f cdv A outer s H E) := by
    obtain ⟨a, oe, h1, h2, h3⟩ := hot
    exact ⟨a, oe, h1, h2, h3⟩
  refine body (cxC (L2N.CX P w) P w K mg base N qual (defScope st) f cdv A outer s H E) (fun cls d _ H => E cls d H) ⟨⟨rfl, rfl, rfl, rfl, rfl, rfl, Sc.nd, rfl, Sc.kind, hr.dp, hr.un, (fun z => nomatch z), hgd, (fun z => nomatch z), fun _ _ => rfl, fun _ => hot'⟩, (fun z => nomatch z), rfl, rfl, rfl⟩ (L2N.takes_of rfl rfl rfl rfl) H g _ _ h g H _ (at_startX hat ex) ?_
  unfold runX at hm
  cases er : mb (.exc x :: List.replicate (N.length - 1) .un) h with
  | nx e h' => rw [er] at hm; exact fun σ' g' H' s' a' => hm .non g' H' a'.fs a'.hat (by simp [RF, Rep])
  | rt r e h' => rw [er] at hm; exact fun v σ' g' H' s' a' q => hm v g' H' a'.fs a'.hat q.rf
  | bk e h' => rw [er] at hm; exact hm.elim
  | ct e h' => rw [er] at hm; exact hm.elim
  | err x e h' => rw [er] at hm; exact fun σ' g' H' cls d s' a' q => hm cls d g' H' a'.fs a'.hat q
  | no => rw [er] at hm; exact hm.elim
def FnMX (P : Program) (w : World) (K : PySem.W.Frag) (mg : Str → Option Value) (base : Heap) (k : Nat) (x : Str) (m : MFX) : Prop :=
  ∃ f fd ps, FnGH P w K mg base (L2N.CX P w) k f fd ps (spX K w mg m) ∧ mg x = some (.ref f) ∧ PySem.W.keepIn K (.ref f) = true ∧ Binds K fd ps []
theorem FnMX.mono {P : Program} {w : World} {K : PySem.W.Frag} {mg : Str → Option Value} {base : Heap} {j k : Nat} {x : Str} {m : MFX} (f : FnMX P w K mg base j x m) (h : j ≤ k := by omega) : FnMX P w K mg base k x m := by
  obtain ⟨f, fd, ps, G, h1, h2, h3⟩ := f
  exact ⟨f, fd, ps, G.mono h, h1, h2, h3⟩
theorem fnMX_ok {P : Program} {w : World} {K : PySem.W.Frag} {mg : Str → Option Value} {base : Heap} {x q : Str} {st : Stmt} {N : List Str} {k : Nat} {mb : MS} {m : MFX} (D0 : Df K mg x st [q]) (Sc : FnScope N [q] (defScope st))
    (body : SSs ⟨P, w, K, mg, base, N, defScope st, k, fun _ => true, false⟩ (defBody st) mb) (hm : m = runX N.length mb := by rfl) : FnMX P w K mg base (k + 1) x m := by
  obtain ⟨f, fd, F0, hmg, hb⟩ := D0
  subst hm
  exact ⟨f, fd, [q], fn_okX F0 Sc body, hmg, F0.kp, hb⟩
def eCallX (mx : MFX) (i : Nat) : ME := fun env h => match env[i]? with
  | some (.exc x) => (match mx x h with
    | .ok r h' => .ok r env h'
    | .err y h' => .err y env h'
    | .no => .no)
  | _ => .no
section
variable {F : Fr} {pos : Pos}
theorem se_callX {x n : Str} {i : Nat} {mx : MFX} {p p1 : Pos} (hf : FnMX F.P F.w F.K F.mg F.base F.k x mx) (hcm : F.cm = false := by rfl) (hg : F.sc.names.lookup x = some .globalImplicit := by rfl) (hdb : (x == ("__debug__" : Str)) = false := by decide)
    (hN : F.N[i]? = some n := by rfl) (hv : Vis F.sc n := by first | exact Or.inl rfl | exact Or.inr (Or.inl rfl) | exact Or.inr (Or.inr rfl)) (hd1 : (n == ("__debug__" : Str)) = false := by decide) (hd2 : (n == ("__classdict__" : Str)) = false := by decide)
    (he : ∀ env, starEach [.Name n p1] env = (false, eval (.Name n p1) env) :: starEach [] env := by intros; rfl) (hpl : ∀ env, (backTo pos (starEach [] env)).any (·.1) = false := by intros; rfl) :
    SE F (.Call (.Name x p) [.Name n p1] [] pos) (eCallX mx i) := fun X W gd tk Hk gk σ env h g H Q at_ pp => by
  obtain ⟨f, fd, ps, G, hm, hk, hb⟩ := hf
  have G' : FnGH X.prog X.w X.K X.mg X.base (L2N.CX X.prog X.w) F.k f fd ps (spX X.K X.w X.mg mx) := by rw [gd.prog, gd.w, gd.K, gd.mg, gd.base]; exact G
  refine uE_of (pe_callGH (E := WE W) (gd.hot hcm) G' ⟨gd.dp, gd.un⟩ gd.gds (by show X.env.scope.names.lookup x = _; rw [gd.sc]; exact hg) (by rw [gd.mg]; exact hm) (by rw [gd.K]; exact hk) (by rw [gd.K]; exact hb) (fun σ => L2N.passAt tk σ)
    (pa_cons (pe_var (i := i) (by rw [gd.N]; exact hN) (by rw [gd.sc]; exact hv) hd1 hd2) pa_nil (he _)) hdb (he _) (hpl _)) ?_
  unfold eCallX at pp
  split at pp
  · rename_i x e
    obtain ⟨a, h1, h2⟩ := at_.exc i x e
    refine ⟨_, h1, ?_⟩
    show spX X.K X.w X.mg mx _ H Q (WE W σ)
    refine ⟨a, rfl, g, h, x, at_.hat, h2, ?_⟩
    cases er : mx x h with
    | no => rw [er] at pp; exact pp.elim
    | err x2 h2 => rw [er] at pp; exact fun cls d g' H' fs hat xr => pp g' H' cls d fs.toStep (at_.fstep fs hat) xr
    | ok r h2 =>
      rw [er] at pp
      refine fun v g' H' fs hat rf => pp g' H' fs.toStep (at_.fstep fs hat) v ?_
      cases r with
      | v d => exact rf
      | own ds' =>
        obtain ⟨q, us, rfl, n1, e1, r1, nf, nρ⟩ := rf
        obtain ⟨f1, f2, f3, f4⟩ := at_.fresh n1
        exact ⟨q, rfl, ⟨⟨us, e1, r1⟩, nf, nρ, f1⟩, f4⟩
  · exact pp.elim
end
end Mi
end
section
set_option Elab.async false
set_option linter.all false
set_option maxRecDepth 100000
set_option maxHeartbeats 2000000
/-! sorted of lists of data -/
namespace Mi
open PySem PySem.Spec PyProof.Rows L2
def encD (d : D) : PyData := (toPy d).getD .none
def tupNE : PyData → Bool
  | .tuple (_ :: _) => true
  | _ => false
def plainK : PyData → Bool
  | .none => false
  | .tuple _ => false
  | _ => true
/-- data that sorted may bear -/
def srtOk (ds : List D) : Bool := ds.all (fun d => (toPy d).isSome) && (ds.all (fun d => ds.all fun e => PySem.W.alike (encD d) (encD e)) && ((ds.all (fun d => tupNE (encD d)) || ds.all (fun d => plainK (encD d))) && (decide (ds.length ≤ 100000) && ds.all (fun d => decide ((encD d).depth ≤ 32)))))
def sortD (ds : List D) : List D := ds.mergeSort (PySem.W.dataLe false encD)
def sortDO (h : MH) : List D → Option R
  | [.lst ds] => if srtOk ds = true then some (.own (sortD ds)) else none
  | _ => none
def rSortD (K : PySem.W.Frag) : List V → Hp → VK → Prop := fun xs H Q => ∃ (a : Addr) (bs : List (V × PyData)), xs = [.ref a] ∧ SqL K H a (bs.map Prod.fst) ∧ (∀ b ∈ bs, Dp K H b.1 b.2) ∧ PySem.W.AllAlike (bs.map Prod.snd) ∧ PySem.W.Sortable (bs.map Prod.snd) ∧ bs.length ≤ 100000 ∧ (∀ b ∈ bs, b.2.depth ≤ 32) ∧
  ∀ p, H p = none → Q (.ref p) (upd H p (.lst ((bs.mergeSort (PySem.W.dataLe false Prod.snd)).map Prod.fst)))
theorem each_of {X : Cx} {pins : List (Addr × Obj)} {σ : L2.St} {H : Hp} {s : Shared} (I : Inv X pins σ H s) : ∀ (bs : List (V × PyData)) (us : List Value), Vals (bs.map Prod.fst) us → (∀ b ∈ bs, Dp X.K H b.1 b.2) →
    PySem.W.EachIs (fun v (b : V × PyData) => RelV b.1 v) us bs ∧ PySem.W.EachIs (fun v (b : V × PyData) => ∃ as, Reads s.heap v b.2 as) us bs
  | [], us, r, _ => by cases r; exact ⟨.nil, .nil⟩
  | b :: bs, us, r, h => by
    cases r with
    | cons r1 r2 =>
      obtain ⟨e1, e2⟩ := each_of I bs _ r2 fun c m => h c (by simp [m])
      obtain ⟨as, rd⟩ := Dp.reads I b.2 b.1 _ (h b (by simp)) r1
      exact ⟨.cons r1 e1, .cons ⟨as, rd⟩ e2⟩
theorem each_vals : ∀ {us : List Value} {bs : List (V × PyData)}, PySem.W.EachIs (fun v (b : V × PyData) => RelV b.1 v) us bs → Vals (bs.map Prod.fst) us
  | _, _, .nil => .nil
  | _, _, .cons h t => .cons h (each_vals t)
theorem call_sortD {X : Cx} (un : X.A.units + 64 < cLine) : CallR X (.builtin "sorted") (rSortD X.K) := by
  intro pins s σ H xs us Q I r z
  obtain ⟨a, bs, rfl, sq, dp, al, so, ln, dep, q⟩ := z
  obtain ⟨u, rfl, rx⟩ := vals1 r
  obtain rfl : u = Value.ref a := rx
  obtain ⟨its, rv, p, _⟩ := I.list sq
  obtain ⟨e1, e2⟩ := each_of I bs its rv dp
  refine PySem.W.sorted_data (bs := bs) (enc := Prod.snd) (R := fun v (b : V × PyData) => RelV b.1 v) p.isList e1 e2 al so (Nat.le_trans ln (by decide)) (fun b m => by have := dep b m; omega) fun out ho eo => ?_
  obtain ⟨c, hc⟩ := PyProof.Rows.sortedAll_at s.heap its (List.toArray out)
  have rv2 := each_vals eo
  have hl := rv2.length
  have z : (bs.mergeSort (PySem.W.dataLe false Prod.snd)).length = bs.length := List.length_mergeSort _
  have ob : ObjOk X.prog X.w (upd H (s.heap.objs.size + 1) (.lst ((bs.mergeSort (PySem.W.dataLe false Prod.snd)).map Prod.fst))) (PyProof.Rows.sortedAll s.heap its (List.toArray out)) (s.heap.objs.size + 1) (.lst ((bs.mergeSort (PySem.W.dataLe false Prod.snd)).map Prod.fst)) :=
    ⟨by rw [List.length_map, z]; exact Nat.le_trans ln (by decide), out, c, rv2, hc⟩
  exact ⟨.ref (s.heap.objs.size + 1), _, I.laid (t' := s.toks) (fun b o e => PyProof.Rows.sortedAll_old e) (Nat.le_succ _) ob, rfl, q _ (I.hok.fresh (Nat.le_succ _))⟩
theorem toPys_zip {K : PySem.W.Frag} {w : World} {g : Gh} {H : Hp} : ∀ (ds : List D) (vs : List V), Reps K w g H vs ds → (∀ d ∈ ds, (toPy d).isSome = true) → ∀ b ∈ vs.zip (ds.map encD), Dp K H b.1 b.2
  | [], vs, r, _, b, m => by simp at m
  | d :: ds, vs, r, h, b, m => by
    rw [Reps.cons_iff] at r
    obtain ⟨v, r', rfl, h1, h2⟩ := r
    rw [List.map_cons, List.zip_cons_cons, List.mem_cons] at m
    rcases m with rfl | m
    · obtain ⟨p, e⟩ := Option.isSome_iff_exists.mp (h d (by simp))
      have : encD d = p := by unfold encD; rw [e]; rfl
      show Dp K H v (encD d)
      rw [this]
      exact rep_dp d h1 e
    · exact toPys_zip ds r' h2 (fun e m => h e (by simp [m])) b m
theorem reps_zip {K : PySem.W.Frag} {w : World} {g : Gh} {H : Hp} : ∀ (zs : List (V × D)), (∀ z ∈ zs, Rep K w g H z.1 z.2) → Reps K w g H (zs.map Prod.fst) (zs.map Prod.snd)
  | [], _ => Reps.nil
  | z :: zs, h => Reps.cons (h z (by simp)) (reps_zip zs fun y m => h y (by simp [m]))
theorem rep_of_zip {K : PySem.W.Frag} {w : World} {g : Gh} {H : Hp} : ∀ (ds : List D) (vs : List V), Reps K w g H vs ds → ∀ z ∈ vs.zip ds, Rep K w g H z.1 z.2
  | [], vs, r, z, m => by simp at m
  | d :: ds, vs, r, z, m => by
    rw [Reps.cons_iff] at r
    obtain ⟨v, r', rfl, h1, h2⟩ := r
    rw [List.zip_cons_cons, List.mem_cons] at m
    rcases m with rfl | m
    · exact h1
    · exact rep_of_zip ds r' h2 z m
section
variable {F : Fr}
theorem srt_go {X : Cx} (gd : Good F X) {h : MH} {g : Gh} {H : Hp} (hat : HAt X.K X.w h g H) {a : Addr} {vs : List V} {ds : List D} (sq : SqL X.K H a vs) (rv : Reps X.K X.w g H vs ds) (c : srtOk ds = true) {Q : VK}
    (k : ∀ z g' H', Grow g H g' H' → RN X.K X.w H g' H' z (.own (sortD ds)) → Q z H') : uCl X (.builtin "sorted") [.ref a] H Q := by
  unfold srtOk at c
  simp only [Bool.and_eq_true, Bool.or_eq_true, List.all_eq_true, decide_eq_true_eq] at c
  obtain ⟨c1, c2, c3, c4, c5⟩ := c
  have hl := rv.length
  have f1 : (vs.zip (ds.map encD)).map Prod.fst = vs := List.map_fst_zip (by simp [hl])
  have f2 : (vs.zip (ds.map encD)).map Prod.snd = ds.map encD := List.map_snd_zip (by simp [hl])
  refine uCl_of (call_sortD gd.units) ⟨a, vs.zip (ds.map encD), rfl, by rw [f1]; exact sq, toPys_zip ds vs rv c1, ?_, ?_, by simp [hl]; omega, fun b m => ?_, fun p hp => ?_⟩
  · rw [f2]
    intro d hd e he
    obtain ⟨x, m1, rfl⟩ := List.mem_map.mp hd
    obtain ⟨y, m2, rfl⟩ := List.mem_map.mp he
    exact c2 x m1 y m2
  · rw [f2]
    rcases c3 with c3 | c3
    · refine .inl fun d hd => ?_
      obtain ⟨x, m1, rfl⟩ := List.mem_map.mp hd
      have := c3 x m1
      unfold tupNE at this
      split at this
      · rename_i y r e; exact ⟨y, r, e⟩
      · cases this
    · refine .inr fun d hd => ?_
      obtain ⟨x, m1, rfl⟩ := List.mem_map.mp hd
      have := c3 x m1
      unfold plainK at this
      split at this
      · cases this
      · cases this
      · rename_i n1 n2; exact ⟨n1, fun xs e => n2 xs e⟩
  · obtain ⟨x, m1, e⟩ := List.mem_map.mp (List.of_mem_zip m).2
    rw [← e]
    exact c5 x m1
  · have z1 : vs.zip (ds.map encD) = (vs.zip ds).map fun z => (z.1, encD z.2) := by
      rw [List.zip_map_right]
      rfl
    have z2 : (vs.zip (ds.map encD)).mergeSort (PySem.W.dataLe false Prod.snd) = ((vs.zip ds).mergeSort (PySem.W.dataLe false fun z => encD z.2)).map fun z => (z.1, encD z.2) := by
      rw [z1]
      exact (PySem.W.sort_maps (r := PySem.W.dataLe false fun z : V × D => encD z.2) (s := PySem.W.dataLe false Prod.snd) (fun z : V × D => (z.1, encD z.2)) fun _ _ _ _ => rfl).symm
    have z3 : sortD ds = ((vs.zip ds).mergeSort (PySem.W.dataLe false fun z => encD z.2)).map Prod.snd := by
      have e : (vs.zip ds).map Prod.snd = ds := List.map_snd_zip (by simp [hl])
      unfold sortD
      conv => lhs; rw [← e]
      exact (PySem.W.sort_maps (r := PySem.W.dataLe false fun z : V × D => encD z.2) (s := PySem.W.dataLe false encD) (Prod.snd : V × D → D) fun _ _ _ _ => rfl).symm
    have rz : Reps X.K X.w g H (((vs.zip ds).mergeSort (PySem.W.dataLe false fun z => encD z.2)).map Prod.fst) (sortD ds) := by
      rw [z3]
      exact reps_zip _ fun z m => rep_of_zip ds vs rv z (List.mem_mergeSort.mp m)
    have z4 : ((vs.zip (ds.map encD)).mergeSort (PySem.W.dataLe false Prod.snd)).map Prod.fst = ((vs.zip ds).mergeSort (PySem.W.dataLe false fun z => encD z.2)).map Prod.fst := by
      rw [z2, List.map_map]
      rfl
    rw [z4]
    exact k _ g _ (grow_new hat hp) (rep_newLst hat hp rz)
theorem ok_sortD : CallOk F (.builtin "sorted") sortDO := fun X gd h g H hat xs ds r rs e Q k => by
  unfold sortDO at e
  split at e
  · rename_i ys
    split at e
    · rename_i c
      cases e
      obtain ⟨x, rfl, rx⟩ := one_reps rs
      simp only [Rep] at rx
      obtain ⟨a, vs, rfl, la, rv⟩ := rx
      exact srt_go gd hat la.sq rv c k
    · cases e
  · cases e
end
@[simp] theorem x_iOfL (m : MV) (env : Ev) (h : MH) : iOfL m env h = (m env h).bind fun d env h => match d with
  | .lst ds => .ok ds env h
  | _ => .no := rfl
@[simp] theorem x_eCallX (mx : MFX) (i : Nat) (env : Ev) (h : MH) : eCallX mx i env h = match env[i]? with
  | some (.exc x) => (match mx x h with
    | .ok r h' => .ok r env h'
    | .err y h' => .err y env h'
    | .no => .no)
  | _ => .no := rfl
@[simp] theorem x_runX (n : Nat) (mb : MS) (x : Xc) (h : MH) : runX n mb x h = match mb (.exc x :: List.replicate (n - 1) .un) h with
  | .nx _ h' => .ok (.v .non) h'
  | .rt r _ h' => .ok r h'
  | .err x _ h' => .err x h'
  | _ => .no := rfl
theorem x_sortD {h : MH} {ds : List D} (c : srtOk ds = true) : sortDO h [.lst ds] = some (.own (sortD ds)) := by
  unfold sortDO
  dsimp only
  rw [if_pos c]
end Mi
end
section
set_option Elab.async false
set_option linter.all false
set_option maxRecDepth 100000
set_option maxHeartbeats 4000000
open PySem PySem.Spec PyProof.Rows L2
namespace Mi
def rF : Nat := 64
def wF : Nat := 1000
def c_SIGNS : D := (D.str [48, 49, 50, 51, 52, 53, 54, 55, 56, 57, 65, 66, 67, 68, 69, 70, 71, 72, 73, 74, 75, 76, 77, 78, 79, 80, 81, 82, 83, 84, 85, 86, 87, 88, 89, 90])
def b_made_of : MS := (sSeq (sIf (bOr (bNot (bTru (fz (eIsi "str" (fz (eVar 0)))))) (bNot (toB (eChain leO leO (fz (eVar 2)) (fz (eLenV 0 lenO)) (fz (eVar 3)))))) (sSeq (sRet (eC (D.bl false))) sNil) sNil) (sSeq (sRet (eCallB allO (aCons (fz (eComp [1] (tN 4) (iOf (fz (eVar 0))) bYes (fz (eOp2 inO (fz (eVar 4)) (fz (eVar 1)))))) aNil))) sNil))
def m_made_of : MF := runF 5 b_made_of
def b_ascending : MS := (sSeq (sRet (eCallB allO (aCons (fz (eComp [0] (tN 1) (iRange1 (fz (eOp2 subO (fz (eLenV 0 lenO)) (fz (eC (D.int 1)))))) bYes (fz (eOp2 ltO (fz (eIxV 0 ixO (fz (eVar 1)))) (fz (eIxV 0 ixO (fz (eOp2 addO (fz (eVar 1)) (fz (eC (D.int 1))))))))))) aNil))) sNil)
def m_ascending : MF := runF 2 b_ascending
def b_is_signs : MS := (sSeq (sRet (eAnd (fz (eCall m_made_of (aCons (fz (eVar 0)) (aCons (fz (eC c_SIGNS)) (aCons (fz (eC (D.int 2))) (aCons (fz (eC (D.int 12))) aNil)))))) (eCall m_ascending (aCons (fz (eVar 0)) aNil)))) sNil)
def m_is_signs : MF := runF 1 b_is_signs
def b_check_signs_of : MS := (sSeq (sIf (bNot (bTru (fz (eCall m_is_signs (aCons (fz (eVar 0)) aNil))))) (sSeq (sRaise "BadSigns" "signs" (aCons (fz (eVar 0)) aNil)) sNil) sNil) sNil)
def m_check_signs_of : MF := runF 1 b_check_signs_of
def b_sign_value : MS := (sSeq (sExpr (eCall m_check_signs_of (aCons (fz (eVar 0)) aNil))) (sSeq (sRet (eMtS indexO (fz (eVar 0)) (aCons (fz (eVar 1)) aNil))) sNil))
def m_sign_value : MF := runF 2 b_sign_value
def b_paper_key : MS := (sSeq (sRet (eTup (aCons (fz (eLenV 0 lenO)) (aCons (fz (eVar 0)) aNil)))) sNil)
def m_paper_key : MF := runF 1 b_paper_key
def b_in_order_c1 : MV := (fz (eCall m_paper_key (aCons (fz (eVar 2)) aNil)))
def b_in_order_c2 : MV := (fz (eIxV 1 ixO (fz (eC (D.int 1)))))
def b_in_order : MS := (sSeq (sRet (eCallB tupleO (aCons (fz (eComp [] (tN 1) (iOf (fz (eCallB sortDO (aCons (fz (eComp [] (tN 2) (iOf (fz (eVar 0))) bYes b_in_order_c1)) aNil)))) bYes b_in_order_c2)) aNil))) sNil)
def m_in_order : MF := runF 3 b_in_order
def b_lag_of_q1 : MB := (bAnd (toB (eOp2 ltO (fz (eVar 2)) (fz (eLenV 0 lenO)))) (bAnd (toB (eOp2 ltO (fz (eVar 2)) (fz (eLenV 1 lenO)))) (toB (eOp2 eqO (fz (eIxV 0 ixO (fz (eVar 2)))) (fz (eIxV 1 ixO (fz (eVar 2))))))))
def b_lag_of_w1 : MS := (sSeq (sAug 2 iaddO (fz (eC (D.int 1)))) sNil)
def b_lag_of : MS := (sSeq (sSet 2 (eC (D.int 0))) (sSeq (sWhile b_lag_of_q1 b_lag_of_w1 wF) (sSeq (sIf (bAnd (toB (eOp2 ltO (fz (eVar 2)) (fz (eLenV 0 lenO)))) (toB (eOp2 ltO (fz (eVar 2)) (fz (eLenV 1 lenO))))) (sSeq (sRet (eC (D.str [35]))) sNil) sNil) (sSeq (sIf (toB (eOp2 ltO (fz (eVar 2)) (fz (eLenV 0 lenO)))) (sSeq (sRet (eOp2 addO (fz (eC (D.str [43]))) (fz (eSlV 0 (pSome (fz (eVar 2))) pNone)))) sNil) sNil) (sSeq (sIf (toB (eOp2 ltO (fz (eVar 2)) (fz (eLenV 1 lenO)))) (sSeq (sRet (eOp2 addO (fz (eC (D.str [45]))) (fz (eSlV 1 (pSome (fz (eVar 2))) pNone)))) sNil) sNil) (sSeq (sRet (eC (D.str [61]))) sNil))))))
def m_lag_of : MF := runF 3 b_lag_of
def b_lag_on : MS := (sSeq (sIf (toB (eOp2 eqO (fz (eVar 0)) (fz (eC (D.str [35]))))) (sSeq (sRet (eC (D.str [35]))) sNil) sNil) (sSeq (sIf (toB (eOp2 eqO (fz (eIxV 0 ixO (fz (eC (D.int 0))))) (fz (eC (D.str [43]))))) (sSeq (sRet (eCall m_lag_of (aCons (fz (eOp2 addO (fz (eSlV 0 (pSome (fz (eC (D.int 1)))) pNone)) (fz (eVar 1)))) (aCons (fz (eVar 2)) aNil)))) sNil) sNil) (sSeq (sIf (toB (eOp2 eqO (fz (eIxV 0 ixO (fz (eC (D.int 0))))) (fz (eC (D.str [45]))))) (sSeq (sRet (eCall m_lag_of (aCons (fz (eVar 1)) (aCons (fz (eOp2 addO (fz (eSlV 0 (pSome (fz (eC (D.int 1)))) pNone)) (fz (eVar 2)))) aNil)))) sNil) sNil) (sSeq (sRet (eCall m_lag_of (aCons (fz (eVar 1)) (aCons (fz (eVar 2)) aNil)))) sNil))))
def m_lag_on : MF := runF 3 b_lag_on
def b__law_bag_of : MS := (sSeq (sSet 2 (eIf (toB (eOp2 ltO (fz (eVar 1)) (fz (eLenV 0 lenO)))) (eIxV 0 ixO (fz (eVar 1))) (eOp2 addO (fz (eCallB sumO (aCons (fz (eComp [] (tN 5) (iOf (fz (eVar 0))) bYes (fz (eOp2 addO (fz (eOp2 fdivO (fz (eCallB absO (aCons (fz (eVar 5)) aNil))) (fz (eC (D.int 3))))) (fz (eC (D.int 5))))))) aNil))) (fz (eOp2 mulIO (fz (eC (D.int 7919))) (fz (eOp2 addO (fz (eVar 1)) (fz (eC (D.int 1)))))))))) (sSeq (sSet 3 (eCallB absO (aCons (fz (eVar 2)) aNil))) (sSeq (sSet 4 (eIf (toB (eOp2 geO (fz (eVar 3)) (fz (eC (D.int 1000000000000000000))))) (eVar 3) (eC (D.int 0)))) (sSeq (sRet (eLoc (aCons (fz (eVar 4)) (aCons (fz (eOp2 addO (fz (eOp2 addO (fz (eOp2 modO (fz (eCallB intO (aCons (fz (eVar 3)) aNil))) (fz (eC (D.int 2147483629))))) (fz (eOp2 mulIO (fz (eC (D.int 7919))) (fz (eVar 1)))))) (fz (eIf (toB (eOp2 ltO (fz (eVar 2)) (fz (eC (D.int 0))))) (eC (D.int 13)) (eC (D.int 0)))))) (aCons (fz (eC (D.int 0))) aNil))))) sNil))))
def m__law_bag_of : MF := runF 6 b__law_bag_of
def b__law_pick : MS := (sSeq (sIf (toB (eOp2 ltO (fz (eVar 1)) (fz (eC (D.int 2))))) (sSeq (sRet (eC (D.int 0))) sNil) sNil) (sSeq (sIf (toB (eOp2 gtO (fz (eIxV 0 ixO (fz (eC (D.int 0))))) (fz (eC (D.int 0))))) (sSeq (sSet 2 (eOp2 modO (fz (eCallB intO (aCons (fz (eIxV 0 ixO (fz (eC (D.int 0))))) aNil))) (fz (eVar 1)))) (sSeq (sStIx 0 (fz (eC (D.int 0))) (fz (eOp2 fdivO (fz (eIxV 0 ixO (fz (eC (D.int 0))))) (fz (eVar 1))))) (sSeq (sRet (eVar 2)) sNil))) sNil) (sSeq (sStIx 0 (fz (eC (D.int 2))) (fz (eOp2 addO (fz (eIxV 0 ixO (fz (eC (D.int 2))))) (fz (eC (D.int 1)))))) (sSeq (sSet 3 (eOp2 modO (fz (eCallB intO (aCons (fz (eOp2 addO (fz (eOp2 mulIO (fz (eIxV 0 ixO (fz (eC (D.int 1))))) (fz (eC (D.int 48271))))) (fz (eOp2 mulIO (fz (eIxV 0 ixO (fz (eC (D.int 2))))) (fz (eC (D.int 69621))))))) aNil))) (fz (eC (D.int 2147483647))))) (sSeq (sSet 4 (eOp2 modO (fz (eCallB intO (aCons (fz (eOp2 addO (fz (eOp2 addO (fz (eOp2 mulIO (fz (eVar 3)) (fz (eVar 3)))) (fz (eIxV 0 ixO (fz (eC (D.int 1))))))) (fz (eOp2 mulIO (fz (eIxV 0 ixO (fz (eC (D.int 2))))) (fz (eC (D.int 1299709))))))) aNil))) (fz (eC (D.int 1000000007))))) (sSeq (sRet (eOp2 modO (fz (eCallB intO (aCons (fz (eOp2 fdivO (fz (eVar 4)) (fz (eC (D.int 5))))) aNil))) (fz (eVar 1)))) sNil))))))
def m__law_pick : MF := runF 5 b__law_pick
def b__law_one_of : MS := (sSeq (sRet (eIxV 1 ixO (fz (eCall m__law_pick (aCons (fz (eVar 0)) (aCons (fz (eLenV 1 lenO)) aNil)))))) sNil)
def m__law_one_of : MF := runF 2 b__law_one_of
def b__law_mixed : MS := (sSeq (sSet 2 (eCallB listO (aCons (fz (eVar 1)) aNil))) (sSeq (sSet 3 (eLst aNil)) (sSeq (sFor (tN 4) (iRange1 (fz (eLenV 1 lenO))) (sSeq (sExpr (eMut 3 appOp (aCons (fz (eMut 2 popOp (aCons (fz (eCall m__law_pick (aCons (fz (eVar 0)) (aCons (fz (eLenV 2 lenO)) aNil)))) aNil))) aNil))) sNil)) (sSeq (sRet (eVar 3)) sNil))))
def m__law_mixed : MF := runF 5 b__law_mixed
def b__law_paper_of_f1 : MS := (sSeq (sSet 3 (eOp2 addO (fz (eVar 3)) (fz (eCall m__law_one_of (aCons (fz (eVar 0)) (aCons (fz (eVar 1)) aNil)))))) sNil)
def b__law_paper_of : MS := (sSeq (sSet 3 (eC (D.str []))) (sSeq (sFor (tN 4) (iRange1 (fz (eCall m__law_pick (aCons (fz (eVar 0)) (aCons (fz (eOp2 addO (fz (eVar 2)) (fz (eC (D.int 1))))) aNil))))) b__law_paper_of_f1) (sSeq (sRet (eVar 3)) sNil)))
def m__law_paper_of : MF := runF 5 b__law_paper_of
def b__law_key_of : MS := (sSeq (sRet (eTup (aCons (fz (eLenV 0 lenO)) (aCons (fz (eVar 0)) aNil)))) sNil)
def m__law_key_of : MF := runF 1 b__law_key_of
def b__law_ordered_c1 : MV := (fz (eCall m__law_key_of (aCons (fz (eVar 2)) aNil)))
def b__law_ordered_c2 : MV := (fz (eIxV 1 ixO (fz (eC (D.int 1)))))
def b__law_ordered : MS := (sSeq (sRet (eComp [] (tN 1) (iOf (fz (eCallB sortDO (aCons (fz (eComp [] (tN 2) (iOf (fz (eVar 0))) bYes b__law_ordered_c1)) aNil)))) bYes b__law_ordered_c2)) sNil)
def m__law_ordered : MF := runF 3 b__law_ordered
def b__law_lag_of_q1 : MB := (bAnd (toB (eOp2 ltO (fz (eVar 2)) (fz (eLenV 0 lenO)))) (bAnd (toB (eOp2 ltO (fz (eVar 2)) (fz (eLenV 1 lenO)))) (toB (eOp2 eqO (fz (eIxV 0 ixO (fz (eVar 2)))) (fz (eIxV 1 ixO (fz (eVar 2))))))))
def b__law_lag_of_w1 : MS := (sSeq (sSet 2 (eOp2 addO (fz (eVar 2)) (fz (eC (D.int 1))))) sNil)
def b__law_lag_of : MS := (sSeq (sSet 2 (eC (D.int 0))) (sSeq (sWhile b__law_lag_of_q1 b__law_lag_of_w1 wF) (sSeq (sIf (bAnd (toB (eOp2 ltO (fz (eVar 2)) (fz (eLenV 0 lenO)))) (toB (eOp2 ltO (fz (eVar 2)) (fz (eLenV 1 lenO))))) (sSeq (sRet (eC (D.str [35]))) sNil) sNil) (sSeq (sIf (toB (eOp2 ltO (fz (eVar 2)) (fz (eLenV 0 lenO)))) (sSeq (sRet (eOp2 addO (fz (eC (D.str [43]))) (fz (eSlV 0 (pSome (fz (eVar 2))) pNone)))) sNil) sNil) (sSeq (sRet (eIf (toB (eOp2 ltO (fz (eVar 2)) (fz (eLenV 1 lenO)))) (eOp2 addO (fz (eC (D.str [45]))) (fz (eSlV 1 (pSome (fz (eVar 2))) pNone))) (eC (D.str [61])))) sNil)))))
def m__law_lag_of : MF := runF 3 b__law_lag_of
def b__law_no_list (rec : MF) : MS := (sSeq (sIf (bTru (fz (eIsi "tuple" (fz (eVar 0))))) (sSeq (sRet (eCallB allO (aCons (fz (eComp [] (tN 1) (iOf (fz (eVar 0))) bYes (fz (eCall rec (aCons (fz (eVar 1)) aNil))))) aNil))) sNil) sNil) (sSeq (sRet (eAnd (fz (eNot (fz (eIsi "list" (fz (eVar 0)))))) (eNot (fz (eIsi "bool" (fz (eVar 0))))))) sNil))
def m__law_no_list : Nat → MF
  | 0 => runF 2 sNo
  | n + 1 => runF 2 (b__law_no_list (m__law_no_list n))
def b__law_is_int : MS := (sSeq (sRet (eAnd (fz (eIsi "int" (fz (eVar 0)))) (eNot (fz (eIsi "bool" (fz (eVar 0))))))) sNil)
def m__law_is_int : MF := runF 1 b__law_is_int
def b__law_same_tuple : MS := (sSeq (sRet (eAnd (fz (eIsi "tuple" (fz (eVar 0)))) (eAnd (fz (eOp2 eqO (fz (eVar 0)) (fz (eVar 1)))) (eCall (m__law_no_list rF) (aCons (fz (eVar 0)) aNil))))) sNil)
def m__law_same_tuple : MF := runF 2 b__law_same_tuple
def b__law_many_signs : MS := (sSeq (sSet 1 (eOp2 addO (fz (eC (D.int 2))) (fz (eCall m__law_pick (aCons (fz (eVar 0)) (aCons (fz (eOp2 ixO (fz (eLst (aCons (fz (eC (D.int 3))) (aCons (fz (eC (D.int 11))) aNil)))) (fz (eCall m__law_pick (aCons (fz (eVar 0)) (aCons (fz (eC (D.int 2))) aNil)))))) aNil)))))) (sSeq (sRet (eMtS joinO (fz (eC (D.str []))) (aCons (fz (eCallB sortSO (aCons (fz (eSl (fz (eCall m__law_mixed (aCons (fz (eVar 0)) (aCons (fz (eC (D.str [48, 49, 50, 51, 52, 53, 54, 55, 56, 57, 65, 66, 67, 68, 69, 70, 71, 72, 73, 74, 75, 76, 77, 78, 79, 80, 81, 82, 83, 84, 85, 86, 87, 88, 89, 90]))) aNil)))) pNone (pSome (fz (eVar 1))))) aNil))) aNil))) sNil))
def m__law_many_signs : MF := runF 2 b__law_many_signs
def b__law_classes_q1 : MB := (bTruV 3)
def b__law_classes_c1 : MV := (fz (eVar 2))
def b__law_classes : MS := (sSeq (sSet 1 (eLst (aCons (fz (eTup (aCons (fz (eC (D.str [67, 97, 114, 114, 121, 69, 114, 114, 111, 114]))) (aCons (fz (eXis 0 ["BadSigns"] [])) aNil)))) (aCons (fz (eTup (aCons (fz (eC (D.str [77, 97, 108, 102, 111, 114, 109, 101, 100]))) (aCons (fz (eXis 0 ["BadSigns"] [])) aNil)))) aNil)))) (sSeq (sSet 1 (eOp2 addO (fz (eVar 1)) (fz (eLst (aCons (fz (eTup (aCons (fz (eC (D.str [82, 101, 102, 117, 115, 101, 100]))) (aCons (fz (eXis 0 [] ["BadSigns"])) aNil)))) (aCons (fz (eTup (aCons (fz (eC (D.str [66, 97, 100, 83, 105, 103, 110, 115]))) (aCons (fz (eXis 0 ["BadSigns"] [])) aNil)))) aNil)))))) (sSeq (sSet 1 (eOp2 addO (fz (eVar 1)) (fz (eLst (aCons (fz (eTup (aCons (fz (eC (D.str [66, 97, 100, 80, 97, 112, 101, 114]))) (aCons (fz (eXis 0 [] ["BadSigns"])) aNil)))) (aCons (fz (eTup (aCons (fz (eC (D.str [66, 97, 100, 78, 97, 109, 101]))) (aCons (fz (eXis 0 [] ["BadSigns"])) aNil)))) aNil)))))) (sSeq (sSet 1 (eOp2 addO (fz (eVar 1)) (fz (eLst (aCons (fz (eTup (aCons (fz (eC (D.str [66, 97, 100, 87, 97, 108, 107]))) (aCons (fz (eXis 0 [] ["BadSigns"])) aNil)))) (aCons (fz (eTup (aCons (fz (eC (D.str [66, 97, 100, 82, 117, 108, 101]))) (aCons (fz (eXis 0 [] ["BadSigns"])) aNil)))) aNil)))))) (sSeq (sSet 1 (eOp2 addO (fz (eVar 1)) (fz (eLst (aCons (fz (eTup (aCons (fz (eC (D.str [66, 97, 100, 70, 111, 114, 109]))) (aCons (fz (eXis 0 [] ["BadSigns"])) aNil)))) (aCons (fz (eTup (aCons (fz (eC (D.str [66, 97, 100, 83, 108, 105, 112]))) (aCons (fz (eXis 0 [] ["BadSigns"])) aNil)))) aNil)))))) (sSeq (sSet 1 (eOp2 addO (fz (eVar 1)) (fz (eLst (aCons (fz (eTup (aCons (fz (eC (D.str [66, 97, 100, 87, 97, 121]))) (aCons (fz (eXis 0 [] ["BadSigns"])) aNil)))) (aCons (fz (eTup (aCons (fz (eC (D.str [66, 97, 100, 68, 101, 101, 100]))) (aCons (fz (eXis 0 [] ["BadSigns"])) aNil)))) aNil)))))) (sSeq (sSet 1 (eOp2 addO (fz (eVar 1)) (fz (eLst (aCons (fz (eTup (aCons (fz (eC (D.str [66, 97, 100, 76, 105, 110, 101]))) (aCons (fz (eXis 0 [] ["BadSigns"])) aNil)))) (aCons (fz (eTup (aCons (fz (eC (D.str [84, 111, 111, 77, 97, 110, 121]))) (aCons (fz (eXis 0 [] ["BadSigns"])) aNil)))) aNil)))))) (sSeq (sSet 1 (eOp2 addO (fz (eVar 1)) (fz (eLst (aCons (fz (eTup (aCons (fz (eC (D.str [84, 119, 105, 99, 101]))) (aCons (fz (eXis 0 [] ["BadSigns"])) aNil)))) (aCons (fz (eTup (aCons (fz (eC (D.str [85, 110, 107, 110, 111, 119, 110]))) (aCons (fz (eXis 0 [] ["BadSigns"])) aNil)))) aNil)))))) (sSeq (sSet 1 (eOp2 addO (fz (eVar 1)) (fz (eLst (aCons (fz (eTup (aCons (fz (eC (D.str [85, 110, 108, 105, 107, 101]))) (aCons (fz (eXis 0 [] ["BadSigns"])) aNil)))) (aCons (fz (eTup (aCons (fz (eC (D.str [85, 110, 102, 105, 116]))) (aCons (fz (eXis 0 [] ["BadSigns"])) aNil)))) aNil)))))) (sSeq (sRet (eComp [] (tT (tsCons (tN 2) (tsCons (tN 3) tsNil)) 2) (iOfL (fz (eVar 1))) b__law_classes_q1 b__law_classes_c1)) sNil))))))))))
def m__law_classes : MFX := runX 4 b__law_classes
def b__law_pieces_of_s10 : MS := (sRet (eVar 8))
def b__law_pieces_of_f1 : MS := (sSeq (sSet 12 (eOp2 ixO (fz (eLst (aCons (fz (eC (D.int 0))) (aCons (fz (eC (D.int 0))) (aCons (fz (eC (D.int 1))) (aCons (fz (eC (D.int 1))) (aCons (fz (eC (D.int 2))) (aCons (fz (eC (D.int 3))) (aCons (fz (eC (D.int 4))) (aCons (fz (eC (D.int 12))) aNil)))))))))) (fz (eCall m__law_pick (aCons (fz (eVar 2)) (aCons (fz (eC (D.int 8))) aNil)))))) (sSeq (sExpr (eMut 10 appOp (aCons (fz (eSlV 5 (pSome (fz (eIxV 9 ixO (fz (eVar 11))))) (pSome (fz (eOp2 addO (fz (eIxV 9 ixO (fz (eVar 11)))) (fz (eVar 12))))))) aNil))) (sSeq (sStIx 9 (fz (eVar 11)) (fz (eOp2 addO (fz (eIxV 9 ixO (fz (eVar 11)))) (fz (eVar 12))))) sNil)))
def b__law_pieces_of_f2 : MS := (sSeq (sSet 2 (eCall m__law_bag_of (aCons (fz (eVar 0)) (aCons (fz (eOp2 addO (fz (eC (D.int 2))) (fz (eVar 4)))) aNil)))) (sSeq (sSet 10 (eLst aNil)) (sSeq (sFor (tN 11) (iRange1 (fz (eC (D.int 2)))) b__law_pieces_of_f1) (sSeq (sIf (toB (eOp2 eqO (fz (eVar 4)) (fz (eVar 7)))) (sSeq (sSet 11 (eCall m__law_pick (aCons (fz (eVar 2)) (aCons (fz (eC (D.int 2))) aNil)))) (sSeq (sSet 13 (eCall m__law_pick (aCons (fz (eVar 2)) (aCons (fz (eOp2 addO (fz (eCallB lenO (aCons (fz (eIxV 10 ixO (fz (eVar 11)))) aNil))) (fz (eC (D.int 1))))) aNil)))) (sSeq (sStIx 10 (fz (eVar 11)) (fz (eOp2 addO (fz (eOp2 addO (fz (eSl (fz (eIxV 10 ixO (fz (eVar 11)))) pNone (pSome (fz (eVar 13))))) (fz (eCall m__law_one_of (aCons (fz (eVar 2)) (aCons (fz (eVar 1)) aNil)))))) (fz (eSl (fz (eIxV 10 ixO (fz (eVar 11)))) (pSome (fz (eOp2 addO (fz (eVar 13)) (fz (eC (D.int 1)))))) pNone))))) sNil))) sNil) (sSeq (sExpr (eMut 8 appOp (aCons (fz (eVar 10)) aNil))) sNil)))))
def b__law_pieces_of_s9 : MS := (sFor (tN 4) (iRange1 (fz (eVar 6))) b__law_pieces_of_f2)
def b__law_pieces_of_s8 : MS := (sSet 9 (eLst (aCons (fz (eC (D.int 0))) (aCons (fz (eC (D.int 0))) aNil))))
def b__law_pieces_of_s7 : MS := (sSet 8 (eLst aNil))
def b__law_pieces_of_s6 : MS := (sSet 7 (eCall m__law_pick (aCons (fz (eVar 2)) (aCons (fz (eOp2 addO (fz (eVar 6)) (fz (eVar 6)))) aNil))))
def b__law_pieces_of_s5 : MS := (sSet 6 (eOp2 addO (fz (eOp2 addO (fz (eC (D.int 3))) (fz (eCall m__law_pick (aCons (fz (eVar 2)) (aCons (fz (eC (D.int 8))) aNil)))))) (fz (eCallB min2O (aCons (fz (eC (D.int 39))) (aCons (fz (eLenV 0 lenO)) aNil))))))
def b__law_pieces_of_s4 : MS := (sSet 5 (eOp2 mulSO (fz (eVar 3)) (fz (eOp2 fdivO (fz (eC (D.int 620))) (fz (eLenV 3 lenO))))))
def b__law_pieces_of_f3 : MS := (sSeq (sSet 3 (eOp2 addO (fz (eVar 3)) (fz (eCall m__law_one_of (aCons (fz (eVar 2)) (aCons (fz (eVar 1)) aNil)))))) sNil)
def b__law_pieces_of_s3 : MS := (sFor (tN 4) (iRange1 (fz (eOp2 addO (fz (eC (D.int 1))) (fz (eCall m__law_pick (aCons (fz (eVar 2)) (aCons (fz (eOp2 ixO (fz (eLst (aCons (fz (eC (D.int 3))) (aCons (fz (eC (D.int 40))) aNil)))) (fz (eCall m__law_pick (aCons (fz (eVar 2)) (aCons (fz (eC (D.int 2))) aNil)))))) aNil))))))) b__law_pieces_of_f3)
def b__law_pieces_of_s2 : MS := (sSet 3 (eC (D.str [])))
def b__law_pieces_of_s1 : MS := (sSet 2 (eCall m__law_bag_of (aCons (fz (eVar 0)) (aCons (fz (eC (D.int 1))) aNil))))
def b__law_pieces_of : MS := (sSeq b__law_pieces_of_s1 (sSeq b__law_pieces_of_s2 (sSeq b__law_pieces_of_s3 (sSeq b__law_pieces_of_s4 (sSeq b__law_pieces_of_s5 (sSeq b__law_pieces_of_s6 (sSeq b__law_pieces_of_s7 (sSeq b__law_pieces_of_s8 (sSeq b__law_pieces_of_s9 (sSeq b__law_pieces_of_s10 sNil))))))))))
def m__law_pieces_of : MF := runF 14 b__law_pieces_of
def b__law_turned : MS := (sSeq (sIf (toB (eOp2 eqO (fz (eIxV 0 ixO (fz (eC (D.int 0))))) (fz (eC (D.str [43]))))) (sSeq (sRet (eOp2 addO (fz (eC (D.str [45]))) (fz (eSlV 0 (pSome (fz (eC (D.int 1)))) pNone)))) sNil) sNil) (sSeq (sRet (eIf (toB (eOp2 eqO (fz (eIxV 0 ixO (fz (eC (D.int 0))))) (fz (eC (D.str [45]))))) (eOp2 addO (fz (eC (D.str [43]))) (fz (eSlV 0 (pSome (fz (eC (D.int 1)))) pNone))) (eVar 0))) sNil))
def m__law_turned : MF := runF 1 b__law_turned
def b__law_lags_c1 : MV := (fz (eAnd (fz (eIsi "str" (fz (eVar 8)))) (eOp2 eqO (fz (eVar 8)) (fz (eVar 6)))))
def b__law_lags_f1 : MS := (sSeq (sSet 1 (eOp2 addO (fz (eVar 1)) (fz (eVar 4)))) (sSeq (sSet 2 (eOp2 addO (fz (eVar 2)) (fz (eVar 5)))) (sSeq (sSet 6 (eCall m__law_lag_of (aCons (fz (eVar 1)) (aCons (fz (eVar 2)) aNil)))) (sSeq (sSet 7 (eLst (aCons (fz (eCall m_lag_on (aCons (fz (eVar 3)) (aCons (fz (eVar 4)) (aCons (fz (eVar 5)) aNil))))) (aCons (fz (eCall m_lag_on (aCons (fz (eCall m_lag_on (aCons (fz (eVar 3)) (aCons (fz (eVar 4)) (aCons (fz (eC (D.str []))) aNil))))) (aCons (fz (eC (D.str []))) (aCons (fz (eVar 5)) aNil))))) (aCons (fz (eCall m_lag_on (aCons (fz (eCall m_lag_on (aCons (fz (eVar 3)) (aCons (fz (eC (D.str []))) (aCons (fz (eVar 5)) aNil))))) (aCons (fz (eVar 4)) (aCons (fz (eC (D.str []))) aNil))))) aNil))))) (sSeq (sSet 7 (eOp2 addO (fz (eVar 7)) (fz (eLst (aCons (fz (eCall m_lag_of (aCons (fz (eVar 1)) (aCons (fz (eVar 2)) aNil)))) (aCons (fz (eCall m_lag_on (aCons (fz (eC (D.str [61]))) (aCons (fz (eVar 1)) (aCons (fz (eVar 2)) aNil))))) aNil)))))) (sSeq (sIf (bNot (bTru (fz (eCallB allO (aCons (fz (eComp [6] (tN 8) (iOf (fz (eVar 7))) bYes b__law_lags_c1)) aNil))))) (sSeq (sRet (eC (D.bl false))) sNil) sNil) (sSeq (sIf (bOr (toB (eOp2 neO (fz (eCall m_lag_of (aCons (fz (eVar 2)) (aCons (fz (eVar 1)) aNil)))) (fz (eCall m__law_turned (aCons (fz (eVar 6)) aNil))))) (toB (eOp2 neO (fz (eCall m_lag_on (aCons (fz (eVar 6)) (aCons (fz (eC (D.str []))) (aCons (fz (eC (D.str []))) aNil))))) (fz (eVar 6))))) (sSeq (sRet (eC (D.bl false))) sNil) sNil) (sSeq (sSet 3 (eIxV 7 ixO (fz (eC (D.int 0))))) sNil))))))))
def b__law_lags : MS := (sSeq (sSet 1 (eC (D.str []))) (sSeq (sSet 2 (eC (D.str []))) (sSeq (sSet 3 (eC (D.str [61]))) (sSeq (sFor (tL (tsCons (tN 4) (tsCons (tN 5) tsNil)) 2) (iOf (fz (eVar 0))) b__law_lags_f1) (sSeq (sRet (eC (D.bl true))) sNil)))))
def m__law_lags : MF := runF 9 b__law_lags
def b__law_papers_in_order_c1 : MV := (fz (eCall m__law_same_tuple (aCons (fz (eCall m_paper_key (aCons (fz (eVar 7)) aNil))) (aCons (fz (eTup (aCons (fz (eLenV 7 lenO)) (aCons (fz (eVar 7)) aNil)))) aNil))))
def b__law_papers_in_order_s8 : MS := (sRet (eCallB allO (aCons (fz (eComp [] (tN 7) (iOf (fz (eVar 2))) bYes b__law_papers_in_order_c1)) aNil)))
def b__law_papers_in_order_s7 : MS := (sIf (bOr (toB (eOp2 neO (fz (eVar 2)) (fz (eVar 5)))) (bOr (toB (eOp2 neO (fz (eCall m_in_order (aCons (fz (eVar 6)) aNil))) (fz (eVar 6)))) (bNot (bTru (fz (eCall m__law_same_tuple (aCons (fz (eCall m_in_order (aCons (fz (eLst aNil)) aNil))) (aCons (fz (eTup aNil)) aNil)))))))) (sSeq (sRet (eC (D.bl false))) sNil) sNil)
def b__law_papers_in_order_s6 : MS := (sIf (bOr (bNot (bTru (fz (eCall m__law_same_tuple (aCons (fz (eCall m_in_order (aCons (fz (eVar 2)) aNil))) (aCons (fz (eVar 6)) aNil)))))) (bNot (bTru (fz (eCall m__law_same_tuple (aCons (fz (eCall m_in_order (aCons (fz (eCallB tupleO (aCons (fz (eVar 2)) aNil))) aNil))) (aCons (fz (eVar 6)) aNil))))))) (sSeq (sRet (eC (D.bl false))) sNil) sNil)
def b__law_papers_in_order_s5 : MS := (sSet 6 (eCallB tupleO (aCons (fz (eCall m__law_ordered (aCons (fz (eVar 2)) aNil))) aNil)))
def b__law_papers_in_order_s4 : MS := (sSet 5 (eCallB listO (aCons (fz (eVar 2)) aNil)))
def b__law_papers_in_order_f1 : MS := (sSeq (sSet 3 (eCall m__law_bag_of (aCons (fz (eVar 0)) (aCons (fz (eOp2 addO (fz (eC (D.int 4))) (fz (eVar 4)))) aNil)))) (sSeq (sExpr (eMut 2 appOp (aCons (fz (eCall m__law_paper_of (aCons (fz (eVar 3)) (aCons (fz (eVar 1)) (aCons (fz (eOp2 ixO (fz (eLst (aCons (fz (eC (D.int 2))) (aCons (fz (eC (D.int 3))) (aCons (fz (eC (D.int 9))) aNil))))) (fz (eCall m__law_pick (aCons (fz (eVar 3)) (aCons (fz (eC (D.int 3))) aNil)))))) aNil))))) aNil))) (sSeq (sIf (bAnd (bTruV 2) (toB (eOp2 eqO (fz (eCall m__law_pick (aCons (fz (eVar 3)) (aCons (fz (eC (D.int 4))) aNil)))) (fz (eC (D.int 0)))))) (sSeq (sExpr (eMut 2 appOp (aCons (fz (eLend (eCall m__law_one_of (aCons (fz (eVar 3)) (aCons (fz (eVar 2)) aNil))))) aNil))) sNil) sNil) sNil)))
def b__law_papers_in_order_s3 : MS := (sFor (tN 4) (iRange1 (fz (eOp2 addO (fz (eCall m__law_pick (aCons (fz (eVar 3)) (aCons (fz (eC (D.int 9))) aNil)))) (fz (eCallB min2O (aCons (fz (eLenV 0 lenO)) (aCons (fz (eC (D.int 32))) aNil))))))) b__law_papers_in_order_f1)
def b__law_papers_in_order_s2 : MS := (sSet 3 (eCall m__law_bag_of (aCons (fz (eVar 0)) (aCons (fz (eC (D.int 3))) aNil))))
def b__law_papers_in_order_s1 : MS := (sSet 2 (eLst aNil))
def b__law_papers_in_order : MS := (sSeq b__law_papers_in_order_s1 (sSeq b__law_papers_in_order_s2 (sSeq b__law_papers_in_order_s3 (sSeq b__law_papers_in_order_s4 (sSeq b__law_papers_in_order_s5 (sSeq b__law_papers_in_order_s6 (sSeq b__law_papers_in_order_s7 (sSeq b__law_papers_in_order_s8 sNil))))))))
def m__law_papers_in_order : MF := runF 8 b__law_papers_in_order
def b__law_refused : MS := (sSeq (sSet 2 (eCallB reprXO (aCons (fz (eVar 0)) aNil))) (sSeq (sTry ["BadSigns"] [] (sSeq (sExpr (eCall m_sign_value (aCons (fz (eVar 0)) (aCons (fz (eVar 1)) aNil)))) sNil) 3 (sSeq (sRet (eAnd (fz (eOp2 eqO (fz (eCallX m__law_classes 3)) (fz (eLst (aCons (fz (eC (D.str [67, 97, 114, 114, 121, 69, 114, 114, 111, 114]))) (aCons (fz (eC (D.str [77, 97, 108, 102, 111, 114, 109, 101, 100]))) (aCons (fz (eC (D.str [66, 97, 100, 83, 105, 103, 110, 115]))) aNil))))))) (eOp2 eqO (fz (eCallB reprXO (aCons (fz (eXf 3 ["BadSigns"] "signs")) aNil))) (fz (eVar 2))))) sNil)) (sSeq (sRet (eC (D.bl false))) sNil)))
def m__law_refused : MF := runF 4 b__law_refused
def b__law_values_c1 : MV := (fz (eCall m__law_refused (aCons (fz (eVar 8)) (aCons (fz (eIxV 1 ixO (fz (eVar 6)))) aNil))))
def b__law_values_s6 : MS := (sRet (eCallB allO (aCons (fz (eComp [1, 6] (tN 8) (iOf (fz (eVar 7))) bYes b__law_values_c1)) aNil)))
def b__law_values_s5 : MS := (sSet 7 (eOp2 addO (fz (eVar 7)) (fz (eLst (aCons (fz (eOp2 addO (fz (eSlV 1 pNone (pSome (fz (eC (D.int 9)))))) (fz (eC (D.str [97]))))) (aCons (fz (eOp2 addO (fz (eC (D.str [32]))) (fz (eSlV 1 pNone (pSome (fz (eC (D.int 9)))))))) (aCons (fz (eOp2 addO (fz (eSlV 1 pNone (pSome (fz (eC (D.int 9)))))) (fz (eC (D.str [95]))))) (aCons (fz (eC D.non)) (aCons (fz (eC (D.int 7))) (aCons (fz (eC (D.bl true))) (aCons (fz (eCallB listO (aCons (fz (eVar 1)) aNil))) (aCons (fz (eTup (aCons (fz (eVar 1)) aNil))) aNil))))))))))))
def b__law_values_s4 : MS := (sSet 7 (eLst (aCons (fz (eRev (fz (eVar 1)))) (aCons (fz (eOp2 addO (fz (eVar 1)) (fz (eIxV 1 ixO (fz (eOp2 subO (fz (eLenV 1 lenO)) (fz (eC (D.int 1))))))))) (aCons (fz (eOp2 addO (fz (eOp2 addO (fz (eSlV 1 pNone (pSome (fz (eVar 6))))) (fz (eIxV 1 ixO (fz (eVar 6)))))) (fz (eSlV 1 (pSome (fz (eVar 6))) pNone)))) (aCons (fz (eIxV 1 ixO (fz (eVar 6)))) (aCons (fz (eC (D.str []))) (aCons (fz (eSlV 2 pNone (pSome (fz (eC (D.int 13)))))) (aCons (fz (eVar 2)) aNil)))))))))
def b__law_values_s3 : MS := (sSet 6 (eCall m__law_pick (aCons (fz (eVar 0)) (aCons (fz (eLenV 1 lenO)) aNil))))
def b__law_values_f1 : MS := (sSeq (sSet 5 (eCall m_sign_value (aCons (fz (eVar 3)) (aCons (fz (eIxV 3 ixO (fz (eVar 4)))) aNil)))) (sSeq (sIf (bOr (bNot (bTru (fz (eCall m__law_is_int (aCons (fz (eVar 5)) aNil))))) (toB (eOp2 neO (fz (eVar 5)) (fz (eVar 4))))) (sSeq (sRet (eC (D.bl false))) sNil) sNil) sNil))
def b__law_values_f2 : MS := (sSeq (sFor (tN 4) (iRange1 (fz (eLenV 3 lenO))) b__law_values_f1) sNil)
def b__law_values_s2 : MS := (sFor (tN 3) (iOf (fz (eTup (aCons (fz (eVar 1)) (aCons (fz (eSlV 2 pNone (pSome (fz (eC (D.int 12)))))) (aCons (fz (eSlV 2 (pSome (fz (eC (D.int 24)))) pNone)) (aCons (fz (eOp2 addO (fz (eSlV 1 pNone (pSome (fz (eC (D.int 1)))))) (fz (eC (D.str [90]))))) aNil))))))) b__law_values_f2)
def b__law_values_s1 : MS := (sSet 2 (eC (D.str [48, 49, 50, 51, 52, 53, 54, 55, 56, 57, 65, 66, 67, 68, 69, 70, 71, 72, 73, 74, 75, 76, 77, 78, 79, 80, 81, 82, 83, 84, 85, 86, 87, 88, 89, 90])))
def b__law_values : MS := (sSeq b__law_values_s1 (sSeq b__law_values_s2 (sSeq b__law_values_s3 (sSeq b__law_values_s4 (sSeq b__law_values_s5 (sSeq b__law_values_s6 sNil))))))
def m__law_values : MF := runF 9 b__law_values
def b_law_s4 : MS := (sRet (eAnd (fz (eCall m__law_lags (aCons (fz (eCall m__law_pieces_of (aCons (fz (eVar 0)) (aCons (fz (eVar 2)) aNil)))) aNil))) (eCall m__law_papers_in_order (aCons (fz (eVar 0)) (aCons (fz (eVar 2)) aNil)))))
def b_law_s3 : MS := (sIf (bNot (bTru (fz (eCall m__law_values (aCons (fz (eVar 1)) (aCons (fz (eVar 2)) aNil)))))) (sSeq (sRet (eC (D.bl false))) sNil) sNil)
def b_law_s2 : MS := (sSet 2 (eCall m__law_many_signs (aCons (fz (eVar 1)) aNil)))
def b_law_s1 : MS := (sSet 1 (eCall m__law_bag_of (aCons (fz (eVar 0)) (aCons (fz (eC (D.int 0))) aNil))))
def b_law : MS := (sSeq b_law_s1 (sSeq b_law_s2 (sSeq b_law_s3 (sSeq b_law_s4 sNil))))
def m_law : MF := runF 3 b_law
end Mi
end
section
set_option Elab.async false
set_option linter.all false
set_option maxRecDepth 100000
set_option maxHeartbeats 4000000
open PySem PySem.Spec PyProof.Rows L2
namespace Mi
def topS (i : Nat) : Stmt := PySem.Challenge.pw_handcarried_k01_papers_and_lags.main.body.getD i (.Pass ⟨0, 0, 0, 0⟩)
section
variable {P : Program} {w : World} {K : PySem.W.Frag} {mg : Str → Option Value} {base : Heap} {C_BadSigns I_BadSigns cc_BadSigns cd_BadSigns A_CarryError A_Malformed A_Refused A_BadSigns A_BadPaper A_BadName A_BadWalk A_BadRule A_BadForm A_BadSlip A_BadWay A_BadDeed A_BadLine A_TooMany A_Twice A_Unknown A_Unlike A_Unfit : Addr}
/-! ### made_of -/
abbrev s_made_of : Stmt := topS 21
theorem sc_made_of : FnScope ["thing", "signs", "low", "high", "sign"] ["thing", "signs", "low", "high"] (defScope s_made_of) := ⟨rfl, rfl, rfl, by decide +kernel, rfl, by decide +kernel, by decide +kernel⟩
theorem bn_made_of (kV doc pm : Value) (an : Option Addr) (cdv ct : Value) (us : List Value) (hl : us.length = (["thing", "signs", "low", "high"] : List Str).length) : bindArgs (PySem.W.fnOf "made_of" "made_of" (defArgs s_made_of) (defBody s_made_of) (defScope s_made_of) .none kV doc pm an cdv ct) ⟨us, []⟩ = pure ((["thing", "signs", "low", "high"] : List Str).zip us) :=
  match us, hl with | [_, _, _, _], _ => rfl
theorem ok_made_of {k : Nat} (df : Df K mg "made_of" s_made_of ["thing", "signs", "low", "high"]) (n_all : mg "all" = none) (n_len : mg "len" = none) (n_isinstance : mg "isinstance" = none) (n_str : mg "str" = none) : FnM P w K mg base (k + 1) "made_of" 4 m_made_of := by
  refine fnM_ok (mb := b_made_of) df sc_made_of ?_ rfl rfl
  unfold b_made_of
  refine sss_cons (h1 := ?g1) (h2 := ?g2)
  case g1 =>
    refine ss_if (hc := ?g3) (ha := ?g4) (hb := sss_nil)
    case g3 =>
      refine sb_w (hw := ?g5)
      refine sw_or (ha := ?g6) (hb := ?g7)
      case g6 =>
        refine sb_not (ha := ?g8)
        refine sb_tru (ha := ?g9)
        refine SE.sv (s := ?g10)
        refine se_isi (hmi := n_isinstance) (hm := n_str) (ha := (SE.sv (s := se_var)))
      case g7 =>
        refine sw_one (ha := ?g11)
        refine sb_not (ha := ?g12)
        refine sb_chain (ho := ok_le) (ho' := ok_le) (ha := (SE.sv (s := se_var))) (hb := (SE.sv (s := (se_lenv (hc := ok_len) (hm := n_len))))) (hc := (SE.sv (s := se_var)))
    case g4 =>
      refine sss_cons (h1 := (ss_ret (he := se_bl))) (h2 := sss_nil)
  case g2 =>
    refine sss_cons (h1 := ?g13) (h2 := sss_nil)
    refine ss_ret (he := ?g14)
    refine se_callB (hc := ok_all) (hm := n_all) (ha := ?g15)
    refine sa_cons (ha := ?g16) (hr := sa_nil)
    refine SE.sv (s := ?g17)
    refine se_comp (own := [("sign", 4)]) (cap := [1]) (tvs := [4]) (hi := ?g18) (hg := sg_name) (hc := sbs_nil) (he := ?g19)
    case g18 =>
      refine si_val (he := (SE.sv (s := se_var)))
    case g19 =>
      refine SE.sv (s := ?g20)
      refine se_cmp (ho := ok_in) (ha := (SE.sv (s := se_var))) (hb := (SE.sv (s := se_var)))

/-! ### ascending -/
abbrev s_ascending : Stmt := topS 22
theorem sc_ascending : FnScope ["text", "k"] ["text"] (defScope s_ascending) := ⟨rfl, rfl, rfl, by decide +kernel, rfl, by decide +kernel, by decide +kernel⟩
theorem bn_ascending (kV doc pm : Value) (an : Option Addr) (cdv ct : Value) (us : List Value) (hl : us.length = (["text"] : List Str).length) : bindArgs (PySem.W.fnOf "ascending" "ascending" (defArgs s_ascending) (defBody s_ascending) (defScope s_ascending) .none kV doc pm an cdv ct) ⟨us, []⟩ = pure ((["text"] : List Str).zip us) :=
  match us, hl with | [_], _ => rfl
theorem ok_ascending {k : Nat} (df : Df K mg "ascending" s_ascending ["text"]) (n_all : mg "all" = none) (n_range : mg "range" = none) (n_len : mg "len" = none) : FnM P w K mg base (k + 1) "ascending" 1 m_ascending := by
  refine fnM_ok (mb := b_ascending) df sc_ascending ?_ rfl rfl
  unfold b_ascending
  refine sss_cons (h1 := ?g1) (h2 := sss_nil)
  refine ss_ret (he := ?g2)
  refine se_callB (hc := ok_all) (hm := n_all) (ha := ?g3)
  refine sa_cons (ha := ?g4) (hr := sa_nil)
  refine SE.sv (s := ?g5)
  refine se_comp (own := [("k", 1)]) (cap := [0]) (tvs := [1]) (hi := ?g6) (hg := sg_name) (hc := sbs_nil) (he := ?g7)
  case g6 =>
    refine si_range1 (hm := n_range) (ha := ?g8)
    refine SE.sv (s := ?g9)
    refine se_bin (ho := ok_sub) (ha := (SE.sv (s := (se_lenv (hc := ok_len) (hm := n_len))))) (hb := (SE.sv (s := se_int)))
  case g7 =>
    refine SE.sv (s := ?g10)
    refine se_cmp (ho := ok_lt) (ha := ?g11) (hb := ?g12)
    case g11 =>
      refine SE.sv (s := ?g13)
      refine se_ixv (hi := ok_ix) (hb := (SE.sv (s := se_var)))
    case g12 =>
      refine SE.sv (s := ?g14)
      refine se_ixv (hi := ok_ix) (hb := ?g15)
      refine SE.sv (s := ?g16)
      refine se_bin (ho := ok_add) (ha := (SE.sv (s := se_var))) (hb := (SE.sv (s := se_int)))

/-! ### is_signs -/
abbrev s_is_signs : Stmt := topS 23
theorem sc_is_signs : FnScope ["thing"] ["thing"] (defScope s_is_signs) := ⟨rfl, rfl, rfl, by decide +kernel, rfl, by decide +kernel, by decide +kernel⟩
theorem bn_is_signs (kV doc pm : Value) (an : Option Addr) (cdv ct : Value) (us : List Value) (hl : us.length = (["thing"] : List Str).length) : bindArgs (PySem.W.fnOf "is_signs" "is_signs" (defArgs s_is_signs) (defBody s_is_signs) (defScope s_is_signs) .none kV doc pm an cdv ct) ⟨us, []⟩ = pure ((["thing"] : List Str).zip us) :=
  match us, hl with | [_], _ => rfl
theorem ok_is_signs {k : Nat} (df : Df K mg "is_signs" s_is_signs ["thing"]) (f_ascending : FnM P w K mg base k "ascending" 1 m_ascending) (f_made_of : FnM P w K mg base k "made_of" 4 m_made_of) (c_SIGNS_ok : Cst K w mg "SIGNS" c_SIGNS) : FnM P w K mg base (k + 1) "is_signs" 1 m_is_signs := by
  refine fnM_ok (mb := b_is_signs) df sc_is_signs ?_ rfl rfl
  unfold b_is_signs
  refine sss_cons (h1 := ?g1) (h2 := sss_nil)
  refine ss_ret (he := ?g2)
  refine se_and (ha := ?g3) (hb := ?g4)
  case g3 =>
    refine SE.sv (s := ?g5)
    refine se_call (hf := f_made_of) (ha := ?g6)
    refine sa_cons (ha := (SE.sv (s := se_var))) (hr := ?g7)
    refine sa_cons (ha := (SE.sv (s := (se_cst c_SIGNS_ok)))) (hr := ?g8)
    refine sa_cons (ha := (SE.sv (s := se_int))) (hr := ?g9)
    refine sa_cons (ha := (SE.sv (s := se_int))) (hr := sa_nil)
  case g4 =>
    refine se_one (ha := ?g10)
    refine se_call (hf := f_ascending) (ha := ?g11)
    refine sa_cons (ha := (SE.sv (s := se_var))) (hr := sa_nil)

/-! ### check_signs_of -/
abbrev s_check_signs_of : Stmt := topS 24
theorem sc_check_signs_of : FnScope ["signs"] ["signs"] (defScope s_check_signs_of) := ⟨rfl, rfl, rfl, by decide +kernel, rfl, by decide +kernel, by decide +kernel⟩
theorem bn_check_signs_of (kV doc pm : Value) (an : Option Addr) (cdv ct : Value) (us : List Value) (hl : us.length = (["signs"] : List Str).length) : bindArgs (PySem.W.fnOf "check_signs_of" "check_signs_of" (defArgs s_check_signs_of) (defBody s_check_signs_of) (defScope s_check_signs_of) .none kV doc pm an cdv ct) ⟨us, []⟩ = pure ((["signs"] : List Str).zip us) :=
  match us, hl with | [_], _ => rfl
theorem ok_check_signs_of {k : Nat} (df : Df K mg "check_signs_of" s_check_signs_of ["signs"]) (f_is_signs : FnM P w K mg base k "is_signs" 1 m_is_signs) (x_BadSigns : XT P K mg "BadSigns" "signs" C_BadSigns I_BadSigns cc_BadSigns cd_BadSigns) : FnM P w K mg base (k + 1) "check_signs_of" 1 m_check_signs_of := by
  refine fnM_ok (mb := b_check_signs_of) df sc_check_signs_of ?_ rfl rfl
  unfold b_check_signs_of
  refine sss_cons (h1 := ?g1) (h2 := sss_nil)
  refine ss_if (hc := ?g2) (ha := ?g3) (hb := sss_nil)
  case g2 =>
    refine sb_not (ha := ?g4)
    refine sb_tru (ha := ?g5)
    refine SE.sv (s := ?g6)
    refine se_call (hf := f_is_signs) (ha := ?g7)
    refine sa_cons (ha := (SE.sv (s := se_var))) (hr := sa_nil)
  case g3 =>
    refine sss_cons (h1 := ?g8) (h2 := sss_nil)
    refine ss_raise (T := x_BadSigns) (ha := ?g9)
    refine sa_cons (ha := (SE.sv (s := se_var))) (hr := sa_nil)

/-! ### sign_value -/
abbrev s_sign_value : Stmt := topS 25
theorem sc_sign_value : FnScope ["signs", "sign"] ["signs", "sign"] (defScope s_sign_value) := ⟨rfl, rfl, rfl, by decide +kernel, rfl, by decide +kernel, by decide +kernel⟩
theorem bn_sign_value (kV doc pm : Value) (an : Option Addr) (cdv ct : Value) (us : List Value) (hl : us.length = (["signs", "sign"] : List Str).length) : bindArgs (PySem.W.fnOf "sign_value" "sign_value" (defArgs s_sign_value) (defBody s_sign_value) (defScope s_sign_value) .none kV doc pm an cdv ct) ⟨us, []⟩ = pure ((["signs", "sign"] : List Str).zip us) :=
  match us, hl with | [_, _], _ => rfl
theorem ok_sign_value {k : Nat} (df : Df K mg "sign_value" s_sign_value ["signs", "sign"]) (f_check_signs_of : FnM P w K mg base k "check_signs_of" 1 m_check_signs_of) : FnM P w K mg base (k + 1) "sign_value" 2 m_sign_value := by
  refine fnM_ok (mb := b_sign_value) df sc_sign_value ?_ rfl rfl
  unfold b_sign_value
  refine sss_cons (h1 := ?g1) (h2 := ?g2)
  case g1 =>
    refine ss_expr (he := ?g3)
    refine se_call (hf := f_check_signs_of) (ha := ?g4)
    refine sa_cons (ha := (SE.sv (s := se_var))) (hr := sa_nil)
  case g2 =>
    refine sss_cons (h1 := ?g5) (h2 := sss_nil)
    refine ss_ret (he := ?g6)
    refine se_mtS (slot := PySem.F.slot_str_index) (hty := PySem.F.type_str_index) (hm := ok_index) (ho := (SE.sv (s := se_var))) (ha := ?g7)
    refine sa_cons (ha := (SE.sv (s := se_var))) (hr := sa_nil)

/-! ### paper_key -/
abbrev s_paper_key : Stmt := topS 26
theorem sc_paper_key : FnScope ["paper"] ["paper"] (defScope s_paper_key) := ⟨rfl, rfl, rfl, by decide +kernel, rfl, by decide +kernel, by decide +kernel⟩
theorem bn_paper_key (kV doc pm : Value) (an : Option Addr) (cdv ct : Value) (us : List Value) (hl : us.length = (["paper"] : List Str).length) : bindArgs (PySem.W.fnOf "paper_key" "paper_key" (defArgs s_paper_key) (defBody s_paper_key) (defScope s_paper_key) .none kV doc pm an cdv ct) ⟨us, []⟩ = pure ((["paper"] : List Str).zip us) :=
  match us, hl with | [_], _ => rfl
theorem ok_paper_key {k : Nat} (df : Df K mg "paper_key" s_paper_key ["paper"]) (n_len : mg "len" = none) : FnM P w K mg base (k + 1) "paper_key" 1 m_paper_key := by
  refine fnM_ok (mb := b_paper_key) df sc_paper_key ?_ rfl rfl
  unfold b_paper_key
  refine sss_cons (h1 := ?g1) (h2 := sss_nil)
  refine ss_ret (he := ?g2)
  refine se_tup (ha := ?g3)
  refine sa_cons (ha := (SE.sv (s := (se_lenv (hc := ok_len) (hm := n_len))))) (hr := ?g4)
  refine sa_cons (ha := (SE.sv (s := se_var))) (hr := sa_nil)

/-! ### in_order -/
abbrev s_in_order : Stmt := topS 27
theorem sc_in_order : FnScope ["papers", "key", "paper"] ["papers"] (defScope s_in_order) := ⟨rfl, rfl, rfl, by decide +kernel, rfl, by decide +kernel, by decide +kernel⟩
theorem bn_in_order (kV doc pm : Value) (an : Option Addr) (cdv ct : Value) (us : List Value) (hl : us.length = (["papers"] : List Str).length) : bindArgs (PySem.W.fnOf "in_order" "in_order" (defArgs s_in_order) (defBody s_in_order) (defScope s_in_order) .none kV doc pm an cdv ct) ⟨us, []⟩ = pure ((["papers"] : List Str).zip us) :=
  match us, hl with | [_], _ => rfl
theorem ok_in_order {k : Nat} (df : Df K mg "in_order" s_in_order ["papers"]) (f_paper_key : FnM P w K mg base k "paper_key" 1 m_paper_key) (n_tuple : mg "tuple" = none) (n_sorted : mg "sorted" = none) : FnM P w K mg base (k + 1) "in_order" 1 m_in_order := by
  refine fnM_ok (mb := b_in_order) df sc_in_order ?_ rfl rfl
  unfold b_in_order
  refine sss_cons (h1 := ?g1) (h2 := sss_nil)
  refine ss_ret (he := ?g2)
  refine se_callTy (hc := ok_tuple) (hm := n_tuple) (ha := ?g3)
  refine sa_cons (ha := ?g4) (hr := sa_nil)
  refine SE.sv (s := ?g5)
  refine se_comp (own := [("key", 1)]) (cap := []) (tvs := [1]) (hi := ?g6) (hg := sg_name) (hc := sbs_nil) (he := ?g7)
  case g6 =>
    refine si_val (he := ?g8)
    refine SE.sv (s := ?g9)
    refine se_callB (hc := ok_sortD) (hm := n_sorted) (ha := ?g10)
    refine sa_cons (ha := ?g11) (hr := sa_nil)
    refine SE.sv (s := ?g12)
    refine se_comp (own := [("paper", 2)]) (cap := []) (tvs := [2]) (hi := ?g13) (hg := sg_name) (hc := sbs_nil) (he := ?g14)
    case g13 =>
      refine si_val (he := (SE.sv (s := se_var)))
    case g14 =>
      unfold b_in_order_c1
      refine SE.sv (s := ?g15)
      refine se_call (hf := f_paper_key) (ha := ?g16)
      refine sa_cons (ha := (SE.sv (s := se_var))) (hr := sa_nil)
  case g7 =>
    unfold b_in_order_c2
    refine SE.sv (s := ?g17)
    refine se_ixv (hi := ok_ix) (hb := (SE.sv (s := se_int)))

/-! ### lag_of -/
abbrev s_lag_of : Stmt := topS 28
theorem sc_lag_of : FnScope ["first", "second", "same"] ["first", "second"] (defScope s_lag_of) := ⟨rfl, rfl, rfl, by decide +kernel, rfl, by decide +kernel, by decide +kernel⟩
theorem bn_lag_of (kV doc pm : Value) (an : Option Addr) (cdv ct : Value) (us : List Value) (hl : us.length = (["first", "second"] : List Str).length) : bindArgs (PySem.W.fnOf "lag_of" "lag_of" (defArgs s_lag_of) (defBody s_lag_of) (defScope s_lag_of) .none kV doc pm an cdv ct) ⟨us, []⟩ = pure ((["first", "second"] : List Str).zip us) :=
  match us, hl with | [_, _], _ => rfl
theorem ok_lag_of {k : Nat} (df : Df K mg "lag_of" s_lag_of ["first", "second"]) (n_len : mg "len" = none) : FnM P w K mg base (k + 1) "lag_of" 2 m_lag_of := by
  refine fnM_ok (mb := b_lag_of) df sc_lag_of ?_ rfl rfl
  unfold b_lag_of
  refine sss_cons (h1 := (ss_set (he := se_int))) (h2 := ?g1)
  refine sss_cons (h1 := ?g2) (h2 := ?g3)
  case g2 =>
    refine ss_while (n := wF) (hc := ?g4) (hb := ?g5)
    case g4 =>
      unfold b_lag_of_q1
      refine sb_w (hw := ?g6)
      refine sw_and (ha := ?g7) (hb := ?g8)
      case g7 =>
        refine sb_cmp (ho := ok_lt) (ha := (SE.sv (s := se_var))) (hb := (SE.sv (s := (se_lenv (hc := ok_len) (hm := n_len)))))
      case g8 =>
        refine sw_and (ha := ?g9) (hb := ?g10)
        case g9 =>
          refine sb_cmp (ho := ok_lt) (ha := (SE.sv (s := se_var))) (hb := (SE.sv (s := (se_lenv (hc := ok_len) (hm := n_len)))))
        case g10 =>
          refine sw_one (ha := ?g11)
          refine sb_cmp (ho := ok_eq) (ha := ?g12) (hb := ?g13)
          case g12 =>
            refine SE.sv (s := ?g14)
            refine se_ixv (hi := ok_ix) (hb := (SE.sv (s := se_var)))
          case g13 =>
            refine SE.sv (s := ?g15)
            refine se_ixv (hi := ok_ix) (hb := (SE.sv (s := se_var)))
    case g5 =>
      unfold b_lag_of_w1
      refine sss_cons (h1 := ?g16) (h2 := sss_nil)
      refine ss_aug (ho := ok_iadd) (he := (SE.sv (s := se_int)))
  case g3 =>
    refine sss_cons (h1 := ?g17) (h2 := ?g18)
    case g17 =>
      refine ss_if (hc := ?g19) (ha := ?g20) (hb := sss_nil)
      case g19 =>
        refine sb_w (hw := ?g21)
        refine sw_and (ha := ?g22) (hb := ?g23)
        case g22 =>
          refine sb_cmp (ho := ok_lt) (ha := (SE.sv (s := se_var))) (hb := (SE.sv (s := (se_lenv (hc := ok_len) (hm := n_len)))))
        case g23 =>
          refine sw_one (ha := ?g24)
          refine sb_cmp (ho := ok_lt) (ha := (SE.sv (s := se_var))) (hb := (SE.sv (s := (se_lenv (hc := ok_len) (hm := n_len)))))
      case g20 =>
        refine sss_cons (h1 := (ss_ret (he := se_str))) (h2 := sss_nil)
    case g18 =>
      refine sss_cons (h1 := ?g25) (h2 := ?g26)
      case g25 =>
        refine ss_if (hc := ?g27) (ha := ?g28) (hb := sss_nil)
        case g27 =>
          refine sb_cmp (ho := ok_lt) (ha := (SE.sv (s := se_var))) (hb := (SE.sv (s := (se_lenv (hc := ok_len) (hm := n_len)))))
        case g28 =>
          refine sss_cons (h1 := ?g29) (h2 := sss_nil)
          refine ss_ret (he := ?g30)
          refine se_bin (ho := ok_add) (ha := (SE.sv (s := se_str))) (hb := ?g31)
          refine SE.sv (s := ?g32)
          refine se_slv (hl := ?g33) (hh := so_none)
          refine so_some (he := (SE.sv (s := se_var)))
      case g26 =>
        refine sss_cons (h1 := ?g34) (h2 := ?g35)
        case g34 =>
          refine ss_if (hc := ?g36) (ha := ?g37) (hb := sss_nil)
          case g36 =>
            refine sb_cmp (ho := ok_lt) (ha := (SE.sv (s := se_var))) (hb := (SE.sv (s := (se_lenv (hc := ok_len) (hm := n_len)))))
          case g37 =>
            refine sss_cons (h1 := ?g38) (h2 := sss_nil)
            refine ss_ret (he := ?g39)
            refine se_bin (ho := ok_add) (ha := (SE.sv (s := se_str))) (hb := ?g40)
            refine SE.sv (s := ?g41)
            refine se_slv (hl := ?g42) (hh := so_none)
            refine so_some (he := (SE.sv (s := se_var)))
        case g35 =>
          refine sss_cons (h1 := (ss_ret (he := se_str))) (h2 := sss_nil)

/-! ### lag_on -/
abbrev s_lag_on : Stmt := topS 29
theorem sc_lag_on : FnScope ["lag", "first", "second"] ["lag", "first", "second"] (defScope s_lag_on) := ⟨rfl, rfl, rfl, by decide +kernel, rfl, by decide +kernel, by decide +kernel⟩
theorem bn_lag_on (kV doc pm : Value) (an : Option Addr) (cdv ct : Value) (us : List Value) (hl : us.length = (["lag", "first", "second"] : List Str).length) : bindArgs (PySem.W.fnOf "lag_on" "lag_on" (defArgs s_lag_on) (defBody s_lag_on) (defScope s_lag_on) .none kV doc pm an cdv ct) ⟨us, []⟩ = pure ((["lag", "first", "second"] : List Str).zip us) :=
  match us, hl with | [_, _, _], _ => rfl
theorem ok_lag_on {k : Nat} (df : Df K mg "lag_on" s_lag_on ["lag", "first", "second"]) (f_lag_of : FnM P w K mg base k "lag_of" 2 m_lag_of) : FnM P w K mg base (k + 1) "lag_on" 3 m_lag_on := by
  refine fnM_ok (mb := b_lag_on) df sc_lag_on ?_ rfl rfl
  unfold b_lag_on
  refine sss_cons (h1 := ?g1) (h2 := ?g2)
  case g1 =>
    refine ss_if (hc := ?g3) (ha := ?g4) (hb := sss_nil)
    case g3 =>
      refine sb_cmp (ho := ok_eq) (ha := (SE.sv (s := se_var))) (hb := (SE.sv (s := se_str)))
    case g4 =>
      refine sss_cons (h1 := (ss_ret (he := se_str))) (h2 := sss_nil)
  case g2 =>
    refine sss_cons (h1 := ?g5) (h2 := ?g6)
    case g5 =>
      refine ss_if (hc := ?g7) (ha := ?g8) (hb := sss_nil)
      case g7 =>
        refine sb_cmp (ho := ok_eq) (ha := ?g9) (hb := (SE.sv (s := se_str)))
        refine SE.sv (s := ?g10)
        refine se_ixv (hi := ok_ix) (hb := (SE.sv (s := se_int)))
      case g8 =>
        refine sss_cons (h1 := ?g11) (h2 := sss_nil)
        refine ss_ret (he := ?g12)
        refine se_call (hf := f_lag_of) (ha := ?g13)
        refine sa_cons (ha := ?g14) (hr := ?g15)
        case g14 =>
          refine SE.sv (s := ?g16)
          refine se_bin (ho := ok_add) (ha := ?g17) (hb := (SE.sv (s := se_var)))
          refine SE.sv (s := ?g18)
          refine se_slv (hl := ?g19) (hh := so_none)
          refine so_some (he := (SE.sv (s := se_int)))
        case g15 =>
          refine sa_cons (ha := (SE.sv (s := se_var))) (hr := sa_nil)
    case g6 =>
      refine sss_cons (h1 := ?g20) (h2 := ?g21)
      case g20 =>
        refine ss_if (hc := ?g22) (ha := ?g23) (hb := sss_nil)
        case g22 =>
          refine sb_cmp (ho := ok_eq) (ha := ?g24) (hb := (SE.sv (s := se_str)))
          refine SE.sv (s := ?g25)
          refine se_ixv (hi := ok_ix) (hb := (SE.sv (s := se_int)))
        case g23 =>
          refine sss_cons (h1 := ?g26) (h2 := sss_nil)
          refine ss_ret (he := ?g27)
          refine se_call (hf := f_lag_of) (ha := ?g28)
          refine sa_cons (ha := (SE.sv (s := se_var))) (hr := ?g29)
          refine sa_cons (ha := ?g30) (hr := sa_nil)
          refine SE.sv (s := ?g31)
          refine se_bin (ho := ok_add) (ha := ?g32) (hb := (SE.sv (s := se_var)))
          refine SE.sv (s := ?g33)
          refine se_slv (hl := ?g34) (hh := so_none)
          refine so_some (he := (SE.sv (s := se_int)))
      case g21 =>
        refine sss_cons (h1 := ?g35) (h2 := sss_nil)
        refine ss_ret (he := ?g36)
        refine se_call (hf := f_lag_of) (ha := ?g37)
        refine sa_cons (ha := (SE.sv (s := se_var))) (hr := ?g38)
        refine sa_cons (ha := (SE.sv (s := se_var))) (hr := sa_nil)

/-! ### _law_bag_of -/
abbrev s__law_bag_of : Stmt := topS 31
theorem sc__law_bag_of : FnScope ["_law_script", "_law_at", "_law_cell", "_law_size", "_law_digits", "_law_one"] ["_law_script", "_law_at"] (defScope s__law_bag_of) := ⟨rfl, rfl, rfl, by decide +kernel, rfl, by decide +kernel, by decide +kernel⟩
theorem bn__law_bag_of (kV doc pm : Value) (an : Option Addr) (cdv ct : Value) (us : List Value) (hl : us.length = (["_law_script", "_law_at"] : List Str).length) : bindArgs (PySem.W.fnOf "_law_bag_of" "_law_bag_of" (defArgs s__law_bag_of) (defBody s__law_bag_of) (defScope s__law_bag_of) .none kV doc pm an cdv ct) ⟨us, []⟩ = pure ((["_law_script", "_law_at"] : List Str).zip us) :=
  match us, hl with | [_, _], _ => rfl
theorem ok__law_bag_of {k : Nat} (df : Df K mg "_law_bag_of" s__law_bag_of ["_law_script", "_law_at"]) (n_int : mg "int" = none) (n_abs : mg "abs" = none) (n_len : mg "len" = none) (n_sum : mg "sum" = none) : FnM P w K mg base (k + 1) "_law_bag_of" 2 m__law_bag_of := by
  refine fnM_ok (mb := b__law_bag_of) df sc__law_bag_of ?_ rfl rfl
  unfold b__law_bag_of
  refine sss_cons (h1 := ?g1) (h2 := ?g2)
  case g1 =>
    refine ss_set (he := ?g3)
    refine se_if (hc := ?g4) (ha := ?g5) (hb := ?g6)
    case g4 =>
      refine sb_cmp (ho := ok_lt) (ha := (SE.sv (s := se_var))) (hb := (SE.sv (s := (se_lenv (hc := ok_len) (hm := n_len)))))
    case g5 =>
      refine se_ixv (hi := ok_ix) (hb := (SE.sv (s := se_var)))
    case g6 =>
      refine se_bin (ho := ok_add) (ha := ?g7) (hb := ?g8)
      case g7 =>
        refine SE.sv (s := ?g9)
        refine se_callB (hc := ok_sum) (hm := n_sum) (ha := ?g10)
        refine sa_cons (ha := ?g11) (hr := sa_nil)
        refine SE.sv (s := ?g12)
        refine se_comp (own := [("_law_one", 5)]) (cap := []) (tvs := [5]) (hi := ?g13) (hg := sg_name) (hc := sbs_nil) (he := ?g14)
        case g13 =>
          refine si_val (he := (SE.sv (s := se_var)))
        case g14 =>
          refine SE.sv (s := ?g15)
          refine se_bin (ho := ok_add) (ha := ?g16) (hb := (SE.sv (s := se_int)))
          refine SE.sv (s := ?g17)
          refine se_bin (ho := ok_fdiv) (ha := ?g18) (hb := (SE.sv (s := se_int)))
          refine SE.sv (s := ?g19)
          refine se_callB (hc := ok_abs) (hm := n_abs) (ha := ?g20)
          refine sa_cons (ha := (SE.sv (s := se_var))) (hr := sa_nil)
      case g8 =>
        refine SE.sv (s := ?g21)
        refine se_bin (ho := ok_mulI) (ha := (SE.sv (s := se_int))) (hb := ?g22)
        refine SE.sv (s := ?g23)
        refine se_bin (ho := ok_add) (ha := (SE.sv (s := se_var))) (hb := (SE.sv (s := se_int)))
  case g2 =>
    refine sss_cons (h1 := ?g24) (h2 := ?g25)
    case g24 =>
      refine ss_set (he := ?g26)
      refine se_callB (hc := ok_abs) (hm := n_abs) (ha := ?g27)
      refine sa_cons (ha := (SE.sv (s := se_var))) (hr := sa_nil)
    case g25 =>
      refine sss_cons (h1 := ?g28) (h2 := ?g29)
      case g28 =>
        refine ss_set (he := ?g30)
        refine se_if (hc := ?g31) (ha := se_var) (hb := se_int)
        refine sb_cmp (ho := ok_ge) (ha := (SE.sv (s := se_var))) (hb := (SE.sv (s := se_int)))
      case g29 =>
        refine sss_cons (h1 := ?g32) (h2 := sss_nil)
        refine ss_ret (he := ?g33)
        refine se_loc (ha := ?g34)
        refine sa_cons (ha := (SE.sv (s := se_var))) (hr := ?g35)
        refine sa_cons (ha := ?g36) (hr := ?g37)
        case g36 =>
          refine SE.sv (s := ?g38)
          refine se_bin (ho := ok_add) (ha := ?g39) (hb := ?g40)
          case g39 =>
            refine SE.sv (s := ?g41)
            refine se_bin (ho := ok_add) (ha := ?g42) (hb := ?g43)
            case g42 =>
              refine SE.sv (s := ?g44)
              refine se_bin (ho := ok_mod) (ha := ?g45) (hb := (SE.sv (s := se_int)))
              refine SE.sv (s := ?g46)
              refine se_callTy (hc := ok_int) (hm := n_int) (ha := ?g47)
              refine sa_cons (ha := (SE.sv (s := se_var))) (hr := sa_nil)
            case g43 =>
              refine SE.sv (s := ?g48)
              refine se_bin (ho := ok_mulI) (ha := (SE.sv (s := se_int))) (hb := (SE.sv (s := se_var)))
          case g40 =>
            refine SE.sv (s := ?g49)
            refine se_if (hc := ?g50) (ha := se_int) (hb := se_int)
            refine sb_cmp (ho := ok_lt) (ha := (SE.sv (s := se_var))) (hb := (SE.sv (s := se_int)))
        case g37 =>
          refine sa_cons (ha := (SE.sv (s := se_int))) (hr := sa_nil)

/-! ### _law_pick -/
abbrev s__law_pick : Stmt := topS 32
theorem sc__law_pick : FnScope ["_law_bag", "_law_many", "_law_digit", "_law_one", "_law_two"] ["_law_bag", "_law_many"] (defScope s__law_pick) := ⟨rfl, rfl, rfl, by decide +kernel, rfl, by decide +kernel, by decide +kernel⟩
theorem bn__law_pick (kV doc pm : Value) (an : Option Addr) (cdv ct : Value) (us : List Value) (hl : us.length = (["_law_bag", "_law_many"] : List Str).length) : bindArgs (PySem.W.fnOf "_law_pick" "_law_pick" (defArgs s__law_pick) (defBody s__law_pick) (defScope s__law_pick) .none kV doc pm an cdv ct) ⟨us, []⟩ = pure ((["_law_bag", "_law_many"] : List Str).zip us) :=
  match us, hl with | [_, _], _ => rfl
theorem ok__law_pick {k : Nat} (df : Df K mg "_law_pick" s__law_pick ["_law_bag", "_law_many"]) (n_int : mg "int" = none) : FnM P w K mg base (k + 1) "_law_pick" 2 m__law_pick := by
  refine fnM_ok (mb := b__law_pick) df sc__law_pick ?_ rfl rfl
  unfold b__law_pick
  refine sss_cons (h1 := ?g1) (h2 := ?g2)
  case g1 =>
    refine ss_if (hc := ?g3) (ha := ?g4) (hb := sss_nil)
    case g3 =>
      refine sb_cmp (ho := ok_lt) (ha := (SE.sv (s := se_var))) (hb := (SE.sv (s := se_int)))
    case g4 =>
      refine sss_cons (h1 := (ss_ret (he := se_int))) (h2 := sss_nil)
  case g2 =>
    refine sss_cons (h1 := ?g5) (h2 := ?g6)
    case g5 =>
      refine ss_if (hc := ?g7) (ha := ?g8) (hb := sss_nil)
      case g7 =>
        refine sb_cmp (ho := ok_gt) (ha := ?g9) (hb := (SE.sv (s := se_int)))
        refine SE.sv (s := ?g10)
        refine se_ixv (hi := ok_ix) (hb := (SE.sv (s := se_int)))
      case g8 =>
        refine sss_cons (h1 := ?g11) (h2 := ?g12)
        case g11 =>
          refine ss_set (he := ?g13)
          refine se_bin (ho := ok_mod) (ha := ?g14) (hb := (SE.sv (s := se_var)))
          refine SE.sv (s := ?g15)
          refine se_callTy (hc := ok_int) (hm := n_int) (ha := ?g16)
          refine sa_cons (ha := ?g17) (hr := sa_nil)
          refine SE.sv (s := ?g18)
          refine se_ixv (hi := ok_ix) (hb := (SE.sv (s := se_int)))
        case g12 =>
          refine sss_cons (h1 := ?g19) (h2 := ?g20)
          case g19 =>
            refine ss_stix (hk := (SE.sv (s := se_int))) (he := ?g21)
            refine SE.sv (s := ?g22)
            refine se_bin (ho := ok_fdiv) (ha := ?g23) (hb := (SE.sv (s := se_var)))
            refine SE.sv (s := ?g24)
            refine se_ixv (hi := ok_ix) (hb := (SE.sv (s := se_int)))
          case g20 =>
            refine sss_cons (h1 := (ss_ret (he := se_var))) (h2 := sss_nil)
    case g6 =>
      refine sss_cons (h1 := ?g25) (h2 := ?g26)
      case g25 =>
        refine ss_stix (hk := (SE.sv (s := se_int))) (he := ?g27)
        refine SE.sv (s := ?g28)
        refine se_bin (ho := ok_add) (ha := ?g29) (hb := (SE.sv (s := se_int)))
        refine SE.sv (s := ?g30)
        refine se_ixv (hi := ok_ix) (hb := (SE.sv (s := se_int)))
      case g26 =>
        refine sss_cons (h1 := ?g31) (h2 := ?g32)
        case g31 =>
          refine ss_set (he := ?g33)
          refine se_bin (ho := ok_mod) (ha := ?g34) (hb := (SE.sv (s := se_int)))
          refine SE.sv (s := ?g35)
          refine se_callTy (hc := ok_int) (hm := n_int) (ha := ?g36)
          refine sa_cons (ha := ?g37) (hr := sa_nil)
          refine SE.sv (s := ?g38)
          refine se_bin (ho := ok_add) (ha := ?g39) (hb := ?g40)
          case g39 =>
            refine SE.sv (s := ?g41)
            refine se_bin (ho := ok_mulI) (ha := ?g42) (hb := (SE.sv (s := se_int)))
            refine SE.sv (s := ?g43)
            refine se_ixv (hi := ok_ix) (hb := (SE.sv (s := se_int)))
          case g40 =>
            refine SE.sv (s := ?g44)
            refine se_bin (ho := ok_mulI) (ha := ?g45) (hb := (SE.sv (s := se_int)))
            refine SE.sv (s := ?g46)
            refine se_ixv (hi := ok_ix) (hb := (SE.sv (s := se_int)))
        case g32 =>
          refine sss_cons (h1 := ?g47) (h2 := ?g48)
          case g47 =>
            refine ss_set (he := ?g49)
            refine se_bin (ho := ok_mod) (ha := ?g50) (hb := (SE.sv (s := se_int)))
            refine SE.sv (s := ?g51)
            refine se_callTy (hc := ok_int) (hm := n_int) (ha := ?g52)
            refine sa_cons (ha := ?g53) (hr := sa_nil)
            refine SE.sv (s := ?g54)
            refine se_bin (ho := ok_add) (ha := ?g55) (hb := ?g56)
            case g55 =>
              refine SE.sv (s := ?g57)
              refine se_bin (ho := ok_add) (ha := ?g58) (hb := ?g59)
              case g58 =>
                refine SE.sv (s := ?g60)
                refine se_bin (ho := ok_mulI) (ha := (SE.sv (s := se_var))) (hb := (SE.sv (s := se_var)))
              case g59 =>
                refine SE.sv (s := ?g61)
                refine se_ixv (hi := ok_ix) (hb := (SE.sv (s := se_int)))
            case g56 =>
              refine SE.sv (s := ?g62)
              refine se_bin (ho := ok_mulI) (ha := ?g63) (hb := (SE.sv (s := se_int)))
              refine SE.sv (s := ?g64)
              refine se_ixv (hi := ok_ix) (hb := (SE.sv (s := se_int)))
          case g48 =>
            refine sss_cons (h1 := ?g65) (h2 := sss_nil)
            refine ss_ret (he := ?g66)
            refine se_bin (ho := ok_mod) (ha := ?g67) (hb := (SE.sv (s := se_var)))
            refine SE.sv (s := ?g68)
            refine se_callTy (hc := ok_int) (hm := n_int) (ha := ?g69)
            refine sa_cons (ha := ?g70) (hr := sa_nil)
            refine SE.sv (s := ?g71)
            refine se_bin (ho := ok_fdiv) (ha := (SE.sv (s := se_var))) (hb := (SE.sv (s := se_int)))

/-! ### _law_one_of -/
abbrev s__law_one_of : Stmt := topS 33
theorem sc__law_one_of : FnScope ["_law_bag", "_law_row"] ["_law_bag", "_law_row"] (defScope s__law_one_of) := ⟨rfl, rfl, rfl, by decide +kernel, rfl, by decide +kernel, by decide +kernel⟩
theorem bn__law_one_of (kV doc pm : Value) (an : Option Addr) (cdv ct : Value) (us : List Value) (hl : us.length = (["_law_bag", "_law_row"] : List Str).length) : bindArgs (PySem.W.fnOf "_law_one_of" "_law_one_of" (defArgs s__law_one_of) (defBody s__law_one_of) (defScope s__law_one_of) .none kV doc pm an cdv ct) ⟨us, []⟩ = pure ((["_law_bag", "_law_row"] : List Str).zip us) :=
  match us, hl with | [_, _], _ => rfl
theorem ok__law_one_of {k : Nat} (df : Df K mg "_law_one_of" s__law_one_of ["_law_bag", "_law_row"]) (f__law_pick : FnM P w K mg base k "_law_pick" 2 m__law_pick) (n_len : mg "len" = none) : FnM P w K mg base (k + 1) "_law_one_of" 2 m__law_one_of := by
  refine fnM_ok (mb := b__law_one_of) df sc__law_one_of ?_ rfl rfl
  unfold b__law_one_of
  refine sss_cons (h1 := ?g1) (h2 := sss_nil)
  refine ss_ret (he := ?g2)
  refine se_ixv (hi := ok_ix) (hb := ?g3)
  refine SE.sv (s := ?g4)
  refine se_call (hf := f__law_pick) (ha := ?g5)
  refine sa_cons (ha := (SE.sv (s := se_var))) (hr := ?g6)
  refine sa_cons (ha := (SE.sv (s := (se_lenv (hc := ok_len) (hm := n_len))))) (hr := sa_nil)

/-! ### _law_mixed -/
abbrev s__law_mixed : Stmt := topS 34
theorem sc__law_mixed : FnScope ["_law_bag", "_law_row", "_law_left", "_law_told", "_law_k"] ["_law_bag", "_law_row"] (defScope s__law_mixed) := ⟨rfl, rfl, rfl, by decide +kernel, rfl, by decide +kernel, by decide +kernel⟩
theorem bn__law_mixed (kV doc pm : Value) (an : Option Addr) (cdv ct : Value) (us : List Value) (hl : us.length = (["_law_bag", "_law_row"] : List Str).length) : bindArgs (PySem.W.fnOf "_law_mixed" "_law_mixed" (defArgs s__law_mixed) (defBody s__law_mixed) (defScope s__law_mixed) .none kV doc pm an cdv ct) ⟨us, []⟩ = pure ((["_law_bag", "_law_row"] : List Str).zip us) :=
  match us, hl with | [_, _], _ => rfl
theorem ok__law_mixed {k : Nat} (df : Df K mg "_law_mixed" s__law_mixed ["_law_bag", "_law_row"]) (f__law_pick : FnM P w K mg base k "_law_pick" 2 m__law_pick) (n_range : mg "range" = none) (n_len : mg "len" = none) (n_list : mg "list" = none) : FnM P w K mg base (k + 1) "_law_mixed" 2 m__law_mixed := by
  refine fnM_ok (mb := b__law_mixed) df sc__law_mixed ?_ rfl rfl
  unfold b__law_mixed
  refine sss_cons (h1 := ?g1) (h2 := ?g2)
  case g1 =>
    refine ss_set (he := ?g3)
    refine se_callTy (hc := ok_list) (hm := n_list) (ha := ?g4)
    refine sa_cons (ha := (SE.sv (s := se_var))) (hr := sa_nil)
  case g2 =>
    refine sss_cons (h1 := ?g5) (h2 := ?g6)
    case g5 =>
      refine ss_set (he := (se_lst (ha := sa_nil)))
    case g6 =>
      refine sss_cons (h1 := ?g7) (h2 := ?g8)
      case g7 =>
        refine ss_for (vs := [4]) (hg := sg_name) (hi := ?g9) (hb := ?g10)
        case g9 =>
          refine si_range1 (hm := n_range) (ha := (SE.sv (s := (se_lenv (hc := ok_len) (hm := n_len)))))
        case g10 =>
          refine sss_cons (h1 := ?g11) (h2 := sss_nil)
          refine ss_expr (he := ?g12)
          refine se_mut (slot := PySem.F.slot_list_append) (hty := PySem.F.type_list_append) (hm := ok_append) (ha := ?g13)
          refine sa_cons (ha := ?g14) (hr := sa_nil)
          refine SE.sv (s := ?g15)
          refine se_mut (slot := PySem.F.slot_list_pop) (hty := PySem.F.type_list_pop) (hm := ok_pop) (ha := ?g16)
          refine sa_cons (ha := ?g17) (hr := sa_nil)
          refine SE.sv (s := ?g18)
          refine se_call (hf := f__law_pick) (ha := ?g19)
          refine sa_cons (ha := (SE.sv (s := se_var))) (hr := ?g20)
          refine sa_cons (ha := (SE.sv (s := (se_lenv (hc := ok_len) (hm := n_len))))) (hr := sa_nil)
      case g8 =>
        refine sss_cons (h1 := (ss_ret (he := se_var))) (h2 := sss_nil)

/-! ### _law_paper_of -/
abbrev s__law_paper_of : Stmt := topS 35
theorem sc__law_paper_of : FnScope ["_law_bag", "_law_signs", "_law_most", "_law_told", "_law_k"] ["_law_bag", "_law_signs", "_law_most"] (defScope s__law_paper_of) := ⟨rfl, rfl, rfl, by decide +kernel, rfl, by decide +kernel, by decide +kernel⟩
theorem bn__law_paper_of (kV doc pm : Value) (an : Option Addr) (cdv ct : Value) (us : List Value) (hl : us.length = (["_law_bag", "_law_signs", "_law_most"] : List Str).length) : bindArgs (PySem.W.fnOf "_law_paper_of" "_law_paper_of" (defArgs s__law_paper_of) (defBody s__law_paper_of) (defScope s__law_paper_of) .none kV doc pm an cdv ct) ⟨us, []⟩ = pure ((["_law_bag", "_law_signs", "_law_most"] : List Str).zip us) :=
  match us, hl with | [_, _, _], _ => rfl
theorem ok__law_paper_of {k : Nat} (df : Df K mg "_law_paper_of" s__law_paper_of ["_law_bag", "_law_signs", "_law_most"]) (f__law_pick : FnM P w K mg base k "_law_pick" 2 m__law_pick) (f__law_one_of : FnM P w K mg base k "_law_one_of" 2 m__law_one_of) (n_range : mg "range" = none) : FnM P w K mg base (k + 1) "_law_paper_of" 3 m__law_paper_of := by
  refine fnM_ok (mb := b__law_paper_of) df sc__law_paper_of ?_ rfl rfl
  unfold b__law_paper_of
  refine sss_cons (h1 := (ss_set (he := se_str))) (h2 := ?g1)
  refine sss_cons (h1 := ?g2) (h2 := ?g3)
  case g2 =>
    refine ss_for (vs := [4]) (hg := sg_name) (hi := ?g4) (hb := ?g5)
    case g4 =>
      refine si_range1 (hm := n_range) (ha := ?g6)
      refine SE.sv (s := ?g7)
      refine se_call (hf := f__law_pick) (ha := ?g8)
      refine sa_cons (ha := (SE.sv (s := se_var))) (hr := ?g9)
      refine sa_cons (ha := ?g10) (hr := sa_nil)
      refine SE.sv (s := ?g11)
      refine se_bin (ho := ok_add) (ha := (SE.sv (s := se_var))) (hb := (SE.sv (s := se_int)))
    case g5 =>
      unfold b__law_paper_of_f1
      refine sss_cons (h1 := ?g12) (h2 := sss_nil)
      refine ss_set (he := ?g13)
      refine se_bin (ho := ok_add) (ha := (SE.sv (s := se_var))) (hb := ?g14)
      refine SE.sv (s := ?g15)
      refine se_call (hf := f__law_one_of) (ha := ?g16)
      refine sa_cons (ha := (SE.sv (s := se_var))) (hr := ?g17)
      refine sa_cons (ha := (SE.sv (s := se_var))) (hr := sa_nil)
  case g3 =>
    refine sss_cons (h1 := (ss_ret (he := se_var))) (h2 := sss_nil)

/-! ### _law_key_of -/
abbrev s__law_key_of : Stmt := topS 36
theorem sc__law_key_of : FnScope ["_law_paper"] ["_law_paper"] (defScope s__law_key_of) := ⟨rfl, rfl, rfl, by decide +kernel, rfl, by decide +kernel, by decide +kernel⟩
theorem bn__law_key_of (kV doc pm : Value) (an : Option Addr) (cdv ct : Value) (us : List Value) (hl : us.length = (["_law_paper"] : List Str).length) : bindArgs (PySem.W.fnOf "_law_key_of" "_law_key_of" (defArgs s__law_key_of) (defBody s__law_key_of) (defScope s__law_key_of) .none kV doc pm an cdv ct) ⟨us, []⟩ = pure ((["_law_paper"] : List Str).zip us) :=
  match us, hl with | [_], _ => rfl
theorem ok__law_key_of {k : Nat} (df : Df K mg "_law_key_of" s__law_key_of ["_law_paper"]) (n_len : mg "len" = none) : FnM P w K mg base (k + 1) "_law_key_of" 1 m__law_key_of := by
  refine fnM_ok (mb := b__law_key_of) df sc__law_key_of ?_ rfl rfl
  unfold b__law_key_of
  refine sss_cons (h1 := ?g1) (h2 := sss_nil)
  refine ss_ret (he := ?g2)
  refine se_tup (ha := ?g3)
  refine sa_cons (ha := (SE.sv (s := (se_lenv (hc := ok_len) (hm := n_len))))) (hr := ?g4)
  refine sa_cons (ha := (SE.sv (s := se_var))) (hr := sa_nil)

/-! ### _law_ordered -/
abbrev s__law_ordered : Stmt := topS 37
theorem sc__law_ordered : FnScope ["_law_papers", "_law_key", "_law_one"] ["_law_papers"] (defScope s__law_ordered) := ⟨rfl, rfl, rfl, by decide +kernel, rfl, by decide +kernel, by decide +kernel⟩
theorem bn__law_ordered (kV doc pm : Value) (an : Option Addr) (cdv ct : Value) (us : List Value) (hl : us.length = (["_law_papers"] : List Str).length) : bindArgs (PySem.W.fnOf "_law_ordered" "_law_ordered" (defArgs s__law_ordered) (defBody s__law_ordered) (defScope s__law_ordered) .none kV doc pm an cdv ct) ⟨us, []⟩ = pure ((["_law_papers"] : List Str).zip us) :=
  match us, hl with | [_], _ => rfl
theorem ok__law_ordered {k : Nat} (df : Df K mg "_law_ordered" s__law_ordered ["_law_papers"]) (f__law_key_of : FnM P w K mg base k "_law_key_of" 1 m__law_key_of) (n_sorted : mg "sorted" = none) : FnM P w K mg base (k + 1) "_law_ordered" 1 m__law_ordered := by
  refine fnM_ok (mb := b__law_ordered) df sc__law_ordered ?_ rfl rfl
  unfold b__law_ordered
  refine sss_cons (h1 := ?g1) (h2 := sss_nil)
  refine ss_ret (he := ?g2)
  refine se_comp (own := [("_law_key", 1)]) (cap := []) (tvs := [1]) (hi := ?g3) (hg := sg_name) (hc := sbs_nil) (he := ?g4)
  case g3 =>
    refine si_val (he := ?g5)
    refine SE.sv (s := ?g6)
    refine se_callB (hc := ok_sortD) (hm := n_sorted) (ha := ?g7)
    refine sa_cons (ha := ?g8) (hr := sa_nil)
    refine SE.sv (s := ?g9)
    refine se_comp (own := [("_law_one", 2)]) (cap := []) (tvs := [2]) (hi := ?g10) (hg := sg_name) (hc := sbs_nil) (he := ?g11)
    case g10 =>
      refine si_val (he := (SE.sv (s := se_var)))
    case g11 =>
      unfold b__law_ordered_c1
      refine SE.sv (s := ?g12)
      refine se_call (hf := f__law_key_of) (ha := ?g13)
      refine sa_cons (ha := (SE.sv (s := se_var))) (hr := sa_nil)
  case g4 =>
    unfold b__law_ordered_c2
    refine SE.sv (s := ?g14)
    refine se_ixv (hi := ok_ix) (hb := (SE.sv (s := se_int)))

/-! ### _law_lag_of -/
abbrev s__law_lag_of : Stmt := topS 38
theorem sc__law_lag_of : FnScope ["_law_first", "_law_second", "_law_same"] ["_law_first", "_law_second"] (defScope s__law_lag_of) := ⟨rfl, rfl, rfl, by decide +kernel, rfl, by decide +kernel, by decide +kernel⟩
theorem bn__law_lag_of (kV doc pm : Value) (an : Option Addr) (cdv ct : Value) (us : List Value) (hl : us.length = (["_law_first", "_law_second"] : List Str).length) : bindArgs (PySem.W.fnOf "_law_lag_of" "_law_lag_of" (defArgs s__law_lag_of) (defBody s__law_lag_of) (defScope s__law_lag_of) .none kV doc pm an cdv ct) ⟨us, []⟩ = pure ((["_law_first", "_law_second"] : List Str).zip us) :=
  match us, hl with | [_, _], _ => rfl
theorem ok__law_lag_of {k : Nat} (df : Df K mg "_law_lag_of" s__law_lag_of ["_law_first", "_law_second"]) (n_len : mg "len" = none) : FnM P w K mg base (k + 1) "_law_lag_of" 2 m__law_lag_of := by
  refine fnM_ok (mb := b__law_lag_of) df sc__law_lag_of ?_ rfl rfl
  unfold b__law_lag_of
  refine sss_cons (h1 := (ss_set (he := se_int))) (h2 := ?g1)
  refine sss_cons (h1 := ?g2) (h2 := ?g3)
  case g2 =>
    refine ss_while (n := wF) (hc := ?g4) (hb := ?g5)
    case g4 =>
      unfold b__law_lag_of_q1
      refine sb_w (hw := ?g6)
      refine sw_and (ha := ?g7) (hb := ?g8)
      case g7 =>
        refine sb_cmp (ho := ok_lt) (ha := (SE.sv (s := se_var))) (hb := (SE.sv (s := (se_lenv (hc := ok_len) (hm := n_len)))))
      case g8 =>
        refine sw_and (ha := ?g9) (hb := ?g10)
        case g9 =>
          refine sb_cmp (ho := ok_lt) (ha := (SE.sv (s := se_var))) (hb := (SE.sv (s := (se_lenv (hc := ok_len) (hm := n_len)))))
        case g10 =>
          refine sw_one (ha := ?g11)
          refine sb_cmp (ho := ok_eq) (ha := ?g12) (hb := ?g13)
          case g12 =>
            refine SE.sv (s := ?g14)
            refine se_ixv (hi := ok_ix) (hb := (SE.sv (s := se_var)))
          case g13 =>
            refine SE.sv (s := ?g15)
            refine se_ixv (hi := ok_ix) (hb := (SE.sv (s := se_var)))
    case g5 =>
      unfold b__law_lag_of_w1
      refine sss_cons (h1 := ?g16) (h2 := sss_nil)
      refine ss_set (he := ?g17)
      refine se_bin (ho := ok_add) (ha := (SE.sv (s := se_var))) (hb := (SE.sv (s := se_int)))
  case g3 =>
    refine sss_cons (h1 := ?g18) (h2 := ?g19)
    case g18 =>
      refine ss_if (hc := ?g20) (ha := ?g21) (hb := sss_nil)
      case g20 =>
        refine sb_w (hw := ?g22)
        refine sw_and (ha := ?g23) (hb := ?g24)
        case g23 =>
          refine sb_cmp (ho := ok_lt) (ha := (SE.sv (s := se_var))) (hb := (SE.sv (s := (se_lenv (hc := ok_len) (hm := n_len)))))
        case g24 =>
          refine sw_one (ha := ?g25)
          refine sb_cmp (ho := ok_lt) (ha := (SE.sv (s := se_var))) (hb := (SE.sv (s := (se_lenv (hc := ok_len) (hm := n_len)))))
      case g21 =>
        refine sss_cons (h1 := (ss_ret (he := se_str))) (h2 := sss_nil)
    case g19 =>
      refine sss_cons (h1 := ?g26) (h2 := ?g27)
      case g26 =>
        refine ss_if (hc := ?g28) (ha := ?g29) (hb := sss_nil)
        case g28 =>
          refine sb_cmp (ho := ok_lt) (ha := (SE.sv (s := se_var))) (hb := (SE.sv (s := (se_lenv (hc := ok_len) (hm := n_len)))))
        case g29 =>
          refine sss_cons (h1 := ?g30) (h2 := sss_nil)
          refine ss_ret (he := ?g31)
          refine se_bin (ho := ok_add) (ha := (SE.sv (s := se_str))) (hb := ?g32)
          refine SE.sv (s := ?g33)
          refine se_slv (hl := ?g34) (hh := so_none)
          refine so_some (he := (SE.sv (s := se_var)))
      case g27 =>
        refine sss_cons (h1 := ?g35) (h2 := sss_nil)
        refine ss_ret (he := ?g36)
        refine se_if (hc := ?g37) (ha := ?g38) (hb := se_str)
        case g37 =>
          refine sb_cmp (ho := ok_lt) (ha := (SE.sv (s := se_var))) (hb := (SE.sv (s := (se_lenv (hc := ok_len) (hm := n_len)))))
        case g38 =>
          refine se_bin (ho := ok_add) (ha := (SE.sv (s := se_str))) (hb := ?g39)
          refine SE.sv (s := ?g40)
          refine se_slv (hl := ?g41) (hh := so_none)
          refine so_some (he := (SE.sv (s := se_var)))

/-! ### _law_no_list -/
abbrev s__law_no_list : Stmt := topS 39
theorem sc__law_no_list : FnScope ["_law_thing", "_law_part"] ["_law_thing"] (defScope s__law_no_list) := ⟨rfl, rfl, rfl, by decide +kernel, rfl, by decide +kernel, by decide +kernel⟩
theorem bn__law_no_list (kV doc pm : Value) (an : Option Addr) (cdv ct : Value) (us : List Value) (hl : us.length = (["_law_thing"] : List Str).length) : bindArgs (PySem.W.fnOf "_law_no_list" "_law_no_list" (defArgs s__law_no_list) (defBody s__law_no_list) (defScope s__law_no_list) .none kV doc pm an cdv ct) ⟨us, []⟩ = pure ((["_law_thing"] : List Str).zip us) :=
  match us, hl with | [_], _ => rfl
theorem ok__law_no_list {k : Nat} (df : Df K mg "_law_no_list" s__law_no_list ["_law_thing"]) (n_isinstance : mg "isinstance" = none) (n_bool : mg "bool" = none) (n_list : mg "list" = none) (n_tuple : mg "tuple" = none) (n_all : mg "all" = none) : ∀ n, FnM P w K mg base (k + 1 + n) "_law_no_list" 1 (m__law_no_list n) :=
  fnM_rec (m := m__law_no_list) (mb := b__law_no_list) df sc__law_no_list (m0 := rfl) (mS := fun _ => rfl) fun n hrec => by
    unfold b__law_no_list
    refine sss_cons (h1 := ?g1) (h2 := ?g2)
    case g1 =>
      refine ss_if (hc := ?g3) (ha := ?g4) (hb := sss_nil)
      case g3 =>
        refine sb_tru (ha := ?g5)
        refine SE.sv (s := ?g6)
        refine se_isi (hmi := n_isinstance) (hm := n_tuple) (ha := (SE.sv (s := se_var)))
      case g4 =>
        refine sss_cons (h1 := ?g7) (h2 := sss_nil)
        refine ss_ret (he := ?g8)
        refine se_callB (hc := ok_all) (hm := n_all) (ha := ?g9)
        refine sa_cons (ha := ?g10) (hr := sa_nil)
        refine SE.sv (s := ?g11)
        refine se_comp (own := [("_law_part", 1)]) (cap := []) (tvs := [1]) (hi := ?g12) (hg := sg_name) (hc := sbs_nil) (he := ?g13)
        case g12 =>
          refine si_val (he := (SE.sv (s := se_var)))
        case g13 =>
          refine SE.sv (s := ?g14)
          refine se_call (hf := hrec) (ha := ?g15)
          refine sa_cons (ha := (SE.sv (s := se_var))) (hr := sa_nil)
    case g2 =>
      refine sss_cons (h1 := ?g16) (h2 := sss_nil)
      refine ss_ret (he := ?g17)
      refine se_and (ha := ?g18) (hb := ?g19)
      case g18 =>
        refine SE.sv (s := ?g20)
        refine se_not (ha := ?g21)
        refine SE.sv (s := ?g22)
        refine se_isi (hmi := n_isinstance) (hm := n_list) (ha := (SE.sv (s := se_var)))
      case g19 =>
        refine se_one (ha := ?g23)
        refine se_not (ha := ?g24)
        refine SE.sv (s := ?g25)
        refine se_isi (hmi := n_isinstance) (hm := n_bool) (ha := (SE.sv (s := se_var)))

/-! ### _law_is_int -/
abbrev s__law_is_int : Stmt := topS 40
theorem sc__law_is_int : FnScope ["_law_thing"] ["_law_thing"] (defScope s__law_is_int) := ⟨rfl, rfl, rfl, by decide +kernel, rfl, by decide +kernel, by decide +kernel⟩
theorem bn__law_is_int (kV doc pm : Value) (an : Option Addr) (cdv ct : Value) (us : List Value) (hl : us.length = (["_law_thing"] : List Str).length) : bindArgs (PySem.W.fnOf "_law_is_int" "_law_is_int" (defArgs s__law_is_int) (defBody s__law_is_int) (defScope s__law_is_int) .none kV doc pm an cdv ct) ⟨us, []⟩ = pure ((["_law_thing"] : List Str).zip us) :=
  match us, hl with | [_], _ => rfl
theorem ok__law_is_int {k : Nat} (df : Df K mg "_law_is_int" s__law_is_int ["_law_thing"]) (n_isinstance : mg "isinstance" = none) (n_bool : mg "bool" = none) (n_int : mg "int" = none) : FnM P w K mg base (k + 1) "_law_is_int" 1 m__law_is_int := by
  refine fnM_ok (mb := b__law_is_int) df sc__law_is_int ?_ rfl rfl
  unfold b__law_is_int
  refine sss_cons (h1 := ?g1) (h2 := sss_nil)
  refine ss_ret (he := ?g2)
  refine se_and (ha := ?g3) (hb := ?g4)
  case g3 =>
    refine SE.sv (s := ?g5)
    refine se_isi (hmi := n_isinstance) (hm := n_int) (ha := (SE.sv (s := se_var)))
  case g4 =>
    refine se_one (ha := ?g6)
    refine se_not (ha := ?g7)
    refine SE.sv (s := ?g8)
    refine se_isi (hmi := n_isinstance) (hm := n_bool) (ha := (SE.sv (s := se_var)))

/-! ### _law_same_tuple -/
abbrev s__law_same_tuple : Stmt := topS 41
theorem sc__law_same_tuple : FnScope ["_law_told", "_law_wanted"] ["_law_told", "_law_wanted"] (defScope s__law_same_tuple) := ⟨rfl, rfl, rfl, by decide +kernel, rfl, by decide +kernel, by decide +kernel⟩
theorem bn__law_same_tuple (kV doc pm : Value) (an : Option Addr) (cdv ct : Value) (us : List Value) (hl : us.length = (["_law_told", "_law_wanted"] : List Str).length) : bindArgs (PySem.W.fnOf "_law_same_tuple" "_law_same_tuple" (defArgs s__law_same_tuple) (defBody s__law_same_tuple) (defScope s__law_same_tuple) .none kV doc pm an cdv ct) ⟨us, []⟩ = pure ((["_law_told", "_law_wanted"] : List Str).zip us) :=
  match us, hl with | [_, _], _ => rfl
theorem ok__law_same_tuple {k : Nat} (df : Df K mg "_law_same_tuple" s__law_same_tuple ["_law_told", "_law_wanted"]) (f__law_no_list : FnM P w K mg base k "_law_no_list" 1 (m__law_no_list rF)) (n_isinstance : mg "isinstance" = none) (n_tuple : mg "tuple" = none) : FnM P w K mg base (k + 1) "_law_same_tuple" 2 m__law_same_tuple := by
  refine fnM_ok (mb := b__law_same_tuple) df sc__law_same_tuple ?_ rfl rfl
  unfold b__law_same_tuple
  refine sss_cons (h1 := ?g1) (h2 := sss_nil)
  refine ss_ret (he := ?g2)
  refine se_and (ha := ?g3) (hb := ?g4)
  case g3 =>
    refine SE.sv (s := ?g5)
    refine se_isi (hmi := n_isinstance) (hm := n_tuple) (ha := (SE.sv (s := se_var)))
  case g4 =>
    refine se_and (ha := ?g6) (hb := ?g7)
    case g6 =>
      refine SE.sv (s := ?g8)
      refine se_cmp (ho := ok_eq) (ha := (SE.sv (s := se_var))) (hb := (SE.sv (s := se_var)))
    case g7 =>
      refine se_one (ha := ?g9)
      refine se_call (hf := f__law_no_list) (ha := ?g10)
      refine sa_cons (ha := (SE.sv (s := se_var))) (hr := sa_nil)

/-! ### _law_many_signs -/
abbrev s__law_many_signs : Stmt := topS 42
theorem sc__law_many_signs : FnScope ["_law_bag", "_law_many"] ["_law_bag"] (defScope s__law_many_signs) := ⟨rfl, rfl, rfl, by decide +kernel, rfl, by decide +kernel, by decide +kernel⟩
theorem bn__law_many_signs (kV doc pm : Value) (an : Option Addr) (cdv ct : Value) (us : List Value) (hl : us.length = (["_law_bag"] : List Str).length) : bindArgs (PySem.W.fnOf "_law_many_signs" "_law_many_signs" (defArgs s__law_many_signs) (defBody s__law_many_signs) (defScope s__law_many_signs) .none kV doc pm an cdv ct) ⟨us, []⟩ = pure ((["_law_bag"] : List Str).zip us) :=
  match us, hl with | [_], _ => rfl
theorem ok__law_many_signs {k : Nat} (df : Df K mg "_law_many_signs" s__law_many_signs ["_law_bag"]) (f__law_mixed : FnM P w K mg base k "_law_mixed" 2 m__law_mixed) (f__law_pick : FnM P w K mg base k "_law_pick" 2 m__law_pick) (n_sorted : mg "sorted" = none) : FnM P w K mg base (k + 1) "_law_many_signs" 1 m__law_many_signs := by
  refine fnM_ok (mb := b__law_many_signs) df sc__law_many_signs ?_ rfl rfl
  unfold b__law_many_signs
  refine sss_cons (h1 := ?g1) (h2 := ?g2)
  case g1 =>
    refine ss_set (he := ?g3)
    refine se_bin (ho := ok_add) (ha := (SE.sv (s := se_int))) (hb := ?g4)
    refine SE.sv (s := ?g5)
    refine se_call (hf := f__law_pick) (ha := ?g6)
    refine sa_cons (ha := (SE.sv (s := se_var))) (hr := ?g7)
    refine sa_cons (ha := ?g8) (hr := sa_nil)
    refine SE.sv (s := ?g9)
    refine se_ix (hi := ok_ix) (ha := ?g10) (hb := ?g11)
    case g10 =>
      refine SE.sv (s := ?g12)
      refine se_lst (ha := ?g13)
      refine sa_cons (ha := (SE.sv (s := se_int))) (hr := ?g14)
      refine sa_cons (ha := (SE.sv (s := se_int))) (hr := sa_nil)
    case g11 =>
      refine SE.sv (s := ?g15)
      refine se_call (hf := f__law_pick) (ha := ?g16)
      refine sa_cons (ha := (SE.sv (s := se_var))) (hr := ?g17)
      refine sa_cons (ha := (SE.sv (s := se_int))) (hr := sa_nil)
  case g2 =>
    refine sss_cons (h1 := ?g18) (h2 := sss_nil)
    refine ss_ret (he := ?g19)
    refine se_mtS (slot := PySem.F.slot_str_join) (hty := PySem.F.type_str_join) (hm := ok_join) (ho := (SE.sv (s := se_str))) (ha := ?g20)
    refine sa_cons (ha := ?g21) (hr := sa_nil)
    refine SE.sv (s := ?g22)
    refine se_callB (hc := ok_sortS) (hm := n_sorted) (ha := ?g23)
    refine sa_cons (ha := ?g24) (hr := sa_nil)
    refine SE.sv (s := ?g25)
    refine se_sl (he := ?g26) (hl := so_none) (hh := ?g27)
    case g26 =>
      refine SE.sv (s := ?g28)
      refine se_call (hf := f__law_mixed) (ha := ?g29)
      refine sa_cons (ha := (SE.sv (s := se_var))) (hr := ?g30)
      refine sa_cons (ha := (SE.sv (s := se_str))) (hr := sa_nil)
    case g27 =>
      refine so_some (he := (SE.sv (s := se_var)))

/-! ### _law_classes -/
abbrev s__law_classes : Stmt := topS 43
theorem sc__law_classes : FnScope ["_law_e", "_law_a", "_law_name", "_law_flag"] ["_law_e"] (defScope s__law_classes) := ⟨rfl, rfl, rfl, by decide +kernel, rfl, by decide +kernel, by decide +kernel⟩
theorem bn__law_classes (kV doc pm : Value) (an : Option Addr) (cdv ct : Value) (us : List Value) (hl : us.length = (["_law_e"] : List Str).length) : bindArgs (PySem.W.fnOf "_law_classes" "_law_classes" (defArgs s__law_classes) (defBody s__law_classes) (defScope s__law_classes) .none kV doc pm an cdv ct) ⟨us, []⟩ = pure ((["_law_e"] : List Str).zip us) :=
  match us, hl with | [_], _ => rfl
theorem ok__law_classes {k : Nat} (df : Df K mg "_law_classes" s__law_classes ["_law_e"]) (n_isinstance : mg "isinstance" = none) (m_Unfit : mg "Unfit" = some (.ref A_Unfit)) (m_Unlike : mg "Unlike" = some (.ref A_Unlike)) (m_Unknown : mg "Unknown" = some (.ref A_Unknown)) (m_Twice : mg "Twice" = some (.ref A_Twice)) (m_TooMany : mg "TooMany" = some (.ref A_TooMany)) (m_BadLine : mg "BadLine" = some (.ref A_BadLine)) (m_BadDeed : mg "BadDeed" = some (.ref A_BadDeed)) (m_BadWay : mg "BadWay" = some (.ref A_BadWay)) (m_BadSlip : mg "BadSlip" = some (.ref A_BadSlip)) (m_BadForm : mg "BadForm" = some (.ref A_BadForm)) (m_BadRule : mg "BadRule" = some (.ref A_BadRule)) (m_BadWalk : mg "BadWalk" = some (.ref A_BadWalk)) (m_BadName : mg "BadName" = some (.ref A_BadName)) (m_BadPaper : mg "BadPaper" = some (.ref A_BadPaper)) (m_BadSigns : mg "BadSigns" = some (.ref A_BadSigns)) (m_Refused : mg "Refused" = some (.ref A_Refused)) (m_Malformed : mg "Malformed" = some (.ref A_Malformed)) (m_CarryError : mg "CarryError" = some (.ref A_CarryError)) (is_Unfit : ∀ nm ∈ ([] : List Str), ∃ D, mg nm = some (.ref D) ∧ XI K D ∧ PySem.W.kitOne K (.ref D) (.ref A_Unfit) = some true) (no_Unfit : ∀ nm ∈ (["BadSigns"] : List Str), ∃ D, mg nm = some (.ref D) ∧ XI K D ∧ PySem.W.kitOne K (.ref D) (.ref A_Unfit) = some false) (is_Unlike : ∀ nm ∈ ([] : List Str), ∃ D, mg nm = some (.ref D) ∧ XI K D ∧ PySem.W.kitOne K (.ref D) (.ref A_Unlike) = some true) (no_Unlike : ∀ nm ∈ (["BadSigns"] : List Str), ∃ D, mg nm = some (.ref D) ∧ XI K D ∧ PySem.W.kitOne K (.ref D) (.ref A_Unlike) = some false) (is_Unknown : ∀ nm ∈ ([] : List Str), ∃ D, mg nm = some (.ref D) ∧ XI K D ∧ PySem.W.kitOne K (.ref D) (.ref A_Unknown) = some true) (no_Unknown : ∀ nm ∈ (["BadSigns"] : List Str), ∃ D, mg nm = some (.ref D) ∧ XI K D ∧ PySem.W.kitOne K (.ref D) (.ref A_Unknown) = some false) (is_Twice : ∀ nm ∈ ([] : List Str), ∃ D, mg nm = some (.ref D) ∧ XI K D ∧ PySem.W.kitOne K (.ref D) (.ref A_Twice) = some true) (no_Twice : ∀ nm ∈ (["BadSigns"] : List Str), ∃ D, mg nm = some (.ref D) ∧ XI K D ∧ PySem.W.kitOne K (.ref D) (.ref A_Twice) = some false) (is_TooMany : ∀ nm ∈ ([] : List Str), ∃ D, mg nm = some (.ref D) ∧ XI K D ∧ PySem.W.kitOne K (.ref D) (.ref A_TooMany) = some true) (no_TooMany : ∀ nm ∈ (["BadSigns"] : List Str), ∃ D, mg nm = some (.ref D) ∧ XI K D ∧ PySem.W.kitOne K (.ref D) (.ref A_TooMany) = some false) (is_BadLine : ∀ nm ∈ ([] : List Str), ∃ D, mg nm = some (.ref D) ∧ XI K D ∧ PySem.W.kitOne K (.ref D) (.ref A_BadLine) = some true) (no_BadLine : ∀ nm ∈ (["BadSigns"] : List Str), ∃ D, mg nm = some (.ref D) ∧ XI K D ∧ PySem.W.kitOne K (.ref D) (.ref A_BadLine) = some false) (is_BadDeed : ∀ nm ∈ ([] : List Str), ∃ D, mg nm = some (.ref D) ∧ XI K D ∧ PySem.W.kitOne K (.ref D) (.ref A_BadDeed) = some true) (no_BadDeed : ∀ nm ∈ (["BadSigns"] : List Str), ∃ D, mg nm = some (.ref D) ∧ XI K D ∧ PySem.W.kitOne K (.ref D) (.ref A_BadDeed) = some false) (is_BadWay : ∀ nm ∈ ([] : List Str), ∃ D, mg nm = some (.ref D) ∧ XI K D ∧ PySem.W.kitOne K (.ref D) (.ref A_BadWay) = some true) (no_BadWay : ∀ nm ∈ (["BadSigns"] : List Str), ∃ D, mg nm = some (.ref D) ∧ XI K D ∧ PySem.W.kitOne K (.ref D) (.ref A_BadWay) = some false) (is_BadSlip : ∀ nm ∈ ([] : List Str), ∃ D, mg nm = some (.ref D) ∧ XI K D ∧ PySem.W.kitOne K (.ref D) (.ref A_BadSlip) = some true) (no_BadSlip : ∀ nm ∈ (["BadSigns"] : List Str), ∃ D, mg nm = some (.ref D) ∧ XI K D ∧ PySem.W.kitOne K (.ref D) (.ref A_BadSlip) = some false) (is_BadForm : ∀ nm ∈ ([] : List Str), ∃ D, mg nm = some (.ref D) ∧ XI K D ∧ PySem.W.kitOne K (.ref D) (.ref A_BadForm) = some true) (no_BadForm : ∀ nm ∈ (["BadSigns"] : List Str), ∃ D, mg nm = some (.ref D) ∧ XI K D ∧ PySem.W.kitOne K (.ref D) (.ref A_BadForm) = some false) (is_BadRule : ∀ nm ∈ ([] : List Str), ∃ D, mg nm = some (.ref D) ∧ XI K D ∧ PySem.W.kitOne K (.ref D) (.ref A_BadRule) = some true) (no_BadRule : ∀ nm ∈ (["BadSigns"] : List Str), ∃ D, mg nm = some (.ref D) ∧ XI K D ∧ PySem.W.kitOne K (.ref D) (.ref A_BadRule) = some false) (is_BadWalk : ∀ nm ∈ ([] : List Str), ∃ D, mg nm = some (.ref D) ∧ XI K D ∧ PySem.W.kitOne K (.ref D) (.ref A_BadWalk) = some true) (no_BadWalk : ∀ nm ∈ (["BadSigns"] : List Str), ∃ D, mg nm = some (.ref D) ∧ XI K D ∧ PySem.W.kitOne K (.ref D) (.ref A_BadWalk) = some false) (is_BadName : ∀ nm ∈ ([] : List Str), ∃ D, mg nm = some (.ref D) ∧ XI K D ∧ PySem.W.kitOne K (.ref D) (.ref A_BadName) = some true) (no_BadName : ∀ nm ∈ (["BadSigns"] : List Str), ∃ D, mg nm = some (.ref D) ∧ XI K D ∧ PySem.W.kitOne K (.ref D) (.ref A_BadName) = some false) (is_BadPaper : ∀ nm ∈ ([] : List Str), ∃ D, mg nm = some (.ref D) ∧ XI K D ∧ PySem.W.kitOne K (.ref D) (.ref A_BadPaper) = some true) (no_BadPaper : ∀ nm ∈ (["BadSigns"] : List Str), ∃ D, mg nm = some (.ref D) ∧ XI K D ∧ PySem.W.kitOne K (.ref D) (.ref A_BadPaper) = some false) (is_BadSigns : ∀ nm ∈ (["BadSigns"] : List Str), ∃ D, mg nm = some (.ref D) ∧ XI K D ∧ PySem.W.kitOne K (.ref D) (.ref A_BadSigns) = some true) (no_BadSigns : ∀ nm ∈ ([] : List Str), ∃ D, mg nm = some (.ref D) ∧ XI K D ∧ PySem.W.kitOne K (.ref D) (.ref A_BadSigns) = some false) (is_Refused : ∀ nm ∈ ([] : List Str), ∃ D, mg nm = some (.ref D) ∧ XI K D ∧ PySem.W.kitOne K (.ref D) (.ref A_Refused) = some true) (no_Refused : ∀ nm ∈ (["BadSigns"] : List Str), ∃ D, mg nm = some (.ref D) ∧ XI K D ∧ PySem.W.kitOne K (.ref D) (.ref A_Refused) = some false) (is_Malformed : ∀ nm ∈ (["BadSigns"] : List Str), ∃ D, mg nm = some (.ref D) ∧ XI K D ∧ PySem.W.kitOne K (.ref D) (.ref A_Malformed) = some true) (no_Malformed : ∀ nm ∈ ([] : List Str), ∃ D, mg nm = some (.ref D) ∧ XI K D ∧ PySem.W.kitOne K (.ref D) (.ref A_Malformed) = some false) (is_CarryError : ∀ nm ∈ (["BadSigns"] : List Str), ∃ D, mg nm = some (.ref D) ∧ XI K D ∧ PySem.W.kitOne K (.ref D) (.ref A_CarryError) = some true) (no_CarryError : ∀ nm ∈ ([] : List Str), ∃ D, mg nm = some (.ref D) ∧ XI K D ∧ PySem.W.kitOne K (.ref D) (.ref A_CarryError) = some false) : FnMX P w K mg base (k + 1) "_law_classes" m__law_classes := by
  refine fnMX_ok (mb := b__law_classes) df sc__law_classes ?_ rfl
  unfold b__law_classes
  refine sss_cons (h1 := ?g1) (h2 := ?g2)
  case g1 =>
    refine ss_set (he := ?g3)
    refine se_lst (ha := ?g4)
    refine sa_cons (ha := ?g5) (hr := ?g6)
    case g5 =>
      refine SE.sv (s := ?g7)
      refine se_tup (ha := ?g8)
      refine sa_cons (ha := (SE.sv (s := se_str))) (hr := ?g9)
      refine sa_cons (ha := (SE.sv (s := (se_xis (hmi := n_isinstance) (hc := m_CarryError) (hsub := is_CarryError) (hoth := no_CarryError))))) (hr := sa_nil)
    case g6 =>
      refine sa_cons (ha := ?g10) (hr := sa_nil)
      refine SE.sv (s := ?g11)
      refine se_tup (ha := ?g12)
      refine sa_cons (ha := (SE.sv (s := se_str))) (hr := ?g13)
      refine sa_cons (ha := (SE.sv (s := (se_xis (hmi := n_isinstance) (hc := m_Malformed) (hsub := is_Malformed) (hoth := no_Malformed))))) (hr := sa_nil)
  case g2 =>
    refine sss_cons (h1 := ?g14) (h2 := ?g15)
    case g14 =>
      refine ss_set (he := ?g16)
      refine se_bin (ho := ok_add) (ha := (SE.sv (s := se_var))) (hb := ?g17)
      refine SE.sv (s := ?g18)
      refine se_lst (ha := ?g19)
      refine sa_cons (ha := ?g20) (hr := ?g21)
      case g20 =>
        refine SE.sv (s := ?g22)
        refine se_tup (ha := ?g23)
        refine sa_cons (ha := (SE.sv (s := se_str))) (hr := ?g24)
        refine sa_cons (ha := (SE.sv (s := (se_xis (hmi := n_isinstance) (hc := m_Refused) (hsub := is_Refused) (hoth := no_Refused))))) (hr := sa_nil)
      case g21 =>
        refine sa_cons (ha := ?g25) (hr := sa_nil)
        refine SE.sv (s := ?g26)
        refine se_tup (ha := ?g27)
        refine sa_cons (ha := (SE.sv (s := se_str))) (hr := ?g28)
        refine sa_cons (ha := (SE.sv (s := (se_xis (hmi := n_isinstance) (hc := m_BadSigns) (hsub := is_BadSigns) (hoth := no_BadSigns))))) (hr := sa_nil)
    case g15 =>
      refine sss_cons (h1 := ?g29) (h2 := ?g30)
      case g29 =>
        refine ss_set (he := ?g31)
        refine se_bin (ho := ok_add) (ha := (SE.sv (s := se_var))) (hb := ?g32)
        refine SE.sv (s := ?g33)
        refine se_lst (ha := ?g34)
        refine sa_cons (ha := ?g35) (hr := ?g36)
        case g35 =>
          refine SE.sv (s := ?g37)
          refine se_tup (ha := ?g38)
          refine sa_cons (ha := (SE.sv (s := se_str))) (hr := ?g39)
          refine sa_cons (ha := (SE.sv (s := (se_xis (hmi := n_isinstance) (hc := m_BadPaper) (hsub := is_BadPaper) (hoth := no_BadPaper))))) (hr := sa_nil)
        case g36 =>
          refine sa_cons (ha := ?g40) (hr := sa_nil)
          refine SE.sv (s := ?g41)
          refine se_tup (ha := ?g42)
          refine sa_cons (ha := (SE.sv (s := se_str))) (hr := ?g43)
          refine sa_cons (ha := (SE.sv (s := (se_xis (hmi := n_isinstance) (hc := m_BadName) (hsub := is_BadName) (hoth := no_BadName))))) (hr := sa_nil)
      case g30 =>
        refine sss_cons (h1 := ?g44) (h2 := ?g45)
        case g44 =>
          refine ss_set (he := ?g46)
          refine se_bin (ho := ok_add) (ha := (SE.sv (s := se_var))) (hb := ?g47)
          refine SE.sv (s := ?g48)
          refine se_lst (ha := ?g49)
          refine sa_cons (ha := ?g50) (hr := ?g51)
          case g50 =>
            refine SE.sv (s := ?g52)
            refine se_tup (ha := ?g53)
            refine sa_cons (ha := (SE.sv (s := se_str))) (hr := ?g54)
            refine sa_cons (ha := (SE.sv (s := (se_xis (hmi := n_isinstance) (hc := m_BadWalk) (hsub := is_BadWalk) (hoth := no_BadWalk))))) (hr := sa_nil)
          case g51 =>
            refine sa_cons (ha := ?g55) (hr := sa_nil)
            refine SE.sv (s := ?g56)
            refine se_tup (ha := ?g57)
            refine sa_cons (ha := (SE.sv (s := se_str))) (hr := ?g58)
            refine sa_cons (ha := (SE.sv (s := (se_xis (hmi := n_isinstance) (hc := m_BadRule) (hsub := is_BadRule) (hoth := no_BadRule))))) (hr := sa_nil)
        case g45 =>
          refine sss_cons (h1 := ?g59) (h2 := ?g60)
          case g59 =>
            refine ss_set (he := ?g61)
            refine se_bin (ho := ok_add) (ha := (SE.sv (s := se_var))) (hb := ?g62)
            refine SE.sv (s := ?g63)
            refine se_lst (ha := ?g64)
            refine sa_cons (ha := ?g65) (hr := ?g66)
            case g65 =>
              refine SE.sv (s := ?g67)
              refine se_tup (ha := ?g68)
              refine sa_cons (ha := (SE.sv (s := se_str))) (hr := ?g69)
              refine sa_cons (ha := (SE.sv (s := (se_xis (hmi := n_isinstance) (hc := m_BadForm) (hsub := is_BadForm) (hoth := no_BadForm))))) (hr := sa_nil)
            case g66 =>
              refine sa_cons (ha := ?g70) (hr := sa_nil)
              refine SE.sv (s := ?g71)
              refine se_tup (ha := ?g72)
              refine sa_cons (ha := (SE.sv (s := se_str))) (hr := ?g73)
              refine sa_cons (ha := (SE.sv (s := (se_xis (hmi := n_isinstance) (hc := m_BadSlip) (hsub := is_BadSlip) (hoth := no_BadSlip))))) (hr := sa_nil)
          case g60 =>
            refine sss_cons (h1 := ?g74) (h2 := ?g75)
            case g74 =>
              refine ss_set (he := ?g76)
              refine se_bin (ho := ok_add) (ha := (SE.sv (s := se_var))) (hb := ?g77)
              refine SE.sv (s := ?g78)
              refine se_lst (ha := ?g79)
              refine sa_cons (ha := ?g80) (hr := ?g81)
              case g80 =>
                refine SE.sv (s := ?g82)
                refine se_tup (ha := ?g83)
                refine sa_cons (ha := (SE.sv (s := se_str))) (hr := ?g84)
                refine sa_cons (ha := (SE.sv (s := (se_xis (hmi := n_isinstance) (hc := m_BadWay) (hsub := is_BadWay) (hoth := no_BadWay))))) (hr := sa_nil)
              case g81 =>
                refine sa_cons (ha := ?g85) (hr := sa_nil)
                refine SE.sv (s := ?g86)
                refine se_tup (ha := ?g87)
                refine sa_cons (ha := (SE.sv (s := se_str))) (hr := ?g88)
                refine sa_cons (ha := (SE.sv (s := (se_xis (hmi := n_isinstance) (hc := m_BadDeed) (hsub := is_BadDeed) (hoth := no_BadDeed))))) (hr := sa_nil)
            case g75 =>
              refine sss_cons (h1 := ?g89) (h2 := ?g90)
              case g89 =>
                refine ss_set (he := ?g91)
                refine se_bin (ho := ok_add) (ha := (SE.sv (s := se_var))) (hb := ?g92)
                refine SE.sv (s := ?g93)
                refine se_lst (ha := ?g94)
                refine sa_cons (ha := ?g95) (hr := ?g96)
                case g95 =>
                  refine SE.sv (s := ?g97)
                  refine se_tup (ha := ?g98)
                  refine sa_cons (ha := (SE.sv (s := se_str))) (hr := ?g99)
                  refine sa_cons (ha := (SE.sv (s := (se_xis (hmi := n_isinstance) (hc := m_BadLine) (hsub := is_BadLine) (hoth := no_BadLine))))) (hr := sa_nil)
                case g96 =>
                  refine sa_cons (ha := ?g100) (hr := sa_nil)
                  refine SE.sv (s := ?g101)
                  refine se_tup (ha := ?g102)
                  refine sa_cons (ha := (SE.sv (s := se_str))) (hr := ?g103)
                  refine sa_cons (ha := (SE.sv (s := (se_xis (hmi := n_isinstance) (hc := m_TooMany) (hsub := is_TooMany) (hoth := no_TooMany))))) (hr := sa_nil)
              case g90 =>
                refine sss_cons (h1 := ?g104) (h2 := ?g105)
                case g104 =>
                  refine ss_set (he := ?g106)
                  refine se_bin (ho := ok_add) (ha := (SE.sv (s := se_var))) (hb := ?g107)
                  refine SE.sv (s := ?g108)
                  refine se_lst (ha := ?g109)
                  refine sa_cons (ha := ?g110) (hr := ?g111)
                  case g110 =>
                    refine SE.sv (s := ?g112)
                    refine se_tup (ha := ?g113)
                    refine sa_cons (ha := (SE.sv (s := se_str))) (hr := ?g114)
                    refine sa_cons (ha := (SE.sv (s := (se_xis (hmi := n_isinstance) (hc := m_Twice) (hsub := is_Twice) (hoth := no_Twice))))) (hr := sa_nil)
                  case g111 =>
                    refine sa_cons (ha := ?g115) (hr := sa_nil)
                    refine SE.sv (s := ?g116)
                    refine se_tup (ha := ?g117)
                    refine sa_cons (ha := (SE.sv (s := se_str))) (hr := ?g118)
                    refine sa_cons (ha := (SE.sv (s := (se_xis (hmi := n_isinstance) (hc := m_Unknown) (hsub := is_Unknown) (hoth := no_Unknown))))) (hr := sa_nil)
                case g105 =>
                  refine sss_cons (h1 := ?g119) (h2 := ?g120)
                  case g119 =>
                    refine ss_set (he := ?g121)
                    refine se_bin (ho := ok_add) (ha := (SE.sv (s := se_var))) (hb := ?g122)
                    refine SE.sv (s := ?g123)
                    refine se_lst (ha := ?g124)
                    refine sa_cons (ha := ?g125) (hr := ?g126)
                    case g125 =>
                      refine SE.sv (s := ?g127)
                      refine se_tup (ha := ?g128)
                      refine sa_cons (ha := (SE.sv (s := se_str))) (hr := ?g129)
                      refine sa_cons (ha := (SE.sv (s := (se_xis (hmi := n_isinstance) (hc := m_Unlike) (hsub := is_Unlike) (hoth := no_Unlike))))) (hr := sa_nil)
                    case g126 =>
                      refine sa_cons (ha := ?g130) (hr := sa_nil)
                      refine SE.sv (s := ?g131)
                      refine se_tup (ha := ?g132)
                      refine sa_cons (ha := (SE.sv (s := se_str))) (hr := ?g133)
                      refine sa_cons (ha := (SE.sv (s := (se_xis (hmi := n_isinstance) (hc := m_Unfit) (hsub := is_Unfit) (hoth := no_Unfit))))) (hr := sa_nil)
                  case g120 =>
                    refine sss_cons (h1 := ?g134) (h2 := sss_nil)
                    refine ss_ret (he := ?g135)
                    refine se_compH (own := [("_law_name", 2), ("_law_flag", 3)]) (cap := []) (tvs := [2, 3]) (hi := ?g136) (hg := ?g137) (hc := ?g138) (he := ?g139)
                    case g136 =>
                      refine six_val (he := (SE.sv (s := se_var)))
                    case g137 =>
                      refine sg_tupH (h1 := ?g140)
                      refine sgs_cons (h1 := sg_name) (h2 := ?g141)
                      refine sgs_cons (h1 := sg_name) (h2 := sgs_nil)
                    case g138 =>
                      unfold b__law_classes_q1
                      exact (sbs_one (hc := sb_truv))
                    case g139 =>
                      unfold b__law_classes_c1
                      exact (SE.sv (s := se_var))

/-! ### _law_pieces_of -/
abbrev s__law_pieces_of : Stmt := topS 44
theorem sc__law_pieces_of : FnScope ["_law_script", "_law_signs", "_law_bag", "_law_word", "_law_k", "_law_base", "_law_many", "_law_spoilt", "_law_told", "_law_ends", "_law_pair", "_law_side", "_law_size", "_law_at"] ["_law_script", "_law_signs"] (defScope s__law_pieces_of) := ⟨rfl, rfl, rfl, by decide +kernel, rfl, by decide +kernel, by decide +kernel⟩
theorem bn__law_pieces_of (kV doc pm : Value) (an : Option Addr) (cdv ct : Value) (us : List Value) (hl : us.length = (["_law_script", "_law_signs"] : List Str).length) : bindArgs (PySem.W.fnOf "_law_pieces_of" "_law_pieces_of" (defArgs s__law_pieces_of) (defBody s__law_pieces_of) (defScope s__law_pieces_of) .none kV doc pm an cdv ct) ⟨us, []⟩ = pure ((["_law_script", "_law_signs"] : List Str).zip us) :=
  match us, hl with | [_, _], _ => rfl
theorem ok__law_pieces_of {k : Nat} (df : Df K mg "_law_pieces_of" s__law_pieces_of ["_law_script", "_law_signs"]) (f__law_one_of : FnM P w K mg base k "_law_one_of" 2 m__law_one_of) (f__law_pick : FnM P w K mg base k "_law_pick" 2 m__law_pick) (f__law_bag_of : FnM P w K mg base k "_law_bag_of" 2 m__law_bag_of) (n_range : mg "range" = none) (n_len : mg "len" = none) (n_min : mg "min" = none) : FnM P w K mg base (k + 1) "_law_pieces_of" 2 m__law_pieces_of := by
  refine fnM_ok (mb := b__law_pieces_of) df sc__law_pieces_of ?_ rfl rfl
  unfold b__law_pieces_of
  refine sss_cons (h1 := ?g1) (h2 := ?g2)
  case g1 =>
    unfold b__law_pieces_of_s1
    refine ss_set (he := ?g3)
    refine se_call (hf := f__law_bag_of) (ha := ?g4)
    refine sa_cons (ha := (SE.sv (s := se_var))) (hr := ?g5)
    refine sa_cons (ha := (SE.sv (s := se_int))) (hr := sa_nil)
  case g2 =>
    refine sss_cons (h1 := ?g6) (h2 := ?g7)
    case g6 =>
      unfold b__law_pieces_of_s2
      exact (ss_set (he := se_str))
    case g7 =>
      refine sss_cons (h1 := ?g8) (h2 := ?g9)
      case g8 =>
        unfold b__law_pieces_of_s3
        refine ss_for (vs := [4]) (hg := sg_name) (hi := ?g10) (hb := ?g11)
        case g10 =>
          refine si_range1 (hm := n_range) (ha := ?g12)
          refine SE.sv (s := ?g13)
          refine se_bin (ho := ok_add) (ha := (SE.sv (s := se_int))) (hb := ?g14)
          refine SE.sv (s := ?g15)
          refine se_call (hf := f__law_pick) (ha := ?g16)
          refine sa_cons (ha := (SE.sv (s := se_var))) (hr := ?g17)
          refine sa_cons (ha := ?g18) (hr := sa_nil)
          refine SE.sv (s := ?g19)
          refine se_ix (hi := ok_ix) (ha := ?g20) (hb := ?g21)
          case g20 =>
            refine SE.sv (s := ?g22)
            refine se_lst (ha := ?g23)
            refine sa_cons (ha := (SE.sv (s := se_int))) (hr := ?g24)
            refine sa_cons (ha := (SE.sv (s := se_int))) (hr := sa_nil)
          case g21 =>
            refine SE.sv (s := ?g25)
            refine se_call (hf := f__law_pick) (ha := ?g26)
            refine sa_cons (ha := (SE.sv (s := se_var))) (hr := ?g27)
            refine sa_cons (ha := (SE.sv (s := se_int))) (hr := sa_nil)
        case g11 =>
          unfold b__law_pieces_of_f3
          refine sss_cons (h1 := ?g28) (h2 := sss_nil)
          refine ss_set (he := ?g29)
          refine se_bin (ho := ok_add) (ha := (SE.sv (s := se_var))) (hb := ?g30)
          refine SE.sv (s := ?g31)
          refine se_call (hf := f__law_one_of) (ha := ?g32)
          refine sa_cons (ha := (SE.sv (s := se_var))) (hr := ?g33)
          refine sa_cons (ha := (SE.sv (s := se_var))) (hr := sa_nil)
      case g9 =>
        refine sss_cons (h1 := ?g34) (h2 := ?g35)
        case g34 =>
          unfold b__law_pieces_of_s4
          refine ss_set (he := ?g36)
          refine se_bin (ho := ok_mulS) (ha := (SE.sv (s := se_var))) (hb := ?g37)
          refine SE.sv (s := ?g38)
          refine se_bin (ho := ok_fdiv) (ha := (SE.sv (s := se_int))) (hb := (SE.sv (s := (se_lenv (hc := ok_len) (hm := n_len)))))
        case g35 =>
          refine sss_cons (h1 := ?g39) (h2 := ?g40)
          case g39 =>
            unfold b__law_pieces_of_s5
            refine ss_set (he := ?g41)
            refine se_bin (ho := ok_add) (ha := ?g42) (hb := ?g43)
            case g42 =>
              refine SE.sv (s := ?g44)
              refine se_bin (ho := ok_add) (ha := (SE.sv (s := se_int))) (hb := ?g45)
              refine SE.sv (s := ?g46)
              refine se_call (hf := f__law_pick) (ha := ?g47)
              refine sa_cons (ha := (SE.sv (s := se_var))) (hr := ?g48)
              refine sa_cons (ha := (SE.sv (s := se_int))) (hr := sa_nil)
            case g43 =>
              refine SE.sv (s := ?g49)
              refine se_callB (hc := ok_min2) (hm := n_min) (ha := ?g50)
              refine sa_cons (ha := (SE.sv (s := se_int))) (hr := ?g51)
              refine sa_cons (ha := (SE.sv (s := (se_lenv (hc := ok_len) (hm := n_len))))) (hr := sa_nil)
          case g40 =>
            refine sss_cons (h1 := ?g52) (h2 := ?g53)
            case g52 =>
              unfold b__law_pieces_of_s6
              refine ss_set (he := ?g54)
              refine se_call (hf := f__law_pick) (ha := ?g55)
              refine sa_cons (ha := (SE.sv (s := se_var))) (hr := ?g56)
              refine sa_cons (ha := ?g57) (hr := sa_nil)
              refine SE.sv (s := ?g58)
              refine se_bin (ho := ok_add) (ha := (SE.sv (s := se_var))) (hb := (SE.sv (s := se_var)))
            case g53 =>
              refine sss_cons (h1 := ?g59) (h2 := ?g60)
              case g59 =>
                unfold b__law_pieces_of_s7
                refine ss_set (he := (se_lst (ha := sa_nil)))
              case g60 =>
                refine sss_cons (h1 := ?g61) (h2 := ?g62)
                case g61 =>
                  unfold b__law_pieces_of_s8
                  refine ss_set (he := ?g63)
                  refine se_lst (ha := ?g64)
                  refine sa_cons (ha := (SE.sv (s := se_int))) (hr := ?g65)
                  refine sa_cons (ha := (SE.sv (s := se_int))) (hr := sa_nil)
                case g62 =>
                  refine sss_cons (h1 := ?g66) (h2 := ?g67)
                  case g66 =>
                    unfold b__law_pieces_of_s9
                    refine ss_for (vs := [4]) (hg := sg_name) (hi := ?g68) (hb := ?g69)
                    case g68 =>
                      refine si_range1 (hm := n_range) (ha := (SE.sv (s := se_var)))
                    case g69 =>
                      unfold b__law_pieces_of_f2
                      refine sss_cons (h1 := ?g70) (h2 := ?g71)
                      case g70 =>
                        refine ss_set (he := ?g72)
                        refine se_call (hf := f__law_bag_of) (ha := ?g73)
                        refine sa_cons (ha := (SE.sv (s := se_var))) (hr := ?g74)
                        refine sa_cons (ha := ?g75) (hr := sa_nil)
                        refine SE.sv (s := ?g76)
                        refine se_bin (ho := ok_add) (ha := (SE.sv (s := se_int))) (hb := (SE.sv (s := se_var)))
                      case g71 =>
                        refine sss_cons (h1 := ?g77) (h2 := ?g78)
                        case g77 =>
                          refine ss_set (he := (se_lst (ha := sa_nil)))
                        case g78 =>
                          refine sss_cons (h1 := ?g79) (h2 := ?g80)
                          case g79 =>
                            refine ss_for (vs := [11]) (hg := sg_name) (hi := ?g81) (hb := ?g82)
                            case g81 =>
                              refine si_range1 (hm := n_range) (ha := (SE.sv (s := se_int)))
                            case g82 =>
                              unfold b__law_pieces_of_f1
                              refine sss_cons (h1 := ?g83) (h2 := ?g84)
                              case g83 =>
                                refine ss_set (he := ?g85)
                                refine se_ix (hi := ok_ix) (ha := ?g86) (hb := ?g87)
                                case g86 =>
                                  refine SE.sv (s := ?g88)
                                  refine se_lst (ha := ?g89)
                                  refine sa_cons (ha := (SE.sv (s := se_int))) (hr := ?g90)
                                  refine sa_cons (ha := (SE.sv (s := se_int))) (hr := ?g91)
                                  refine sa_cons (ha := (SE.sv (s := se_int))) (hr := ?g92)
                                  refine sa_cons (ha := (SE.sv (s := se_int))) (hr := ?g93)
                                  refine sa_cons (ha := (SE.sv (s := se_int))) (hr := ?g94)
                                  refine sa_cons (ha := (SE.sv (s := se_int))) (hr := ?g95)
                                  refine sa_cons (ha := (SE.sv (s := se_int))) (hr := ?g96)
                                  refine sa_cons (ha := (SE.sv (s := se_int))) (hr := sa_nil)
                                case g87 =>
                                  refine SE.sv (s := ?g97)
                                  refine se_call (hf := f__law_pick) (ha := ?g98)
                                  refine sa_cons (ha := (SE.sv (s := se_var))) (hr := ?g99)
                                  refine sa_cons (ha := (SE.sv (s := se_int))) (hr := sa_nil)
                              case g84 =>
                                refine sss_cons (h1 := ?g100) (h2 := ?g101)
                                case g100 =>
                                  refine ss_expr (he := ?g102)
                                  refine se_mut (slot := PySem.F.slot_list_append) (hty := PySem.F.type_list_append) (hm := ok_append) (ha := ?g103)
                                  refine sa_cons (ha := ?g104) (hr := sa_nil)
                                  refine SE.sv (s := ?g105)
                                  refine se_slv (hl := ?g106) (hh := ?g107)
                                  case g106 =>
                                    refine so_some (he := ?g108)
                                    refine SE.sv (s := ?g109)
                                    refine se_ixv (hi := ok_ix) (hb := (SE.sv (s := se_var)))
                                  case g107 =>
                                    refine so_some (he := ?g110)
                                    refine SE.sv (s := ?g111)
                                    refine se_bin (ho := ok_add) (ha := ?g112) (hb := (SE.sv (s := se_var)))
                                    refine SE.sv (s := ?g113)
                                    refine se_ixv (hi := ok_ix) (hb := (SE.sv (s := se_var)))
                                case g101 =>
                                  refine sss_cons (h1 := ?g114) (h2 := sss_nil)
                                  refine ss_stix (hk := (SE.sv (s := se_var))) (he := ?g115)
                                  refine SE.sv (s := ?g116)
                                  refine se_bin (ho := ok_add) (ha := ?g117) (hb := (SE.sv (s := se_var)))
                                  refine SE.sv (s := ?g118)
                                  refine se_ixv (hi := ok_ix) (hb := (SE.sv (s := se_var)))
                          case g80 =>
                            refine sss_cons (h1 := ?g119) (h2 := ?g120)
                            case g119 =>
                              refine ss_if (hc := ?g121) (ha := ?g122) (hb := sss_nil)
                              case g121 =>
                                refine sb_cmp (ho := ok_eq) (ha := (SE.sv (s := se_var))) (hb := (SE.sv (s := se_var)))
                              case g122 =>
                                refine sss_cons (h1 := ?g123) (h2 := ?g124)
                                case g123 =>
                                  refine ss_set (he := ?g125)
                                  refine se_call (hf := f__law_pick) (ha := ?g126)
                                  refine sa_cons (ha := (SE.sv (s := se_var))) (hr := ?g127)
                                  refine sa_cons (ha := (SE.sv (s := se_int))) (hr := sa_nil)
                                case g124 =>
                                  refine sss_cons (h1 := ?g128) (h2 := ?g129)
                                  case g128 =>
                                    refine ss_set (he := ?g130)
                                    refine se_call (hf := f__law_pick) (ha := ?g131)
                                    refine sa_cons (ha := (SE.sv (s := se_var))) (hr := ?g132)
                                    refine sa_cons (ha := ?g133) (hr := sa_nil)
                                    refine SE.sv (s := ?g134)
                                    refine se_bin (ho := ok_add) (ha := ?g135) (hb := (SE.sv (s := se_int)))
                                    refine SE.sv (s := ?g136)
                                    refine se_callB (hc := ok_len) (hm := n_len) (ha := ?g137)
                                    refine sa_cons (ha := ?g138) (hr := sa_nil)
                                    refine SE.sv (s := ?g139)
                                    refine se_ixv (hi := ok_ix) (hb := (SE.sv (s := se_var)))
                                  case g129 =>
                                    refine sss_cons (h1 := ?g140) (h2 := sss_nil)
                                    refine ss_stix (hk := (SE.sv (s := se_var))) (he := ?g141)
                                    refine SE.sv (s := ?g142)
                                    refine se_bin (ho := ok_add) (ha := ?g143) (hb := ?g144)
                                    case g143 =>
                                      refine SE.sv (s := ?g145)
                                      refine se_bin (ho := ok_add) (ha := ?g146) (hb := ?g147)
                                      case g146 =>
                                        refine SE.sv (s := ?g148)
                                        refine se_sl (he := ?g149) (hl := so_none) (hh := ?g150)
                                        case g149 =>
                                          refine SE.sv (s := ?g151)
                                          refine se_ixv (hi := ok_ix) (hb := (SE.sv (s := se_var)))
                                        case g150 =>
                                          refine so_some (he := (SE.sv (s := se_var)))
                                      case g147 =>
                                        refine SE.sv (s := ?g152)
                                        refine se_call (hf := f__law_one_of) (ha := ?g153)
                                        refine sa_cons (ha := (SE.sv (s := se_var))) (hr := ?g154)
                                        refine sa_cons (ha := (SE.sv (s := se_var))) (hr := sa_nil)
                                    case g144 =>
                                      refine SE.sv (s := ?g155)
                                      refine se_sl (he := ?g156) (hl := ?g157) (hh := so_none)
                                      case g156 =>
                                        refine SE.sv (s := ?g158)
                                        refine se_ixv (hi := ok_ix) (hb := (SE.sv (s := se_var)))
                                      case g157 =>
                                        refine so_some (he := ?g159)
                                        refine SE.sv (s := ?g160)
                                        refine se_bin (ho := ok_add) (ha := (SE.sv (s := se_var))) (hb := (SE.sv (s := se_int)))
                            case g120 =>
                              refine sss_cons (h1 := ?g161) (h2 := sss_nil)
                              refine ss_expr (he := ?g162)
                              refine se_mut (slot := PySem.F.slot_list_append) (hty := PySem.F.type_list_append) (hm := ok_append) (ha := ?g163)
                              refine sa_cons (ha := (SE.sv (s := se_var))) (hr := sa_nil)
                  case g67 =>
                    refine sss_cons (h1 := ?g164) (h2 := sss_nil)
                    unfold b__law_pieces_of_s10
                    exact (ss_ret (he := se_var))

/-! ### _law_turned -/
abbrev s__law_turned : Stmt := topS 45
theorem sc__law_turned : FnScope ["_law_lag"] ["_law_lag"] (defScope s__law_turned) := ⟨rfl, rfl, rfl, by decide +kernel, rfl, by decide +kernel, by decide +kernel⟩
theorem bn__law_turned (kV doc pm : Value) (an : Option Addr) (cdv ct : Value) (us : List Value) (hl : us.length = (["_law_lag"] : List Str).length) : bindArgs (PySem.W.fnOf "_law_turned" "_law_turned" (defArgs s__law_turned) (defBody s__law_turned) (defScope s__law_turned) .none kV doc pm an cdv ct) ⟨us, []⟩ = pure ((["_law_lag"] : List Str).zip us) :=
  match us, hl with | [_], _ => rfl
theorem ok__law_turned {k : Nat} (df : Df K mg "_law_turned" s__law_turned ["_law_lag"]) : FnM P w K mg base (k + 1) "_law_turned" 1 m__law_turned := by
  refine fnM_ok (mb := b__law_turned) df sc__law_turned ?_ rfl rfl
  unfold b__law_turned
  refine sss_cons (h1 := ?g1) (h2 := ?g2)
  case g1 =>
    refine ss_if (hc := ?g3) (ha := ?g4) (hb := sss_nil)
    case g3 =>
      refine sb_cmp (ho := ok_eq) (ha := ?g5) (hb := (SE.sv (s := se_str)))
      refine SE.sv (s := ?g6)
      refine se_ixv (hi := ok_ix) (hb := (SE.sv (s := se_int)))
    case g4 =>
      refine sss_cons (h1 := ?g7) (h2 := sss_nil)
      refine ss_ret (he := ?g8)
      refine se_bin (ho := ok_add) (ha := (SE.sv (s := se_str))) (hb := ?g9)
      refine SE.sv (s := ?g10)
      refine se_slv (hl := ?g11) (hh := so_none)
      refine so_some (he := (SE.sv (s := se_int)))
  case g2 =>
    refine sss_cons (h1 := ?g12) (h2 := sss_nil)
    refine ss_ret (he := ?g13)
    refine se_if (hc := ?g14) (ha := ?g15) (hb := se_var)
    case g14 =>
      refine sb_cmp (ho := ok_eq) (ha := ?g16) (hb := (SE.sv (s := se_str)))
      refine SE.sv (s := ?g17)
      refine se_ixv (hi := ok_ix) (hb := (SE.sv (s := se_int)))
    case g15 =>
      refine se_bin (ho := ok_add) (ha := (SE.sv (s := se_str))) (hb := ?g18)
      refine SE.sv (s := ?g19)
      refine se_slv (hl := ?g20) (hh := so_none)
      refine so_some (he := (SE.sv (s := se_int)))

/-! ### _law_lags -/
abbrev s__law_lags : Stmt := topS 46
theorem sc__law_lags : FnScope ["_law_pieces", "_law_first", "_law_second", "_law_lag", "_law_one", "_law_two", "_law_due", "_law_told", "_law_each"] ["_law_pieces"] (defScope s__law_lags) := ⟨rfl, rfl, rfl, by decide +kernel, rfl, by decide +kernel, by decide +kernel⟩
theorem bn__law_lags (kV doc pm : Value) (an : Option Addr) (cdv ct : Value) (us : List Value) (hl : us.length = (["_law_pieces"] : List Str).length) : bindArgs (PySem.W.fnOf "_law_lags" "_law_lags" (defArgs s__law_lags) (defBody s__law_lags) (defScope s__law_lags) .none kV doc pm an cdv ct) ⟨us, []⟩ = pure ((["_law_pieces"] : List Str).zip us) :=
  match us, hl with | [_], _ => rfl
theorem ok__law_lags {k : Nat} (df : Df K mg "_law_lags" s__law_lags ["_law_pieces"]) (f_lag_on : FnM P w K mg base k "lag_on" 3 m_lag_on) (f_lag_of : FnM P w K mg base k "lag_of" 2 m_lag_of) (f__law_turned : FnM P w K mg base k "_law_turned" 1 m__law_turned) (f__law_lag_of : FnM P w K mg base k "_law_lag_of" 2 m__law_lag_of) (n_all : mg "all" = none) (n_isinstance : mg "isinstance" = none) (n_str : mg "str" = none) : FnM P w K mg base (k + 1) "_law_lags" 1 m__law_lags := by
  refine fnM_ok (mb := b__law_lags) df sc__law_lags ?_ rfl rfl
  unfold b__law_lags
  refine sss_cons (h1 := (ss_set (he := se_str))) (h2 := ?g1)
  refine sss_cons (h1 := (ss_set (he := se_str))) (h2 := ?g2)
  refine sss_cons (h1 := (ss_set (he := se_str))) (h2 := ?g3)
  refine sss_cons (h1 := ?g4) (h2 := ?g5)
  case g4 =>
    refine ss_for (vs := [4, 5]) (hg := ?g6) (hi := ?g7) (hb := ?g8)
    case g6 =>
      refine sg_lst (h1 := ?g9)
      refine sgs_cons (h1 := sg_name) (h2 := ?g10)
      refine sgs_cons (h1 := sg_name) (h2 := sgs_nil)
    case g7 =>
      refine si_val (he := (SE.sv (s := se_var)))
    case g8 =>
      unfold b__law_lags_f1
      refine sss_cons (h1 := ?g11) (h2 := ?g12)
      case g11 =>
        refine ss_set (he := ?g13)
        refine se_bin (ho := ok_add) (ha := (SE.sv (s := se_var))) (hb := (SE.sv (s := se_var)))
      case g12 =>
        refine sss_cons (h1 := ?g14) (h2 := ?g15)
        case g14 =>
          refine ss_set (he := ?g16)
          refine se_bin (ho := ok_add) (ha := (SE.sv (s := se_var))) (hb := (SE.sv (s := se_var)))
        case g15 =>
          refine sss_cons (h1 := ?g17) (h2 := ?g18)
          case g17 =>
            refine ss_set (he := ?g19)
            refine se_call (hf := f__law_lag_of) (ha := ?g20)
            refine sa_cons (ha := (SE.sv (s := se_var))) (hr := ?g21)
            refine sa_cons (ha := (SE.sv (s := se_var))) (hr := sa_nil)
          case g18 =>
            refine sss_cons (h1 := ?g22) (h2 := ?g23)
            case g22 =>
              refine ss_set (he := ?g24)
              refine se_lst (ha := ?g25)
              refine sa_cons (ha := ?g26) (hr := ?g27)
              case g26 =>
                refine SE.sv (s := ?g28)
                refine se_call (hf := f_lag_on) (ha := ?g29)
                refine sa_cons (ha := (SE.sv (s := se_var))) (hr := ?g30)
                refine sa_cons (ha := (SE.sv (s := se_var))) (hr := ?g31)
                refine sa_cons (ha := (SE.sv (s := se_var))) (hr := sa_nil)
              case g27 =>
                refine sa_cons (ha := ?g32) (hr := ?g33)
                case g32 =>
                  refine SE.sv (s := ?g34)
                  refine se_call (hf := f_lag_on) (ha := ?g35)
                  refine sa_cons (ha := ?g36) (hr := ?g37)
                  case g36 =>
                    refine SE.sv (s := ?g38)
                    refine se_call (hf := f_lag_on) (ha := ?g39)
                    refine sa_cons (ha := (SE.sv (s := se_var))) (hr := ?g40)
                    refine sa_cons (ha := (SE.sv (s := se_var))) (hr := ?g41)
                    refine sa_cons (ha := (SE.sv (s := se_str))) (hr := sa_nil)
                  case g37 =>
                    refine sa_cons (ha := (SE.sv (s := se_str))) (hr := ?g42)
                    refine sa_cons (ha := (SE.sv (s := se_var))) (hr := sa_nil)
                case g33 =>
                  refine sa_cons (ha := ?g43) (hr := sa_nil)
                  refine SE.sv (s := ?g44)
                  refine se_call (hf := f_lag_on) (ha := ?g45)
                  refine sa_cons (ha := ?g46) (hr := ?g47)
                  case g46 =>
                    refine SE.sv (s := ?g48)
                    refine se_call (hf := f_lag_on) (ha := ?g49)
                    refine sa_cons (ha := (SE.sv (s := se_var))) (hr := ?g50)
                    refine sa_cons (ha := (SE.sv (s := se_str))) (hr := ?g51)
                    refine sa_cons (ha := (SE.sv (s := se_var))) (hr := sa_nil)
                  case g47 =>
                    refine sa_cons (ha := (SE.sv (s := se_var))) (hr := ?g52)
                    refine sa_cons (ha := (SE.sv (s := se_str))) (hr := sa_nil)
            case g23 =>
              refine sss_cons (h1 := ?g53) (h2 := ?g54)
              case g53 =>
                refine ss_set (he := ?g55)
                refine se_bin (ho := ok_add) (ha := (SE.sv (s := se_var))) (hb := ?g56)
                refine SE.sv (s := ?g57)
                refine se_lst (ha := ?g58)
                refine sa_cons (ha := ?g59) (hr := ?g60)
                case g59 =>
                  refine SE.sv (s := ?g61)
                  refine se_call (hf := f_lag_of) (ha := ?g62)
                  refine sa_cons (ha := (SE.sv (s := se_var))) (hr := ?g63)
                  refine sa_cons (ha := (SE.sv (s := se_var))) (hr := sa_nil)
                case g60 =>
                  refine sa_cons (ha := ?g64) (hr := sa_nil)
                  refine SE.sv (s := ?g65)
                  refine se_call (hf := f_lag_on) (ha := ?g66)
                  refine sa_cons (ha := (SE.sv (s := se_str))) (hr := ?g67)
                  refine sa_cons (ha := (SE.sv (s := se_var))) (hr := ?g68)
                  refine sa_cons (ha := (SE.sv (s := se_var))) (hr := sa_nil)
              case g54 =>
                refine sss_cons (h1 := ?g69) (h2 := ?g70)
                case g69 =>
                  refine ss_if (hc := ?g71) (ha := ?g72) (hb := sss_nil)
                  case g71 =>
                    refine sb_not (ha := ?g73)
                    refine sb_tru (ha := ?g74)
                    refine SE.sv (s := ?g75)
                    refine se_callB (hc := ok_all) (hm := n_all) (ha := ?g76)
                    refine sa_cons (ha := ?g77) (hr := sa_nil)
                    refine SE.sv (s := ?g78)
                    refine se_comp (own := [("_law_each", 8)]) (cap := [6]) (tvs := [8]) (hi := ?g79) (hg := sg_name) (hc := sbs_nil) (he := ?g80)
                    case g79 =>
                      refine si_val (he := (SE.sv (s := se_var)))
                    case g80 =>
                      unfold b__law_lags_c1
                      refine SE.sv (s := ?g81)
                      refine se_and (ha := ?g82) (hb := ?g83)
                      case g82 =>
                        refine SE.sv (s := ?g84)
                        refine se_isi (hmi := n_isinstance) (hm := n_str) (ha := (SE.sv (s := se_var)))
                      case g83 =>
                        refine se_one (ha := ?g85)
                        refine se_cmp (ho := ok_eq) (ha := (SE.sv (s := se_var))) (hb := (SE.sv (s := se_var)))
                  case g72 =>
                    refine sss_cons (h1 := (ss_ret (he := se_bl))) (h2 := sss_nil)
                case g70 =>
                  refine sss_cons (h1 := ?g86) (h2 := ?g87)
                  case g86 =>
                    refine ss_if (hc := ?g88) (ha := ?g89) (hb := sss_nil)
                    case g88 =>
                      refine sb_w (hw := ?g90)
                      refine sw_or (ha := ?g91) (hb := ?g92)
                      case g91 =>
                        refine sb_cmp (ho := ok_ne) (ha := ?g93) (hb := ?g94)
                        case g93 =>
                          refine SE.sv (s := ?g95)
                          refine se_call (hf := f_lag_of) (ha := ?g96)
                          refine sa_cons (ha := (SE.sv (s := se_var))) (hr := ?g97)
                          refine sa_cons (ha := (SE.sv (s := se_var))) (hr := sa_nil)
                        case g94 =>
                          refine SE.sv (s := ?g98)
                          refine se_call (hf := f__law_turned) (ha := ?g99)
                          refine sa_cons (ha := (SE.sv (s := se_var))) (hr := sa_nil)
                      case g92 =>
                        refine sw_one (ha := ?g100)
                        refine sb_cmp (ho := ok_ne) (ha := ?g101) (hb := (SE.sv (s := se_var)))
                        refine SE.sv (s := ?g102)
                        refine se_call (hf := f_lag_on) (ha := ?g103)
                        refine sa_cons (ha := (SE.sv (s := se_var))) (hr := ?g104)
                        refine sa_cons (ha := (SE.sv (s := se_str))) (hr := ?g105)
                        refine sa_cons (ha := (SE.sv (s := se_str))) (hr := sa_nil)
                    case g89 =>
                      refine sss_cons (h1 := (ss_ret (he := se_bl))) (h2 := sss_nil)
                  case g87 =>
                    refine sss_cons (h1 := ?g106) (h2 := sss_nil)
                    refine ss_set (he := ?g107)
                    refine se_ixv (hi := ok_ix) (hb := (SE.sv (s := se_int)))
  case g5 =>
    refine sss_cons (h1 := (ss_ret (he := se_bl))) (h2 := sss_nil)

/-! ### _law_papers_in_order -/
abbrev s__law_papers_in_order : Stmt := topS 47
theorem sc__law_papers_in_order : FnScope ["_law_script", "_law_signs", "_law_papers", "_law_bag", "_law_k", "_law_kept", "_law_due", "_law_paper"] ["_law_script", "_law_signs"] (defScope s__law_papers_in_order) := ⟨rfl, rfl, rfl, by decide +kernel, rfl, by decide +kernel, by decide +kernel⟩
theorem bn__law_papers_in_order (kV doc pm : Value) (an : Option Addr) (cdv ct : Value) (us : List Value) (hl : us.length = (["_law_script", "_law_signs"] : List Str).length) : bindArgs (PySem.W.fnOf "_law_papers_in_order" "_law_papers_in_order" (defArgs s__law_papers_in_order) (defBody s__law_papers_in_order) (defScope s__law_papers_in_order) .none kV doc pm an cdv ct) ⟨us, []⟩ = pure ((["_law_script", "_law_signs"] : List Str).zip us) :=
  match us, hl with | [_, _], _ => rfl
theorem ok__law_papers_in_order {k : Nat} (df : Df K mg "_law_papers_in_order" s__law_papers_in_order ["_law_script", "_law_signs"]) (f_paper_key : FnM P w K mg base k "paper_key" 1 m_paper_key) (f__law_same_tuple : FnM P w K mg base k "_law_same_tuple" 2 m__law_same_tuple) (f_in_order : FnM P w K mg base k "in_order" 1 m_in_order) (f__law_ordered : FnM P w K mg base k "_law_ordered" 1 m__law_ordered) (f__law_pick : FnM P w K mg base k "_law_pick" 2 m__law_pick) (f__law_one_of : FnM P w K mg base k "_law_one_of" 2 m__law_one_of) (f__law_paper_of : FnM P w K mg base k "_law_paper_of" 3 m__law_paper_of) (f__law_bag_of : FnM P w K mg base k "_law_bag_of" 2 m__law_bag_of) (n_all : mg "all" = none) (n_len : mg "len" = none) (n_tuple : mg "tuple" = none) (n_list : mg "list" = none) (n_range : mg "range" = none) (n_min : mg "min" = none) : FnM P w K mg base (k + 1) "_law_papers_in_order" 2 m__law_papers_in_order := by
  refine fnM_ok (mb := b__law_papers_in_order) df sc__law_papers_in_order ?_ rfl rfl
  unfold b__law_papers_in_order
  refine sss_cons (h1 := ?g1) (h2 := ?g2)
  case g1 =>
    unfold b__law_papers_in_order_s1
    refine ss_set (he := (se_lst (ha := sa_nil)))
  case g2 =>
    refine sss_cons (h1 := ?g3) (h2 := ?g4)
    case g3 =>
      unfold b__law_papers_in_order_s2
      refine ss_set (he := ?g5)
      refine se_call (hf := f__law_bag_of) (ha := ?g6)
      refine sa_cons (ha := (SE.sv (s := se_var))) (hr := ?g7)
      refine sa_cons (ha := (SE.sv (s := se_int))) (hr := sa_nil)
    case g4 =>
      refine sss_cons (h1 := ?g8) (h2 := ?g9)
      case g8 =>
        unfold b__law_papers_in_order_s3
        refine ss_for (vs := [4]) (hg := sg_name) (hi := ?g10) (hb := ?g11)
        case g10 =>
          refine si_range1 (hm := n_range) (ha := ?g12)
          refine SE.sv (s := ?g13)
          refine se_bin (ho := ok_add) (ha := ?g14) (hb := ?g15)
          case g14 =>
            refine SE.sv (s := ?g16)
            refine se_call (hf := f__law_pick) (ha := ?g17)
            refine sa_cons (ha := (SE.sv (s := se_var))) (hr := ?g18)
            refine sa_cons (ha := (SE.sv (s := se_int))) (hr := sa_nil)
          case g15 =>
            refine SE.sv (s := ?g19)
            refine se_callB (hc := ok_min2) (hm := n_min) (ha := ?g20)
            refine sa_cons (ha := (SE.sv (s := (se_lenv (hc := ok_len) (hm := n_len))))) (hr := ?g21)
            refine sa_cons (ha := (SE.sv (s := se_int))) (hr := sa_nil)
        case g11 =>
          unfold b__law_papers_in_order_f1
          refine sss_cons (h1 := ?g22) (h2 := ?g23)
          case g22 =>
            refine ss_set (he := ?g24)
            refine se_call (hf := f__law_bag_of) (ha := ?g25)
            refine sa_cons (ha := (SE.sv (s := se_var))) (hr := ?g26)
            refine sa_cons (ha := ?g27) (hr := sa_nil)
            refine SE.sv (s := ?g28)
            refine se_bin (ho := ok_add) (ha := (SE.sv (s := se_int))) (hb := (SE.sv (s := se_var)))
          case g23 =>
            refine sss_cons (h1 := ?g29) (h2 := ?g30)
            case g29 =>
              refine ss_expr (he := ?g31)
              refine se_mut (slot := PySem.F.slot_list_append) (hty := PySem.F.type_list_append) (hm := ok_append) (ha := ?g32)
              refine sa_cons (ha := ?g33) (hr := sa_nil)
              refine SE.sv (s := ?g34)
              refine se_call (hf := f__law_paper_of) (ha := ?g35)
              refine sa_cons (ha := (SE.sv (s := se_var))) (hr := ?g36)
              refine sa_cons (ha := (SE.sv (s := se_var))) (hr := ?g37)
              refine sa_cons (ha := ?g38) (hr := sa_nil)
              refine SE.sv (s := ?g39)
              refine se_ix (hi := ok_ix) (ha := ?g40) (hb := ?g41)
              case g40 =>
                refine SE.sv (s := ?g42)
                refine se_lst (ha := ?g43)
                refine sa_cons (ha := (SE.sv (s := se_int))) (hr := ?g44)
                refine sa_cons (ha := (SE.sv (s := se_int))) (hr := ?g45)
                refine sa_cons (ha := (SE.sv (s := se_int))) (hr := sa_nil)
              case g41 =>
                refine SE.sv (s := ?g46)
                refine se_call (hf := f__law_pick) (ha := ?g47)
                refine sa_cons (ha := (SE.sv (s := se_var))) (hr := ?g48)
                refine sa_cons (ha := (SE.sv (s := se_int))) (hr := sa_nil)
            case g30 =>
              refine sss_cons (h1 := ?g49) (h2 := sss_nil)
              refine ss_if (hc := ?g50) (ha := ?g51) (hb := sss_nil)
              case g50 =>
                refine sb_w (hw := ?g52)
                refine sw_and (ha := sb_truv) (hb := ?g53)
                refine sw_one (ha := ?g54)
                refine sb_cmp (ho := ok_eq) (ha := ?g55) (hb := (SE.sv (s := se_int)))
                refine SE.sv (s := ?g56)
                refine se_call (hf := f__law_pick) (ha := ?g57)
                refine sa_cons (ha := (SE.sv (s := se_var))) (hr := ?g58)
                refine sa_cons (ha := (SE.sv (s := se_int))) (hr := sa_nil)
              case g51 =>
                refine sss_cons (h1 := ?g59) (h2 := sss_nil)
                refine ss_expr (he := ?g60)
                refine se_mut (slot := PySem.F.slot_list_append) (hty := PySem.F.type_list_append) (hm := ok_append) (ha := ?g61)
                refine sa_cons (ha := ?g62) (hr := sa_nil)
                refine SE.sv (s := ?g63)
                refine se_lend (he := ?g64)
                refine se_call (hf := f__law_one_of) (ha := ?g65)
                refine sa_cons (ha := (SE.sv (s := se_var))) (hr := ?g66)
                refine sa_cons (ha := (SE.sv (s := se_var))) (hr := sa_nil)
      case g9 =>
        refine sss_cons (h1 := ?g67) (h2 := ?g68)
        case g67 =>
          unfold b__law_papers_in_order_s4
          refine ss_set (he := ?g69)
          refine se_callTy (hc := ok_list) (hm := n_list) (ha := ?g70)
          refine sa_cons (ha := (SE.sv (s := se_var))) (hr := sa_nil)
        case g68 =>
          refine sss_cons (h1 := ?g71) (h2 := ?g72)
          case g71 =>
            unfold b__law_papers_in_order_s5
            refine ss_set (he := ?g73)
            refine se_callTy (hc := ok_tuple) (hm := n_tuple) (ha := ?g74)
            refine sa_cons (ha := ?g75) (hr := sa_nil)
            refine SE.sv (s := ?g76)
            refine se_call (hf := f__law_ordered) (ha := ?g77)
            refine sa_cons (ha := (SE.sv (s := se_var))) (hr := sa_nil)
          case g72 =>
            refine sss_cons (h1 := ?g78) (h2 := ?g79)
            case g78 =>
              unfold b__law_papers_in_order_s6
              refine ss_if (hc := ?g80) (ha := ?g81) (hb := sss_nil)
              case g80 =>
                refine sb_w (hw := ?g82)
                refine sw_or (ha := ?g83) (hb := ?g84)
                case g83 =>
                  refine sb_not (ha := ?g85)
                  refine sb_tru (ha := ?g86)
                  refine SE.sv (s := ?g87)
                  refine se_call (hf := f__law_same_tuple) (ha := ?g88)
                  refine sa_cons (ha := ?g89) (hr := ?g90)
                  case g89 =>
                    refine SE.sv (s := ?g91)
                    refine se_call (hf := f_in_order) (ha := ?g92)
                    refine sa_cons (ha := (SE.sv (s := se_var))) (hr := sa_nil)
                  case g90 =>
                    refine sa_cons (ha := (SE.sv (s := se_var))) (hr := sa_nil)
                case g84 =>
                  refine sw_one (ha := ?g93)
                  refine sb_not (ha := ?g94)
                  refine sb_tru (ha := ?g95)
                  refine SE.sv (s := ?g96)
                  refine se_call (hf := f__law_same_tuple) (ha := ?g97)
                  refine sa_cons (ha := ?g98) (hr := ?g99)
                  case g98 =>
                    refine SE.sv (s := ?g100)
                    refine se_call (hf := f_in_order) (ha := ?g101)
                    refine sa_cons (ha := ?g102) (hr := sa_nil)
                    refine SE.sv (s := ?g103)
                    refine se_callTy (hc := ok_tuple) (hm := n_tuple) (ha := ?g104)
                    refine sa_cons (ha := (SE.sv (s := se_var))) (hr := sa_nil)
                  case g99 =>
                    refine sa_cons (ha := (SE.sv (s := se_var))) (hr := sa_nil)
              case g81 =>
                refine sss_cons (h1 := (ss_ret (he := se_bl))) (h2 := sss_nil)
            case g79 =>
              refine sss_cons (h1 := ?g105) (h2 := ?g106)
              case g105 =>
                unfold b__law_papers_in_order_s7
                refine ss_if (hc := ?g107) (ha := ?g108) (hb := sss_nil)
                case g107 =>
                  refine sb_w (hw := ?g109)
                  refine sw_or (ha := ?g110) (hb := ?g111)
                  case g110 =>
                    refine sb_cmp (ho := ok_ne) (ha := (SE.sv (s := se_var))) (hb := (SE.sv (s := se_var)))
                  case g111 =>
                    refine sw_or (ha := ?g112) (hb := ?g113)
                    case g112 =>
                      refine sb_cmp (ho := ok_ne) (ha := ?g114) (hb := (SE.sv (s := se_var)))
                      refine SE.sv (s := ?g115)
                      refine se_call (hf := f_in_order) (ha := ?g116)
                      refine sa_cons (ha := (SE.sv (s := se_var))) (hr := sa_nil)
                    case g113 =>
                      refine sw_one (ha := ?g117)
                      refine sb_not (ha := ?g118)
                      refine sb_tru (ha := ?g119)
                      refine SE.sv (s := ?g120)
                      refine se_call (hf := f__law_same_tuple) (ha := ?g121)
                      refine sa_cons (ha := ?g122) (hr := ?g123)
                      case g122 =>
                        refine SE.sv (s := ?g124)
                        refine se_call (hf := f_in_order) (ha := ?g125)
                        refine sa_cons (ha := ?g126) (hr := sa_nil)
                        refine SE.sv (s := (se_lst (ha := sa_nil)))
                      case g123 =>
                        refine sa_cons (ha := ?g127) (hr := sa_nil)
                        refine SE.sv (s := (se_tup (ha := sa_nil)))
                case g108 =>
                  refine sss_cons (h1 := (ss_ret (he := se_bl))) (h2 := sss_nil)
              case g106 =>
                refine sss_cons (h1 := ?g128) (h2 := sss_nil)
                unfold b__law_papers_in_order_s8
                refine ss_ret (he := ?g129)
                refine se_callB (hc := ok_all) (hm := n_all) (ha := ?g130)
                refine sa_cons (ha := ?g131) (hr := sa_nil)
                refine SE.sv (s := ?g132)
                refine se_comp (own := [("_law_paper", 7)]) (cap := []) (tvs := [7]) (hi := ?g133) (hg := sg_name) (hc := sbs_nil) (he := ?g134)
                case g133 =>
                  refine si_val (he := (SE.sv (s := se_var)))
                case g134 =>
                  unfold b__law_papers_in_order_c1
                  refine SE.sv (s := ?g135)
                  refine se_call (hf := f__law_same_tuple) (ha := ?g136)
                  refine sa_cons (ha := ?g137) (hr := ?g138)
                  case g137 =>
                    refine SE.sv (s := ?g139)
                    refine se_call (hf := f_paper_key) (ha := ?g140)
                    refine sa_cons (ha := (SE.sv (s := se_var))) (hr := sa_nil)
                  case g138 =>
                    refine sa_cons (ha := ?g141) (hr := sa_nil)
                    refine SE.sv (s := ?g142)
                    refine se_tup (ha := ?g143)
                    refine sa_cons (ha := (SE.sv (s := (se_lenv (hc := ok_len) (hm := n_len))))) (hr := ?g144)
                    refine sa_cons (ha := (SE.sv (s := se_var))) (hr := sa_nil)

/-! ### _law_refused -/
abbrev s__law_refused : Stmt := topS 48
theorem sc__law_refused : FnScope ["_law_odd", "_law_sign", "_law_shown", "fault"] ["_law_odd", "_law_sign"] (defScope s__law_refused) := ⟨rfl, rfl, rfl, by decide +kernel, rfl, by decide +kernel, by decide +kernel⟩
theorem bn__law_refused (kV doc pm : Value) (an : Option Addr) (cdv ct : Value) (us : List Value) (hl : us.length = (["_law_odd", "_law_sign"] : List Str).length) : bindArgs (PySem.W.fnOf "_law_refused" "_law_refused" (defArgs s__law_refused) (defBody s__law_refused) (defScope s__law_refused) .none kV doc pm an cdv ct) ⟨us, []⟩ = pure ((["_law_odd", "_law_sign"] : List Str).zip us) :=
  match us, hl with | [_, _], _ => rfl
theorem ok__law_refused {k : Nat} (df : Df K mg "_law_refused" s__law_refused ["_law_odd", "_law_sign"]) (f_sign_value : FnM P w K mg base k "sign_value" 2 m_sign_value) (f__law_classes : FnMX P w K mg base k "_law_classes" m__law_classes) (n_repr : mg "repr" = none) (m_CarryError : mg "CarryError" = some (.ref A_CarryError)) (ex_CarryError : ∀ nm ∈ (["BadSigns"] : List Str), ∃ C, mg nm = some (.ref C) ∧ PySem.W.exmOne K (.ref C) (.ref A_CarryError) = some true) (nx_CarryError : ∀ nm ∈ ([] : List Str), ∃ C, mg nm = some (.ref C) ∧ PySem.W.exmOne K (.ref C) (.ref A_CarryError) = some false) (xf_signs : ∀ nm ∈ (["BadSigns"] : List Str), ∃ D, mg nm = some (.ref D) ∧ XI K D ∧ PySem.W.findIn K (.ref D) "signs" = some none) : FnM P w K mg base (k + 1) "_law_refused" 2 m__law_refused := by
  refine fnM_ok (mb := b__law_refused) df sc__law_refused ?_ rfl rfl
  unfold b__law_refused
  refine sss_cons (h1 := ?g1) (h2 := ?g2)
  case g1 =>
    refine ss_set (he := ?g3)
    refine se_callB (hc := ok_reprX) (hm := n_repr) (ha := ?g4)
    refine sa_cons (ha := (SE.sv (s := se_var))) (hr := sa_nil)
  case g2 =>
    refine sss_cons (h1 := ?g5) (h2 := ?g6)
    case g5 =>
      refine ss_try (i := 3) (hc := m_CarryError) (hsub := ex_CarryError) (hoth := nx_CarryError) (hb := ?g7) (hs := ?g8)
      case g7 =>
        refine sss_cons (h1 := ?g9) (h2 := sss_nil)
        refine ss_expr (he := ?g10)
        refine se_call (hf := f_sign_value) (ha := ?g11)
        refine sa_cons (ha := (SE.sv (s := se_var))) (hr := ?g12)
        refine sa_cons (ha := (SE.sv (s := se_var))) (hr := sa_nil)
      case g8 =>
        refine sss_cons (h1 := ?g13) (h2 := sss_nil)
        refine ss_ret (he := ?g14)
        refine se_and (ha := ?g15) (hb := ?g16)
        case g15 =>
          refine SE.sv (s := ?g17)
          refine se_cmp (ho := ok_eq) (ha := (SE.sv (s := (se_callX (i := 3) (hf := f__law_classes))))) (hb := ?g18)
          refine SE.sv (s := ?g19)
          refine se_lst (ha := ?g20)
          refine sa_cons (ha := (SE.sv (s := se_str))) (hr := ?g21)
          refine sa_cons (ha := (SE.sv (s := se_str))) (hr := ?g22)
          refine sa_cons (ha := (SE.sv (s := se_str))) (hr := sa_nil)
        case g16 =>
          refine se_one (ha := ?g23)
          refine se_cmp (ho := ok_eq) (ha := ?g24) (hb := (SE.sv (s := se_var)))
          refine SE.sv (s := ?g25)
          refine se_callB (hc := ok_reprX) (hm := n_repr) (ha := ?g26)
          refine sa_cons (ha := (SE.sv (s := (se_xf (hcl := xf_signs))))) (hr := sa_nil)
    case g6 =>
      refine sss_cons (h1 := (ss_ret (he := se_bl))) (h2 := sss_nil)

/-! ### _law_values -/
abbrev s__law_values : Stmt := topS 49
theorem sc__law_values : FnScope ["_law_bag", "_law_signs", "_law_every", "_law_good", "_law_k", "_law_value", "_law_at", "_law_odd", "_law_one"] ["_law_bag", "_law_signs"] (defScope s__law_values) := ⟨rfl, rfl, rfl, by decide +kernel, rfl, by decide +kernel, by decide +kernel⟩
theorem bn__law_values (kV doc pm : Value) (an : Option Addr) (cdv ct : Value) (us : List Value) (hl : us.length = (["_law_bag", "_law_signs"] : List Str).length) : bindArgs (PySem.W.fnOf "_law_values" "_law_values" (defArgs s__law_values) (defBody s__law_values) (defScope s__law_values) .none kV doc pm an cdv ct) ⟨us, []⟩ = pure ((["_law_bag", "_law_signs"] : List Str).zip us) :=
  match us, hl with | [_, _], _ => rfl
theorem ok__law_values {k : Nat} (df : Df K mg "_law_values" s__law_values ["_law_bag", "_law_signs"]) (f__law_refused : FnM P w K mg base k "_law_refused" 2 m__law_refused) (f__law_pick : FnM P w K mg base k "_law_pick" 2 m__law_pick) (f__law_is_int : FnM P w K mg base k "_law_is_int" 1 m__law_is_int) (f_sign_value : FnM P w K mg base k "sign_value" 2 m_sign_value) (n_all : mg "all" = none) (n_list : mg "list" = none) (n_len : mg "len" = none) (n_range : mg "range" = none) : FnM P w K mg base (k + 1) "_law_values" 2 m__law_values := by
  refine fnM_ok (mb := b__law_values) df sc__law_values ?_ rfl rfl
  unfold b__law_values
  refine sss_cons (h1 := ?g1) (h2 := ?g2)
  case g1 =>
    unfold b__law_values_s1
    exact (ss_set (he := se_str))
  case g2 =>
    refine sss_cons (h1 := ?g3) (h2 := ?g4)
    case g3 =>
      unfold b__law_values_s2
      refine ss_for (vs := [3]) (hg := sg_name) (hi := ?g5) (hb := ?g6)
      case g5 =>
        refine si_val (he := ?g7)
        refine SE.sv (s := ?g8)
        refine se_tup (ha := ?g9)
        refine sa_cons (ha := (SE.sv (s := se_var))) (hr := ?g10)
        refine sa_cons (ha := ?g11) (hr := ?g12)
        case g11 =>
          refine SE.sv (s := ?g13)
          refine se_slv (hl := so_none) (hh := ?g14)
          refine so_some (he := (SE.sv (s := se_int)))
        case g12 =>
          refine sa_cons (ha := ?g15) (hr := ?g16)
          case g15 =>
            refine SE.sv (s := ?g17)
            refine se_slv (hl := ?g18) (hh := so_none)
            refine so_some (he := (SE.sv (s := se_int)))
          case g16 =>
            refine sa_cons (ha := ?g19) (hr := sa_nil)
            refine SE.sv (s := ?g20)
            refine se_bin (ho := ok_add) (ha := ?g21) (hb := (SE.sv (s := se_str)))
            refine SE.sv (s := ?g22)
            refine se_slv (hl := so_none) (hh := ?g23)
            refine so_some (he := (SE.sv (s := se_int)))
      case g6 =>
        unfold b__law_values_f2
        refine sss_cons (h1 := ?g24) (h2 := sss_nil)
        refine ss_for (vs := [4]) (hg := sg_name) (hi := ?g25) (hb := ?g26)
        case g25 =>
          refine si_range1 (hm := n_range) (ha := (SE.sv (s := (se_lenv (hc := ok_len) (hm := n_len)))))
        case g26 =>
          unfold b__law_values_f1
          refine sss_cons (h1 := ?g27) (h2 := ?g28)
          case g27 =>
            refine ss_set (he := ?g29)
            refine se_call (hf := f_sign_value) (ha := ?g30)
            refine sa_cons (ha := (SE.sv (s := se_var))) (hr := ?g31)
            refine sa_cons (ha := ?g32) (hr := sa_nil)
            refine SE.sv (s := ?g33)
            refine se_ixv (hi := ok_ix) (hb := (SE.sv (s := se_var)))
          case g28 =>
            refine sss_cons (h1 := ?g34) (h2 := sss_nil)
            refine ss_if (hc := ?g35) (ha := ?g36) (hb := sss_nil)
            case g35 =>
              refine sb_w (hw := ?g37)
              refine sw_or (ha := ?g38) (hb := ?g39)
              case g38 =>
                refine sb_not (ha := ?g40)
                refine sb_tru (ha := ?g41)
                refine SE.sv (s := ?g42)
                refine se_call (hf := f__law_is_int) (ha := ?g43)
                refine sa_cons (ha := (SE.sv (s := se_var))) (hr := sa_nil)
              case g39 =>
                refine sw_one (ha := ?g44)
                refine sb_cmp (ho := ok_ne) (ha := (SE.sv (s := se_var))) (hb := (SE.sv (s := se_var)))
            case g36 =>
              refine sss_cons (h1 := (ss_ret (he := se_bl))) (h2 := sss_nil)
    case g4 =>
      refine sss_cons (h1 := ?g45) (h2 := ?g46)
      case g45 =>
        unfold b__law_values_s3
        refine ss_set (he := ?g47)
        refine se_call (hf := f__law_pick) (ha := ?g48)
        refine sa_cons (ha := (SE.sv (s := se_var))) (hr := ?g49)
        refine sa_cons (ha := (SE.sv (s := (se_lenv (hc := ok_len) (hm := n_len))))) (hr := sa_nil)
      case g46 =>
        refine sss_cons (h1 := ?g50) (h2 := ?g51)
        case g50 =>
          unfold b__law_values_s4
          refine ss_set (he := ?g52)
          refine se_lst (ha := ?g53)
          refine sa_cons (ha := ?g54) (hr := ?g55)
          case g54 =>
            refine SE.sv (s := ?g56)
            refine se_rev (he := (SE.sv (s := se_var)))
          case g55 =>
            refine sa_cons (ha := ?g57) (hr := ?g58)
            case g57 =>
              refine SE.sv (s := ?g59)
              refine se_bin (ho := ok_add) (ha := (SE.sv (s := se_var))) (hb := ?g60)
              refine SE.sv (s := ?g61)
              refine se_ixv (hi := ok_ix) (hb := ?g62)
              refine SE.sv (s := ?g63)
              refine se_bin (ho := ok_sub) (ha := (SE.sv (s := (se_lenv (hc := ok_len) (hm := n_len))))) (hb := (SE.sv (s := se_int)))
            case g58 =>
              refine sa_cons (ha := ?g64) (hr := ?g65)
              case g64 =>
                refine SE.sv (s := ?g66)
                refine se_bin (ho := ok_add) (ha := ?g67) (hb := ?g68)
                case g67 =>
                  refine SE.sv (s := ?g69)
                  refine se_bin (ho := ok_add) (ha := ?g70) (hb := ?g71)
                  case g70 =>
                    refine SE.sv (s := ?g72)
                    refine se_slv (hl := so_none) (hh := ?g73)
                    refine so_some (he := (SE.sv (s := se_var)))
                  case g71 =>
                    refine SE.sv (s := ?g74)
                    refine se_ixv (hi := ok_ix) (hb := (SE.sv (s := se_var)))
                case g68 =>
                  refine SE.sv (s := ?g75)
                  refine se_slv (hl := ?g76) (hh := so_none)
                  refine so_some (he := (SE.sv (s := se_var)))
              case g65 =>
                refine sa_cons (ha := ?g77) (hr := ?g78)
                case g77 =>
                  refine SE.sv (s := ?g79)
                  refine se_ixv (hi := ok_ix) (hb := (SE.sv (s := se_var)))
                case g78 =>
                  refine sa_cons (ha := (SE.sv (s := se_str))) (hr := ?g80)
                  refine sa_cons (ha := ?g81) (hr := ?g82)
                  case g81 =>
                    refine SE.sv (s := ?g83)
                    refine se_slv (hl := so_none) (hh := ?g84)
                    refine so_some (he := (SE.sv (s := se_int)))
                  case g82 =>
                    refine sa_cons (ha := (SE.sv (s := se_var))) (hr := sa_nil)
        case g51 =>
          refine sss_cons (h1 := ?g85) (h2 := ?g86)
          case g85 =>
            unfold b__law_values_s5
            refine ss_set (he := ?g87)
            refine se_bin (ho := ok_add) (ha := (SE.sv (s := se_var))) (hb := ?g88)
            refine SE.sv (s := ?g89)
            refine se_lst (ha := ?g90)
            refine sa_cons (ha := ?g91) (hr := ?g92)
            case g91 =>
              refine SE.sv (s := ?g93)
              refine se_bin (ho := ok_add) (ha := ?g94) (hb := (SE.sv (s := se_str)))
              refine SE.sv (s := ?g95)
              refine se_slv (hl := so_none) (hh := ?g96)
              refine so_some (he := (SE.sv (s := se_int)))
            case g92 =>
              refine sa_cons (ha := ?g97) (hr := ?g98)
              case g97 =>
                refine SE.sv (s := ?g99)
                refine se_bin (ho := ok_add) (ha := (SE.sv (s := se_str))) (hb := ?g100)
                refine SE.sv (s := ?g101)
                refine se_slv (hl := so_none) (hh := ?g102)
                refine so_some (he := (SE.sv (s := se_int)))
              case g98 =>
                refine sa_cons (ha := ?g103) (hr := ?g104)
                case g103 =>
                  refine SE.sv (s := ?g105)
                  refine se_bin (ho := ok_add) (ha := ?g106) (hb := (SE.sv (s := se_str)))
                  refine SE.sv (s := ?g107)
                  refine se_slv (hl := so_none) (hh := ?g108)
                  refine so_some (he := (SE.sv (s := se_int)))
                case g104 =>
                  refine sa_cons (ha := (SE.sv (s := se_non))) (hr := ?g109)
                  refine sa_cons (ha := (SE.sv (s := se_int))) (hr := ?g110)
                  refine sa_cons (ha := (SE.sv (s := se_bl))) (hr := ?g111)
                  refine sa_cons (ha := ?g112) (hr := ?g113)
                  case g112 =>
                    refine SE.sv (s := ?g114)
                    refine se_callTy (hc := ok_list) (hm := n_list) (ha := ?g115)
                    refine sa_cons (ha := (SE.sv (s := se_var))) (hr := sa_nil)
                  case g113 =>
                    refine sa_cons (ha := ?g116) (hr := sa_nil)
                    refine SE.sv (s := ?g117)
                    refine se_tup (ha := ?g118)
                    refine sa_cons (ha := (SE.sv (s := se_var))) (hr := sa_nil)
          case g86 =>
            refine sss_cons (h1 := ?g119) (h2 := sss_nil)
            unfold b__law_values_s6
            refine ss_ret (he := ?g120)
            refine se_callB (hc := ok_all) (hm := n_all) (ha := ?g121)
            refine sa_cons (ha := ?g122) (hr := sa_nil)
            refine SE.sv (s := ?g123)
            refine se_comp (own := [("_law_one", 8)]) (cap := [1, 6]) (tvs := [8]) (hi := ?g124) (hg := sg_name) (hc := sbs_nil) (he := ?g125)
            case g124 =>
              refine si_val (he := (SE.sv (s := se_var)))
            case g125 =>
              unfold b__law_values_c1
              refine SE.sv (s := ?g126)
              refine se_call (hf := f__law_refused) (ha := ?g127)
              refine sa_cons (ha := (SE.sv (s := se_var))) (hr := ?g128)
              refine sa_cons (ha := ?g129) (hr := sa_nil)
              refine SE.sv (s := ?g130)
              refine se_ixv (hi := ok_ix) (hb := (SE.sv (s := se_var)))

/-! ### law -/
abbrev s_law : Stmt := topS 50
theorem sc_law : FnScope ["_law_script", "_law_bag", "_law_signs"] ["_law_script"] (defScope s_law) := ⟨rfl, rfl, rfl, by decide +kernel, rfl, by decide +kernel, by decide +kernel⟩
theorem bn_law (kV doc pm : Value) (an : Option Addr) (cdv ct : Value) (us : List Value) (hl : us.length = (["_law_script"] : List Str).length) : bindArgs (PySem.W.fnOf "law" "law" (defArgs s_law) (defBody s_law) (defScope s_law) .none kV doc pm an cdv ct) ⟨us, []⟩ = pure ((["_law_script"] : List Str).zip us) :=
  match us, hl with | [_], _ => rfl
theorem sim_law {k : Nat} (f__law_papers_in_order : FnM P w K mg base k "_law_papers_in_order" 2 m__law_papers_in_order) (f__law_pieces_of : FnM P w K mg base k "_law_pieces_of" 2 m__law_pieces_of) (f__law_lags : FnM P w K mg base k "_law_lags" 1 m__law_lags) (f__law_values : FnM P w K mg base k "_law_values" 2 m__law_values) (f__law_many_signs : FnM P w K mg base k "_law_many_signs" 1 m__law_many_signs) (f__law_bag_of : FnM P w K mg base k "_law_bag_of" 2 m__law_bag_of) : SSs ⟨P, w, K, mg, base, ["_law_script", "_law_bag", "_law_signs"], defScope s_law, k, fun _ => true, true⟩ (defBody s_law) b_law := by
  unfold b_law
  refine sss_cons (h1 := ?g1) (h2 := ?g2)
  case g1 =>
    unfold b_law_s1
    refine ss_set (he := ?g3)
    refine se_call (hf := f__law_bag_of) (ha := ?g4)
    refine sa_cons (ha := (SE.sv (s := se_var))) (hr := ?g5)
    refine sa_cons (ha := (SE.sv (s := se_int))) (hr := sa_nil)
  case g2 =>
    refine sss_cons (h1 := ?g6) (h2 := ?g7)
    case g6 =>
      unfold b_law_s2
      refine ss_set (he := ?g8)
      refine se_call (hf := f__law_many_signs) (ha := ?g9)
      refine sa_cons (ha := (SE.sv (s := se_var))) (hr := sa_nil)
    case g7 =>
      refine sss_cons (h1 := ?g10) (h2 := ?g11)
      case g10 =>
        unfold b_law_s3
        refine ss_if (hc := ?g12) (ha := ?g13) (hb := sss_nil)
        case g12 =>
          refine sb_not (ha := ?g14)
          refine sb_tru (ha := ?g15)
          refine SE.sv (s := ?g16)
          refine se_call (hf := f__law_values) (ha := ?g17)
          refine sa_cons (ha := (SE.sv (s := se_var))) (hr := ?g18)
          refine sa_cons (ha := (SE.sv (s := se_var))) (hr := sa_nil)
        case g13 =>
          refine sss_cons (h1 := (ss_ret (he := se_bl))) (h2 := sss_nil)
      case g11 =>
        refine sss_cons (h1 := ?g19) (h2 := sss_nil)
        unfold b_law_s4
        refine ss_ret (he := ?g20)
        refine se_and (ha := ?g21) (hb := ?g22)
        case g21 =>
          refine SE.sv (s := ?g23)
          refine se_call (hf := f__law_lags) (ha := ?g24)
          refine sa_cons (ha := ?g25) (hr := sa_nil)
          refine SE.sv (s := ?g26)
          refine se_call (hf := f__law_pieces_of) (ha := ?g27)
          refine sa_cons (ha := (SE.sv (s := se_var))) (hr := ?g28)
          refine sa_cons (ha := (SE.sv (s := se_var))) (hr := sa_nil)
        case g22 =>
          refine se_one (ha := ?g29)
          refine se_call (hf := f__law_papers_in_order) (ha := ?g30)
          refine sa_cons (ha := (SE.sv (s := se_var))) (hr := ?g31)
          refine sa_cons (ha := (SE.sv (s := se_var))) (hr := sa_nil)

end

end Mi
end
section
set_option Elab.async false
set_option linter.all false
set_option maxRecDepth 100000
set_option maxHeartbeats 1000000
open PySem PySem.Spec PyProof.Rows L2
namespace Mi
/-! ## data, common to the laws -/
/-- a tuple (true), a list (false) -/
def sq (k : Bool) (ds : List D) : D := if k then .tup ds else .lst ds
@[simp] theorem sq_ix (h : MH) (k : Bool) (ds : List D) (j : Int) : ixD h (sq k ds) (.int j) = atI ds j := by cases k <;> rfl
@[simp] theorem sq_len (h : MH) (k : Bool) (ds : List D) : lenO h [sq k ds] = some (.v (.int ds.length)) := by cases k <;> rfl
@[simp] theorem sq_items (k : Bool) (ds : List D) : itemsD (sq k ds) = some ds := by cases k <;> rfl
@[simp] theorem sq_tup (h : MH) (k : Bool) (ds : List D) : tupleO h [sq k ds] = some (.v (.tup ds)) := by cases k <;> rfl
@[simp] theorem sq_ty (k : Bool) (ds : List D) : tyD (sq k ds) = if k then "tuple" else "list" := by cases k <;> rfl
abbrev nD (n : Nat) : D := .int (n : Int)
/-- all signs -/
abbrev sgs : List Nat := [48, 49, 50, 51, 52, 53, 54, 55, 56, 57, 65, 66, 67, 68, 69, 70, 71, 72, 73, 74, 75, 76, 77, 78, 79, 80, 81, 82, 83, 84, 85, 86, 87, 88, 89, 90]
theorem sgs_le {c : Nat} (h : c ∈ sgs) : 48 ≤ c ∧ c ≤ 90 := by
  have : ∀ c ∈ sgs, 48 ≤ c ∧ c ≤ 90 := by decide
  exact this c h
/-- the signs of a rule -/
structure Sn (s : List Nat) : Prop where
  lo : 2 ≤ s.length
  hi : s.length ≤ 12
  asc : s.Pairwise (· < ·)
  sg : ∀ c ∈ s, c ∈ sgs
theorem Sn.nd {s : List Nat} (h : Sn s) : s.Nodup := h.asc.imp fun h => Nat.ne_of_lt h
/-- a paper of these signs -/
def Pa (s p : List Nat) : Prop := p.length ≤ 60 ∧ ∀ c ∈ p, c ∈ s
/-! ## data that is compared and shown -/
def Fi : Nat → D → Prop
  | _, .non => True
  | _, .int i => 0 ≤ i ∧ i ≤ 100
  | _, .str s => ∀ c ∈ s, c < 0x110000
  | k + 1, .tup ds => ds.length ≤ 1000 ∧ ∀ d ∈ ds, Fi k d
  | k + 1, .lst ds => ds.length ≤ 1000 ∧ ∀ d ∈ ds, Fi k d
  | _, _ => False
theorem Fi.sq {k : Nat} {b : Bool} {ds : List D} (h1 : ds.length ≤ 1000) (h2 : ∀ d ∈ ds, Fi k d) : Fi (k + 1) (sq b ds) := by
  cases b <;> exact ⟨h1, h2⟩
theorem Fi.nD (k : Nat) {n : Nat} (h : n ≤ 100) : Fi k (nD n) := by
  cases k <;> exact ⟨by omega, by omega⟩
theorem Fi.str (k : Nat) {s : List Nat} (h : ∀ c ∈ s, c < 0x110000) : Fi k (.str s) := by
  cases k <;> exact h
theorem Fi.nums {k : Nat} {b : Bool} {ws : List Nat} (h1 : ws.length ≤ 1000) (h2 : ∀ n ∈ ws, n ≤ 100) : Fi (k + 1) (Mi.sq b (ws.map Mi.nD)) := by
  refine Fi.sq (by simpa using h1) fun d m => ?_
  obtain ⟨w, hw, rfl⟩ := List.mem_map.mp m
  exact Fi.nD _ (h2 w hw)
theorem sg_c {s : List Nat} (h : Sn s) {c : Nat} (hc : c ∈ s) : c < 0x110000 := by
  have := sgs_le (h.sg c hc)
  omega
theorem Fi.ok : ∀ (k : Nat) (d : D), Fi k d → dOk d = true ∧ dDep d ≤ k
  | _, .non, _ => by simp [dOk, dDep]
  | _, .int i, _ => by simp [dOk, dDep]
  | k, .str s, h => by
    have : ∀ c ∈ s, c < 0x110000 := by cases k <;> exact h
    simpa [dOk, dDep] using this
  | k + 1, .tup ds, h => by
    simp only [dOk, dDep]
    exact ⟨dOks_all fun d m => (Fi.ok k d (h.2 d m)).1, Nat.succ_le_succ (dDeps_le fun d m => (Fi.ok k d (h.2 d m)).2)⟩
  | k + 1, .lst ds, h => by
    simp only [dOk, dDep]
    exact ⟨dOks_all fun d m => (Fi.ok k d (h.2 d m)).1, Nat.succ_le_succ (dDeps_le fun d m => (Fi.ok k d (h.2 d m)).2)⟩
  | 0, .tup ds, h => h.elim
  | 0, .lst ds, h => h.elim
  | k, .bl _, h => by cases k <;> exact h.elim
  | k, .loc _, h => by cases k <;> exact h.elim
  | k, .dct _ _, h => by cases k <;> exact h.elim
theorem sho100 : ∀ n : Nat, n ≤ 100 → (PyData.shown (.int (n : Int))).length ≤ 13 := by
  have : ∀ n : Fin 101, (PyData.shown (.int ((n : Nat) : Int))).length ≤ 13 := by decide +kernel
  exact fun n h => this ⟨n, by omega⟩
theorem log100 : ∀ n : Nat, n ≤ 100 → n.log2 < 1920 := by
  have : ∀ n : Fin 101, (n : Nat).log2 < 1920 := by decide +kernel
  exact fun n h => this ⟨n, by omega⟩
theorem toPys_all {P : PyData → Bool} {Q : List PyData → Bool} (h0 : Q [] = true) (h1 : ∀ a l, Q (a :: l) = (P a && Q l)) : ∀ (ds : List D) (ps : List PyData), toPys ds = some ps → (∀ d ∈ ds, ∀ p, toPy d = some p → P p = true) → Q ps = true
  | [], ps, e, _ => by simp [toPys] at e; subst e; exact h0
  | d :: ds, ps, e, h => by
    simp only [toPys] at e
    split at e
    · rename_i a r e1 e2
      cases e
      rw [h1, h d (by simp) a e1, toPys_all h0 h1 ds r e2 fun x m => h x (by simp [m])]
      rfl
    · cases e
theorem Fi.sho : ∀ (k : Nat) (d : D), Fi k d → ∀ p, toPy d = some p → p.showable = true ∧ p.leavesShort 13 = true
  | _, .non, _, p, e => by simp [toPy] at e; subst e; simp [PyData.showable, PyData.leavesShort]
  | k, .int i, h, p, e => by
    have h : 0 ≤ i ∧ i ≤ 100 := by cases k <;> exact h
    simp [toPy] at e; subst e
    obtain ⟨n, rfl⟩ := Int.eq_ofNat_of_zero_le h.1
    simp only [PyData.showable, PyData.leavesShort, decide_eq_true_eq]
    exact ⟨log100 n (by omega), sho100 n (by omega)⟩
  | k, .str s, h, p, e => by
    have h : ∀ c ∈ s, c < 0x110000 := by cases k <;> exact h
    simp [toPy] at e; subst e
    refine ⟨by simp [PyData.showable], ?_⟩
    simp only [PyData.leavesShort, S_list, List.all_eq_true, decide_eq_true_eq]
    exact fun c hc => Nat.lt_of_lt_of_le (h c hc) (by decide)
  | k + 1, .tup ds, h, p, e => by
    simp only [toPy, Option.map_eq_some_iff] at e
    obtain ⟨ps, e, rfl⟩ := e
    simp only [PyData.showable, PyData.leavesShort]
    exact ⟨toPys_all (P := PyData.showable) (by simp [PyData.showableAll]) (fun a l => by simp [PyData.showableAll]) ds ps e fun d m p e => (Fi.sho k d (h.2 d m) p e).1,
      toPys_all (P := PyData.leavesShort 13) (by simp [PyData.leavesShortAll]) (fun a l => by simp [PyData.leavesShortAll]) ds ps e fun d m p e => (Fi.sho k d (h.2 d m) p e).2⟩
  | k + 1, .lst ds, h, p, e => by
    simp only [toPy, Option.map_eq_some_iff] at e
    obtain ⟨ps, e, rfl⟩ := e
    simp only [PyData.showable, PyData.leavesShort]
    exact ⟨toPys_all (P := PyData.showable) (by simp [PyData.showableAll]) (fun a l => by simp [PyData.showableAll]) ds ps e fun d m p e => (Fi.sho k d (h.2 d m) p e).1,
      toPys_all (P := PyData.leavesShort 13) (by simp [PyData.leavesShortAll]) (fun a l => by simp [PyData.leavesShortAll]) ds ps e fun d m p e => (Fi.sho k d (h.2 d m) p e).2⟩
  | 0, .tup ds, h, _, _ => h.elim
  | 0, .lst ds, h, _, _ => h.elim
  | k, .bl _, h, _, _ => by cases k <;> exact h.elim
  | k, .loc _, h, _, _ => by cases k <;> exact h.elim
  | k, .dct _ _, h, _, _ => by cases k <;> exact h.elim
mutual
def dBulk : D → Nat
  | .str s => s.length
  | .tup ds => dBulks ds
  | .lst ds => dBulks ds
  | _ => 0
def dBulks : List D → Nat
  | [] => 0
  | d :: ds => dBulk d + 1 + dBulks ds
end
mutual
theorem toPy_bulk : ∀ (d : D) (p : PyData), toPy d = some p → p.bulk = dBulk d
  | .non, p, e => by simp [toPy] at e; subst e; simp [PyData.bulk, dBulk]
  | .bl b, p, e => by simp [toPy] at e; subst e; simp [PyData.bulk, dBulk]
  | .int i, p, e => by simp [toPy] at e; subst e; simp [PyData.bulk, dBulk]
  | .str s, p, e => by simp [toPy] at e; subst e; simp [PyData.bulk, dBulk, S]
  | .tup ds, p, e => by
    simp only [toPy, Option.map_eq_some_iff] at e
    obtain ⟨ps, e, rfl⟩ := e
    simp only [PyData.bulk, dBulk]
    exact toPys_bulk ds ps e
  | .lst ds, p, e => by
    simp only [toPy, Option.map_eq_some_iff] at e
    obtain ⟨ps, e, rfl⟩ := e
    simp only [PyData.bulk, dBulk]
    exact toPys_bulk ds ps e
  | .loc n, p, e => by simp [toPy] at e
  | .dct k d, p, e => by simp [toPy] at e
theorem toPys_bulk : ∀ (ds : List D) (ps : List PyData), toPys ds = some ps → PyData.bulkAll ps = dBulks ds
  | [], ps, e => by simp [toPys] at e; subst e; simp [PyData.bulkAll, dBulks]
  | d :: ds, ps, e => by
    simp only [toPys] at e
    split at e
    · rename_i a r e1 e2
      cases e
      simp only [PyData.bulkAll, dBulks]
      rw [toPy_bulk d a e1, toPys_bulk ds r e2]
    · cases e
end
/-- data that can be compared and shown -/
structure Fine (d : D) : Prop where
  fi : Fi 64 d
  bk : dBulk d ≤ 1048576
theorem Fine.eq {d : D} (h : Fine d) : eqD d d = some true := by
  obtain ⟨h1, h2⟩ := Fi.ok _ _ h.fi
  exact eqD_refl h1 h2
theorem Fine.repr {d : D} (f : Fine d) : ∃ t, ∀ h, reprXO h [d] = some (.v (.str t)) := by
  obtain ⟨h1, h2⟩ := Fi.ok _ _ f.fi
  obtain ⟨p, p1, p2, p3⟩ := toPy_ok d h1
  obtain ⟨s1, s2⟩ := Fi.sho _ _ f.fi p p1
  have b := toPy_bulk d p p1
  have l := PyData.shown_fits_bulk (B := 13) (by decide) (by decide) s2 (by rw [b]; exact f.bk)
  refine ⟨p.shown.cps.toList, fun h => ?_⟩
  have e : reprXO h [d] = reprO h [d] := by
    unfold reprXO
    split
    · rename_i q
      cases q
      exact f.fi.elim
    · rfl
  rw [e]
  unfold reprO
  dsimp only
  rw [p1]
  dsimp only
  rw [if_pos ⟨s1, by rw [p3]; exact h2, l⟩]
theorem dBulks_le {k : Nat} : ∀ (ds : List D), (∀ d ∈ ds, dBulk d + 1 ≤ k) → dBulks ds ≤ k * ds.length
  | [], _ => by simp [dBulks]
  | d :: ds, h => by
    have h1 := h d (by simp)
    have h2 := dBulks_le ds fun e m => h e (by simp [m])
    simp only [dBulks, List.length_cons, Nat.mul_add, Nat.mul_one]
    omega
@[simp] theorem dBulk_sq (b : Bool) (ds : List D) : dBulk (sq b ds) = dBulks ds := by cases b <;> simp [sq, dBulk]
theorem dBulk_nums (ws : List Nat) : dBulks (ws.map nD) ≤ ws.length := by
  have := dBulks_le (k := 1) (ws.map nD) fun d m => by
    obtain ⟨w, _, rfl⟩ := List.mem_map.mp m
    simp [dBulk]
  simpa using this
mutual
def lstD : D → D
  | .tup ds => .lst (lstDs ds)
  | .lst ds => .lst (lstDs ds)
  | d => d
def lstDs : List D → List D
  | [] => []
  | d :: ds => lstD d :: lstDs ds
end
theorem lstDs_map : ∀ ds : List D, lstDs ds = ds.map lstD
  | [] => rfl
  | d :: ds => by simp [lstDs, lstDs_map ds]
mutual
def tupD : D → D
  | .tup ds => .tup (tupDs ds)
  | .lst ds => .tup (tupDs ds)
  | d => d
def tupDs : List D → List D
  | [] => []
  | d :: ds => tupD d :: tupDs ds
end
theorem tupDs_map : ∀ ds : List D, tupDs ds = ds.map tupD
  | [] => rfl
  | d :: ds => by simp [tupDs, tupDs_map ds]
theorem lstD_sq (b : Bool) (ds : List D) : lstD (sq b ds) = sq false (ds.map lstD) := by
  rw [← lstDs_map]
  cases b <;> simp [sq, lstD]
theorem tupD_sq (b : Bool) (ds : List D) : tupD (sq b ds) = sq true (ds.map tupD) := by
  rw [← tupDs_map]
  cases b <;> simp [sq, tupD]
mutual
def noL : D → Bool
  | .tup ds => noLs ds
  | .lst _ => false
  | .bl _ => false
  | .loc _ => false
  | _ => true
def noLs : List D → Bool
  | [] => true
  | d :: ds => noL d && noLs ds
end
theorem noLs_all : ∀ ds : List D, noLs ds = ds.all noL
  | [] => rfl
  | d :: ds => by simp [noLs, noLs_all ds]
def flF (f : Fl) : FR := match f with
  | .nx _ h' => .ok (.v .non) h'
  | .rt r _ h' => .ok r h'
  | .err x _ h' => .err x h'
  | _ => .no
theorem runF_fl (n : Nat) (mb : MS) (ds : List D) (h : MH) : runF n mb ds h = flF (mb (ds.map Sl.v ++ List.replicate (n - ds.length) .un) h) := rfl
@[simp] theorem flF_nx (e : Ev) (h : MH) : flF (.nx e h) = .ok (.v .non) h := rfl
@[simp] theorem flF_rt (r : R) (e : Ev) (h : MH) : flF (.rt r e h) = .ok r h := rfl
/-- a for that only goes on -/
theorem for_go {t : Tg} {mb : MS} {J : Nat → Ev → MH → Prop} : ∀ (ds : List D) (k : Nat) (env : Ev) (h : MH), J k env h → (∀ i d env h, ds[i]? = some d → J (k + i) env h → ∃ e1 e2 h2, t d env = some e1 ∧ mb e1 h = .nx e2 h2 ∧ J (k + i + 1) e2 h2) →
    ∃ e' h', sForL t mb ds env h = .nx e' h' ∧ J (k + ds.length) e' h'
  | [], k, env, h, j, _ => ⟨env, h, rfl, j⟩
  | d :: ds, k, env, h, j, hh => by
    obtain ⟨e1, e2, h2, a1, a2, a3⟩ := hh 0 d env h rfl j
    obtain ⟨e', h', b1, b2⟩ := for_go (J := J) ds (k + 1) e2 h2 a3 (fun i d' env h e j => by
      have := hh (i + 1) d' env h (by simpa using e) (by rw [show k + (i + 1) = k + 1 + i by omega]; exact j)
      rw [show k + (i + 1) = k + 1 + i by omega] at this
      exact this)
    refine ⟨e', h', ?_, ?_⟩
    · unfold sForL
      rw [a1]
      simp only
      rw [a2]
      exact b1
    · rw [List.length_cons, show k + (ds.length + 1) = k + 1 + ds.length by omega]
      exact b2
theorem rangeD_get {n i : Nat} {d : D} (h : (rangeD 0 n)[i]? = some d) : i < n ∧ d = .int (i : Int) := by
  unfold rangeD at h
  rw [List.getElem?_map, Option.map_eq_some_iff] at h
  obtain ⟨a, h1, h2⟩ := h
  obtain ⟨h3, h4⟩ := List.getElem?_eq_some_iff.mp h1
  rw [List.length_range] at h3
  rw [List.getElem_range] at h4
  subst h4
  exact ⟨h3, by rw [← h2]; simp⟩
theorem rangeD_len (a : Int) (n : Nat) : (rangeD a n).length = n := by simp [rangeD]
theorem join0 : ∀ l : List (List Nat), TL.joinL [] l = l.flatten
  | [] => by simp [TL.joinL]
  | [a] => by simp [TL.joinL]
  | a :: b :: l => by
    have := join0 (b :: l)
    simp only [TL.joinL, List.append_nil] at *
    rw [this]
    simp
/-- all signs of t are in s -/
theorem c_in {s t : List Nat} {env : Ev} {i j : Nat} {h : MH} (hi : i < env.length) (hj : env[j]? = some (.v (.str s))) (hij : i ≠ j) (hl : t.length ≤ sizeLine) :
    compL (tN i) bYes (fz (eOp2 inO (fz (eVar i)) (fz (eVar j)))) env (chars t) h [] = some (t.map (fun c => D.bl (decide (c ∈ s))), h) := by
  rw [compL_map (f := fun d => match d with | .str [c] => .bl (decide (c ∈ s)) | _ => .non) ?_ (by simpa [chars] using hl)]
  · simp [chars, Function.comp_def]
  · intro d m
    obtain ⟨c, hc, rfl⟩ := List.mem_map.mp m
    refine ⟨env.set i (.v (.str [c])), env.set i (.v (.str [c])), rfl, ?_⟩
    simp [hi, List.getElem?_set, hij, hj]
theorem all_bls {α : Type} (p : α → Bool) (l : List α) : toBls (l.map fun a => D.bl (p a)) = some (l.map p) := toBls_fun p l
theorem all_of {α : Type} (h : MH) (p : α → Bool) (l : List α) : allO h [.lst (l.map fun a => D.bl (p a))] = some (.v (.bl (l.all p))) := by
  rw [x_all, all_bls]
  simp
theorem all_true {α : Type} (h : MH) (l : List α) : allO h [.lst (l.map fun _ => D.bl true)] = some (.v (.bl true)) := by
  rw [all_of h (fun _ => true) l]
  simp
def ascB (t : List Nat) : Bool := (List.range (t.length - 1)).all fun k => decide (t.getD k 0 < t.getD (k + 1) 0)
theorem ascB_of {t : List Nat} (h : t.Pairwise (· < ·)) : ascB t = true := by
  unfold ascB
  rw [List.all_eq_true]
  intro k m
  have hk := List.mem_range.mp m
  have e1 : t.getD k 0 = t[k]'(by omega) := by simp [List.getD, show k < t.length by omega]
  have e2 : t.getD (k + 1) 0 = t[k + 1]'(by omega) := by simp [List.getD, show k + 1 < t.length by omega]
  rw [e1, e2]
  simpa using List.pairwise_iff_getElem.mp h k (k + 1) (by omega) (by omega) (by omega)
theorem ascB_no {t : List Nat} {k : Nat} (hk : k + 1 < t.length) (h : t.getD (k + 1) 0 ≤ t.getD k 0) : ascB t = false := by
  unfold ascB
  rw [List.all_eq_false]
  exact ⟨k, List.mem_range.mpr (by omega), by simpa using h⟩
theorem lt1 (a b : Nat) : (([a] : List Nat) < [b]) ↔ a < b := by
  rw [List.cons_lt_cons_iff]
  constructor
  · rintro (h | ⟨_, h⟩)
    · exact h
    · exact absurd h (by simp)
  · exact fun h => .inl h
theorem getD_at {t : List Nat} {k : Nat} (h : k < t.length) : t[k]? = some (t.getD k 0) := by simp [List.getD, h]
def isSg (t : List Nat) : Bool := ((decide (2 ≤ t.length) && decide (t.length ≤ 12)) && t.all (fun c => decide (c ∈ sgs))) && ascB t
theorem Sn.is {s : List Nat} (hs : Sn s) : isSg s = true := by
  unfold isSg
  rw [ascB_of hs.asc]
  have h1 := hs.lo
  have h2 := hs.hi
  have h3 : s.all (fun c => decide (c ∈ sgs)) = true := by
    rw [List.all_eq_true]
    intro c hc
    exact decide_eq_true (hs.sg c hc)
  rw [h3]
  simp [h1, h2]
theorem cutL_mem {α : Type} {l : List α} {lo hi : Option Int} {c : α} (h : c ∈ cutL l lo hi) : c ∈ l := List.mem_of_mem_drop (List.mem_of_mem_take h)
theorem cutL_len {α : Type} (l : List α) (lo hi : Option Int) : (cutL l lo hi).length ≤ l.length := by
  unfold cutL
  rw [List.length_take, List.length_drop]
  omega
theorem at_map {α : Type} {l : List α} {f : α → D} {k : Nat} (d : α) (h : k < l.length) : atI (l.map f) (k : Int) = some (f (l.getD k d)) := by
  rw [atI_ofNat, List.getElem?_map]
  simp [List.getD, h]
theorem at_getD {l : List Nat} {k : Nat} (h : k < l.length) : atI l (k : Int) = some (l.getD k 0) := by
  rw [atI_ofNat, getD_at h]
theorem getD_mem {α : Type} {l : List α} {k : Nat} (d : α) (h : k < l.length) : l.getD k d ∈ l := by
  rw [show l.getD k d = l[k] by simp [List.getD, h]]
  exact List.getElem_mem h

/-! ## the shared lists: bags of draws -/
def Bag (b : Nat) (h : MH) : Prop := ∃ x y z : Int, h[b]? = some (.lst [.int x, .int y, .int z])
theorem Bag.lt {b : Nat} {h : MH} (hB : Bag b h) : b < h.length := by
  obtain ⟨_, _, _, e⟩ := hB
  exact (List.getElem?_eq_some_iff.mp e).1
theorem Bag.set {b : Nat} {h : MH} (hB : Bag b h) (x y z : Int) : (h.set b (.lst [.int x, .int y, .int z]))[b]? = some (.lst [.int x, .int y, .int z]) := by
  have := hB.lt
  simp [this]
def flatO : MO → Bool
  | .lst ds => ds.all flatD
theorem flatH_iff {h : MH} : flatH h = true ↔ ∀ o ∈ h, flatO o = true := by
  unfold flatH
  rw [List.all_eq_true]
  exact forall_congr' fun o => forall_congr' fun _ => by cases o; exact Iff.rfl
/-- bags stay bags, what is no bag stays as it is, but at T -/
structure Mvx (T : Nat → Prop) (h h' : MH) : Prop where
  len : h.length ≤ h'.length
  bag : ∀ n, Bag n h → Bag n h'
  oth : ∀ n, n < h.length → ¬ Bag n h → ¬ T n → h'[n]? = h[n]?
  fl : flatH h = true → flatH h' = true
abbrev Mv := Mvx fun _ => False
theorem Mvx.refl {T : Nat → Prop} (h : MH) : Mvx T h h := ⟨Nat.le_refl _, fun _ b => b, fun _ _ _ _ => rfl, fun f => f⟩
theorem Bag.of_eq {n : Nat} {h h' : MH} (e : h'[n]? = h[n]?) : Bag n h' → Bag n h := fun ⟨x, y, z, q⟩ => ⟨x, y, z, by rw [← e]; exact q⟩
theorem Mvx.trans {T : Nat → Prop} {h h1 h2 : MH} (a : Mvx T h h1) (b : Mvx T h1 h2) : Mvx T h h2 :=
  ⟨Nat.le_trans a.len b.len, fun n q => b.bag n (a.bag n q), fun n l q t => by
    have e := a.oth n l q t
    rw [← e]
    exact b.oth n (Nat.lt_of_lt_of_le l a.len) (fun z => q (Bag.of_eq e z)) t, fun f => b.fl (a.fl f)⟩
theorem Mvx.weak {T U : Nat → Prop} {h h1 : MH} (a : Mvx T h h1) (u : ∀ n, T n → U n) : Mvx U h h1 := ⟨a.len, a.bag, fun n l q t => a.oth n l q fun z => t (u n z), a.fl⟩
theorem Mv.x {T : Nat → Prop} {h h1 : MH} (a : Mv h h1) : Mvx T h h1 := Mvx.weak a fun _ z => z.elim
theorem flat_set {h : MH} (f : flatH h = true) (b : Nat) {o : MO} (fo : flatO o = true) : flatH (h.set b o) = true := by
  rw [flatH_iff] at f ⊢
  intro x hx
  rcases List.mem_or_eq_of_mem_set hx with hx | rfl
  · exact f x hx
  · exact fo
theorem mv_set {b : Nat} {h : MH} (hB : Bag b h) (x y z : Int) : Mv h (h.set b (.lst [.int x, .int y, .int z])) := by
  refine ⟨by simp, fun n q => ?_, fun n l q _ => ?_, fun f => flat_set f b rfl⟩
  · by_cases e : b = n
    · subst e
      exact ⟨_, _, _, hB.set x y z⟩
    · obtain ⟨x', y', z', w⟩ := q
      exact ⟨x', y', z', by rw [List.getElem?_set_ne e]; exact w⟩
  · have e : b ≠ n := fun e => q (e ▸ hB)
    rw [List.getElem?_set_ne e]
theorem mv_app {T : Nat → Prop} (h : MH) (o : MO) (fo : flatO o = true := by rfl) : Mvx T h (h ++ [o]) := by
  refine ⟨by simp, fun n q => ?_, fun n l q _ => ?_, fun f => ?_⟩
  · have := q.lt
    obtain ⟨x, y, z, w⟩ := q
    exact ⟨x, y, z, by rw [List.getElem?_append_left this]; exact w⟩
  · rw [List.getElem?_append_left l]
  · rw [flatH_iff] at f ⊢
    intro x hx
    rcases List.mem_append.mp hx with hx | hx
    · exact f x hx
    · rw [List.mem_singleton.mp hx]; exact fo
theorem mv_setT {T : Nat → Prop} {t : Nat} {h : MH} (ht : T t) (nb : ¬ Bag t h) (o : MO) (fo : flatO o = true) : Mvx T h (h.set t o) := by
  refine ⟨by simp, fun n q => ?_, fun n l q u => ?_, fun f => flat_set f t fo⟩
  · have e : t ≠ n := fun e => nb (e ▸ q)
    obtain ⟨x, y, z, w⟩ := q
    exact ⟨x, y, z, by rw [List.getElem?_set_ne e]; exact w⟩
  · have e : t ≠ n := fun e => u (e ▸ ht)
    rw [List.getElem?_set_ne e]
theorem bag_app {h : MH} (x y z : Int) : Bag h.length (h ++ [.lst [.int x, .int y, .int z]]) := ⟨x, y, z, by simp⟩
theorem pm_erase {α : Type} {l : List α} {n : Nat} {y : α} (h : l[n]? = some y) : l.Perm (y :: l.eraseIdx n) := by
  induction l generalizing n with
  | nil => simp at h
  | cons a l ih =>
    cases n with
    | zero => simp at h; subst h; simp
    | succ n =>
      rw [List.getElem?_cons_succ] at h
      rw [List.eraseIdx_cons_succ]
      exact ((ih h).cons a).trans (List.Perm.swap y a _)
theorem join_ch (cs : List Nat) : TL.joinL [] (cs.map fun c => [c]) = cs := by
  have j0 : ∀ l : List (List Nat), TL.joinL [] l = l.flatten := by
    intro l
    induction l with
    | nil => simp [TL.joinL]
    | cons a l ih =>
      cases l with
      | nil => simp [TL.joinL]
      | cons b l =>
        simp only [TL.joinL, List.append_nil] at *
        rw [ih]
        simp
  rw [j0]
  induction cs with
  | nil => rfl
  | cons c cs ih => simp [ih]
theorem sum_ch (cs : List Nat) : ((cs.map fun c => [c]).map List.length).sum = cs.length := by
  induction cs with
  | nil => rfl
  | cons c cs ih => simp at ih; simp [ih]; omega
/-- signs joined -/
theorem x_joins (h : MH) {cs : List Nat} (hl : cs.length ≤ 100000) : joinO h (.str []) [.lst (cs.map fun c => D.str [c])] = some (.v (.str cs)) := by
  rw [x_join, toStrs_fun (fun c => [c]) cs]
  dsimp only
  have := sum_ch cs
  rw [if_pos (by rw [this]; simp; omega), join_ch]
/-- a place in a list of numbers -/
theorem at_cs (cs : List Nat) {n : Nat} (h : n < cs.length) : ∃ m : Nat, atI (cs.map fun m : Nat => D.int (m : Int)) (n : Int) = some (.int (m : Int)) ∧ m ∈ cs := ⟨cs.getD n 0, at_map 0 h, getD_mem 0 h⟩
/-- a comprehension that draws which to keep -/
theorem compL_sub {t : Tg} {c : MB} {elt : MV} {menv : Ev} {I : MH → Prop} {f : D → D} {must : D → Prop} : ∀ (ds acc : List D) (h : MH), I h → (∀ d ∈ ds, ∀ h, I h → ∃ e1 e2 b h2, t d menv = some e1 ∧ c e1 h = .ok b e2 h2 ∧ I h2 ∧ (must d → b = true) ∧ (b = true → ∃ e3, elt e2 h2 = .ok (f d) e3 h2)) → acc.length + ds.length ≤ sizeLine →
    ∃ (l : List D) (h' : MH), compL t c elt menv ds h acc = some (acc ++ l.map f, h') ∧ I h' ∧ l.Sublist ds ∧ ∀ d ∈ ds, must d → d ∈ l
  | [], acc, h, i0, _, _ => ⟨[], h, by simp [compL], i0, List.Sublist.refl _, by simp⟩
  | d :: ds, acc, h, i0, hh, hl => by
    obtain ⟨e1, e2, b, h2, g1, g2, i2, g3, g4⟩ := hh d (by simp) h i0
    rw [List.length_cons] at hl
    cases b with
    | false =>
      obtain ⟨l, h', a1, a2, a3, a4⟩ := compL_sub (must := must) (f := f) ds acc h2 i2 (fun d m => hh d (by simp [m])) (by omega)
      refine ⟨l, h', ?_, a2, a3.cons d, fun x m q => ?_⟩
      · rw [compL, g1]
        dsimp only
        rw [g2]
        exact a1
      · rcases List.mem_cons.mp m with rfl | m
        · exact absurd (g3 q) (by decide)
        · exact a4 x m q
    | true =>
      obtain ⟨e3, g5⟩ := g4 rfl
      obtain ⟨l, h', a1, a2, a3, a4⟩ := compL_sub (must := must) (f := f) ds (acc ++ [f d]) h2 i2 (fun d m => hh d (by simp [m])) (by simp; omega)
      refine ⟨d :: l, h', ?_, a2, a3.cons₂ d, fun x m q => ?_⟩
      · rw [compL, g1]
        dsimp only
        rw [g2]
        dsimp only
        rw [if_pos rfl, g5]
        dsimp only
        rw [if_pos (show acc.length < sizeLine by omega), a1]
        simp
      · rcases List.mem_cons.mp m with rfl | m
        · simp
        · exact List.mem_cons_of_mem _ (a4 x m q)
theorem nd_le : ∀ {l m : List (List Nat)}, l.Nodup → (∀ x ∈ l, x ∈ m) → l.length ≤ m.length
  | [], _, _, _ => Nat.zero_le _
  | a :: l, m, nd, h => by
    obtain ⟨m1, m2, rfl⟩ := List.append_of_mem (h a (by simp))
    rw [List.nodup_cons] at nd
    have := nd_le (l := l) (m := m1 ++ m2) nd.2 fun x hx => by
      have := h x (List.mem_cons_of_mem _ hx)
      rw [List.mem_append, List.mem_cons] at this
      rcases this with q | q | q
      · exact List.mem_append_left _ q
      · exact absurd (q ▸ hx) nd.1
      · exact List.mem_append_right _ q
    rw [List.length_append] at this ⊢
    rw [List.length_cons, List.length_cons]
    omega
end Mi
end
section
set_option Elab.async false
set_option linter.all false
set_option maxRecDepth 100000
set_option maxHeartbeats 2000000
open PySem PySem.Spec PyProof.Rows L2
namespace Mi
/-! ## more that is common -/
theorem cutL_to {α : Type} (l : List α) (k : Nat) : cutL l none (some (k : Int)) = l.take k := by
  unfold cutL
  rw [HT.sIx_none, HT.sIx_nat]
  simp
theorem cutL_from {α : Type} (l : List α) (k : Nat) : cutL l (some (k : Int)) none = l.drop k := by
  unfold cutL
  rw [HT.sIx_none, HT.sIx_nat]
  by_cases h : k ≤ l.length
  · rw [Nat.min_eq_left h, List.take_of_length_le (by simp)]
  · rw [Nat.min_eq_right (by omega), List.drop_length, List.drop_eq_nil_of_le (by omega)]
    simp
theorem cutL_mid {α : Type} (l : List α) (j k : Nat) : cutL l (some (j : Int)) (some (k : Int)) = (l.take k).drop j := by
  unfold cutL
  rw [HT.sIx_nat, HT.sIx_nat, List.drop_take]
  by_cases h : j ≤ l.length
  · by_cases h2 : k ≤ l.length
    · rw [Nat.min_eq_left h, Nat.min_eq_left h2]
    · rw [Nat.min_eq_left h, Nat.min_eq_right (show l.length ≤ k by omega), List.take_of_length_le (by simp), List.take_of_length_le (by simp; omega)]
  · rw [Nat.min_eq_right (show l.length ≤ j by omega), List.drop_length, List.drop_eq_nil_of_le (show l.length ≤ j by omega)]
    simp
theorem sgs_up : ∀ j < 36, ∀ i < j, sgs.getD i 0 < sgs.getD j 0 := by decide
theorem sgs_mem : ∀ j < 36, sgs.getD j 0 ∈ sgs := by decide
structure Asn (t : List Nat) (a : Nat) : Prop where
  asc : t.Pairwise (· < ·)
  sg : ∀ c ∈ t, c ∈ sgs
  le : ∀ c ∈ t, c ≤ sgs.getD a 0
  lt : a < 36
theorem Asn.one {a : Nat} (h : a < 36) : Asn [sgs.getD a 0] a := ⟨by simp, fun c m => by rw [List.mem_singleton.mp m]; exact sgs_mem a h, fun c m => by rw [List.mem_singleton.mp m]; omega, h⟩
theorem Asn.snoc {t : List Nat} {a b : Nat} (h : Asn t a) (h1 : a < b) (h2 : b < 36) : Asn (t ++ [sgs.getD b 0]) b := by
  have up := sgs_up b h2 a h1
  refine ⟨?_, fun c m => ?_, fun c m => ?_, h2⟩
  · rw [List.pairwise_append]
    refine ⟨h.asc, by simp, fun x hx y hy => ?_⟩
    rw [List.mem_singleton.mp hy]
    have := h.le x hx
    omega
  · rcases List.mem_append.mp m with m | m
    · exact h.sg c m
    · rw [List.mem_singleton.mp m]; exact sgs_mem b h2
  · rcases List.mem_append.mp m with m | m
    · have := h.le c m; omega
    · rw [List.mem_singleton.mp m]; omega
theorem sgs_at {a : Nat} (h : a < 36) : atI sgs (a : Int) = some (sgs.getD a 0) := at_getD h
theorem Asn.sn {t : List Nat} {a : Nat} (h : Asn t a) (h1 : 2 ≤ t.length) (h2 : t.length ≤ 12) : Sn t := ⟨h1, h2, h.asc, h.sg⟩
theorem flat_one : ∀ l : List Nat, (l.map fun c => [c]).flatten = l
  | [] => rfl
  | c :: l => by simp [flat_one l]
/-- sorted single signs, joined -/
theorem sortS_ones {l : List Nat} (nd : l.Nodup) : ∃ s : List Nat, sortS (l.map fun c => [c]) = s.map (fun c => [c]) ∧ s.Perm l ∧ s.Pairwise (· < ·) := by
  have p := sortS_perm (l.map fun c => [c])
  have ones : ∀ m : List (List Nat), (∀ x ∈ m, ∃ c, x = [c]) → ∃ s : List Nat, m = s.map fun c => [c] := by
    intro m
    induction m with
    | nil => exact fun _ => ⟨[], rfl⟩
    | cons x m ih =>
      intro h
      obtain ⟨c, rfl⟩ := h x (by simp)
      obtain ⟨s, rfl⟩ := ih fun y hy => h y (by simp [hy])
      exact ⟨c :: s, rfl⟩
  obtain ⟨s, e⟩ := ones _ fun x m => by
    obtain ⟨c, _, rfl⟩ := List.mem_map.mp (p.mem_iff.mp m)
    exact ⟨c, rfl⟩
  have ps : s.Perm l := by
    have q := p
    rw [e] at q
    have q2 := q.map List.sum
    simpa [Function.comp_def] using q2
  refine ⟨s, e, ps, ?_⟩
  have so := sortS_sorted (l.map fun c => [c])
  rw [e, List.pairwise_map] at so
  have nds : s.Nodup := ps.nodup_iff.mpr nd
  refine (so.and nds).imp fun {a b} h => ?_
  obtain ⟨h1, h2⟩ := h
  rw [leS_iff] at h1
  have : ¬ ([b] : List Nat) < [a] := List.not_lt.mpr h1
  rw [lt1] at this
  omega
theorem sgs_nd : sgs.Nodup := by decide
end Mi
end
section
set_option Elab.async false
set_option linter.all false
set_option maxRecDepth 100000
set_option maxHeartbeats 2000000
open PySem PySem.Spec PyProof.Rows L2
namespace Mi
/-! ## words that many laws share -/
theorem c_made {t s : List Nat} (a b : Int) (h : MH) (hl : t.length ≤ 100000) : m_made_of [.str t, .str s, .int a, .int b] h = .ok (.v (.bl ((decide (a ≤ (t.length : Int)) && decide ((t.length : Int) ≤ b)) && t.all (fun c => decide (c ∈ s))))) h := by
  have hz : t.length ≤ sizeLine := by unfold sizeLine; omega
  unfold m_made_of b_made_of
  by_cases h1 : a ≤ (t.length : Int)
  · by_cases h2 : (t.length : Int) ≤ b
    · simp [h1, h2, hz, List.replicate]
      rw [c_in (s := s) (by simp) (by simp) (by decide) hz]
      simp [all_bls, Function.comp_def]
    · simp [h1, h2, hz]
  · simp [h1, hz]
theorem c_made_no {d : D} (h1 : tyD d ≠ "str") (s : List Nat) (a b : Int) (h : MH) : m_made_of [d, .str s, .int a, .int b] h = .ok (.v (.bl false)) h := by
  unfold m_made_of b_made_of
  simp [h1]
theorem c_asc {t : List Nat} (h : MH) (hl : t.length ≤ 1000) : m_ascending [.str t] h = .ok (.v (.bl (ascB t))) h := by
  have hz : t.length ≤ sizeLine := by unfold sizeLine; omega
  have q1 : (-1000000000000 : Int) ≤ (t.length : Int) - 1 := by omega
  have q2 : (t.length : Int) - 1 ≤ 1000000000000 := by omega
  have q3 : ((t.length : Int) - 1).toNat = t.length - 1 := by omega
  unfold m_ascending b_ascending
  simp [hz, q1, q2, q3, List.replicate]
  rw [compL_map (f := fun d => match d with | .int j => .bl (decide (t.getD j.toNat 0 < t.getD (j.toNat + 1) 0)) | _ => .non) ?_ (by simp [rangeD]; unfold sizeLine; omega)]
  · simp [rangeD, Function.comp_def, all_bls, ascB]
  · intro d m
    obtain ⟨k, hk, rfl⟩ := List.mem_map.mp m
    have hk := List.mem_range.mp hk
    refine ⟨[.v (.str t), .v (.int (0 + (k : Int)))], [.v (.str t), .v (.int (0 + (k : Int)))], rfl, ?_⟩
    have e1 : atI t (k : Int) = some (t.getD k 0) := by rw [atI_ofNat]; exact getD_at (by omega)
    have e2 : atI t ((k : Int) + 1) = some (t.getD (k + 1) 0) := by
      rw [show (k : Int) + 1 = ((k + 1 : Nat) : Int) by omega, atI_ofNat]; exact getD_at (by omega)
    simp [hz, e1, e2, lt1]
theorem c_signs {t : List Nat} (h : MH) (hl : t.length ≤ 1000) : m_is_signs [.str t] h = .ok (.v (.bl (isSg t))) h := by
  have e1 := c_made (t := t) (s := sgs) 2 12 h (by omega)
  have e2 := c_asc (t := t) h hl
  have e3 : (decide ((2 : Int) ≤ (t.length : Int))) = decide (2 ≤ t.length) := by congr 1; apply propext; omega
  have e4 : (decide ((t.length : Int) ≤ 12)) = decide (t.length ≤ 12) := by congr 1; apply propext; omega
  rw [e3, e4] at e1
  unfold m_is_signs b_is_signs isSg
  have c : c_SIGNS = .str sgs := rfl
  rw [c]
  generalize ((decide (2 ≤ t.length) && decide (t.length ≤ 12)) && t.all (fun c => decide (c ∈ sgs))) = q at e1 ⊢
  cases q <;> simp [e1, e2]
theorem c_signs_no {d : D} (h1 : tyD d ≠ "str") (h : MH) : m_is_signs [d] h = .ok (.v (.bl false)) h := by
  unfold m_is_signs b_is_signs
  have c : c_SIGNS = .str sgs := rfl
  rw [c]
  simp [c_made_no h1]
theorem c_check_signs {s : List Nat} (hs : Sn s) (h : MH) : m_check_signs_of [.str s] h = .ok (.v .non) h := by
  have h2 := hs.hi
  unfold m_check_signs_of b_check_signs_of
  simp [c_signs h (show s.length ≤ 1000 by omega), hs.is]
/-- no signs -/
def NoSg (d : D) : Prop := ∀ h, m_is_signs [d] h = .ok (.v (.bl false)) h
theorem c_check_signs_no {d : D} (hd : NoSg d) (h : MH) : m_check_signs_of [d] h = .err ⟨"BadSigns", ["signs"], [d]⟩ h := by
  unfold m_check_signs_of b_check_signs_of
  simp [hd h]
theorem r_noList : ∀ (k : Nat) (d : D), Fi k d → ∀ n h, k < n → m__law_no_list n [d] h = .ok (.v (.bl (noL d))) h
  | k, d, hd, n, h, hn => by
    obtain ⟨n, rfl⟩ : ∃ m, n = m + 1 := ⟨n - 1, by omega⟩
    show runF 2 (b__law_no_list (m__law_no_list n)) [d] h = _
    unfold b__law_no_list
    cases d with
    | tup ds =>
      cases k with
      | zero => exact hd.elim
      | succ k' =>
        have e : compL (tN 1) bYes (fz (eCall (m__law_no_list n) (aCons (fz (eVar 1)) aNil))) [.un, .un] ds h [] = some (ds.map (fun d => D.bl (noL d)), h) := by
          refine compL_map (fun d m => ?_) (by have := hd.1; unfold sizeLine; omega)
          have e1 := r_noList k' d (hd.2 d m) n h (by omega)
          refine ⟨[.un, .v d], [.un, .v d], rfl, ?_⟩
          simp [e1]
        simp
        rw [e]
        simp [toBls_fun, noL, noLs_all, List.all_map, Function.comp_def]
    | lst ds => simp [noL]
    | loc a => cases k <;> exact hd.elim
    | dct ks ds => cases k <;> exact hd.elim
    | non => simp [noL]
    | bl b => cases k <;> exact hd.elim
    | int i => simp [noL]
    | str s => simp [noL]
theorem r_pick {b : Nat} {h : MH} (hB : Bag b h) {m : Int} (hm : m < 1073741824) : ∃ v h', m__law_pick [.loc b, .int m] h = .ok (.v (.int v)) h' ∧ Mv h h' ∧ 0 ≤ v ∧ (v < m ∨ v = 0) := by
  have hB0 := hB
  obtain ⟨x, y, z, e⟩ := hB
  have i0 := fun j => x_ixo (h := h) j e
  by_cases h1 : m < 2
  · refine ⟨0, h, ?_, Mvx.refl h, by omega, by omega⟩
    unfold m__law_pick b__law_pick
    simp [h1]
  · by_cases h2 : 0 < x
    · refine ⟨x % m, h.set b (.lst [.int (x / m), .int y, .int z]), ?_, mv_set hB0 _ _ _, Int.emod_nonneg _ (by omega), .inl (Int.emod_lt_of_pos _ (by omega))⟩
      unfold m__law_pick b__law_pick
      have p0 : 0 < m := by omega
      have p1 : ixN 3 0 = some 0 := by decide
      have hna : m.natAbs < 1073741824 := by omega
      simp [h1, h2, e, i0, p0, hna, p1]
    · have e2 := hB0.set x y (z + 1)
      have i2 := fun j => x_ixo j e2
      have p0 : 0 < m := by omega
      have p1 : ixN 3 2 = some 2 := by decide
      have q1 : (0:Int) ≤ (y * 48271 + (z + 1) * 69621) % 2147483647 := Int.emod_nonneg _ (by omega)
      have q2 : (y * 48271 + (z + 1) * 69621) % 2147483647 < 2147483647 := Int.emod_lt_of_pos _ (by omega)
      have m1 : mulC y 48271 := .inr (by decide)
      have m2 : mulC (z + 1) 69621 := .inr (by decide)
      have m3 : mulC ((y * 48271 + (z + 1) * 69621) % 2147483647) ((y * 48271 + (z + 1) * 69621) % 2147483647) := .inr (by omega)
      have m4 : mulC (z + 1) 1299709 := .inr (by decide)
      refine ⟨(((y * 48271 + (z + 1) * 69621) % 2147483647 * ((y * 48271 + (z + 1) * 69621) % 2147483647) + y + (z + 1) * 1299709) % 1000000007 / 5) % m, h.set b (.lst [.int x, .int y, .int (z + 1)]), ?_, mv_set hB0 _ _ _, ?_⟩
      · unfold m__law_pick b__law_pick
        simp [h1, h2, e, i0, p1]
        simp [i2, m1, m2, m3, m4, p0]
      · exact ⟨Int.emod_nonneg _ (by omega), .inl (Int.emod_lt_of_pos _ (by omega))⟩
theorem r_pickN {b : Nat} {h : MH} (hB : Bag b h) {m : Nat} (h1 : 1 ≤ m) (hm : m < 1073741824) : ∃ (n : Nat) (h' : MH), m__law_pick [.loc b, .int (m : Int)] h = .ok (.v (.int (n : Int))) h' ∧ Mv h h' ∧ n < m := by
  obtain ⟨v, h', p1, p2, p3, p4⟩ := r_pick hB (m := (m : Int)) (by omega)
  obtain ⟨n, rfl⟩ := Int.eq_ofNat_of_zero_le p3
  exact ⟨n, h', p1, p2, by omega⟩
theorem r_bag_of (ns : List Int) (i : Nat) (h : MH) (hi : i ≤ 1000) (hn : ns.length ≤ 63) : ∃ h', m__law_bag_of [.lst (ns.map .int), .int i] h = .ok (.v (.loc h.length)) h' ∧ Mv h h' ∧ Bag h.length h' := by
  have key : ∀ env : Ev, 5 < env.length → compL (tN 5) bYes (fz (eOp2 addO (fz (eOp2 fdivO (fz (eCallB absO (aCons (fz (eVar 5)) aNil))) (fz (eC (D.int 3))))) (fz (eC (D.int 5))))) env (ns.map D.int) h [] = some (ns.map (fun n => D.int ((if n < 0 then -n else n) / 3 + 5)), h) := fun env he => by
    rw [compL_map (f := fun d => match d with | .int n => .int ((if n < 0 then -n else n) / 3 + 5) | _ => .non) ?_ ?_]
    · simp [Function.comp_def]
    · intro d m
      obtain ⟨n, _, rfl⟩ := List.mem_map.mp m
      refine ⟨env.set 5 (.v (.int n)), env.set 5 (.v (.int n)), rfl, ?_⟩
      simp [he]
    · simp [sizeLine]; omega
  have m1 : mulC 7919 ((i : Int) + 1) := .inl (by decide)
  have m2 : mulC 7919 (i : Int) := .inl (by decide)
  have fin : ∀ (c : Int), ∃ x y z, (h ++ [MO.lst [D.int x, D.int y, D.int z]])[h.length]? = some (.lst [D.int x, D.int y, D.int z]) := fun c => ⟨0, 0, 0, by simp⟩
  have tail : ∀ c : Int, ∃ h', flF (sSeq (sSet 3 (eCallB absO (aCons (fz (eVar 2)) aNil))) (sSeq (sSet 4 (eIf (toB (eOp2 geO (fz (eVar 3)) (fz (eC (D.int 1000000000000000000))))) (eVar 3) (eC (D.int 0)))) (sSeq (sRet (eLoc (aCons (fz (eVar 4)) (aCons (fz (eOp2 addO (fz (eOp2 addO (fz (eOp2 modO (fz (eCallB intO (aCons (fz (eVar 3)) aNil))) (fz (eC (D.int 2147483629))))) (fz (eOp2 mulIO (fz (eC (D.int 7919))) (fz (eVar 1)))))) (fz (eIf (toB (eOp2 ltO (fz (eVar 2)) (fz (eC (D.int 0))))) (eC (D.int 13)) (eC (D.int 0)))))) (aCons (fz (eC (D.int 0))) aNil))))) sNil)) [.v (.lst (ns.map .int)), .v (.int i), .v (.int c), .un, .un, .un] h) = .ok (.v (.loc h.length)) h' ∧ Mv h h' ∧ Bag h.length h' := by
    intro c
    by_cases c1 : (1000000000000000000 : Int) ≤ (if c < 0 then -c else c)
    · by_cases c2 : c < 0
      · rw [if_pos c2] at c1
        refine ⟨_, by simp [c1, c2, m2, sizeLine]; rfl, ?_⟩
        exact ⟨mv_app _ _, bag_app _ _ _⟩
      · rw [if_neg c2] at c1
        refine ⟨_, by simp [c1, c2, m2, sizeLine]; rfl, ?_⟩
        exact ⟨mv_app _ _, bag_app _ _ _⟩
    · by_cases c2 : c < 0
      · rw [if_pos c2] at c1
        refine ⟨_, by simp [c1, c2, m2, sizeLine]; rfl, ?_⟩
        exact ⟨mv_app _ _, bag_app _ _ _⟩
      · rw [if_neg c2] at c1
        refine ⟨_, by simp [c1, c2, m2, sizeLine]; rfl, ?_⟩
        exact ⟨mv_app _ _, bag_app _ _ _⟩
  unfold m__law_bag_of b__law_bag_of
  by_cases hlt : (i : Int) < (ns.length : Int)
  · obtain ⟨c, hc⟩ : ∃ c, ns[i]? = some c := ⟨ns[i]'(by omega), by simp⟩
    have e : atI (ns.map D.int) (i : Int) = some (.int c) := by rw [atI_ofNat]; simp [hc]
    obtain ⟨h', t⟩ := tail c
    refine ⟨h', ?_, t.2⟩
    rw [← t.1]
    rw [runF_fl, x_sSeq]
    have : sSet 2 (eIf (toB (eOp2 ltO (fz (eVar 1)) (fz (eLenV 0 lenO)))) (eIxV 0 ixO (fz (eVar 1))) (eOp2 addO (fz (eCallB sumO (aCons (fz (eComp [] (tN 5) (iOf (fz (eVar 0))) bYes (fz (eOp2 addO (fz (eOp2 fdivO (fz (eCallB absO (aCons (fz (eVar 5)) aNil))) (fz (eC (D.int 3))))) (fz (eC (D.int 5))))))) aNil))) (fz (eOp2 mulIO (fz (eC (D.int 7919))) (fz (eOp2 addO (fz (eVar 1)) (fz (eC (D.int 1))))))))) (([D.lst (ns.map .int), .int i].map Sl.v) ++ List.replicate (6 - 2) .un) h = .nx [.v (.lst (ns.map .int)), .v (.int i), .v (.int c), .un, .un, .un] h := by
      have hlt2 : i < ns.length := by omega
      simp [hlt, hlt2, e, List.replicate]
    rw [show (6 - [D.lst (ns.map .int), .int (i : Int)].length) = 6 - 2 from rfl, this]
  · obtain ⟨h', t⟩ := tail ((ns.map (fun n => (if n < 0 then -n else n) / 3 + 5)).sum + 7919 * ((i : Int) + 1))
    refine ⟨h', ?_, t.2⟩
    rw [← t.1]
    rw [runF_fl, x_sSeq]
    have : sSet 2 (eIf (toB (eOp2 ltO (fz (eVar 1)) (fz (eLenV 0 lenO)))) (eIxV 0 ixO (fz (eVar 1))) (eOp2 addO (fz (eCallB sumO (aCons (fz (eComp [] (tN 5) (iOf (fz (eVar 0))) bYes (fz (eOp2 addO (fz (eOp2 fdivO (fz (eCallB absO (aCons (fz (eVar 5)) aNil))) (fz (eC (D.int 3))))) (fz (eC (D.int 5))))))) aNil))) (fz (eOp2 mulIO (fz (eC (D.int 7919))) (fz (eOp2 addO (fz (eVar 1)) (fz (eC (D.int 1))))))))) (([D.lst (ns.map .int), .int i].map Sl.v) ++ List.replicate (6 - 2) .un) h = .nx [.v (.lst (ns.map .int)), .v (.int i), .v (.int ((ns.map (fun n => (if n < 0 then -n else n) / 3 + 5)).sum + 7919 * ((i : Int) + 1))), .un, .un, .un] h := by
      have hlt2 : ¬ i < ns.length := by omega
      have e := toInts_fun (fun n : Int => (if n < 0 then -n else n) / 3 + 5) ns
      simp [hlt, hlt2, List.replicate]
      rw [key _ (by simp)]
      simp [e, m1]
    rw [show (6 - [D.lst (ns.map .int), .int (i : Int)].length) = 6 - 2 from rfl, this]
theorem r_one_str {b : Nat} {h : MH} (hB : Bag b h) {s : List Nat} (h1 : 1 ≤ s.length) (h2 : s.length ≤ 100000) : ∃ c h', m__law_one_of [.loc b, .str s] h = .ok (.v (.str [c])) h' ∧ Mv h h' ∧ c ∈ s := by
  obtain ⟨n, h', p1, p2, p3⟩ := r_pickN hB h1 (by omega)
  have hz : s.length ≤ sizeLine := by unfold sizeLine; omega
  have e : atI s (n : Int) = some (s.getD n 0) := at_getD p3
  refine ⟨s.getD n 0, h', ?_, p2, getD_mem 0 p3⟩
  unfold m__law_one_of b__law_one_of
  simp at e
  simp [hz, p1, e]
theorem r_one_seq {b : Nat} {h : MH} (hB : Bag b h) (k : Bool) {ds : List D} (h1 : 1 ≤ ds.length) (h2 : ds.length ≤ 100000) : ∃ d h', m__law_one_of [.loc b, sq k ds] h = .ok (.v d) h' ∧ Mv h h' ∧ d ∈ ds := by
  obtain ⟨n, h', p1, p2, p3⟩ := r_pickN hB h1 (by omega)
  have e : atI ds (n : Int) = some (ds.getD n .non) := by
    rw [atI_ofNat]
    simp [List.getD, p3]
  refine ⟨ds.getD n .non, h', ?_, p2, getD_mem .non p3⟩
  unfold m__law_one_of b__law_one_of
  simp at e
  cases k <;> simp [sq, p1, e]
theorem mixed_step {b : Nat} {r : D} {left told : List D} {x : Sl} {h : MH} (l5 : Bag b h) (l0 : 0 < left.length) (l1 : left.length ≤ 1000) (l2 : told.length ≤ 1000) : ∃ (n : Nat) (y : D) (h2 : MH), left[n]? = some y ∧ n < left.length ∧ Mv h h2 ∧
    sSeq (sExpr (eMut 3 appOp (aCons (fz (eMut 2 popOp (aCons (fz (eCall m__law_pick (aCons (fz (eVar 0)) (aCons (fz (eLenV 2 lenO)) aNil)))) aNil))) aNil))) sNil [.v (.loc b), .v r, .own left, .own told, x] h = .nx [.v (.loc b), .v r, .own (left.eraseIdx n), .own (told ++ [y]), x] h2 := by
  obtain ⟨n, h2, p1, p2, hv⟩ := r_pickN l5 (m := left.length) (by omega) (by omega)
  obtain ⟨y, hy⟩ : ∃ y, left[n]? = some y := ⟨left[n], by simp [hv]⟩
  have pp := pop_nat hy (Nat.le_trans l1 (by decide))
  have ht : told.length < sizeLine := Nat.lt_of_le_of_lt l2 (by decide)
  refine ⟨n, y, h2, hy, hv, p2, ?_⟩
  simp [p1, pp, ht]
theorem r_mixed {b : Nat} {h : MH} (hB : Bag b h) (r : D) (xs : List D) (hl : xs.length ≤ 1000) (e1 : ∀ h, listO h [r] = some (.own xs)) (e2 : ∀ h, lenO h [r] = some (.v (.int xs.length))) : ∃ ys h', m__law_mixed [.loc b, r] h = .ok (.v (.lst ys)) h' ∧ Mv h h' ∧ ys.Perm xs := by
  let J : Nat → Ev → MH → Prop := fun k env h2 => ∃ x left told, env = [.v (.loc b), .v r, .own left, .own told, x] ∧ left.length + k = xs.length ∧ told.length = k ∧ (told ++ left).Perm xs ∧ Mv h h2
  have j0 : J 0 [.v (.loc b), .v r, .own xs, .own [], .un] h := ⟨.un, xs, [], rfl, by simp, rfl, by simp, Mvx.refl h⟩
  obtain ⟨e', h', a1, a2⟩ := for_go (t := tN 4) (mb := sSeq (sExpr (eMut 3 appOp (aCons (fz (eMut 2 popOp (aCons (fz (eCall m__law_pick (aCons (fz (eVar 0)) (aCons (fz (eLenV 2 lenO)) aNil)))) aNil))) aNil))) sNil) (J := J) (rangeD 0 xs.length) 0 _ h j0 (fun i d env h2 hi j => by
    obtain ⟨x, left, told, rfl, l1, l2, l3, l4⟩ := j
    obtain ⟨i1, rfl⟩ := rangeD_get hi
    rw [Nat.zero_add] at l1 l2
    obtain ⟨n, y, h3, hy, hv, p2, e⟩ := mixed_step (r := r) (left := left) (told := told) (x := .v (.int i)) (l4.bag b hB) (by omega) (by omega) (by omega)
    refine ⟨_, _, h3, rfl, e, ⟨_, _, _, rfl, ?_, ?_, ?_, l4.trans p2⟩⟩
    · rw [List.length_eraseIdx_of_lt hv]; omega
    · simp [l2]
    · refine List.Perm.trans ?_ l3
      rw [List.append_assoc]
      exact (pm_erase hy).symm.append_left told)
  rw [rangeD_len, Nat.zero_add] at a2
  obtain ⟨x, left, told, rfl, l1, l2, l3, l4⟩ := a2
  have : left = [] := List.length_eq_zero_iff.mp (by omega)
  subst this
  rw [List.append_nil] at l3
  refine ⟨told, h', ?_, l4, l3⟩
  have hc : (-1000000000000 : Int) ≤ (xs.length : Int) := by omega
  have hc2 : (xs.length : Int) ≤ 1000000000000 := by omega
  have h0 : (0 : Nat) ≤ sizeLine := Nat.zero_le _
  unfold m__law_mixed b__law_mixed
  simp [hc, hc2, h0, e1, e2]
  rw [a1]
  simp
theorem r_many_signs {b : Nat} {h : MH} (hB : Bag b h) : ∃ s h', m__law_many_signs [.loc b] h = .ok (.v (.str s)) h' ∧ Mv h h' ∧ Sn s := by
  obtain ⟨i, h1, e1, m1, hi⟩ := r_pickN hB (m := 2) (by decide) (by decide)
  obtain ⟨m, am, mm⟩ := at_cs [3, 11] hi
  have hm : 3 ≤ m ∧ m ≤ 11 := by
    have : ∀ m ∈ [3, 11], 3 ≤ m ∧ m ≤ 11 := by decide
    exact this m mm
  obtain ⟨n, h2, e2, m2, hn⟩ := r_pickN (m1.bag b hB) (m := m) (by omega) (by omega)
  obtain ⟨ys, h3, e3, m3, pm⟩ := r_mixed ((m1.trans m2).bag b hB) (.str sgs) (chars sgs) (by decide) (fun _ => rfl) (fun _ => rfl)
  have ones : ∀ zs : List D, (∀ z ∈ zs, ∃ c, z = D.str [c]) → ∃ cs : List Nat, zs = cs.map fun c => D.str [c] := by
    intro zs
    induction zs with
    | nil => exact fun _ => ⟨[], rfl⟩
    | cons z zs ih =>
      intro h
      obtain ⟨c, rfl⟩ := h z (by simp)
      obtain ⟨cs, rfl⟩ := ih fun y hy => h y (by simp [hy])
      exact ⟨c :: cs, rfl⟩
  obtain ⟨cs, rfl⟩ := ones ys fun z hz => by
    obtain ⟨c, _, rfl⟩ := List.mem_map.mp (pm.mem_iff.mp hz)
    exact ⟨c, rfl⟩
  have pc : cs.Perm sgs := by
    have q := pm.map fun d : D => match d with | .str [c] => c | _ => 0
    simpa [chars, Function.comp_def] using q
  have ln : cs.length = 36 := pc.length_eq
  have nd : (cs.take (2 + n)).Nodup := (pc.nodup_iff.mpr sgs_nd).sublist (List.take_sublist _ _)
  obtain ⟨s, so, ps, asc⟩ := sortS_ones nd
  have sl : s.length = 2 + n := by rw [ps.length_eq, List.length_take]; omega
  refine ⟨s, h3, ?_, (m1.trans m2).trans m3, ⟨by omega, by omega, asc, fun c hc => pc.mem_iff.mp (List.mem_of_mem_take (ps.mem_iff.mp hc))⟩⟩
  have ec := cutL_to (cs.map fun c => D.str [c]) (2 + n)
  rw [← List.map_take] at ec
  have et := toStrs_fun (fun c => [c]) (cs.take (2 + n))
  have jn := x_joins h3 (cs := s) (by omega)
  have z2 : (2 : Nat) ≤ sizeLine := by decide
  have ss : sortSO h3 [.lst ((cs.take (2 + n)).map fun c => D.str [c])] = some (.own (s.map fun c => D.str [c])) := by
    unfold sortSO
    dsimp only
    rw [et]
    dsimp only
    rw [if_pos (by rw [List.length_map, List.length_take]; omega), so, List.map_map]
    rfl
  have q2 : ((2 + n : Nat) : Int) = 2 + (n : Int) := by omega
  rw [q2] at ec
  rw [List.map_take] at ss
  simp at e1 am e2
  unfold m__law_many_signs b__law_many_signs
  simp [z2, e1, am, e2, e3, ec, ss, jn, -x_join]
end Mi
end
section
set_option Elab.async false
set_option linter.all false
set_option maxRecDepth 100000
set_option maxHeartbeats 4000000
open PySem PySem.Spec PyProof.Rows L2
namespace Mi
/-! ## lags -/
def lagF : List Nat → List Nat → List Nat
  | x :: a, y :: b => if x = y then lagF a b else [35]
  | [], [] => [61]
  | x :: a, [] => 43 :: x :: a
  | [], y :: b => 45 :: y :: b
def turnF : List Nat → List Nat
  | 43 :: r => 45 :: r
  | 45 :: r => 43 :: r
  | l => l
def lagOn : List Nat → List Nat → List Nat → List Nat
  | 43 :: r, a, b => lagF (r ++ a) b
  | 45 :: r, a, b => lagF a (r ++ b)
  | 35 :: _, _, _ => [35]
  | _, a, b => lagF a b
theorem lagF_nil_l (a : List Nat) : lagF a [] = if a = [] then [61] else 43 :: a := by cases a <;> rfl
theorem lagF_nil_r (a : List Nat) : lagF [] a = if a = [] then [61] else 45 :: a := by cases a <;> rfl
theorem lagOn_lagF : ∀ f s a b : List Nat, lagOn (lagF f s) a b = lagF (f ++ a) (s ++ b)
  | x :: f, y :: s, a, b => by
    rw [lagF, List.cons_append, List.cons_append, lagF]
    split
    · exact lagOn_lagF f s a b
    · rfl
  | [], [], a, b => rfl
  | x :: f, [], a, b => rfl
  | [], y :: s, a, b => rfl
theorem lagF_turn : ∀ f s : List Nat, lagF s f = turnF (lagF f s)
  | x :: f, y :: s => by
    rw [lagF, lagF]
    by_cases h : x = y
    · rw [if_pos h, if_pos h.symm]; exact lagF_turn f s
    · rw [if_neg h, if_neg (fun q => h q.symm)]; rfl
  | [], [] => rfl
  | x :: f, [] => rfl
  | [], y :: s => rfl
theorem lagF_len : ∀ f s : List Nat, (lagF f s).length ≤ f.length + s.length + 1
  | x :: f, y :: s => by
    rw [lagF]
    have := lagF_len f s
    split
    · simp; omega
    · simp
  | [], [] => by simp [lagF]
  | x :: f, [] => by simp [lagF]
  | [], y :: s => by simp [lagF]
/-- the length of what both begin with -/
def pre : List Nat → List Nat → Nat
  | x :: a, y :: b => if x = y then pre a b + 1 else 0
  | _, _ => 0
theorem pre_le : ∀ a b : List Nat, pre a b ≤ a.length ∧ pre a b ≤ b.length
  | x :: a, y :: b => by
    have := pre_le a b
    rw [pre]
    split <;> simp <;> omega
  | [], b => by simp [pre]
  | x :: a, [] => by simp [pre]
theorem pre_eq : ∀ (a b : List Nat) (k : Nat), k < pre a b → a[k]? = b[k]?
  | x :: a, y :: b, k, h => by
    rw [pre] at h
    split at h
    · rename_i e
      cases k with
      | zero => simp [e]
      | succ k => simpa using pre_eq a b k (by omega)
    · omega
  | [], b, k, h => by simp [pre] at h
  | x :: a, [], k, h => by simp [pre] at h
theorem pre_ne : ∀ (a b : List Nat), pre a b < a.length → pre a b < b.length → a[pre a b]? ≠ b[pre a b]?
  | x :: a, y :: b, h1, h2 => by
    rw [pre] at *
    split
    · rename_i e
      rw [if_pos e] at h1 h2
      simp at h1 h2 ⊢
      exact pre_ne a b h1 h2
    · rename_i e
      simpa using e
  | [], b, h1, h2 => by simp at h1
  | x :: a, [], h1, h2 => by simp at h2
theorem lagF_pre : ∀ a b : List Nat, lagF a b = if pre a b < a.length ∧ pre a b < b.length then [35] else if pre a b < a.length then 43 :: a.drop (pre a b) else if pre a b < b.length then 45 :: b.drop (pre a b) else [61]
  | x :: a, y :: b => by
    rw [lagF, pre]
    have := lagF_pre a b
    split
    · rw [this]; simp
    · simp
  | [], [] => by simp [lagF, pre]
  | x :: a, [] => by simp [lagF, pre]
  | [], y :: b => by simp [lagF, pre]
/-! ## lag_of -/
theorem lag_while {q : MB} {w : MS} {a b : List Nat} (h : MH) (hla : a.length ≤ 700) (hlb : b.length ≤ 700)
    (hq : ∀ k : Nat, q [.v (.str a), .v (.str b), .v (.int (k : Int))] h = .ok (decide (k < a.length) && (decide (k < b.length) && decide (a[k]? = b[k]?))) [.v (.str a), .v (.str b), .v (.int (k : Int))] h)
    (hw : ∀ k : Nat, w [.v (.str a), .v (.str b), .v (.int (k : Int))] h = .nx [.v (.str a), .v (.str b), .v (.int ((k + 1 : Nat) : Int))] h) :
    ∀ n k, k ≤ pre a b → pre a b < k + n → sWhile q w n [.v (.str a), .v (.str b), .v (.int (k : Int))] h = .nx [.v (.str a), .v (.str b), .v (.int ((pre a b : Nat) : Int))] h
  | 0, k, h1, h2 => by omega
  | n + 1, k, h1, h2 => by
    have pl := pre_le a b
    rw [sWhile]
    rw [hq]
    by_cases c : k < pre a b
    · have e := pre_eq a b k c
      have d1 : decide (k < a.length) = true := decide_eq_true (by omega)
      have d2 : decide (k < b.length) = true := decide_eq_true (by omega)
      simp only [Rs.bindS, d1, d2, e, decide_true, Bool.and_self, if_true, hw]
      exact lag_while h hla hlb hq hw n (k + 1) (by omega) (by omega)
    · have ek : k = pre a b := by omega
      subst ek
      have : (decide (pre a b < a.length) && (decide (pre a b < b.length) && decide (a[pre a b]? = b[pre a b]?))) = false := by
        by_cases c1 : pre a b < a.length
        · by_cases c2 : pre a b < b.length
          · have := pre_ne a b c1 c2
            simp [this]
          · simp [c2]
        · simp [c1]
      simp only [Rs.bindS, this]
      rfl
end Mi
end
section
set_option Elab.async false
set_option linter.all false
set_option maxRecDepth 100000
set_option maxHeartbeats 4000000
open PySem PySem.Spec PyProof.Rows L2
namespace Mi
theorem q_lag {a b : List Nat} (h : MH) (hla : a.length ≤ 700) (hlb : b.length ≤ 700) (k : Nat) : b_lag_of_q1 [.v (.str a), .v (.str b), .v (.int (k : Int))] h = .ok (decide (k < a.length) && (decide (k < b.length) && decide (a[k]? = b[k]?))) [.v (.str a), .v (.str b), .v (.int (k : Int))] h := by
  have za : a.length ≤ sizeLine := by unfold sizeLine; omega
  have zb : b.length ≤ sizeLine := by unfold sizeLine; omega
  have ea : atI a (k : Int) = a[k]? := by rw [atI_ofNat]
  have eb : atI b (k : Int) = b[k]? := by rw [atI_ofNat]
  unfold b_lag_of_q1
  by_cases c1 : k < a.length
  · by_cases c2 : k < b.length
    · have e1 : a[k]? = some a[k] := List.getElem?_eq_getElem c1
      have e2 : b[k]? = some b[k] := List.getElem?_eq_getElem c2
      simp [za, zb, ea, eb, c1, c2, e1, e2]
    · simp [za, zb, c1, c2]
  · simp [za, zb, c1]
theorem c_lag_of {a b : List Nat} (h : MH) (hla : a.length ≤ 700) (hlb : b.length ≤ 700) : m_lag_of [.str a, .str b] h = .ok (.v (.str (lagF a b))) h := by
  have za : a.length ≤ sizeLine := by unfold sizeLine; omega
  have zb : b.length ≤ sizeLine := by unfold sizeLine; omega
  have pl := pre_le a b
  have w := lag_while (q := b_lag_of_q1) (w := b_lag_of_w1) h hla hlb (q_lag h hla hlb) (fun k => by unfold b_lag_of_w1; simp) wF 0 (Nat.zero_le _) (by unfold wF; omega)
  have z1 : 1 + (a.length - pre a b) ≤ sizeLine := by unfold sizeLine; omega
  have z2 : 1 + (b.length - pre a b) ≤ sizeLine := by unfold sizeLine; omega
  have k1 := cutL_from a (pre a b)
  have k2 := cutL_from b (pre a b)
  rw [show ((0 : Nat) : Int) = 0 from rfl] at w
  rw [lagF_pre]
  unfold m_lag_of b_lag_of
  by_cases c1 : pre a b < a.length
  · by_cases c2 : pre a b < b.length
    · simp [List.replicate, w, za, zb, c1, c2]
    · simp [List.replicate, w, za, zb, c1, c2, k1, z1]
  · by_cases c2 : pre a b < b.length
    · simp [List.replicate, w, za, zb, c1, c2, k2, z2]
    · simp [List.replicate, w, za, zb, c1, c2]
theorem q_lag2 {a b : List Nat} (h : MH) (hla : a.length ≤ 700) (hlb : b.length ≤ 700) (k : Nat) : b__law_lag_of_q1 [.v (.str a), .v (.str b), .v (.int (k : Int))] h = .ok (decide (k < a.length) && (decide (k < b.length) && decide (a[k]? = b[k]?))) [.v (.str a), .v (.str b), .v (.int (k : Int))] h := q_lag h hla hlb k
theorem r_lag_of {a b : List Nat} (h : MH) (hla : a.length ≤ 700) (hlb : b.length ≤ 700) : m__law_lag_of [.str a, .str b] h = .ok (.v (.str (lagF a b))) h := by
  have za : a.length ≤ sizeLine := by unfold sizeLine; omega
  have zb : b.length ≤ sizeLine := by unfold sizeLine; omega
  have pl := pre_le a b
  have w := lag_while (q := b__law_lag_of_q1) (w := b__law_lag_of_w1) h hla hlb (q_lag2 h hla hlb) (fun k => by unfold b__law_lag_of_w1; simp) wF 0 (Nat.zero_le _) (by unfold wF; omega)
  have z1 : 1 + (a.length - pre a b) ≤ sizeLine := by unfold sizeLine; omega
  have z2 : 1 + (b.length - pre a b) ≤ sizeLine := by unfold sizeLine; omega
  have k1 := cutL_from a (pre a b)
  have k2 := cutL_from b (pre a b)
  rw [show ((0 : Nat) : Int) = 0 from rfl] at w
  rw [lagF_pre]
  unfold m__law_lag_of b__law_lag_of
  by_cases c1 : pre a b < a.length
  · by_cases c2 : pre a b < b.length
    · simp [List.replicate, w, za, zb, c1, c2]
    · simp [List.replicate, w, za, zb, c1, c2, k1, z1]
  · by_cases c2 : pre a b < b.length
    · simp [List.replicate, w, za, zb, c1, c2, k2, z2]
    · simp [List.replicate, w, za, zb, c1, c2]
/-- what a lag looks like -/
theorem lagF_sort (a b : List Nat) : lagF a b = [35] ∨ (∃ r, lagF a b = 43 :: r ∧ r.length ≤ a.length) ∨ (∃ r, lagF a b = 45 :: r ∧ r.length ≤ b.length) ∨ lagF a b = [61] := by
  rw [lagF_pre]
  split
  · exact .inl rfl
  · split
    · exact .inr (.inl ⟨_, rfl, by simp⟩)
    · split
      · exact .inr (.inr (.inl ⟨_, rfl, by simp⟩))
      · exact .inr (.inr (.inr rfl))
theorem c_lag_on {f s a b : List Nat} (h : MH) (h1 : f.length + a.length ≤ 700) (h2 : s.length + b.length ≤ 700) : m_lag_on [.str (lagF f s), .str a, .str b] h = .ok (.v (.str (lagF (f ++ a) (s ++ b)))) h := by
  have e := lagOn_lagF f s a b
  have c1 : ∀ r : List Nat, cutL (43 :: r) (some 1) none = r := fun r => by have := cutL_from (43 :: r) 1; simpa using this
  have c2 : ∀ r : List Nat, cutL (45 :: r) (some 1) none = r := fun r => by have := cutL_from (45 :: r) 1; simpa using this
  unfold m_lag_on b_lag_on
  rcases lagF_sort f s with q | ⟨r, q, ql⟩ | ⟨r, q, ql⟩ | q
  · rw [← e, q]
    simp [lagOn]
  · rw [← e, q]
    have z : (43 :: r).length ≤ sizeLine := by simp; unfold sizeLine; omega
    have z1 : r.length + a.length ≤ sizeLine := by unfold sizeLine; omega
    have l := c_lag_of (a := r ++ a) (b := b) h (by simp; omega) (by omega)
    simp at z
    simp [lagOn, z, c1, z1, l]
  · rw [← e, q]
    have z : (45 :: r).length ≤ sizeLine := by simp; unfold sizeLine; omega
    have z1 : r.length + b.length ≤ sizeLine := by unfold sizeLine; omega
    have l := c_lag_of (a := a) (b := r ++ b) h (by omega) (by simp; omega)
    simp at z
    simp [lagOn, z, c2, z1, l]
  · rw [← e, q]
    have l := c_lag_of (a := a) (b := b) h (by omega) (by omega)
    have z : (1 : Nat) ≤ sizeLine := by decide
    simp [lagOn, z, l]
theorem r_turned {f s : List Nat} (h : MH) (h1 : f.length ≤ 700) (h2 : s.length ≤ 700) : m__law_turned [.str (lagF f s)] h = .ok (.v (.str (lagF s f))) h := by
  have e := lagF_turn f s
  have c1 : ∀ r : List Nat, cutL (43 :: r) (some 1) none = r := fun r => by have := cutL_from (43 :: r) 1; simpa using this
  have c2 : ∀ r : List Nat, cutL (45 :: r) (some 1) none = r := fun r => by have := cutL_from (45 :: r) 1; simpa using this
  rw [e]
  unfold m__law_turned b__law_turned
  rcases lagF_sort f s with q | ⟨r, q, ql⟩ | ⟨r, q, ql⟩ | q
  · rw [q]
    have z : (1 : Nat) ≤ sizeLine := by decide
    simp [turnF, z]
  · rw [q]
    have z : r.length + 1 ≤ sizeLine := by unfold sizeLine; omega
    have z1 : 1 + r.length ≤ sizeLine := by unfold sizeLine; omega
    simp [turnF, z, z1, c1]
  · rw [q]
    have z : r.length + 1 ≤ sizeLine := by unfold sizeLine; omega
    have z1 : 1 + r.length ≤ sizeLine := by unfold sizeLine; omega
    simp [turnF, z, z1, c2]
  · rw [q]
    have z : (1 : Nat) ≤ sizeLine := by decide
    simp [turnF, z]
/-- one turn of the lags -/
theorem l_turn {f s a b : List Nat} {x0 x4 x5 x6 x7 x8 : Sl} (h : MH) (h1 : f.length + a.length ≤ 700) (h2 : s.length + b.length ≤ 700) :
    ∃ y7, b__law_lags_f1 [x0, .v (.str f), .v (.str s), .v (.str (lagF f s)), .v (.str a), .v (.str b), x6, x7, x8] h = .nx [x0, .v (.str (f ++ a)), .v (.str (s ++ b)), .v (.str (lagF (f ++ a) (s ++ b))), .v (.str a), .v (.str b), .v (.str (lagF (f ++ a) (s ++ b))), y7, x8] h := by
  have z1 : f.length + a.length ≤ sizeLine := by unfold sizeLine; omega
  have z2 : s.length + b.length ≤ sizeLine := by unfold sizeLine; omega
  have e1 := r_lag_of (a := f ++ a) (b := s ++ b) h (by simpa using h1) (by simpa using h2)
  have e2 := c_lag_on (f := f) (s := s) (a := a) (b := b) h h1 h2
  have e3 := c_lag_on (f := f) (s := s) (a := a) (b := []) h h1 (by simp; omega)
  have e4 := c_lag_on (f := f ++ a) (s := s) (a := []) (b := b) h (by simpa using h1) h2
  have e5 := c_lag_on (f := f) (s := s) (a := []) (b := b) h (by simp; omega) h2
  have e6 := c_lag_on (f := f) (s := s ++ b) (a := a) (b := []) h h1 (by simpa using h2)
  have e7 := c_lag_of (a := f ++ a) (b := s ++ b) h (by simpa using h1) (by simpa using h2)
  have e8 := c_lag_on (f := []) (s := []) (a := f ++ a) (b := s ++ b) h (by simpa using h1) (by simpa using h2)
  have e9 := c_lag_of (a := s ++ b) (b := f ++ a) h (by simpa using h2) (by simpa using h1)
  have e10 := r_turned (f := f ++ a) (s := s ++ b) h (by simpa using h1) (by simpa using h2)
  have e11 := c_lag_on (f := f ++ a) (s := s ++ b) (a := []) (b := []) h (by simpa using h1) (by simpa using h2)
  have l61 : lagF [] [] = [61] := rfl
  rw [l61] at e8
  simp only [List.append_nil, List.nil_append] at e3 e4 e5 e6 e8 e11
  generalize lagF (f ++ a) (s ++ b) = L at *
  generalize lagF (s ++ b) (f ++ a) = L2 at *
  generalize lagF (f ++ a) s = L3 at *
  generalize lagF f (s ++ b) = L4 at *
  generalize lagF f s = L5 at *
  have z3 : (3 : Nat) ≤ sizeLine := by decide
  have z4 : (2 : Nat) ≤ sizeLine := by decide
  have z5 : (5 : Nat) ≤ sizeLine := by decide
  have tb : toBls [D.bl true, D.bl true, D.bl true, D.bl true, D.bl true] = some [true, true, true, true, true] := rfl
  have y0 : (0 : Nat) < sizeLine := by decide
  have y1 : (1 : Nat) < sizeLine := by decide
  have y2 : (2 : Nat) < sizeLine := by decide
  have y3 : (3 : Nat) < sizeLine := by decide
  have y4 : (4 : Nat) < sizeLine := by decide
  refine ⟨.v (.lst [.str L, .str L, .str L, .str L, .str L]), ?_⟩
  unfold b__law_lags_f1
  simp [z1, z2, e1, e2, e3, e4, e5, e6, e7, e8, e9, e10, e11, z3, z4, z5, compL, b__law_lags_c1, y0, y1, y2, y3, y4, tb]
/-- pieces: pairs of short texts -/
structure Pcs (ps : List (List Nat × List Nat)) : Prop where
  len : ps.length ≤ 49
  sh : ∀ p ∈ ps, p.1.length ≤ 13 ∧ p.2.length ≤ 13
theorem l_loop (h : MH) : ∀ (ps : List (List Nat × List Nat)) (f s : List Nat) (x0 x4 x5 x6 x7 : Sl), f.length + 13 * ps.length ≤ 700 → s.length + 13 * ps.length ≤ 700 → (∀ p ∈ ps, p.1.length ≤ 13 ∧ p.2.length ≤ 13) →
    ∃ e', sForL (tL (tsCons (tN 4) (tsCons (tN 5) tsNil)) 2) b__law_lags_f1 (ps.map fun p => D.lst [.str p.1, .str p.2]) [x0, .v (.str f), .v (.str s), .v (.str (lagF f s)), x4, x5, x6, x7, .un] h = .nx e' h
  | [], f, s, x0, x4, x5, x6, x7, h1, h2, h3 => ⟨_, rfl⟩
  | p :: ps, f, s, x0, x4, x5, x6, x7, h1, h2, h3 => by
    obtain ⟨q1, q2⟩ := h3 p (by simp)
    rw [List.length_cons] at h1 h2
    obtain ⟨y7, e⟩ := l_turn (f := f) (s := s) (a := p.1) (b := p.2) (x0 := x0) (x4 := x4) (x5 := x5) (x6 := x6) (x7 := x7) (x8 := .un) h (by omega) (by omega)
    obtain ⟨e', r⟩ := l_loop h ps (f ++ p.1) (s ++ p.2) x0 (.v (.str p.1)) (.v (.str p.2)) (.v (.str (lagF (f ++ p.1) (s ++ p.2)))) y7 (by simp; omega) (by simp; omega) (fun x m => h3 x (by simp [m]))
    refine ⟨e', ?_⟩
    rw [List.map_cons, sForL]
    have : tL (tsCons (tN 4) (tsCons (tN 5) tsNil)) 2 (D.lst [.str p.1, .str p.2]) [x0, .v (.str f), .v (.str s), .v (.str (lagF f s)), x4, x5, x6, x7, .un] = some [x0, .v (.str f), .v (.str s), .v (.str (lagF f s)), .v (.str p.1), .v (.str p.2), x6, x7, .un] := by simp
    rw [this]
    dsimp only
    rw [e]
    exact r
theorem r_lags (h : MH) {ps : List (List Nat × List Nat)} (p : Pcs ps) : m__law_lags [.lst (ps.map fun p => D.lst [.str p.1, .str p.2])] h = .ok (.v (.bl true)) h := by
  obtain ⟨e', r⟩ := l_loop h ps [] [] (.v (.lst (ps.map fun p => D.lst [.str p.1, .str p.2]))) .un .un .un .un (by have := p.len; simp; omega) (by have := p.len; simp; omega) p.sh
  have l0 : lagF [] [] = [61] := rfl
  rw [l0] at r
  unfold m__law_lags b__law_lags
  simp [List.replicate, r]
end Mi
end
section
set_option Elab.async false
set_option linter.all false
set_option maxRecDepth 100000
set_option pp.maxSteps 2500
set_option maxHeartbeats 4000000
open PySem PySem.Spec PyProof.Rows L2
namespace Mi
theorem p_f3 {b : Nat} {s t : List Nat} {h : MH} {x0 x4 x5 x6 x7 x8 x9 x10 x11 x12 x13 : Sl} (hB : Bag b h) (hs : Sn s) (hl : t.length ≤ 100) :
    ∃ c h', b__law_pieces_of_f3 [x0, .v (.str s), .v (.loc b), .v (.str t), x4, x5, x6, x7, x8, x9, x10, x11, x12, x13] h = .nx [x0, .v (.str s), .v (.loc b), .v (.str (t ++ [c])), x4, x5, x6, x7, x8, x9, x10, x11, x12, x13] h' ∧ Mv h h' := by
  obtain ⟨c, h', e, m, _⟩ := r_one_str (s := s) hB (by have := hs.lo; omega) (by have := hs.hi; omega)
  have z : t.length + 1 ≤ sizeLine := by unfold sizeLine; omega
  refine ⟨c, h', ?_, m⟩
  unfold b__law_pieces_of_f3
  simp [e, z]
theorem p_f1 {b : Nat} {base : List Nat} {pair : List D} {e0 e1 side : Nat} {h : MH} {x0 x1 x3 x4 x6 x7 x8 x12 x13 : Sl} (hB : Bag b h) (hb : base.length ≤ 700) (hp : pair.length ≤ 5) (hs : side < 2) :
    ∃ p f0 f1 y12 h', b__law_pieces_of_f1 [x0, x1, .v (.loc b), x3, x4, .v (.str base), x6, x7, x8, .own [nD e0, nD e1], .own pair, .v (nD side), x12, x13] h = .nx [x0, x1, .v (.loc b), x3, x4, .v (.str base), x6, x7, x8, .own [nD f0, nD f1], .own (pair ++ [.str p]), .v (nD side), y12, x13] h' ∧ Mv h h' ∧ p.length ≤ 12 := by
  obtain ⟨i, h1, q1, m1, hi⟩ := r_pickN hB (m := 8) (by decide) (by decide)
  obtain ⟨z, az, mz⟩ := at_cs [0, 0, 1, 1, 2, 3, 4, 12] hi
  have hz : z ≤ 12 := by
    have : ∀ m ∈ [0, 0, 1, 1, 2, 3, 4, 12], m ≤ 12 := by decide
    exact this z mz
  have z8 : (8 : Nat) ≤ sizeLine := by decide
  have zb : base.length ≤ sizeLine := by unfold sizeLine; omega
  have zp : pair.length < sizeLine := by unfold sizeLine; omega
  simp at q1 az
  have c0 := cutL_mid base e0 (e0 + z)
  have c1 := cutL_mid base e1 (e1 + z)
  rw [show ((e0 + z : Nat) : Int) = (e0 : Int) + (z : Int) by omega] at c0
  rw [show ((e1 + z : Nat) : Int) = (e1 : Int) + (z : Int) by omega] at c1
  have s0 : ixN 2 0 = some 0 := by decide
  have s1 : ixN 2 1 = some 1 := by decide
  have : side = 0 ∨ side = 1 := by omega
  rcases this with rfl | rfl
  · refine ⟨(base.take (e0 + z)).drop e0, e0 + z, e1, .v (nD z), h1, ?_, m1, by simp; omega⟩
    unfold b__law_pieces_of_f1
    simp [q1, az, z8, zb, zp, c0, s0]
  · refine ⟨(base.take (e1 + z)).drop e1, e0, e1 + z, .v (nD z), h1, ?_, m1, by simp; omega⟩
    unfold b__law_pieces_of_f1
    simp [q1, az, z8, zb, zp, c1, s1]
/-- an inner turn: both sides -/
theorem p_side {b : Nat} {base : List Nat} {e0 e1 : Nat} {h : MH} {x0 x1 x3 x4 x6 x7 x8 x11 x12 x13 : Sl} (hB : Bag b h) (hb : base.length ≤ 700) :
    ∃ p q f0 f1 y11 y12 h', sForL (tN 11) b__law_pieces_of_f1 (rangeD 0 2) [x0, x1, .v (.loc b), x3, x4, .v (.str base), x6, x7, x8, .own [nD e0, nD e1], .own [], x11, x12, x13] h = .nx [x0, x1, .v (.loc b), x3, x4, .v (.str base), x6, x7, x8, .own [nD f0, nD f1], .own [.str p, .str q], y11, y12, x13] h' ∧ Mv h h' ∧ p.length ≤ 12 ∧ q.length ≤ 12 := by
  obtain ⟨p, f0, f1, y12, h1, e1', m1, l1⟩ := p_f1 (pair := []) (e0 := e0) (e1 := e1) (side := 0) (x0 := x0) (x1 := x1) (x3 := x3) (x4 := x4) (x6 := x6) (x7 := x7) (x8 := x8) (x12 := x12) (x13 := x13) hB hb (by simp) (by decide)
  obtain ⟨q, g0, g1, y13, h2, e2', m2, l2⟩ := p_f1 (pair := [.str p]) (e0 := f0) (e1 := f1) (side := 1) (x0 := x0) (x1 := x1) (x3 := x3) (x4 := x4) (x6 := x6) (x7 := x7) (x8 := x8) (x12 := y12) (x13 := x13) (m1.bag b hB) hb (by simp) (by decide)
  refine ⟨p, q, g0, g1, .v (nD 1), y13, h2, ?_, m1.trans m2, l1, l2⟩
  have r2 : rangeD 0 2 = [nD 0, nD 1] := rfl
  rw [r2, sForL]
  dsimp only [tN, List.set]
  rw [e1']
  dsimp only
  rw [sForL]
  dsimp only [tN, List.set]
  simp only [List.nil_append] at e2' ⊢
  rw [e2']
  rfl
/-- what the told pieces are -/
def pcD (ps : List (List Nat × List Nat)) : List D := ps.map fun p => D.lst [.str p.1, .str p.2]
@[simp] theorem pcD_len (ps : List (List Nat × List Nat)) : (pcD ps).length = ps.length := by simp [pcD]
@[simp] theorem pcD_snoc (ps : List (List Nat × List Nat)) (p : List Nat × List Nat) : pcD (ps ++ [p]) = pcD ps ++ [D.lst [.str p.1, .str p.2]] := by simp [pcD]
theorem p_f2 {b0 k sp : Nat} {ns : List Int} {s base : List Nat} {e0 e1 : Nat} {ps : List (List Nat × List Nat)} {h : MH} {x2 x3 x6 x10 x11 x12 x13 : Sl} (hn : ns.length ≤ 63) (hs : Sn s) (hb : base.length ≤ 700) (hk : k ≤ 100) (hp : ps.length ≤ 100) (hsh : ∀ p ∈ ps, p.1.length ≤ 13 ∧ p.2.length ≤ 13) :
    ∃ p f0 f1 y2 y10 y11 y12 y13 h', b__law_pieces_of_f2 [.v (.lst (ns.map .int)), .v (.str s), x2, x3, .v (nD k), .v (.str base), x6, .v (nD sp), .own (pcD ps), .own [nD e0, nD e1], x10, x11, x12, x13] h = .nx [.v (.lst (ns.map .int)), .v (.str s), y2, x3, .v (nD k), .v (.str base), x6, .v (nD sp), .own (pcD (ps ++ [p])), .own [nD f0, nD f1], y10, y11, y12, y13] h' ∧ Mv h h' ∧ p.1.length ≤ 13 ∧ p.2.length ≤ 13 := by
  obtain ⟨h1, e1', m1, b1⟩ := r_bag_of ns (2 + k) h (by omega) hn
  obtain ⟨p, q, f0, f1, y11, y12, h2, e2', m2, l1, l2⟩ := p_side (base := base) (e0 := e0) (e1 := e1) (x0 := .v (.lst (ns.map .int))) (x1 := .v (.str s)) (x3 := x3) (x4 := .v (nD k)) (x6 := x6) (x7 := .v (nD sp)) (x8 := .own (pcD ps)) (x11 := x11) (x12 := x12) (x13 := x13) b1 hb
  have z0 : (0 : Nat) ≤ sizeLine := Nat.zero_le _
  have zp : ps.length < sizeLine := by unfold sizeLine; omega
  rw [show (((2 + k : Nat)) : Int) = 2 + (k : Int) by omega] at e1'
  by_cases c : k = sp
  · subst c
    obtain ⟨i, h3, e3, m3, hi⟩ := r_pickN ((m2).bag _ b1) (m := 2) (by decide) (by decide)
    have hi2 : i = 0 ∨ i = 1 := by omega
    have lp : p.length ≤ sizeLine := by unfold sizeLine; omega
    have lq : q.length ≤ sizeLine := by unfold sizeLine; omega
    have s0 : ixN 2 0 = some 0 := by decide
    have s1 : ixN 2 1 = some 1 := by decide
    rcases hi2 with rfl | rfl
    · simp at e3
      obtain ⟨a, h4, e4, m4, ha⟩ := r_pickN ((m2.trans m3).bag _ b1) (m := p.length + 1) (by omega) (by omega)
      obtain ⟨ch, h5, e5, m5, _⟩ := r_one_str (s := s) (((m2.trans m3).trans m4).bag _ b1) (by have := hs.lo; omega) (by have := hs.hi; omega)
      have c1 := cutL_to p a
      have c2 := cutL_from p (a + 1)
      rw [show ((a + 1 : Nat) : Int) = (a : Int) + 1 by omega] at c2
      have z1 : min a p.length + 1 ≤ sizeLine := by unfold sizeLine; omega
      have z2 : min a p.length + 1 + (p.length - (a + 1)) ≤ sizeLine := by unfold sizeLine; omega
      refine ⟨(p.take a ++ [ch] ++ p.drop (a + 1), q), f0, f1, .v (.loc h.length), .v (.lst [.str (p.take a ++ [ch] ++ p.drop (a + 1)), .str q]), .v (nD 0), y12, .v (nD a), h5, ?_, (((m1.trans m2).trans m3).trans m4).trans m5, by simp; omega, by simp; omega⟩
      unfold b__law_pieces_of_f2
      simp at e4 e5
      simp [e1', z0, e2', e3, e4, e5, lp, zp, c1, c2, z1, z2, s0]
    · simp at e3
      obtain ⟨a, h4, e4, m4, ha⟩ := r_pickN ((m2.trans m3).bag _ b1) (m := q.length + 1) (by omega) (by omega)
      obtain ⟨ch, h5, e5, m5, _⟩ := r_one_str (s := s) (((m2.trans m3).trans m4).bag _ b1) (by have := hs.lo; omega) (by have := hs.hi; omega)
      have c1 := cutL_to q a
      have c2 := cutL_from q (a + 1)
      rw [show ((a + 1 : Nat) : Int) = (a : Int) + 1 by omega] at c2
      have z1 : min a q.length + 1 ≤ sizeLine := by unfold sizeLine; omega
      have z2 : min a q.length + 1 + (q.length - (a + 1)) ≤ sizeLine := by unfold sizeLine; omega
      refine ⟨(p, q.take a ++ [ch] ++ q.drop (a + 1)), f0, f1, .v (.loc h.length), .v (.lst [.str p, .str (q.take a ++ [ch] ++ q.drop (a + 1))]), .v (nD 1), y12, .v (nD a), h5, ?_, (((m1.trans m2).trans m3).trans m4).trans m5, by simp; omega, by simp; omega⟩
      unfold b__law_pieces_of_f2
      simp at e4 e5
      simp [e1', z0, e2', e3, e4, e5, lq, zp, c1, c2, z1, z2, s1]
  · refine ⟨(p, q), f0, f1, .v (.loc h.length), .v (.lst [.str p, .str q]), y11, y12, x13, h2, ?_, m1.trans m2, by simp; omega, by simp; omega⟩
    have c' : ¬ ((k : Int) = (sp : Int)) := by omega
    unfold b__law_pieces_of_f2
    simp [e1', z0, e2', c', zp]
theorem r_pieces_of {ns : List Int} {s : List Nat} (h : MH) (hn : ns.length ≤ 63) (hs : Sn s) : ∃ ps h', m__law_pieces_of [.lst (ns.map .int), .str s] h = .ok (.v (.lst (pcD ps))) h' ∧ Mv h h' ∧ Pcs ps := by
  obtain ⟨h1, e1, m1, b1⟩ := r_bag_of ns 1 h (by decide) hn
  obtain ⟨i, h2, e2, m2, hi⟩ := r_pickN b1 (m := 2) (by decide) (by decide)
  obtain ⟨m, am, mm⟩ := at_cs [3, 40] hi
  have hm : 3 ≤ m ∧ m ≤ 40 := by
    have : ∀ m ∈ [3, 40], 3 ≤ m ∧ m ≤ 40 := by decide
    exact this m mm
  obtain ⟨n, h3, e3, m3, hn'⟩ := r_pickN (m2.bag _ b1) (m := m) (by omega) (by omega)
  obtain ⟨ev, h4, f1, t, x4, f2, f3, f4⟩ := for_go (t := tN 4) (mb := b__law_pieces_of_f3) (J := fun j env h' => ∃ (t : List Nat) (x4 : Sl), env = [.v (.lst (ns.map .int)), .v (.str s), .v (.loc h.length), .v (.str t), x4, .un, .un, .un, .un, .un, .un, .un, .un, .un] ∧ Mv h3 h' ∧ t.length = j) (rangeD 0 (1 + n)) 0
    [.v (.lst (ns.map .int)), .v (.str s), .v (.loc h.length), .v (.str []), .un, .un, .un, .un, .un, .un, .un, .un, .un, .un] h3 ⟨[], .un, rfl, Mvx.refl h3, rfl⟩ (fun j d env h' hd jj => by
    obtain ⟨t, x4, rfl, mv, tl⟩ := jj
    rw [Nat.zero_add] at tl ⊢
    obtain ⟨hj, rfl⟩ := rangeD_get hd
    obtain ⟨c, h5, e5, m5⟩ := p_f3 (s := s) (t := t) (x0 := .v (.lst (ns.map .int))) (x4 := .v (nD j)) (x5 := .un) (x6 := .un) (x7 := .un) (x8 := .un) (x9 := .un) (x10 := .un) (x11 := .un) (x12 := .un) (x13 := .un) (((m2.trans m3).trans mv).bag _ b1) hs (by omega)
    exact ⟨_, _, h5, rfl, e5, _, .v (nD j), rfl, mv.trans m5, by simp [tl]⟩)
  subst f2
  rw [rangeD_len, Nat.zero_add] at f4
  have mh4 : Mv h1 h4 := (m2.trans m3).trans f3
  obtain ⟨a, h5, e5, m5, ha⟩ := r_pickN (mh4.bag _ b1) (m := 8) (by decide) (by decide)
  obtain ⟨M, hM⟩ : ∃ M : Nat, M = 3 + a + min 39 ns.length := ⟨_, rfl⟩
  obtain ⟨sp, h6, e6, m6, _⟩ := r_pickN ((mh4.trans m5).bag _ b1) (m := M + M) (by omega) (by omega)
  have q1 : 0 < t.length := by omega
  obtain ⟨K, hK⟩ : ∃ K : Nat, K = 620 / t.length := ⟨_, rfl⟩
  have q2 : (620 : Int) / (t.length : Int) = (K : Int) := by rw [hK, Int.natCast_ediv]; rfl
  have q3 : 15 ≤ K := by
    rw [hK, Nat.le_div_iff_mul_le q1]; omega
  have q4 : K ≤ 620 := by rw [hK]; exact Nat.div_le_self _ _
  obtain ⟨base, hbase⟩ : ∃ base, base = (List.replicate K t).flatten := ⟨_, rfl⟩
  have bl : base.length ≤ 700 := by
    rw [hbase, List.length_flatten]
    simp
    have := Nat.div_mul_le_self 620 t.length
    rw [← hK] at this
    omega
  obtain ⟨ev2, h7, g1, ps, k0, e0, e1', y2, y10, y11, y12, y13, g2, g3, g4, g5⟩ := for_go (t := tN 4) (mb := b__law_pieces_of_f2) (J := fun j env h' => ∃ (ps : List (List Nat × List Nat)) (k0 : Sl) (e0 e1 : Nat) (y2 y10 y11 y12 y13 : Sl), env = [.v (.lst (ns.map .int)), .v (.str s), y2, .v (.str t), k0, .v (.str base), .v (nD M), .v (nD sp), .own (pcD ps), .own [nD e0, nD e1], y10, y11, y12, y13] ∧ Mv h6 h' ∧ ps.length = j ∧ ∀ p ∈ ps, p.1.length ≤ 13 ∧ p.2.length ≤ 13) (rangeD 0 M) 0
    [.v (.lst (ns.map .int)), .v (.str s), .v (.loc h.length), .v (.str t), x4, .v (.str base), .v (nD M), .v (nD sp), .own [], .own [nD 0, nD 0], .un, .un, .un, .un] h6 ⟨[], x4, 0, 0, _, _, _, _, _, rfl, Mvx.refl h6, rfl, by simp⟩ (fun j d env h' hd jj => by
    obtain ⟨ps, k0, e0, e1, y2, y10, y11, y12, y13, rfl, mv, pl, psh⟩ := jj
    rw [Nat.zero_add] at pl ⊢
    obtain ⟨hj, rfl⟩ := rangeD_get hd
    obtain ⟨p, f0, f1, z2, z10, z11, z12, z13, h8, e8, m8, l1, l2⟩ := p_f2 (b0 := 0) (k := j) (sp := sp) (ns := ns) (s := s) (base := base) (e0 := e0) (e1 := e1) (ps := ps) (h := h') (x2 := y2) (x3 := .v (.str t)) (x6 := .v (nD M)) (x10 := y10) (x11 := y11) (x12 := y12) (x13 := y13) hn hs bl (by omega) (by omega) psh
    refine ⟨_, _, h8, rfl, e8, ps ++ [p], .v (nD j), f0, f1, z2, z10, z11, z12, z13, rfl, mv.trans m8, by simp [pl], fun x hx => ?_⟩
    rcases List.mem_append.mp hx with hx | hx
    · exact psh x hx
    · rw [List.mem_singleton.mp hx]; exact ⟨l1, l2⟩)
  subst g2
  rw [rangeD_len, Nat.zero_add] at g4
  refine ⟨ps, h7, ?_, (((m1.trans mh4).trans m5).trans m6).trans g3, ⟨by omega, g5⟩⟩
  have z2 : (2 : Nat) ≤ sizeLine := by decide
  have z0 : (0 : Nat) ≤ sizeLine := Nat.zero_le _
  have zt : t.length ≤ sizeLine := by unfold sizeLine; omega
  have w1 : (-1000000000000 : Int) ≤ 1 + (n : Int) := by omega
  have w2 : 1 + (n : Int) ≤ 1000000000000 := by omega
  have w3 : (1 + (n : Int)).toNat = 1 + n := by omega
  have w4 : (-1000000000000 : Int) ≤ (M : Int) := by omega
  have w5 : (M : Int) ≤ 1000000000000 := by omega
  have r2 : t.length ≤ 1000 := by omega
  have r3 : 0 < (t.length : Int) ∧ (t.length : Int).natAbs < 1073741824 := by omega
  have mn : (if (ns.length : Int) < 39 then (ns.length : Int) else 39) = ((min 39 ns.length : Nat) : Int) := by split <;> omega
  have mM : 3 + (a : Int) + ((min 39 ns.length : Nat) : Int) = (M : Int) := by omega
  have e6' : m__law_pick [D.loc h.length, D.int ((M : Int) + (M : Int))] h5 = .ok (.v (.int (sp : Int))) h6 := by
    rw [← e6]; congr 3
  simp at e1 e2 am e3 e5
  have S1 : b__law_pieces_of_s1 ([.v (.lst (ns.map .int)), .v (.str s)] ++ List.replicate 12 .un) h = .nx [.v (.lst (ns.map .int)), .v (.str s), .v (.loc h.length), .un, .un, .un, .un, .un, .un, .un, .un, .un, .un, .un] h1 := by
    unfold b__law_pieces_of_s1
    simp [List.replicate, e1]
  have S2 : b__law_pieces_of_s2 [.v (.lst (ns.map .int)), .v (.str s), .v (.loc h.length), .un, .un, .un, .un, .un, .un, .un, .un, .un, .un, .un] h1 = .nx [.v (.lst (ns.map .int)), .v (.str s), .v (.loc h.length), .v (.str []), .un, .un, .un, .un, .un, .un, .un, .un, .un, .un] h1 := by
    unfold b__law_pieces_of_s2
    simp
  have S3 : b__law_pieces_of_s3 [.v (.lst (ns.map .int)), .v (.str s), .v (.loc h.length), .v (.str []), .un, .un, .un, .un, .un, .un, .un, .un, .un, .un] h1 = .nx [.v (.lst (ns.map .int)), .v (.str s), .v (.loc h.length), .v (.str t), x4, .un, .un, .un, .un, .un, .un, .un, .un, .un] h4 := by
    unfold b__law_pieces_of_s3
    simp [z2, e2, am, e3, w1, w2, w3, f1]
  have S4 : b__law_pieces_of_s4 [.v (.lst (ns.map .int)), .v (.str s), .v (.loc h.length), .v (.str t), x4, .un, .un, .un, .un, .un, .un, .un, .un, .un] h4 = .nx [.v (.lst (ns.map .int)), .v (.str s), .v (.loc h.length), .v (.str t), x4, .v (.str base), .un, .un, .un, .un, .un, .un, .un, .un] h4 := by
    have mu : mulSO h4 (.str t) (.int (K : Int)) = some (.v (.str base)) := by
      rw [x_mulS, if_pos ⟨q1, by omega, by omega, r2⟩, hbase]
      rfl
    unfold b__law_pieces_of_s4
    simp [-x_mulS, zt, r3.1, r3.2, q2, mu, show t.length < 1073741824 by omega, q1]
  have S5 : b__law_pieces_of_s5 [.v (.lst (ns.map .int)), .v (.str s), .v (.loc h.length), .v (.str t), x4, .v (.str base), .un, .un, .un, .un, .un, .un, .un, .un] h4 = .nx [.v (.lst (ns.map .int)), .v (.str s), .v (.loc h.length), .v (.str t), x4, .v (.str base), .v (nD M), .un, .un, .un, .un, .un, .un, .un] h5 := by
    unfold b__law_pieces_of_s5
    simp [-x_min2, e5, show min2O h5 [.int 39, .int (ns.length : Int)] = some (.v (.int ((min 39 ns.length : Nat) : Int))) by rw [x_min2, mn], mM]
  have S6 : b__law_pieces_of_s6 [.v (.lst (ns.map .int)), .v (.str s), .v (.loc h.length), .v (.str t), x4, .v (.str base), .v (nD M), .un, .un, .un, .un, .un, .un, .un] h5 = .nx [.v (.lst (ns.map .int)), .v (.str s), .v (.loc h.length), .v (.str t), x4, .v (.str base), .v (nD M), .v (nD sp), .un, .un, .un, .un, .un, .un] h6 := by
    unfold b__law_pieces_of_s6
    simp [e6']
  have S7 : b__law_pieces_of_s7 [.v (.lst (ns.map .int)), .v (.str s), .v (.loc h.length), .v (.str t), x4, .v (.str base), .v (nD M), .v (nD sp), .un, .un, .un, .un, .un, .un] h6 = .nx [.v (.lst (ns.map .int)), .v (.str s), .v (.loc h.length), .v (.str t), x4, .v (.str base), .v (nD M), .v (nD sp), .own [], .un, .un, .un, .un, .un] h6 := by
    unfold b__law_pieces_of_s7
    simp [z0]
  have S8 : b__law_pieces_of_s8 [.v (.lst (ns.map .int)), .v (.str s), .v (.loc h.length), .v (.str t), x4, .v (.str base), .v (nD M), .v (nD sp), .own [], .un, .un, .un, .un, .un] h6 = .nx [.v (.lst (ns.map .int)), .v (.str s), .v (.loc h.length), .v (.str t), x4, .v (.str base), .v (nD M), .v (nD sp), .own [], .own [nD 0, nD 0], .un, .un, .un, .un] h6 := by
    unfold b__law_pieces_of_s8
    simp [z2]
  have S9 : b__law_pieces_of_s9 [.v (.lst (ns.map .int)), .v (.str s), .v (.loc h.length), .v (.str t), x4, .v (.str base), .v (nD M), .v (nD sp), .own [], .own [nD 0, nD 0], .un, .un, .un, .un] h6 = .nx [.v (.lst (ns.map .int)), .v (.str s), y2, .v (.str t), k0, .v (.str base), .v (nD M), .v (nD sp), .own (pcD ps), .own [nD e0, nD e1'], y10, y11, y12, y13] h7 := by
    unfold b__law_pieces_of_s9
    have w6 : ((M : Int)).toNat = M := by omega
    simp only [x_sFor, x_iRange1, x_fz, x_eVar, List.getElem?_cons_succ, List.getElem?_cons_zero, Rs.bind_ok, x_dv, rngO_int w4 w5, w6]
    exact g1
  unfold m__law_pieces_of b__law_pieces_of
  show (match (sSeq b__law_pieces_of_s1 _) ([.v (.lst (ns.map .int)), .v (.str s)] ++ List.replicate 12 .un) h with | .nx _ h' => FR.ok (.v .non) h' | .rt r _ h' => .ok r h' | .err x _ h' => .err x h' | _ => .no) = _
  simp only [x_sSeq, S1, S2, S3, S4, S5, S6, S7, S8, S9]
  unfold b__law_pieces_of_s10
  simp
end Mi
end
section
set_option Elab.async false
set_option linter.all false
set_option maxRecDepth 100000
set_option pp.maxSteps 2500
set_option maxHeartbeats 4000000
open PySem PySem.Spec PyProof.Rows L2
namespace Mi
/-! ## papers in order -/
def keyD (p : List Nat) : D := .tup [.int (p.length : Int), .str p]
def leK : List Nat → List Nat → Bool := PySem.W.dataLe false fun p => encD (keyD p)
def sortP (ps : List (List Nat)) : List (List Nat) := ps.mergeSort leK
theorem leK_total : PySem.W.TotalLe leK := by
  unfold leK PySem.W.dataLe
  exact PySem.W.sortLe_total _ _ _
theorem sortP_idem (ps : List (List Nat)) : sortP (sortP ps) = sortP ps := List.mergeSort_of_pairwise (PySem.W.sort_pairwise leK_total ps)
theorem sortP_perm (ps : List (List Nat)) : (sortP ps).Perm ps := List.mergeSort_perm _ _
theorem toPy_key (p : List Nat) : toPy (keyD p) = some (.tuple [.int (p.length : Int), .str (S p)]) := by simp [keyD, toPy, toPys]
theorem enc_key (p : List Nat) : encD (keyD p) = .tuple [.int (p.length : Int), .str (S p)] := by unfold encD; rw [toPy_key]; rfl
theorem srt_keys {ps : List (List Nat)} (hl : ps.length ≤ 1000) : srtOk (ps.map keyD) = true := by
  unfold srtOk
  simp only [Bool.and_eq_true, Bool.or_eq_true, List.all_eq_true, decide_eq_true_eq, List.length_map]
  refine ⟨fun d m => ?_, fun d m e n => ?_, .inl fun d m => ?_, by omega, fun d m => ?_⟩
  · obtain ⟨p, _, rfl⟩ := List.mem_map.mp m
    rw [toPy_key]; rfl
  · obtain ⟨p, _, rfl⟩ := List.mem_map.mp m
    obtain ⟨q, _, rfl⟩ := List.mem_map.mp n
    rw [enc_key, enc_key]
    simp [PySem.W.alike, PySem.W.alikeAll]
  · obtain ⟨p, _, rfl⟩ := List.mem_map.mp m
    rw [enc_key]; rfl
  · obtain ⟨p, _, rfl⟩ := List.mem_map.mp m
    rw [enc_key]
    simp [PyData.depth, PyData.depthAll]
theorem sortD_keys (ps : List (List Nat)) : sortD (ps.map keyD) = (sortP ps).map keyD :=
  (PySem.W.sort_maps (r := leK) (s := PySem.W.dataLe false encD) keyD fun _ _ _ _ => rfl).symm
theorem c_key {p : List Nat} (h : MH) (hl : p.length ≤ 1000) : m_paper_key [.str p] h = .ok (.v (keyD p)) h := by
  have z : p.length ≤ sizeLine := by unfold sizeLine; omega
  have z2 : (2 : Nat) ≤ sizeLine := by decide
  unfold m_paper_key b_paper_key
  simp [z, z2, keyD]
theorem r_key {p : List Nat} (h : MH) (hl : p.length ≤ 1000) : m__law_key_of [.str p] h = .ok (.v (keyD p)) h := c_key h hl
structure Pps (ps : List (List Nat)) : Prop where
  len : ps.length ≤ 1000
  sh : ∀ p ∈ ps, p.length ≤ 100 ∧ ∀ c ∈ p, c < 0x110000
theorem Pps.sort {ps : List (List Nat)} (h : Pps ps) : Pps (sortP ps) := ⟨by rw [(sortP_perm ps).length_eq]; exact h.len, fun p m => h.sh p ((sortP_perm ps).mem_iff.mp m)⟩
theorem comp_keys {c : MV} {ps : List (List Nat)} {menv : Ev} (h : MH) (hp : Pps ps) (hc : ∀ p ∈ ps, ∀ h, ∃ e2, c (menv.set 2 (.v (.str p))) h = .ok (keyD p) e2 h) :
    compL (tN 2) bYes c menv (ps.map .str) h [] = some (ps.map keyD, h) := by
  rw [compL_map (f := fun d => match d with | .str p => keyD p | _ => .non) ?_ (by have := hp.len; simp; unfold sizeLine; omega)]
  · simp [Function.comp_def]
  · intro d m
    obtain ⟨p, hp', rfl⟩ := List.mem_map.mp m
    obtain ⟨e2, e⟩ := hc p hp' h
    exact ⟨_, e2, rfl, by simpa using e⟩
theorem comp_snd {c : MV} {ps : List (List Nat)} {menv : Ev} (h : MH) (hp : Pps ps) (hc : ∀ p ∈ ps, ∀ h, ∃ e2, c (menv.set 1 (.v (keyD p))) h = .ok (.str p) e2 h) :
    compL (tN 1) bYes c menv (ps.map keyD) h [] = some (ps.map .str, h) := by
  rw [compL_map (f := fun d => match d with | .tup [_, .str p] => .str p | _ => .non) ?_ (by have := hp.len; simp; unfold sizeLine; omega)]
  · simp [Function.comp_def, keyD]
  · intro d m
    obtain ⟨p, hp', rfl⟩ := List.mem_map.mp m
    obtain ⟨e2, e⟩ := hc p hp' h
    exact ⟨_, e2, rfl, by simpa [keyD] using e⟩
theorem c_in_order {d : D} {ps : List (List Nat)} (h : MH) (hd : itemsD d = some (ps.map .str)) (hp : Pps ps) : m_in_order [d] h = .ok (.v (.tup ((sortP ps).map .str))) h := by
  have k1 := comp_keys (c := b_in_order_c1) (menv := [.un, .un, .un]) h hp (fun p m h => ⟨[.un, .un, .v (.str p)], by
    have := hp.sh p m
    unfold b_in_order_c1
    simp [c_key h (show p.length ≤ 1000 by omega)]⟩)
  have k2 := comp_snd (c := b_in_order_c2) (menv := [.un, .un, .un]) h hp.sort (fun p m h => ⟨[.un, .v (keyD p), .un], by
    unfold b_in_order_c2
    simp [keyD]⟩)
  have so : sortDO h [.lst (ps.map keyD)] = some (.own ((sortP ps).map keyD)) := by
    unfold sortDO
    dsimp only
    rw [if_pos (srt_keys hp.len), sortD_keys]
  unfold m_in_order b_in_order
  simp [List.replicate, hd, k1, so, k2]
theorem r_ordered {d : D} {ps : List (List Nat)} (h : MH) (hd : itemsD d = some (ps.map .str)) (hp : Pps ps) : m__law_ordered [d] h = .ok (.own ((sortP ps).map .str)) h := by
  have k1 := comp_keys (c := b__law_ordered_c1) (menv := [.un, .un, .un]) h hp (fun p m h => ⟨[.un, .un, .v (.str p)], by
    have := hp.sh p m
    unfold b__law_ordered_c1
    simp [r_key h (show p.length ≤ 1000 by omega)]⟩)
  have k2 := comp_snd (c := b__law_ordered_c2) (menv := [.un, .un, .un]) h hp.sort (fun p m h => ⟨[.un, .v (keyD p), .un], by
    unfold b__law_ordered_c2
    simp [keyD]⟩)
  have so : sortDO h [.lst (ps.map keyD)] = some (.own ((sortP ps).map keyD)) := by
    unfold sortDO
    dsimp only
    rw [if_pos (srt_keys hp.len), sortD_keys]
  unfold m__law_ordered b__law_ordered
  simp [List.replicate, hd, k1, so, k2]
theorem r_same {k : Nat} {ds : List D} (f : Fi k (.tup ds)) (n : noL (.tup ds) = true) (hk : k ≤ 60) (h : MH) : m__law_same_tuple [.tup ds, .tup ds] h = .ok (.v (.bl true)) h := by
  obtain ⟨f1, f2⟩ := Fi.ok k _ f
  have e := eqD_refl f1 (by omega)
  have nl := r_noList k (.tup ds) f rF h (by unfold rF; omega)
  rw [n] at nl
  unfold m__law_same_tuple b__law_same_tuple
  simp [e, nl]
theorem fi_strs {ps : List (List Nat)} (hp : Pps ps) : Fi 1 (.tup (ps.map .str)) := ⟨by simpa using hp.len, fun d m => by
  obtain ⟨p, hm, rfl⟩ := List.mem_map.mp m
  exact (hp.sh p hm).2⟩
theorem fil_strs {ps : List (List Nat)} (hp : Pps ps) : Fi 1 (.lst (ps.map .str)) := ⟨by simpa using hp.len, fun d m => by
  obtain ⟨p, hm, rfl⟩ := List.mem_map.mp m
  exact (hp.sh p hm).2⟩
theorem noL_strs (ps : List (List Nat)) : noL (.tup (ps.map .str)) = true := by simp [noL, noLs_all]
theorem r_paper {b k : Nat} {s : List Nat} {h : MH} (hB : Bag b h) (hs : Sn s) (hk : k ≤ 60) : ∃ p h', m__law_paper_of [.loc b, .str s, .int (k : Int)] h = .ok (.v (.str p)) h' ∧ Mv h h' ∧ p.length ≤ k ∧ ∀ c ∈ p, c ∈ s := by
  obtain ⟨n, h1, e1, m1, hn⟩ := r_pickN hB (m := k + 1) (by omega) (by omega)
  obtain ⟨ev, h2, f1, t, x4, f2, f3, f4, f5⟩ := for_go (t := tN 4) (mb := b__law_paper_of_f1) (J := fun j env h' => ∃ (t : List Nat) (x4 : Sl), env = [.v (.loc b), .v (.str s), .v (nD k), .v (.str t), x4] ∧ Mv h h' ∧ t.length = j ∧ ∀ c ∈ t, c ∈ s) (rangeD 0 n) 0
    [.v (.loc b), .v (.str s), .v (nD k), .v (.str []), .un] h1 ⟨[], .un, rfl, m1, rfl, by simp⟩ (fun j d env h' hd jj => by
    obtain ⟨t, x4, rfl, mv, tl, tc⟩ := jj
    rw [Nat.zero_add] at tl ⊢
    obtain ⟨hj, rfl⟩ := rangeD_get hd
    obtain ⟨c, h5, e5, m5, hc⟩ := r_one_str (s := s) (mv.bag b hB) (by have := hs.lo; omega) (by have := hs.hi; omega)
    have z : t.length + 1 ≤ sizeLine := by unfold sizeLine; omega
    refine ⟨_, [.v (.loc b), .v (.str s), .v (nD k), .v (.str (t ++ [c])), .v (nD j)], h5, rfl, ?_, t ++ [c], .v (nD j), rfl, mv.trans m5, by simp [tl], fun x hx => ?_⟩
    · unfold b__law_paper_of_f1
      simp [e5, z]
    · rcases List.mem_append.mp hx with hx | hx
      · exact tc x hx
      · rw [List.mem_singleton.mp hx]; exact hc)
  subst f2
  rw [rangeD_len, Nat.zero_add] at f4
  refine ⟨t, h2, ?_, f3, by omega, f5⟩
  have w1 : (-1000000000000 : Int) ≤ (n : Int) := by omega
  have w2 : (n : Int) ≤ 1000000000000 := by omega
  have w3 : ((n : Int)).toNat = n := by omega
  simp at e1
  unfold m__law_paper_of b__law_paper_of
  simp [List.replicate, e1, w1, w2, f1]
end Mi
end
section
set_option Elab.async false
set_option linter.all false
set_option maxRecDepth 100000
set_option pp.maxSteps 2500
set_option maxHeartbeats 4000000
open PySem PySem.Spec PyProof.Rows L2
namespace Mi
theorem sn_lt {s : List Nat} (hs : Sn s) {c : Nat} (hc : c ∈ s) : c < 0x110000 := sg_c hs hc
theorem o_f1 {ns : List Int} {s : List Nat} {ps : List (List Nat)} {k : Nat} {h : MH} {x3 x5 x6 x7 : Sl} (hn : ns.length ≤ 63) (hs : Sn s) (fl : flatH h = true) (hk : k ≤ 100) (hl : ps.length ≤ 200) (hp : Pps ps) :
    ∃ ps' h', b__law_papers_in_order_f1 [.v (.lst (ns.map .int)), .v (.str s), .own (ps.map .str), x3, .v (nD k), x5, x6, x7] h = .nx [.v (.lst (ns.map .int)), .v (.str s), .own (ps'.map .str), .v (.loc h.length), .v (nD k), x5, x6, x7] h' ∧ Mv h h' ∧ ps'.length ≤ ps.length + 2 ∧ Pps ps' := by
  obtain ⟨h1, e1, m1, b1⟩ := r_bag_of ns (4 + k) h (by omega) hn
  obtain ⟨i, h2, e2, m2, hi⟩ := r_pickN b1 (m := 3) (by decide) (by decide)
  obtain ⟨q, aq, mq⟩ := at_cs [2, 3, 9] hi
  have hq : q ≤ 9 := by
    have : ∀ m ∈ [2, 3, 9], m ≤ 9 := by decide
    exact this q mq
  obtain ⟨p, h3, e3, m3, pl, pc⟩ := r_paper (m2.bag _ b1) hs (k := q) (by omega)
  obtain ⟨j, h4, e4, m4, hj⟩ := r_pickN ((m2.trans m3).bag _ b1) (m := 4) (by decide) (by decide)
  have z3 : (3 : Nat) ≤ sizeLine := by decide
  have zl : ps.length < sizeLine := by unfold sizeLine; omega
  have zl2 : ps.length + 1 < sizeLine := by unfold sizeLine; omega
  have m14 := ((m1.trans m2).trans m3).trans m4
  have hp1 : Pps (ps ++ [p]) := ⟨by simp; omega, fun x hx => by
    rcases List.mem_append.mp hx with hx | hx
    · exact hp.sh x hx
    · rw [List.mem_singleton.mp hx]; exact ⟨by omega, fun c hc => sn_lt hs (pc c hc)⟩⟩
  rw [show ((4 + k : Nat) : Int) = 4 + (k : Int) by omega] at e1
  simp at e2 aq e4
  by_cases c : j = 0
  · obtain ⟨d, h5, e5, m5, hd⟩ := r_one_seq (((m2.trans m3).trans m4).bag _ b1) false (ds := (ps ++ [p]).map .str) (by simp) (by simp; omega)
    obtain ⟨r, hr, rfl⟩ := List.mem_map.mp hd
    have ne : (ps ++ [p]).map D.str ≠ [] := by simp
    have fl5 : flatH h5 = true := m5.fl (m14.fl fl)
    have ld : eLend (eCall m__law_one_of (aCons (fz (eVar 3)) (aCons (fz (eVar 2)) aNil))) [.v (.lst (ns.map .int)), .v (.str s), .own (ps.map D.str ++ [D.str p]), .v (.loc h.length), .v (nD k), x5, x6, x7] h4 = .ok (.v (.str r)) [.v (.lst (ns.map .int)), .v (.str s), .own (ps.map D.str ++ [D.str p]), .v (.loc h.length), .v (nD k), x5, x6, x7] h5 := by
      simp [sq] at e5
      exact x_eLend (e2 := [.v (.lst (ns.map .int)), .v (.str s), .v (.lst (ps.map D.str ++ [D.str p])), .v (.loc h.length), .v (nD k), lendS x5, lendS x6, lendS x7]) (by simp [lendS, e5]) rfl fl5
    refine ⟨(ps ++ [p]) ++ [r], h5, ?_, m14.trans m5, by simp, ⟨by simp; omega, fun x hx => ?_⟩⟩
    · subst c
      unfold b__law_papers_in_order_f1
      simp at e4
      simp [e1, e2, aq, z3, e3, zl, e4, ld, zl2]
    · rcases List.mem_append.mp hx with hx | hx
      · exact hp1.sh x hx
      · rw [List.mem_singleton.mp hx]; exact hp1.sh r hr
  · refine ⟨ps ++ [p], h4, ?_, m14, by simp, hp1⟩
    have c' : ¬ ((j : Int) = 0) := by omega
    unfold b__law_papers_in_order_f1
    simp [e1, e2, aq, z3, e3, zl, e4, c', c]
theorem r_papers_in_order {ns : List Int} {s : List Nat} (h : MH) (fl : flatH h = true) (hn : ns.length ≤ 63) (hs : Sn s) : ∃ h', m__law_papers_in_order [.lst (ns.map .int), .str s] h = .ok (.v (.bl true)) h' := by
  obtain ⟨h1, e1, m1, b1⟩ := r_bag_of ns 3 h (by decide) hn
  obtain ⟨n, h2, e2, m2, hn2⟩ := r_pickN b1 (m := 9) (by decide) (by decide)
  obtain ⟨M, hM⟩ : ∃ M : Nat, M = n + min ns.length 32 := ⟨_, rfl⟩
  obtain ⟨ev, h3, f1, ps, x3, x4, f2, f3, f4, f5⟩ := for_go (t := tN 4) (mb := b__law_papers_in_order_f1) (J := fun j env h' => ∃ (ps : List (List Nat)) (x3 x4 : Sl), env = [.v (.lst (ns.map .int)), .v (.str s), .own (ps.map .str), x3, x4, .un, .un, .un] ∧ Mv h h' ∧ ps.length ≤ 2 * j ∧ Pps ps) (rangeD 0 M) 0
    [.v (.lst (ns.map .int)), .v (.str s), .own [], .v (.loc h.length), .un, .un, .un, .un] h2 ⟨[], _, _, rfl, m1.trans m2, by simp, ⟨by simp, by simp⟩⟩ (fun j d env h' hd jj => by
    obtain ⟨ps, x3, x4, rfl, mv, pl, pp⟩ := jj
    rw [Nat.zero_add] at pl ⊢
    obtain ⟨hj, rfl⟩ := rangeD_get hd
    obtain ⟨ps', h5, e5, m5, l5, p5⟩ := o_f1 (ns := ns) (s := s) (ps := ps) (k := j) (h := h') (x3 := x3) (x5 := .un) (x6 := .un) (x7 := .un) hn hs (mv.fl fl) (by omega) (by omega) pp
    exact ⟨_, _, h5, rfl, e5, ps', _, .v (nD j), rfl, mv.trans m5, by omega, p5⟩)
  subst f2
  rw [rangeD_len, Nat.zero_add] at f4
  have ps2 := f5.sort
  have due := fi_strs ps2
  have io1 := c_in_order (d := .lst (ps.map .str)) h3 (by simp) f5
  have io2 := c_in_order (d := .tup (ps.map .str)) h3 (by simp) f5
  have io3 := c_in_order (d := .tup ((sortP ps).map .str)) h3 (by simp) ps2
  have io4 := c_in_order (d := .lst []) (ps := []) h3 (by simp) ⟨by simp, by simp⟩
  have or1 := r_ordered (d := .lst (ps.map .str)) h3 (by simp) f5
  rw [sortP_idem] at io3
  have s4 : sortP [] = [] := by simp [sortP]
  rw [s4, List.map_nil] at io4
  have sm := r_same due (noL_strs _) (by decide) h3
  have sm0 := r_same (k := 1) (ds := []) ⟨by simp, by simp⟩ (by simp [noL, noLs]) (by decide) h3
  have eqk : eqD (.lst (ps.map .str)) (.lst (ps.map .str)) = some true := by
    obtain ⟨a1, a2⟩ := Fi.ok 1 _ (fil_strs f5)
    exact eqD_refl a1 (by omega)
  have eqt : eqD (.tup ((sortP ps).map .str)) (.tup ((sortP ps).map .str)) = some true := by
    obtain ⟨a1, a2⟩ := Fi.ok 1 _ due
    exact eqD_refl a1 (by omega)
  have z0 : (0 : Nat) ≤ sizeLine := Nat.zero_le _
  have mn : (if (32 : Int) < (ns.length : Int) then (32 : Int) else (ns.length : Int)) = ((min ns.length 32 : Nat) : Int) := by split <;> omega
  have mM : (n : Int) + ((min ns.length 32 : Nat) : Int) = (M : Int) := by omega
  have w1 : (-1000000000000 : Int) ≤ (M : Int) := by omega
  have w2 : (M : Int) ≤ 1000000000000 := by omega
  have w3 : ((M : Int)).toNat = M := by omega
  simp at e1 e2
  have S1 : b__law_papers_in_order_s1 ([.v (.lst (ns.map .int)), .v (.str s)] ++ List.replicate 6 .un) h = .nx [.v (.lst (ns.map .int)), .v (.str s), .own [], .un, .un, .un, .un, .un] h := by
    unfold b__law_papers_in_order_s1
    simp [List.replicate, z0]
  have S2 : b__law_papers_in_order_s2 [.v (.lst (ns.map .int)), .v (.str s), .own [], .un, .un, .un, .un, .un] h = .nx [.v (.lst (ns.map .int)), .v (.str s), .own [], .v (.loc h.length), .un, .un, .un, .un] h1 := by
    unfold b__law_papers_in_order_s2
    simp [e1]
  have S3 : b__law_papers_in_order_s3 [.v (.lst (ns.map .int)), .v (.str s), .own [], .v (.loc h.length), .un, .un, .un, .un] h1 = .nx [.v (.lst (ns.map .int)), .v (.str s), .own (ps.map .str), x3, x4, .un, .un, .un] h3 := by
    have rg : (iRange1 (fz (eOp2 addO (fz (eCall m__law_pick (aCons (fz (eVar 3)) (aCons (fz (eC (D.int 9))) aNil)))) (fz (eCallB min2O (aCons (fz (eLenV 0 lenO)) (aCons (fz (eC (D.int 32))) aNil))))))) [.v (.lst (ns.map .int)), .v (.str s), .own [], .v (.loc h.length), .un, .un, .un, .un] h1 = .ok (rangeD 0 M) [.v (.lst (ns.map .int)), .v (.str s), .own [], .v (.loc h.length), .un, .un, .un, .un] h2 := by
      simp [-x_min2, e2, show min2O h2 [.int (ns.length : Int), .int 32] = some (.v (.int ((min ns.length 32 : Nat) : Int))) by rw [x_min2, mn], mM, w1, w2, w3]
    unfold b__law_papers_in_order_s3
    rw [x_sFor, rg]
    exact f1
  have S4 : b__law_papers_in_order_s4 [.v (.lst (ns.map .int)), .v (.str s), .own (ps.map .str), x3, x4, .un, .un, .un] h3 = .nx [.v (.lst (ns.map .int)), .v (.str s), .v (.lst (ps.map .str)), x3, x4, .own (ps.map .str), .un, .un] h3 := by
    unfold b__law_papers_in_order_s4
    simp
  have S5 : b__law_papers_in_order_s5 [.v (.lst (ns.map .int)), .v (.str s), .v (.lst (ps.map .str)), x3, x4, .own (ps.map .str), .un, .un] h3 = .nx [.v (.lst (ns.map .int)), .v (.str s), .v (.lst (ps.map .str)), x3, x4, .own (ps.map .str), .v (.tup ((sortP ps).map .str)), .un] h3 := by
    unfold b__law_papers_in_order_s5
    simp [or1]
  have S6 : b__law_papers_in_order_s6 [.v (.lst (ns.map .int)), .v (.str s), .v (.lst (ps.map .str)), x3, x4, .own (ps.map .str), .v (.tup ((sortP ps).map .str)), .un] h3 = .nx [.v (.lst (ns.map .int)), .v (.str s), .v (.lst (ps.map .str)), x3, x4, .own (ps.map .str), .v (.tup ((sortP ps).map .str)), .un] h3 := by
    unfold b__law_papers_in_order_s6
    simp [io1, io2, sm]
  have S7 : b__law_papers_in_order_s7 [.v (.lst (ns.map .int)), .v (.str s), .v (.lst (ps.map .str)), x3, x4, .own (ps.map .str), .v (.tup ((sortP ps).map .str)), .un] h3 = .nx [.v (.lst (ns.map .int)), .v (.str s), .v (.lst (ps.map .str)), x3, x4, .v (.lst (ps.map .str)), .v (.tup ((sortP ps).map .str)), .un] h3 := by
    unfold b__law_papers_in_order_s7
    simp [eqk, io3, eqt, io4, sm0, z0]
  have lp : compL (tN 7) bYes b__law_papers_in_order_c1 [.un, .un, .un, .un, .un, .un, .un, .un] (ps.map .str) h3 [] = some (ps.map (fun _ => D.bl true), h3) := by
    rw [compL_map (f := fun _ => D.bl true) ?_ (by have := f5.len; simp; unfold sizeLine; omega)]
    · simp
    · intro d m
      obtain ⟨p, hp, rfl⟩ := List.mem_map.mp m
      obtain ⟨p1, p2⟩ := f5.sh p hp
      have z : p.length ≤ sizeLine := by unfold sizeLine; omega
      have z2 : (2 : Nat) ≤ sizeLine := by decide
      have kk := c_key (p := p) h3 (by omega)
      have fk : Fi 1 (keyD p) := ⟨by simp, fun d m => by
        simp at m
        rcases m with rfl | rfl
        · exact Fi.nD 0 (by omega)
        · exact p2⟩
      have sk := r_same fk (by simp [noL, noLs]) (by decide) h3
      refine ⟨[.un, .un, .un, .un, .un, .un, .un, .v (.str p)], [.un, .un, .un, .un, .un, .un, .un, .v (.str p)], rfl, ?_⟩
      unfold b__law_papers_in_order_c1
      simp only [keyD] at sk kk
      simp [kk, z, z2, sk]
  refine ⟨h3, ?_⟩
  unfold m__law_papers_in_order b__law_papers_in_order
  show (match (sSeq b__law_papers_in_order_s1 _) ([.v (.lst (ns.map .int)), .v (.str s)] ++ List.replicate 6 .un) h with | .nx _ h' => FR.ok (.v .non) h' | .rt r _ h' => .ok r h' | .err x _ h' => .err x h' | _ => .no) = _
  simp only [x_sSeq, S1, S2, S3, S4, S5, S6, S7]
  have at_ := all_true h3 ps
  unfold b__law_papers_in_order_s8
  simp [lp, -x_all, at_]
end Mi
end
section
set_option Elab.async false
set_option linter.all false
set_option maxRecDepth 100000
set_option pp.maxSteps 2500
set_option maxHeartbeats 4000000
open PySem PySem.Spec PyProof.Rows L2
namespace Mi
abbrev clsN : List D := [.str [67, 97, 114, 114, 121, 69, 114, 114, 111, 114], .str [77, 97, 108, 102, 111, 114, 109, 101, 100], .str [66, 97, 100, 83, 105, 103, 110, 115]]
theorem r_classes (ks : List Str) (ds : List D) (h : MH) : m__law_classes ⟨"BadSigns", ks, ds⟩ h = .ok (.own clsN) h := by
  have f1 : (("BadSigns" : Str) ∈ (["BadSigns"] : List Str)) = True := eq_true (by decide +kernel)
  have z2 : (2 : Nat) ≤ sizeLine := by decide
  have z4 : (4 : Nat) ≤ sizeLine := by decide
  have z6 : (6 : Nat) ≤ sizeLine := by decide
  have z8 : (8 : Nat) ≤ sizeLine := by decide
  have z10 : (10 : Nat) ≤ sizeLine := by decide
  have z12 : (12 : Nat) ≤ sizeLine := by decide
  have z14 : (14 : Nat) ≤ sizeLine := by decide
  have z16 : (16 : Nat) ≤ sizeLine := by decide
  have z18 : (18 : Nat) ≤ sizeLine := by decide
  have y0 : (0 : Nat) < sizeLine := by decide
  have y1 : (1 : Nat) < sizeLine := by decide
  have y2 : (2 : Nat) < sizeLine := by decide
  unfold m__law_classes b__law_classes
  simp [List.replicate, f1, z2, z4, z6, z8, z10, z12, z14, z16, z18, compL, b__law_classes_q1, b__law_classes_c1, y0, y1, y2]
/-- what can be shown -/
def Rp (d : D) : Prop := ∃ t, ∀ h, reprXO h [d] = some (.v (.str t))
theorem c_value_no {d x : D} (hd : NoSg d) (h : MH) : m_sign_value [d, x] h = .err ⟨"BadSigns", ["signs"], [d]⟩ h := by
  unfold m_sign_value b_sign_value
  simp [c_check_signs_no hd]
theorem r_refused {d x : D} (hd : NoSg d) (rp : Rp d) (h : MH) : m__law_refused [d, x] h = .ok (.v (.bl true)) h := by
  obtain ⟨t, et⟩ := rp
  have f0 : (("BadSigns" : Str) ∈ (["BadSigns"] : List Str)) = True := eq_true (by decide +kernel)
  have lk : (([("signs" : Str)] : List Str).zip [d]).lookup ("signs" : Str) = some d := by simp
  have ek : eqD (.lst clsN) (.lst clsN) = some true := by decide +kernel
  have z3 : (3 : Nat) ≤ sizeLine := by decide
  have cl := r_classes ["signs"] [d] h
  have er := c_value_no (x := x) hd h
  unfold m__law_refused b__law_refused
  rw [runF_fl]
  rw [x_sSeq]
  have s1 : sSet 2 (eCallB reprXO (aCons (fz (eVar 0)) aNil)) ([d, x].map Sl.v ++ List.replicate (4 - 2) .un) h = .nx [.v d, .v x, .v (.str t), .un] h := by
    simp [et, List.replicate]
  rw [show 4 - [d, x].length = 4 - 2 from rfl, s1]
  dsimp only
  rw [x_sSeq, sTry_err (x := ⟨"BadSigns", ["signs"], [d]⟩) (e1 := [.v d, .v x, .v (.str t), .un]) (h1 := h) (by simp [er]) (by show _ ∈ _; rw [f0]; trivial)]
  simp only [clsN] at cl ek
  simp [f0, z3, ek, lk, cl, et, wipR]
theorem c_value {s : List Nat} {k : Nat} (hs : Sn s) (hk : k < s.length) (h : MH) : m_sign_value [.str s, .str [s.getD k 0]] h = .ok (.v (.int (k : Int))) h := by
  have cs := c_check_signs hs h
  have hl := hs.hi
  have io : indexO h (.str s) [.str [s.getD k 0]] = some (.v (.int (k : Int))) := by
    refine x_index (by simp [List.getD, hk]) fun j hj q => ?_
    have e1 : s[j]? = some s[j] := List.getElem?_eq_getElem (by omega)
    rw [e1] at q
    have e2 : s.getD k 0 = s[k] := by simp [List.getD, hk]
    rw [e2] at q
    exact (List.pairwise_iff_getElem.mp hs.nd j k (by omega) hk hj) (by injection q)
  unfold m_sign_value b_sign_value
  simp [cs]
  simp at io
  simp [io]
end Mi
end
section
set_option Elab.async false
set_option linter.all false
set_option maxRecDepth 100000
set_option pp.maxSteps 2500
set_option maxHeartbeats 4000000
open PySem PySem.Spec PyProof.Rows L2
namespace Mi
theorem noS_str {t : List Nat} (hl : t.length ≤ 1000) (hn : isSg t = false) : NoSg (.str t) := fun h => by rw [c_signs h hl, hn]
theorem noS_ty {d : D} (hd : tyD d ≠ "str") : NoSg d := fun h => c_signs_no hd h
theorem noS_len {t : List Nat} (hl : t.length ≤ 1000) (hn : t.length < 2 ∨ 12 < t.length) : NoSg (.str t) := noS_str hl (by
  unfold isSg
  rcases hn with hn | hn
  · rw [decide_eq_false (show ¬ 2 ≤ t.length by omega)]; simp
  · rw [decide_eq_false (show ¬ t.length ≤ 12 by omega)]; simp)
theorem noS_mem {t : List Nat} {c : Nat} (hl : t.length ≤ 1000) (hm : c ∈ t) (hc : c ∉ sgs) : NoSg (.str t) := noS_str hl (by
  unfold isSg
  have : t.all (fun c => decide (c ∈ sgs)) = false := by
    rw [List.all_eq_false]
    exact ⟨c, hm, by simpa using hc⟩
  rw [this]
  simp)
theorem noS_asc {t : List Nat} (hl : t.length ≤ 1000) (hn : ascB t = false) : NoSg (.str t) := noS_str hl (by
  unfold isSg
  rw [hn]
  simp)
theorem fine_str {t : List Nat} (h1 : t.length ≤ 1000) (h2 : ∀ c ∈ t, c < 0x110000) : Fine (.str t) := ⟨Fi.str 64 h2, by simp [dBulk]; omega⟩
theorem rp_str {t : List Nat} (h1 : t.length ≤ 1000) (h2 : ∀ c ∈ t, c < 0x110000) : Rp (.str t) := (fine_str h1 h2).repr
theorem rp_bl (b : Bool) : Rp (.bl b) := by
  cases b
  · exact ⟨_, fun h => by unfold reprXO reprO; dsimp only [toPy]; rw [if_pos (by decide +kernel)]⟩
  · exact ⟨_, fun h => by unfold reprXO reprO; dsimp only [toPy]; rw [if_pos (by decide +kernel)]⟩
theorem rp_sq {b : Bool} {t : List (List Nat)} (h1 : t.length ≤ 100) (h2 : ∀ x ∈ t, x.length ≤ 100 ∧ ∀ c ∈ x, c < 0x110000) : Rp (sq b (t.map .str)) := by
  refine Fine.repr ⟨Fi.sq (k := 63) (by simp; omega) fun d m => ?_, ?_⟩
  · obtain ⟨x, hx, rfl⟩ := List.mem_map.mp m
    exact Fi.str _ (h2 x hx).2
  · rw [dBulk_sq]
    have := dBulks_le (k := 101) (t.map D.str) fun d m => by
      obtain ⟨x, hx, rfl⟩ := List.mem_map.mp m
      simp only [dBulk]
      have := (h2 x hx).1
      omega
    simp at this
    omega
/-- a bad thing -/
structure Odd (d : D) : Prop where
  no : NoSg d
  rp : Rp d
theorem odd_str {t : List Nat} (h1 : t.length ≤ 1000) (h2 : ∀ c ∈ t, c < 0x110000) (h : isSg t = false) : Odd (.str t) := ⟨noS_str h1 h, rp_str h1 h2⟩
theorem isSg_len {t : List Nat} (hn : t.length < 2 ∨ 12 < t.length) : isSg t = false := by
  unfold isSg
  rcases hn with h | h
  · rw [decide_eq_false (show ¬ 2 ≤ t.length by omega)]; rfl
  · rw [decide_eq_false (show ¬ t.length ≤ 12 by omega)]; simp
theorem isSg_mem {t : List Nat} {c : Nat} (hm : c ∈ t) (hc : c ∉ sgs) : isSg t = false := by
  have : t.all (fun c => decide (c ∈ sgs)) = false := by
    rw [List.all_eq_false]
    exact ⟨c, hm, by simpa using hc⟩
  unfold isSg
  rw [this]
  simp
theorem isSg_asc {t : List Nat} {k : Nat} (hk : k + 1 < t.length) (h : t.getD (k + 1) 0 ≤ t.getD k 0) : isSg t = false := by
  unfold isSg
  rw [ascB_no hk h]
  simp
theorem sn_le {s : List Nat} (hs : Sn s) {c : Nat} (hc : c ∈ s) : c ≤ 90 := (sgs_le (hs.sg c hc)).2
theorem sn_chr {s : List Nat} (hs : Sn s) : ∀ c ∈ s, c < 0x110000 := fun c hc => sg_c hs hc
/-- the odd things -/
theorem odds {s : List Nat} {a : Nat} (hs : Sn s) (ha : a < s.length) : ∀ d ∈ [D.str s.reverse, .str (s ++ [s.getD (s.length - 1) 0]), .str (s.take a ++ [s.getD a 0] ++ s.drop a), .str [s.getD a 0], .str [], .str (sgs.take 13), .str sgs, .str (s.take 9 ++ [97]), .str ([32] ++ s.take 9), .str (s.take 9 ++ [95]), .non, .int 7, .bl true, .lst (chars s), .tup [.str s]], Odd d := by
  have l1 := hs.lo
  have l2 := hs.hi
  have ch := sn_chr hs
  have gm : ∀ k, k < s.length → s.getD k 0 ∈ s := fun k hk => getD_mem 0 hk
  have up : ∀ j k, j < k → k < s.length → s.getD j 0 < s.getD k 0 := fun j k h1 h2 => by
    have := List.pairwise_iff_getElem.mp hs.asc j k (by omega) h2 h1
    simpa [List.getD, h2, show j < s.length by omega] using this
  have t9 : ∀ c ∈ s.take 9, c < 0x110000 := fun c hc => ch c (List.mem_of_mem_take hc)
  have n97 : 97 ∉ sgs := by decide
  have n32 : 32 ∉ sgs := by decide
  have n95 : 95 ∉ sgs := by decide
  have cs : ∀ c ∈ sgs, c < 0x110000 := fun c hc => by have := (sgs_le hc).2; omega
  intro d hd
  simp only [List.mem_cons, List.not_mem_nil, or_false] at hd
  rcases hd with rfl | rfl | rfl | rfl | rfl | rfl | rfl | rfl | rfl | rfl | rfl | rfl | rfl | rfl | rfl
  · refine odd_str (by simp; omega) (fun c hc => ch c (by simpa using hc)) (isSg_asc (k := 0) (by simp; omega) ?_)
    have := up (s.length - 2) (s.length - 1) (by omega) (by omega)
    simp only [List.getD, List.getElem?_reverse (show 0 < s.length by omega), List.getElem?_reverse (show 0 + 1 < s.length by omega)]
    simp only [List.getD] at this
    rw [show s.length - 1 - (0 + 1) = s.length - 2 by omega, show s.length - 1 - 0 = s.length - 1 by omega]
    omega
  · refine odd_str (by simp; omega) (fun c hc => ?_) (isSg_asc (k := s.length - 1) (by simp; omega) ?_)
    · rcases List.mem_append.mp hc with hc | hc
      · exact ch c hc
      · rw [List.mem_singleton.mp hc]; exact ch _ (gm _ (by omega))
    · rw [show s.length - 1 + 1 = s.length by omega]
      simp only [List.getD]
      rw [List.getElem?_append_left (show s.length - 1 < s.length by omega), List.getElem?_append_right (Nat.le_refl _)]
      simp
  · have ec : (s.take a ++ [s.getD a 0] ++ s.drop a).getD (a + 1) 0 = s.getD a 0 := by
      simp only [List.getD]
      rw [List.getElem?_append_right (by simp; omega)]
      simp [Nat.min_eq_left (Nat.le_of_lt ha)]
    have ec2 : (s.take a ++ [s.getD a 0] ++ s.drop a).getD a 0 = s.getD a 0 := by
      simp only [List.getD]
      rw [List.getElem?_append_left (by simp; omega), List.getElem?_append_right (by simp; omega)]
      simp [Nat.min_eq_left (Nat.le_of_lt ha)]
    refine odd_str (by simp; omega) (fun c hc => ?_) (isSg_asc (k := a) (by simp; omega) (by rw [ec, ec2]; exact Nat.le_refl _))
    rcases List.mem_append.mp hc with hc | hc
    · rcases List.mem_append.mp hc with hc | hc
      · exact ch c (List.mem_of_mem_take hc)
      · rw [List.mem_singleton.mp hc]; exact ch _ (gm _ ha)
    · exact ch c (List.mem_of_mem_drop hc)
  · exact odd_str (by simp) (fun c hc => by rw [List.mem_singleton.mp hc]; exact ch _ (gm _ ha)) (isSg_len (.inl (by simp)))
  · exact odd_str (by simp) (by simp) (isSg_len (.inl (by simp)))
  · exact odd_str (by decide) (fun c hc => cs c (List.mem_of_mem_take hc)) (isSg_len (.inr (by decide)))
  · exact odd_str (by decide) cs (isSg_len (.inr (by decide)))
  · refine odd_str (by simp; omega) (fun c hc => ?_) (isSg_mem (c := 97) (by simp) n97)
    rcases List.mem_append.mp hc with hc | hc
    · exact t9 c hc
    · rw [List.mem_singleton.mp hc]; decide
  · refine odd_str (by simp; omega) (fun c hc => ?_) (isSg_mem (c := 32) (by simp) n32)
    rcases List.mem_append.mp hc with hc | hc
    · rw [List.mem_singleton.mp hc]; decide
    · exact t9 c hc
  · refine odd_str (by simp; omega) (fun c hc => ?_) (isSg_mem (c := 95) (by simp) n95)
    rcases List.mem_append.mp hc with hc | hc
    · exact t9 c hc
    · rw [List.mem_singleton.mp hc]; decide
  · exact ⟨noS_ty (by decide), Fine.repr ⟨trivial, by simp [dBulk]⟩⟩
  · exact ⟨noS_ty (by decide), Fine.repr ⟨Fi.nD 64 (n := 7) (by decide), by simp [dBulk]⟩⟩
  · exact ⟨noS_ty (by decide), rp_bl true⟩
  · refine ⟨noS_ty (by simp), ?_⟩
    have := rp_sq (b := false) (t := s.map fun c => [c]) (by simp; omega) (fun x hx => by
      obtain ⟨c, hc, rfl⟩ := List.mem_map.mp hx
      exact ⟨by simp, fun e he => by rw [List.mem_singleton.mp he]; exact ch c hc⟩)
    simpa [sq, chars, Function.comp_def] using this
  · refine ⟨noS_ty (by simp), ?_⟩
    have := rp_sq (b := true) (t := [s]) (by simp) (fun x hx => by
      rw [List.mem_singleton.mp hx]
      exact ⟨by omega, ch⟩)
    simpa [sq] using this
theorem v_f1 {s : List Nat} {k : Nat} {h : MH} {x0 x1 x2 x5 x6 x7 x8 : Sl} (hs : Sn s) (hk : k < s.length) :
    b__law_values_f1 [x0, x1, x2, .v (.str s), .v (nD k), x5, x6, x7, x8] h = .nx [x0, x1, x2, .v (.str s), .v (nD k), .v (nD k), x6, x7, x8] h := by
  have z : s.length ≤ sizeLine := by have := hs.hi; unfold sizeLine; omega
  have e := c_value hs hk h
  have a := at_getD hk
  have ii : m__law_is_int [.int (k : Int)] h = .ok (.v (.bl true)) h := by
    unfold m__law_is_int b__law_is_int
    simp
  unfold b__law_values_f1
  simp at a e
  simp [z, a, e, ii]
theorem v_f2 {s : List Nat} {h : MH} {x0 x1 x2 x4 x5 x6 x7 x8 : Sl} (hs : Sn s) :
    ∃ y4 y5, b__law_values_f2 [x0, x1, x2, .v (.str s), x4, x5, x6, x7, x8] h = .nx [x0, x1, x2, .v (.str s), y4, y5, x6, x7, x8] h := by
  have l2 := hs.hi
  have z : s.length ≤ sizeLine := by unfold sizeLine; omega
  have w1 : (-1000000000000 : Int) ≤ (s.length : Int) := by omega
  have w2 : (s.length : Int) ≤ 1000000000000 := by omega
  obtain ⟨ev, h3, f1, y4, y5, f2, f3⟩ := for_go (t := tN 4) (mb := b__law_values_f1) (J := fun j env h' => ∃ (y4 y5 : Sl), env = [x0, x1, x2, .v (.str s), y4, y5, x6, x7, x8] ∧ h' = h) (rangeD 0 s.length) 0
    [x0, x1, x2, .v (.str s), x4, x5, x6, x7, x8] h ⟨_, _, rfl, rfl⟩ (fun j d env h' hd jj => by
    obtain ⟨y4, y5, rfl, rfl⟩ := jj
    obtain ⟨hj, rfl⟩ := rangeD_get hd
    exact ⟨_, _, _, rfl, v_f1 hs hj, _, _, rfl, rfl⟩)
  subst f2 f3
  refine ⟨y4, y5, ?_⟩
  unfold b__law_values_f2
  simp [z, w1, w2, f1]
theorem sn12 : Sn (sgs.take 12) := ⟨by decide, by decide, by decide, fun c hc => List.mem_of_mem_take hc⟩
theorem sn24 : Sn (sgs.drop 24) := ⟨by decide, by decide, by decide, fun c hc => List.mem_of_mem_drop hc⟩
theorem snZ {s : List Nat} (hs : Sn s) : Sn (s.take 1 ++ [90]) := by
  have l1 := hs.lo
  obtain ⟨a, b, r, rfl⟩ : ∃ a b r, s = a :: b :: r := by
    cases s with
    | nil => simp at l1
    | cons a s =>
      cases s with
      | nil => simp at l1
      | cons b r => exact ⟨a, b, r, rfl⟩
  have up : a < b := by
    have := hs.asc
    rw [List.pairwise_cons] at this
    exact this.1 b (by simp)
  have b90 := sn_le hs (c := b) (by simp)
  refine ⟨by simp, by simp, by simp; omega, fun c hc => ?_⟩
  simp at hc
  rcases hc with rfl | rfl
  · exact hs.sg _ (by simp)
  · decide
theorem r_values {b : Nat} {s : List Nat} {h : MH} (hB : Bag b h) (hs : Sn s) : ∃ h', m__law_values [.loc b, .str s] h = .ok (.v (.bl true)) h' ∧ Mv h h' := by
  have l1 := hs.lo
  have l2 := hs.hi
  obtain ⟨a, h1, e1, m1, ha⟩ := r_pickN hB (m := s.length) (by omega) (by omega)
  have z : s.length ≤ sizeLine := by unfold sizeLine; omega
  have zs : sgs.length ≤ sizeLine := by decide
  have z4 : (4 : Nat) ≤ sizeLine := by decide
  have z7 : (7 : Nat) ≤ sizeLine := by decide
  have z8 : (8 : Nat) ≤ sizeLine := by decide
  have z15 : (15 : Nat) ≤ sizeLine := by decide
  have z1 : (1 : Nat) ≤ sizeLine := by decide
  have c12 : cutL sgs none (some 12) = sgs.take 12 := cutL_to sgs 12
  have c13 : cutL sgs none (some 13) = sgs.take 13 := cutL_to sgs 13
  have c24 : cutL sgs (some 24) none = sgs.drop 24 := cutL_from sgs 24
  have c1 : cutL s none (some 1) = s.take 1 := cutL_to s 1
  have c9 : cutL s none (some 9) = s.take 9 := cutL_to s 9
  have ca := cutL_to s a
  have cb := cutL_from s a
  have aa := at_getD ha
  have al : atI s ((s.length : Int) - 1) = some (s.getD (s.length - 1) 0) := by
    have := at_getD (l := s) (k := s.length - 1) (by omega)
    rw [show ((s.length - 1 : Nat) : Int) = (s.length : Int) - 1 by omega] at this
    exact this
  have S1 : b__law_values_s1 ([.v (.loc b), .v (.str s)] ++ List.replicate 7 .un) h = .nx [.v (.loc b), .v (.str s), .v (.str sgs), .un, .un, .un, .un, .un, .un] h := by
    unfold b__law_values_s1
    simp [List.replicate]
  obtain ⟨p4, p5, g1⟩ := v_f2 (s := s) (h := h) (x0 := .v (.loc b)) (x1 := .v (.str s)) (x2 := .v (.str sgs)) (x4 := .un) (x5 := .un) (x6 := .un) (x7 := .un) (x8 := .un) hs
  obtain ⟨q4, q5, g2⟩ := v_f2 (h := h) (x0 := .v (.loc b)) (x1 := .v (.str s)) (x2 := .v (.str sgs)) (x4 := p4) (x5 := p5) (x6 := .un) (x7 := .un) (x8 := .un) sn12
  obtain ⟨r4, r5, g3⟩ := v_f2 (h := h) (x0 := .v (.loc b)) (x1 := .v (.str s)) (x2 := .v (.str sgs)) (x4 := q4) (x5 := q5) (x6 := .un) (x7 := .un) (x8 := .un) sn24
  obtain ⟨t4, t5, g4⟩ := v_f2 (h := h) (x0 := .v (.loc b)) (x1 := .v (.str s)) (x2 := .v (.str sgs)) (x4 := r4) (x5 := r5) (x6 := .un) (x7 := .un) (x8 := .un) (snZ hs)
  have zt : min 1 s.length + 1 ≤ sizeLine := by unfold sizeLine; omega
  have S2 : b__law_values_s2 [.v (.loc b), .v (.str s), .v (.str sgs), .un, .un, .un, .un, .un, .un] h = .nx [.v (.loc b), .v (.str s), .v (.str sgs), .v (.str (s.take 1 ++ [90])), t4, t5, .un, .un, .un] h := by
    have it : (iOf (fz (eTup (aCons (fz (eVar 1)) (aCons (fz (eSlV 2 pNone (pSome (fz (eC (D.int 12)))))) (aCons (fz (eSlV 2 (pSome (fz (eC (D.int 24)))) pNone)) (aCons (fz (eOp2 addO (fz (eSlV 1 pNone (pSome (fz (eC (D.int 1)))))) (fz (eC (D.str [90]))))) aNil))))))) [.v (.loc b), .v (.str s), .v (.str sgs), .un, .un, .un, .un, .un, .un] h = .ok [.str s, .str (sgs.take 12), .str (sgs.drop 24), .str (s.take 1 ++ [90])] [.v (.loc b), .v (.str s), .v (.str sgs), .un, .un, .un, .un, .un, .un] h := by
      generalize sgs = L at *
      simp [z, zs, z4, c12, c24, c1, zt]
    unfold b__law_values_s2
    rw [x_sFor, it]
    generalize sgs = L at *
    simp [sForL, g1, g2, g3, g4]
  have S3 : b__law_values_s3 [.v (.loc b), .v (.str s), .v (.str sgs), .v (.str (s.take 1 ++ [90])), t4, t5, .un, .un, .un] h = .nx [.v (.loc b), .v (.str s), .v (.str sgs), .v (.str (s.take 1 ++ [90])), t4, t5, .v (nD a), .un, .un] h1 := by
    unfold b__law_values_s3
    simp [z, e1]
  have za : min a s.length + 1 ≤ sizeLine := by unfold sizeLine; omega
  have za2 : min a s.length + 1 + (s.length - a) ≤ sizeLine := by unfold sizeLine; omega
  have zl : s.length + 1 ≤ sizeLine := by unfold sizeLine; omega
  have z9 : min 9 s.length + 1 ≤ sizeLine := by unfold sizeLine; omega
  have z9' : 1 + min 9 s.length ≤ sizeLine := by unfold sizeLine; omega
  have S4 : b__law_values_s4 [.v (.loc b), .v (.str s), .v (.str sgs), .v (.str (s.take 1 ++ [90])), t4, t5, .v (nD a), .un, .un] h1 = .nx [.v (.loc b), .v (.str s), .v (.str sgs), .v (.str (s.take 1 ++ [90])), t4, t5, .v (nD a), .own [D.str s.reverse, .str (s ++ [s.getD (s.length - 1) 0]), .str (s.take a ++ [s.getD a 0] ++ s.drop a), .str [s.getD a 0], .str [], .str (sgs.take 13), .str sgs], .un] h1 := by
    unfold b__law_values_s4
    generalize sgs = L at *
    simp at aa al
    simp [z, zs, al, zl, ca, cb, aa, za, za2, c13, z7]
  have S5 : b__law_values_s5 [.v (.loc b), .v (.str s), .v (.str sgs), .v (.str (s.take 1 ++ [90])), t4, t5, .v (nD a), .own [D.str s.reverse, .str (s ++ [s.getD (s.length - 1) 0]), .str (s.take a ++ [s.getD a 0] ++ s.drop a), .str [s.getD a 0], .str [], .str (sgs.take 13), .str sgs], .un] h1 = .nx [.v (.loc b), .v (.str s), .v (.str sgs), .v (.str (s.take 1 ++ [90])), t4, t5, .v (nD a), .own [D.str s.reverse, .str (s ++ [s.getD (s.length - 1) 0]), .str (s.take a ++ [s.getD a 0] ++ s.drop a), .str [s.getD a 0], .str [], .str (sgs.take 13), .str sgs, .str (s.take 9 ++ [97]), .str ([32] ++ s.take 9), .str (s.take 9 ++ [95]), .non, .int 7, .bl true, .lst (chars s), .tup [.str s]], .un] h1 := by
    unfold b__law_values_s5
    generalize sgs = L at *
    simp [z, c9, z9, z9', z8, z15, z1]
  have od := odds hs ha
  have S6 : ∀ os : List D, os.length ≤ 100 → (∀ d ∈ os, Odd d) → ∃ e, b__law_values_s6 [.v (.loc b), .v (.str s), .v (.str sgs), .v (.str (s.take 1 ++ [90])), t4, t5, .v (nD a), .own os, .un] h1 = .rt (.v (.bl true)) e h1 := by
    intro os ho al'
    have lp : compL (tN 8) bYes b__law_values_c1 [.un, .v (.str s), .un, .un, .un, .un, .v (nD a), .un, .un] os h1 [] = some (os.map (fun _ => D.bl true), h1) := by
      rw [compL_map (f := fun _ => D.bl true) ?_ (by unfold sizeLine; omega)]
      intro d m
      have o := al' d m
      have rf := r_refused (x := .str [s.getD a 0]) o.no o.rp h1
      refine ⟨[.un, .v (.str s), .un, .un, .un, .un, .v (nD a), .un, .v d], [.un, .v (.str s), .un, .un, .un, .un, .v (nD a), .un, .v d], rfl, ?_⟩
      unfold b__law_values_c1
      simp at aa rf
      simp [z, aa, rf]
    have at1 := all_true h1 os
    refine ⟨[.v (.loc b), .v (.str s), .v (.str sgs), .v (.str (s.take 1 ++ [90])), t4, t5, .v (nD a), .v (.lst os), .un], ?_⟩
    unfold b__law_values_s6
    generalize sgs = L at *
    simp [lp, -x_all, at1]
  obtain ⟨e6, S6⟩ := S6 _ (by simp) od
  refine ⟨h1, ?_, m1⟩
  unfold m__law_values b__law_values
  show (match (sSeq b__law_values_s1 _) ([.v (.loc b), .v (.str s)] ++ List.replicate 7 .un) h with | .nx _ h' => FR.ok (.v .non) h' | .rt r _ h' => .ok r h' | .err x _ h' => .err x h' | _ => .no) = _
  rw [x_sSeq, S1]
  dsimp only
  rw [x_sSeq, S2]
  dsimp only
  rw [x_sSeq, S3]
  dsimp only
  rw [x_sSeq, S4]
  dsimp only
  rw [x_sSeq, S5]
  dsimp only
  rw [x_sSeq, S6]
theorem law_math : ∀ ns : List Int, ns.length ≤ 63 → ∃ h', m_law [.lst (ns.map D.int)] [] = .ok (.v (.bl true)) h' := by
  intro ns hn
  obtain ⟨h1, e1, m1, b1⟩ := r_bag_of ns 0 [] (by decide) hn
  obtain ⟨s, h2, e2, m2, hs⟩ := r_many_signs b1
  obtain ⟨h3, e3, m3⟩ := r_values (m2.bag _ b1) hs
  obtain ⟨ps, h4, e4, m4, hp⟩ := r_pieces_of (ns := ns) h3 hn hs
  have e5 := r_lags h4 hp
  have fl : flatH h4 = true := ((((m1.trans m2).trans m3).trans m4).fl rfl)
  obtain ⟨h6, e6⟩ := r_papers_in_order (ns := ns) h4 fl hn hs
  refine ⟨h6, ?_⟩
  simp at e1 e2 e3
  unfold pcD at e4
  unfold m_law b_law b_law_s1 b_law_s2 b_law_s3 b_law_s4
  simp [List.replicate, e1, e2, e3, e4, e5, e6]
end Mi
end
section
set_option maxHeartbeats 4000000
open PySem PySem.Spec PyProof.Rows L2
namespace Mi
section
variable {P : Program} {w : World} {K : PySem.W.Frag} {mg : Str → Option Value} {base : Heap} {C_BadSigns I_BadSigns cc_BadSigns cd_BadSigns A_CarryError A_Malformed A_Refused A_BadSigns A_BadPaper A_BadName A_BadWalk A_BadRule A_BadForm A_BadSlip A_BadWay A_BadDeed A_BadLine A_TooMany A_Twice A_Unknown A_Unlike A_Unfit : Addr}
theorem chain (d_made_of : Df K mg "made_of" s_made_of ["thing", "signs", "low", "high"]) (d_ascending : Df K mg "ascending" s_ascending ["text"]) (d_is_signs : Df K mg "is_signs" s_is_signs ["thing"]) (d_check_signs_of : Df K mg "check_signs_of" s_check_signs_of ["signs"]) (d_sign_value : Df K mg "sign_value" s_sign_value ["signs", "sign"]) (d_paper_key : Df K mg "paper_key" s_paper_key ["paper"]) (d_in_order : Df K mg "in_order" s_in_order ["papers"]) (d_lag_of : Df K mg "lag_of" s_lag_of ["first", "second"]) (d_lag_on : Df K mg "lag_on" s_lag_on ["lag", "first", "second"]) (d__law_bag_of : Df K mg "_law_bag_of" s__law_bag_of ["_law_script", "_law_at"]) (d__law_pick : Df K mg "_law_pick" s__law_pick ["_law_bag", "_law_many"]) (d__law_one_of : Df K mg "_law_one_of" s__law_one_of ["_law_bag", "_law_row"]) (d__law_mixed : Df K mg "_law_mixed" s__law_mixed ["_law_bag", "_law_row"]) (d__law_paper_of : Df K mg "_law_paper_of" s__law_paper_of ["_law_bag", "_law_signs", "_law_most"]) (d__law_key_of : Df K mg "_law_key_of" s__law_key_of ["_law_paper"]) (d__law_ordered : Df K mg "_law_ordered" s__law_ordered ["_law_papers"]) (d__law_lag_of : Df K mg "_law_lag_of" s__law_lag_of ["_law_first", "_law_second"]) (d__law_no_list : Df K mg "_law_no_list" s__law_no_list ["_law_thing"]) (d__law_is_int : Df K mg "_law_is_int" s__law_is_int ["_law_thing"]) (d__law_same_tuple : Df K mg "_law_same_tuple" s__law_same_tuple ["_law_told", "_law_wanted"]) (d__law_many_signs : Df K mg "_law_many_signs" s__law_many_signs ["_law_bag"]) (d__law_classes : Df K mg "_law_classes" s__law_classes ["_law_e"]) (d__law_pieces_of : Df K mg "_law_pieces_of" s__law_pieces_of ["_law_script", "_law_signs"]) (d__law_turned : Df K mg "_law_turned" s__law_turned ["_law_lag"]) (d__law_lags : Df K mg "_law_lags" s__law_lags ["_law_pieces"]) (d__law_papers_in_order : Df K mg "_law_papers_in_order" s__law_papers_in_order ["_law_script", "_law_signs"]) (d__law_refused : Df K mg "_law_refused" s__law_refused ["_law_odd", "_law_sign"]) (d__law_values : Df K mg "_law_values" s__law_values ["_law_bag", "_law_signs"]) (c_SIGNS_ok : Cst K w mg "SIGNS" c_SIGNS) (n_all : mg "all" = none) (n_len : mg "len" = none) (n_isinstance : mg "isinstance" = none) (n_str : mg "str" = none) (n_range : mg "range" = none) (n_tuple : mg "tuple" = none) (n_sorted : mg "sorted" = none) (n_int : mg "int" = none) (n_abs : mg "abs" = none) (n_sum : mg "sum" = none) (n_list : mg "list" = none) (n_bool : mg "bool" = none) (n_min : mg "min" = none) (n_repr : mg "repr" = none) (x_BadSigns : XT P K mg "BadSigns" "signs" C_BadSigns I_BadSigns cc_BadSigns cd_BadSigns) (m_Unfit : mg "Unfit" = some (.ref A_Unfit)) (m_Unlike : mg "Unlike" = some (.ref A_Unlike)) (m_Unknown : mg "Unknown" = some (.ref A_Unknown)) (m_Twice : mg "Twice" = some (.ref A_Twice)) (m_TooMany : mg "TooMany" = some (.ref A_TooMany)) (m_BadLine : mg "BadLine" = some (.ref A_BadLine)) (m_BadDeed : mg "BadDeed" = some (.ref A_BadDeed)) (m_BadWay : mg "BadWay" = some (.ref A_BadWay)) (m_BadSlip : mg "BadSlip" = some (.ref A_BadSlip)) (m_BadForm : mg "BadForm" = some (.ref A_BadForm)) (m_BadRule : mg "BadRule" = some (.ref A_BadRule)) (m_BadWalk : mg "BadWalk" = some (.ref A_BadWalk)) (m_BadName : mg "BadName" = some (.ref A_BadName)) (m_BadPaper : mg "BadPaper" = some (.ref A_BadPaper)) (m_BadSigns : mg "BadSigns" = some (.ref A_BadSigns)) (m_Refused : mg "Refused" = some (.ref A_Refused)) (m_Malformed : mg "Malformed" = some (.ref A_Malformed)) (m_CarryError : mg "CarryError" = some (.ref A_CarryError)) (is_Unfit : ∀ nm ∈ ([] : List Str), ∃ D, mg nm = some (.ref D) ∧ XI K D ∧ PySem.W.kitOne K (.ref D) (.ref A_Unfit) = some true) (no_Unfit : ∀ nm ∈ (["BadSigns"] : List Str), ∃ D, mg nm = some (.ref D) ∧ XI K D ∧ PySem.W.kitOne K (.ref D) (.ref A_Unfit) = some false) (is_Unlike : ∀ nm ∈ ([] : List Str), ∃ D, mg nm = some (.ref D) ∧ XI K D ∧ PySem.W.kitOne K (.ref D) (.ref A_Unlike) = some true) (no_Unlike : ∀ nm ∈ (["BadSigns"] : List Str), ∃ D, mg nm = some (.ref D) ∧ XI K D ∧ PySem.W.kitOne K (.ref D) (.ref A_Unlike) = some false) (is_Unknown : ∀ nm ∈ ([] : List Str), ∃ D, mg nm = some (.ref D) ∧ XI K D ∧ PySem.W.kitOne K (.ref D) (.ref A_Unknown) = some true) (no_Unknown : ∀ nm ∈ (["BadSigns"] : List Str), ∃ D, mg nm = some (.ref D) ∧ XI K D ∧ PySem.W.kitOne K (.ref D) (.ref A_Unknown) = some false) (is_Twice : ∀ nm ∈ ([] : List Str), ∃ D, mg nm = some (.ref D) ∧ XI K D ∧ PySem.W.kitOne K (.ref D) (.ref A_Twice) = some true) (no_Twice : ∀ nm ∈ (["BadSigns"] : List Str), ∃ D, mg nm = some (.ref D) ∧ XI K D ∧ PySem.W.kitOne K (.ref D) (.ref A_Twice) = some false) (is_TooMany : ∀ nm ∈ ([] : List Str), ∃ D, mg nm = some (.ref D) ∧ XI K D ∧ PySem.W.kitOne K (.ref D) (.ref A_TooMany) = some true) (no_TooMany : ∀ nm ∈ (["BadSigns"] : List Str), ∃ D, mg nm = some (.ref D) ∧ XI K D ∧ PySem.W.kitOne K (.ref D) (.ref A_TooMany) = some false) (is_BadLine : ∀ nm ∈ ([] : List Str), ∃ D, mg nm = some (.ref D) ∧ XI K D ∧ PySem.W.kitOne K (.ref D) (.ref A_BadLine) = some true) (no_BadLine : ∀ nm ∈ (["BadSigns"] : List Str), ∃ D, mg nm = some (.ref D) ∧ XI K D ∧ PySem.W.kitOne K (.ref D) (.ref A_BadLine) = some false) (is_BadDeed : ∀ nm ∈ ([] : List Str), ∃ D, mg nm = some (.ref D) ∧ XI K D ∧ PySem.W.kitOne K (.ref D) (.ref A_BadDeed) = some true) (no_BadDeed : ∀ nm ∈ (["BadSigns"] : List Str), ∃ D, mg nm = some (.ref D) ∧ XI K D ∧ PySem.W.kitOne K (.ref D) (.ref A_BadDeed) = some false) (is_BadWay : ∀ nm ∈ ([] : List Str), ∃ D, mg nm = some (.ref D) ∧ XI K D ∧ PySem.W.kitOne K (.ref D) (.ref A_BadWay) = some true) (no_BadWay : ∀ nm ∈ (["BadSigns"] : List Str), ∃ D, mg nm = some (.ref D) ∧ XI K D ∧ PySem.W.kitOne K (.ref D) (.ref A_BadWay) = some false) (is_BadSlip : ∀ nm ∈ ([] : List Str), ∃ D, mg nm = some (.ref D) ∧ XI K D ∧ PySem.W.kitOne K (.ref D) (.ref A_BadSlip) = some true) (no_BadSlip : ∀ nm ∈ (["BadSigns"] : List Str), ∃ D, mg nm = some (.ref D) ∧ XI K D ∧ PySem.W.kitOne K (.ref D) (.ref A_BadSlip) = some false) (is_BadForm : ∀ nm ∈ ([] : List Str), ∃ D, mg nm = some (.ref D) ∧ XI K D ∧ PySem.W.kitOne K (.ref D) (.ref A_BadForm) = some true) (no_BadForm : ∀ nm ∈ (["BadSigns"] : List Str), ∃ D, mg nm = some (.ref D) ∧ XI K D ∧ PySem.W.kitOne K (.ref D) (.ref A_BadForm) = some false) (is_BadRule : ∀ nm ∈ ([] : List Str), ∃ D, mg nm = some (.ref D) ∧ XI K D ∧ PySem.W.kitOne K (.ref D) (.ref A_BadRule) = some true) (no_BadRule : ∀ nm ∈ (["BadSigns"] : List Str), ∃ D, mg nm = some (.ref D) ∧ XI K D ∧ PySem.W.kitOne K (.ref D) (.ref A_BadRule) = some false) (is_BadWalk : ∀ nm ∈ ([] : List Str), ∃ D, mg nm = some (.ref D) ∧ XI K D ∧ PySem.W.kitOne K (.ref D) (.ref A_BadWalk) = some true) (no_BadWalk : ∀ nm ∈ (["BadSigns"] : List Str), ∃ D, mg nm = some (.ref D) ∧ XI K D ∧ PySem.W.kitOne K (.ref D) (.ref A_BadWalk) = some false) (is_BadName : ∀ nm ∈ ([] : List Str), ∃ D, mg nm = some (.ref D) ∧ XI K D ∧ PySem.W.kitOne K (.ref D) (.ref A_BadName) = some true) (no_BadName : ∀ nm ∈ (["BadSigns"] : List Str), ∃ D, mg nm = some (.ref D) ∧ XI K D ∧ PySem.W.kitOne K (.ref D) (.ref A_BadName) = some false) (is_BadPaper : ∀ nm ∈ ([] : List Str), ∃ D, mg nm = some (.ref D) ∧ XI K D ∧ PySem.W.kitOne K (.ref D) (.ref A_BadPaper) = some true) (no_BadPaper : ∀ nm ∈ (["BadSigns"] : List Str), ∃ D, mg nm = some (.ref D) ∧ XI K D ∧ PySem.W.kitOne K (.ref D) (.ref A_BadPaper) = some false) (is_BadSigns : ∀ nm ∈ (["BadSigns"] : List Str), ∃ D, mg nm = some (.ref D) ∧ XI K D ∧ PySem.W.kitOne K (.ref D) (.ref A_BadSigns) = some true) (no_BadSigns : ∀ nm ∈ ([] : List Str), ∃ D, mg nm = some (.ref D) ∧ XI K D ∧ PySem.W.kitOne K (.ref D) (.ref A_BadSigns) = some false) (is_Refused : ∀ nm ∈ ([] : List Str), ∃ D, mg nm = some (.ref D) ∧ XI K D ∧ PySem.W.kitOne K (.ref D) (.ref A_Refused) = some true) (no_Refused : ∀ nm ∈ (["BadSigns"] : List Str), ∃ D, mg nm = some (.ref D) ∧ XI K D ∧ PySem.W.kitOne K (.ref D) (.ref A_Refused) = some false) (is_Malformed : ∀ nm ∈ (["BadSigns"] : List Str), ∃ D, mg nm = some (.ref D) ∧ XI K D ∧ PySem.W.kitOne K (.ref D) (.ref A_Malformed) = some true) (no_Malformed : ∀ nm ∈ ([] : List Str), ∃ D, mg nm = some (.ref D) ∧ XI K D ∧ PySem.W.kitOne K (.ref D) (.ref A_Malformed) = some false) (is_CarryError : ∀ nm ∈ (["BadSigns"] : List Str), ∃ D, mg nm = some (.ref D) ∧ XI K D ∧ PySem.W.kitOne K (.ref D) (.ref A_CarryError) = some true) (no_CarryError : ∀ nm ∈ ([] : List Str), ∃ D, mg nm = some (.ref D) ∧ XI K D ∧ PySem.W.kitOne K (.ref D) (.ref A_CarryError) = some false) (ex_CarryError : ∀ nm ∈ (["BadSigns"] : List Str), ∃ C, mg nm = some (.ref C) ∧ PySem.W.exmOne K (.ref C) (.ref A_CarryError) = some true) (nx_CarryError : ∀ nm ∈ ([] : List Str), ∃ C, mg nm = some (.ref C) ∧ PySem.W.exmOne K (.ref C) (.ref A_CarryError) = some false) (xf_signs : ∀ nm ∈ (["BadSigns"] : List Str), ∃ D, mg nm = some (.ref D) ∧ XI K D ∧ PySem.W.findIn K (.ref D) "signs" = some none) : SSs ⟨P, w, K, mg, base, ["_law_script", "_law_bag", "_law_signs"], defScope s_law, 67, fun _ => true, true⟩ (defBody s_law) b_law := by
  have f_made_of : FnM P w K mg base 1 "made_of" 4 m_made_of := ok_made_of (k := 0) d_made_of n_all n_len n_isinstance n_str
  have f_ascending : FnM P w K mg base 1 "ascending" 1 m_ascending := ok_ascending (k := 0) d_ascending n_all n_range n_len
  have f_is_signs : FnM P w K mg base 2 "is_signs" 1 m_is_signs := ok_is_signs (k := 1) d_is_signs (f_ascending.mono (by decide)) (f_made_of.mono (by decide)) c_SIGNS_ok
  have f_check_signs_of : FnM P w K mg base 3 "check_signs_of" 1 m_check_signs_of := ok_check_signs_of (k := 2) d_check_signs_of (f_is_signs.mono (by decide)) x_BadSigns
  have f_sign_value : FnM P w K mg base 4 "sign_value" 2 m_sign_value := ok_sign_value (k := 3) d_sign_value (f_check_signs_of.mono (by decide))
  have f_paper_key : FnM P w K mg base 1 "paper_key" 1 m_paper_key := ok_paper_key (k := 0) d_paper_key n_len
  have f_in_order : FnM P w K mg base 2 "in_order" 1 m_in_order := ok_in_order (k := 1) d_in_order (f_paper_key.mono (by decide)) n_tuple n_sorted
  have f_lag_of : FnM P w K mg base 1 "lag_of" 2 m_lag_of := ok_lag_of (k := 0) d_lag_of n_len
  have f_lag_on : FnM P w K mg base 2 "lag_on" 3 m_lag_on := ok_lag_on (k := 1) d_lag_on (f_lag_of.mono (by decide))
  have f__law_bag_of : FnM P w K mg base 1 "_law_bag_of" 2 m__law_bag_of := ok__law_bag_of (k := 0) d__law_bag_of n_int n_abs n_len n_sum
  have f__law_pick : FnM P w K mg base 1 "_law_pick" 2 m__law_pick := ok__law_pick (k := 0) d__law_pick n_int
  have f__law_one_of : FnM P w K mg base 2 "_law_one_of" 2 m__law_one_of := ok__law_one_of (k := 1) d__law_one_of (f__law_pick.mono (by decide)) n_len
  have f__law_mixed : FnM P w K mg base 2 "_law_mixed" 2 m__law_mixed := ok__law_mixed (k := 1) d__law_mixed (f__law_pick.mono (by decide)) n_range n_len n_list
  have f__law_paper_of : FnM P w K mg base 3 "_law_paper_of" 3 m__law_paper_of := ok__law_paper_of (k := 2) d__law_paper_of (f__law_pick.mono (by decide)) (f__law_one_of.mono (by decide)) n_range
  have f__law_key_of : FnM P w K mg base 1 "_law_key_of" 1 m__law_key_of := ok__law_key_of (k := 0) d__law_key_of n_len
  have f__law_ordered : FnM P w K mg base 2 "_law_ordered" 1 m__law_ordered := ok__law_ordered (k := 1) d__law_ordered (f__law_key_of.mono (by decide)) n_sorted
  have f__law_lag_of : FnM P w K mg base 1 "_law_lag_of" 2 m__law_lag_of := ok__law_lag_of (k := 0) d__law_lag_of n_len
  have f__law_no_list : FnM P w K mg base 65 "_law_no_list" 1 (m__law_no_list rF) := ok__law_no_list (k := 0) d__law_no_list n_isinstance n_bool n_list n_tuple n_all 64
  have f__law_is_int : FnM P w K mg base 1 "_law_is_int" 1 m__law_is_int := ok__law_is_int (k := 0) d__law_is_int n_isinstance n_bool n_int
  have f__law_same_tuple : FnM P w K mg base 66 "_law_same_tuple" 2 m__law_same_tuple := ok__law_same_tuple (k := 65) d__law_same_tuple (f__law_no_list.mono (by decide)) n_isinstance n_tuple
  have f__law_many_signs : FnM P w K mg base 3 "_law_many_signs" 1 m__law_many_signs := ok__law_many_signs (k := 2) d__law_many_signs (f__law_mixed.mono (by decide)) (f__law_pick.mono (by decide)) n_sorted
  have f__law_classes : FnMX P w K mg base 1 "_law_classes" m__law_classes := ok__law_classes (k := 0) d__law_classes n_isinstance m_Unfit m_Unlike m_Unknown m_Twice m_TooMany m_BadLine m_BadDeed m_BadWay m_BadSlip m_BadForm m_BadRule m_BadWalk m_BadName m_BadPaper m_BadSigns m_Refused m_Malformed m_CarryError is_Unfit no_Unfit is_Unlike no_Unlike is_Unknown no_Unknown is_Twice no_Twice is_TooMany no_TooMany is_BadLine no_BadLine is_BadDeed no_BadDeed is_BadWay no_BadWay is_BadSlip no_BadSlip is_BadForm no_BadForm is_BadRule no_BadRule is_BadWalk no_BadWalk is_BadName no_BadName is_BadPaper no_BadPaper is_BadSigns no_BadSigns is_Refused no_Refused is_Malformed no_Malformed is_CarryError no_CarryError
  have f__law_pieces_of : FnM P w K mg base 3 "_law_pieces_of" 2 m__law_pieces_of := ok__law_pieces_of (k := 2) d__law_pieces_of (f__law_one_of.mono (by decide)) (f__law_pick.mono (by decide)) (f__law_bag_of.mono (by decide)) n_range n_len n_min
  have f__law_turned : FnM P w K mg base 1 "_law_turned" 1 m__law_turned := ok__law_turned (k := 0) d__law_turned
  have f__law_lags : FnM P w K mg base 3 "_law_lags" 1 m__law_lags := ok__law_lags (k := 2) d__law_lags (f_lag_on.mono (by decide)) (f_lag_of.mono (by decide)) (f__law_turned.mono (by decide)) (f__law_lag_of.mono (by decide)) n_all n_isinstance n_str
  have f__law_papers_in_order : FnM P w K mg base 67 "_law_papers_in_order" 2 m__law_papers_in_order := ok__law_papers_in_order (k := 66) d__law_papers_in_order (f_paper_key.mono (by decide)) (f__law_same_tuple.mono (by decide)) (f_in_order.mono (by decide)) (f__law_ordered.mono (by decide)) (f__law_pick.mono (by decide)) (f__law_one_of.mono (by decide)) (f__law_paper_of.mono (by decide)) (f__law_bag_of.mono (by decide)) n_all n_len n_tuple n_list n_range n_min
  have f__law_refused : FnM P w K mg base 5 "_law_refused" 2 m__law_refused := ok__law_refused (k := 4) d__law_refused (f_sign_value.mono (by decide)) (f__law_classes.mono (by decide)) n_repr m_CarryError ex_CarryError nx_CarryError xf_signs
  have f__law_values : FnM P w K mg base 6 "_law_values" 2 m__law_values := ok__law_values (k := 5) d__law_values (f__law_refused.mono (by decide)) (f__law_pick.mono (by decide)) (f__law_is_int.mono (by decide)) (f_sign_value.mono (by decide)) n_all n_list n_len n_range
  exact sim_law (k := 67) (f__law_papers_in_order.mono (by decide)) (f__law_pieces_of.mono (by decide)) (f__law_lags.mono (by decide)) (f__law_values.mono (by decide)) (f__law_many_signs.mono (by decide)) (f__law_bag_of.mono (by decide))
end
end Mi
end
section
open PySem PySem.W PyProof.Rows
set_option maxRecDepth 100000 in
set_option maxHeartbeats 0 in
theorem PySem.Challenge.cw_handcarried_k01_papers_and_lags_holds : PySem.Challenge.rw_handcarried_k01_papers_and_lags.Holds := by
  w_on; o_law; k_head; (case hw => w_witness2)
  k_fill
  refine Mi.law_walk (l := PySem.Challenge.rw_handcarried_k01_papers_and_lags) (k := 68) (x := "_law_script") ⟨rfl, by decide, by decide⟩ rfl rfl (fun w h Y => PySem.W.kIn_of Y) ?F
  case F =>
    intro w mg fa h KX G hmg
    have d_made_of := by
      refine' (Mi.df_of (st := Mi.s_made_of) (ps := ["thing", "signs", "low", "high"]) KX G ?a ?l ?c ?k Mi.bn_made_of : Mi.Df _ mg "made_of" _ _)
      (case a => k_is)
      (case l => k_is)
      (case c => k_is)
      (case k => k_is)
    have d_ascending := by
      refine' (Mi.df_of (st := Mi.s_ascending) (ps := ["text"]) KX G ?a ?l ?c ?k Mi.bn_ascending : Mi.Df _ mg "ascending" _ _)
      (case a => k_is)
      (case l => k_is)
      (case c => k_is)
      (case k => k_is)
    have d_is_signs := by
      refine' (Mi.df_of (st := Mi.s_is_signs) (ps := ["thing"]) KX G ?a ?l ?c ?k Mi.bn_is_signs : Mi.Df _ mg "is_signs" _ _)
      (case a => k_is)
      (case l => k_is)
      (case c => k_is)
      (case k => k_is)
    have d_check_signs_of := by
      refine' (Mi.df_of (st := Mi.s_check_signs_of) (ps := ["signs"]) KX G ?a ?l ?c ?k Mi.bn_check_signs_of : Mi.Df _ mg "check_signs_of" _ _)
      (case a => k_is)
      (case l => k_is)
      (case c => k_is)
      (case k => k_is)
    have d_sign_value := by
      refine' (Mi.df_of (st := Mi.s_sign_value) (ps := ["signs", "sign"]) KX G ?a ?l ?c ?k Mi.bn_sign_value : Mi.Df _ mg "sign_value" _ _)
      (case a => k_is)
      (case l => k_is)
      (case c => k_is)
      (case k => k_is)
    have d_paper_key := by
      refine' (Mi.df_of (st := Mi.s_paper_key) (ps := ["paper"]) KX G ?a ?l ?c ?k Mi.bn_paper_key : Mi.Df _ mg "paper_key" _ _)
      (case a => k_is)
      (case l => k_is)
      (case c => k_is)
      (case k => k_is)
    have d_in_order := by
      refine' (Mi.df_of (st := Mi.s_in_order) (ps := ["papers"]) KX G ?a ?l ?c ?k Mi.bn_in_order : Mi.Df _ mg "in_order" _ _)
      (case a => k_is)
      (case l => k_is)
      (case c => k_is)
      (case k => k_is)
    have d_lag_of := by
      refine' (Mi.df_of (st := Mi.s_lag_of) (ps := ["first", "second"]) KX G ?a ?l ?c ?k Mi.bn_lag_of : Mi.Df _ mg "lag_of" _ _)
      (case a => k_is)
      (case l => k_is)
      (case c => k_is)
      (case k => k_is)
    have d_lag_on := by
      refine' (Mi.df_of (st := Mi.s_lag_on) (ps := ["lag", "first", "second"]) KX G ?a ?l ?c ?k Mi.bn_lag_on : Mi.Df _ mg "lag_on" _ _)
      (case a => k_is)
      (case l => k_is)
      (case c => k_is)
      (case k => k_is)
    have d__law_bag_of := by
      refine' (Mi.df_of (st := Mi.s__law_bag_of) (ps := ["_law_script", "_law_at"]) KX G ?a ?l ?c ?k Mi.bn__law_bag_of : Mi.Df _ mg "_law_bag_of" _ _)
      (case a => k_is)
      (case l => k_is)
      (case c => k_is)
      (case k => k_is)
    have d__law_pick := by
      refine' (Mi.df_of (st := Mi.s__law_pick) (ps := ["_law_bag", "_law_many"]) KX G ?a ?l ?c ?k Mi.bn__law_pick : Mi.Df _ mg "_law_pick" _ _)
      (case a => k_is)
      (case l => k_is)
      (case c => k_is)
      (case k => k_is)
    have d__law_one_of := by
      refine' (Mi.df_of (st := Mi.s__law_one_of) (ps := ["_law_bag", "_law_row"]) KX G ?a ?l ?c ?k Mi.bn__law_one_of : Mi.Df _ mg "_law_one_of" _ _)
      (case a => k_is)
      (case l => k_is)
      (case c => k_is)
      (case k => k_is)
    have d__law_mixed := by
      refine' (Mi.df_of (st := Mi.s__law_mixed) (ps := ["_law_bag", "_law_row"]) KX G ?a ?l ?c ?k Mi.bn__law_mixed : Mi.Df _ mg "_law_mixed" _ _)
      (case a => k_is)
      (case l => k_is)
      (case c => k_is)
      (case k => k_is)
    have d__law_paper_of := by
      refine' (Mi.df_of (st := Mi.s__law_paper_of) (ps := ["_law_bag", "_law_signs", "_law_most"]) KX G ?a ?l ?c ?k Mi.bn__law_paper_of : Mi.Df _ mg "_law_paper_of" _ _)
      (case a => k_is)
      (case l => k_is)
      (case c => k_is)
      (case k => k_is)
    have d__law_key_of := by
      refine' (Mi.df_of (st := Mi.s__law_key_of) (ps := ["_law_paper"]) KX G ?a ?l ?c ?k Mi.bn__law_key_of : Mi.Df _ mg "_law_key_of" _ _)
      (case a => k_is)
      (case l => k_is)
      (case c => k_is)
      (case k => k_is)
    have d__law_ordered := by
      refine' (Mi.df_of (st := Mi.s__law_ordered) (ps := ["_law_papers"]) KX G ?a ?l ?c ?k Mi.bn__law_ordered : Mi.Df _ mg "_law_ordered" _ _)
      (case a => k_is)
      (case l => k_is)
      (case c => k_is)
      (case k => k_is)
    have d__law_lag_of := by
      refine' (Mi.df_of (st := Mi.s__law_lag_of) (ps := ["_law_first", "_law_second"]) KX G ?a ?l ?c ?k Mi.bn__law_lag_of : Mi.Df _ mg "_law_lag_of" _ _)
      (case a => k_is)
      (case l => k_is)
      (case c => k_is)
      (case k => k_is)
    have d__law_no_list := by
      refine' (Mi.df_of (st := Mi.s__law_no_list) (ps := ["_law_thing"]) KX G ?a ?l ?c ?k Mi.bn__law_no_list : Mi.Df _ mg "_law_no_list" _ _)
      (case a => k_is)
      (case l => k_is)
      (case c => k_is)
      (case k => k_is)
    have d__law_is_int := by
      refine' (Mi.df_of (st := Mi.s__law_is_int) (ps := ["_law_thing"]) KX G ?a ?l ?c ?k Mi.bn__law_is_int : Mi.Df _ mg "_law_is_int" _ _)
      (case a => k_is)
      (case l => k_is)
      (case c => k_is)
      (case k => k_is)
    have d__law_same_tuple := by
      refine' (Mi.df_of (st := Mi.s__law_same_tuple) (ps := ["_law_told", "_law_wanted"]) KX G ?a ?l ?c ?k Mi.bn__law_same_tuple : Mi.Df _ mg "_law_same_tuple" _ _)
      (case a => k_is)
      (case l => k_is)
      (case c => k_is)
      (case k => k_is)
    have d__law_many_signs := by
      refine' (Mi.df_of (st := Mi.s__law_many_signs) (ps := ["_law_bag"]) KX G ?a ?l ?c ?k Mi.bn__law_many_signs : Mi.Df _ mg "_law_many_signs" _ _)
      (case a => k_is)
      (case l => k_is)
      (case c => k_is)
      (case k => k_is)
    have d__law_classes := by
      refine' (Mi.df_of (st := Mi.s__law_classes) (ps := ["_law_e"]) KX G ?a ?l ?c ?k Mi.bn__law_classes : Mi.Df _ mg "_law_classes" _ _)
      (case a => k_is)
      (case l => k_is)
      (case c => k_is)
      (case k => k_is)
    have d__law_pieces_of := by
      refine' (Mi.df_of (st := Mi.s__law_pieces_of) (ps := ["_law_script", "_law_signs"]) KX G ?a ?l ?c ?k Mi.bn__law_pieces_of : Mi.Df _ mg "_law_pieces_of" _ _)
      (case a => k_is)
      (case l => k_is)
      (case c => k_is)
      (case k => k_is)
    have d__law_turned := by
      refine' (Mi.df_of (st := Mi.s__law_turned) (ps := ["_law_lag"]) KX G ?a ?l ?c ?k Mi.bn__law_turned : Mi.Df _ mg "_law_turned" _ _)
      (case a => k_is)
      (case l => k_is)
      (case c => k_is)
      (case k => k_is)
    have d__law_lags := by
      refine' (Mi.df_of (st := Mi.s__law_lags) (ps := ["_law_pieces"]) KX G ?a ?l ?c ?k Mi.bn__law_lags : Mi.Df _ mg "_law_lags" _ _)
      (case a => k_is)
      (case l => k_is)
      (case c => k_is)
      (case k => k_is)
    have d__law_papers_in_order := by
      refine' (Mi.df_of (st := Mi.s__law_papers_in_order) (ps := ["_law_script", "_law_signs"]) KX G ?a ?l ?c ?k Mi.bn__law_papers_in_order : Mi.Df _ mg "_law_papers_in_order" _ _)
      (case a => k_is)
      (case l => k_is)
      (case c => k_is)
      (case k => k_is)
    have d__law_refused := by
      refine' (Mi.df_of (st := Mi.s__law_refused) (ps := ["_law_odd", "_law_sign"]) KX G ?a ?l ?c ?k Mi.bn__law_refused : Mi.Df _ mg "_law_refused" _ _)
      (case a => k_is)
      (case l => k_is)
      (case c => k_is)
      (case k => k_is)
    have d__law_values := by
      refine' (Mi.df_of (st := Mi.s__law_values) (ps := ["_law_bag", "_law_signs"]) KX G ?a ?l ?c ?k Mi.bn__law_values : Mi.Df _ mg "_law_values" _ _)
      (case a => k_is)
      (case l => k_is)
      (case c => k_is)
      (case k => k_is)
    have n_all := by
      refine' PySem.W.mg_none_of (n := "all") KX G ?a
      (case a => k_is)
    have n_len := by
      refine' PySem.W.mg_none_of (n := "len") KX G ?a
      (case a => k_is)
    have n_isinstance := by
      refine' PySem.W.mg_none_of (n := "isinstance") KX G ?a
      (case a => k_is)
    have n_str := by
      refine' PySem.W.mg_none_of (n := "str") KX G ?a
      (case a => k_is)
    have n_range := by
      refine' PySem.W.mg_none_of (n := "range") KX G ?a
      (case a => k_is)
    have n_tuple := by
      refine' PySem.W.mg_none_of (n := "tuple") KX G ?a
      (case a => k_is)
    have n_sorted := by
      refine' PySem.W.mg_none_of (n := "sorted") KX G ?a
      (case a => k_is)
    have n_int := by
      refine' PySem.W.mg_none_of (n := "int") KX G ?a
      (case a => k_is)
    have n_abs := by
      refine' PySem.W.mg_none_of (n := "abs") KX G ?a
      (case a => k_is)
    have n_sum := by
      refine' PySem.W.mg_none_of (n := "sum") KX G ?a
      (case a => k_is)
    have n_list := by
      refine' PySem.W.mg_none_of (n := "list") KX G ?a
      (case a => k_is)
    have n_bool := by
      refine' PySem.W.mg_none_of (n := "bool") KX G ?a
      (case a => k_is)
    have n_min := by
      refine' PySem.W.mg_none_of (n := "min") KX G ?a
      (case a => k_is)
    have n_repr := by
      refine' PySem.W.mg_none_of (n := "repr") KX G ?a
      (case a => k_is)
    have c_SIGNS_ok := by
      refine' (Mi.cst_of (w := w) (d := Mi.c_SIGNS) KX G ?a ?b : Mi.Cst _ w mg "SIGNS" _)
      (case a => k_is)
      case b =>
        unfold Mi.c_SIGNS
        exact Mi.cv_str (by decide +kernel)
    have x_BadSigns := by
      refine' (Mi.xt_of (prog := PySem.Challenge.rw_handcarried_k01_papers_and_lags.prog) (x := "BadSigns") (f := "signs") (st := Mi.clsFn (Mi.topS 4)) KX G ?aC ?xC ?rv ?al ?sa ?ga ?gg ?noN ?iC ?tC ?kC ?exC ?veC ?tyC ?hdC ?opq ?l ?c ?cel ?cod ?vs2 ?fl ?sup ?top ?nf ?ea ?eb ?es ?hp ?hb : Mi.XT _ _ mg "BadSigns" "signs" _ _ _ _)
      (case aC => k_is)
      (case xC => k_is)
      (case rv => rfl)
      (case iC => k_is)
      (case l => k_is)
      (case c => k_is)
      (case cel => k_is)
      (case cod => k_is)
      (case vs2 => rfl)
      (case fl => decide)
      (case al => first | k_is | rfl)
      (case sa => k_is)
      (case ga => k_is)
      (case gg => k_is)
      (case noN => k_is)
      (case tC => k_is)
      (case kC => k_is)
      (case exC => k_is)
      (case veC => k_is)
      (case tyC => k_is)
      (case hdC => k_is)
      (case opq => k_is)
      (case sup => k_is)
      (case top => rfl)
      (case nf => decide)
      (case ea => rfl)
      (case eb => rfl)
      (case es => rfl)
      (case hp => rfl)
      case hb =>
        intros
        rfl
    have i_BadSigns := by
      refine' (Mi.xi_of x_BadSigns ?ha ?hn ?ht)
      (case ha => k_is)
      (case hn => first | k_is | rfl)
      (case ht => first | k_is | rfl)
    have m_Unfit := by
      refine' (Mi.mg_cls KX G ?a : mg "Unfit" = some (.ref _))
      (case a => k_is)
    have m_Unlike := by
      refine' (Mi.mg_cls KX G ?a : mg "Unlike" = some (.ref _))
      (case a => k_is)
    have m_Unknown := by
      refine' (Mi.mg_cls KX G ?a : mg "Unknown" = some (.ref _))
      (case a => k_is)
    have m_Twice := by
      refine' (Mi.mg_cls KX G ?a : mg "Twice" = some (.ref _))
      (case a => k_is)
    have m_TooMany := by
      refine' (Mi.mg_cls KX G ?a : mg "TooMany" = some (.ref _))
      (case a => k_is)
    have m_BadLine := by
      refine' (Mi.mg_cls KX G ?a : mg "BadLine" = some (.ref _))
      (case a => k_is)
    have m_BadDeed := by
      refine' (Mi.mg_cls KX G ?a : mg "BadDeed" = some (.ref _))
      (case a => k_is)
    have m_BadWay := by
      refine' (Mi.mg_cls KX G ?a : mg "BadWay" = some (.ref _))
      (case a => k_is)
    have m_BadSlip := by
      refine' (Mi.mg_cls KX G ?a : mg "BadSlip" = some (.ref _))
      (case a => k_is)
    have m_BadForm := by
      refine' (Mi.mg_cls KX G ?a : mg "BadForm" = some (.ref _))
      (case a => k_is)
    have m_BadRule := by
      refine' (Mi.mg_cls KX G ?a : mg "BadRule" = some (.ref _))
      (case a => k_is)
    have m_BadWalk := by
      refine' (Mi.mg_cls KX G ?a : mg "BadWalk" = some (.ref _))
      (case a => k_is)
    have m_BadName := by
      refine' (Mi.mg_cls KX G ?a : mg "BadName" = some (.ref _))
      (case a => k_is)
    have m_BadPaper := by
      refine' (Mi.mg_cls KX G ?a : mg "BadPaper" = some (.ref _))
      (case a => k_is)
    have m_BadSigns := by
      refine' (Mi.mg_cls KX G ?a : mg "BadSigns" = some (.ref _))
      (case a => k_is)
    have m_Refused := by
      refine' (Mi.mg_cls KX G ?a : mg "Refused" = some (.ref _))
      (case a => k_is)
    have m_Malformed := by
      refine' (Mi.mg_cls KX G ?a : mg "Malformed" = some (.ref _))
      (case a => k_is)
    have m_CarryError := by
      refine' (Mi.mg_cls KX G ?a : mg "CarryError" = some (.ref _))
      (case a => k_is)
    have no_Unfit_BadSigns := by
      refine' (Mi.kit_mk2 x_BadSigns m_Unfit ?a ?b ?c ?d)
      (case a => k_is)
      (case b => k_is)
      (case c => first | k_is | rfl)
      (case d => decide)
    have no_Unlike_BadSigns := by
      refine' (Mi.kit_mk2 x_BadSigns m_Unlike ?a ?b ?c ?d)
      (case a => k_is)
      (case b => k_is)
      (case c => first | k_is | rfl)
      (case d => decide)
    have no_Unknown_BadSigns := by
      refine' (Mi.kit_mk2 x_BadSigns m_Unknown ?a ?b ?c ?d)
      (case a => k_is)
      (case b => k_is)
      (case c => first | k_is | rfl)
      (case d => decide)
    have no_Twice_BadSigns := by
      refine' (Mi.kit_mk2 x_BadSigns m_Twice ?a ?b ?c ?d)
      (case a => k_is)
      (case b => k_is)
      (case c => first | k_is | rfl)
      (case d => decide)
    have no_TooMany_BadSigns := by
      refine' (Mi.kit_mk2 x_BadSigns m_TooMany ?a ?b ?c ?d)
      (case a => k_is)
      (case b => k_is)
      (case c => first | k_is | rfl)
      (case d => decide)
    have no_BadLine_BadSigns := by
      refine' (Mi.kit_mk2 x_BadSigns m_BadLine ?a ?b ?c ?d)
      (case a => k_is)
      (case b => k_is)
      (case c => first | k_is | rfl)
      (case d => decide)
    have no_BadDeed_BadSigns := by
      refine' (Mi.kit_mk2 x_BadSigns m_BadDeed ?a ?b ?c ?d)
      (case a => k_is)
      (case b => k_is)
      (case c => first | k_is | rfl)
      (case d => decide)
    have no_BadWay_BadSigns := by
      refine' (Mi.kit_mk2 x_BadSigns m_BadWay ?a ?b ?c ?d)
      (case a => k_is)
      (case b => k_is)
      (case c => first | k_is | rfl)
      (case d => decide)
    have no_BadSlip_BadSigns := by
      refine' (Mi.kit_mk2 x_BadSigns m_BadSlip ?a ?b ?c ?d)
      (case a => k_is)
      (case b => k_is)
      (case c => first | k_is | rfl)
      (case d => decide)
    have no_BadForm_BadSigns := by
      refine' (Mi.kit_mk2 x_BadSigns m_BadForm ?a ?b ?c ?d)
      (case a => k_is)
      (case b => k_is)
      (case c => first | k_is | rfl)
      (case d => decide)
    have no_BadRule_BadSigns := by
      refine' (Mi.kit_mk2 x_BadSigns m_BadRule ?a ?b ?c ?d)
      (case a => k_is)
      (case b => k_is)
      (case c => first | k_is | rfl)
      (case d => decide)
    have no_BadWalk_BadSigns := by
      refine' (Mi.kit_mk2 x_BadSigns m_BadWalk ?a ?b ?c ?d)
      (case a => k_is)
      (case b => k_is)
      (case c => first | k_is | rfl)
      (case d => decide)
    have no_BadName_BadSigns := by
      refine' (Mi.kit_mk2 x_BadSigns m_BadName ?a ?b ?c ?d)
      (case a => k_is)
      (case b => k_is)
      (case c => first | k_is | rfl)
      (case d => decide)
    have no_BadPaper_BadSigns := by
      refine' (Mi.kit_mk2 x_BadSigns m_BadPaper ?a ?b ?c ?d)
      (case a => k_is)
      (case b => k_is)
      (case c => first | k_is | rfl)
      (case d => decide)
    have is_BadSigns_BadSigns := by
      refine' (Mi.kit_mk2 x_BadSigns m_BadSigns ?a ?b ?c ?d)
      (case a => k_is)
      (case b => k_is)
      (case c => first | k_is | rfl)
      (case d => decide)
    have no_Refused_BadSigns := by
      refine' (Mi.kit_mk2 x_BadSigns m_Refused ?a ?b ?c ?d)
      (case a => k_is)
      (case b => k_is)
      (case c => first | k_is | rfl)
      (case d => decide)
    have is_Malformed_BadSigns := by
      refine' (Mi.kit_mk2 x_BadSigns m_Malformed ?a ?b ?c ?d)
      (case a => k_is)
      (case b => k_is)
      (case c => first | k_is | rfl)
      (case d => decide)
    have is_CarryError_BadSigns := by
      refine' (Mi.kit_mk2 x_BadSigns m_CarryError ?a ?b ?c ?d)
      (case a => k_is)
      (case b => k_is)
      (case c => first | k_is | rfl)
      (case d => decide)
    have ex_CarryError_BadSigns := by
      refine' (Mi.exm_mk x_BadSigns.tyC x_BadSigns.gC m_CarryError ?a ?b ?c ?d)
      (case a => k_is)
      (case b => k_is)
      (case c => k_is)
      (case d => first | k_is | rfl)
    refine' Mi.law_of (st := Mi.s_law) (N := ["_law_script", "_law_bag", "_law_signs"]) (k := 67) (mb := Mi.b_law) (m := Mi.m_law) KX G hmg ?a ?l ?c ?k (fun u => Mi.bn_law _ _ _ _ _ _ [u] rfl) Mi.sc_law ?body rfl Mi.law_math
    (case a => k_is)
    (case l => k_is)
    (case c => k_is)
    (case k => k_is)
    case body => exact fun base _ _ => Mi.chain d_made_of d_ascending d_is_signs d_check_signs_of d_sign_value d_paper_key d_in_order d_lag_of d_lag_on d__law_bag_of d__law_pick d__law_one_of d__law_mixed d__law_paper_of d__law_key_of d__law_ordered d__law_lag_of d__law_no_list d__law_is_int d__law_same_tuple d__law_many_signs d__law_classes d__law_pieces_of d__law_turned d__law_lags d__law_papers_in_order d__law_refused d__law_values c_SIGNS_ok n_all n_len n_isinstance n_str n_range n_tuple n_sorted n_int n_abs n_sum n_list n_bool n_min n_repr x_BadSigns m_Unfit m_Unlike m_Unknown m_Twice m_TooMany m_BadLine m_BadDeed m_BadWay m_BadSlip m_BadForm m_BadRule m_BadWalk m_BadName m_BadPaper m_BadSigns m_Refused m_Malformed m_CarryError Mi.fa_nil (Mi.fa_cons ⟨_, x_BadSigns.gC, i_BadSigns, no_Unfit_BadSigns⟩ Mi.fa_nil) Mi.fa_nil (Mi.fa_cons ⟨_, x_BadSigns.gC, i_BadSigns, no_Unlike_BadSigns⟩ Mi.fa_nil) Mi.fa_nil (Mi.fa_cons ⟨_, x_BadSigns.gC, i_BadSigns, no_Unknown_BadSigns⟩ Mi.fa_nil) Mi.fa_nil (Mi.fa_cons ⟨_, x_BadSigns.gC, i_BadSigns, no_Twice_BadSigns⟩ Mi.fa_nil) Mi.fa_nil (Mi.fa_cons ⟨_, x_BadSigns.gC, i_BadSigns, no_TooMany_BadSigns⟩ Mi.fa_nil) Mi.fa_nil (Mi.fa_cons ⟨_, x_BadSigns.gC, i_BadSigns, no_BadLine_BadSigns⟩ Mi.fa_nil) Mi.fa_nil (Mi.fa_cons ⟨_, x_BadSigns.gC, i_BadSigns, no_BadDeed_BadSigns⟩ Mi.fa_nil) Mi.fa_nil (Mi.fa_cons ⟨_, x_BadSigns.gC, i_BadSigns, no_BadWay_BadSigns⟩ Mi.fa_nil) Mi.fa_nil (Mi.fa_cons ⟨_, x_BadSigns.gC, i_BadSigns, no_BadSlip_BadSigns⟩ Mi.fa_nil) Mi.fa_nil (Mi.fa_cons ⟨_, x_BadSigns.gC, i_BadSigns, no_BadForm_BadSigns⟩ Mi.fa_nil) Mi.fa_nil (Mi.fa_cons ⟨_, x_BadSigns.gC, i_BadSigns, no_BadRule_BadSigns⟩ Mi.fa_nil) Mi.fa_nil (Mi.fa_cons ⟨_, x_BadSigns.gC, i_BadSigns, no_BadWalk_BadSigns⟩ Mi.fa_nil) Mi.fa_nil (Mi.fa_cons ⟨_, x_BadSigns.gC, i_BadSigns, no_BadName_BadSigns⟩ Mi.fa_nil) Mi.fa_nil (Mi.fa_cons ⟨_, x_BadSigns.gC, i_BadSigns, no_BadPaper_BadSigns⟩ Mi.fa_nil) (Mi.fa_cons ⟨_, x_BadSigns.gC, i_BadSigns, is_BadSigns_BadSigns⟩ Mi.fa_nil) Mi.fa_nil Mi.fa_nil (Mi.fa_cons ⟨_, x_BadSigns.gC, i_BadSigns, no_Refused_BadSigns⟩ Mi.fa_nil) (Mi.fa_cons ⟨_, x_BadSigns.gC, i_BadSigns, is_Malformed_BadSigns⟩ Mi.fa_nil) Mi.fa_nil (Mi.fa_cons ⟨_, x_BadSigns.gC, i_BadSigns, is_CarryError_BadSigns⟩ Mi.fa_nil) Mi.fa_nil (Mi.fa_cons ⟨_, x_BadSigns.gC, ex_CarryError_BadSigns⟩ Mi.fa_nil) Mi.fa_nil (Mi.fa_cons ⟨_, x_BadSigns.gC, i_BadSigns, x_BadSigns.noN⟩ Mi.fa_nil)
end
