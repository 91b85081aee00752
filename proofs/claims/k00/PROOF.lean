import PyProof.Rows.All
import HandS.AnyAll
import HandS.CallSlots
import HandS.Codes
import HandS.Conv
import HandS.Deep
import HandS.DictComp
import HandS.DictTup
import HandS.EndOwn
import HandS.Ends
import HandS.Flow
import HandS.ForExc
import HandS.ForMost
import HandS.Head0
import HandS.Head1
import HandS.Head2
import HandS.HeadEnd
import HandS.HeadHook1
import HandS.HeadHook2
import HandS.HeadHook3
import HandS.HeadHook4
import HandS.HeadWalk
import HandS.IsInst
import HandS.Lambda
import HandS.MakeKwOnly
import HandS.Rev
import HandS.SortKw
import HandS.Style
import HandS.TryMany
import HandS.TupAny
import HandS.TupLen
import HandS.TupMul
import HandS.Words
import HandS.WordsExc
import KE.DataMinKey
import KE.DataMinMax
import KE.KDictCopyH
import KE.KEqSeq
import KE.KMinKey
import KE.KStateDown
import KE.SortData
import OpenK.AllK
import OpenK.KEqL
import PyProof.DictFindH
import PySem.Challenge.RW_cantusmill_k00_what_makes_a_book
import Wide.All
import Wide.FinOn
set_option Elab.async false
set_option linter.all false
set_option maxRecDepth 100000
set_option maxHeartbeats 2000000
set_option maxHeartbeats 8000000
set_option maxHeartbeats 4000000
/-! The pure layer: data D, what an abstract heap says of them (Rep), readings by functions of data. -/
namespace PD
open PySem PySem.Spec PyProof.Rows L2

/-- plain data -/
inductive D where
  | non | bl (b : Bool) | int (i : Int) | str (x : Str)
  | tup (xs : List D) | lst (xs : List D) | raw (xs : List D) | dic (ks ws : List D) | obj (c : Nat) (fs : List D)
  deriving Inhabited

/-- an answer: a value, an own exception by its number, or nothing told -/
inductive Res (α : Type) where
  | ok (a : α) | exc (c : Nat) | bad
def Res.bind {α β : Type} (r : Res α) (k : α → Res β) : Res β := match r with
  | .ok a => k a
  | .exc c => .exc c
  | .bad => .bad
@[simp] theorem Res.bind_ok {α β : Type} (a : α) (k : α → Res β) : (Res.ok a).bind k = k a := rfl
@[simp] theorem Res.bind_exc {α β : Type} (c : Nat) (k : α → Res β) : (Res.exc c : Res α).bind k = .exc c := rfl
@[simp] theorem Res.bind_bad {α β : Type} (k : α → Res β) : (Res.bad : Res α).bind k = .bad := rfl

/-- what a law's text gives: the written part, own classes (address, fields), own exceptions, tables of code objects (of defs with generator expressions; with lambdas) -/
structure Stat where
  K : PySem.W.Frag
  cA : Nat → Addr
  fN : Nat → List Str
  eA : Nat → Addr
  tG : List Addr
  tL : List (Addr × Str)

def key1D : Key → D
  | .inl i => .int i
  | .inr x => .str x
def keyD (k : List Key) : D := .tup (k.map key1D)

/-- the script: locked, or of the written part -/
def SqR (K : PySem.W.Frag) (H : Hp) (a : Addr) (xs : List V) : Prop := (∃ o, H a = some (.frz o (.lst xs))) ∨ (SqL K H a xs ∧ ∃ (o : Obj) (its : Array Value) (n : Nat), K.lookup a = some o ∧ o.cls = .type "list" ∧ o.dict = none ∧ o.data = .seq its n ∧ its.size ≤ sizeLine ∧ Vals xs its.toList)
theorem SqR.to {K : PySem.W.Frag} {H : Hp} {a : Addr} {xs : List V} (h : SqR K H a xs) : SqL K H a xs := by
  rcases h with h | h
  · exact .inl (.inr h)
  · exact h.1
theorem SqR.of {K : PySem.W.Frag} {H : Hp} {a : Addr} {xs : List V} (h : SqL K H a xs) (n : ∀ ys, H a ≠ some (.lst ys)) : SqR K H a xs := by
  rcases h with (h | h) | h
  · exact absurd h (n _)
  · exact .inl h
  · exact .inr ⟨.inr h, h⟩
mutual
/-- v stands for d; no list, dict or instance of it lies in F -/
def Rep (S : Stat) (F : Addr → Prop) (H : Hp) : D → V → Prop
  | .non, v => v = .non
  | .bl b, v => v = .bl b
  | .int i, v => v = .int i
  | .str x, v => v = .str x ∧ PyData.strOk x = true
  | .tup ds, v => ∃ a vs, v = .ref a ∧ H a = some (.tup vs) ∧ Reps S F H ds vs
  | .lst ds, v => ∃ a vs, v = .ref a ∧ ¬ F a ∧ Rd H a (.lst vs) ∧ Reps S F H ds vs
  | .raw ds, v => ∃ a vs, v = .ref a ∧ SqR S.K H a vs ∧ Reps S F H ds vs
  | .dic ks ws, v => ∃ a kvs, v = .ref a ∧ ¬ F a ∧ H a = some (.dT kvs) ∧ ks = kvs.map (fun p => keyD p.1) ∧ Reps S F H ws (kvs.map (·.2))
  | .obj c ds, v => ∃ a dx vs, v = .ref a ∧ ¬ F a ∧ H a = some (.ins (S.cA c) dx ((S.fN c).zip vs)) ∧ vs.length = (S.fN c).length ∧ Reps S F H ds vs
def Reps (S : Stat) (F : Addr → Prop) (H : Hp) : List D → List V → Prop
  | [], vs => vs = []
  | d :: ds, vs => ∃ v r, vs = v :: r ∧ Rep S F H d v ∧ Reps S F H ds r
end

/-- all but the tables stays; a table stays a table -/
structure Ext (H H' : Hp) : Prop where
  to : ∀ b o, H b = some o → (∀ ps, o ≠ .tbl ps) → H' b = some o
  tb : ∀ b ps, H b = some (.tbl ps) → ∃ qs, H' b = some (.tbl qs)
theorem Ext.refl (H : Hp) : Ext H H := ⟨fun _ _ h _ => h, fun _ ps h => ⟨ps, h⟩⟩
theorem Ext.trans {H H1 H2 : Hp} (a : Ext H H1) (b : Ext H1 H2) : Ext H H2 :=
  ⟨fun c o h n => b.to c o (a.to c o h n) n, fun c ps h => by obtain ⟨qs, h1⟩ := a.tb c ps h; exact b.tb c qs h1⟩
theorem Ext.none {H H' : Hp} (e : Ext H H') {a : Addr} (h : H' a = Option.none) : H a = Option.none := by
  cases q : H a with
  | none => rfl
  | some o =>
    by_cases t : ∃ ps, o = .tbl ps
    · obtain ⟨ps, rfl⟩ := t
      obtain ⟨qs, z⟩ := e.tb a ps q
      rw [h] at z; cases z
    · have z := e.to a o q (fun ps z => t ⟨ps, z⟩)
      rw [h] at z; cases z
theorem Ext.upd {H : Hp} {p : Addr} {o : HO} (h : H p = Option.none) : Ext H (upd H p o) :=
  ⟨fun b u e _ => by rw [upd_ne (ne_of_none e h)]; exact e, fun b ps e => ⟨ps, by rw [upd_ne (ne_of_none e h)]; exact e⟩⟩
theorem Ext.some {H H' : Hp} (e : Ext H H') {a : Addr} (h : H a ≠ Option.none) : H' a ≠ Option.none := fun z => h (e.none z)

section
variable {S : Stat} {F F' : Addr → Prop} {H H' : Hp}
theorem SqL.ext {K : PySem.W.Frag} {a : Addr} {xs : List V} (h : SqL K H a xs) (e : Ext H H') : SqL K H' a xs := by
  rcases h with (h | ⟨o, h⟩) | h
  · exact .inl (.inl (e.to _ _ h fun _ z => nomatch z))
  · exact .inl (.inr ⟨o, e.to _ _ h fun _ z => nomatch z⟩)
  · exact .inr h
theorem Rd.ext {a : Addr} {xs : List V} (h : Rd H a (.lst xs)) (e : Ext H H') : Rd H' a (.lst xs) := by
  rcases h with h | ⟨o, h⟩
  · exact .inl (e.to _ _ h fun _ z => nomatch z)
  · exact .inr ⟨o, e.to _ _ h fun _ z => nomatch z⟩
mutual
theorem Rep.ext (e : Ext H H') : ∀ {d : D} {v : V}, Rep S F H d v → Rep S F H' d v
  | .non, _, h => h
  | .bl _, _, h => h
  | .int _, _, h => h
  | .str _, _, h => h
  | .tup ds, _, h => by
    unfold Rep at h ⊢
    obtain ⟨a, vs, h1, h2, h3⟩ := h
    exact ⟨a, vs, h1, e.to _ _ h2 (fun _ z => nomatch z), Reps.ext e h3⟩
  | .lst ds, _, h => by
    unfold Rep at h ⊢
    obtain ⟨a, vs, h1, n, h2, h3⟩ := h
    exact ⟨a, vs, h1, n, Rd.ext h2 e, Reps.ext e h3⟩
  | .raw ds, _, h => by
    unfold Rep at h ⊢
    obtain ⟨a, vs, h1, h2, h3⟩ := h
    refine ⟨a, vs, h1, ?_, Reps.ext e h3⟩
    rcases h2 with ⟨o, h2⟩ | ⟨_, h2⟩
    · exact .inl ⟨o, e.to _ _ h2 fun _ z => nomatch z⟩
    · exact .inr ⟨.inr h2, h2⟩
  | .dic ks ws, _, h => by
    unfold Rep at h ⊢
    obtain ⟨a, kvs, h1, n, h2, h3, h4⟩ := h
    exact ⟨a, kvs, h1, n, e.to _ _ h2 (fun _ z => nomatch z), h3, Reps.ext e h4⟩
  | .obj c ds, _, h => by
    unfold Rep at h ⊢
    obtain ⟨a, dx, vs, h1, n, h2, h3, h4⟩ := h
    exact ⟨a, dx, vs, h1, n, e.to _ _ h2 (fun _ z => nomatch z), h3, Reps.ext e h4⟩
theorem Reps.ext (e : Ext H H') : ∀ {ds : List D} {vs : List V}, Reps S F H ds vs → Reps S F H' ds vs
  | [], _, h => h
  | d :: ds, _, h => by
    unfold Reps at h ⊢
    obtain ⟨v, r, h1, h2, h3⟩ := h
    exact ⟨v, r, h1, Rep.ext e h2, Reps.ext e h3⟩
end
mutual
theorem Rep.anti (e : ∀ a, F' a → F a) : ∀ {d : D} {v : V}, Rep S F H d v → Rep S F' H d v
  | .non, _, h => h
  | .bl _, _, h => h
  | .int _, _, h => h
  | .str _, _, h => h
  | .tup ds, _, h => by
    unfold Rep at h ⊢
    obtain ⟨a, vs, h1, h2, h3⟩ := h
    exact ⟨a, vs, h1, h2, Reps.anti e h3⟩
  | .lst ds, _, h => by
    unfold Rep at h ⊢
    obtain ⟨a, vs, h1, n, h2, h3⟩ := h
    exact ⟨a, vs, h1, fun z => n (e _ z), h2, Reps.anti e h3⟩
  | .raw ds, _, h => by
    unfold Rep at h ⊢
    obtain ⟨a, vs, h1, h2, h3⟩ := h
    exact ⟨a, vs, h1, h2, Reps.anti e h3⟩
  | .dic ks ws, _, h => by
    unfold Rep at h ⊢
    obtain ⟨a, kvs, h1, n, h2, h3, h4⟩ := h
    exact ⟨a, kvs, h1, fun z => n (e _ z), h2, h3, Reps.anti e h4⟩
  | .obj c ds, _, h => by
    unfold Rep at h ⊢
    obtain ⟨a, dx, vs, h1, n, h2, h3, h4⟩ := h
    exact ⟨a, dx, vs, h1, fun z => n (e _ z), h2, h3, Reps.anti e h4⟩
theorem Reps.anti (e : ∀ a, F' a → F a) : ∀ {ds : List D} {vs : List V}, Reps S F H ds vs → Reps S F' H ds vs
  | [], _, h => h
  | d :: ds, _, h => by
    unfold Reps at h ⊢
    obtain ⟨v, r, h1, h2, h3⟩ := h
    exact ⟨v, r, h1, Rep.anti e h2, Reps.anti e h3⟩
end
/- a new address is avoided by all that stands -/
mutual
theorem Rep.plus {p : Addr} (n : H p = none) : ∀ {d : D} {v : V}, Rep S F H d v → Rep S (fun b => F b ∨ b = p) H d v
  | .non, _, h => h
  | .bl _, _, h => h
  | .int _, _, h => h
  | .str _, _, h => h
  | .tup ds, _, h => by
    unfold Rep at h ⊢
    obtain ⟨a, vs, h1, h2, h3⟩ := h
    exact ⟨a, vs, h1, h2, Reps.plus n h3⟩
  | .lst ds, _, h => by
    unfold Rep at h ⊢
    obtain ⟨a, vs, h1, m, h2, h3⟩ := h
    refine ⟨a, vs, h1, fun z => z.elim m fun z => ?_, h2, Reps.plus n h3⟩
    subst z
    rcases h2 with h2 | ⟨o, h2⟩
    · rw [n] at h2; cases h2
    · rw [n] at h2; cases h2
  | .raw ds, _, h => by
    unfold Rep at h ⊢
    obtain ⟨a, vs, h1, h2, h3⟩ := h
    exact ⟨a, vs, h1, h2, Reps.plus n h3⟩
  | .dic ks ws, _, h => by
    unfold Rep at h ⊢
    obtain ⟨a, kvs, h1, m, h2, h3, h4⟩ := h
    refine ⟨a, kvs, h1, fun z => z.elim m fun z => ?_, h2, h3, Reps.plus n h4⟩
    subst z; rw [n] at h2; cases h2
  | .obj c ds, _, h => by
    unfold Rep at h ⊢
    obtain ⟨a, dx, vs, h1, m, h2, h3, h4⟩ := h
    refine ⟨a, dx, vs, h1, fun z => z.elim m fun z => ?_, h2, h3, Reps.plus n h4⟩
    subst z; rw [n] at h2; cases h2
theorem Reps.plus {p : Addr} (n : H p = none) : ∀ {ds : List D} {vs : List V}, Reps S F H ds vs → Reps S (fun b => F b ∨ b = p) H ds vs
  | [], _, h => h
  | d :: ds, _, h => by
    unfold Reps at h ⊢
    obtain ⟨v, r, h1, h2, h3⟩ := h
    exact ⟨v, r, h1, Rep.plus n h2, Reps.plus n h3⟩
end
/- an object of F is written -/
mutual
theorem Rep.upd {p : Addr} {o u : HO} (fp : F p) (hp : H p = some u) (nt : ∀ xs, u ≠ .tup xs) (nf : ∀ o xs, u ≠ .frz o xs) : ∀ {d : D} {v : V}, Rep S F H d v → Rep S F (L2.upd H p o) d v
  | .non, _, h => h
  | .bl _, _, h => h
  | .int _, _, h => h
  | .str _, _, h => h
  | .tup ds, _, h => by
    unfold Rep at h ⊢
    obtain ⟨a, vs, h1, h2, h3⟩ := h
    refine ⟨a, vs, h1, (upd_ne ?_).trans h2, Reps.upd fp hp nt nf h3⟩
    rintro rfl; rw [hp] at h2; exact nt _ (Option.some.inj h2)
  | .lst ds, _, h => by
    unfold Rep at h ⊢
    obtain ⟨a, vs, h1, m, h2, h3⟩ := h
    have ne : a ≠ p := fun z => m (z ▸ fp)
    refine ⟨a, vs, h1, m, ?_, Reps.upd fp hp nt nf h3⟩
    rcases h2 with h2 | ⟨o, h2⟩
    · exact .inl ((upd_ne ne).trans h2)
    · exact .inr ⟨o, (upd_ne ne).trans h2⟩
  | .raw ds, _, h => by
    unfold Rep at h ⊢
    obtain ⟨a, vs, h1, h2, h3⟩ := h
    refine ⟨a, vs, h1, ?_, Reps.upd fp hp nt nf h3⟩
    rcases h2 with ⟨o, h2⟩ | ⟨_, h2⟩
    · refine .inl ⟨o, (upd_ne ?_).trans h2⟩
      rintro rfl; rw [hp] at h2; exact nf _ _ (Option.some.inj h2)
    · exact .inr ⟨.inr h2, h2⟩
  | .dic ks ws, _, h => by
    unfold Rep at h ⊢
    obtain ⟨a, kvs, h1, m, h2, h3, h4⟩ := h
    exact ⟨a, kvs, h1, m, (upd_ne (fun z => m (by rw [z]; exact fp))).trans h2, h3, Reps.upd fp hp nt nf h4⟩
  | .obj c ds, _, h => by
    unfold Rep at h ⊢
    obtain ⟨a, dx, vs, h1, m, h2, h3, h4⟩ := h
    exact ⟨a, dx, vs, h1, m, (upd_ne (fun z => m (by rw [z]; exact fp))).trans h2, h3, Reps.upd fp hp nt nf h4⟩
theorem Reps.upd {p : Addr} {o u : HO} (fp : F p) (hp : H p = some u) (nt : ∀ xs, u ≠ .tup xs) (nf : ∀ o xs, u ≠ .frz o xs) : ∀ {ds : List D} {vs : List V}, Reps S F H ds vs → Reps S F (L2.upd H p o) ds vs
  | [], _, h => h
  | d :: ds, _, h => by
    unfold Reps at h ⊢
    obtain ⟨v, r, h1, h2, h3⟩ := h
    exact ⟨v, r, h1, Rep.upd fp hp nt nf h2, Reps.upd fp hp nt nf h3⟩
end
theorem Reps.nil : Reps S F H [] [] := by unfold Reps; rfl
theorem Reps.cons {d : D} {ds : List D} {v : V} {vs : List V} (h : Rep S F H d v) (t : Reps S F H ds vs) : Reps S F H (d :: ds) (v :: vs) := by
  unfold Reps; exact ⟨v, vs, rfl, h, t⟩
theorem Reps.nil_inv {vs : List V} (h : Reps S F H [] vs) : vs = [] := by unfold Reps at h; exact h
theorem Reps.cons_inv {d : D} {ds : List D} {vs : List V} (h : Reps S F H (d :: ds) vs) : ∃ v r, vs = v :: r ∧ Rep S F H d v ∧ Reps S F H ds r := by unfold Reps at h; exact h
theorem Reps.length : ∀ {ds : List D} {vs : List V}, Reps S F H ds vs → vs.length = ds.length
  | [], vs, h => by cases h.nil_inv; rfl
  | d :: ds, vs, h => by
    obtain ⟨v, r, rfl, _, t⟩ := h.cons_inv
    simp [Reps.length t]
theorem Reps.get : ∀ {ds : List D} {vs : List V} {i : Nat} {d : D}, Reps S F H ds vs → ds[i]? = some d → ∃ v, vs[i]? = some v ∧ Rep S F H d v
  | [], _, i, d, _, e => by simp at e
  | x :: ds, vs, i, d, h, e => by
    obtain ⟨v, r, rfl, h1, t⟩ := h.cons_inv
    cases i with
    | zero => simp at e; subst e; exact ⟨v, rfl, h1⟩
    | succ i => simpa using Reps.get (i := i) t (by simpa using e)
theorem Reps.get' {ds : List D} {vs : List V} {i : Nat} {v : V} (h : Reps S F H ds vs) (e : vs[i]? = some v) : ∃ d, ds[i]? = some d ∧ Rep S F H d v := by
  have hl : i < ds.length := by rw [← h.length]; exact (List.getElem?_eq_some_iff.mp e).1
  obtain ⟨v', e', r⟩ := h.get (List.getElem?_eq_getElem hl)
  rw [e] at e'; cases e'
  exact ⟨_, List.getElem?_eq_getElem hl, r⟩
theorem Reps.append : ∀ {ds es : List D} {vs us : List V}, Reps S F H ds vs → Reps S F H es us → Reps S F H (ds ++ es) (vs ++ us)
  | [], _, _, _, h, k => by cases h.nil_inv; exact k
  | d :: ds, _, _, _, h, k => by
    obtain ⟨v, r, rfl, h1, t⟩ := h.cons_inv
    exact Reps.cons h1 (Reps.append t k)
theorem Reps.take : ∀ {ds : List D} {vs : List V} (n : Nat), Reps S F H ds vs → Reps S F H (ds.take n) (vs.take n)
  | _, _, 0, _ => by simpa using Reps.nil
  | [], _, n + 1, h => by cases h.nil_inv; exact Reps.nil
  | d :: ds, _, n + 1, h => by
    obtain ⟨v, r, rfl, h1, t⟩ := h.cons_inv
    exact Reps.cons h1 (Reps.take n t)
theorem Reps.drop : ∀ {ds : List D} {vs : List V} (n : Nat), Reps S F H ds vs → Reps S F H (ds.drop n) (vs.drop n)
  | _, _, 0, h => h
  | [], _, n + 1, h => by cases h.nil_inv; exact Reps.nil
  | d :: ds, _, n + 1, h => by
    obtain ⟨v, r, rfl, h1, t⟩ := h.cons_inv
    exact Reps.drop n t
theorem Reps.rev : ∀ {ds : List D} {vs : List V}, Reps S F H ds vs → Reps S F H ds.reverse vs.reverse
  | [], _, h => by cases h.nil_inv; exact Reps.nil
  | d :: ds, _, h => by
    obtain ⟨v, r, rfl, h1, t⟩ := h.cons_inv
    rw [List.reverse_cons, List.reverse_cons]
    exact (Reps.rev t).append (Reps.cons h1 Reps.nil)
theorem Reps.of_get {ds : List D} {vs : List V} (hl : vs.length = ds.length) (h : ∀ (i : Nat) d v, ds[i]? = some d → vs[i]? = some v → Rep S F H d v) : Reps S F H ds vs := by
  induction ds generalizing vs with
  | nil => cases vs with
    | nil => exact Reps.nil
    | cons _ _ => simp at hl
  | cons d ds ih => cases vs with
    | nil => simp at hl
    | cons v vs => exact Reps.cons (h 0 d v rfl rfl) (ih (by simpa using hl) fun i d' v' e1 e2 => h (i + 1) d' v' (by simpa using e1) (by simpa using e2))
theorem Reps.replicate {d : D} {v : V} (h : Rep S F H d v) : ∀ n, Reps S F H (List.replicate n d) (List.replicate n v)
  | 0 => Reps.nil
  | n + 1 => Reps.cons h (Reps.replicate h n)
end

/-! ### modes of an answer: it may be kept (esc), it is new (fr), it is only looked at (bor) -/
inductive Md | esc | fr | bor
section
variable (S : Stat) (F : Addr → Prop)
/-- .. but for its own place -/
def RepT (H : Hp) : D → V → Prop
  | .lst ds, v => ∃ a vs, v = .ref a ∧ Rd H a (.lst vs) ∧ Reps S F H ds vs
  | .dic ks ws, v => ∃ a kvs, v = .ref a ∧ H a = some (.dT kvs) ∧ ks = kvs.map (fun p => keyD p.1) ∧ Reps S F H ws (kvs.map (·.2))
  | .obj c ds, v => ∃ a dx vs, v = .ref a ∧ H a = some (.ins (S.cA c) dx ((S.fN c).zip vs)) ∧ vs.length = (S.fN c).length ∧ Reps S F H ds vs
  | d, v => Rep S F H d v
/-- a list or dict made since H0 -/
def RepF (H0 H : Hp) : D → V → Prop
  | .lst ds, v => ∃ a vs, v = .ref a ∧ H0 a = none ∧ H a = some (.lst vs) ∧ Reps S (fun b => F b ∨ b = a) H ds vs
  | .dic ks ws, v => ∃ a kvs, v = .ref a ∧ H0 a = none ∧ H a = some (.dT kvs) ∧ ks = kvs.map (fun p => keyD p.1) ∧ Reps S (fun b => F b ∨ b = a) H ws (kvs.map (·.2))
  | d, v => Rep S F H d v
def RepM (md : Md) (H0 H : Hp) (d : D) (v : V) : Prop := match md with
  | .esc => Rep S F H d v
  | .fr => RepF S F H0 H d v
  | .bor => RepT S F H d v
end
section
variable {S : Stat} {F : Addr → Prop} {H0 H H' : Hp} {d : D} {v : V}
theorem Rep.toT (h : Rep S F H d v) : RepT S F H d v := by
  cases d <;> first | exact h | skip
  · unfold Rep at h; obtain ⟨a, vs, h1, _, h2, h3⟩ := h; exact ⟨a, vs, h1, h2, h3⟩
  · unfold Rep at h; obtain ⟨a, vs, h1, _, h2, h3, h4⟩ := h; exact ⟨a, vs, h1, h2, h3, h4⟩
  · unfold Rep at h; obtain ⟨a, dx, vs, h1, _, h2, h3, h4⟩ := h; exact ⟨a, dx, vs, h1, h2, h3, h4⟩
theorem RepT.ext (e : Ext H H') (h : RepT S F H d v) : RepT S F H' d v := by
  cases d <;> first | exact Rep.ext e h | skip
  · obtain ⟨a, vs, h1, h2, h3⟩ := h; exact ⟨a, vs, h1, Rd.ext h2 e, Reps.ext e h3⟩
  · obtain ⟨a, vs, h1, h2, h3, h4⟩ := h; exact ⟨a, vs, h1, e.to _ _ h2 (fun _ z => nomatch z), h3, Reps.ext e h4⟩
  · obtain ⟨a, dx, vs, h1, h2, h3, h4⟩ := h; exact ⟨a, dx, vs, h1, e.to _ _ h2 (fun _ z => nomatch z), h3, Reps.ext e h4⟩
theorem RepF.toE (fd : ∀ a, F a → H0 a ≠ none) (h : RepF S F H0 H d v) : Rep S F H d v := by
  cases d <;> first | exact h | skip
  · obtain ⟨a, vs, h1, n, h2, h3⟩ := h
    unfold Rep
    exact ⟨a, vs, h1, fun z => fd a z n, .inl h2, Reps.anti (fun _ z => .inl z) h3⟩
  · obtain ⟨a, vs, h1, n, h2, h3, h4⟩ := h
    unfold Rep
    exact ⟨a, vs, h1, fun z => fd a z n, h2, h3, Reps.anti (fun _ z => .inl z) h4⟩
theorem RepF.base {H1 : Hp} (e : Ext H0 H1) (h : RepF S F H1 H d v) : RepF S F H0 H d v := by
  cases d <;> first | exact h | skip
  · obtain ⟨a, vs, h1, n, h2⟩ := h; exact ⟨a, vs, h1, e.none n, h2⟩
  · obtain ⟨a, vs, h1, n, h2⟩ := h; exact ⟨a, vs, h1, e.none n, h2⟩
theorem RepM.base {H1 : Hp} {md : Md} (e : Ext H0 H1) (h : RepM S F md H1 H d v) : RepM S F md H0 H d v := by
  cases md
  · exact h
  · exact RepF.base e h
  · exact h
/-- a value with no place of its own -/
def D.flat : D → Bool
  | .lst _ | .dic _ _ | .obj _ _ => false
  | _ => true
theorem RepM.of_flat {md : Md} (hf : d.flat = true) (h : Rep S F H d v) : RepM S F md H0 H d v := by
  cases md
  · exact h
  · cases d <;> first | exact h | exact absurd hf Bool.false_ne_true
  · exact h.toT
theorem RepM.toT {md : Md} (fd : ∀ a, F a → H0 a ≠ none) (h : RepM S F md H0 H d v) : RepT S F H d v := by
  cases md
  · exact Rep.toT h
  · exact Rep.toT (RepF.toE fd h)
  · exact h
theorem RepT.flat (hf : d.flat = true) (h : RepT S F H d v) : Rep S F H d v := by
  cases d <;> first | exact h | exact absurd hf Bool.false_ne_true
end

/-! ### environments: what stands in each slot -/
inductive Sl | un | pl (d : D) | ow (d : D) | mk (d : D)
abbrev En := List Sl
def Sl.val : Sl → Option D
  | .un => none
  | .pl d => some d
  | .ow d => some d
  | .mk _ => none
/-- owned: a list or dict, or an instance that is being made -/
def Sl.own : Sl → Option D
  | .ow d => some d
  | .mk d => some d
  | _ => none
def En.sl (ρ : En) (i : Nat) : Sl := ρ.getD i .un
def Gd (S : Stat) (H : Hp) : Prop := (∀ P ∈ S.tG, GxR.TabG H P) ∧ LamX.Tabs S.tL H
structure EnvE (S : Stat) (F : Addr → Prop) (ρ : En) (σ : L2.St) (H : Hp) (es : List Nat) : Prop where
  len : ρ.length ≤ σ.length
  gd : Gd S H
  fd : ∀ a, F a → H a ≠ none
  tt : ∀ i d, (ρ.sl i).val = some d → ∃ v, σ[i]? = some (some v) ∧ RepT S F H d v
  ee : ∀ i ∈ es, ∀ d, (ρ.sl i).val = some d → ∃ v, σ[i]? = some (some v) ∧ Rep S F H d v
theorem EnvE.ext {S : Stat} {F : Addr → Prop} {ρ : En} {σ : L2.St} {H H' : Hp} {es : List Nat} (x : EnvE S F ρ σ H es) (e : Ext H H') (g : Gd S H') : EnvE S F ρ σ H' es :=
  ⟨x.len, g, fun a z => e.some (x.fd a z), fun i d h => by obtain ⟨v, h1, h2⟩ := x.tt i d h; exact ⟨v, h1, h2.ext e⟩, fun i hi d h => by obtain ⟨v, h1, h2⟩ := x.ee i hi d h; exact ⟨v, h1, h2.ext e⟩⟩
theorem EnvE.sub {S : Stat} {F : Addr → Prop} {ρ : En} {σ : L2.St} {H : Hp} {es es' : List Nat} (x : EnvE S F ρ σ H es) (h : ∀ i ∈ es', i ∈ es) : EnvE S F ρ σ H es' :=
  ⟨x.len, x.gd, x.fd, x.tt, fun i hi => x.ee i (h i hi)⟩

/-- what is wanted of an answer r -/
def Post (S : Stat) (W : WX) (F : Addr → Prop) (md : Md) (σ : L2.St) (H : Hp) (r : Res D) (Q : VK) : Prop := match r with
  | .ok d => ∀ v H', Ext H H' → Gd S H' → RepM S F md H H' d v → Q v H'
  | .exc c => ∀ H', Ext H H' → Gd S H' → W (.ref (S.eA c)) none σ H'
  | .bad => False
theorem Post.ext {S : Stat} {W : WX} {F : Addr → Prop} {md : Md} {σ : L2.St} {H H1 : Hp} {r : Res D} {Q : VK} (h : Post S W F md σ H r Q) (e : Ext H H1) : Post S W F md σ H1 r Q := by
  cases r with
  | ok d => exact fun v H' e' g m => h v H' (e.trans e') g (m.base e)
  | exc c => exact fun H' e' g => h H' (e.trans e') g
  | bad => exact h
/-- the reading of an expression by a function of the environment -/
def tM (S : Stat) (W : WX) (md : Md) (f : En → Res D) (es : List Nat) : TE := fun σ H Q => ∃ ρ F, EnvE S F ρ σ H es ∧ Post S W F md σ H (f ρ) Q
def PM (S : Stat) (W : WX) (md : Md) (X : Cx) (e : Expr) (f : En → Res D) (es : List Nat) : Prop := PE X e (tM S W md f es)
/-- .. of a test -/
def PostB (S : Stat) (W : WX) (σ : L2.St) (H : Hp) (r : Res Bool) (Q : Bool → Hp → Prop) : Prop := match r with
  | .ok b => ∀ H', Ext H H' → Gd S H' → Q b H'
  | .exc c => ∀ H', Ext H H' → Gd S H' → W (.ref (S.eA c)) none σ H'
  | .bad => False
def tT (S : Stat) (W : WX) (f : En → Res Bool) (es : List Nat) : TT := fun σ H Q => ∃ ρ F, EnvE S F ρ σ H es ∧ PostB S W σ H (f ρ) Q
def PMT (S : Stat) (W : WX) (X : Cx) (e : Expr) (f : En → Res Bool) (es : List Nat) : Prop := PT X e (tT S W f es)
/-- .. of an argument list -/
def RepsT (S : Stat) (F : Addr → Prop) (H : Hp) : List D → List V → Prop
  | [], vs => vs = []
  | d :: ds, vs => ∃ v r, vs = v :: r ∧ RepT S F H d v ∧ RepsT S F H ds r
def RepsM (S : Stat) (F : Addr → Prop) (md : Md) (H : Hp) (ds : List D) (vs : List V) : Prop := match md with
  | .bor => RepsT S F H ds vs
  | _ => Reps S F H ds vs
theorem RepsT.ext {S : Stat} {F : Addr → Prop} {H H' : Hp} (e : Ext H H') : ∀ {ds : List D} {vs : List V}, RepsT S F H ds vs → RepsT S F H' ds vs
  | [], _, h => h
  | _ :: _, _, ⟨v, r, h1, h2, h3⟩ => ⟨v, r, h1, h2.ext e, RepsT.ext e h3⟩
def PostL (S : Stat) (W : WX) (F : Addr → Prop) (md : Md) (σ : L2.St) (H : Hp) (r : Res (List D)) (Q : List V → Hp → Prop) : Prop := match r with
  | .ok ds => ∀ vs H', Ext H H' → Gd S H' → RepsM S F md H' ds vs → Q vs H'
  | .exc c => ∀ H', Ext H H' → Gd S H' → W (.ref (S.eA c)) none σ H'
  | .bad => False
def tL (S : Stat) (W : WX) (md : Md) (f : En → Res (List D)) (es : List Nat) : TA := fun σ H Q => ∃ ρ F, EnvE S F ρ σ H es ∧ PostL S W F md σ H (f ρ) Q
def PML (S : Stat) (W : WX) (md : Md) (X : Cx) (es : List Expr) (f : En → Res (List D)) (ix : List Nat) : Prop := PA X es (tL S W md f ix)

section
variable {S : Stat} {W : WX} {F : Addr → Prop} {md : Md} {σ : L2.St} {H : Hp} {ρ : En} {es : List Nat} {X : Cx} {e : Expr} {f : En → Res D}
theorem PM.weak {es' : List Nat} (h : PM S W md X e f es) (hs : ∀ i ∈ es, i ∈ es') : PM S W md X e f es' :=
  ⟨fun pins s σ H Q I ⟨ρ, F, E, p⟩ => h.run pins s σ H Q I ⟨ρ, F, E.sub hs, p⟩⟩
theorem PM.eq {g : En → Res D} (h : PM S W md X e f es) (q : ∀ ρ, f ρ = g ρ) : PM S W md X e g es := by
  have : f = g := funext q
  rw [← this]; exact h
theorem PM.toE (h : PM S W .fr X e f es) : PM S W .esc X e f es := ⟨fun pins s σ H Q I ⟨ρ, F, E, p⟩ => h.run pins s σ H Q I ⟨ρ, F, E, by
  cases q : f ρ with
  | ok d => rw [q] at p; exact fun v H' e g m => p v H' e g (RepF.toE E.fd m)
  | exc c => rw [q] at p; exact p
  | bad => rw [q] at p; exact p⟩⟩
theorem PM.toB (h : PM S W .esc X e f es) : PM S W .bor X e f es := ⟨fun pins s σ H Q I ⟨ρ, F, E, p⟩ => h.run pins s σ H Q I ⟨ρ, F, E, by
  cases q : f ρ with
  | ok d => rw [q] at p; exact fun v H' e g m => p v H' e g (Rep.toT m)
  | exc c => rw [q] at p; exact p
  | bad => rw [q] at p; exact p⟩⟩
/-- one step: the answer of a part goes on into k -/
theorem tM_bind {fa : En → Res D} {k : D → Res D} {md' : Md} {R Q : VK} (E : EnvE S F ρ σ H es) (h : Post S W F md σ H ((fa ρ).bind k) Q)
    (c : ∀ d v H1, Ext H H1 → EnvE S F ρ σ H1 es → RepM S F md' H H1 d v → fa ρ = .ok d → Post S W F md σ H1 (k d) Q → R v H1) {es' : List Nat} (hs : ∀ i ∈ es', i ∈ es := by simp) : tM S W md' fa es' σ H R := by
  refine ⟨ρ, F, E.sub hs, ?_⟩
  cases q : fa ρ with
  | ok d => rw [q] at h; exact fun v H1 e g m => c d v H1 e (E.ext e g) m q (Post.ext h e)
  | exc x => rw [q] at h; exact h
  | bad => rw [q] at h; exact h
end
end PD
/-! The pure layer: expressions. -/
namespace PD
open PySem PySem.Spec PyProof.Rows L2
section
variable {S : Stat} {W : WX} {X : Cx}

/-! ### names and constants -/
def vr (i : Nat) : En → Res D := fun ρ => match (ρ.sl i).val with
  | some d => .ok d
  | none => .bad
theorem pm_varB {i : Nat} {x : Str} {pos : Pos} (hN : X.N[i]? = some x) (hv : Vis X.env.scope x) (hd : (x == ("__debug__" : Str)) = false) (hcd : (x == ("__classdict__" : Str)) = false) : PM S W .bor X (.Name x pos) (vr i) [] :=
  ⟨fun pins s σ H Q I ⟨ρ, F, E, h⟩ => (pe_var hN hv hd hcd).run pins s σ H Q I (by
    unfold vr at h
    cases q : (ρ.sl i).val with
    | none => rw [q] at h; exact h.elim
    | some d =>
      rw [q] at h
      obtain ⟨v, h1, h2⟩ := E.tt i d q
      exact ⟨v, h1, h v H (Ext.refl H) E.gd h2⟩)⟩
theorem pm_var {i : Nat} {x : Str} {pos : Pos} (hN : X.N[i]? = some x) (hv : Vis X.env.scope x) (hd : (x == ("__debug__" : Str)) = false) (hcd : (x == ("__classdict__" : Str)) = false) : PM S W .esc X (.Name x pos) (vr i) [i] :=
  ⟨fun pins s σ H Q I ⟨ρ, F, E, h⟩ => (pe_var hN hv hd hcd).run pins s σ H Q I (by
    unfold vr at h
    cases q : (ρ.sl i).val with
    | none => rw [q] at h; exact h.elim
    | some d =>
      rw [q] at h
      obtain ⟨v, h1, h2⟩ := E.ee i (by simp) d q
      exact ⟨v, h1, h v H (Ext.refl H) E.gd h2⟩)⟩
/-- a part that leaves the heap as it is -/
theorem pm_const {md : Md} {e : Expr} {v : V} {d : D} {es : List Nat} (he : PE X e (tC v)) (hf : d.flat = true) (hr : ∀ F H, Rep S F H d v) : PM S W md X e (fun _ => .ok d) es :=
  ⟨fun pins s σ H Q I ⟨ρ, F, E, h⟩ => he.run pins s σ H Q I (h v H (Ext.refl H) E.gd (RepM.of_flat hf (hr F H)))⟩
theorem pm_int {md : Md} {i j pos} : PM S W md X (.Constant (.int i) j pos) (fun _ => .ok (.int i)) [] := pm_const pe_int rfl fun _ _ => by unfold Rep; rfl
theorem pm_bl {md : Md} {b j pos} : PM S W md X (.Constant (.bool b) j pos) (fun _ => .ok (.bl b)) [] := pm_const pe_bl rfl fun _ _ => by unfold Rep; rfl
theorem pm_non {md : Md} {j pos} : PM S W md X (.Constant .none j pos) (fun _ => .ok .non) [] := pm_const pe_non rfl fun _ _ => by unfold Rep; rfl
theorem pm_str {md : Md} {x j pos} (h : PyData.strOk x = true) : PM S W md X (.Constant (.str x) j pos) (fun _ => .ok (.str x)) [] := pm_const pe_str rfl fun _ _ => by unfold Rep; exact ⟨rfl, h⟩
theorem pm_gint {md : Md} {x : Str} {i : Int} {t : Tok} {pos : Pos} (hg : Gl X x) (hm : X.mg x = some (.int i t)) (hd : (x == ("__debug__" : Str)) = false) : PM S W md X (.Name x pos) (fun _ => .ok (.int i)) [] :=
  pm_const (pe_glob (v := .int i) hg hm ⟨t, rfl⟩ hd) rfl fun _ _ => by unfold Rep; rfl
theorem pm_gstr {md : Md} {x y : Str} {t : Tok} {pos : Pos} (hg : Gl X x) (hm : X.mg x = some (.str y t)) (hy : PyData.strOk y = true) (hd : (x == ("__debug__" : Str)) = false) : PM S W md X (.Name x pos) (fun _ => .ok (.str y)) [] :=
  pm_const (pe_glob (v := .str y) hg hm ⟨t, rfl⟩ hd) rfl fun _ _ => by unfold Rep; exact ⟨rfl, hy⟩

/-! ### operators -/
variable {md : Md} {a b c : Expr} {fa fb fc : En → Res D} {ea eb ec : List Nat} {pos : Pos}
def bnd2 (fa fb : En → Res D) (k : D → D → Res D) : En → Res D := fun ρ => (fa ρ).bind fun x => (fb ρ).bind fun y => k x y
/-- two parts that are looked at, then r -/
theorem tM_two {σ : L2.St} {H : Hp} {Q : VK} {ρ : En} {F : Addr → Prop} {r : R2} {k : D → D → Res D} (E : EnvE S F ρ σ H (ea ++ eb)) (h : Post S W F md σ H (bnd2 fa fb k ρ) Q)
    (hk : ∀ H x y dx dy, EnvE S F ρ σ H (ea ++ eb) → RepT S F H dx x → RepT S F H dy y → Post S W F md σ H (k dx dy) Q → r x y H Q) : tOp r (tM S W .bor fa ea) (tM S W .bor fb eb) σ H Q :=
  tM_bind (md' := .bor) E h (fun dx x H1 e1 E1 r1 _ h1 => tM_bind (md' := .bor) E1 h1 (fun dy y H2 e2 E2 r2 _ h2 => hk H2 x y dx dy E2 (RepT.ext e2 r1) r2 h2) fun i hi => List.mem_append_right _ hi) fun i hi => List.mem_append_left _ hi
theorem pm_bin {op : Operator} {r : R2} {k : D → D → Res D} (ho : OpR X (binaryOp op) r) (ha : PM S W .bor X a fa ea) (hb : PM S W .bor X b fb eb)
    (hk : ∀ F σ H x y dx dy Q, Gd S H → (∀ a, F a → H a ≠ none) → RepT S F H dx x → RepT S F H dy y → Post S W F md σ H (k dx dy) Q → r x y H Q) : PM S W md X (.BinOp a op b pos) (bnd2 fa fb k) (ea ++ eb) :=
  ⟨fun pins s σ H Q I ⟨ρ, F, E, h⟩ => (pe_op ho ha hb).run pins s σ H Q I (tM_two E h fun H x y dx dy E r1 r2 h => hk F σ H x y dx dy Q E.gd E.fd r1 r2 h)⟩
theorem pm_cmp {op : CmpOp} {r : R2} {k : D → D → Res D} (ho : OpR X (compareOp op) r) (ha : PM S W .bor X a fa ea) (hb : PM S W .bor X b fb eb) (hm : behindInMarks op b = false)
    (hk : ∀ F σ H x y dx dy Q, Gd S H → (∀ a, F a → H a ≠ none) → RepT S F H dx x → RepT S F H dy y → Post S W F md σ H (k dx dy) Q → r x y H Q) : PM S W md X (.Compare a [op] [b] pos) (bnd2 fa fb k) (ea ++ eb) :=
  ⟨fun pins s σ H Q I ⟨ρ, F, E, h⟩ => (pe_cmpR ho ha hb hm).run pins s σ H Q I (tM_two E h fun H x y dx dy E r1 r2 h => hk F σ H x y dx dy Q E.gd E.fd r1 r2 h)⟩
/-- an answer that is flat and takes no new place -/
theorem Post.flat {F : Addr → Prop} {σ : L2.St} {H : Hp} {Q : VK} {d : D} {v : V} (g : Gd S H) (hf : d.flat = true) (hr : Rep S F H d v) (h : Post S W F md σ H (.ok d) Q) : Q v H := h v H (Ext.refl H) g (RepM.of_flat hf hr)
theorem Post.int {F : Addr → Prop} {σ : L2.St} {H : Hp} {Q : VK} {i : Int} (g : Gd S H) (h : Post S W F md σ H (.ok (.int i)) Q) : Q (.int i) H := h.flat g rfl (by unfold Rep; rfl)
theorem Post.bl {F : Addr → Prop} {σ : L2.St} {H : Hp} {Q : VK} {i : Bool} (g : Gd S H) (h : Post S W F md σ H (.ok (.bl i)) Q) : Q (.bl i) H := h.flat g rfl (by unfold Rep; rfl)
theorem RepT.int {F : Addr → Prop} {H : Hp} {i : Int} {v : V} (h : RepT S F H (.int i) v) : v = .int i := by unfold RepT Rep at h; exact h
theorem RepT.bl {F : Addr → Prop} {H : Hp} {i : Bool} {v : V} (h : RepT S F H (.bl i) v) : v = .bl i := by unfold RepT Rep at h; exact h
theorem RepT.non {F : Addr → Prop} {H : Hp} {v : V} (h : RepT S F H .non v) : v = .non := by unfold RepT Rep at h; exact h
theorem RepT.str {F : Addr → Prop} {H : Hp} {x : Str} {v : V} (h : RepT S F H (.str x) v) : v = .str x := by unfold RepT Rep at h; exact h.1
theorem RepT.tup {F : Addr → Prop} {H : Hp} {ds : List D} {v : V} (h : RepT S F H (.tup ds) v) : ∃ a vs, v = .ref a ∧ H a = some (.tup vs) ∧ Reps S F H ds vs := by unfold RepT Rep at h; exact h
theorem Rep.mk_int {F : Addr → Prop} {H : Hp} {i : Int} : Rep S F H (.int i) (.int i) := by unfold Rep; rfl
theorem Rep.mk_bl {F : Addr → Prop} {H : Hp} {i : Bool} : Rep S F H (.bl i) (.bl i) := by unfold Rep; rfl
theorem Rep.mk_non {F : Addr → Prop} {H : Hp} : Rep S F H .non .non := by unfold Rep; rfl
theorem Rep.mk_tup {F : Addr → Prop} {H : Hp} {ds : List D} {a : Addr} {vs : List V} (h : H a = some (.tup vs)) (k : Reps S F H ds vs) : Rep S F H (.tup ds) (.ref a) := by unfold Rep; exact ⟨a, vs, rfl, h, k⟩
/-- a new tuple -/
theorem Post.tup {F : Addr → Prop} {σ : L2.St} {H : Hp} {Q : VK} {ds : List D} {vs : List V} {p : Addr} (g : ∀ H', Ext H H' → (∀ b, b ≠ p → H' b = H b) → Gd S H') (n : H p = none) (k : Reps S F H ds vs) (h : Post S W F md σ H (.ok (.tup ds)) Q) : Q (.ref p) (upd H p (.tup vs)) :=
  h _ _ (Ext.upd n) (g _ (Ext.upd n) fun b hb => upd_ne hb) (RepM.of_flat rfl (Rep.mk_tup upd_same (Reps.ext (Ext.upd n) k)))
theorem Gd.upd {H : Hp} {p : Addr} {o : HO} (g : Gd S H) (n : H p = none) : Gd S (upd H p o) := by
  refine ⟨fun P hP => ?_, fun q hq => ?_⟩
  · obtain ⟨ps, h1, h2⟩ := g.1 P hP
    exact ⟨ps, by rw [upd_ne (ne_of_none h1 n)]; exact h1, h2⟩
  · exact (g.2 q hq).ext fun b o e => by rw [upd_ne (ne_of_none e n)]; exact e
theorem Post.newTup {F : Addr → Prop} {σ : L2.St} {H : Hp} {Q : VK} {ds : List D} {vs : List V} {p : Addr} (g : Gd S H) (n : H p = none) (k : Reps S F H ds vs) (h : Post S W F md σ H (.ok (.tup ds)) Q) : Q (.ref p) (L2.upd H p (.tup vs)) :=
  h _ _ (Ext.upd n) (g.upd n) (RepM.of_flat rfl (Rep.mk_tup upd_same (Reps.ext (Ext.upd n) k)))

/-! ints -/
def addD : D → D → Res D
  | .int i, .int j => .ok (.int (i + j))
  | .tup xs, .tup ys => if xs.length + ys.length ≤ sizeLine then .ok (.tup (xs ++ ys)) else .bad
  | .str x, .str y => if x.length + y.length ≤ sizeLine then .ok (.str (x ++ y)) else .bad
  | _, _ => .bad
def subD : D → D → Res D
  | .int i, .int j => .ok (.int (i - j))
  | _, _ => .bad
def mulD : D → D → Res D
  | .int i, .int j => if ((-(2 ^ 64) < i ∧ i < 2 ^ 64) ∨ (-(2 ^ 64) < j ∧ j < 2 ^ 64)) then .ok (.int (i * j)) else .bad
  | .tup xs, .int j => if xs ≠ [] ∧ xs.length ≤ 1000 ∧ 1 ≤ j ∧ j ≤ 1000 then .ok (.tup (List.replicate j.toNat xs).flatten) else .bad
  | _, _ => .bad
def fdivD : D → D → Res D
  | .int i, .int j => if 0 < j ∧ j < 1073741824 then .ok (.int (i / j)) else .bad
  | _, _ => .bad
def modD : D → D → Res D
  | .int i, .int j => if 0 < j then .ok (.int (i % j)) else .bad
  | _, _ => .bad
def powD : D → D → Res D
  | .int i, .int j => if 0 ≤ j ∧ j ≤ 1000000 ∧ i.natAbs < 2 ^ 64 then .ok (.int (i ^ j.toNat)) else .bad
  | _, _ => .bad
end
end PD
/-! The pure layer: operators, comparisons, tests, displays. -/
namespace PD
open PySem PySem.Spec PyProof.Rows L2
section
variable {S : Stat} {W : WX} {X : Cx} {md : Md} {a b c : Expr} {fa fb fc : En → Res D} {ea eb ec : List Nat} {pos : Pos}
/-- a new list -/
theorem Post.newLst {F : Addr → Prop} {σ : L2.St} {H : Hp} {Q : VK} {ds : List D} {vs : List V} {p : Addr} (g : Gd S H) (fd : ∀ a, F a → H a ≠ none) (n : H p = none) (k : Reps S F H ds vs) (h : Post S W F md σ H (.ok (.lst ds)) Q) : Q (.ref p) (L2.upd H p (.lst vs)) := by
  have k' := Reps.ext (Ext.upd (o := .lst vs) n) (Reps.plus n k)
  have rf : RepF S F H (L2.upd H p (.lst vs)) (.lst ds) (.ref p) := ⟨p, vs, rfl, n, upd_same, k'⟩
  refine h _ _ (Ext.upd n) (g.upd n) ?_
  cases md
  · exact RepF.toE fd rf
  · exact rf
  · exact Rep.toT (RepF.toE fd rf)
theorem RepT.lst {F : Addr → Prop} {H : Hp} {ds : List D} {v : V} (h : RepT S F H (.lst ds) v) : ∃ a vs, v = .ref a ∧ Rd H a (.lst vs) ∧ Reps S F H ds vs := h
theorem RepT.raw {F : Addr → Prop} {H : Hp} {ds : List D} {v : V} (h : RepT S F H (.raw ds) v) : ∃ a vs, v = .ref a ∧ SqL S.K H a vs ∧ Reps S F H ds vs := by
  unfold RepT Rep at h; obtain ⟨a, vs, h1, h2, h3⟩ := h; exact ⟨a, vs, h1, h2.to, h3⟩
/-- list + list, read where they stand -/
def rCatR : R2 := fun x y H Q => ∃ l b xs zs, x = .ref l ∧ y = .ref b ∧ Rd H l (.lst xs) ∧ Rd H b (.lst zs) ∧ xs.length + zs.length ≤ sizeLine ∧ ∀ p, H p = none → Q (.ref p) (L2.upd H p (.lst (xs ++ zs)))
theorem Inv.lstR {X : Cx} {pins : List (Addr × Obj)} {σ : L2.St} {H : Hp} {s : Shared} {l : Addr} {xs : List V} (I : Inv X pins σ H s) (hH : Rd H l (.lst xs)) :
    ∃ (its : List Value) (n : Nat), Vals xs its ∧ xs.length = its.length ∧ s.heap.get? l = some { cls := .type "list", data := .seq its.toArray n } := by
  obtain ⟨z, its, n, r, e⟩ := hH.ok I.hok
  exact ⟨its, n, r, r.length, e⟩
theorem op_catR : OpR X (binaryOp .Add) rCatR := by
  intro pins s σ H x y v u Q I rx ry h
  obtain ⟨l, b, xs, zs, rfl, rfl, hH, hB, hz, q⟩ := h
  cases rx
  cases ry
  obtain ⟨its, n, r, hl, e⟩ := Inv.lstR I hH
  obtain ⟨its2, n2, r2, hl2, e2⟩ := Inv.lstR I hB
  refine PySem.P.add_list e e2 ?_ (by rw [List.size_toArray, List.size_toArray]; omega)
  have ea : its.toArray ++ its2.toArray = (its ++ its2).toArray := by simp
  rw [ea]
  exact ⟨.ref _, _, I.lnew (t' := s.toks) (r.append r2) (by rw [List.length_append]; omega), rfl, q _ I.fresh⟩
def plusD : D → D → Res D
  | .int i, .int j => .ok (.int (i + j))
  | .tup xs, .tup ys => if xs.length + ys.length ≤ sizeLine then .ok (.tup (xs ++ ys)) else .bad
  | .lst xs, .lst ys => if xs.length + ys.length ≤ sizeLine then .ok (.lst (xs ++ ys)) else .bad
  | .str x, .str y => if x.length + y.length ≤ sizeLine then .ok (.str (x ++ y)) else .bad
  | _, _ => .bad
theorem strOk_append {x y : Str} (h : PyData.strOk x = true) (k : PyData.strOk y = true) : PyData.strOk (x ++ y) = true := by
  unfold PyData.strOk at *
  rw [show (x ++ y).cps = x.cps ++ y.cps from rfl, Array.all_append, h, k]; rfl
theorem RepT.strOk {F : Addr → Prop} {H : Hp} {x : Str} {v : V} (h : RepT S F H (.str x) v) : PyData.strOk x = true := by unfold RepT Rep at h; exact h.2
theorem Rep.mk_str {F : Addr → Prop} {H : Hp} {x : Str} (h : PyData.strOk x = true) : Rep S F H (.str x) (.str x) := by unfold Rep; exact ⟨rfl, h⟩
theorem pm_add (hK : X.K = S.K) (ha : PM S W .bor X a fa ea) (hb : PM S W .bor X b fb eb) : PM S W md X (.BinOp a .Add b pos) (bnd2 fa fb plusD) (ea ++ eb) := by
  refine pm_bin (op_add.or (op_catA.or (op_catR.or op_add_str))) ha hb fun F σ H x y dx dy Q g fd rx ry h => ?_
  rw [hK]
  unfold plusD at h
  split at h
  · cases rx.int; cases ry.int
    exact .inl ⟨_, _, rfl, rfl, h.int g⟩
  · rename_i xs ys
    split at h
    · rename_i hl
      obtain ⟨p, vs, rfl, hp, kp⟩ := rx.tup
      obtain ⟨q, us, rfl, hq, kq⟩ := ry.tup
      refine .inr (.inl ⟨p, q, vs, us, rfl, rfl, SqT.of hp, SqT.of hq, by rw [kp.length, kq.length]; exact hl, fun e => ?_, fun _ e => ?_, fun _ _ r hr => ?_⟩)
      · have : xs = [] := List.eq_nil_of_length_eq_zero (by rw [← kp.length, e]; rfl)
        subst this
        exact h.flat g rfl (Rep.mk_tup hq kq)
      · have : ys = [] := List.eq_nil_of_length_eq_zero (by rw [← kq.length, e]; rfl)
        subst this
        rw [List.append_nil] at h
        exact h.flat g rfl (Rep.mk_tup hp kp)
      · exact h.newTup g hr (kp.append kq)
    · exact h.elim
  · split at h
    · rename_i hl
      obtain ⟨p, vs, rfl, hp, kp⟩ := rx.lst
      obtain ⟨q, us, rfl, hq, kq⟩ := ry.lst
      exact .inr (.inr (.inl ⟨p, q, vs, us, rfl, rfl, hp, hq, by rw [kp.length, kq.length]; exact hl, fun r hr => h.newLst g fd hr (kp.append kq)⟩))
    · exact h.elim
  · split at h
    · rename_i hl
      have ox := rx.strOk
      have oy := ry.strOk
      cases rx.str; cases ry.str
      exact .inr (.inr (.inr ⟨_, _, rfl, rfl, hl, h.flat g rfl (Rep.mk_str (strOk_append ox oy))⟩))
    · exact h.elim
  · exact h.elim
theorem pm_sub (ha : PM S W .bor X a fa ea) (hb : PM S W .bor X b fb eb) : PM S W md X (.BinOp a .Sub b pos) (bnd2 fa fb subD) (ea ++ eb) := by
  refine pm_bin op_sub ha hb fun F σ H x y dx dy Q g fd rx ry h => ?_
  unfold subD at h
  split at h
  · cases rx.int; cases ry.int
    exact ⟨_, _, rfl, rfl, h.int g⟩
  · exact h.elim
theorem Reps.flat_rep {F : Addr → Prop} {H : Hp} {ds : List D} {vs : List V} (h : Reps S F H ds vs) : ∀ n, Reps S F H (List.replicate n ds).flatten (List.replicate n vs).flatten
  | 0 => Reps.nil
  | n + 1 => by
    rw [List.replicate_succ, List.replicate_succ, List.flatten_cons, List.flatten_cons]
    exact h.append (Reps.flat_rep h n)
theorem tuple_mul1 (l : Addr) (items : Array Value) (n : Nat) (dd : Option Addr) (sl : Array (Option Value)) (u : Tok) :
    Meets (Builtin.«tuple.__mul__» ⟨[.ref l, .int 1 u], []⟩) (fun _ R s => s.heap.get? l = some { cls := .type "tuple", dict := dd, data := .seq items n, slots := sl } ∧
      R (.ok (.ret (Value.ref l))) s) :=
  .of_wp fun prog w A R s h => by
    obtain ⟨hp, g, d, tk, os⟩ := s
    obtain ⟨hl, h⟩ := h
    have f1 := AutoSeq1.idx_int
    wp_walk using wpAny_loadPart' hl
    exact ⟨_, rfl, h⟩
/-- tuple * 1: the tuple itself -/
def rRep1 (K : PySem.W.Frag) : R2 := fun x y H Q => ∃ l xs, x = .ref l ∧ y = .int 1 ∧ SqT K H l xs ∧ Q x H
theorem op_rep1 {X : Cx} : OpR X (binaryOp .Mult) (rRep1 X.K) := by
  intro pins s σ H x y v u Q I rx ry h
  obtain ⟨l, xs, rfl, rfl, hT, q⟩ := h
  cases rx
  obtain ⟨t, rfl⟩ := ry
  obtain ⟨its, r, ⟨⟨cls, dd, data, sl⟩, ho, hc, n, hd⟩, hs⟩ := I.tuple hT
  simp only at hc hd
  subst hc hd
  refine wpAny_binaryOp_repeat_ref (T := "tuple") (U := "int") (by decide) ⟨_, ho, rfl⟩ (fun s' => typeIs_int s' 1 t) noFill_tuple_mul PySem.F.fills_int_mul PySem.F.slot_int_rmul repeat_tuple PySem.F.slot_int_index.lookup
    (call_meets PySem.F.slot_int_rmul (typeIs_int s 1 t) PySem.F.entry_int_rmul (PySem.F.args_int_rmul_2 _ _) (int_rmul_tuple 1 t l its.toArray n dd sl)
      ⟨ho, rfl, ⟨_, ho, rfl⟩, call_meets PySem.F.slot_tuple_mul ⟨_, ho, rfl⟩ PySem.F.entry_tuple_mul (PySem.F.args_tuple_mul_2 _ _) (tuple_mul1 l its.toArray n dd sl t) ⟨ho, ?_⟩⟩)
  exact ⟨.ref l, _, I, rfl, q⟩
theorem pm_mul (hK : X.K = S.K) (ha : PM S W .bor X a fa ea) (hb : PM S W .bor X b fb eb) : PM S W md X (.BinOp a .Mult b pos) (bnd2 fa fb mulD) (ea ++ eb) := by
  refine pm_bin (op_mul.or (op_repT.or op_rep1)) ha hb fun F σ H x y dx dy Q g fd rx ry h => ?_
  rw [hK]
  unfold mulD at h
  split at h
  · split at h
    · rename_i hc
      cases rx.int; cases ry.int
      exact .inl ⟨_, _, rfl, rfl, hc, h.int g⟩
    · exact h.elim
  · split at h
    · rename_i ds j hc
      obtain ⟨p, vs, rfl, hp, kp⟩ := rx.tup
      cases ry.int
      rcases Int.lt_or_eq_of_le hc.2.2.1 with j2 | j1
      rotate_left
      · subst j1
        refine .inr (.inr ⟨p, vs, rfl, rfl, SqT.of hp, ?_⟩)
        rw [show (List.replicate (1 : Int).toNat ds).flatten = ds from List.append_nil _] at h
        exact h.flat g rfl (Rep.mk_tup hp kp)
      refine .inr (.inl ⟨p, _, vs, rfl, rfl, SqT.of hp, fun e => hc.1 (List.eq_nil_of_length_eq_zero (by rw [← kp.length, e]; rfl)), j2, hc.2.2.2, by rw [kp.length]; exact hc.2.1, fun r hr => h.newTup g hr (kp.flat_rep _)⟩)
    · exact h.elim
  · exact h.elim
theorem pm_fdiv (ha : PM S W .bor X a fa ea) (hb : PM S W .bor X b fb eb) : PM S W md X (.BinOp a .FloorDiv b pos) (bnd2 fa fb fdivD) (ea ++ eb) := by
  refine pm_bin op_fdiv ha hb fun F σ H x y dx dy Q g fd rx ry h => ?_
  unfold fdivD at h
  split at h
  · split at h
    · rename_i hc
      cases rx.int; cases ry.int
      exact ⟨_, _, rfl, rfl, hc, h.int g⟩
    · exact h.elim
  · exact h.elim
theorem pm_mod (ha : PM S W .bor X a fa ea) (hb : PM S W .bor X b fb eb) : PM S W md X (.BinOp a .Mod b pos) (bnd2 fa fb modD) (ea ++ eb) := by
  refine pm_bin op_mod ha hb fun F σ H x y dx dy Q g fd rx ry h => ?_
  unfold modD at h
  split at h
  · split at h
    · rename_i hc
      cases rx.int; cases ry.int
      exact ⟨_, _, rfl, rfl, hc, h.int g⟩
    · exact h.elim
  · exact h.elim
theorem pm_pow (ha : PM S W .bor X a fa ea) (hb : PM S W .bor X b fb eb) : PM S W md X (.BinOp a .Pow b pos) (bnd2 fa fb powD) (ea ++ eb) := by
  refine pm_bin op_pow ha hb fun F σ H x y dx dy Q g fd rx ry h => ?_
  unfold powD at h
  split at h
  · split at h
    · rename_i hc
      cases rx.int; cases ry.int
      exact ⟨_, _, rfl, rfl, hc, h.int g⟩
    · exact h.elim
  · exact h.elim
def negD : D → Res D
  | .int i => .ok (.int (-i))
  | _ => .bad
theorem pm_neg (ha : PM S W .bor X a fa ea) : PM S W md X (.UnaryOp .USub a pos) (fun ρ => (fa ρ).bind negD) ea :=
  ⟨fun pins s σ H Q I ⟨ρ, F, E, h⟩ => (pe_un un_neg ha).run pins s σ H Q I (tM_bind (md' := .bor) E h (fun dx x H1 e1 E1 r1 _ h1 => by
    cases dx with
    | int i =>
      have r1 : RepT S F H1 (.int i) x := r1
      cases r1.int
      exact ⟨_, rfl, h1.int E1.gd⟩
    | _ => exact h1.elim) fun i hi => hi)⟩

/-! ### == and != of data -/
mutual
def D.py : D → Option PyData
  | .non => some .none
  | .bl b => some (.bool b)
  | .int i => some (.int i)
  | .str x => some (.str x)
  | .tup ds => (D.pys ds).map .tuple
  | .lst ds => (D.pys ds).map .list
  | .raw _ | .dic _ _ | .obj _ _ => none
def D.pys : List D → Option (List PyData)
  | [] => some []
  | d :: ds => match D.py d, D.pys ds with
    | some p, some q => some (p :: q)
    | _, _ => none
end
theorem pys_cons {d : D} {ds : List D} {ps : List PyData} (h : D.pys (d :: ds) = some ps) : ∃ p q, ps = p :: q ∧ d.py = some p ∧ D.pys ds = some q := by
  unfold D.pys at h
  split at h
  · rename_i p q e1 e2
    cases h; exact ⟨p, q, rfl, e1, e2⟩
  · cases h
mutual
theorem Rep.dp {F : Addr → Prop} {H : Hp} : ∀ {d : D} {v : V} {p : PyData}, d.py = some p → Rep S F H d v → Dp S.K H v p ∧ p.canLay0 = true
  | .non, _, _, e, h => by unfold Rep at h; subst h; cases e; exact ⟨.non, rfl⟩
  | .bl b, _, _, e, h => by unfold Rep at h; subst h; cases e; exact ⟨.bl b, rfl⟩
  | .int i, _, _, e, h => by unfold Rep at h; subst h; cases e; exact ⟨.int i, rfl⟩
  | .str x, _, _, e, h => by unfold Rep at h; obtain ⟨rfl, o⟩ := h; cases e; exact ⟨.str x, by unfold PyData.canLay0; exact o⟩
  | .tup ds, _, p, e, h => by
    unfold Rep at h
    obtain ⟨a, vs, rfl, h2, h3⟩ := h
    unfold D.py at e
    cases q : D.pys ds with
    | none => rw [q] at e; cases e
    | some ps =>
      rw [q] at e; cases e
      obtain ⟨k1, k2⟩ := Reps.dp q h3
      exact ⟨.tup (SqT.of h2) k1, by unfold PyData.canLay0; exact k2⟩
  | .lst ds, _, p, e, h => by
    unfold Rep at h
    obtain ⟨a, vs, rfl, _, h2, h3⟩ := h
    unfold D.py at e
    cases q : D.pys ds with
    | none => rw [q] at e; cases e
    | some ps =>
      rw [q] at e; cases e
      obtain ⟨k1, k2⟩ := Reps.dp q h3
      exact ⟨.lst (.inl h2) k1, by unfold PyData.canLay0; exact k2⟩
  | .raw _, _, _, e, _ => by unfold D.py at e; cases e
  | .dic _ _, _, _, e, _ => by unfold D.py at e; cases e
  | .obj _ _, _, _, e, _ => by unfold D.py at e; cases e
theorem Reps.dp {F : Addr → Prop} {H : Hp} : ∀ {ds : List D} {vs : List V} {ps : List PyData}, D.pys ds = some ps → Reps S F H ds vs → DpAll S.K H vs ps ∧ PyData.canLayAll0 ps = true
  | [], vs, ps, e, h => by unfold D.pys at e; cases e; cases h.nil_inv; exact ⟨.nil, by unfold PyData.canLayAll0; rfl⟩
  | d :: ds, vs, ps, e, h => by
    obtain ⟨p, q, rfl, e1, e2⟩ := pys_cons e
    obtain ⟨v, r, rfl, h1, h2⟩ := h.cons_inv
    obtain ⟨k1, k2⟩ := Rep.dp e1 h1
    obtain ⟨l1, l2⟩ := Reps.dp e2 h2
    exact ⟨.cons k1 l1, by unfold PyData.canLayAll0; rw [k2, l2]; rfl⟩
end
theorem RepT.dp {F : Addr → Prop} {H : Hp} {d : D} {v : V} {p : PyData} (e : d.py = some p) (h : RepT S F H d v) : Dp S.K H v p ∧ p.canLay0 = true := by
  cases d <;> first | exact Rep.dp (F := F) e h | (unfold D.py at e; cases e; done) | skip
  rename_i ds
  obtain ⟨a, vs, rfl, h2, h3⟩ := h
  unfold D.py at e
  cases q : D.pys ds with
  | none => rw [q] at e; cases e
  | some ps =>
    rw [q] at e; cases e
    obtain ⟨k1, k2⟩ := Reps.dp q h3
    exact ⟨.lst (.inl h2) k1, by unfold PyData.canLay0; exact k2⟩
def eqD (x y : D) : Res Bool := match x.py, y.py with
  | some p, some q => if min p.depth q.depth ≤ 60 then .ok (PyData.eqv p q) else .bad
  | _, _ => .bad
def blD (r : Res Bool) : Res D := r.bind fun b => .ok (.bl b)
def notB (r : Res Bool) : Res Bool := r.bind fun b => .ok (!b)
def rEqP (K : PySem.W.Frag) (neg : Bool) : R2 := fun x y H Q => ∃ d e, Dp K H x d ∧ Dp K H y e ∧ d.canLay0 = true ∧ e.canLay0 = true ∧ min d.depth e.depth ≤ 60 ∧ Q (.bl (if neg then !PyData.eqv d e else PyData.eqv d e)) H
theorem op_eqP (hu : X.A.units + 64 < cLine) : OpR X (compareOp .Eq) (rEqP X.K false) := by
  intro pins s σ H x y v u Q I rx ry h
  obtain ⟨d, e, hd, he, cd, ce, hm, q⟩ := h
  obtain ⟨as, r1⟩ := Dp.reads I d x v hd rx
  obtain ⟨bs, r2⟩ := Dp.reads I e y u he ry
  exact SeqAt.compareEq_reads r1 r2 cd ce (by omega) ⟨.bl _, H, I, rfl, q⟩
theorem op_neP (hu : X.A.units + 64 < cLine) : OpR X (compareOp .NotEq) (rEqP X.K true) := by
  intro pins s σ H x y v u Q I rx ry h
  obtain ⟨d, e, hd, he, cd, ce, hm, q⟩ := h
  obtain ⟨as, r1⟩ := Dp.reads I d x v hd rx
  obtain ⟨bs, r2⟩ := Dp.reads I e y u he ry
  exact SeqAt.compareNe_reads r1 r2 cd ce (by omega) ⟨.bl _, H, I, rfl, q⟩
theorem eqP_of {F : Addr → Prop} {σ : L2.St} {H : Hp} {x y : V} {dx dy : D} {Q : VK} {neg : Bool} (g : Gd S H) (rx : RepT S F H dx x) (ry : RepT S F H dy y) (h : Post S W F md σ H (blD (if neg then notB (eqD dx dy) else eqD dx dy)) Q) : rEqP S.K neg x y H Q := by
  unfold eqD at h
  cases q1 : dx.py with
  | none => simp only [q1] at h; cases neg <;> exact h.elim
  | some p =>
    cases q2 : dy.py with
    | none => simp only [q1, q2] at h; cases neg <;> exact h.elim
    | some q =>
      simp only [q1, q2] at h
      obtain ⟨k1, k2⟩ := rx.dp q1
      obtain ⟨l1, l2⟩ := ry.dp q2
      by_cases hm : min p.depth q.depth ≤ 60
      · rw [if_pos hm] at h
        refine ⟨p, q, k1, l1, k2, l2, hm, ?_⟩
        cases neg
        · exact Post.bl g h
        · exact Post.bl g h
      · rw [if_neg hm] at h
        cases neg <;> exact h.elim
theorem pm_eq (hK : X.K = S.K) (hu : X.A.units + 64 < cLine) (ha : PM S W .bor X a fa ea) (hb : PM S W .bor X b fb eb) : PM S W md X (.Compare a [.Eq] [b] pos) (bnd2 fa fb fun x y => blD (eqD x y)) (ea ++ eb) :=
  pm_cmp (op_eqP hu) ha hb (nomark _) fun F σ H x y dx dy Q g fd rx ry h => by rw [hK]; exact eqP_of g rx ry h
theorem pm_ne (hK : X.K = S.K) (hu : X.A.units + 64 < cLine) (ha : PM S W .bor X a fa ea) (hb : PM S W .bor X b fb eb) : PM S W md X (.Compare a [.NotEq] [b] pos) (bnd2 fa fb fun x y => blD (notB (eqD x y))) (ea ++ eb) :=
  pm_cmp (op_neP hu) ha hb (nomark _) fun F σ H x y dx dy Q g fd rx ry h => by rw [hK]; exact eqP_of (neg := true) g rx ry h

/-! ### in, not in -/
def memP (x : D) (ys : List D) : Res Bool := match x.py, D.pys ys with
  | some p, some qs => if p.depth ≤ 60 then .ok (qs.any fun q => PyData.eqv q p) else .bad
  | _, _ => .bad
def strIn (x y : Str) : Bool := !(Builtin.Str.occurrences y x 0 y.length 1).isEmpty
def inD : D → D → Res Bool
  | x, .tup ys => memP x ys
  | x, .lst ys => memP x ys
  | .str x, .str y => .ok (strIn x y)
  | _, _ => .bad
def rInP (K : PySem.W.Frag) (neg : Bool) : R2 := fun x y H Q => ∃ d ds, Dp K H x d ∧ (Dp K H y (.list ds) ∨ Dp K H y (.tuple ds)) ∧ d.canLay0 = true ∧ PyData.canLayAll0 ds = true ∧ d.depth ≤ 60 ∧ Q (.bl (if neg then !ds.any fun z => PyData.eqv z d else ds.any fun z => PyData.eqv z d)) H
theorem op_inP (hu : X.A.units + 65 < cLine) : OpR X (compareOp .In) (rInP X.K false) := by
  intro pins s σ H x y v u Q I rx ry h
  obtain ⟨d, ds, hd, he, cd, ce, hm, q⟩ := h
  obtain ⟨as, r1⟩ := Dp.reads I d x v hd rx
  have hr : X.A.units + 1 + min (PyData.depthAll ds) d.depth < cLine := by omega
  rcases he with he | he
  · obtain ⟨bs, r2⟩ := Dp.reads I (.list ds) y u he ry
    exact SeqAt.in_list_reads r2 r1 ce cd hr ⟨.bl _, H, I, rfl, q⟩
  · obtain ⟨bs, r2⟩ := Dp.reads I (.tuple ds) y u he ry
    exact SeqAt.in_tuple_reads r2 r1 ce cd hr ⟨.bl _, H, I, rfl, q⟩
theorem op_ninP (hu : X.A.units + 65 < cLine) : OpR X (compareOp .NotIn) (rInP X.K true) := by
  intro pins s σ H x y v u Q I rx ry h
  obtain ⟨d, ds, hd, he, cd, ce, hm, q⟩ := h
  obtain ⟨as, r1⟩ := Dp.reads I d x v hd rx
  have hr : X.A.units + 1 + min (PyData.depthAll ds) d.depth < cLine := by omega
  rcases he with he | he
  · obtain ⟨bs, r2⟩ := Dp.reads I (.list ds) y u he ry
    exact SeqAt.notIn_list_reads r2 r1 ce cd hr ⟨.bl _, H, I, rfl, q⟩
  · obtain ⟨bs, r2⟩ := Dp.reads I (.tuple ds) y u he ry
    exact SeqAt.notIn_tuple_reads r2 r1 ce cd hr ⟨.bl _, H, I, rfl, q⟩
theorem memP_of {F : Addr → Prop} {σ : L2.St} {H : Hp} {x y : V} {dx : D} {ys : List D} {Q : VK} {neg : Bool} {tp : Bool} (g : Gd S H) (rx : RepT S F H dx x) (ry : RepT S F H (if tp then .tup ys else .lst ys) y) (h : Post S W F md σ H (blD (if neg then notB (memP dx ys) else memP dx ys)) Q) : rInP S.K neg x y H Q := by
  unfold memP at h
  cases q1 : dx.py with
  | none => simp only [q1] at h; cases neg <;> exact h.elim
  | some p =>
    cases q2 : D.pys ys with
    | none => simp only [q1, q2] at h; cases neg <;> exact h.elim
    | some qs =>
      simp only [q1, q2] at h
      obtain ⟨k1, k2⟩ := rx.dp q1
      by_cases hm : p.depth ≤ 60
      · rw [if_pos hm] at h
        have hy : (Dp S.K H y (.list qs) ∨ Dp S.K H y (.tuple qs)) ∧ PyData.canLayAll0 qs = true := by
          cases tp
          · obtain ⟨l1, l2⟩ := RepT.dp (p := .list qs) (by show (D.lst ys).py = _; unfold D.py; rw [q2]; rfl) ry
            exact ⟨.inl l1, by unfold PyData.canLay0 at l2; exact l2⟩
          · obtain ⟨l1, l2⟩ := RepT.dp (p := .tuple qs) (by show (D.tup ys).py = _; unfold D.py; rw [q2]; rfl) ry
            exact ⟨.inr l1, by unfold PyData.canLay0 at l2; exact l2⟩
        refine ⟨p, qs, k1, hy.1, k2, hy.2, hm, ?_⟩
        cases neg
        · exact Post.bl g h
        · exact Post.bl g h
      · rw [if_neg hm] at h
        cases neg <;> exact h.elim
theorem pm_in (hK : X.K = S.K) (hu : X.A.units + 65 < cLine) (ha : PM S W .bor X a fa ea) (hb : PM S W .bor X b fb eb) (hm : behindInMarks .In b = false) : PM S W md X (.Compare a [.In] [b] pos) (bnd2 fa fb fun x y => blD (inD x y)) (ea ++ eb) :=
  pm_cmp ((op_inP hu).or op_in_str) ha hb hm fun F σ H x y dx dy Q g fd rx ry h => by
    rw [hK]
    unfold inD at h
    split at h
    · exact .inl (memP_of (neg := false) (tp := true) g rx ry h)
    · exact .inl (memP_of (neg := false) (tp := false) g rx ry h)
    · cases rx.str; cases ry.str
      exact .inr ⟨_, _, rfl, rfl, Post.bl g h⟩
    · exact h.elim
theorem pm_nin (hK : X.K = S.K) (hu : X.A.units + 65 < cLine) (ha : PM S W .bor X a fa ea) (hb : PM S W .bor X b fb eb) (hm : behindInMarks .NotIn b = false) : PM S W md X (.Compare a [.NotIn] [b] pos) (bnd2 fa fb fun x y => blD (notB (inD x y))) (ea ++ eb) :=
  pm_cmp ((op_ninP hu).or op_notin_str) ha hb hm fun F σ H x y dx dy Q g fd rx ry h => by
    rw [hK]
    unfold inD at h
    split at h
    · exact .inl (memP_of (neg := true) (tp := true) g rx ry h)
    · exact .inl (memP_of (neg := true) (tp := false) g rx ry h)
    · cases rx.str; cases ry.str
      exact .inr ⟨_, _, rfl, rfl, Post.bl g h⟩
    · exact h.elim
end
end PD
/-! The pure layer: order, identity, tests, displays, places, slices, argument lists, built-ins by name. -/
namespace PD
open PySem PySem.Spec PyProof.Rows L2
section
variable {S : Stat} {W : WX} {X : Cx} {md : Md} {a b c : Expr} {fa fb fc : En → Res D} {ea eb ec : List Nat} {pos : Pos}
/-! ### order -/
def intsD : List D → Option (List Int)
  | [] => some []
  | .int i :: ds => (intsD ds).map (i :: ·)
  | _ :: _ => none
theorem intsD_rep {F : Addr → Prop} {H : Hp} : ∀ {ds : List D} {vs : List V} {ns : List Int}, intsD ds = some ns → Reps S F H ds vs → vs = ns.map V.int
  | [], vs, ns, e, h => by cases e; exact h.nil_inv
  | d :: ds, vs, ns, e, h => by
    obtain ⟨v, r, rfl, h1, h2⟩ := h.cons_inv
    cases d with
    | int i =>
      simp only [intsD] at e
      cases q : intsD ds with
      | none => rw [q] at e; cases e
      | some ms =>
        rw [q] at e; cases e
        unfold Rep at h1
        subst h1
        rw [intsD_rep q h2]; rfl
    | _ => simp [intsD] at e
def ltD : D → D → Res Bool
  | .int i, .int j => .ok (decide (i < j))
  | .tup xs, .tup ys => match intsD xs, intsD ys with
    | some ns, some ms => .ok (HT.lexLt ns ms)
    | _, _ => .bad
  | _, _ => .bad
def leD : D → D → Res Bool
  | .int i, .int j => .ok (decide (i ≤ j))
  | _, _ => .bad
def gtD : D → D → Res Bool
  | .int i, .int j => .ok (decide (j < i))
  | _, _ => .bad
def geD : D → D → Res Bool
  | .int i, .int j => .ok (decide (j ≤ i))
  | _, _ => .bad
theorem pm_lt (hK : X.K = S.K) (hu : X.A.units < cLine) (ha : PM S W .bor X a fa ea) (hb : PM S W .bor X b fb eb) : PM S W md X (.Compare a [.Lt] [b] pos) (bnd2 fa fb fun x y => blD (ltD x y)) (ea ++ eb) :=
  pm_cmp (op_lt.or (op_ltT hu)) ha hb (nomark _) fun F σ H x y dx dy Q g fd rx ry h => by
    rw [hK]
    unfold ltD at h
    split at h
    · cases rx.int; cases ry.int
      exact .inl ⟨_, _, rfl, rfl, Post.bl g h⟩
    · split at h
      · rename_i e1 e2
        obtain ⟨p, vs, rfl, hp, kp⟩ := rx.tup
        obtain ⟨q, us, rfl, hq, kq⟩ := ry.tup
        cases intsD_rep e1 kp
        cases intsD_rep e2 kq
        exact .inr ⟨p, q, _, _, rfl, rfl, SqT.of hp, SqT.of hq, Post.bl g h⟩
      · exact h.elim
    · exact h.elim
theorem pm_int2 {op : CmpOp} {g : Int → Int → Bool} {k : D → D → Res Bool} (ho : OpR X (compareOp op) (rI0 fun i j => .bl (g i j))) (h1 : op ≠ .In) (h2 : op ≠ .NotIn) (hk : ∀ i j, k (.int i) (.int j) = .ok (g i j)) (hb' : ∀ x y, (∃ i j, x = .int i ∧ y = .int j) ∨ k x y = .bad)
    (ha : PM S W .bor X a fa ea) (hb : PM S W .bor X b fb eb) : PM S W md X (.Compare a [op] [b] pos) (bnd2 fa fb fun x y => blD (k x y)) (ea ++ eb) :=
  pm_cmp ho ha hb (nomark _ h1 h2) fun F σ H x y dx dy Q gd fd rx ry h => by
    rcases hb' dx dy with ⟨i, j, rfl, rfl⟩ | e
    · rw [hk] at h
      cases rx.int; cases ry.int
      exact ⟨_, _, rfl, rfl, Post.bl gd h⟩
    · rw [e] at h; exact h.elim
theorem leD_bad (x y : D) : (∃ i j, x = .int i ∧ y = .int j) ∨ leD x y = .bad := by
  unfold leD; split
  · exact .inl ⟨_, _, rfl, rfl⟩
  · exact .inr rfl
theorem gtD_bad (x y : D) : (∃ i j, x = .int i ∧ y = .int j) ∨ gtD x y = .bad := by
  unfold gtD; split
  · exact .inl ⟨_, _, rfl, rfl⟩
  · exact .inr rfl
theorem geD_bad (x y : D) : (∃ i j, x = .int i ∧ y = .int j) ∨ geD x y = .bad := by
  unfold geD; split
  · exact .inl ⟨_, _, rfl, rfl⟩
  · exact .inr rfl
theorem pm_le (ha : PM S W .bor X a fa ea) (hb : PM S W .bor X b fb eb) : PM S W md X (.Compare a [.LtE] [b] pos) (bnd2 fa fb fun x y => blD (leD x y)) (ea ++ eb) := pm_int2 op_le (by decide) (by decide) (fun _ _ => rfl) leD_bad ha hb
theorem pm_gt (ha : PM S W .bor X a fa ea) (hb : PM S W .bor X b fb eb) : PM S W md X (.Compare a [.Gt] [b] pos) (bnd2 fa fb fun x y => blD (gtD x y)) (ea ++ eb) := pm_int2 op_gt (by decide) (by decide) (fun _ _ => rfl) gtD_bad ha hb
theorem pm_ge (ha : PM S W .bor X a fa ea) (hb : PM S W .bor X b fb eb) : PM S W md X (.Compare a [.GtE] [b] pos) (bnd2 fa fb fun x y => blD (geD x y)) (ea ++ eb) := pm_int2 op_ge (by decide) (by decide) (fun _ _ => rfl) geD_bad ha hb
/-- a < b < c and its like, of ints -/
def iLt (x y : D) : Res Bool := match x, y with
  | .int i, .int j => .ok (decide (i < j))
  | _, _ => .bad
theorem iLt_bad (x y : D) : (∃ i j, x = .int i ∧ y = .int j) ∨ iLt x y = .bad := by
  unfold iLt; split
  · exact .inl ⟨_, _, rfl, rfl⟩
  · exact .inr rfl
def chn (k k' : D → D → Res Bool) (fa fb fc : En → Res D) : En → Res D := fun ρ => (fa ρ).bind fun x => (fb ρ).bind fun y => (k x y).bind fun t => if t then (fc ρ).bind fun z => blD (k' y z) else .ok (.bl false)
theorem pm_chain {op op' : CmpOp} {g g' : Int → Int → Bool} {k k' : D → D → Res Bool} (ho : OpR X (compareOp op) (rI0 fun i j => .bl (g i j))) (ho' : OpR X (compareOp op') (rI0 fun i j => .bl (g' i j)))
    (hk : ∀ i j, k (.int i) (.int j) = .ok (g i j)) (hb1 : ∀ x y, (∃ i j, x = .int i ∧ y = .int j) ∨ k x y = .bad) (hk' : ∀ i j, k' (.int i) (.int j) = .ok (g' i j)) (hb2 : ∀ x y, (∃ i j, x = .int i ∧ y = .int j) ∨ k' x y = .bad)
    (hm : lastMarks [op, op'] [b, c] = false) (ha : PM S W .bor X a fa ea) (hb : PM S W .bor X b fb eb) (hc : PM S W .bor X c fc ec) : PM S W md X (.Compare a [op, op'] [b, c] pos) (chn k k' fa fb fc) (ea ++ (eb ++ ec)) :=
  ⟨fun pins s σ H Q I ⟨ρ, F, E, h⟩ => (pe_chain ho ho' ha hb hc hm).run pins s σ H Q I (by
    refine tM_bind (md' := .bor) E h (fun dx x H1 e1 E1 r1 _ h1 => tM_bind (md' := .bor) E1 h1 (fun dy y H2 e2 E2 r2 _ h2 => ?_) (fun i hi => List.mem_append_right _ (List.mem_append_left _ hi))) (fun i hi => List.mem_append_left _ hi)
    rcases hb1 dx dy with ⟨i, j, rfl, rfl⟩ | e
    · rw [hk] at h2
      have r1' : RepT S F H1 (.int i) x := r1
      have r2' : RepT S F H2 (.int j) y := r2
      cases r1'.int; cases r2'.int
      refine ⟨i, j, rfl, rfl, g i j, rfl, ?_⟩
      cases q : g i j with
      | false =>
        rw [q] at h2
        rw [if_neg Bool.false_ne_true]
        exact Post.bl E2.gd h2
      | true =>
        rw [q] at h2
        rw [if_pos rfl]
        refine tM_bind (md' := .bor) E2 h2 (fun dz z H3 e3 E3 r3 _ h3 => ?_) (fun i hi => List.mem_append_right _ (List.mem_append_right _ hi))
        rcases hb2 (.int j) dz with ⟨i', l, e, rfl⟩ | e
        · cases e
          rw [hk'] at h3
          have r3' : RepT S F H3 (.int l) z := r3
          cases r3'.int
          exact ⟨_, _, rfl, rfl, Post.bl E3.gd h3⟩
        · rw [e] at h3; exact h3.elim
    · rw [e] at h2; exact h2.elim)⟩

/-! ### is None, is True, is False -/
def rIs1 (neg : Bool) : R2 := fun x y H Q => (y = .non ∨ ∃ b, y = .bl b) ∧ ((∀ p, x ≠ .ty p) ∧ (∀ p, x ≠ .flt p) ∧ (∀ p, x ≠ .byt p)) ∧ Q (.bl (if neg then !decide (x = y) else decide (x = y))) H
theorem plain_is {x : V} {v : Value} (r : RelV x v) (u : Value) (h : u = .none ∨ ∃ b, u = .bool b) : plainIs v u = true := by
  rcases h with rfl | ⟨b, rfl⟩ <;> cases x <;> first | (cases r; rfl) | (obtain ⟨_, e⟩ := r; subst e; rfl)
theorem RelV.const_iff {x y : V} {v u : Value} (hy : y = .non ∨ ∃ b, y = .bl b) (rx : RelV x v) (ry : RelV y u) : v = u ↔ x = y := by
  constructor
  · intro e
    subst e
    exact rx.inj ry
  · intro e
    subst e
    rcases hy with rfl | ⟨b, rfl⟩
    · cases rx; cases ry; rfl
    · cases rx; cases ry; rfl
theorem op_is1 : OpR X (compareOp .Is) (rIs1 false) := by
  intro pins s σ H x y v u Q I rx ry h
  obtain ⟨hy, _, q⟩ := h
  have hu : u = .none ∨ ∃ b, u = .bool b := by
    rcases hy with rfl | ⟨b, rfl⟩
    · exact .inl ry
    · exact .inr ⟨b, ry⟩
  by_cases e : v = u
  · have e' := (RelV.const_iff hy rx ry).mp e
    subst e'
    subst e
    exact wpAny_is_self (plain_is rx _ hu) ⟨.bl true, H, I, rfl, by simpa using q⟩
  · have e' : x ≠ y := fun z => e ((RelV.const_iff hy rx ry).mpr z)
    exact wpAny_is_other (plain_is rx _ hu) e ⟨.bl false, H, I, rfl, by simpa [e'] using q⟩
theorem op_isnot1 : OpR X (compareOp .IsNot) (rIs1 true) := by
  intro pins s σ H x y v u Q I rx ry h
  obtain ⟨hy, _, q⟩ := h
  have hu : u = .none ∨ ∃ b, u = .bool b := by
    rcases hy with rfl | ⟨b, rfl⟩
    · exact .inl ry
    · exact .inr ⟨b, ry⟩
  by_cases e : v = u
  · have e' := (RelV.const_iff hy rx ry).mp e
    subst e'
    subst e
    exact wpAny_isNot_self (plain_is rx _ hu) ⟨.bl false, H, I, rfl, by simpa using q⟩
  · have e' : x ≠ y := fun z => e ((RelV.const_iff hy rx ry).mpr z)
    exact wpAny_isNot_other (plain_is rx _ hu) e ⟨.bl true, H, I, rfl, by simpa [e'] using q⟩
def isNonD : D → Bool
  | .non => true
  | _ => false
def isBlD (b : Bool) : D → Bool
  | .bl c => c == b
  | _ => false
def isD (x y : D) : Res Bool := match y with
  | .non => .ok (isNonD x)
  | .bl b => .ok (isBlD b x)
  | _ => .bad
def VOk (x : V) : Prop := (∀ p, x ≠ .ty p) ∧ (∀ p, x ≠ .flt p) ∧ (∀ p, x ≠ .byt p)
theorem vok_ref {p : Addr} : VOk (.ref p) := ⟨(fun _ z => by cases z), (fun _ z => by cases z), (fun _ z => by cases z)⟩
theorem RepT.is {F : Addr → Prop} {H : Hp} {x : V} {dx : D} (rx : RepT S F H dx x) : VOk x ∧ isNonD dx = decide (x = .non) ∧ ∀ b, isBlD b dx = decide (x = .bl b) := by
  cases dx with
  | non => cases rx.non; exact ⟨⟨(fun _ z => by cases z), (fun _ z => by cases z), (fun _ z => by cases z)⟩, rfl, fun b => rfl⟩
  | bl c => cases rx.bl; exact ⟨⟨(fun _ z => by cases z), (fun _ z => by cases z), (fun _ z => by cases z)⟩, rfl, fun b => by cases b <;> cases c <;> rfl⟩
  | int i => cases rx.int; exact ⟨⟨(fun _ z => by cases z), (fun _ z => by cases z), (fun _ z => by cases z)⟩, rfl, fun b => rfl⟩
  | str i => cases rx.str; exact ⟨⟨(fun _ z => by cases z), (fun _ z => by cases z), (fun _ z => by cases z)⟩, rfl, fun b => rfl⟩
  | tup _ => obtain ⟨a, _, rfl, _⟩ := rx.tup; exact ⟨vok_ref, rfl, fun b => rfl⟩
  | lst _ => obtain ⟨a, _, rfl, _⟩ := rx.lst; exact ⟨vok_ref, rfl, fun b => rfl⟩
  | raw _ => obtain ⟨a, _, rfl, _⟩ := rx.raw; exact ⟨vok_ref, rfl, fun b => rfl⟩
  | dic _ _ => obtain ⟨a, _, rfl, _⟩ := (show ∃ a kvs, x = .ref a ∧ _ from rx); exact ⟨vok_ref, rfl, fun b => rfl⟩
  | obj _ _ => obtain ⟨a, _, _, rfl, _⟩ := (show ∃ a dx vs, x = .ref a ∧ _ from rx); exact ⟨vok_ref, rfl, fun b => rfl⟩
theorem isD_rep {F : Addr → Prop} {H : Hp} {x y : V} {dx dy : D} {t : Bool} (rx : RepT S F H dx x) (ry : RepT S F H dy y) (h : isD dx dy = .ok t) : (y = .non ∨ ∃ b, y = .bl b) ∧ VOk x ∧ t = decide (x = y) := by
  obtain ⟨k1, k2, k3⟩ := rx.is
  unfold isD at h
  split at h
  · cases ry.non
    cases h
    exact ⟨.inl rfl, k1, k2⟩
  · cases ry.bl
    cases h
    exact ⟨.inr ⟨_, rfl⟩, k1, k3 _⟩
  · cases h
theorem isD_ok {F : Addr → Prop} {σ : L2.St} {H : Hp} {dx dy : D} {Q : VK} {neg : Bool} (h : Post S W F md σ H (blD (if neg then notB (isD dx dy) else isD dx dy)) Q) : ∃ t, isD dx dy = .ok t ∧ Post S W F md σ H (.ok (.bl (if neg then !t else t))) Q := by
  cases q : isD dx dy with
  | ok t => rw [q] at h; refine ⟨t, rfl, ?_⟩; cases neg <;> exact h
  | exc c =>
    exfalso
    unfold isD at q
    split at q <;> cases q
  | bad => rw [q] at h; cases neg <;> exact h.elim
theorem pm_is (ha : PM S W .bor X a fa ea) (hb : PM S W .bor X b fb eb) : PM S W md X (.Compare a [.Is] [b] pos) (bnd2 fa fb fun x y => blD (isD x y)) (ea ++ eb) :=
  pm_cmp op_is1 ha hb (nomark _) fun F σ H x y dx dy Q g fd rx ry h => by
    obtain ⟨t, e, h⟩ := isD_ok (neg := false) h
    obtain ⟨k1, k2, k5⟩ := isD_rep rx ry e
    exact ⟨k1, k2, by have h' := Post.bl g h; rw [k5] at h'; exact h'⟩
theorem pm_isnot (ha : PM S W .bor X a fa ea) (hb : PM S W .bor X b fb eb) : PM S W md X (.Compare a [.IsNot] [b] pos) (bnd2 fa fb fun x y => blD (notB (isD x y))) (ea ++ eb) :=
  pm_cmp op_isnot1 ha hb (nomark _) fun F σ H x y dx dy Q g fd rx ry h => by
    obtain ⟨t, e, h⟩ := isD_ok (neg := true) h
    obtain ⟨k1, k2, k5⟩ := isD_rep rx ry e
    exact ⟨k1, k2, by have h' := Post.bl g h; rw [k5] at h'; exact h'⟩

/-! ### tests -/
def asB : D → Res Bool
  | .bl b => .ok b
  | _ => .bad
theorem tT_of {f : En → Res D} {es : List Nat} {σ : L2.St} {H : Hp} {Q : Bool → Hp → Prop} (h : tT S W (fun ρ => (f ρ).bind asB) es σ H Q) : tB (tM S W .bor f es) σ H Q := by
  obtain ⟨ρ, F, E, h⟩ := h
  refine ⟨ρ, F, E, ?_⟩
  cases q : f ρ with
  | ok d =>
    simp only [q, Res.bind_ok] at h
    cases d with
    | bl b =>
      intro v H' e g r
      have r' : RepT S F H' (.bl b) v := r
      cases r'.bl
      exact ⟨b, rfl, h H' e g⟩
    | _ => exact h.elim
  | exc c => simp only [q, Res.bind_exc] at h; exact h
  | bad => simp only [q, Res.bind_bad] at h; exact h.elim
theorem PMT.val {f : En → Res D} {es : List Nat} {e : Expr} (h : PM S W .bor X e f es) (he : ∀ whole, isTrue e X.env whole = (do let v ← whole; standAt e.pos; holding [v] (truthy v))) : PMT S W X e (fun ρ => (f ρ).bind asB) es :=
  ⟨fun pins s σ H Q I k => (pt_val h he).run pins s σ H Q I (tT_of k)⟩
theorem PMT.weak {f : En → Res Bool} {es es' : List Nat} {e : Expr} (h : PMT S W X e f es) (hs : ∀ i ∈ es, i ∈ es') : PMT S W X e f es' :=
  ⟨fun pins s σ H Q I ⟨ρ, F, E, p⟩ => h.run pins s σ H Q I ⟨ρ, F, E.sub hs, p⟩⟩
theorem tT_bind {ρ : En} {F : Addr → Prop} {es es' : List Nat} {σ : L2.St} {H : Hp} {fa : En → Res Bool} {k : Bool → Res Bool} {R Q : Bool → Hp → Prop} (E : EnvE S F ρ σ H es) (h : PostB S W σ H ((fa ρ).bind k) Q)
    (c : ∀ b H1, Ext H H1 → EnvE S F ρ σ H1 es → PostB S W σ H1 (k b) Q → R b H1) (hs : ∀ i ∈ es', i ∈ es) : tT S W fa es' σ H R := by
  refine ⟨ρ, F, E.sub hs, ?_⟩
  cases q : fa ρ with
  | ok d =>
    rw [q] at h
    intro H1 e g
    refine c d H1 e (E.ext e g) ?_
    rw [Res.bind_ok] at h
    cases z : k d with
    | ok b => rw [z] at h; exact fun H' e' g' => h H' (e.trans e') g'
    | exc x => rw [z] at h; exact fun H' e' g' => h H' (e.trans e') g'
    | bad => rw [z] at h; exact h
  | exc x => rw [q] at h; exact h
  | bad => rw [q] at h; exact h
/-- as PMT, whatever its whole is -/
def PMW (S : Stat) (W : WX) (X : Cx) (e : Expr) (f : En → Res Bool) (es : List Nat) : Prop := PW X e (tT S W f es)
variable {ta tb : En → Res Bool} {rest : List Expr}
def andT (ta tb : En → Res Bool) : En → Res Bool := fun ρ => (ta ρ).bind fun b => if b then tb ρ else .ok false
def orT (ta tb : En → Res Bool) : En → Res Bool := fun ρ => (ta ρ).bind fun b => if b then .ok true else tb ρ
def notT (ta : En → Res Bool) : En → Res Bool := fun ρ => (ta ρ).bind fun b => .ok (!b)
theorem PMW.one {op : BoolOp} (ha : PMT S W X a ta ea) : PMW S W X (.BoolOp op [a] pos) ta ea := by
  cases op
  · exact pw_and1 ha
  · exact pw_or1 ha
theorem PMW.and (ha : PMT S W X a ta ea) (hb : PMW S W X (.BoolOp .And (b :: rest) pos) tb eb) : PMW S W X (.BoolOp .And (a :: b :: rest) pos) (andT ta tb) (ea ++ eb) :=
  ⟨fun wh pins s σ H Q I ⟨ρ, F, E, h⟩ => (pw_and ha hb).run wh pins s σ H Q I (tT_bind E h (fun b H1 e1 E1 h1 => by
    cases b with
    | true => rw [if_pos rfl]; exact ⟨ρ, F, E1.sub fun i hi => List.mem_append_right _ hi, h1⟩
    | false => rw [if_neg Bool.false_ne_true]; exact h1 H1 (Ext.refl _) E1.gd) fun i hi => List.mem_append_left _ hi)⟩
theorem PMW.or (ha : PMT S W X a ta ea) (hb : PMW S W X (.BoolOp .Or (b :: rest) pos) tb eb) : PMW S W X (.BoolOp .Or (a :: b :: rest) pos) (orT ta tb) (ea ++ eb) :=
  ⟨fun wh pins s σ H Q I ⟨ρ, F, E, h⟩ => (pw_or ha hb).run wh pins s σ H Q I (tT_bind E h (fun b H1 e1 E1 h1 => by
    cases b with
    | false => rw [if_neg Bool.false_ne_true]; exact ⟨ρ, F, E1.sub fun i hi => List.mem_append_right _ hi, h1⟩
    | true => rw [if_pos rfl]; exact h1 H1 (Ext.refl _) E1.gd) fun i hi => List.mem_append_left _ hi)⟩
theorem PMT.not (ha : PMT S W X a ta ea) : PMT S W X (.UnaryOp .Not a pos) (notT ta) ea :=
  ⟨fun pins s σ H Q I ⟨ρ, F, E, h⟩ => (pt_not ha).run pins s σ H Q I (tT_bind E h (fun b H1 e1 E1 h1 => h1 H1 (Ext.refl _) E1.gd) fun i hi => hi)⟩
/-! .. as values -/
def andV (fa fb : En → Res D) : En → Res D := fun ρ => (fa ρ).bind fun d => (asB d).bind fun b => if b then fb ρ else .ok (.bl false)
def orV (fa fb : En → Res D) : En → Res D := fun ρ => (fa ρ).bind fun d => (asB d).bind fun b => if b then .ok (.bl true) else fb ρ
def notV (fa : En → Res D) : En → Res D := fun ρ => (fa ρ).bind fun d => (asB d).bind fun b => .ok (.bl (!b))
theorem pm_one {op : BoolOp} (ha : PM S W md X a fa ea) : PM S W md X (.BoolOp op [a] pos) fa ea := pe_one ha
theorem pm_and (ha : PM S W .bor X a fa ea) (hb : PM S W md X (.BoolOp .And (b :: rest) pos) fb eb) : PM S W md X (.BoolOp .And (a :: b :: rest) pos) (andV fa fb) (ea ++ eb) :=
  ⟨fun pins s σ H Q I ⟨ρ, F, E, h⟩ => (pe_and ha hb).run pins s σ H Q I (tM_bind (md' := .bor) E h (fun d v H1 e1 E1 r1 _ h1 => by
    cases d with
    | bl b =>
      have r1' : RepT S F H1 (.bl b) v := r1
      cases r1'.bl
      refine ⟨b, rfl, ?_⟩
      cases b with
      | true => rw [if_pos rfl]; exact ⟨ρ, F, E1.sub fun i hi => List.mem_append_right _ hi, h1⟩
      | false => rw [if_neg Bool.false_ne_true]; exact Post.bl E1.gd h1
    | _ => exact h1.elim) fun i hi => List.mem_append_left _ hi)⟩
theorem pm_or (ha : PM S W .bor X a fa ea) (hb : PM S W md X (.BoolOp .Or (b :: rest) pos) fb eb) : PM S W md X (.BoolOp .Or (a :: b :: rest) pos) (orV fa fb) (ea ++ eb) :=
  ⟨fun pins s σ H Q I ⟨ρ, F, E, h⟩ => (pe_or ha hb).run pins s σ H Q I (tM_bind (md' := .bor) E h (fun d v H1 e1 E1 r1 _ h1 => by
    cases d with
    | bl b =>
      have r1' : RepT S F H1 (.bl b) v := r1
      cases r1'.bl
      refine ⟨b, rfl, ?_⟩
      cases b with
      | false => rw [if_neg Bool.false_ne_true]; exact ⟨ρ, F, E1.sub fun i hi => List.mem_append_right _ hi, h1⟩
      | true => rw [if_pos rfl]; exact Post.bl E1.gd h1
    | _ => exact h1.elim) fun i hi => List.mem_append_left _ hi)⟩
theorem pm_not (ha : PM S W .bor X a fa ea) : PM S W md X (.UnaryOp .Not a pos) (notV fa) ea :=
  ⟨fun pins s σ H Q I ⟨ρ, F, E, h⟩ => (pe_not ha).run pins s σ H Q I (tM_bind (md' := .bor) E h (fun d v H1 e1 E1 r1 _ h1 => by
    cases d with
    | bl b =>
      have r1' : RepT S F H1 (.bl b) v := r1
      cases r1'.bl
      exact ⟨b, rfl, Post.bl E1.gd h1⟩
    | _ => exact h1.elim) fun i hi => hi)⟩
/-- a if t else b -/
def iteF (tc : En → Res Bool) (fa fb : En → Res D) : En → Res D := fun ρ => (tc ρ).bind fun t => if t then fa ρ else fb ρ
theorem pm_if {tc : En → Res Bool} (hc : PMT S W X c tc ec) (ha : PM S W md X a fa ea) (hb : PM S W md X b fb eb) : PM S W md X (.IfExp c a b pos) (iteF tc fa fb) (ec ++ (ea ++ eb)) :=
  ⟨fun pins s σ H Q I ⟨ρ, F, E, h⟩ => (pe_ifExp hc ha hb).run pins s σ H Q I (by
    refine ⟨ρ, F, E.sub fun i hi => List.mem_append_left _ hi, ?_⟩
    unfold iteF at h
    cases q : tc ρ with
    | ok t =>
      rw [q] at h
      intro H1 e1 g1
      have E1 := E.ext e1 g1
      have h1 := Post.ext h e1
      cases t with
      | true => rw [if_pos rfl]; exact ⟨ρ, F, E1.sub fun i hi => List.mem_append_right _ (List.mem_append_left _ hi), h1⟩
      | false => rw [if_neg Bool.false_ne_true]; exact ⟨ρ, F, E1.sub fun i hi => List.mem_append_right _ (List.mem_append_right _ hi), h1⟩
    | exc x => rw [q] at h; exact h
    | bad => rw [q] at h; exact h)⟩
end
end PD
/-! The pure layer: argument lists, displays, places, slices, built-ins by name. -/
namespace PD
open PySem PySem.Spec PyProof.Rows L2
section
variable {S : Stat} {W : WX} {X : Cx} {md m : Md} {a b c e : Expr} {es : List Expr} {fa fb fc f : En → Res D} {fs : En → Res (List D)} {ea eb ec ix : List Nat} {pos : Pos}
/-! ### argument lists -/
def cons2 (f : En → Res D) (g : En → Res (List D)) : En → Res (List D) := fun ρ => (f ρ).bind fun d => (g ρ).bind fun ds => .ok (d :: ds)
theorem RepsM.nil {F : Addr → Prop} {H : Hp} : RepsM S F m H [] [] := by
  cases m
  · exact (Reps.nil : Reps S F H [] [])
  · exact (Reps.nil : Reps S F H [] [])
  · exact rfl
theorem RepsM.cons {F : Addr → Prop} {H0 H : Hp} {d : D} {v : V} {ds : List D} {vs : List V} (hm : m ≠ .fr) (h : RepM S F m H0 H d v) (t : RepsM S F m H ds vs) : RepsM S F m H (d :: ds) (v :: vs) := by
  cases m
  · exact Reps.cons h t
  · exact absurd rfl hm
  · exact ⟨v, vs, rfl, h, t⟩
theorem RepM.ext {F : Addr → Prop} {H0 H H' : Hp} {d : D} {v : V} (hm : m ≠ .fr) (e : Ext H H') (h : RepM S F m H0 H d v) : RepM S F m H0 H' d v := by
  cases m
  · exact Rep.ext e h
  · exact absurd rfl hm
  · exact RepT.ext e h
theorem PostL.ext {F : Addr → Prop} {σ : L2.St} {H H1 : Hp} {r : Res (List D)} {Q : List V → Hp → Prop} (h : PostL S W F md σ H r Q) (e : Ext H H1) : PostL S W F md σ H1 r Q := by
  cases r with
  | ok d => exact fun v H' e' g m => h v H' (e.trans e') g m
  | exc c => exact fun H' e' g => h H' (e.trans e') g
  | bad => exact h
theorem pml_nil : PML S W m X [] (fun _ => .ok []) [] :=
  ⟨fun pos pins s σ H Q I ⟨ρ, F, E, h⟩ => pa_nil.run pos pins s σ H Q I (h [] H (Ext.refl H) E.gd RepsM.nil)⟩
theorem pml_cons (hm : m ≠ .fr) (ha : PM S W m X e f ea) (hr : PML S W m X es fs ix) (hs : starEach (e :: es) X.env = (false, eval e X.env) :: starEach es X.env) : PML S W m X (e :: es) (cons2 f fs) (ea ++ ix) :=
  ⟨fun pos pins s σ H Q I ⟨ρ, F, E, h⟩ => (pa_cons ha hr hs).run pos pins s σ H Q I (by
    refine ⟨ρ, F, E.sub fun i hi => List.mem_append_left _ hi, ?_⟩
    unfold cons2 at h
    cases q : f ρ with
    | ok d =>
      rw [q] at h
      intro v H1 e1 g1 r1
      have E1 := E.ext e1 g1
      refine ⟨ρ, F, E1.sub fun i hi => List.mem_append_right _ hi, ?_⟩
      rw [Res.bind_ok] at h
      cases q2 : fs ρ with
      | ok ds =>
        rw [q2] at h
        exact fun vs H2 e2 g2 r2 => h (v :: vs) H2 (e1.trans e2) g2 (RepsM.cons hm (r1.ext hm e2) r2)
      | exc x => rw [q2] at h; exact fun H' e' g' => h H' (e1.trans e') g'
      | bad => rw [q2] at h; exact h
    | exc x => rw [q] at h; exact h
    | bad => rw [q] at h; exact h)⟩
/-- the answers of a list go on into k -/
theorem tL_bind {F : Addr → Prop} {σ : L2.St} {H : Hp} {ρ : En} {k : List D → Res D} {R : List V → Hp → Prop} {Q : VK} {ix' : List Nat} (E : EnvE S F ρ σ H ix) (h : Post S W F md σ H ((fs ρ).bind k) Q)
    (c : ∀ ds vs H1, Ext H H1 → EnvE S F ρ σ H1 ix → RepsM S F m H1 ds vs → fs ρ = .ok ds → Post S W F md σ H1 (k ds) Q → R vs H1) (hs : ∀ i ∈ ix', i ∈ ix) : tL S W m fs ix' σ H R := by
  refine ⟨ρ, F, E.sub hs, ?_⟩
  cases q : fs ρ with
  | ok ds => rw [q] at h; exact fun vs H1 e g r => c ds vs H1 e (E.ext e g) r q (Post.ext h e)
  | exc x => rw [q] at h; exact h
  | bad => rw [q] at h; exact h
def bndL (fs : En → Res (List D)) (k : List D → Res D) : En → Res D := fun ρ => (fs ρ).bind k

/-! ### displays -/
theorem pm_tup {j : Nat} (h : PML S W .esc X es fs ix) : PM S W md X (.Tuple es j pos) (bndL fs fun ds => if ds.length ≤ sizeLine then .ok (.tup ds) else .bad) ix :=
  ⟨fun pins s σ H Q I ⟨ρ, F, E, p⟩ => (pe_tup h).run pins s σ H Q I (tL_bind (m := .esc) E p (fun ds vs H1 e1 E1 r1 _ h1 => by
    have r1 : Reps S F H1 ds vs := r1
    split at h1
    · rename_i hl
      exact ⟨by rw [r1.length]; exact hl, fun p hp => h1.newTup E1.gd hp r1⟩
    · exact h1.elim) fun i hi => hi)⟩
theorem pm_lst (h : PML S W .esc X es fs ix) : PM S W md X (.List es pos) (bndL fs fun ds => if ds.length ≤ sizeLine then .ok (.lst ds) else .bad) ix :=
  ⟨fun pins s σ H Q I ⟨ρ, F, E, p⟩ => (pe_lst h).run pins s σ H Q I (tL_bind (m := .esc) E p (fun ds vs H1 e1 E1 r1 _ h1 => by
    have r1 : Reps S F H1 ds vs := r1
    split at h1
    · rename_i hl
      exact ⟨by rw [r1.length]; exact hl, fun p hp => h1.newLst E1.gd E1.fd hp r1⟩
    · exact h1.elim) fun i hi => hi)⟩
/-- {} -/
theorem Post.newDic {F : Addr → Prop} {σ : L2.St} {H : Hp} {Q : VK} {kvs : List (List Key × V)} {ws : List D} {p : Addr} (g : Gd S H) (fd : ∀ a, F a → H a ≠ none) (n : H p = none) (k : Reps S F H ws (kvs.map (·.2))) (h : Post S W F md σ H (.ok (.dic (kvs.map fun p => keyD p.1) ws)) Q) : Q (.ref p) (L2.upd H p (.dT kvs)) := by
  have k' := Reps.ext (Ext.upd (o := .dT kvs) n) (Reps.plus n k)
  have rf : RepF S F H (L2.upd H p (.dT kvs)) (.dic (kvs.map fun p => keyD p.1) ws) (.ref p) := ⟨p, kvs, rfl, n, upd_same, rfl, k'⟩
  refine h _ _ (Ext.upd n) (g.upd n) ?_
  cases md
  · exact RepF.toE fd rf
  · exact rf
  · exact Rep.toT (RepF.toE fd rf)
theorem pm_dic0 : PM S W md X (.Dict [] [] pos) (fun _ => .ok (.dic [] [])) [] :=
  ⟨fun pins s σ H Q I ⟨ρ, F, E, h⟩ => pe_dnewT.run pins s σ H Q I (fun p hp => Post.newDic (kvs := []) E.gd E.fd hp Reps.nil h)⟩

/-! ### places -/
theorem Rep.toM {F : Addr → Prop} {H0 H : Hp} {d : D} {v : V} (hm : md ≠ .fr) (h : Rep S F H d v) : RepM S F md H0 H d v := by
  cases md
  · exact h
  · exact absurd rfl hm
  · exact h.toT
theorem Post.at {F : Addr → Prop} {σ : L2.St} {H : Hp} {Q : VK} {d : D} {v : V} (hm : md ≠ .fr) (g : Gd S H) (r : Rep S F H d v) (h : Post S W F md σ H (.ok d) Q) : Q v H := h v H (Ext.refl H) g (r.toM hm)
def key1Of : D → Option Key
  | .int i => some (.inl i)
  | .str x => some (.inr x)
  | _ => none
def keysOf : List D → Option (List Key)
  | [] => some []
  | d :: ds => match key1Of d, keysOf ds with
    | some k, some r => some (k :: r)
    | _, _ => none
def keyOf : D → Option (List Key)
  | .tup ds => keysOf ds
  | _ => none
def getK (ks ws : List D) (k : List Key) : Option D := ((ks.zip ws).find? fun p => decide (keyOf p.1 = some k)).map (·.2)
def ixD : D → D → Res D
  | .tup xs, .int i => match atI xs i with | some d => .ok d | none => .bad
  | .lst xs, .int i => match atI xs i with | some d => .ok d | none => .bad
  | .raw xs, .int i => match atI xs i with | some d => .ok d | none => .bad
  | .str x, .int i => if x.length ≤ sizeLine then (match atI x.cps.toList i with | some c => .ok (.str ⟨#[c]⟩) | none => .bad) else .bad
  | .dic ks ws, k => match keyOf k with
    | some kk => match getK ks ws kk with | some d => .ok d | none => .bad
    | none => .bad
  | _, _ => .bad
theorem atI_rep {F : Addr → Prop} {H : Hp} {ds : List D} {vs : List V} {i : Int} {d : D} (r : Reps S F H ds vs) (h : atI ds i = some d) : ∃ v, atI vs i = some v ∧ Rep S F H d v := by
  unfold atI at h ⊢
  rw [r.length]
  cases q : ixN ds.length i with
  | none => rw [q] at h; cases h
  | some j =>
    rw [q] at h
    exact r.get h
def rIxDic : R2 := fun x y H Q => ∃ a v, x = .ref a ∧ DGet H a y (some v) ∧ Q v H
theorem ix_dic (hu : X.A.units + 1 < cLine) : IxR X rIxDic := by
  intro value slice pins s σ H x y v u Q I rx ry h hs
  obtain ⟨p, w, rfl, g, q⟩ := h
  cases rx
  exact tail_any (dict_typeIs I g) PySem.F.slot_dict_getitem.lookup (d_getItem hu I g ry fun w' s3 I3 rw' => ⟨w, H, I3, rw', q⟩) hs
theorem strOk_one {x : Str} {c : Nat} (h : PyData.strOk x = true) (hc : c ∈ x.cps.toList) : PyData.strOk ⟨#[c]⟩ = true := by
  unfold PyData.strOk at *
  have := Array.all_eq_true_iff_forall_mem.mp h c (by simpa using hc)
  simpa using this
theorem strOk_at {x : Str} {i : Int} {c : Nat} (h : PyData.strOk x = true) (hd : atI x.cps.toList i = some c) : PyData.strOk ⟨#[c]⟩ = true := by
  obtain ⟨j, _, h2, _⟩ := atI_get hd
  exact strOk_one h (List.mem_of_getElem? h2)
theorem keyOf_keyD (k : List Key) : keyOf (keyD k) = some k := by
  show keysOf (k.map key1D) = some k
  induction k with
  | nil => rfl
  | cons a r ih =>
    show (match key1Of (key1D a), keysOf (r.map key1D) with
      | some k, some r => some (k :: r)
      | _, _ => none) = some (a :: r)
    rw [ih]
    cases a <;> rfl
theorem keysOf_inj : ∀ {ds : List D} {k : List Key}, keysOf ds = some k → ds = k.map key1D
  | [], k, h => by cases h; rfl
  | d :: ds, k, h => by
    unfold keysOf at h
    split at h
    · rename_i x r e1 e2
      cases h
      rw [keysOf_inj e2, List.map_cons]
      congr 1
      cases d <;> simp only [key1Of] at e1 <;> cases e1 <;> rfl
    · cases h
theorem keyOf_inj {d : D} {k : List Key} (h : keyOf d = some k) : d = keyD k := by
  cases d <;> simp only [keyOf] at h <;> try cases h
  rw [keysOf_inj h]; rfl
theorem getK_val {F : Addr → Prop} {H : Hp} {k : List Key} {d : D} : ∀ {kvs : List (List Key × V)} {ws : List D}, Reps S F H ws (kvs.map (·.2)) → getK (kvs.map fun p => keyD p.1) ws k = some d → ∃ v, valV kvs k = some v ∧ Rep S F H d v
  | [], ws, r, h => by unfold getK at h; simp at h
  | p :: kvs, ws, r, h => by
    cases ws with
    | nil => have := r.length; simp at this
    | cons w ws =>
      obtain ⟨v, r', e, h1, h2⟩ := r.cons_inv
      simp only [List.map_cons, List.cons.injEq] at e
      obtain ⟨rfl, rfl⟩ := e
      unfold getK at h
      simp only [List.map_cons, List.zip_cons_cons, List.find?_cons, keyOf_keyD] at h
      by_cases hk : p.1 = k
      · rw [decide_eq_true (show some p.1 = some k by rw [hk])] at h
        cases h
        exact ⟨p.2, valV_pos hk, h1⟩
      · rw [decide_eq_false (fun z => hk (Option.some.inj z))] at h
        rw [valV_neg hk]
        exact getK_val h2 h
theorem Reps.key {F : Addr → Prop} {H : Hp} : ∀ {k : List Key} {vs : List V}, Reps S F H (k.map key1D) vs → vs = k.map kV
  | [], vs, h => h.nil_inv
  | x :: k, vs, h => by
    obtain ⟨v, r, rfl, h1, h2⟩ := h.cons_inv
    rw [Reps.key h2]
    cases x with
    | inl i => unfold Rep at h1; subst h1; rfl
    | inr i => unfold Rep at h1; obtain ⟨rfl, _⟩ := h1; rfl
theorem keyOf_rep {F : Addr → Prop} {H : Hp} {d : D} {v : V} {k : List Key} (h : keyOf d = some k) (r : RepT S F H d v) : ∃ b, v = .ref b ∧ H b = some (.tup (k.map kV)) := by
  cases keyOf_inj h
  obtain ⟨b, vs, rfl, hb, k'⟩ := (show RepT S F H (.tup _) v from r).tup
  cases Reps.key k'
  exact ⟨b, rfl, hb⟩
theorem pm_ix (hm : md ≠ .fr) (hK : X.K = S.K) (hu : X.A.units + 1 < cLine) (ha : PM S W .bor X a fa ea) (hb : PM S W .bor X b fb eb) (hs : PlainIx b) : PM S W md X (.Subscript a b pos) (bnd2 fa fb ixD) (ea ++ eb) :=
  ⟨fun pins s σ H Q I ⟨ρ, F, E, h⟩ => (pe_ix (ix_seq.or (ix_dic hu)) ha hb hs).run pins s σ H Q I (tM_two E h fun H x y dx dy E rx ry h => by
    rw [hK]
    unfold ixD at h
    split at h
    · split at h
      · rename_i hd
        obtain ⟨p, vs, rfl, hp, kp⟩ := rx.tup
        cases ry.int
        obtain ⟨v, hv, rv⟩ := atI_rep kp hd
        exact .inl (.inr (.inl ⟨p, vs, _, v, rfl, rfl, SqT.of hp, hv, h.at hm E.gd rv⟩))
      · exact h.elim
    · split at h
      · rename_i hd
        obtain ⟨p, vs, rfl, hp, kp⟩ := rx.lst
        cases ry.int
        obtain ⟨v, hv, rv⟩ := atI_rep kp hd
        exact .inl (.inl ⟨p, vs, _, v, rfl, rfl, .inl hp, hv, h.at hm E.gd rv⟩)
      · exact h.elim
    · split at h
      · rename_i hd
        obtain ⟨p, vs, rfl, hp, kp⟩ := rx.raw
        cases ry.int
        obtain ⟨v, hv, rv⟩ := atI_rep kp hd
        exact .inl (.inl ⟨p, vs, _, v, rfl, rfl, hp, hv, h.at hm E.gd rv⟩)
      · exact h.elim
    · split at h
      · rename_i hl
        split at h
        · rename_i c hd
          have ox := rx.strOk
          cases rx.str; cases ry.int
          exact .inl (.inr (.inr ⟨_, _, c, rfl, rfl, hl, hd, h.flat E.gd rfl (Rep.mk_str (strOk_at ox hd))⟩))
        · exact h.elim
      · exact h.elim
    · split at h
      · rename_i hk
        split at h
        · rename_i hd
          obtain ⟨p, kvs, rfl, hp, rfl, kp⟩ := (show ∃ a kvs, x = .ref a ∧ H a = some (.dT kvs) ∧ _ = kvs.map (fun p => keyD p.1) ∧ Reps S F H _ (kvs.map (·.2)) from rx)
          obtain ⟨q, rfl, hq⟩ := keyOf_rep hk ry
          obtain ⟨v, hv, rv⟩ := getK_val kp hd
          exact .inr ⟨p, v, rfl, by rw [← hv]; exact DGet.t hp hq, h.at hm E.gd rv⟩
        · exact h.elim
      · exact h.elim
    · exact h.elim)⟩
end
end PD
/-! The pure layer: slices, fields, built-ins by name, calls of defs and methods. -/
namespace PD
open PySem PySem.Spec PyProof.Rows L2
section
variable {S : Stat} {W : WX} {X : Cx} {md m : Md} {a b c e : Expr} {es : List Expr} {fa fb fc f : En → Res D} {fs : En → Res (List D)} {ea eb ec ix : List Nat} {pos p2 p : Pos}
/-! ### slices -/
/-- a slice's part -/
inductive PPart (S : Stat) (W : WX) (X : Cx) : Option Expr → (En → Res (Option Int)) → List Nat → Prop
  | no : PPart S W X none (fun _ => .ok none) []
  | yes {e : Expr} {f : En → Res D} {es : List Nat} (h : PM S W .bor X e f es) : PPart S W X (some e) (fun ρ => (f ρ).bind fun d => match d with | .int i => .ok (some i) | _ => .bad) es
def cutD {α : Type} (xs : List α) (lo hi : Option Int) : List α := (xs.drop (HT.sIx xs.length 0 lo)).take (HT.sIx xs.length xs.length hi - HT.sIx xs.length 0 lo)
theorem cutD_rep {F : Addr → Prop} {H : Hp} {ds : List D} {vs : List V} (r : Reps S F H ds vs) (lo hi : Option Int) : Reps S F H (cutD ds lo hi) (cutV vs lo hi) := by
  unfold cutD cutV
  rw [r.length]
  exact (r.drop _).take _
theorem cutD_all {ds : List D} {lo hi : Option Int} (h1 : HT.sIx ds.length 0 lo = 0) (h2 : HT.sIx ds.length ds.length hi = ds.length) : cutD ds lo hi = ds := by
  unfold cutD
  rw [h1, h2, List.drop_zero, Nat.sub_zero, List.take_length]
def sliceD : D → Option Int → Option Int → Res D
  | .tup xs, lo, hi => .ok (.tup (cutD xs lo hi))
  | .lst xs, lo, hi => .ok (.lst (cutD xs lo hi))
  | .str x, lo, hi => if x.length ≤ sizeLine ∧ PyData.strOk (cutS x lo hi) = true then .ok (.str (cutS x lo hi)) else .bad
  | _, _, _ => .bad
def slF (f : En → Res D) (fl fh : En → Res (Option Int)) : En → Res D := fun ρ => (f ρ).bind fun d => (fl ρ).bind fun l => (fh ρ).bind fun h => sliceD d l h
def PostO (S : Stat) (W : WX) (σ : L2.St) (H : Hp) (r : Res (Option Int)) (Q : Option Int → Hp → Prop) : Prop := match r with
  | .ok o => ∀ H', Ext H H' → Gd S H' → Q o H'
  | .exc c => ∀ H', Ext H H' → Gd S H' → W (.ref (S.eA c)) none σ H'
  | .bad => False
def tO (S : Stat) (W : WX) (f : En → Res (Option Int)) (es : List Nat) : TO := fun σ H Q => ∃ ρ F, EnvE S F ρ σ H es ∧ PostO S W σ H (f ρ) Q
theorem PPart.po {o : Option Expr} {f : En → Res (Option Int)} {es : List Nat} (h : PPart S W X o f es) : PO X o (tO S W f es) := by
  cases h with
  | no => exact ⟨fun pins s σ H Q I ⟨ρ, F, E, p⟩ => po_none.run pins s σ H Q I (p H (Ext.refl H) E.gd)⟩
  | yes h =>
    rename_i f
    exact ⟨fun pins s σ H Q I ⟨ρ, F, E, p⟩ => (po_some h).run pins s σ H Q I (by
      refine ⟨ρ, F, E, ?_⟩
      cases q : f ρ with
      | ok d =>
        simp only [q, Res.bind_ok] at p
        cases d with
        | int i =>
          intro v H1 e g r
          have r : RepT S F H1 (.int i) v := r
          cases r.int
          exact ⟨i, rfl, p H1 e g⟩
        | _ => exact p.elim
      | exc c => simp only [q, Res.bind_exc] at p; exact p
      | bad => simp only [q, Res.bind_bad] at p; exact p.elim)⟩
theorem tO_bind {F : Addr → Prop} {σ : L2.St} {H : Hp} {ρ : En} {es es' : List Nat} {fo : En → Res (Option Int)} {k : Option Int → Res D} {R : Option Int → Hp → Prop} {Q : VK} (E : EnvE S F ρ σ H es) (h : Post S W F md σ H ((fo ρ).bind k) Q)
    (c : ∀ o H1, Ext H H1 → EnvE S F ρ σ H1 es → Post S W F md σ H1 (k o) Q → R o H1) (hs : ∀ i ∈ es', i ∈ es) : tO S W fo es' σ H R := by
  refine ⟨ρ, F, E.sub hs, ?_⟩
  cases q : fo ρ with
  | ok o => rw [q] at h; exact fun H1 e g => c o H1 e (E.ext e g) (Post.ext h e)
  | exc x => rw [q] at h; exact h
  | bad => rw [q] at h; exact h
theorem pm_slice {lo hi : Option Expr} {fl fh : En → Res (Option Int)} {el eh : List Nat} (hK : X.K = S.K) (ha : PM S W .bor X a fa ea) (hl : PPart S W X lo fl el) (hh : PPart S W X hi fh eh) : PM S W md X (.Subscript a (.Slice lo hi none p2) pos) (slF fa fl fh) (ea ++ (el ++ eh)) :=
  ⟨fun pins s σ H Q I ⟨ρ, F, E, h⟩ => (pe_slice ((sl_tupA.or sl_list).or sl_str) ha hl.po hh.po).run pins s σ H Q I (by
    refine tM_bind (md' := .bor) E h (fun dx x H1 e1 E1 rx _ h1 => tO_bind E1 h1 (fun l H2 e2 E2 h2 => tO_bind E2 h2 (fun u H3 e3 E3 h3 => ?_) (fun i hi => List.mem_append_right _ (List.mem_append_right _ hi))) (fun i hi => List.mem_append_right _ (List.mem_append_left _ hi))) (fun i hi => List.mem_append_left _ hi)
    have rx : RepT S F H3 dx x := RepT.ext (e2.trans e3) rx
    rw [hK]
    cases dx with
    | tup xs =>
      obtain ⟨q, vs, rfl, hq, kq⟩ := rx.tup
      refine .inl (.inl ⟨q, vs, rfl, SqT.of hq, fun w => ?_, fun _ r hr => h3.newTup E3.gd hr (cutD_rep kq l u)⟩)
      rw [kq.length] at w
      have h3 : Post S W F md σ H3 (.ok (.tup (cutD xs l u))) Q := h3
      rw [cutD_all w.1 w.2] at h3
      exact h3.flat E3.gd rfl (Rep.mk_tup hq kq)
    | lst xs =>
      obtain ⟨q, vs, rfl, hq, kq⟩ := rx.lst
      exact .inl (.inr ⟨q, vs, rfl, .inl hq, fun r hr => h3.newLst E3.gd E3.fd hr (cutD_rep kq l u)⟩)
    | str z =>
      cases rx.str
      have h3 : Post S W F md σ H3 (if z.length ≤ sizeLine ∧ PyData.strOk (cutS z l u) = true then .ok (.str (cutS z l u)) else .bad) Q := h3
      split at h3
      · rename_i hc
        exact .inr ⟨z, rfl, hc.1, h3.flat E3.gd rfl (Rep.mk_str hc.2)⟩
      · exact h3.elim
    | _ => exact h3.elim)⟩

/-! ### fields -/
/-- what is known of the own class c -/
structure ClsAt (S : Stat) (c : Nat) : Prop where
  cls : Cls S.K (S.cA c)
  no : ∀ f ∈ S.fN c, NoAttr S.K (S.cA c) f
  nd : (S.fN c).Nodup
  few : (S.fN c).length < 1000
theorem lookup_zip {V : Type} {f : Str} : ∀ {ns : List Str} {vs : List V} {k : Nat} {v : V}, ns.Nodup → ns[k]? = some f → vs[k]? = some v → (ns.zip vs).lookup f = some v
  | [], _, _, _, _, e, _ => by simp at e
  | n :: ns, [], _, _, _, _, e => by simp at e
  | n :: ns, v :: vs, 0, w, _, e1, e2 => by
    simp at e1 e2
    subst e1 e2
    simp [List.lookup]
  | n :: ns, v :: vs, k + 1, w, nd, e1, e2 => by
    simp at e1 e2
    obtain ⟨h1, h2⟩ := List.nodup_cons.mp nd
    have ne : f ≠ n := fun z => h1 (z ▸ List.mem_of_getElem? e1)
    have : (f == n) = false := by simpa using ne
    simp only [List.zip_cons_cons, List.lookup, this]
    exact lookup_zip h2 e1 e2
def fldD (c k : Nat) : D → Res D
  | .obj c' fs => if c' = c then (match fs[k]? with | some d => .ok d | none => .bad) else .bad
  | _ => .bad
theorem pm_fld {c k : Nat} {nm : Str} (hm : md ≠ .fr) (hK : X.K = S.K) (C : ClsAt S c) (hk : (S.fN c)[k]? = some nm) (ha : PM S W .bor X a fa ea) (hb : attributeBase a nm X.env (eval a X.env) = eval a X.env) : PM S W md X (.Attribute a nm pos) (fun ρ => (fa ρ).bind (fldD c k)) ea :=
  ⟨fun pins s σ H Q I ⟨ρ, F, E, h⟩ => (pe_fld ha hb).run pins s σ H Q I (tM_bind (md' := .bor) E h (fun dx x H1 e1 E1 rx _ h1 => by
    cases dx with
    | obj c' ds =>
      unfold fldD at h1
      dsimp only at h1
      split at h1
      · rename_i hc
        subst hc
        split at h1
        · rename_i hd
          obtain ⟨q, dx, vs, rfl, hq, hl, kq⟩ := (show ∃ a dx vs, x = .ref a ∧ H1 a = some (.ins (S.cA c') dx ((S.fN c').zip vs)) ∧ vs.length = (S.fN c').length ∧ Reps S F H1 ds vs from rx)
          obtain ⟨v, hv, rv⟩ := kq.get hd
          exact ⟨q, _, dx, _, v, rfl, hq, by rw [hK]; exact C.cls, by rw [hK]; exact C.no _ (List.mem_of_getElem? hk), lookup_zip C.nd hk hv, h1.at hm E1.gd rv⟩
        · exact h1.elim
      · exact h1.elim
    | _ => exact h1.elim) fun i hi => hi)⟩

/-! ### built-ins by name -/
theorem pm_callB {id : String} {x : Str} {r : List V → Hp → VK → Prop} {k : List D → Res D} (hc : CallR X (.builtin id) r) (hg : Gl X x) (hm : X.mg x = none) (hv : bootBuiltins x = some (.builtin id)) (ha : PML S W .bor X (e :: es) fs ix)
    (hn : x ≠ "__name__") (hdb : (x == ("__debug__" : Str)) = false) (he : starEach (e :: es) X.env = (false, eval e X.env) :: starEach es X.env) (hpl : (backTo pos (starEach es X.env)).any (·.1) = false)
    (hk : ∀ F σ H ds vs Q, Gd S H → (∀ a, F a → H a ≠ none) → RepsT S F H ds vs → Post S W F md σ H (k ds) Q → r vs H Q) : PM S W md X (.Call (.Name x p) (e :: es) [] pos) (bndL fs k) ix :=
  ⟨fun pins s σ H Q I ⟨ρ, F, E, h⟩ => (pe_callB hc hg hm hv ha hn hdb he hpl).run pins s σ H Q I (tL_bind (m := .bor) E h (fun ds vs H1 e1 E1 r1 _ h1 => hk F σ H1 ds vs Q E1.gd E1.fd r1 h1) fun i hi => hi)⟩
theorem pm_callTy {id : String} {x : Str} {r : List V → Hp → VK → Prop} {k : List D → Res D} (hc : CallR X (.type id) r) (hg : Gl X x) (hm : X.mg x = none) (hv : bootBuiltins x = some (.type id)) (ha : PML S W .bor X (e :: es) fs ix)
    (hn : x ≠ "__name__") (hdb : (x == ("__debug__" : Str)) = false) (he : starEach (e :: es) X.env = (false, eval e X.env) :: starEach es X.env) (hpl : (backTo pos (starEach es X.env)).any (·.1) = false)
    (hk : ∀ F σ H ds vs Q, Gd S H → (∀ a, F a → H a ≠ none) → RepsT S F H ds vs → Post S W F md σ H (k ds) Q → r vs H Q) : PM S W md X (.Call (.Name x p) (e :: es) [] pos) (bndL fs k) ix :=
  ⟨fun pins s σ H Q I ⟨ρ, F, E, h⟩ => (pe_callTy hc hg hm hv ha hn hdb he hpl).run pins s σ H Q I (tL_bind (m := .bor) E h (fun ds vs H1 e1 E1 r1 _ h1 => hk F σ H1 ds vs Q E1.gd E1.fd r1 h1) fun i hi => hi)⟩
theorem RepsT.one {F : Addr → Prop} {H : Hp} {d : D} {vs : List V} (h : RepsT S F H [d] vs) : ∃ v, vs = [v] ∧ RepT S F H d v := by
  obtain ⟨v, r, rfl, h1, h2⟩ := h
  cases (show r = [] from h2)
  exact ⟨v, rfl, h1⟩
theorem RepsT.two {F : Addr → Prop} {H : Hp} {d d' : D} {vs : List V} (h : RepsT S F H [d, d'] vs) : ∃ v v', vs = [v, v'] ∧ RepT S F H d v ∧ RepT S F H d' v' := by
  obtain ⟨v, r, rfl, h1, h2⟩ := h
  obtain ⟨v', r', rfl, h3, h4⟩ := h2
  cases (show r' = [] from h4)
  exact ⟨v, v', rfl, h1, h3⟩
/-- the names that stand for built-ins -/
structure Bi (X : Cx) (x : Str) : Prop where
  gl : Gl X x
  no : X.mg x = none
  nn : x ≠ "__name__"
  nd : (x == ("__debug__" : Str)) = false
/-- a plain argument list -/
structure Ar (X : Cx) (e : Expr) (es : List Expr) (pos : Pos) : Prop where
  st : starEach (e :: es) X.env = (false, eval e X.env) :: starEach es X.env
  pl : (backTo pos (starEach es X.env)).any (·.1) = false
def lenD : List D → Res D
  | [.tup xs] => .ok (.int xs.length)
  | [.lst xs] => .ok (.int xs.length)
  | [.raw xs] => .ok (.int xs.length)
  | [.str x] => if x.length ≤ sizeLine then .ok (.int x.length) else .bad
  | _ => .bad
theorem pm_len (hK : X.K = S.K) (B : Bi X "len") (A : Ar X e es pos) (ha : PML S W .bor X (e :: es) fs ix) : PM S W md X (.Call (.Name "len" p) (e :: es) [] pos) (bndL fs lenD) ix :=
  pm_callB (call_len_seq.or call_len_str) B.gl B.no PySem.boot_len ha B.nn B.nd A.st A.pl fun F σ H ds vs Q g fd r h => by
    rw [hK]
    unfold lenD at h
    split at h
    · obtain ⟨v, rfl, r1⟩ := r.one
      obtain ⟨q, us, rfl, hq, kq⟩ := r1.tup
      exact .inl ⟨q, us, rfl, .inr (SqT.of hq), by rw [kq.length]; exact h.int g⟩
    · obtain ⟨v, rfl, r1⟩ := r.one
      obtain ⟨q, us, rfl, hq, kq⟩ := r1.lst
      exact .inl ⟨q, us, rfl, .inl (.inl hq), by rw [kq.length]; exact h.int g⟩
    · obtain ⟨v, rfl, r1⟩ := r.one
      obtain ⟨q, us, rfl, hq, kq⟩ := r1.raw
      exact .inl ⟨q, us, rfl, .inl hq, by rw [kq.length]; exact h.int g⟩
    · split at h
      · rename_i hl
        obtain ⟨v, rfl, r1⟩ := r.one
        cases r1.str
        exact .inr ⟨_, rfl, hl, h.int g⟩
      · exact h.elim
    · exact h.elim
def absD : List D → Res D
  | [.int i] => .ok (.int (if i < 0 then -i else i))
  | _ => .bad
theorem pm_abs (B : Bi X "abs") (A : Ar X e es pos) (hv : bootBuiltins "abs" = some (.builtin "abs")) (ha : PML S W .bor X (e :: es) fs ix) : PM S W md X (.Call (.Name "abs" p) (e :: es) [] pos) (bndL fs absD) ix :=
  pm_callB call_abs B.gl B.no hv ha B.nn B.nd A.st A.pl fun F σ H ds vs Q g fd r h => by
    unfold absD at h
    split at h
    · obtain ⟨v, rfl, r1⟩ := r.one
      cases r1.int
      exact ⟨_, rfl, h.int g⟩
    · exact h.elim
def maxD : List D → Res D
  | [.int i, .int j] => .ok (.int (if j > i then j else i))
  | _ => .bad
theorem pm_max (hcal : X.calm = true) (B : Bi X "max") (A : Ar X e es pos) (hv : bootBuiltins "max" = some (.builtin "max")) (ha : PML S W .bor X (e :: es) fs ix) : PM S W md X (.Call (.Name "max" p) (e :: es) [] pos) (bndL fs maxD) ix :=
  pm_callB (call_max2 hcal) B.gl B.no hv ha B.nn B.nd A.st A.pl fun F σ H ds vs Q g fd r h => by
    unfold maxD at h
    split at h
    · obtain ⟨v, v', rfl, r1, r2⟩ := r.two
      cases r1.int; cases r2.int
      exact ⟨_, _, rfl, h.int g⟩
    · exact h.elim
def minD : List D → Res D
  | [.int i, .int j] => .ok (.int (if j < i then j else i))
  | _ => .bad
theorem pm_min (hcal : X.calm = true) (B : Bi X "min") (A : Ar X e es pos) (hv : bootBuiltins "min" = some (.builtin "min")) (ha : PML S W .bor X (e :: es) fs ix) : PM S W md X (.Call (.Name "min" p) (e :: es) [] pos) (bndL fs minD) ix :=
  pm_callB (call_min2 hcal) B.gl B.no hv ha B.nn B.nd A.st A.pl fun F σ H ds vs Q g fd r h => by
    unfold minD at h
    split at h
    · obtain ⟨v, v', rfl, r1, r2⟩ := r.two
      cases r1.int; cases r2.int
      exact ⟨_, _, rfl, h.int g⟩
    · exact h.elim
def sumD : List D → Res D
  | [.lst ds] => match intsD ds with | some ns => .ok (.int ns.sum) | none => .bad
  | _ => .bad
theorem pm_sum (hK : X.K = S.K) (hcal : X.calm = true) (B : Bi X "sum") (A : Ar X e es pos) (hv : bootBuiltins "sum" = some (.builtin "sum")) (ha : PML S W .bor X (e :: es) fs ix) : PM S W md X (.Call (.Name "sum" p) (e :: es) [] pos) (bndL fs sumD) ix :=
  pm_callB (cr_sum hcal) B.gl B.no hv ha B.nn B.nd A.st A.pl fun F σ H ds vs Q g fd r h => by
    rw [hK]
    unfold sumD at h
    split at h
    · split at h
      · rename_i hi
        obtain ⟨v, rfl, r1⟩ := r.one
        obtain ⟨q, us, rfl, hq, kq⟩ := r1.lst
        cases intsD_rep hi kq
        exact ⟨q, _, rfl, .inl hq, h.int g⟩
      · exact h.elim
    · exact h.elim
def int1D : List D → Res D
  | [.int i] => .ok (.int i)
  | _ => .bad
theorem pm_intc (B : Bi X "int") (A : Ar X e es pos) (hv : bootBuiltins "int" = some (.type "int")) (ha : PML S W .bor X (e :: es) fs ix) : PM S W md X (.Call (.Name "int" p) (e :: es) [] pos) (bndL fs int1D) ix :=
  pm_callTy call_int1 B.gl B.no hv ha B.nn B.nd A.st A.pl fun F σ H ds vs Q g fd r h => by
    unfold int1D at h
    split at h
    · obtain ⟨v, rfl, r1⟩ := r.one
      cases r1.int
      exact .inl ⟨_, rfl, h.int g⟩
    · exact h.elim
def tupleD : List D → Res D
  | [.tup xs] => .ok (.tup xs)
  | [.lst xs] => .ok (.tup xs)
  | _ => .bad
theorem pm_tuple (hK : X.K = S.K) (B : Bi X "tuple") (A : Ar X e es pos) (hv : bootBuiltins "tuple" = some (.type "tuple")) (ha : PML S W .bor X (e :: es) fs ix) : PM S W md X (.Call (.Name "tuple" p) (e :: es) [] pos) (bndL fs tupleD) ix :=
  pm_callTy call_tuple_of B.gl B.no hv ha B.nn B.nd A.st A.pl fun F σ H ds vs Q g fd r h => by
    rw [hK]
    unfold tupleD at h
    split at h
    · obtain ⟨v, rfl, r1⟩ := r.one
      obtain ⟨q, us, rfl, hq, kq⟩ := r1.tup
      exact ⟨q, us, rfl, .inr ⟨SqT.of hq, h.flat g rfl (Rep.mk_tup hq kq)⟩⟩
    · obtain ⟨v, rfl, r1⟩ := r.one
      obtain ⟨q, us, rfl, hq, kq⟩ := r1.lst
      exact ⟨q, us, rfl, .inl ⟨.inl hq, fun l hl => h.newTup g hl kq⟩⟩
    · exact h.elim
def listD : List D → Res D
  | [.tup xs] => .ok (.lst xs)
  | [.lst xs] => .ok (.lst xs)
  | _ => .bad
theorem pm_list (hK : X.K = S.K) (B : Bi X "list") (A : Ar X e es pos) (hv : bootBuiltins "list" = some (.type "list")) (ha : PML S W .bor X (e :: es) fs ix) : PM S W md X (.Call (.Name "list" p) (e :: es) [] pos) (bndL fs listD) ix :=
  pm_callTy call_list_of B.gl B.no hv ha B.nn B.nd A.st A.pl fun F σ H ds vs Q g fd r h => by
    rw [hK]
    unfold listD at h
    split at h
    · obtain ⟨v, rfl, r1⟩ := r.one
      obtain ⟨q, us, rfl, hq, kq⟩ := r1.tup
      exact ⟨q, us, rfl, .inr (SqT.of hq), fun l hl => h.newLst g fd hl kq⟩
    · obtain ⟨v, rfl, r1⟩ := r.one
      obtain ⟨q, us, rfl, hq, kq⟩ := r1.lst
      exact ⟨q, us, rfl, .inl (.inl hq), fun l hl => h.newLst g fd hl kq⟩
    · exact h.elim
end
end PD
/-! The pure layer: isinstance, calls of defs and methods. -/
namespace PD
open PySem PySem.Spec PyProof.Rows L2
inductive Ty | int | tup | str
  deriving DecidableEq
def Ty.nm : Ty → String
  | .int => "int" | .tup => "tuple" | .str => "str"
def isTy : Ty → D → Bool
  | .int, .int _ | .int, .bl _ | .tup, .tup _ | .str, .str _ => true
  | _, _ => false
def D.isObj : D → Bool
  | .obj _ _ => true
  | _ => false
def isiD (t : Ty) (d : D) : Res Bool := if d.isObj then .bad else .ok (isTy t d)
theorem kits : kitB "NoneType" "int" = some false ∧ kitB "bool" "int" = some true ∧ kitB "int" "int" = some true ∧ kitB "str" "int" = some false ∧ kitB "tuple" "int" = some false ∧ kitB "list" "int" = some false ∧ kitB "dict" "int" = some false ∧
    kitB "NoneType" "tuple" = some false ∧ kitB "bool" "tuple" = some false ∧ kitB "int" "tuple" = some false ∧ kitB "str" "tuple" = some false ∧ kitB "tuple" "tuple" = some true ∧ kitB "list" "tuple" = some false ∧ kitB "dict" "tuple" = some false ∧
    kitB "NoneType" "str" = some false ∧ kitB "bool" "str" = some false ∧ kitB "int" "str" = some false ∧ kitB "str" "str" = some true ∧ kitB "tuple" "str" = some false ∧ kitB "list" "str" = some false ∧ kitB "dict" "str" = some false := by decide +kernel
section
variable {S : Stat} {W : WX} {X : Cx} {md m : Md} {a b c e : Expr} {es : List Expr} {fa fb fc f : En → Res D} {fs : En → Res (List D)} {ea eb ec ix : List Nat} {pos p2 p : Pos}
theorem RepT.ty {F : Addr → Prop} {H : Hp} {d : D} {v : V} (h : RepT S F H d v) (n : d.isObj = false) (t : Ty) : ∃ s, TyX S.K H v (.type s) ∧ kitB s t.nm = some (isTy t d) := by
  obtain ⟨k1, k2, k3, k4, k5, k6, k7, l1, l2, l3, l4, l5, l6, l7, m1, m2, m3, m4, m5, m6, m7⟩ := kits
  cases d with
  | non => cases h.non; exact ⟨"NoneType", .base .non, by cases t <;> assumption⟩
  | bl b => cases h.bl; exact ⟨"bool", .base (.bl b), by cases t <;> assumption⟩
  | int i => cases h.int; exact ⟨"int", .base (.int i), by cases t <;> assumption⟩
  | str x => cases h.str; exact ⟨"str", .base (.str x), by cases t <;> assumption⟩
  | tup ds => obtain ⟨q, vs, rfl, hq, _⟩ := h.tup; exact ⟨"tuple", .base (.tup hq), by cases t <;> assumption⟩
  | lst ds =>
    obtain ⟨q, vs, rfl, hq, _⟩ := h.lst
    refine ⟨"list", ?_, by cases t <;> assumption⟩
    rcases hq with hq | ⟨o, hq⟩
    · exact .base (.lst hq)
    · exact .base (.frz hq)
  | raw ds =>
    obtain ⟨q, vs, rfl, hq, _⟩ := h.raw
    refine ⟨"list", ?_, by cases t <;> assumption⟩
    rcases hq with (hq | ⟨o, hq⟩) | ⟨o, _, _, hq, hc, _⟩
    · exact .base (.lst hq)
    · exact .base (.frz hq)
    · exact .kList hq hc
  | dic ks ws =>
    obtain ⟨q, kvs, rfl, hq, _⟩ := (show ∃ a kvs, v = .ref a ∧ H a = some (.dT kvs) ∧ _ from h)
    exact ⟨"dict", .base (.dT hq), by cases t <;> assumption⟩
  | obj _ _ => cases n
/-- isinstance(a, int | tuple | str) -/
theorem pm_isi {t : Ty} {pt : Pos} {tn : Str} (hK : X.K = S.K) (B : Bi X "isinstance") (Bt : Bi X tn) (hv : bootBuiltins tn = some (.type t.nm)) (A : Ar X a [.Name tn pt] pos) (h2 : starEach [.Name tn pt] X.env = (false, eval (.Name tn pt) X.env) :: starEach [] X.env)
    (ha : PM S W .bor X a fa ea) : PM S W md X (.Call (.Name "isinstance" p) [a, .Name tn pt] [] pos) (fun ρ => (fa ρ).bind fun d => blD (isiD t d)) ea :=
  ⟨fun pins s σ H Q I ⟨ρ, F, E, h⟩ => (pe_callB call_isi B.gl B.no boot_isinstance (pa_cons ha (pa_cons (pe_bltn (v := .ty t.nm) Bt.gl Bt.no hv rfl Bt.nn Bt.nd) pa_nil h2) A.st) B.nn B.nd A.st A.pl).run pins s σ H Q I (tM_bind (md' := .bor) E h (fun d v H1 e1 E1 r1 _ h1 => by
    have r1 : RepT S F H1 d v := r1
    unfold isiD at h1
    by_cases n : d.isObj = true
    · rw [if_pos n] at h1; exact h1.elim
    · rw [if_neg n] at h1
      obtain ⟨s', t1, t2⟩ := r1.ty (Bool.eq_false_iff.mpr n) t
      rw [← hK] at t1
      exact ⟨v, .ty t.nm, .type s', .type t.nm, _, rfl, .ty _, t1, kit_ty t2, Post.bl E1.gd h1⟩) fun i hi => hi)⟩
/-- what isinstance asks of the own class c -/
structure IsiAt (S : Stat) (c : Nat) : Prop where
  ha : PySem.W.findIn S.K (.ref (S.cA c)) "__class__" = some (some (.builtin "object.__class__"))
  hn : PySem.W.specialIn S.K (.builtin "object.__class__") "__get__" = some (some (.builtin "getset_descriptor.__get__"))
  ht : PySem.W.takesIn S.K (.builtin "object.__class__") = some true
  hm : PySem.W.mroIn S.K (S.cA c) (.type "object") = some true
  no : PySem.W.kitOne S.K (.type "NoneType") (.ref (S.cA c)) = some false
def isiC (c : Nat) : D → Res Bool
  | .obj c' _ => if c' = c then .ok true else .bad
  | .non => .ok false
  | _ => .bad
theorem pm_isiC {k : Nat} {pt : Pos} {cn : Str} (hK : X.K = S.K) (C : ClsAt S k) (Is : IsiAt S k) (B : Bi X "isinstance") (hg : Gl X cn) (hm : X.mg cn = some (.ref (S.cA k))) (hd : (cn == ("__debug__" : Str)) = false) (A : Ar X a [.Name cn pt] pos)
    (h2 : starEach [.Name cn pt] X.env = (false, eval (.Name cn pt) X.env) :: starEach [] X.env) (ha : PM S W .bor X a fa ea) : PM S W md X (.Call (.Name "isinstance" p) [a, .Name cn pt] [] pos) (fun ρ => (fa ρ).bind fun d => blD (isiC k d)) ea :=
  ⟨fun pins s σ H Q I ⟨ρ, F, E, h⟩ => (pe_callB call_isi B.gl B.no boot_isinstance (pa_cons ha (pa_cons (pe_glob (v := .ref (S.cA k)) hg hm rfl hd) pa_nil h2) A.st) B.nn B.nd A.st A.pl).run pins s σ H Q I (tM_bind (md' := .bor) E h (fun d v H1 e1 E1 r1 _ h1 => by
    have r1 : RepT S F H1 d v := r1
    cases d with
    | obj c' ds =>
      unfold isiC at h1
      dsimp only at h1
      by_cases hc : c' = k
      · subst hc
        rw [if_pos rfl] at h1
        obtain ⟨q, dx, vs, rfl, hq, _⟩ := (show ∃ a dx vs, v = .ref a ∧ H1 a = some (.ins (S.cA c') dx ((S.fN c').zip vs)) ∧ _ from r1)
        refine ⟨.ref q, .ref (S.cA c'), .ref (S.cA c'), .ref (S.cA c'), true, rfl, .own _, .base (.ins hq (by rw [hK]; exact C.cls) (by rw [hK]; exact Is.ha) (by rw [hK]; exact Is.hn) (by rw [hK]; exact Is.ht) (by rw [hK]; exact Is.hm)), ?_, Post.bl E1.gd h1⟩
        unfold PySem.W.kitOne
        rw [if_pos (by simp)]
      · rw [if_neg hc] at h1; exact h1.elim
    | non =>
      cases r1.non
      exact ⟨.non, .ref (S.cA k), .type "NoneType", .ref (S.cA k), false, rfl, .own _, .base .non, by rw [hK]; exact Is.no, Post.bl E1.gd h1⟩
    | _ => exact h1.elim) fun i hi => hi)⟩

/-! ### calls -/
/-- a def of n arguments gives what φ tells -/
def spD (S : Stat) (φ : List D → Res D) (n : Nat) : Sp := fun vs H Q E => vs.length = n ∧ ∃ ds F, Gd S H ∧ (∀ a, F a → H a ≠ none) ∧ Reps S F H ds vs ∧ Post S (fun cls d _ H' => E cls d H') F .esc [] H (φ ds) Q
structure Known (S : Stat) (P : Program) (w : World) (mg : Str → Option Value) (base : Heap) (L : Nat) (nm : Str) (n : Nat) (φ : List D → Res D) : Prop where
  ex : ∃ (f : Addr) (fd : FuncData) (ps : List Str), mg nm = some (.ref f) ∧ PySem.W.keepIn S.K (.ref f) = true ∧ Binds S.K fd ps [] ∧ FnOk P w S.K mg base (L2.CX P w) L f fd ps (spD S φ n)
theorem pm_call {nm : Str} {n L : Nat} {φ : List D → Res D} (hK : X.K = S.K) (hk : Known S X.prog X.w X.mg X.base L nm n φ) (tk : Takes X W) (hr : Room L X.A) (hg : Gl X nm) (hd : (nm == ("__debug__" : Str)) = false) (A : Ar X e es pos) (ha : PML S W .esc X (e :: es) fs ix) (hl : (e :: es).length = n)
    (hfl : ∀ ρ ds, fs ρ = .ok ds → ds.length = n) : PM S W .esc X (.Call (.Name nm p) (e :: es) [] pos) (bndL fs φ) ix := by
  obtain ⟨f, fd, ps, hm, kp, bi, F⟩ := hk.ex
  rw [← hK] at kp bi F
  refine ⟨fun pins s σ H Q I ⟨ρ, F', E, h⟩ => (pe_callS F hr hg hm kp bi (fun σ => passAt tk σ) ha hd A.st A.pl).run pins s σ H Q I (tL_bind (m := .esc) E h (fun ds vs H1 e1 E1 r1 q1 h1 => ?_) fun i hi => hi)⟩
  have r1 : Reps S F' H1 ds vs := r1
  refine ⟨by rw [r1.length, hfl ρ ds q1], ds, F', E1.gd, E1.fd, r1, ?_⟩
  cases q : φ ds with
  | ok d => rw [q] at h1; exact h1
  | exc x => rw [q] at h1; exact h1
  | bad => rw [q] at h1; exact h1
/-- a method: it lets nothing out -/
structure KnownM (S : Stat) (P : Program) (w : World) (mg : Str → Option Value) (base : Heap) (L : Nat) (c : Nat) (nm : Str) (n : Nat) (φ : List D → Res D) : Prop where
  ex : ∃ (f : Addr) (fd : FuncData) (ps : List Str), Meth S.K (S.cA c) nm f ∧ nm ∉ S.fN c ∧ Binds S.K fd ps [] ∧ FnOk P w S.K mg base (L2.CX P w) L f fd ps (spD S φ n)
def noX (r : Res D) : Res D := match r with
  | .exc _ => .bad
  | r => r
theorem lookup_zip_none {V : Type} {f : Str} : ∀ {ns : List Str} {vs : List V}, f ∉ ns → (ns.zip vs).lookup f = none
  | [], _, _ => rfl
  | n :: ns, [], _ => rfl
  | n :: ns, v :: vs, h => by
    have : (f == n) = false := by simpa using fun z => h (by rw [z]; exact List.mem_cons_self)
    simp only [List.zip_cons_cons, List.lookup, this]
    exact lookup_zip_none fun z => h (List.mem_cons_of_mem _ z)
def D.isC (c : Nat) : D → Bool
  | .obj c' _ => decide (c' = c)
  | _ => false
def mthF (c : Nat) (φ : List D → Res D) (f : En → Res D) (fs : En → Res (List D)) : En → Res D := fun ρ => (f ρ).bind fun o => if o.isC c then (fs ρ).bind fun ds => noX (φ (o :: ds)) else .bad
theorem isC_obj {c : Nat} {d : D} (h : d.isC c = true) : ∃ fs, d = .obj c fs := by
  cases d <;> simp only [D.isC] at h <;> try cases h
  cases of_decide_eq_true h
  exact ⟨_, rfl⟩
theorem Rep.obj_inv {F : Addr → Prop} {H : Hp} {c : Nat} {ds : List D} {v : V} (h : Rep S F H (.obj c ds) v) : ∃ a dx vs, v = .ref a ∧ ¬ F a ∧ H a = some (.ins (S.cA c) dx ((S.fN c).zip vs)) ∧ vs.length = (S.fN c).length ∧ Reps S F H ds vs := by unfold Rep at h; exact h
theorem meth_post {F : Addr → Prop} {H : Hp} {σ : L2.St} {r : Res D} {Q : VK} (h : Post S W F .esc σ H (noX r) Q) : Post S (fun _ _ _ _ => False) F .esc [] H r Q := by
  cases r with
  | ok d => exact h
  | exc x => exact h.elim
  | bad => exact h
variable {o : Expr} {apos : Pos}
theorem pm_meth {k : Nat} {nm : Str} {n L : Nat} {φ : List D → Res D} {pl : Sem Bool} (hK : X.K = S.K) (C : ClsAt S k) (hk : KnownM S X.prog X.w X.mg X.base L k nm (n + 1) φ) (hr : Room L X.A) (A : Ar X e es pos) (ho : PM S W .esc X o f ea) (ha : PML S W .esc X (e :: es) fs ix)
    (hfl : ∀ ρ ds, fs ρ = .ok ds → ds.length = n) (ht : eval (.Call (.Attribute o nm apos) (e :: es) [] pos) X.env = (do
      let ov ← eval o X.env
      standAt apos.atName
      let (f, first) ← holding [ov] (getMethod ov nm pl)
      callWith pos f first (backTo pos (starEach (e :: es) X.env)) (backToKw pos (keywordEach [] X.env)))) : PM S W .esc X (.Call (.Attribute o nm apos) (e :: es) [] pos) (mthF k φ f fs) (ea ++ ix) := by
  obtain ⟨g, fd, ps, hm, hno, bi, F⟩ := hk.ex
  have C' : Cls X.K (S.cA k) := by rw [hK]; exact C.cls
  rw [← hK] at hm bi F
  refine ⟨fun pins s σ H Q I ⟨ρ, F', E, h⟩ => (pe_meth ho C' hm F hr bi .nil passL ha A.st A.pl ht).run pins s σ H Q I (tM_bind (md' := .esc) E h (fun d v H1 e1 E1 r1 _ h1 => ?_) fun i hi => List.mem_append_left _ hi)⟩
  have r1 : Rep S F' H1 d v := r1
  by_cases hc : d.isC k = true
  · rw [if_pos hc] at h1
    obtain ⟨ds, rfl⟩ := isC_obj hc
    obtain ⟨q, dx, vs, rfl, nF, hq, hl, kq⟩ := r1.obj_inv
    refine ⟨q, dx, _, rfl, hq, lookup_zip_none hno, tL_bind (m := .esc) E1 h1 (fun es' us H2 e2 E2 r2 q2 h2 => ?_) fun i hi => List.mem_append_right _ hi⟩
    have r2 : Reps S F' H2 es' us := r2
    rw [List.append_nil]
    exact ⟨by rw [List.length_cons, r2.length, hfl ρ es' q2], _, F', E2.gd, E2.fd, Reps.cons (Rep.ext e2 r1) r2, meth_post h2⟩
  · rw [if_neg hc] at h1
    exact h1.elim
theorem pm_meth0 {k : Nat} {nm : Str} {L : Nat} {φ : List D → Res D} {pl : Sem Bool} (hK : X.K = S.K) (C : ClsAt S k) (hk : KnownM S X.prog X.w X.mg X.base L k nm 1 φ) (hr : Room L X.A) (ho : PM S W .esc X o f ea)
    (ht : eval (.Call (.Attribute o nm apos) [] [] pos) X.env = (do
      let ov ← eval o X.env
      standAt apos.atName
      let (f, first) ← holding [ov] (getMethod ov nm pl)
      callWith pos f first (backTo pos (starEach [] X.env)) (backToKw pos (keywordEach [] X.env)))) : PM S W .esc X (.Call (.Attribute o nm apos) [] [] pos) (mthF k φ f fun _ => .ok []) ea := by
  obtain ⟨g, fd, ps, hm, hno, bi, F⟩ := hk.ex
  have C' : Cls X.K (S.cA k) := by rw [hK]; exact C.cls
  rw [← hK] at hm bi F
  refine ⟨fun pins s σ H Q I ⟨ρ, F', E, h⟩ => (pe_meth0 ho C' hm F hr bi .nil passL ht).run pins s σ H Q I (tM_bind (md' := .esc) E h (fun d v H1 e1 E1 r1 _ h1 => ?_) fun i hi => hi)⟩
  have r1 : Rep S F' H1 d v := r1
  by_cases hc : d.isC k = true
  · rw [if_pos hc] at h1
    obtain ⟨ds, rfl⟩ := isC_obj hc
    obtain ⟨q, dx, vs, rfl, nF, hq, hl, kq⟩ := r1.obj_inv
    refine ⟨q, dx, _, rfl, hq, lookup_zip_none hno, ?_⟩
    show spD S φ 1 ([V.ref q] ++ []) H1 Q E0
    exact ⟨rfl, _, F', E1.gd, E1.fd, Reps.cons r1 Reps.nil, meth_post h1⟩
  · rw [if_neg hc] at h1
    exact h1.elim
end
end PD
/-! The pure layer: what is walked, targets, list comprehensions. -/
namespace PD
open PySem PySem.Spec PyProof.Rows L2
/-! ### what is walked -/
def rngD (lo c : Int) (n : Nat) : List D := (List.range n).map fun i => D.int (lo + (i : Nat) * c)
/-- J walks ds, at the heap H -/
def ItR (S : Stat) (F : Addr → Prop) (H : Hp) (J : It) (ds : List D) : Prop :=
  (∃ a vs, J = Itl S.K a ∧ ¬ F a ∧ Rd H a (.lst vs) ∧ Reps S F H ds vs) ∨ (∃ a vs, J = Itt S.K a ∧ H a = some (.tup vs) ∧ Reps S F H ds vs) ∨
  (∃ lo n, J = Itr lo n ∧ ds = rngD lo 1 n) ∨ (∃ lo c n, J = Itc lo c n ∧ ds = rngD lo c n) ∨ (∃ x : Str, J = Its x ∧ ds = x.cps.toList.map (fun c => D.str ⟨#[c]⟩) ∧ PyData.strOk x = true)
section
variable {S : Stat} {F : Addr → Prop} {H H' : Hp} {J : It} {ds : List D}
theorem ItR.ext (h : ItR S F H J ds) (e : Ext H H') : ItR S F H' J ds := by
  rcases h with ⟨a, vs, h1, n, h2, h3⟩ | ⟨a, vs, h1, h2, h3⟩ | h | h | h
  · exact .inl ⟨a, vs, h1, n, Rd.ext h2 e, Reps.ext e h3⟩
  · exact .inr (.inl ⟨a, vs, h1, e.to _ _ h2 (fun _ z => nomatch z), Reps.ext e h3⟩)
  · exact .inr (.inr (.inl h))
  · exact .inr (.inr (.inr (.inl h)))
  · exact .inr (.inr (.inr (.inr h)))
theorem ItR.upd {p : Addr} {o u : HO} (h : ItR S F H J ds) (fp : F p) (hp : H p = some u) (nt : ∀ xs, u ≠ .tup xs) (nf : ∀ o xs, u ≠ .frz o xs) : ItR S F (L2.upd H p o) J ds := by
  rcases h with ⟨a, vs, h1, n, h2, h3⟩ | ⟨a, vs, h1, h2, h3⟩ | h | h | h
  · have ne : a ≠ p := fun z => n (z ▸ fp)
    refine .inl ⟨a, vs, h1, n, ?_, Reps.upd fp hp nt nf h3⟩
    rcases h2 with h2 | ⟨q, h2⟩
    · exact .inl ((upd_ne ne).trans h2)
    · exact .inr ⟨q, (upd_ne ne).trans h2⟩
  · refine .inr (.inl ⟨a, vs, h1, (upd_ne ?_).trans h2, Reps.upd fp hp nt nf h3⟩)
    rintro rfl; rw [hp] at h2; exact nt _ (Option.some.inj h2)
  · exact .inr (.inr (.inl h))
  · exact .inr (.inr (.inr (.inl h)))
  · exact .inr (.inr (.inr (.inr h)))
theorem ItR.plus {p : Addr} (h : ItR S F H J ds) (n : H p = none) : ItR S (fun b => F b ∨ b = p) H J ds := by
  rcases h with ⟨a, vs, h1, m, h2, h3⟩ | ⟨a, vs, h1, h2, h3⟩ | h | h | h
  · refine .inl ⟨a, vs, h1, fun z => z.elim m fun z => ?_, h2, Reps.plus n h3⟩
    subst z
    rcases h2 with h2 | ⟨q, h2⟩
    · rw [n] at h2; cases h2
    · rw [n] at h2; cases h2
  · exact .inr (.inl ⟨a, vs, h1, h2, Reps.plus n h3⟩)
  · exact .inr (.inr (.inl h))
  · exact .inr (.inr (.inr (.inl h)))
  · exact .inr (.inr (.inr (.inr h)))
theorem ItR.anti {F' : Addr → Prop} (h : ItR S F H J ds) (e : ∀ a, F' a → F a) : ItR S F' H J ds := by
  rcases h with ⟨a, vs, h1, m, h2, h3⟩ | ⟨a, vs, h1, h2, h3⟩ | h | h | h
  · exact .inl ⟨a, vs, h1, fun z => m (e _ z), h2, Reps.anti e h3⟩
  · exact .inr (.inl ⟨a, vs, h1, h2, Reps.anti e h3⟩)
  · exact .inr (.inr (.inl h))
  · exact .inr (.inr (.inr (.inl h)))
  · exact .inr (.inr (.inr (.inr h)))
theorem rngD_length (lo c : Int) (n : Nat) : (rngD lo c n).length = n := by unfold rngD; simp
theorem rngD_get {lo c : Int} {n i : Nat} (h : i < n) : (rngD lo c n)[i]? = some (.int (lo + (i : Nat) * c)) := by unfold rngD; simp [h]
theorem rngD_at {lo c : Int} {n i : Nat} (h : i < (rngD lo c n).length) : (rngD lo c n)[i] = .int (lo + (i : Nat) * c) := by
  have h' : i < n := by rw [rngD_length] at h; exact h
  have := rngD_get (lo := lo) (c := c) h'
  rw [List.getElem?_eq_getElem h] at this
  exact Option.some.inj this
theorem ItR.go {i : Nat} (h : ItR S F H J ds) (hi : i < ds.length) : J.go i H := by
  rcases h with ⟨a, vs, rfl, n, h2, h3⟩ | ⟨a, vs, rfl, h2, h3⟩ | ⟨lo, n, rfl, rfl⟩ | ⟨lo, c, n, rfl, rfl⟩ | ⟨x, rfl, rfl, _⟩
  · obtain ⟨v, hv, _⟩ := h3.get (List.getElem?_eq_getElem hi)
    exact ⟨vs, v, .inl h2, hv⟩
  · obtain ⟨v, hv, _⟩ := h3.get (List.getElem?_eq_getElem hi)
    exact ⟨vs, v, SqT.of h2, hv⟩
  · rw [rngD_length] at hi; exact hi
  · rw [rngD_length] at hi; exact hi
  · simpa [Its] using hi
theorem ItR.stop (h : ItR S F H J ds) : J.stop ds.length H := by
  rcases h with ⟨a, vs, rfl, n, h2, h3⟩ | ⟨a, vs, rfl, h2, h3⟩ | ⟨lo, n, rfl, rfl⟩ | ⟨lo, c, n, rfl, rfl⟩ | ⟨x, rfl, rfl, _⟩
  · exact ⟨vs, .inl h2, Nat.le_of_eq h3.length⟩
  · exact ⟨vs, SqT.of h2, Nat.le_of_eq h3.length⟩
  · show n ≤ _; rw [rngD_length]; exact Nat.le_refl _
  · show n ≤ _; rw [rngD_length]; exact Nat.le_refl _
  · show x.cps.size ≤ _; simp
theorem ItR.yld {i : Nat} {x : V} (h : ItR S F H J ds) (hi : i < ds.length) (y : J.yld i H x H') : H' = H ∧ Rep S F H ds[i] x := by
  rcases h with ⟨a, vs, rfl, n, h2, h3⟩ | ⟨a, vs, rfl, h2, h3⟩ | ⟨lo, n, rfl, rfl⟩ | ⟨lo, c, n, rfl, rfl⟩ | ⟨z, rfl, rfl, ok⟩
  · obtain ⟨v, hv, r⟩ := h3.get (List.getElem?_eq_getElem hi)
    obtain ⟨e, y⟩ := y
    have := y vs (.inl h2)
    rw [hv] at this
    cases this
    exact ⟨e, r⟩
  · obtain ⟨v, hv, r⟩ := h3.get (List.getElem?_eq_getElem hi)
    obtain ⟨e, y⟩ := y
    have := y vs (SqT.of h2)
    rw [hv] at this
    cases this
    exact ⟨e, r⟩
  · obtain ⟨e, y⟩ := y
    subst y
    refine ⟨e, ?_⟩
    rw [rngD_at, Int.mul_one]
    exact Rep.mk_int
  · obtain ⟨e, y⟩ := y
    subst y
    refine ⟨e, ?_⟩
    rw [rngD_at]
    exact Rep.mk_int
  · obtain ⟨e, c, hc, y⟩ := y
    subst y
    refine ⟨e, ?_⟩
    simp only [List.getElem_map]
    obtain ⟨h1, h2⟩ := Array.getElem?_eq_some_iff.mp hc
    have : z.cps.toList[i]'(by simpa using hi) = c := by rw [← h2]; simp
    rw [this]
    exact Rep.mk_str (strOk_one ok (by rw [← this]; exact List.getElem_mem _))
end
/-- the reading of what is walked -/
def PostI (S : Stat) (W : WX) (F : Addr → Prop) (σ : L2.St) (H : Hp) (r : Res (List D)) (R : It → Hp → Prop) : Prop := match r with
  | .ok ds => ∀ J H', Ext H H' → Gd S H' → ItR S F H' J ds → R J H'
  | .exc c => ∀ H', Ext H H' → Gd S H' → W (.ref (S.eA c)) none σ H'
  | .bad => False
def tI (S : Stat) (W : WX) (f : En → Res (List D)) (es : List Nat) : TI := fun σ H R => ∃ ρ F, EnvE S F ρ σ H es ∧ PostI S W F σ H (f ρ) R
def PIM (S : Stat) (W : WX) (X : Cx) (tg e : Expr) (f : En → Res (List D)) (es : List Nat) : Prop := PI X tg e (tI S W f es)
def itemsD : D → Res (List D)
  | .lst ds => .ok ds
  | .tup ds => .ok ds
  | .str x => .ok (x.cps.toList.map (fun c => D.str ⟨#[c]⟩))
  | _ => .bad
section
variable {S : Stat} {W : WX} {X : Cx} {md : Md} {tg e a : Expr} {es : List Expr} {f fa : En → Res D} {fs : En → Res (List D)} {ea ix : List Nat} {pos p : Pos}
theorem pim_seq (hK : X.K = S.K) (h : PM S W .esc X e f ea) : PIM S W X tg e (fun ρ => (f ρ).bind itemsD) ea := by
  refine ⟨fun pins s σ H R I ⟨ρ, F, E, k⟩ => ?_⟩
  cases q : f ρ with
  | ok d =>
    simp only [q, Res.bind_ok] at k
    cases d with
    | lst ds =>
      refine (pi_list h).run pins s σ H R I ⟨ρ, F, E, ?_⟩
      rw [q]
      intro v H1 e1 g1 r1
      have r1 : Rep S F H1 (.lst ds) v := r1
      unfold Rep at r1
      obtain ⟨a, vs, rfl, n, h2, h3⟩ := r1
      exact ⟨a, rfl, ⟨vs, .inl h2⟩, by rw [hK]; exact k _ H1 e1 g1 (.inl ⟨a, vs, rfl, n, h2, h3⟩)⟩
    | tup ds =>
      refine (pi_tup h).run pins s σ H R I ⟨ρ, F, E, ?_⟩
      rw [q]
      intro v H1 e1 g1 r1
      have r1 : Rep S F H1 (.tup ds) v := r1
      unfold Rep at r1
      obtain ⟨a, vs, rfl, h2, h3⟩ := r1
      exact ⟨a, rfl, ⟨vs, SqT.of h2⟩, by rw [hK]; exact k _ H1 e1 g1 (.inr (.inl ⟨a, vs, rfl, h2, h3⟩))⟩
    | str x =>
      refine (pi_str h).run pins s σ H R I ⟨ρ, F, E, ?_⟩
      rw [q]
      intro v H1 e1 g1 r1
      have r1 : Rep S F H1 (.str x) v := r1
      unfold Rep at r1
      obtain ⟨rfl, ok⟩ := r1
      exact ⟨x, rfl, k _ H1 e1 g1 (.inr (.inr (.inr (.inr ⟨x, rfl, rfl, ok⟩))))⟩
    | _ => exact k.elim
  | exc x =>
    simp only [q, Res.bind_exc] at k
    exact (pi_list h).run pins s σ H R I ⟨ρ, F, E, by rw [q]; exact k⟩
  | bad => simp only [q, Res.bind_bad] at k; exact k.elim
/-! ranges -/
def rngA1 : List D → Res (List D)
  | [.int j] => if -(2 ^ 62) ≤ j ∧ j < 2 ^ 62 then .ok (rngD 0 1 j.toNat) else .bad
  | _ => .bad
def rngA2 : List D → Res (List D)
  | [.int i, .int j] => if -(2 ^ 62) ≤ i ∧ i < 2 ^ 62 ∧ -(2 ^ 62) ≤ j ∧ j < 2 ^ 62 then .ok (rngD i 1 (j - i).toNat) else .bad
  | _ => .bad
def rngA3 : List D → Res (List D)
  | [.int i, .int j, .int c] => if c = -1 ∧ -(2 ^ 62) ≤ i ∧ i < 2 ^ 62 ∧ -(2 ^ 62) ≤ j ∧ j < 2 ^ 62 then .ok (rngD i (-1) (i - j).toNat) else .bad
  | _ => .bad
def bndI (fs : En → Res (List D)) (k : List D → Res (List D)) : En → Res (List D) := fun ρ => (fs ρ).bind k
theorem tL_bindI {F : Addr → Prop} {σ : L2.St} {H : Hp} {ρ : En} {k : List D → Res (List D)} {R : List V → Hp → Prop} {Q : It → Hp → Prop} (E : EnvE S F ρ σ H ix) (h : PostI S W F σ H ((fs ρ).bind k) Q)
    (c : ∀ ds vs H1, Ext H H1 → EnvE S F ρ σ H1 ix → RepsT S F H1 ds vs → PostI S W F σ H1 (k ds) Q → R vs H1) : tL S W .bor fs ix σ H R := by
  refine ⟨ρ, F, E, ?_⟩
  cases q : fs ρ with
  | ok ds =>
    rw [q, Res.bind_ok] at h
    intro vs H1 e g r
    refine c ds vs H1 e (E.ext e g) r ?_
    cases z : k ds with
    | ok ys => rw [z] at h; exact fun J H' e' g' => h J H' (e.trans e') g'
    | exc x => rw [z] at h; exact fun H' e' g' => h H' (e.trans e') g'
    | bad => rw [z] at h; exact h
  | exc x => rw [q] at h; exact h
  | bad => rw [q] at h; exact h
variable {b c : Expr}
theorem RepsT.three {F : Addr → Prop} {H : Hp} {d d' d'' : D} {vs : List V} (h : RepsT S F H [d, d', d''] vs) : ∃ v v' v'', vs = [v, v', v''] ∧ RepT S F H d v ∧ RepT S F H d' v' ∧ RepT S F H d'' v'' := by
  obtain ⟨v, r, rfl, h1, h2⟩ := h
  obtain ⟨v', v'', rfl, h3, h4⟩ := RepsT.two h2
  exact ⟨v, v', v'', rfl, h1, h3, h4⟩
theorem pim_rng1 (B : Bi X "range") (ha : PML S W .bor X [a] fs ix) (hs : starEach [a] X.env = [(false, eval a X.env)]) : PIM S W X tg (.Call (.Name "range" p) [a] [] pos) (bndI fs rngA1) ix :=
  ⟨fun pins s σ H R I ⟨ρ, F, E, h⟩ => (pi_range1 B.gl B.no ha hs).run pins s σ H R I (tL_bindI E h fun ds' vs H1 e E1 r h1 => by
    unfold rngA1 at h1
    split at h1
    · split at h1
      · rename_i hc
        obtain ⟨v, rfl, r1⟩ := r.one
        cases r1.int
        exact ⟨_, rfl, hc.1, hc.2, h1 _ H1 (Ext.refl _) E1.gd (.inr (.inr (.inl ⟨0, _, rfl, rfl⟩)))⟩
      · exact h1.elim
    · exact h1.elim)⟩
theorem pim_rng2 (B : Bi X "range") (ha : PML S W .bor X [a, b] fs ix) (hs : starEach [a, b] X.env = [(false, eval a X.env), (false, eval b X.env)]) (hs2 : starEach [b] X.env = [(false, eval b X.env)]) : PIM S W X tg (.Call (.Name "range" p) [a, b] [] pos) (bndI fs rngA2) ix :=
  ⟨fun pins s σ H R I ⟨ρ, F, E, h⟩ => (pi_range2 B.gl B.no ha hs hs2).run pins s σ H R I (tL_bindI E h fun ds' vs H1 e E1 r h1 => by
    unfold rngA2 at h1
    split at h1
    · split at h1
      · rename_i hc
        obtain ⟨v, v', rfl, r1, r2⟩ := r.two
        cases r1.int; cases r2.int
        exact ⟨_, _, rfl, hc, h1 _ H1 (Ext.refl _) E1.gd (.inr (.inr (.inl ⟨_, _, rfl, rfl⟩)))⟩
      · exact h1.elim
    · exact h1.elim)⟩
theorem pim_rng3 (B : Bi X "range") (ha : PML S W .bor X [a, b, c] fs ix) (hs : starEach [a, b, c] X.env = (false, eval a X.env) :: starEach [b, c] X.env) (hpl : (backTo pos (starEach [b, c] X.env)).any (·.1) = false) : PIM S W X tg (.Call (.Name "range" p) [a, b, c] [] pos) (bndI fs rngA3) ix :=
  ⟨fun pins s σ H R I ⟨ρ, F, E, h⟩ => (pi_range3 B.gl B.no ha hs hpl).run pins s σ H R I (tL_bindI E h fun ds' vs H1 e E1 r h1 => by
    unfold rngA3 at h1
    split at h1
    · split at h1
      · rename_i hc
        obtain ⟨hc1, hc2, hc3, hc4, hc5⟩ := hc
        obtain ⟨v, v', v'', rfl, r1, r2, r3⟩ := r.three
        cases r1.int; cases r2.int; cases r3.int
        subst hc1
        exact ⟨_, _, _, _, rfl, RgC.neg hc2 hc3 hc4 hc5, h1 _ H1 (Ext.refl _) E1.gd (.inr (.inr (.inr (.inl ⟨_, _, _, rfl, rfl⟩))))⟩
      · exact h1.elim
    · exact h1.elim)⟩
end

/-! ### targets -/
inductive Tg | one (i : Nat) | many (is : List Nat)
def setsE (ρ : En) : List Nat → List D → En
  | i :: is, d :: ds => setsE (ρ.set i (.pl d)) is ds
  | _, _ => ρ
def setsV (σ : L2.St) : List Nat → List V → L2.St
  | i :: is, v :: vs => setsV (σ.set i (some v)) is vs
  | _, _ => σ
def bindT (t : Tg) (d : D) (ρ : En) : Res En := match t with
  | .one i => .ok (ρ.set i (.pl d))
  | .many is => match d with
    | .tup ds => if ds.length = is.length then .ok (setsE ρ is ds) else .bad
    | .lst ds => if ds.length = is.length then .ok (setsE ρ is ds) else .bad
    | _ => .bad
def Tg.slots : Tg → List Nat
  | .one i => [i]
  | .many is => is
/-- names that are stored to -/
inductive NamesAt (X : Cx) : List Expr → List Nat → Prop
  | nil : NamesAt X [] []
  | cons {x : Str} {pos : Pos} {i : Nat} {es : List Expr} {is : List Nat} (h1 : X.N[i]? = some x) (h2 : Loc X.env.scope x) (h3 : X.fn x = true ∨ X.env.scope.names.lookup x = some .local) (t : NamesAt X es is) : NamesAt X (.Name x pos :: es) (i :: is)
inductive TgAt (X : Cx) : Expr → Tg → Prop
  | one {x : Str} {pos : Pos} {i : Nat} (h1 : X.N[i]? = some x) (h2 : Loc X.env.scope x) (h3 : X.fn x = true ∨ X.env.scope.names.lookup x = some .local) : TgAt X (.Name x pos) (.one i)
  | many {es : List Expr} {k : Nat} {pos : Pos} {is : List Nat} (h : NamesAt X es is) : TgAt X (.Tuple es k pos) (.many is)
def gNames (is : List Nat) : TGs := fun vs σ H Q => vs.length = is.length ∧ Q (setsV σ is vs) H
def gM (K : PySem.W.Frag) (t : Tg) : TG := match t with
  | .one i => gName i
  | .many is => fun v σ H Q => ∃ a xs, v = .ref a ∧ (SqT K H a xs ∨ SqL K H a xs) ∧ xs.length = is.length ∧ Q (setsV σ is xs) H
section
variable {X : Cx}
theorem NamesAt.pgs (hN : X.N.Nodup) : ∀ {es : List Expr} {is : List Nat}, NamesAt X es is → PGs X es (gNames is)
  | _, _, .nil => ⟨fun pins s σ H vs us Q I r h => pgs_nil.run pins s σ H vs us Q I r (by
      have : vs = [] := List.eq_nil_of_length_eq_zero h.1
      subst this
      exact ⟨rfl, h.2⟩)⟩
  | _, _, .cons h1 h2 h3 t => ⟨fun pins s σ H vs us Q I r h => (pgs_cons (pg_name hN h1 h2 h3) (NamesAt.pgs hN t)).run pins s σ H vs us Q I r (by
      obtain ⟨hl, h⟩ := h
      cases vs with
      | nil => cases hl
      | cons v vs => exact ⟨v, vs, rfl, by simpa using hl, h⟩)⟩
theorem NamesAt.len : ∀ {es : List Expr} {is : List Nat}, NamesAt X es is → (assignEach es X.env).length = is.length
  | _, _, .nil => rfl
  | _, _, .cons _ _ _ t => congrArg Nat.succ (NamesAt.len t)
theorem NamesAt.plain : ∀ {es : List Expr} {is : List Nat}, NamesAt X es is → (assignEach es X.env).findIdx? (·.1) = none
  | _, _, .nil => rfl
  | _, _, .cons _ _ _ t => by
    show List.findIdx? _ ((false, _) :: assignEach _ X.env) = none
    rw [List.findIdx?_cons]
    simp [NamesAt.plain t]
theorem TgAt.pg (hN : X.N.Nodup) (hc : X.calm = true) {e : Expr} {t : Tg} (h : TgAt X e t) : PG X e (gM X.K t) := by
  cases h with
  | one h1 h2 h3 => exact pg_name hN h1 h2 h3
  | many h =>
    rename_i es k pos is
    refine ⟨fun pins s σ H v u Q I r hw => ?_⟩
    obtain ⟨a, xs, rfl, hq, hl, q⟩ := hw
    rcases hq with hq | hq
    · exact (pg_tup hc (h.pgs hN) h.len h.plain).run pins s σ H _ u Q I r ⟨a, xs, rfl, hq, hl, hl, q⟩
    · exact (pg_lst hc (h.pgs hN) h.len h.plain).run pins s σ H _ u Q I r ⟨a, xs, rfl, hq, hl, hl, q⟩
end
end PD
/-! Generators whose elements call: the list of generators only grows. -/
namespace PD
open PySem PySem.Spec PyProof.Rows L2
theorem setGen_size (s : Shared) (g : Nat) (x : GenState) : (s.setGen g x).gens.size = s.gens.size := by simp [Shared.setGen]
theorem runs_gens {M : Model} {Γ : PySem.Ctx} {p : Pos} {t : Sem Fin} {fs : List Frame} {s : Shared} {e : End} {s' : Shared} (h : Runs M Γ p t fs s e s') : s.gens.size ≤ s'.gens.size := by
  induction h with
  | done | raise | yield => exact Nat.le_refl _
  | again _ _ ih | rule _ ih | «at» _ ih | loadIfAlive _ ih | point _ ih | ask _ ih | handled _ ih | stack _ ih | thread _ ih => exact ih
  | load _ _ ih | genState _ _ ih | resumeJustStarted _ _ _ ih | resumeRunning _ _ ih | resumeFinished _ _ ih => exact ih
  | update _ _ ih | choose _ _ ih => exact ih
  | alloc _ ih | fresh _ ih | os _ ih => exact ih
  | newGen _ ih => exact Nat.le_trans (by simp) ih
  | call _ _ ih1 ih2 => exact Nat.le_trans ih1 ih2
  | callSusp _ ih => exact ih
  | resumeFresh _ _ _ _ ih1 ih2 => rw [setGen_size] at ih1 ih2; exact Nat.le_trans ih1 ih2
  | resumeSuspended _ _ _ _ ih1 ih2 => rw [setGen_size] at ih1 ih2; exact Nat.le_trans ih1 ih2
  | resumeThrowFresh _ _ ih => rw [setGen_size] at ih; exact ih
  | segRet _ _ ih1 ih2 => exact Nat.le_trans ih1 ih2
  | segGen _ _ ih1 ih2 => rw [setGen_size] at ih2; exact Nat.le_trans ih1 ih2
  | segSuspOut _ _ ih => exact ih
  | segSuspGen _ _ _ _ ih1 ih2 => rw [setGen_size] at ih2; exact Nat.le_trans ih1 ih2
theorem wakes_gens {M : Model} {Γ : PySem.Ctx} {p : Pos} {g : Nat} {r : Resume} {s s' : Shared} {res : GenResult} (h : Wakes M Γ p g r s res s') : s.gens.size ≤ s'.gens.size := by
  unfold Wakes at h
  split at h
  · exact h.elim
  · split at h
    · obtain ⟨e, s1, h1, _, _, rfl⟩ := h
      have := runs_gens h1
      rw [setGen_size] at this ⊢; exact this
    · rw [h.2]; exact Nat.le_refl _
    · rw [h.2, setGen_size]; exact Nat.le_refl _
  · obtain ⟨e, s1, h1, _, _, rfl⟩ := h
    have := runs_gens h1
    rw [setGen_size] at this ⊢; exact this
  · rw [h.2]; exact Nat.le_refl _
  · rw [h.2]; exact Nat.le_refl _
theorem wp_gens {α : Type} {M : Model} {Γ : PySem.Ctx} (m : Sem α) : ∀ {Q : α → Pos → Shared → Prop} {E : Value → Pos → Shared → Prop} {p : Pos} {s : Shared} {n : Nat}, n ≤ s.gens.size → Sem.wp M Γ m Q E p s →
    Sem.wp M Γ m (fun a p' s' => Q a p' s' ∧ n ≤ s'.gens.size) (fun x p' s' => E x p' s' ∧ n ≤ s'.gens.size) p s := by
  induction m with
  | pure a => intro Q E p s n hn h; exact ⟨h, hn⟩
  | raise x => intro Q E p s n hn h; exact ⟨h, hn⟩
  | unsupported what => intro Q E p s n hn h; exact h.elim
  | finish x => intro Q E p s n hn h; exact h.elim
  | register a k => intro Q E p s n hn h; exact h.elim
  | yield v g l k => intro Q E p s n hn h; exact h.elim
  | fork c k => intro Q E p s n hn h; exact h.elim
  | await a f d l k => intro Q E p s n hn h; exact h.elim
  | rule tag k ih => intro Q E p s n hn h; exact ih () hn h
  | «at» p' k ih => intro Q E p s n hn h; exact ih () hn h
  | load a part k ih => intro Q E p s n hn h; obtain ⟨o, ho, h⟩ := h; exact ⟨o, ho, ih o hn h⟩
  | update a part f k ih => intro Q E p s n hn h; obtain ⟨ha, h⟩ := h; exact ⟨ha, ih () (by exact hn) h⟩
  | alloc o k ih => intro Q E p s n hn h; exact ih _ (by exact hn) h
  | loadIfAlive a k ih => intro Q E p s n hn h; exact ih _ hn h
  | point l k ih => intro Q E p s n hn h; exact ih () hn h
  | fresh k ih => intro Q E p s n hn h; exact ih _ (by exact hn) h
  | ask k ih => intro Q E p s n hn h; exact ih _ hn h
  | choose src n' k ih => intro Q E p s n hn h; obtain ⟨hz, h⟩ := h; exact ⟨hz, ih _ (by exact hn) h⟩
  | os q l k ih => intro Q E p s n hn h; exact ih _ (by exact hn) h
  | call c h g l k ih => intro Q E p s n hn hw; obtain ⟨r, s₁, hret, hw⟩ := hw; exact ⟨r, s₁, hret, ih r (Nat.le_trans hn (runs_gens hret)) hw⟩
  | handled own k ih => intro Q E p s n hn h; exact ih _ hn h
  | newGen c k ih => intro Q E p s n hn h; exact ih _ (by simp; omega) h
  | genState g k ih => intro Q E p s n hn h; obtain ⟨st, hg, h⟩ := h; exact ⟨st, hg, ih _ hn h⟩
  | resume g r l k ih => intro Q E p s n hn h; obtain ⟨res, s₁, hwk, h⟩ := h; exact ⟨res, s₁, hwk, ih res (Nat.le_trans hn (wakes_gens hwk)) h⟩
  | stack k ih => intro Q E p s n hn h; exact ih _ hn h
  | thread k ih => intro Q E p s n hn h; exact ih _ hn h
theorem wpAny_gens {α : Type} {M : Model} {A : Around} {m : Sem α} {Q : α → Shared → Prop} {E : Value → Shared → Prop} {s : Shared} (h : wpAny M A m Q E s) :
    wpAny M A m (fun a s' => Q a s' ∧ s.gens.size ≤ s'.gens.size) (fun x s' => E x s' ∧ s.gens.size ≤ s'.gens.size) s := fun Γ p hΓ => wp_gens m (Nat.le_refl _) (h Γ p hΓ)
end PD
/-! Generators whose elements call: the frame's context. -/
namespace PD
open PySem PySem.Spec PyProof.Rows L2
/-- the context of a generator expression's frame -/
abbrev gcx (X : Cx) (A' : Around) (s : Shared) (H : Hp) (cenv : Env) (fp : List Addr) : Cx := { X with A := A', s_0 := s, H_0 := H, env := cenv, outer := X.stack, stack := cenv :: X.stack, ex := fp, fn := fun _ => false, calm := true, pn := [], xe := fun _ _ => False }
structure GenOk (N : List Str) (sc scope : Scope) (own : List (Str × Nat)) : Prop extends BlkOk N sc scope own where
  co : scope.isCoroutine = false
  cell : ∀ y ∈ scope.names, y.2 ≠ .cell
  dot : scope.names.lookup (".0" : Str) = some NameKind.local
  ndot : (".0" : Str) ∉ N
section
variable {X : Cx} {pins : List (Addr × Obj)} {σ : L2.St} {H : Hp} {s : Shared}
theorem lookup_cl {cells : List (Str × Addr)} {names : List (Str × NameKind)} {y : Str} {c : Addr} (h : (cloFrom cells names []).lookup y = some c) (hf : ∀ z ∈ names, z.2 = .free → ∃ c, cells.lookup z.1 = some c) : cells.lookup y = some c ∧ (y, NameKind.free) ∈ names := by
  rcases cloFrom_mem (PySem.mem_of_lookup h) with z | ⟨z, rfl⟩
  · cases z
  · obtain ⟨c, hc⟩ := hf _ z rfl
    rw [hc]; exact ⟨rfl, z⟩
theorem gcx_ok {A' : Around} {scope : Scope} {own : List (Str × Nat)} {fp : List Addr} {code : Value} {bi : Addr} (I : Inv X pins σ H s) (ok : GenOk X.N X.env.scope scope own) (hfp : ∀ b ∈ fp, FpOk X pins H b ∧ b < s.heap.objs.size) (hA : A'.handled = none)
    (hbi : bi = builtinsNs) (hfr : A'.frames = some (genEnv scope (cloFrom X.env.cells scope.names []) s.heap.objs.size code bi X.env :: X.stack)) :
    (gcx X A' s H (genEnv scope (cloFrom X.env.cells scope.names []) s.heap.objs.size code bi X.env) fp).Ok := by
  have hfree : ∀ y ∈ scope.names, y.2 = .free → ∃ c, X.env.cells.lookup y.1 = some c := fun y hy e => by
    rcases ok.free y hy e with k | k
    · exact I.ok.has _ (.inl k)
    · exact I.ok.has _ (.inr k)
  have cm : ∀ {y c}, (cloFrom X.env.cells scope.names []).lookup y = some c → X.env.cells.lookup y = some c ∧ c < s.heap.objs.size := fun {y c} e => by
    obtain ⟨h1, _⟩ := lookup_cl e hfree
    obtain ⟨w, z⟩ := I.cell _ _ h1
    exact ⟨h1, z.lt⟩
  refine ⟨I.ok.mod, ok.kind, I.ok.glob, hbi, Nat.le_refl _, fun y z c e1 e2 => I.ok.inj y z c (cm e1).1 (cm e2).1, fun y hy => ?_, fun y c z e => absurd z Bool.false_ne_true, fun _ => hA, hfr, .inr ⟨rfl, rfl⟩, fun b hb => ⟨Nat.ne_of_lt (hfp b hb).2, fun y c e z => ?_⟩, I.bs, Nat.le_trans I.ok.bsz I.sz, fun b o e hb => ?_, fun b hb z => ?_, I.stack, I.stkFree⟩
  · rcases hy with hy | hy
    · exact absurd rfl (ok.cell _ (PySem.mem_of_lookup hy))
    · obtain ⟨c', e'⟩ := mem_lookup (cloFrom_has (cells := X.env.cells) (acc := []) (PySem.mem_of_lookup hy))
      exact ⟨c', e'⟩
  · exact (hfp b hb).1.2.2.2.2.1 y c (cm e).1 z
  · rcases (hfp b hb).1.2.2.2.1 with z | z
    · exact I.ok.noex b o e z
    · exact absurd (Nat.lt_of_lt_of_le (Heap.lt_size e) (Nat.le_trans I.ok.bsz z)) (Nat.lt_irrefl _)
  · rcases List.mem_cons.mp (I.stkSub b z) with z | z
    · exact (hfp b hb).1.2.1 z
    · exact (hfp b hb).1.2.2.1 z
/-- the frame and the generator's object have been laid -/
theorem gcx_start {A' : Around} {scope : Scope} {own : List (Str × Nat)} {fp : List Addr} {code : Value} {bi it : Addr} {h5 : Heap} {gs : GenState} {tk : Nat} {og : Obj} (I : Inv X pins σ H s) (ok : GenOk X.N X.env.scope scope own) (hN : X.N.Nodup) (hfp : ∀ b ∈ fp, FpOk X pins H b ∧ b < s.heap.objs.size) (hA : A'.handled = none)
    (hbi : bi = builtinsNs) (hfr : A'.frames = some (genEnv scope (cloFrom X.env.cells scope.names []) s.heap.objs.size code bi X.env :: X.stack))
    (hk : ∀ b o, s.heap.get? b = some o → h5.get? b = some o) (hn : h5.Ns s.heap.objs.size (fun y => if y = (".0" : Str) then some (.ref it) else none)) (hog : h5.get? (s.heap.objs.size + 1) = some og) (hnc : ∀ v, og.data ≠ .cell v) (hgs : gs.bare = true) :
    Inv (gcx X A' s H (genEnv scope (cloFrom X.env.cells scope.names []) s.heap.objs.size code bi X.env) fp) [(s.heap.objs.size + 1, og)] (wipe σ (own.map (·.2))) H { s with gens := s.gens.push gs, toks := tk, heap := h5 } := by
  have okB := gcx_ok (code := code) I ok hfp hA hbi hfr
  have hfree : ∀ y ∈ scope.names, y.2 = .free → ∃ c, X.env.cells.lookup y.1 = some c := fun y hy e => by
    rcases ok.free y hy e with k | k
    · exact I.ok.has _ (.inl k)
    · exact I.ok.has _ (.inr k)
  refine ⟨okB, rfl, I.bare.push hgs, Un.kept hk, ⟨_, hn, fun i y av e1 e2 e3 => ?_⟩, fun y c e => ?_, I.hok.fresh (Nat.le_refl _), fun y c e => ?_, fun p hp => ?_, I.hok.kept hk, by rw [wipe_length]; exact I.len⟩
  · obtain ⟨e2, hne⟩ := wipe_some e2
    have e3 : Vis scope y := e3
    have no : ∀ k, scope.names.lookup y = some k → ¬ (k = .local ∨ k = .cell) := fun k e hh => by
      rcases ok.own _ (PySem.mem_of_lookup e) hh with e' | e'
      · obtain ⟨p, hp, hpy⟩ := List.mem_map.mp e'
        have e3 := ok.ix p hp
        have : p.1 = y := hpy
        rw [this] at e3
        exact hne (List.mem_map.mpr ⟨p, hp, nodup_ix hN e3 e1⟩)
      · exact e' (List.mem_of_getElem? e1)
    have hfr' : scope.names.lookup y = some .free := by
      rcases e3 with e3 | e3 | e3
      · exact absurd (.inl rfl) (no _ e3)
      · exact absurd (.inr rfl) (no _ e3)
      · exact e3
    obtain ⟨m, _, hl⟩ := I.loc
    have hvis : Vis X.env.scope y := (ok.free _ (PySem.mem_of_lookup hfr') rfl).elim (fun k => .inr (.inl k)) (fun k => .inr (.inr k))
    obtain ⟨w, r, q⟩ := hl i y av e1 e2 hvis
    refine ⟨w, r, .inr ⟨.inr hfr', ?_⟩⟩
    obtain ⟨c', e'⟩ := mem_lookup (cloFrom_has (cells := X.env.cells) (acc := []) (PySem.mem_of_lookup hfr'))
    obtain ⟨h2, _⟩ := lookup_cl e' hfree
    rcases q with ⟨k, _⟩ | ⟨_, c, e, z⟩
    · have k : X.env.scope.names.lookup y = some .local := k
      rcases ok.free _ (PySem.mem_of_lookup hfr') rfl with k' | k' <;> rw [show X.env.scope.names.lookup y = _ from k'] at k <;> cases k
    · rw [h2] at e; cases e
      exact ⟨c', e', z.keeps hk⟩
  · obtain ⟨h1, _⟩ := lookup_cl e hfree
    obtain ⟨w, z⟩ := I.cell y c h1
    exact ⟨w, z.keeps hk⟩
  · obtain ⟨h1, _⟩ := lookup_cl e hfree
    exact I.freeC y c h1
  · have : p = (s.heap.objs.size + 1, og) := by simpa using hp
    subst this
    refine ⟨hog, I.hok.fresh (Nat.le_succ _), Nat.succ_ne_self _, fun z => ?_, hnc⟩
    obtain ⟨o, e, _⟩ := okB.funs.mem z
    obtain ⟨_, o, ho, _⟩ := okB.funs.mem z
    exact absurd (Heap.lt_size ho) (by show ¬ (s.heap.objs.size + 1 < s.heap.objs.size); omega)
end
end PD
/-! Generators whose elements call: the walk. -/
namespace PD
open PySem PySem.Spec PyProof.Rows L2
theorem thnG {α : Type} {M : Model} {A : Around} {t : Sem α} {Q Q' : α → Shared → Prop} {E : Value → Shared → Prop} {s : Shared} (h : wpAny M A t Q (fun _ _ => False) s) (k : ∀ a s', Q a s' → s.gens.size ≤ s'.gens.size → Q' a s') : wpAny M A t Q' E s :=
  wpAny_mono (wpAny_gens h) (fun a s' z => k a s' z.1 z.2) fun _ _ z => z.1.elim
abbrev gLoop (elt tg iter : Expr) (scope : Scope) (gp : Pos) (it : Addr) (cenv : Env) : Code := .compLoop (.GeneratorExp elt [⟨tg, iter, [], 0⟩] scope gp) 0 (.ref it) .none cenv
abbrev gStart (elt tg iter : Expr) (scope : Scope) (gp : Pos) (it : Addr) (cenv : Env) : Code := .compStart (.GeneratorExp elt [⟨tg, iter, [], 0⟩] scope gp) 0 (.ref it) .none cenv
/-- what stands between two turns -/
structure GMid (X : Cx) (pg : List (Addr × Obj)) (σ : L2.St) (fp : List Addr) (tn : Nat → Heap → Prop) (Wv : Nat → Hp → Prop) (i : Nat) (s : Shared) : Prop where
  ex : ∃ H, L2.Inv X pg σ H s ∧ tn i s.heap ∧ (∀ b ∈ fp, H b = none) ∧ Wv i H
/-- what a yield tells -/
def gYield (X : Cx) (pg : List (Addr × Obj)) (σ : L2.St) (fp : List Addr) (tn : Nat → Heap → Prop) (Wv : Nat → Hp → Prop) (QQ : Bool → Hp → Prop) (stop : Bool) (n : Nat) : Protocol := fun m s₀ v s₁ κ =>
  ∃ b, v = .bool b ∧ m < n ∧ s₀.gens.size ≤ s₁.gens.size ∧ (b = stop → ∃ H, L2.Inv X pg σ H s₁ ∧ QQ stop H) ∧ (b ≠ stop → GMid X pg σ fp tn Wv (n - m) s₁) ∧
    ((b = stop → False) → ∀ s'' : Shared, s''.heap = s₁.heap → s''.os = s₁.os → AllBare s''.gens → s₁.gens.size ≤ s''.gens.size → κ (.send .none) s'')
def gEnd (X : Cx) (pg : List (Addr × Obj)) (σ : L2.St) (QQ : Bool → Hp → Prop) (stop : Bool) : GenEnd := fun k s₀ r s₁ => r = .ok .next ∧ (k = 0 ∧ s₀.gens.size ≤ s₁.gens.size ∧ ∃ H, L2.Inv X pg σ H s₁ ∧ QQ (!stop) H)
section
variable {Y : Cx} {pg : List (Addr × Obj)} {σ0 : L2.St} {fp : List Addr} {tn : Nat → Heap → Prop} {Wv : Nat → Hp → Prop} {QQ : Bool → Hp → Prop} {stop : Bool} {n : Nat}
theorem inv_gens {s s'' : Shared} {σ : L2.St} {H : Hp} (I : L2.Inv Y pg σ H s) (h1 : s''.heap = s.heap) (h2 : s''.os = s.os) (h3 : AllBare s''.gens) : L2.Inv Y pg σ H s'' := by
  obtain ⟨hp, g', d', t', o'⟩ := s''
  have e1 : hp = s.heap := h1
  have e2 : o' = s.os := h2
  subst e1 e2
  exact ⟨I.ok, I.os, h3, I.base, I.loc, I.cell, I.free, I.freeC, I.pin, I.hok, I.len⟩
theorem GMid.gens {s s'' : Shared} {i : Nat} (I : GMid Y pg σ0 fp tn Wv i s) (h1 : s''.heap = s.heap) (h2 : s''.os = s.os) (h3 : AllBare s''.gens) : GMid Y pg σ0 fp tn Wv i s'' := by
  obtain ⟨H, a, b, c, d⟩ := I.ex
  exact ⟨H, inv_gens a h1 h2 h3, by rw [h1]; exact b, c, d⟩
variable {elt tg iter : Expr} {scope : Scope} {gp : Pos} {it : Addr} {g : TG} {te : TE} {vs : List Nat} {J : It} {σ : L2.St} {A1 : Around}
/-- one turn -/
def GTurn (J : It) (g : TG) (te : TE) (σ : L2.St) (vs : List Nat) (Wv : Nat → Hp → Prop) (QQ : Bool → Hp → Prop) (stop : Bool) (n : Nat) : Prop := ∀ i H, i ≤ n → Wv i H → (i = n → J.stop i H ∧ QQ (!stop) H) ∧ (i < n → J.go i H ∧ ∀ x H', J.yld i H x H' →
  g x (wipe σ vs) H' fun σ2 H2 => wipe σ2 vs = wipe σ vs ∧ te σ2 H2 fun y H3 => ∃ b, y = .bl b ∧ (b = stop → QQ stop H3) ∧ (b ≠ stop → Wv (i + 1) H3))
theorem gen_loop (hA : Y.A = A1.over (gLoop elt tg iter scope gp it Y.env) []) (hcal : Y.calm = true) (hex : Y.ex = fp) (hpn : Y.pn = []) (hpg : ∀ p ∈ pg, ∀ b ∈ fp, p.1 ≠ b) (hco : Y.env.scope.isCoroutine = false) (T : Turn Y.prog Y.w Y.K tg J fp it tn) (hg : PG Y tg g) (he : PE Y elt te) (hxe : Y.xe = fun _ _ => False)
    (turn : GTurn J g te σ vs Wv QQ stop n) : ∀ (k i : Nat) (s₀ s : Shared), n - i = k → i ≤ n → GMid Y pg (wipe σ vs) fp tn Wv i s → s₀.gens.size ≤ s.gens.size →
    Seg (model Y.prog Y.w) A1 (gEnd Y pg (wipe σ vs) QQ stop) (gYield Y pg (wipe σ vs) fp tn Wv QQ stop n) k s₀ (gLoop elt tg iter scope gp it Y.env) ((model Y.prog Y.w).den (gLoop elt tg iter scope gp it Y.env)) [] s := by
  have statF : ∀ {pl : List (Addr × Obj)} {σ' : L2.St} {H' : Hp} {s' : Shared}, L2.Inv Y pl σ' H' s' → (∀ p ∈ pl, ∀ b ∈ fp, p.1 ≠ b) → (∀ b ∈ fp, H' b = none) → ∀ b ∈ fp, FpOk Y pl H' b := fun {pl σ' H' s'} I' hp hn b hb =>
    have hb' : b ∈ Y.ex := by rw [hex]; exact hb
    ⟨hn b hb, (I'.ok.exf b hb').1, I'.ok.exfs b hb', .inl hb', fun x c e => (I'.ok.exf b hb').2 x c e, fun p hq => by rw [hpn, List.nil_append] at hq; exact hp p hq b hb⟩
  intro k
  induction k with
  | zero =>
    intro i s₀ s hk hi M hsz
    have hin : i = n := by omega
    subst hin
    obtain ⟨H, I, st, fr, w⟩ := M.ex
    obtain ⟨hstop, hq⟩ := (turn i H hi w).1 rfl
    show Seg _ A1 _ _ _ s₀ _ (Sem.onRaise (compTurn _ 0 (.ref it) .none Y.env) (leaving Y.env)) [] s
    rw [compTurn_gen, Sem.onRaise_eq_wrap]
    refine seg_bind_wrap (wpAny_standAt (seg_bind_wrap ?_))
    rw [← hA]
    refine thnG (T.done Y rfl rfl rfl hcal i pg s _ H (fun _ _ => False) I (statF I hpg fr) st hstop) fun r s1 ⟨e, I1⟩ hs1 => ?_
    subst e
    exact seg_end (.ok .next) ⟨rfl, rfl, Nat.le_trans hsz hs1, H, I1, hq⟩
  | succ k ih =>
    intro i s₀ s hk hi M hsz
    have hlt : i < n := by omega
    obtain ⟨H, I, st, fr, w⟩ := M.ex
    obtain ⟨hgo, step⟩ := (turn i H hi w).2 hlt
    show Seg _ A1 _ _ _ s₀ _ (Sem.onRaise (compTurn _ 0 (.ref it) .none Y.env) (leaving Y.env)) [] s
    rw [compTurn_gen, Sem.onRaise_eq_wrap]
    refine seg_bind_wrap (wpAny_standAt (seg_bind_wrap ?_))
    rw [← hA]
    refine thnG (T.item Y rfl rfl rfl hcal i pg s _ H (fun _ _ => False) I (statF I hpg fr) st hgo) fun r s1 ⟨u, e, h1⟩ hs1 => ?_
    subst e
    refine seg_bind_wrap ?_
    rw [← hA]
    refine thnG h1 fun _ s2 ⟨x, H2, I2, r2, y2, st2, fr2⟩ hs2 => ?_
    have I2' := I2.pinned (statF I2 hpg fr2) (T.obj _ _ st2)
    refine seg_bind_wrap ?_
    rw [← hA]
    have hgr := hg.run _ s2 _ H2 x u _ I2' r2 (step x H2 y2)
    rw [hxe] at hgr
    refine thnG hgr fun _ s3 ⟨σ3, H3, I3, hw3, q3⟩ hs3 => ?_
    refine seg_bind_wrap ?_
    simp only [List.forIn_nil]
    refine wpAny_pure ?_
    simp only [if_true]
    have hyo : ∀ v, yieldOut Y.env v = yieldValue v := fun v => by simp only [yieldOut, hco, Bool.false_eq_true, if_false]
    simp only [hyo]
    rw [Sem.bind_eq_wrap', Sem.bind_eq_wrap', Sem.wrap_wrap, Sem.wrap_wrap]
    refine seg_wrap ?_
    rw [← hA]
    have her := he.run _ s3 σ3 H3 _ I3 q3
    rw [hxe] at her
    refine thnG her fun v s4 ⟨yv, H4, I4, r4, b, hb, hst, hgo4⟩ hs4 => ?_
    subst hb
    have hv : v = .bool b := r4
    subst hv
    have fin : ∀ {H' : Hp}, L2.Inv Y (pg ++ pinsAt fp s2.heap) σ3 H' s4 → L2.Inv Y pg (wipe σ vs) H' s4 ∧ tn (i + 1) s4.heap ∧ (∀ b ∈ fp, H' b = none) := fun {H'} I' => by
      have pin' : ∀ b ∈ fp, ∀ o, s2.heap.get? b = some o → s4.heap.get? b = some o ∧ H' b = none := fun b hb o e =>
        let z := I'.pin (b, o) (List.mem_append_right _ (List.mem_append_right _ (mem_pinsAt hb e)))
        ⟨z.1, z.2.1⟩
      refine ⟨(I'.unpinned (pins := pg)).weak (by rw [← hw3, wipe_length]) fun j v e => ?_, T.keep _ _ _ st2 fun b hb o e => (pin' b hb o e).1, fun b hb => ?_⟩
      · rw [← hw3] at e
        exact (wipe_some e).1
      · obtain ⟨o, e, _⟩ := T.obj _ _ st2 b hb
        exact (pin' b hb o e).2
    obtain ⟨f1, f2, f3⟩ := fin I4
    have hnm : n - k = i + 1 := by omega
    refine seg_at (seg_yield rfl rfl rfl ⟨b, rfl, by omega, by omega, fun e => ⟨H4, f1, hst e⟩, fun e => ?_, fun e s'' a1 a2 a3 a4 => ?_⟩)
    · show GMid _ _ _ _ _ _ (n - k) s4
      rw [hnm]
      exact ⟨H4, f1, f2, f3, hgo4 e⟩
    · refine seg_again rfl (ih (i + 1) s'' s'' (by omega) hlt (GMid.gens ⟨H4, f1, f2, f3, hgo4 e⟩ a1 a2 a3) (Nat.le_refl _))
theorem gen_start (hA : Y.A = A1.over (gLoop elt tg iter scope gp it Y.env) []) (hcal : Y.calm = true) (hex : Y.ex = fp) (hpn : Y.pn = []) (hpg : ∀ p ∈ pg, ∀ b ∈ fp, p.1 ≠ b) (hco : Y.env.scope.isCoroutine = false) (T : Turn Y.prog Y.w Y.K tg J fp it tn) (hg : PG Y tg g) (he : PE Y elt te) (hxe : Y.xe = fun _ _ => False)
    (turn : GTurn J g te σ vs Wv QQ stop n) (s₀ s : Shared) (M : GMid Y pg (wipe σ vs) fp tn Wv 0 s) (hsz : s₀.gens.size ≤ s.gens.size) :
    Seg (model Y.prog Y.w) A1 (gEnd Y pg (wipe σ vs) QQ stop) (gYield Y pg (wipe σ vs) fp tn Wv QQ stop n) n s₀ (gStart elt tg iter scope gp it Y.env) ((model Y.prog Y.w).den (gStart elt tg iter scope gp it Y.env)) [] s := by
  have loop := gen_loop (k := n) (i := 0) (s₀ := s₀) (s := s) hA hcal hex hpn hpg hco T hg he hxe turn rfl (Nat.zero_le _) M hsz
  obtain ⟨H, I, st, fr, w⟩ := M.ex
  show Seg _ A1 _ _ _ s₀ _ (Sem.onRaise (compStart _ 0 (.ref it) .none Y.env) (leaving Y.env)) [] s
  unfold compStart
  rw [Sem.onRaise_eq_wrap]
  show Seg _ A1 _ _ _ s₀ _ (Sem.wrap _ _ _ _ (ask >>= _)) [] s
  refine seg_bind_wrap (wpAny_askSetting ?_)
  split
  · exact seg_again rfl loop
  · exact seg_bind_wrap (wpAny_rule (seg_bind_wrap (wpAny_standAt (seg_bind_wrap (T.self _ 0 s _ _ st (seg_again rfl loop))))))
end
end PD
/-! Generators whose elements call: all and any take one. -/
namespace PD
open PySem PySem.Spec PyProof.Rows L2
section
variable {Y : Cx} {pg : List (Addr × Obj)} {σ0 : L2.St} {fp : List Addr} {tn : Nat → Heap → Prop} {Wv : Nat → Hp → Prop} {QQ : Bool → Hp → Prop} {stop : Bool} {n : Nat} {A1 : Around} {a : Addr} {g : Nat}
/-- the generator, ready for turn i -/
structure GSt (Y : Cx) (pg : List (Addr × Obj)) (σ0 : L2.St) (fp : List Addr) (tn : Nat → Heap → Prop) (Wv : Nat → Hp → Prop) (QQ : Bool → Hp → Prop) (stop : Bool) (n : Nat) (A1 : Around) (a : Addr) (g i : Nat) (s : Shared) : Prop where
  isg : s.heap.IsGen a g
  lim : s.heap.NoLimit
  bare : AllBare s.gens
  gs : ∃ gs, s.gens[g]? = some gs ∧ ∀ s'' : Shared, s''.heap = s.heap → s''.os = s.os → AllBare s''.gens → s.gens.size ≤ s''.gens.size → gs.Goes (model Y.prog Y.w) A1 (gEnd Y pg σ0 QQ stop) (gYield Y pg σ0 fp tn Wv QQ stop n) (n - i) (.send .none) s''
theorem bare_set {s : Shared} {g : Nat} {x : GenState} (h : AllBare s.gens) (hx : x.bare = true) : AllBare (s.setGen g x).gens := by
  intro y hy
  have hy : y ∈ s.gens.setIfInBounds g x := hy
  obtain ⟨i, hi, rfl⟩ := Array.mem_iff_getElem.mp hy
  have hi' : i < s.gens.size := by simpa using hi
  rw [Array.getElem_setIfInBounds hi']
  split
  · exact hx
  · exact h _ (Array.getElem_mem hi')
/-- one next: an item that goes on, an item that ends it, the end -/
theorem gen_next {A : Around} (hA1 : A1 = A.in1) (hh : A.handled = none) (hroom : A.depth < recursionLimit) (ha : ∀ H s, L2.Inv Y pg σ0 H s → s.heap.IsGen a g) {i : Nat} {s : Shared} (G : GSt Y pg σ0 fp tn Wv QQ stop n A1 a g i s) {Q : Option Value → Shared → Prop} {E : Value → Shared → Prop}
    (h1 : ∀ s', i < n → GSt Y pg σ0 fp tn Wv QQ stop n A1 a g (i + 1) s' → Q (some (.bool (!stop))) s') (h2 : ∀ s' H, L2.Inv Y pg σ0 H s' → QQ stop H → Q (some (.bool stop)) s') (h3 : ∀ s' H, L2.Inv Y pg σ0 H s' → QQ (!stop) H → Q none s') :
    wpAny (model Y.prog Y.w) A (pyNext (.ref a)) Q E s := by
  obtain ⟨gs, hgs, hgo⟩ := G.gs
  subst hA1
  refine wpAny_pyNext_genexpQ (P := fun k s₀ s₁ => k = 0 ∧ s₀.gens.size ≤ s₁.gens.size ∧ ∃ H, L2.Inv Y pg σ0 H s₁ ∧ QQ (!stop) H) hh G.lim hroom G.isg hgs (hgo _ rfl rfl (bare_set G.bare rfl) (Nat.le_of_eq (setGen_size _ _ _).symm)) (fun v s₁ gs' hb hv => ?_) (fun s₁ hp h' hk => ?_)
  · obtain ⟨b, rfl, hm, hsz, y1, y2, y3⟩ := hv
    rw [setGen_size] at hsz
    have hg : g < s₁.gens.size := by
      obtain ⟨hl, _⟩ := Array.getElem?_eq_some_iff.mp hgs
      omega
    by_cases hbs : b = stop
    · obtain ⟨H, I, q⟩ := y1 hbs
      subst hbs
      exact h2 _ H (inv_gens I rfl rfl (bare_set I.bare hb)) q
    · have hbn : b = !stop := by cases b <;> cases stop <;> first | rfl | exact absurd rfl hbs
      have kap := y3 hbs
      have M := y2 hbs
      obtain ⟨H, I, _⟩ := M.ex
      have hn0 : ∃ m, n - i = m + 1 := by
        cases q : n - i with
        | zero =>
          rw [q] at kap
          exact (kap s₁ rfl rfl I.bare (Nat.le_refl _)).elim
        | succ m => exact ⟨m, rfl⟩
      obtain ⟨m, hm1⟩ := hn0
      rw [hm1] at kap
      subst hbn
      refine h1 _ (by omega) ⟨ha H s₁ I, I.nolimit, bare_set I.bare hb, gs', ?_, fun s'' a1 a2 a3 a4 => ?_⟩
      · show (s₁.gens.setIfInBounds g gs')[g]? = some gs'
        simp [hg]
      · have : n - (i + 1) = m := by omega
        rw [this]
        exact kap s'' a1 a2 a3 (by rw [setGen_size] at a4; exact a4)
  · obtain ⟨_, _, H, I, q⟩ := hp
    exact h3 _ H ((inv_gens I (s'' := s₁.setGen g .finished) rfl rfl (bare_set I.bare rfl)).kept (t' := (s₁.setGen g .finished).toks) hk) q
variable {A : Around}
theorem gen_all (hA1 : A1 = A.in1.in1) (hh : A.handled = none) (hroom : A.depth < recursionLimit) (ha : ∀ H s, L2.Inv Y pg σ0 H s → s.heap.IsGen a g) {R : Result → Shared → Prop} (hR : ∀ b H s', L2.Inv Y pg σ0 H s' → QQ b H → R (.ok (.ret (.bool b))) s') : ∀ (k i : Nat) (s : Shared), n - i = k →
    GSt Y pg σ0 fp tn Wv QQ false n A1 a g i s → codeAny (model Y.prog Y.w) A (.builtin "all.loop" ⟨[.ref a], []⟩) R s := by
  intro k
  induction k with
  | zero =>
    intro i s hk G
    refine codeAny_builtin F.entry_all_loop ?_
    rw [Around.under_plainId F.plain_all_loop]
    show wpAny _ A.in1 (pyNext (.ref a) >>= _) _ _ _
    refine wpAny_bind (gen_next hA1 hh hroom ha G (fun s' hi _ => by omega) (fun s' H I q => ?_) fun s' H I q => ?_)
    · refine wpAny_bind (wpAny_holding (wpAny_truthy_bool (wpAny_bind (wpAny_letGo ?_))))
      simp only [Bool.false_eq_true, if_false]
      exact wpAny_bind (wpAny_rule (wpAny_pure (hR false H _ I q)))
    · exact wpAny_bind (wpAny_rule (wpAny_pure (hR true H _ I q)))
  | succ k ih =>
    intro i s hk G
    refine codeAny_builtin F.entry_all_loop ?_
    rw [Around.under_plainId F.plain_all_loop]
    show wpAny _ A.in1 (pyNext (.ref a) >>= _) _ _ _
    refine wpAny_bind (gen_next hA1 hh hroom ha G (fun s' hi G' => ?_) (fun s' H I q => ?_) fun s' H I q => ?_)
    · refine wpAny_bind (wpAny_holding (wpAny_truthy_bool (wpAny_bind (wpAny_letGo ?_))))
      simp only [Bool.not_false, if_true]
      exact wpAny_pure ⟨plainId_quiet F.plain_all_loop _, ih (i + 1) s' (by omega) G'⟩
    · refine wpAny_bind (wpAny_holding (wpAny_truthy_bool (wpAny_bind (wpAny_letGo ?_))))
      simp only [Bool.false_eq_true, if_false]
      exact wpAny_bind (wpAny_rule (wpAny_pure (hR false H _ I q)))
    · exact wpAny_bind (wpAny_rule (wpAny_pure (hR true H _ I q)))
theorem gen_any (hA1 : A1 = A.in1.in1) (hh : A.handled = none) (hroom : A.depth < recursionLimit) (ha : ∀ H s, L2.Inv Y pg σ0 H s → s.heap.IsGen a g) {R : Result → Shared → Prop} (hR : ∀ b H s', L2.Inv Y pg σ0 H s' → QQ b H → R (.ok (.ret (.bool b))) s') : ∀ (k i : Nat) (s : Shared), n - i = k →
    GSt Y pg σ0 fp tn Wv QQ true n A1 a g i s → codeAny (model Y.prog Y.w) A (.builtin "any.loop" ⟨[.ref a], []⟩) R s := by
  intro k
  induction k with
  | zero =>
    intro i s hk G
    refine codeAny_builtin F.entry_any_loop ?_
    rw [Around.under_plainId F.plain_any_loop]
    show wpAny _ A.in1 (pyNext (.ref a) >>= _) _ _ _
    refine wpAny_bind (gen_next hA1 hh hroom ha G (fun s' hi _ => by omega) (fun s' H I q => ?_) fun s' H I q => ?_)
    · refine wpAny_bind (wpAny_holding (wpAny_truthy_bool (wpAny_bind (wpAny_letGo ?_))))
      simp only [if_true]
      exact wpAny_bind (wpAny_rule (wpAny_pure (hR true H _ I q)))
    · exact wpAny_bind (wpAny_rule (wpAny_pure (hR false H _ I q)))
  | succ k ih =>
    intro i s hk G
    refine codeAny_builtin F.entry_any_loop ?_
    rw [Around.under_plainId F.plain_any_loop]
    show wpAny _ A.in1 (pyNext (.ref a) >>= _) _ _ _
    refine wpAny_bind (gen_next hA1 hh hroom ha G (fun s' hi G' => ?_) (fun s' H I q => ?_) fun s' H I q => ?_)
    · refine wpAny_bind (wpAny_holding (wpAny_truthy_bool (wpAny_bind (wpAny_letGo ?_))))
      simp only [Bool.not_true, Bool.false_eq_true, if_false]
      exact wpAny_pure ⟨plainId_quiet F.plain_any_loop _, ih (i + 1) s' (by omega) G'⟩
    · refine wpAny_bind (wpAny_holding (wpAny_truthy_bool (wpAny_bind (wpAny_letGo ?_))))
      simp only [if_true]
      exact wpAny_bind (wpAny_rule (wpAny_pure (hR true H _ I q)))
    · exact wpAny_bind (wpAny_rule (wpAny_pure (hR false H _ I q)))
end
end PD
/-! Generators whose elements call: all(..), any(..) of a generator expression. -/
namespace PD
open PySem PySem.Spec PyProof.Rows L2 GxR
/-- the room within a generator's frame -/
theorem gen_room {k : Nat} {A : Around} {elt tg iter : Expr} {scope : Scope} {gp : Pos} {it : Addr} {cenv : Env} (r : Room (k + 1) A) : Room k (A.in1.in1.over (gLoop elt tg iter scope gp it cenv) []) := by
  have hw : (gLoop elt tg iter scope gp it cenv).weight = 1 := rfl
  have hu : (gLoop elt tg iter scope gp it cenv).cUnits = 3 := rfl
  refine ⟨r.hd, ?_, ?_⟩
  · have := r.dp
    show A.depth + 0 + (gLoop elt tg iter scope gp it cenv).weight + 3 * k + 5 < _
    omega
  · have := r.un
    show A.units + 1 + 1 + 0 + (gLoop elt tg iter scope gp it cenv).cUnits + 16 * k + 200 < _
    omega
theorem gen_frames {A : Around} {st : List Env} {elt tg iter : Expr} {scope : Scope} {gp : Pos} {it : Addr} {cenv : Env} (h : A.frames = some st) : (A.in1.in1.over (gLoop elt tg iter scope gp it cenv) []).frames = some (cenv :: st) := by
  show pushEnvs [cenv] (pushEnvs [] A.frames) = _
  rw [h]; rfl
/-- the walk of a generator expression's source, its turns -/
def tGen (wi : TI) (g : TG) (te : TE) (vs : List Nat) (P : Addr) (stop : Bool) : TE := fun σ H Q => wi σ H fun J H1 => TabG H1 P ∧ ∀ H2, Tabbed P H1 H2 → ∃ (n : Nat) (Wv : Nat → Hp → Prop), Wv 0 H2 ∧ GTurn J g te σ vs Wv (fun b H => Q (.bl b) H) stop n
section
variable {X : Cx} {pins : List (Addr × Obj)} {σ : L2.St} {H : Hp} {s : Shared}
/-- a generator made, ready to be walked -/
def GReady (X : Cx) (pins : List (Addr × Obj)) (σ : L2.St) (QQ : Bool → Hp → Prop) (stop : Bool) (a : Addr) (s5 : Shared) : Prop :=
  ∃ (Y : Cx) (pg : List (Addr × Obj)) (σ0 : L2.St) (fp : List Addr) (tn : Nat → Heap → Prop) (Wv : Nat → Hp → Prop) (n g : Nat), Y.prog = X.prog ∧ Y.w = X.w ∧ GSt Y pg σ0 fp tn Wv QQ stop n X.A.in1.in1 a g 0 s5 ∧ (∀ H s', L2.Inv Y pg σ0 H s' → s'.heap.IsGen a g) ∧ ∀ H s', L2.Inv Y pg σ0 H s' → L2.Inv X pins σ H s'
theorem gen_make {c P : Addr} {elt tg iter : Expr} {gpos : Pos} {scope : Scope} {own : List (Str × Nat)} {wi : TI} {g : TG} {te : TE} {k : Nat} {stop : Bool} {Q' : Value → Shared → Prop} {QQ : VK}
    (hr : Room (k + 1) X.A) (TB : TabB X.base X.mg c P) (hcode : X.env.code = .ref c) (ok : GenOk X.N X.env.scope scope own) (hN : X.N.Nodup) (hi : PI X tg iter wi)
    (hg : ∀ (A' : Around) (s : Shared) (H : Hp) (C : Addr) (cv : Value) (cl : List (Str × Addr)) (fp : List Addr), Room k A' → PG (gcx X A' s H (genEnv scope cl C cv builtinsNs X.env) fp) tg g)
    (he : ∀ (A' : Around) (s : Shared) (H : Hp) (C : Addr) (cv : Value) (cl : List (Str × Addr)) (fp : List Addr), Room k A' → PE (gcx X A' s H (genEnv scope cl C cv builtinsNs X.env) fp) elt te)
    (hs : ∀ v, genFold iter X.env v = pure v) (I : L2.Inv X pins σ H s) (h : tGen wi g te (own.map (·.2)) P stop σ H QQ)
    (hQ : ∀ a s5, GReady X pins σ (fun b H => QQ (.bl b) H) stop a s5 → Q' (.ref a) s5) : wpAny (model X.prog X.w) X.A (eval (.GeneratorExp elt [⟨tg, iter, [], 0⟩] scope gpos) X.env) Q' X.xe s := by
  have hfree : ∀ y ∈ scope.names, y.2 = .free → ∃ c, X.env.cells.lookup y.1 = some c := fun y hy e => by
    rcases ok.free y hy e with k | k
    · exact I.ok.has _ (.inl k)
    · exact I.ok.has _ (.inr k)
  refine wpAny_GeneratorExp_make ok.co (closure_ok hfree) ok.cell ok.dot ok.kind (by have := hr.dp; omega) ?_ hs
  refine thn (hi.run pins s σ H _ I h) fun xv s1 hx => thn hx fun itv s2 h2 => ?_
  obtain ⟨it, fp, tn, J, H1, e, I2, T, st2, f2, ⟨ps, hP, ht⟩, q⟩ := h2
  subst e
  have hPs : s2.heap.get? P = some { cls := .none, data := .fields ps } := I2.hok P _ hP
  have hPf : ∀ b ∈ fp, b ≠ P := fun b hb z => by have := (f2 b hb).1; rw [z, hP] at this; cases this
  have cd : PySem.W.CodeHd s2.heap c P := TB.code.keeps fun b u e => I2.bk b u e
  have cont : ∀ (code : Value) (h3 : Heap) (tk : Nat) (ps' : Array Value), Heap.ExtBut P s2.heap h3 → s2.heap.objs.size ≤ h3.objs.size → h3.get? P = some { cls := .none, data := .fields ps' } → (∃ more, ps' = ps ++ more) → TriplesOk ps'.toList →
      wpAny (model X.prog X.w) X.A (builtinsFor X.env.globals X.env.builtins) (fun bi s₄ => ∀ h', h'.Ns s₄.heap.objs.size (fun y => if y = ".0" then some (.ref it) else none) → Heap.SameBut s₄.heap.objs.size (s₄.heap.push { cls := .type "frame", data := .dict #[] }) h' →
          Q' (.ref h'.objs.size) { s₄ with
            gens := s₄.gens.push (.fresh (.compStart (.GeneratorExp elt [⟨tg, iter, [], 0⟩] scope gpos) 0 (.ref it) .none (genEnv scope (cloFrom X.env.cells scope.names []) s₄.heap.objs.size code bi X.env))),
            toks := s₄.toks + 1 + 1 + 1,
            heap := h'.push { cls := .type "generator", data := .fields #[.int s₄.gens.size 0, .str "<genexpr>" (s₄.toks + 1), .str (X.env.qual ++ "<genexpr>") (s₄.toks + 1 + 1)] } }) X.xe { s2 with heap := h3, toks := tk } := by
    intro code h3 tk ps' hx hsz hP3 hmore ht3
    obtain ⟨more, rfl⟩ := hmore
    obtain ⟨bm, ob, e1, e2, e3, e4, e5, e6, e7, e8⟩ := TB.bm
    have keep3 : ∀ b u, b ≠ P → s2.heap.get? b = some u → h3.get? b = some u := fun b u hb e => hx b u hb e
    have I3 : L2.Inv X pins σ (upd H1 P (.tbl (ps ++ more))) { s2 with heap := h3, toks := tk } := inv_tab (more := more) (g' := s2.gens) (d' := s2.drawn) I2 hP keep3 hP3 I2.bare
    refine wpAny_builtinsFor (m := X.mg) (by rw [I2.ok.glob]; exact (I2.mod.glob.keeps I2.bk).extBut hx TB.gP) e1 e2 (keep3 _ _ e4 (I2.bk _ _ e5)) e6 e7 e8 ?_
    obtain ⟨n, Wv, w0, turn⟩ := q (upd H1 P (.tbl (ps ++ more))) ⟨⟨ps ++ more, upd_same, ht3⟩, fun b hb => upd_ne hb⟩
    generalize hs4 : ({ s2 with heap := h3, toks := tk } : Shared) = s4 at I3
    have h43 : s4.heap = h3 := by rw [← hs4]
    have hsl : ∀ b ∈ fp, b < s2.heap.objs.size := fun b hb => by
      obtain ⟨o, e, _⟩ := T.obj _ _ st2 b hb
      exact Heap.lt_size e
    have f4 : ∀ b ∈ fp, FpOk X pins (upd H1 P (.tbl (ps ++ more))) b ∧ b < s4.heap.objs.size := fun b hb => by
      refine ⟨⟨?_, (f2 b hb).2⟩, by rw [h43]; exact Nat.lt_of_lt_of_le (hsl b hb) hsz⟩
      rw [upd_ne (hPf b hb)]; exact (f2 b hb).1
    have st4 : tn 0 s4.heap := T.keep _ _ _ st2 fun b hb o e => by rw [h43]; exact keep3 b o (hPf b hb) e
    intro h' hn' hs'
    have hsz' : h'.objs.size = s4.heap.objs.size + 1 := by rw [hs'.1, Heap.size_push]
    have keep' : ∀ b o, s4.heap.get? b = some o → h'.get? b = some o := fun b o e => hs'.extBut b o (Nat.ne_of_lt (Heap.lt_size e)) (Heap.get?_push_of_some _ e)
    generalize hog : ({ cls := .type "generator", data := .fields #[.int s4.gens.size 0, .str "<genexpr>" (s4.toks + 1), .str (X.env.qual ++ "<genexpr>") (s4.toks + 1 + 1)] } : Obj) = og
    have hogat : (h'.push og).get? (s4.heap.objs.size + 1) = some og := by rw [← hsz']; exact Heap.get?_push_size _ (by rw [← hog]; rfl)
    have hA' := gen_room (elt := elt) (tg := tg) (iter := iter) (scope := scope) (gp := gpos) (it := it) (cenv := genEnv scope (cloFrom X.env.cells scope.names []) s4.heap.objs.size code builtinsNs X.env) hr
    have hF' := gen_frames (elt := elt) (tg := tg) (iter := iter) (scope := scope) (gp := gpos) (it := it) (cenv := genEnv scope (cloFrom X.env.cells scope.names []) s4.heap.objs.size code builtinsNs X.env) I2.ok.frames
    have I5 := gcx_start (tk := s4.toks + 1 + 1 + 1) (h5 := h'.push og) (it := it) (gs := .fresh (.compStart (.GeneratorExp elt [⟨tg, iter, [], 0⟩] scope gpos) 0 (.ref it) .none (genEnv scope (cloFrom X.env.cells scope.names []) s4.heap.objs.size code builtinsNs X.env))) I3 ok hN f4 hA'.hd rfl hF' (fun b o e => Heap.get?_push_of_some _ (keep' b o e)) (hn'.push _) hogat (fun v => by rw [← hog]; exact fun z => nomatch z) rfl
    have pgA := hg _ s4 (upd H1 P (.tbl (ps ++ more))) s4.heap.objs.size code (cloFrom X.env.cells scope.names []) fp hA'
    have peA := he _ s4 (upd H1 P (.tbl (ps ++ more))) s4.heap.objs.size code (cloFrom X.env.cells scope.names []) fp hA'
    rw [hsz']
    refine hQ _ _ ⟨gcx X (X.A.in1.in1.over (gLoop elt tg iter scope gpos it (genEnv scope (cloFrom X.env.cells scope.names []) s4.heap.objs.size code builtinsNs X.env)) []) s4 (upd H1 P (.tbl (ps ++ more))) (genEnv scope (cloFrom X.env.cells scope.names []) s4.heap.objs.size code builtinsNs X.env) fp, [(s4.heap.objs.size + 1, og)], L2.wipe σ (own.map (·.2)), fp, tn, Wv, n, s4.gens.size, rfl, rfl, ⟨?_, I5.nolimit, I5.bare, _, Array.getElem?_push_size, fun s'' a1 a2 a3 a4 => ⟨rfl, ?_⟩⟩, fun H' s' I' => ?_, fun H' s' I' => ?_⟩
    · exact ⟨og, _, _, hogat, by rw [← hog], by rw [← hog], by rw [← hog]⟩
    · refine gen_start (Y := gcx X _ s4 (upd H1 P (.tbl (ps ++ more))) (genEnv scope (cloFrom X.env.cells scope.names []) s4.heap.objs.size code builtinsNs X.env) fp) rfl rfl rfl rfl (fun p hp b hb z => ?_) ok.co T pgA peA rfl turn s'' s'' (GMid.gens ⟨_, I5, ?_, fun b hb => (f4 b hb).1.1, w0⟩ a1 a2 a3) (Nat.le_refl _)
      · have hp : p = (s4.heap.objs.size + 1, og) := by simpa using hp
        rw [hp] at z
        have h9 : (b : Nat) < s4.heap.objs.size := (f4 b hb).2
        rw [← z] at h9
        exact absurd h9 (Nat.not_lt.mpr (Nat.le_succ _))
      · exact T.keep _ _ _ st4 fun b hb o e => Heap.get?_push_of_some _ (keep' b o e)
    · obtain ⟨e, _⟩ := I'.pin (s4.heap.objs.size + 1, og) (by simp)
      exact ⟨og, _, _, e, by rw [← hog], by rw [← hog], by rw [← hog]⟩
    · exact I3.call' (ch := fp) I'.os I'.base I'.hok I'.bare fun b hb => ⟨(f4 b hb).1.2.2.2.1, (f4 b hb).1.2.1, (f4 b hb).1.2.2.2.2.1, (f4 b hb).1.2.2.2.2.2⟩
  refine ⟨I2.nolimit, ?_⟩
  cases hf : codeAmong gpos ps.toList with
  | none =>
    refine wpAny_genexprCodeX hcode (cd.code hPs ht) (cd.tab hPs) hf fun c' h' tk hx hge hlt hco' _ htab' _ => ?_
    obtain ⟨o1, vs, f1, tf, fl, tg', inF, tx, tt, op, _, _, _, _, _, _, _, _, _, htr, _⟩ := hco'
    exact cont _ h' tk _ hx (Nat.le_trans hge (Nat.le_of_lt hlt)) htab'.2 ⟨_, rfl⟩ htr
  | some cv =>
    exact wpAny_genexprCode_hit hcode (cd.code hPs ht) hf (cont cv s2.heap s2.toks ps (Heap.ExtBut.refl _ _) (Nat.le_refl _) hPs ⟨#[], by simp⟩ ht)
/-- all(..), any(..) of a generator expression -/
theorem pe_allG {c P : Addr} {elt tg iter : Expr} {p pos gpos : Pos} {scope : Scope} {own : List (Str × Nat)} {wi : TI} {g : TG} {te : TE} {k : Nat}
    (hr : Room (k + 1) X.A) (hgl : Gl X "all") (hm : X.mg "all" = none) (hb : bootBuiltins "all" = some (.builtin "all")) (TB : TabB X.base X.mg c P) (hcode : X.env.code = .ref c) (ok : GenOk X.N X.env.scope scope own) (hN : X.N.Nodup) (hi : PI X tg iter wi)
    (hg : ∀ (A' : Around) (s : Shared) (H : Hp) (C : Addr) (cv : Value) (cl : List (Str × Addr)) (fp : List Addr), Room k A' → PG (gcx X A' s H (genEnv scope cl C cv builtinsNs X.env) fp) tg g)
    (he : ∀ (A' : Around) (s : Shared) (H : Hp) (C : Addr) (cv : Value) (cl : List (Str × Addr)) (fp : List Addr), Room k A' → PE (gcx X A' s H (genEnv scope cl C cv builtinsNs X.env) fp) elt te)
    (hs : ∀ v, genFold iter X.env v = pure v)
    (hst : starEach [.GeneratorExp elt [⟨tg, iter, [], 0⟩] scope gpos] X.env = (false, eval (.GeneratorExp elt [⟨tg, iter, [], 0⟩] scope gpos) X.env) :: starEach [] X.env := by rfl) :
    PE X (.Call (.Name "all" p) [.GeneratorExp elt [⟨tg, iter, [], 0⟩] scope gpos] [] pos) (tGen wi g te (own.map (·.2)) P false) := by
  refine ⟨fun pins s σ H Q I h => wpAny_Call_Name_kw (ld_blt I hgl hm hb (PyProof.Rows.callWith_builtin1 ?_ hst (by rfl)))⟩
  rw [hst]
  show wpAny _ _ (spliced ((false, eval (.GeneratorExp elt [⟨tg, iter, [], 0⟩] scope gpos) X.env) :: backTo pos (starEach [] X.env))) _ _ s
  refine Calls.spliced_cons (gen_make (QQ := Q) hr TB hcode ok hN hi hg he hs I h fun a s5 G => Calls.spliced_nil ?_)
  obtain ⟨Y, pg, σ0, fp, tn, Wv, n, gn, e1, e2, G, ha, hback⟩ := G
  refine call_function_tree F.kind_all F.plain_all F.entry_all (F.args_all1 _) ?_
  unfold Builtin.«all»
  refine wpAny_bind (m := oneArg "all" _) (wpAny_pure (wpAny_bind (wpAny_pyIter_gen G.isg ?_)))
  refine wpAny_pure ⟨plainId_quiet F.plain_all_loop _, ?_⟩
  rw [← e1, ← e2]
  exact gen_all rfl hr.hd (by have := hr.dp; omega) ha (fun b H' s' I' q => ⟨.bl b, H', hback H' s' I', rfl, q⟩) n 0 s5 rfl G
theorem pe_anyG {c P : Addr} {elt tg iter : Expr} {p pos gpos : Pos} {scope : Scope} {own : List (Str × Nat)} {wi : TI} {g : TG} {te : TE} {k : Nat}
    (hr : Room (k + 1) X.A) (hgl : Gl X "any") (hm : X.mg "any" = none) (TB : TabB X.base X.mg c P) (hcode : X.env.code = .ref c) (ok : GenOk X.N X.env.scope scope own) (hN : X.N.Nodup) (hi : PI X tg iter wi)
    (hg : ∀ (A' : Around) (s : Shared) (H : Hp) (C : Addr) (cv : Value) (cl : List (Str × Addr)) (fp : List Addr), Room k A' → PG (gcx X A' s H (genEnv scope cl C cv builtinsNs X.env) fp) tg g)
    (he : ∀ (A' : Around) (s : Shared) (H : Hp) (C : Addr) (cv : Value) (cl : List (Str × Addr)) (fp : List Addr), Room k A' → PE (gcx X A' s H (genEnv scope cl C cv builtinsNs X.env) fp) elt te)
    (hs : ∀ v, genFold iter X.env v = pure v)
    (hst : starEach [.GeneratorExp elt [⟨tg, iter, [], 0⟩] scope gpos] X.env = (false, eval (.GeneratorExp elt [⟨tg, iter, [], 0⟩] scope gpos) X.env) :: starEach [] X.env := by rfl) :
    PE X (.Call (.Name "any" p) [.GeneratorExp elt [⟨tg, iter, [], 0⟩] scope gpos] [] pos) (tGen wi g te (own.map (·.2)) P true) := by
  refine ⟨fun pins s σ H Q I h => wpAny_Call_Name_kw (ld_blt I hgl hm boot_any (PyProof.Rows.callWith_builtin1 ?_ hst (by rfl)))⟩
  rw [hst]
  show wpAny _ _ (spliced ((false, eval (.GeneratorExp elt [⟨tg, iter, [], 0⟩] scope gpos) X.env) :: backTo pos (starEach [] X.env))) _ _ s
  refine Calls.spliced_cons (gen_make (QQ := Q) hr TB hcode ok hN hi hg he hs I h fun a s5 G => Calls.spliced_nil ?_)
  obtain ⟨Y, pg, σ0, fp, tn, Wv, n, gn, e1, e2, G, ha, hback⟩ := G
  refine call_function_tree F.kind_any F.plain_any F.entry_any (F.args_any1 _) ?_
  unfold Builtin.«any»
  refine wpAny_bind (m := oneArg "any" _) (wpAny_pure (wpAny_bind (wpAny_pyIter_gen G.isg ?_)))
  refine wpAny_pure ⟨plainId_quiet F.plain_any_loop _, ?_⟩
  rw [← e1, ← e2]
  exact gen_any rfl hr.hd (by have := hr.dp; omega) ha (fun b H' s' I' q => ⟨.bl b, H', hback H' s' I', rfl, q⟩) n 0 s5 rfl G
end
end PD
/-! The pure layer: stores into environments, list comprehensions. -/
namespace PD
open PySem PySem.Spec PyProof.Rows L2
section
variable {S : Stat} {F : Addr → Prop} {H H' H1 : Hp} {ρ ρ' : En} {σ : L2.St} {es : List Nat} {d : D} {v : V} {i j : Nat}
theorem sl_set (s : Sl) : En.sl (ρ.set i s) j = if j = i ∧ i < ρ.length then s else ρ.sl j := by
  unfold En.sl
  rw [List.getD_eq_getElem?_getD, List.getD_eq_getElem?_getD]
  by_cases e : j = i
  · subst e
    by_cases l : j < ρ.length
    · rw [List.getElem?_set_self l, if_pos ⟨rfl, l⟩]; rfl
    · rw [List.getElem?_eq_none (by simpa using l), List.getElem?_eq_none (by simpa using l), if_neg (fun z => l z.2)]
  · rw [List.getElem?_set_ne (Ne.symm e), if_neg (fun z => e z.1)]
theorem EnvE.set (E : EnvE S F ρ σ H es) (r : Rep S F H d v) : EnvE S F (ρ.set i (.pl d)) (σ.set i (some v)) H (es ++ [i]) := by
  have key : ∀ j d', (En.sl (ρ.set i (.pl d)) j).val = some d' → (j = i ∧ d' = d ∧ (σ.set i (some v))[j]? = some (some v)) ∨ (j ≠ i ∧ (ρ.sl j).val = some d' ∧ (σ.set i (some v))[j]? = σ[j]?) := by
    intro j d' h
    rw [sl_set] at h
    by_cases c : j = i ∧ i < ρ.length
    · rw [if_pos c] at h
      obtain ⟨rfl, l⟩ := c
      have : d = d' := Option.some.inj h
      refine .inl ⟨rfl, this.symm, ?_⟩
      rw [List.getElem?_set_self (Nat.lt_of_lt_of_le l E.len)]
    · rw [if_neg c] at h
      by_cases e : j = i
      · subst e
        have l : ¬ j < ρ.length := fun l => c ⟨rfl, l⟩
        have : ρ.sl j = .un := by unfold En.sl; rw [List.getD_eq_getElem?_getD, List.getElem?_eq_none (by simpa using l)]; rfl
        rw [this] at h; cases h
      · exact .inr ⟨e, h, List.getElem?_set_ne (Ne.symm e)⟩
  refine ⟨by simpa using E.len, E.gd, E.fd, fun j d' h => ?_, fun j hj d' h => ?_⟩
  · rcases key j d' h with ⟨_, rfl, e⟩ | ⟨_, h, e⟩
    · exact ⟨v, e, r.toT⟩
    · rw [e]; exact E.tt j d' h
  · rcases key j d' h with ⟨_, rfl, e⟩ | ⟨n, h, e⟩
    · exact ⟨v, e, r⟩
    · rw [e]
      refine E.ee j ?_ d' h
      rcases List.mem_append.mp hj with z | z
      · exact z
      · exact absurd (List.mem_singleton.mp z) n
theorem EnvE.unset (E : EnvE S F ρ σ H es) (o : Option V) : EnvE S F (ρ.set i .un) (σ.set i o) H (es ++ [i]) := by
  have key : ∀ j d', (En.sl (ρ.set i .un) j).val = some d' → j ≠ i ∧ (ρ.sl j).val = some d' ∧ (σ.set i o)[j]? = σ[j]? := by
    intro j d' h
    rw [sl_set] at h
    by_cases c : j = i ∧ i < ρ.length
    · rw [if_pos c] at h; cases h
    · rw [if_neg c] at h
      by_cases e : j = i
      · subst e
        have l : ¬ j < ρ.length := fun l => c ⟨rfl, l⟩
        have : ρ.sl j = .un := by unfold En.sl; rw [List.getD_eq_getElem?_getD, List.getElem?_eq_none (by simpa using l)]; rfl
        rw [this] at h; cases h
      · exact ⟨e, h, List.getElem?_set_ne (Ne.symm e)⟩
  refine ⟨by simpa using E.len, E.gd, E.fd, fun j d' h => ?_, fun j hj d' h => ?_⟩
  · obtain ⟨_, h, e⟩ := key j d' h
    rw [e]; exact E.tt j d' h
  · obtain ⟨n, h, e⟩ := key j d' h
    rw [e]
    refine E.ee j ?_ d' h
    rcases List.mem_append.mp hj with z | z
    · exact z
    · exact absurd (List.mem_singleton.mp z) n
def wipeE (ρ : En) : List Nat → En
  | [] => ρ
  | v :: vs => (wipeE ρ vs).set v .un
theorem EnvE.wipe (E : EnvE S F ρ σ H es) : ∀ vs : List Nat, EnvE S F (wipeE ρ vs) (L2.wipe σ vs) H (es ++ vs)
  | [] => E.sub (by simp)
  | v :: vs => ((EnvE.wipe E vs).unset Option.none).sub (by simp; intro i h; rcases h with h | h | h <;> simp [h])
theorem EnvE.sets : ∀ {is : List Nat} {ds : List D} {vs : List V} {ρ : En} {σ : L2.St} {es : List Nat}, ds.length = is.length → EnvE S F ρ σ H es → Reps S F H ds vs → EnvE S F (setsE ρ is ds) (setsV σ is vs) H (es ++ is)
  | [], [], vs, ρ, σ, es, _, E, r => by cases r.nil_inv; rw [List.append_nil]; exact E
  | [], _ :: _, _, _, _, _, hl, _, _ => by simp at hl
  | _ :: _, [], _, _, _, _, hl, _, _ => by simp at hl
  | i :: is, d :: ds, vs, ρ, σ, es, hl, E, r => by
    obtain ⟨v, us, rfl, h1, h2⟩ := r.cons_inv
    have := EnvE.sets (is := is) (by simpa using hl) (E.set (i := i) h1) h2
    rw [List.append_assoc] at this
    exact this
theorem setsV_length : ∀ {is : List Nat} {vs : List V} {σ : L2.St}, (setsV σ is vs).length = σ.length
  | [], vs, σ => by unfold setsV; rfl
  | i :: is, [], σ => by unfold setsV; rfl
  | i :: is, v :: vs, σ => by unfold setsV; rw [setsV_length, List.length_set]
theorem setsV_out : ∀ {is : List Nat} {vs : List V} {σ : L2.St}, j ∉ is → (setsV σ is vs)[j]? = σ[j]?
  | [], vs, σ, _ => by unfold setsV; rfl
  | i :: is, [], σ, _ => by unfold setsV; rfl
  | i :: is, v :: vs, σ, h => by
    unfold setsV
    rw [setsV_out (fun z => h (List.mem_cons_of_mem _ z)), List.getElem?_set_ne (fun z => h (by rw [z]; exact List.mem_cons_self))]
/-- a target takes a value -/
theorem bind_g {t : Tg} {Q : L2.St → Hp → Prop} (E : EnvE S F ρ σ H es) (r : Rep S F H d v) (b : bindT t d ρ = .ok ρ')
    (k : ∀ σ', EnvE S F ρ' σ' H (es ++ t.slots) → (∀ j, j ∉ t.slots → σ'[j]? = σ[j]?) → σ'.length = σ.length → Q σ' H) : gM S.K t v σ H Q := by
  cases t with
  | one i =>
    cases b
    exact k _ (E.set r) (fun j hj => List.getElem?_set_ne (fun z => hj (by rw [← z]; exact List.mem_singleton.mpr rfl))) List.length_set
  | many is =>
    unfold bindT at b
    cases d with
    | tup ds =>
      dsimp only at b
      split at b
      · rename_i hl
        cases b
        unfold Rep at r
        obtain ⟨a, vs, rfl, h2, h3⟩ := r
        exact ⟨a, vs, rfl, .inl (SqT.of h2), by rw [h3.length]; exact hl, k _ (E.sets hl h3) (fun j hj => setsV_out hj) setsV_length⟩
      · cases b
    | lst ds =>
      dsimp only at b
      split at b
      · rename_i hl
        cases b
        unfold Rep at r
        obtain ⟨a, vs, rfl, _, h2, h3⟩ := r
        exact ⟨a, vs, rfl, .inr (.inl h2), by rw [h3.length]; exact hl, k _ (E.sets hl h3) (fun j hj => setsV_out hj) setsV_length⟩
      · cases b
    | _ => cases b
theorem wipe_get : ∀ {vs : List Nat} {σ : L2.St}, j ∈ vs → (L2.wipe σ vs)[j]? = if j < σ.length then some none else none
  | [], _, h => by cases h
  | v :: vs, σ, h => by
    unfold L2.wipe
    by_cases e : v = j
    · subst e
      by_cases l : v < σ.length
      · rw [List.getElem?_set_self (by rw [wipe_length]; exact l), if_pos l]
      · rw [List.getElem?_eq_none (by rw [List.length_set, wipe_length]; omega), if_neg l]
    · rw [List.getElem?_set_ne e]
      rcases List.mem_cons.mp h with z | z
      · exact absurd z.symm e
      · exact wipe_get z
theorem wipe_of {σ' : L2.St} {vs : List Nat} (hl : σ'.length = σ.length) (h : ∀ j, j ∉ vs → σ'[j]? = σ[j]?) : L2.wipe σ' vs = L2.wipe σ vs := by
  refine List.ext_getElem? fun j => ?_
  by_cases hj : j ∈ vs
  · rw [wipe_get hj, wipe_get hj, hl]
  · rw [wipe_out hj, wipe_out hj, h j hj]
theorem RepT.plus {p : Addr} (n : H p = Option.none) (h : RepT S F H d v) : RepT S (fun b => F b ∨ b = p) H d v := by
  cases d <;> first | exact Rep.plus n h | skip
  · obtain ⟨a, vs, h1, h2, h3⟩ := h; exact ⟨a, vs, h1, h2, Reps.plus n h3⟩
  · obtain ⟨a, vs, h1, h2, h3, h4⟩ := h; exact ⟨a, vs, h1, h2, h3, Reps.plus n h4⟩
  · obtain ⟨a, dx, vs, h1, h2, h3, h4⟩ := h; exact ⟨a, dx, vs, h1, h2, h3, Reps.plus n h4⟩
/-- the same beside a new object p that is being made -/
theorem EnvE.beside {p : Addr} (E : EnvE S F ρ σ H es) (n : H p = Option.none) (e : Ext H H1) (g : Gd S H1) (hp : H1 p ≠ Option.none) : EnvE S (fun b => F b ∨ b = p) ρ σ H1 es :=
  ⟨E.len, g, fun a z => z.elim (fun z => e.some (E.fd a z)) (fun z => by rw [z]; exact hp), fun i d h => by obtain ⟨v, h1, h2⟩ := E.tt i d h; exact ⟨v, h1, (h2.plus n).ext e⟩,
    fun i hi d h => by obtain ⟨v, h1, h2⟩ := E.ee i hi d h; exact ⟨v, h1, (h2.plus n).ext e⟩⟩
theorem Ext.out {p : Addr} {o : HO} (e : Ext H H1) (n : H p = Option.none) : Ext H (L2.upd H1 p o) :=
  ⟨fun b u h t => (upd_ne (ne_of_none h n)).trans (e.to b u h t), fun b ps h => by obtain ⟨qs, z⟩ := e.tb b ps h; exact ⟨qs, (upd_ne (ne_of_none h n)).trans z⟩⟩
theorem codeO_not {c : Addr} {q : Str} {u : HO} (h : ∀ φ, u ≠ .ext φ) : LamX.CodeO c q ≠ u := fun e => h _ e.symm
theorem Gd.write {p : Addr} {o u : HO} (g : Gd S H) (hp : H p = some u) (nt : ∀ ps, u ≠ .tbl ps) (ne : ∀ φ, u ≠ .ext φ) : Gd S (L2.upd H p o) := by
  refine ⟨fun P hP => ?_, fun q hq => ?_⟩
  · obtain ⟨ps, h1, h2⟩ := g.1 P hP
    refine ⟨ps, (upd_ne ?_).trans h1, h2⟩
    rintro rfl; rw [hp] at h1; exact nt _ (Option.some.inj h1)
  · obtain ⟨ps, h1, h2, h3⟩ := g.2 q hq
    refine ⟨ps, (upd_ne ?_).trans h1, h2, fun pos cv hc => ?_⟩
    · intro z; rw [z, hp] at h1; exact nt _ (Option.some.inj h1)
    · obtain ⟨c, e1, e2⟩ := h3 pos cv hc
      refine ⟨c, e1, (upd_ne ?_).trans e2⟩
      rintro rfl; rw [hp] at e2; exact ne _ (Option.some.inj e2)
end
/-! ### list comprehensions -/
def noE {α : Type} (r : Res α) : Res α := match r with
  | .exc _ => .bad
  | r => r
def lcL (vs : List Nat) (t : Tg) (fc : En → Res Bool) (fe : En → Res D) (ρ : En) : List D → Res (List D)
  | [] => .ok []
  | d :: ds => (bindT t d (wipeE ρ vs)).bind fun ρ1 => (noE (fc ρ1)).bind fun b => if b then (noE (fe ρ1)).bind fun x => (lcL vs t fc fe ρ ds).bind fun xs => .ok (x :: xs) else lcL vs t fc fe ρ ds
def lcF (vs : List Nat) (t : Tg) (fi : En → Res (List D)) (fc : En → Res Bool) (fe : En → Res D) : En → Res D := fun ρ => (fi ρ).bind fun ds => (lcL vs t fc fe ρ ds).bind fun xs => if xs.length ≤ sizeLine then .ok (.lst xs) else .bad
theorem noE_ok {α β : Type} {r : Res α} {k : α → Res β} {y : β} (h : (noE r).bind k = .ok y) : ∃ x, r = .ok x ∧ k x = .ok y := by
  cases r with
  | ok x => exact ⟨x, rfl, h⟩
  | exc c => cases h
  | bad => cases h
theorem bind_ok {α β : Type} {r : Res α} {k : α → Res β} {y : β} (h : r.bind k = .ok y) : ∃ x, r = .ok x ∧ k x = .ok y := by
  cases r with
  | ok x => exact ⟨x, rfl, h⟩
  | exc c => cases h
  | bad => cases h
theorem lcL_noexc {vs : List Nat} {t : Tg} {fc : En → Res Bool} {fe : En → Res D} {ρ : En} {c : Nat} : ∀ ds : List D, lcL vs t fc fe ρ ds ≠ .exc c
  | [], h => by cases h
  | d :: ds, h => by
    unfold lcL at h
    have ih := lcL_noexc (vs := vs) (t := t) (fc := fc) (fe := fe) (ρ := ρ) (c := c) ds
    have nb : ∀ x, bindT t d (wipeE ρ vs) ≠ .exc x := by
      intro x z
      unfold bindT at z
      split at z
      · cases z
      · split at z
        · split at z <;> cases z
        · split at z <;> cases z
        · cases z
    cases q : bindT t d (wipeE ρ vs) with
    | ok ρ1 =>
      rw [q, Res.bind_ok] at h
      cases q2 : fc ρ1 with
      | ok b =>
        rw [q2] at h
        cases b with
        | false => exact ih h
        | true =>
          have h : (noE (fe ρ1)).bind (fun x => (lcL vs t fc fe ρ ds).bind fun xs => .ok (x :: xs)) = .exc c := h
          cases q3 : fe ρ1 with
          | ok x =>
            rw [q3] at h
            have h : (lcL vs t fc fe ρ ds).bind (fun xs => Res.ok (x :: xs)) = .exc c := h
            cases q4 : lcL vs t fc fe ρ ds with
            | ok xs => rw [q4] at h; cases h
            | exc y => rw [q4] at h; cases h; exact ih q4
            | bad => rw [q4] at h; cases h
          | exc y => rw [q3] at h; cases h
          | bad => rw [q3] at h; cases h
      | exc y => rw [q2] at h; cases h
      | bad => rw [q2] at h; cases h
    | exc y => exact nb y q
    | bad => rw [q] at h; cases h
abbrev W0 : WX := fun _ _ _ _ => False
section
variable {S : Stat} {W : WX} {X : Cx} {md : Md} {elt tg iter : Expr} {ifs : List Expr} {scope : Scope} {own : List (Str × Nat)} {pos : Pos} {t : Tg} {fi : En → Res (List D)} {fc : En → Res Bool} {fe : En → Res D} {ei ec ee : List Nat}
def outE (vs es : List Nat) : List Nat := es.filter fun i => !vs.contains i
/-- the reading of a list comprehension -/
theorem lc_read {σ : L2.St} {H : Hp} {Q : VK} (hsub : ∀ i ∈ t.slots, i ∈ own.map (·.2)) (h : tM S W md (lcF (own.map (·.2)) t fi fc fe) (ei ++ outE (own.map (·.2)) (ec ++ ee)) σ H Q) :
    tLc (tI S W fi ei) (gM S.K t) (tT S W0 fc ec) (tM S W0 .esc fe ee) (own.map (·.2)) σ H Q := by
  obtain ⟨ρ, F, E, h⟩ := h
  generalize hvs : own.map (·.2) = vs at *
  refine ⟨ρ, F, E.sub fun i hi => List.mem_append_left _ hi, ?_⟩
  unfold lcF at h
  cases q : fi ρ with
  | exc x => rw [q] at h; exact h
  | bad => rw [q] at h; exact h
  | ok ds =>
    rw [q, Res.bind_ok] at h
    intro J H1 e1 g1 it D hD
    cases q2 : lcL vs t fc fe ρ ds with
    | exc x => exact absurd q2 (lcL_noexc ds)
    | bad => rw [q2] at h; exact h.elim
    | ok xs =>
      rw [q2, Res.bind_ok] at h
      split at h
      rotate_left
      · exact h.elim
      rename_i hlen
      have E1 := E.ext e1 g1
      refine ⟨fun i m H2 => m = ds.length - i ∧ i ≤ ds.length ∧ Ext H1 H2 ∧ Gd S H2 ∧ ∃ acc accD rest, lcL vs t fc fe ρ (ds.drop i) = .ok rest ∧ accD ++ rest = xs ∧ H2 D = some (.lst acc) ∧ Reps S (fun b => F b ∨ b = D) H2 accD acc,
        ⟨ds.length, by simp, Nat.zero_le _, Ext.upd hD, g1.upd hD, [], [], xs, by simpa using q2, rfl, upd_same, Reps.nil⟩, ?_⟩
      rintro i m H2 ⟨rfl, hi, e2, g2, acc, accD, rest, hr, hx, hDl, racc⟩
      have it2 : ItR S (fun b => F b ∨ b = D) H2 J ds := (it.plus hD).ext e2
      by_cases hlt : i < ds.length
      · refine .inr ⟨it2.go hlt, fun H3 => Ext H1 H3 ∧ Gd S H3 ∧ ∃ acc accD rest, lcL vs t fc fe ρ (ds.drop (i + 1)) = .ok rest ∧ accD ++ rest = xs ∧ H3 D = some (.lst acc) ∧ Reps S (fun b => F b ∨ b = D) H3 accD acc, fun H3 z => ⟨ds.length - (i + 1), by omega, rfl, hlt, z⟩, fun x H3 y => ?_⟩
        obtain ⟨rfl, rx⟩ := it2.yld hlt y
        rw [List.drop_eq_getElem_cons hlt] at hr
        unfold lcL at hr
        obtain ⟨ρ1, b1, hr⟩ := bind_ok hr
        obtain ⟨b, b2, hr⟩ := noE_ok hr
        have EB := (E1.beside hD e2 g2 (by rw [hDl]; simp)).wipe vs
        refine bind_g EB rx b1 fun σ' E' o' l' => ⟨?_, ?_⟩
        · rw [wipe_of (σ := L2.wipe σ vs) l' fun j hj => o' j fun z => hj (hsub j z)]
          exact wipe_of (wipe_length _ _) fun j hj => wipe_out hj
        · have sub : ∀ i ∈ ec ++ ee, i ∈ (ei ++ outE vs (ec ++ ee)) ++ vs ++ t.slots := by
            intro i hi
            refine List.mem_append_left _ ?_
            by_cases hv : i ∈ vs
            · exact List.mem_append_right _ hv
            · exact List.mem_append_left _ (List.mem_append_right _ (List.mem_filter.mpr ⟨hi, by simpa using hv⟩))
          refine ⟨ρ1, _, E'.sub fun i hi => sub i (List.mem_append_left _ hi), ?_⟩
          rw [b2]
          intro H4 e4 g4
          cases b with
          | false => exact ⟨e2.trans e4, g4, acc, accD, rest, hr, hx, e4.to _ _ hDl (fun _ z => nomatch z), Reps.ext e4 racc⟩
          | true =>
            obtain ⟨x', b3, hr⟩ := noE_ok hr
            obtain ⟨rest', b4, hr⟩ := bind_ok hr
            cases hr
            refine ⟨ρ1, _, (E'.ext e4 g4).sub fun i hi => sub i (List.mem_append_right _ hi), ?_⟩
            rw [b3]
            intro v H5 e5 g5 rv
            have rv : Rep S (fun b => F b ∨ b = D) H5 x' v := rv
            have hD5 : H5 D = some (.lst acc) := e5.to _ _ (e4.to _ _ hDl (fun _ z => nomatch z)) (fun _ z => nomatch z)
            have racc5 := Reps.ext e5 (Reps.ext e4 racc)
            have hl5 : acc.length < sizeLine := by
              have z := racc5.length
              rw [← hx, List.length_append, List.length_cons] at hlen
              omega
            refine ⟨acc, hD5, hl5, ((e2.trans e4).trans e5).out hD, g5.write hD5 (fun _ z => nomatch z) (fun _ z => nomatch z), acc ++ [v], accD ++ [x'], rest', b4, ?_, upd_same, ?_⟩
            · rw [← hx]; simp
            · exact Reps.upd (.inr rfl) hD5 (fun _ z => nomatch z) (fun _ _ z => nomatch z) (racc5.append (Reps.cons rv Reps.nil))
      · have e : i = ds.length := by omega
        subst e
        refine .inl ⟨it2.stop, ?_⟩
        rw [List.drop_length] at hr
        cases hr
        rw [List.append_nil] at hx
        subst hx
        have rf : RepF S F H H2 (.lst accD) (.ref D) := ⟨D, acc, rfl, e1.none hD, hDl, racc⟩
        refine h _ _ (e1.trans e2) g2 ?_
        cases md
        · exact RepF.toE E.fd rf
        · exact rf
        · exact Rep.toT (RepF.toE E.fd rf)
variable {ex : Expr}
theorem pm_lc (hc : X.calm = true) (hK : X.K = S.K) (hN : X.N.Nodup) (hi : PIM S W X tg iter fi ei) (ok : BlkOk X.N X.env.scope scope own) (hsub : ∀ i ∈ t.slots, i ∈ own.map (·.2))
    (hg : ∀ (s : Shared) (H : Hp) (C : Addr) (cl : List (Str × Addr)) (fp : List Addr), TgAt (X.blk s H scope (compEnvC scope cl C X.env) fp) tg t)
    (ht : ∀ (s : Shared) (H : Hp) (C : Addr) (cl : List (Str × Addr)) (fp : List Addr), PTs (X.blk s H scope (compEnvC scope cl C X.env) fp) ifs (tT S W0 fc ec))
    (he : ∀ (s : Shared) (H : Hp) (C : Addr) (cl : List (Str × Addr)) (fp : List Addr), PM S W0 .esc (X.blk s H scope (compEnvC scope cl C X.env) fp) elt fe ee) (hs : ∀ x, foldedSetIterable iter X.env x = pure x) :
    PM S W md X (.ListComp elt [⟨tg, iter, ifs, 0⟩] scope pos) (lcF (own.map (·.2)) t fi fc fe) (ei ++ outE (own.map (·.2)) (ec ++ ee)) :=
  ⟨fun pins s σ H Q I h => (pe_lc (g := gM S.K t) hc hN hi ok (fun s H C cl fp => by have z := TgAt.pg (X := X.blk s H scope (compEnvC scope cl C X.env) fp) hN hc (hg s H C cl fp); rw [← hK]; exact z) ht he hs).run pins s σ H Q I (lc_read hsub h)⟩
/-! ### all, any -/
def genL (stop : Bool) (vs : List Nat) (t : Tg) (fe : En → Res D) (ρ : En) : List D → Res Bool
  | [] => .ok (!stop)
  | d :: ds => (bindT t d (wipeE ρ vs)).bind fun ρ1 => (noE (fe ρ1)).bind fun x => match x with
    | .bl b => if b = stop then .ok stop else genL stop vs t fe ρ ds
    | _ => .bad
def genF (stop : Bool) (vs : List Nat) (t : Tg) (fi : En → Res (List D)) (fe : En → Res D) : En → Res D := fun ρ => (fi ρ).bind fun ds => (noE (genL stop vs t fe ρ ds)).bind fun b => .ok (.bl b)
theorem gen_read {σ : L2.St} {H : Hp} {Q : VK} {P : Addr} {stop : Bool} {vs : List Nat} (hP : P ∈ S.tG) (hL : ∀ q ∈ S.tL, q.1 ≠ P) (hsub : ∀ i ∈ t.slots, i ∈ vs) (h : tM S W md (genF stop vs t fi fe) (ei ++ outE vs ee) σ H Q) :
    tGen (tI S W fi ei) (gM S.K t) (tM S W0 .bor fe ee) vs P stop σ H Q := by
  obtain ⟨ρ, F, E, h⟩ := h
  refine ⟨ρ, F, E.sub fun i hi => List.mem_append_left _ hi, ?_⟩
  unfold genF at h
  cases q : fi ρ with
  | exc x => rw [q] at h; exact h
  | bad => rw [q] at h; exact h
  | ok ds =>
    rw [q, Res.bind_ok] at h
    intro J H1 e1 g1 it
    refine ⟨g1.1 P hP, fun H2 hT => ?_⟩
    cases q2 : genL stop vs t fe ρ ds with
    | exc x => rw [q2] at h; exact h.elim
    | bad => rw [q2] at h; exact h.elim
    | ok b0 =>
      rw [q2] at h
      have h : Post S W F md σ H (.ok (.bl b0)) Q := h
      have e12 : Ext H1 H2 := by
        refine ⟨fun b o hb ht => ?_, fun b ps hb => ?_⟩
        · by_cases z : b = P
          · obtain ⟨ps, z2, _⟩ := g1.1 P hP
            rw [z, z2] at hb; exact absurd (Option.some.inj hb).symm (ht ps)
          · rw [hT.2 b z]; exact hb
        · by_cases z : b = P
          · obtain ⟨ps, z2, _⟩ := hT.1
            exact ⟨ps, by rw [z]; exact z2⟩
          · exact ⟨ps, by rw [hT.2 b z]; exact hb⟩
      have g2 : Gd S H2 := by
        refine ⟨fun P' hP' => ?_, fun p hp => ?_⟩
        · by_cases z : P' = P
          · rw [z]; exact hT.1
          · obtain ⟨ps, z1, z2⟩ := g1.1 P' hP'
            exact ⟨ps, by rw [hT.2 P' z]; exact z1, z2⟩
        · obtain ⟨ps, z1, z2, z3⟩ := g1.2 p hp
          refine ⟨ps, by rw [hT.2 _ (hL p hp)]; exact z1, z2, fun pos cv hc => ?_⟩
          obtain ⟨c, z4, z5⟩ := z3 pos cv hc
          exact ⟨c, z4, e12.to _ _ z5 fun ps => codeO_not fun φ => fun z => nomatch z⟩
      have fin : ∀ H3, Ext H2 H3 → Gd S H3 → Q (.bl b0) H3 := fun H3 e3 g3 => h _ H3 ((e1.trans e12).trans e3) g3 (RepM.of_flat rfl Rep.mk_bl)
      refine ⟨ds.length, fun i H3 => Ext H2 H3 ∧ Gd S H3 ∧ genL stop vs t fe ρ (ds.drop i) = .ok b0, ⟨Ext.refl _, g2, by simpa using q2⟩, fun i H3 hi ⟨e3, g3, hr⟩ => ⟨fun hin => ?_, fun hlt => ?_⟩⟩
      · subst hin
        rw [List.drop_length] at hr
        cases hr
        exact ⟨(it.ext (e12.trans e3)).stop, fin H3 e3 g3⟩
      · have it3 := it.ext (e12.trans e3)
        refine ⟨it3.go hlt, fun x H4 y => ?_⟩
        obtain ⟨rfl, rx⟩ := it3.yld hlt y
        rw [List.drop_eq_getElem_cons hlt] at hr
        unfold genL at hr
        obtain ⟨ρ1, b1, hr⟩ := bind_ok hr
        obtain ⟨y, b2, hr⟩ := noE_ok hr
        have EB := (E.ext ((e1.trans e12).trans e3) g3).wipe vs
        refine bind_g EB rx b1 fun σ' E' o' l' => ⟨?_, ρ1, F, E'.sub fun i hi => ?_, ?_⟩
        · rw [wipe_of (σ := L2.wipe σ vs) l' fun j hj => o' j fun z => hj (hsub j z)]
          exact wipe_of (wipe_length _ _) fun j hj => wipe_out hj
        · refine List.mem_append_left _ ?_
          by_cases hv : i ∈ vs
          · exact List.mem_append_right _ hv
          · exact List.mem_append_left _ (List.mem_append_right _ (List.mem_filter.mpr ⟨hi, by simpa using hv⟩))
        · rw [b2]
          intro v H5 e5 g5 rv
          have rv : RepT S F H5 y v := rv
          cases y with
          | bl b =>
            cases rv.bl
            dsimp only at hr
            refine ⟨b, rfl, fun hb => ?_, fun hb => ?_⟩
            · rw [if_pos hb] at hr
              cases hr
              exact fin H5 (e3.trans e5) g5
            · rw [if_neg hb] at hr
              exact ⟨e3.trans e5, g5, hr⟩
          | _ => cases hr
end
end PD
/-! The pure layer: all, any of generator expressions. -/
namespace PD
open PySem PySem.Spec PyProof.Rows L2 GxR
section
variable {S : Stat} {W : WX} {X : Cx} {md : Md} {elt tg iter : Expr} {scope : Scope} {own : List (Str × Nat)} {pos p gpos : Pos} {t : Tg} {fi : En → Res (List D)} {fe : En → Res D} {ei ee : List Nat} {c P : Addr} {k : Nat}
theorem pm_all (hr : Room (k + 1) X.A) (B : Bi X "all") (hb : bootBuiltins "all" = some (.builtin "all")) (TB : TabB X.base X.mg c P) (hcode : X.env.code = .ref c) (hP : P ∈ S.tG) (hL : ∀ q ∈ S.tL, q.1 ≠ P) (ok : GenOk X.N X.env.scope scope own) (hN : X.N.Nodup) (hK : X.K = S.K)
    (hi : PIM S W X tg iter fi ei) (hsub : ∀ i ∈ t.slots, i ∈ own.map (·.2))
    (hg : ∀ (A' : Around) (s : Shared) (H : Hp) (C : Addr) (cv : Value) (cl : List (Str × Addr)) (fp : List Addr), Room k A' → TgAt (gcx X A' s H (genEnv scope cl C cv builtinsNs X.env) fp) tg t)
    (he : ∀ (A' : Around) (s : Shared) (H : Hp) (C : Addr) (cv : Value) (cl : List (Str × Addr)) (fp : List Addr), Room k A' → PM S W0 .bor (gcx X A' s H (genEnv scope cl C cv builtinsNs X.env) fp) elt fe ee) (hs : ∀ v, genFold iter X.env v = pure v) :
    PM S W md X (.Call (.Name "all" p) [.GeneratorExp elt [⟨tg, iter, [], 0⟩] scope gpos] [] pos) (genF false (own.map (·.2)) t fi fe) (ei ++ outE (own.map (·.2)) ee) :=
  ⟨fun pins s σ H Q I h => (pe_allG (g := gM S.K t) hr B.gl B.no hb TB hcode ok hN hi (fun A' s H C cv cl fp r => by
    have z := TgAt.pg (X := gcx X A' s H (genEnv scope cl C cv builtinsNs X.env) fp) hN rfl (hg A' s H C cv cl fp r)
    rw [← hK]; exact z) he hs).run pins s σ H Q I (gen_read hP hL hsub h)⟩
theorem pm_any (hr : Room (k + 1) X.A) (B : Bi X "any") (TB : TabB X.base X.mg c P) (hcode : X.env.code = .ref c) (hP : P ∈ S.tG) (hL : ∀ q ∈ S.tL, q.1 ≠ P) (ok : GenOk X.N X.env.scope scope own) (hN : X.N.Nodup) (hK : X.K = S.K)
    (hi : PIM S W X tg iter fi ei) (hsub : ∀ i ∈ t.slots, i ∈ own.map (·.2))
    (hg : ∀ (A' : Around) (s : Shared) (H : Hp) (C : Addr) (cv : Value) (cl : List (Str × Addr)) (fp : List Addr), Room k A' → TgAt (gcx X A' s H (genEnv scope cl C cv builtinsNs X.env) fp) tg t)
    (he : ∀ (A' : Around) (s : Shared) (H : Hp) (C : Addr) (cv : Value) (cl : List (Str × Addr)) (fp : List Addr), Room k A' → PM S W0 .bor (gcx X A' s H (genEnv scope cl C cv builtinsNs X.env) fp) elt fe ee) (hs : ∀ v, genFold iter X.env v = pure v) :
    PM S W md X (.Call (.Name "any" p) [.GeneratorExp elt [⟨tg, iter, [], 0⟩] scope gpos] [] pos) (genF true (own.map (·.2)) t fi fe) (ei ++ outE (own.map (·.2)) ee) :=
  ⟨fun pins s σ H Q I h => (pe_anyG (g := gM S.K t) hr B.gl B.no TB hcode ok hN hi (fun A' s H C cv cl fp r => by
    have z := TgAt.pg (X := gcx X A' s H (genEnv scope cl C cv builtinsNs X.env) fp) hN rfl (hg A' s H C cv cl fp r)
    rw [← hK]; exact z) he hs).run pins s σ H Q I (gen_read hP hL hsub h)⟩
end
end PD
/-! The pure layer: sorted. -/
namespace PD
open PySem PySem.Spec PyProof.Rows L2
open PySem.W (EachIs AllAlike Sortable dataLe sorted_data alike)
section
variable {X : Cx}
def rSortD (K : PySem.W.Frag) : List V → Hp → VK → Prop := fun vs H Q => ∃ (a : Addr) (bs : List (V × PyData)), vs = [V.ref a] ∧ SqL K H a (bs.map (·.1)) ∧ (∀ b ∈ bs, Dp K H b.1 b.2) ∧ AllAlike (bs.map (·.2)) ∧ Sortable (bs.map (·.2)) ∧ bs.length ≤ sizeLine ∧ (∀ b ∈ bs, b.2.depth ≤ 60) ∧
  ∀ p, H p = none → Q (.ref p) (L2.upd H p (.lst ((bs.mergeSort (dataLe false (·.2))).map (·.1))))
theorem each_vals {α : Type} {f : α → V} : ∀ {bs : List α} {us : List Value}, Vals (bs.map f) us → EachIs (fun u b => RelV (f b) u) us bs
  | [], us, h => by cases h; exact .nil
  | b :: bs, us, h => by cases h with | cons h1 h2 => exact .cons h1 (each_vals h2)
theorem vals_each {α : Type} {f : α → V} : ∀ {bs : List α} {us : List Value}, EachIs (fun u b => RelV (f b) u) us bs → Vals (bs.map f) us
  | [], us, h => by cases h; exact .nil
  | b :: bs, us, h => by cases h with | cons h1 h2 => exact .cons h1 (vals_each h2)
theorem each_and {α β : Type} {R R' : α → β → Prop} : ∀ {us : List α} {bs : List β}, EachIs R us bs → (∀ u b, u ∈ us → b ∈ bs → R u b → R' u b) → EachIs R' us bs
  | _, _, .nil, _ => .nil
  | _, _, .cons h t, k => .cons (k _ _ List.mem_cons_self List.mem_cons_self h) (each_and t fun u b h1 h2 => k u b (List.mem_cons_of_mem _ h1) (List.mem_cons_of_mem _ h2))
theorem cr_sortD (hu : X.A.units + 64 < cLine) : CallR X (.builtin "sorted") (rSortD X.K) := by
  intro pins s σ H vs us Q I r h
  obtain ⟨a, bs, rfl, hs, hd, hal, hso, hz, hdp, q⟩ := h
  obtain ⟨its, rv, hl, _⟩ := I.list hs
  rw [Vals.ref1 r]
  have e0 := each_vals (f := fun b : V × PyData => b.1) rv
  refine sorted_data (enc := fun b : V × PyData => b.2) (R := fun u b => RelV b.1 u) hl.isList e0 (each_and e0 fun u b _ hb hr => Dp.reads I b.2 b.1 u (hd b hb) hr) hal hso hz (fun b hb => by have := hdp b hb; omega) fun out ho hout => ?_
  obtain ⟨ep, he'⟩ := PyProof.Rows.sortedAll_at s.heap its out.toArray
  have hlen : ((bs.mergeSort (dataLe false (·.2))).map (·.1)).length ≤ sizeLine := by rw [List.length_map, List.length_mergeSort]; exact hz
  exact ⟨.ref _, L2.upd H (s.heap.objs.size + 1) (.lst ((bs.mergeSort (dataLe false (·.2))).map (·.1))), I.laid (t' := s.toks) (fun _ _ => PyProof.Rows.sortedAll_old) (Nat.le_succ _) ⟨hlen, out, ep, vals_each hout, he'⟩, rfl, q _ (I.hok.fresh (Nat.le_succ _))⟩
end
/-- what sorted needs of its items -/
def okSort (ps : List PyData) : Bool := (ps.all fun d => ps.all fun d' => alike d d') && (ps.all (fun d => match d with | .tuple (_ :: _) => true | _ => false) || ps.all (fun d => match d with | .none => false | .tuple _ => false | _ => true)) && ps.all fun d => decide (d.depth ≤ 60)
theorem okSort_al {ps : List PyData} (h : okSort ps = true) : AllAlike ps ∧ Sortable ps ∧ ∀ p ∈ ps, p.depth ≤ 60 := by
  unfold okSort at h
  simp only [Bool.and_eq_true, Bool.or_eq_true, List.all_eq_true, decide_eq_true_eq] at h
  obtain ⟨⟨h1, h2⟩, h3⟩ := h
  refine ⟨h1, h2.imp (fun h d hd => ?_) (fun h d hd => ?_), h3⟩
  · have := h d hd
    split at this
    · exact ⟨_, _, rfl⟩
    · cases this
  · have := h d hd
    constructor
    · rintro rfl; cases this
    · rintro xs rfl; cases this
def pyOf (d : D) : PyData := (D.py d).getD .none
def sleD (x y : D) : Bool := dataLe false pyOf x y
def sortedD : List D → Res D
  | [.lst xs] => match D.pys xs with
    | some ps => if okSort ps = true ∧ xs.length ≤ sizeLine then .ok (.lst (xs.mergeSort sleD)) else .bad
    | none => .bad
  | _ => .bad
section
variable {S : Stat} {W : WX} {X : Cx} {md m : Md} {e : Expr} {es : List Expr} {fs : En → Res (List D)} {ix : List Nat} {pos p : Pos}
theorem reps_zip {F : Addr → Prop} {H : Hp} : ∀ {ds : List D} {vs : List V} {ps : List PyData}, D.pys ds = some ps → Reps S F H ds vs → ∃ ts : List (V × D), ts.map (·.1) = vs ∧ ts.map (·.2) = ds ∧ ts.map (fun t => pyOf t.2) = ps ∧ ∀ t ∈ ts, Rep S F H t.2 t.1 ∧ Dp S.K H t.1 (pyOf t.2)
  | [], vs, ps, e, h => by unfold D.pys at e; cases e; cases h.nil_inv; exact ⟨[], rfl, rfl, rfl, fun _ h => absurd h (by simp)⟩
  | d :: ds, vs, ps, e, h => by
    obtain ⟨p, q, rfl, e1, e2⟩ := pys_cons e
    obtain ⟨v, r, rfl, h1, h2⟩ := h.cons_inv
    obtain ⟨ts, a1, a2, a3, a4⟩ := reps_zip e2 h2
    have hp : pyOf d = p := by unfold pyOf; rw [e1]; rfl
    refine ⟨(v, d) :: ts, by simp [a1], by simp [a2], by simp [a3, hp], fun t ht => ?_⟩
    rcases List.mem_cons.mp ht with rfl | ht
    · exact ⟨h1, by rw [hp]; exact (Rep.dp e1 h1).1⟩
    · exact a4 t ht
theorem reps_of_all {F : Addr → Prop} {H : Hp} : ∀ {ts : List (V × D)}, (∀ t ∈ ts, Rep S F H t.2 t.1) → Reps S F H (ts.map (·.2)) (ts.map (·.1))
  | [], _ => Reps.nil
  | t :: ts, h => Reps.cons (h t List.mem_cons_self) (reps_of_all fun t ht => h t (List.mem_cons_of_mem _ ht))
theorem pm_sorted (hK : X.K = S.K) (hu : X.A.units + 64 < cLine) (B : Bi X "sorted") (A : Ar X e es pos) (hv : bootBuiltins "sorted" = some (.builtin "sorted")) (ha : PML S W .bor X (e :: es) fs ix) : PM S W md X (.Call (.Name "sorted" p) (e :: es) [] pos) (bndL fs sortedD) ix :=
  pm_callB (cr_sortD hu) B.gl B.no hv ha B.nn B.nd A.st A.pl fun F σ H ds vs Q g fd r h => by
    rw [hK]
    unfold sortedD at h
    split at h
    · split at h
      · rename_i xs _ ps hp
        split at h
        · rename_i hc
          obtain ⟨h1, hz⟩ := hc
          obtain ⟨v, rfl, r1⟩ := r.one
          obtain ⟨q, us, rfl, hq, kq⟩ := r1.lst
          obtain ⟨ts, a1, a2, a3, a4⟩ := reps_zip hp kq
          obtain ⟨o1, o2, o3⟩ := okSort_al h1
          have hbs1 : (ts.map fun t => (t.1, pyOf t.2)).map (·.1) = us := by rw [List.map_map]; exact a1
          have hbs2 : (ts.map fun t => (t.1, pyOf t.2)).map (·.2) = ps := by rw [List.map_map]; exact a3
          have hms : ((ts.map fun t => (t.1, pyOf t.2)).mergeSort (dataLe false (·.2))) = (ts.mergeSort fun x y => sleD x.2 y.2).map fun t => (t.1, pyOf t.2) :=
            (List.map_mergeSort (f := fun t : V × D => (t.1, pyOf t.2)) (r := fun x y => sleD x.2 y.2) fun a _ b _ => rfl).symm
          have hms2 : xs.mergeSort sleD = (ts.mergeSort fun x y => sleD x.2 y.2).map (·.2) := by
            rw [← a2]; exact (List.map_mergeSort (f := fun t : V × D => t.2) (r := fun x y => sleD x.2 y.2) fun a _ b _ => rfl).symm
          have hlen : ts.length = xs.length := by rw [← a2, List.length_map]
          refine ⟨q, ts.map fun t => (t.1, pyOf t.2), rfl, by rw [hbs1]; exact .inl hq, fun b hb => ?_, by rw [hbs2]; exact o1, by rw [hbs2]; exact o2, by rw [List.length_map, hlen]; exact hz, fun b hb => o3 _ (by rw [← hbs2]; exact List.mem_map_of_mem hb), fun p' hp' => ?_⟩
          · obtain ⟨t, ht, rfl⟩ := List.mem_map.mp hb
            exact (a4 t ht).2
          · rw [hms, List.map_map]
            refine h.newLst g fd hp' ?_
            rw [hms2]
            exact reps_of_all fun t ht => (a4 t (List.mem_mergeSort.mp ht)).1
        · exact h.elim
      · exact h.elim
    · exact h.elim
end
end PD
/-! The pure layer: comparisons as values and as tests. -/
namespace PD
open PySem PySem.Spec PyProof.Rows L2
section
variable {S : Stat} {W : WX} {X : Cx} {md m : Md} {a b c e : Expr} {fa fb fc f : En → Res D} {ea eb ec es : List Nat} {pos : Pos}
/-- as a value in every mode, and as a test -/
structure PC (S : Stat) (W : WX) (X : Cx) (e : Expr) (f : En → Res D) (es : List Nat) : Prop where
  v : ∀ md, PM S W md X e f es
  t : PMT S W X e (fun ρ => (f ρ).bind asB) es
theorem PC.of (h : ∀ md, PM S W md X e f es) (he : ∀ whole, isTrue e X.env whole = (do let v ← whole; standAt e.pos; holding [v] (truthy v))) : PC S W X e f es := ⟨h, PMT.val (h .bor) he⟩
theorem pc_cmp {op : CmpOp} {r : R2} {k : D → D → Res D} (ho : OpR X (compareOp op) r) (ha : PM S W .bor X a fa ea) (hb : PM S W .bor X b fb eb) (hm : behindInMarks op b = false)
    (hk : ∀ md F σ H x y dx dy Q, Gd S H → (∀ a, F a → H a ≠ none) → RepT S F H dx x → RepT S F H dy y → Post S W F md σ H (k dx dy) Q → r x y H Q) : PC S W X (.Compare a [op] [b] pos) (bnd2 fa fb k) (ea ++ eb) :=
  ⟨fun md => pm_cmp ho ha hb hm (hk md), ⟨fun pins s σ H Q I h => (pt_cmpR ho ha hb hm).run pins s σ H Q I (by
    obtain ⟨ρ, F, E, h⟩ := tT_of h
    exact tM_two E h fun H x y dx dy E r1 r2 h => hk .bor F σ H x y dx dy _ E.gd E.fd r1 r2 h)⟩⟩
theorem pc_eq (hK : X.K = S.K) (hu : X.A.units + 64 < cLine) (ha : PM S W .bor X a fa ea) (hb : PM S W .bor X b fb eb) : PC S W X (.Compare a [.Eq] [b] pos) (bnd2 fa fb fun x y => blD (eqD x y)) (ea ++ eb) :=
  pc_cmp (op_eqP hu) ha hb (nomark _) fun md F σ H x y dx dy Q g fd rx ry h => by rw [hK]; exact eqP_of g rx ry h
theorem pc_ne (hK : X.K = S.K) (hu : X.A.units + 64 < cLine) (ha : PM S W .bor X a fa ea) (hb : PM S W .bor X b fb eb) : PC S W X (.Compare a [.NotEq] [b] pos) (bnd2 fa fb fun x y => blD (notB (eqD x y))) (ea ++ eb) :=
  pc_cmp (op_neP hu) ha hb (nomark _) fun md F σ H x y dx dy Q g fd rx ry h => by rw [hK]; exact eqP_of (neg := true) g rx ry h

theorem pc_in (hK : X.K = S.K) (hu : X.A.units + 65 < cLine) (ha : PM S W .bor X a fa ea) (hb : PM S W .bor X b fb eb) (hm : behindInMarks .In b = false) : PC S W X (.Compare a [.In] [b] pos) (bnd2 fa fb fun x y => blD (inD x y)) (ea ++ eb) :=
  pc_cmp ((op_inP hu).or op_in_str) ha hb hm fun md F σ H x y dx dy Q g fd rx ry h => by
    rw [hK]
    unfold inD at h
    split at h
    · exact .inl (memP_of (neg := false) (tp := true) g rx ry h)
    · exact .inl (memP_of (neg := false) (tp := false) g rx ry h)
    · cases rx.str; cases ry.str
      exact .inr ⟨_, _, rfl, rfl, Post.bl g h⟩
    · exact h.elim
theorem pc_nin (hK : X.K = S.K) (hu : X.A.units + 65 < cLine) (ha : PM S W .bor X a fa ea) (hb : PM S W .bor X b fb eb) (hm : behindInMarks .NotIn b = false) : PC S W X (.Compare a [.NotIn] [b] pos) (bnd2 fa fb fun x y => blD (notB (inD x y))) (ea ++ eb) :=
  pc_cmp ((op_ninP hu).or op_notin_str) ha hb hm fun md F σ H x y dx dy Q g fd rx ry h => by
    rw [hK]
    unfold inD at h
    split at h
    · exact .inl (memP_of (neg := true) (tp := true) g rx ry h)
    · exact .inl (memP_of (neg := true) (tp := false) g rx ry h)
    · cases rx.str; cases ry.str
      exact .inr ⟨_, _, rfl, rfl, Post.bl g h⟩
    · exact h.elim
theorem pc_lt (hK : X.K = S.K) (hu : X.A.units < cLine) (ha : PM S W .bor X a fa ea) (hb : PM S W .bor X b fb eb) : PC S W X (.Compare a [.Lt] [b] pos) (bnd2 fa fb fun x y => blD (ltD x y)) (ea ++ eb) :=
  pc_cmp (op_lt.or (op_ltT hu)) ha hb (nomark _) fun md F σ H x y dx dy Q g fd rx ry h => by
    rw [hK]
    unfold ltD at h
    split at h
    · cases rx.int; cases ry.int
      exact .inl ⟨_, _, rfl, rfl, Post.bl g h⟩
    · split at h
      · rename_i e1 e2
        obtain ⟨p, vs, rfl, hp, kp⟩ := rx.tup
        obtain ⟨q, us, rfl, hq, kq⟩ := ry.tup
        cases intsD_rep e1 kp
        cases intsD_rep e2 kq
        exact .inr ⟨p, q, _, _, rfl, rfl, SqT.of hp, SqT.of hq, Post.bl g h⟩
      · exact h.elim
    · exact h.elim
theorem pc_int2 {op : CmpOp} {g : Int → Int → Bool} {k : D → D → Res Bool} (ho : OpR X (compareOp op) (rI0 fun i j => .bl (g i j))) (h1 : op ≠ .In) (h2 : op ≠ .NotIn) (hk : ∀ i j, k (.int i) (.int j) = .ok (g i j)) (hb' : ∀ x y, (∃ i j, x = .int i ∧ y = .int j) ∨ k x y = .bad)
    (ha : PM S W .bor X a fa ea) (hb : PM S W .bor X b fb eb) : PC S W X (.Compare a [op] [b] pos) (bnd2 fa fb fun x y => blD (k x y)) (ea ++ eb) :=
  pc_cmp ho ha hb (nomark _ h1 h2) fun md F σ H x y dx dy Q gd fd rx ry h => by
    rcases hb' dx dy with ⟨i, j, rfl, rfl⟩ | e
    · rw [hk] at h
      cases rx.int; cases ry.int
      exact ⟨_, _, rfl, rfl, Post.bl gd h⟩
    · rw [e] at h; exact h.elim
theorem pc_le (ha : PM S W .bor X a fa ea) (hb : PM S W .bor X b fb eb) : PC S W X (.Compare a [.LtE] [b] pos) (bnd2 fa fb fun x y => blD (leD x y)) (ea ++ eb) := pc_int2 op_le (by decide) (by decide) (fun _ _ => rfl) leD_bad ha hb
theorem pc_gt (ha : PM S W .bor X a fa ea) (hb : PM S W .bor X b fb eb) : PC S W X (.Compare a [.Gt] [b] pos) (bnd2 fa fb fun x y => blD (gtD x y)) (ea ++ eb) := pc_int2 op_gt (by decide) (by decide) (fun _ _ => rfl) gtD_bad ha hb
theorem pc_ge (ha : PM S W .bor X a fa ea) (hb : PM S W .bor X b fb eb) : PC S W X (.Compare a [.GtE] [b] pos) (bnd2 fa fb fun x y => blD (geD x y)) (ea ++ eb) := pc_int2 op_ge (by decide) (by decide) (fun _ _ => rfl) geD_bad ha hb
theorem pc_is (ha : PM S W .bor X a fa ea) (hb : PM S W .bor X b fb eb) : PC S W X (.Compare a [.Is] [b] pos) (bnd2 fa fb fun x y => blD (isD x y)) (ea ++ eb) :=
  pc_cmp op_is1 ha hb (nomark _) fun md F σ H x y dx dy Q g fd rx ry h => by
    obtain ⟨t, e, h⟩ := isD_ok (neg := false) h
    obtain ⟨k1, k2, k5⟩ := isD_rep rx ry e
    exact ⟨k1, k2, by have h' := Post.bl g h; rw [k5] at h'; exact h'⟩
theorem pc_isnot (ha : PM S W .bor X a fa ea) (hb : PM S W .bor X b fb eb) : PC S W X (.Compare a [.IsNot] [b] pos) (bnd2 fa fb fun x y => blD (notB (isD x y))) (ea ++ eb) :=
  pc_cmp op_isnot1 ha hb (nomark _) fun md F σ H x y dx dy Q g fd rx ry h => by
    obtain ⟨t, e, h⟩ := isD_ok (neg := true) h
    obtain ⟨k1, k2, k5⟩ := isD_rep rx ry e
    exact ⟨k1, k2, by have h' := Post.bl g h; rw [k5] at h'; exact h'⟩

theorem chain_read {op op' : CmpOp} {g g' : Int → Int → Bool} {k k' : D → D → Res Bool} (hk : ∀ i j, k (.int i) (.int j) = .ok (g i j)) (hb1 : ∀ x y, (∃ i j, x = .int i ∧ y = .int j) ∨ k x y = .bad) (hk' : ∀ i j, k' (.int i) (.int j) = .ok (g' i j))
    (hb2 : ∀ x y, (∃ i j, x = .int i ∧ y = .int j) ∨ k' x y = .bad) {σ : L2.St} {H : Hp} {Q : VK} (h : tM S W md (chn k k' fa fb fc) (ea ++ (eb ++ ec)) σ H Q) : tChain (rI0 fun i j => .bl (g i j)) (rI0 fun i j => .bl (g' i j)) (tM S W .bor fa ea) (tM S W .bor fb eb) (tM S W .bor fc ec) σ H Q := by
    obtain ⟨ρ, F, E, h⟩ := h
    refine tM_bind (md' := .bor) E h (fun dx x H1 e1 E1 r1 _ h1 => tM_bind (md' := .bor) E1 h1 (fun dy y H2 e2 E2 r2 _ h2 => ?_) (fun i hi => List.mem_append_right _ (List.mem_append_left _ hi))) (fun i hi => List.mem_append_left _ hi)
    rcases hb1 dx dy with ⟨i, j, rfl, rfl⟩ | e
    · rw [hk] at h2
      have r1' : RepT S F H1 (.int i) x := r1
      have r2' : RepT S F H2 (.int j) y := r2
      cases r1'.int; cases r2'.int
      refine ⟨i, j, rfl, rfl, g i j, rfl, ?_⟩
      cases q : g i j with
      | false =>
        rw [q] at h2
        rw [if_neg Bool.false_ne_true]
        exact Post.bl E2.gd h2
      | true =>
        rw [q] at h2
        rw [if_pos rfl]
        refine tM_bind (md' := .bor) E2 h2 (fun dz z H3 e3 E3 r3 _ h3 => ?_) (fun i hi => List.mem_append_right _ (List.mem_append_right _ hi))
        rcases hb2 (.int j) dz with ⟨i', l, e, rfl⟩ | e
        · cases e
          rw [hk'] at h3
          have r3' : RepT S F H3 (.int l) z := r3
          cases r3'.int
          exact ⟨_, _, rfl, rfl, Post.bl E3.gd h3⟩
        · rw [e] at h3; exact h3.elim
    · rw [e] at h2; exact h2.elim
theorem pc_chain {op op' : CmpOp} {g g' : Int → Int → Bool} {k k' : D → D → Res Bool} (ho : OpR X (compareOp op) (rI0 fun i j => .bl (g i j))) (ho' : OpR X (compareOp op') (rI0 fun i j => .bl (g' i j)))
    (hk : ∀ i j, k (.int i) (.int j) = .ok (g i j)) (hb1 : ∀ x y, (∃ i j, x = .int i ∧ y = .int j) ∨ k x y = .bad) (hk' : ∀ i j, k' (.int i) (.int j) = .ok (g' i j)) (hb2 : ∀ x y, (∃ i j, x = .int i ∧ y = .int j) ∨ k' x y = .bad)
    (hm : lastMarks [op, op'] [b, c] = false) (ha : PM S W .bor X a fa ea) (hb : PM S W .bor X b fb eb) (hc : PM S W .bor X c fc ec) : PC S W X (.Compare a [op, op'] [b, c] pos) (chn k k' fa fb fc) (ea ++ (eb ++ ec)) :=
  ⟨fun md => ⟨fun pins s σ H Q I h => (pe_chain ho ho' ha hb hc hm).run pins s σ H Q I (chain_read (op := op) (op' := op') hk hb1 hk' hb2 h)⟩,
    ⟨fun pins s σ H Q I h => (pt_chain ho ho' ha hb hc hm).run pins s σ H Q I (chain_read (op := op) (op' := op') hk hb1 hk' hb2 (tT_of h))⟩⟩
end
end PD
/-! The pure layer: instances are made. -/
namespace PD
open PySem PySem.Spec PyProof.Rows L2
/-- all but x and the tables stays -/
structure ExtB (x : Addr) (H H' : Hp) : Prop where
  to : ∀ b o, b ≠ x → H b = some o → (∀ ps, o ≠ .tbl ps) → H' b = some o
  tb : ∀ b ps, H b = some (.tbl ps) → ∃ qs, H' b = some (.tbl qs)
theorem ExtB.refl (x : Addr) (H : Hp) : ExtB x H H := ⟨fun _ _ _ h _ => h, fun _ ps h => ⟨ps, h⟩⟩
theorem ExtB.trans {x : Addr} {H H1 H2 : Hp} (a : ExtB x H H1) (b : ExtB x H1 H2) : ExtB x H H2 :=
  ⟨fun c o n h t => b.to c o n (a.to c o n h t) t, fun c ps h => by obtain ⟨qs, h1⟩ := a.tb c ps h; exact b.tb c qs h1⟩
theorem ExtB.of {x : Addr} {H H' : Hp} (e : Ext H H') : ExtB x H H' := ⟨fun b o _ h t => e.to b o h t, e.tb⟩
/-- what is wanted of __init__ -/
def PostI0 (S : Stat) (F : Addr → Prop) (c : Nat) (x dx : Addr) (H : Hp) (r : Res (List D)) (Q : VK) (E : XK) : Prop := match r with
  | .ok fs => ∀ H' vs dx', ExtB x H H' → Gd S H' → H' x = some (.ins (S.cA c) dx' ((S.fN c).zip vs)) → vs.length = (S.fN c).length → Reps S F H' fs vs → Q .non H'
  | .exc e => ∀ H', ExtB x H H' → Gd S H' → E (.ref (S.eA e)) none H'
  | .bad => False
/-- __init__ of n arguments: the fields that φ tells -/
def spI (S : Stat) (c : Nat) (φ : List D → Res (List D)) (n : Nat) : Sp := fun vs H Q E => vs.length = n + 1 ∧ ∃ x dx rest ds F, vs = .ref x :: rest ∧ H x = some (.ins (S.cA c) dx []) ∧ F x ∧ Gd S H ∧ (∀ a, F a → H a ≠ none) ∧ Reps S F H ds rest ∧ PostI0 S F c x dx H (φ ds) Q E
/-- a class known by its __init__: n1 positional values, keywords ks, the defaults dd behind them -/
structure KnownI (S : Stat) (P : Program) (w : World) (mg : Str → Option Value) (base : Heap) (L : Nat) (nm : Str) (c n1 : Nat) (ks : List Str) (dd : List D) (φ : List D → Res (List D)) : Prop where
  ex : ∃ (f : Addr) (fd : FuncData) (ps : List Str) (g : List Value → List Value → List Value) (dv : List V), mg nm = some (.ref (S.cA c)) ∧ Mk S.K (S.cA c) f ∧ KBn S.K fd ps (n1 + 1) ks g (fun vs zs => vs ++ (zs ++ dv)) ∧
    (∀ F H, Reps S F H dd dv) ∧ FnOk P w S.K mg base (L2.CX P w) L f fd ps (spI S c φ (n1 + (ks.length + dd.length)))
section
variable {S : Stat} {W : WX} {X : Cx} {md m : Md} {e : Expr} {es : List Expr} {kws : List Keyword} {f : En → Res D} {fs gs : En → Res (List D)} {ea ix iy : List Nat} {pos p kpos : Pos} {nm : Option Str}
def PMK (S : Stat) (W : WX) (X : Cx) (kws : List Keyword) (f : En → Res (List D)) (ix : List Nat) : Prop := PK X kws (tL S W .esc f ix)
theorem pmk_nil : PMK S W X [] (fun _ => .ok []) [] := ⟨fun pos pins s σ H Q I ⟨ρ, F, E, h⟩ => pk_nil.run pos pins s σ H Q I (h [] H (Ext.refl H) E.gd (Reps.nil (S := S) (F := F) (H := H)))⟩
theorem pmk_cons (ha : PM S W .esc X e f ea) (hr : PMK S W X kws fs ix) : PMK S W X (⟨nm, e, kpos⟩ :: kws) (cons2 f fs) (ea ++ ix) :=
  ⟨fun pos pins s σ H Q I ⟨ρ, F, E, h⟩ => (pk_cons ha hr).run pos pins s σ H Q I (by
    refine ⟨ρ, F, E.sub fun i hi => List.mem_append_left _ hi, ?_⟩
    unfold cons2 at h
    cases q : f ρ with
    | ok d =>
      rw [q] at h
      intro v H1 e1 g1 r1
      have E1 := E.ext e1 g1
      refine ⟨ρ, F, E1.sub fun i hi => List.mem_append_right _ hi, ?_⟩
      rw [Res.bind_ok] at h
      cases q2 : fs ρ with
      | ok ds =>
        rw [q2] at h
        exact fun vs H2 e2 g2 r2 => h (v :: vs) H2 (e1.trans e2) g2 (Reps.cons (Rep.ext e2 r1) r2)
      | exc x => rw [q2] at h; exact fun H' e' g' => h H' (e1.trans e') g'
      | bad => rw [q2] at h; exact h
    | exc x => rw [q] at h; exact h
    | bad => rw [q] at h; exact h)⟩
theorem run_makeS {CX : CXT} {k n : Nat} {f C : Addr} {fd : FuncData} {ps ks : List Str} {sp : Sp} {E : L2.St → XK} {g : List Value → List Value → List Value} {gV : List V → List V → List V} {pins : List (Addr × Obj)} {σ : L2.St} {H : Hp} {s : Shared} {Q : VK} {us ws : List Value} {vs zs : List V}
    (M : Mk X.K C f) (F : FnOk X.prog X.w X.K X.mg X.base CX k f fd ps sp) (hr : Room (k + 1) X.A) (hb : KBn X.K fd ps (n + 1) ks g gV) (hx : PassesAt CX X σ (E σ)) (I : L2.Inv X pins σ H s) (r : Vals vs us) (rz : Vals zs ws) (l1 : vs.length = n) (l2 : zs.length = ks.length)
    (h : ∀ x dx, H x = none → H dx = none → dx ≠ x → sp (gV (.ref x :: vs) zs) (L2.upd (L2.upd H dx (.own x)) x (.ins C dx [])) (fun v H2 => v = .non ∧ Q (.ref x) H2) (E σ)) : wpAny (model X.prog X.w) X.A (call (.ref C) us (ks.zip ws)) (EP X pins σ Q) X.xe s := by
  have I2 := Inv.made (C := C) I
  have hq := h (s.heap.objs.size + 1) s.heap.objs.size (I.hok.fresh (Nat.le_succ _)) (I.hok.fresh (Nat.le_refl _)) (Nat.ne_of_lt (Nat.lt_succ_self _))
  have r1 : Vals (V.ref (s.heap.objs.size + 1) :: vs) (Value.ref (s.heap.objs.size + 1) :: us) := .cons rfl r
  have n1 : (Value.ref (s.heap.objs.size + 1) :: us).length = n + 1 := by rw [List.length_cons, ← r.length, l1]
  refine wpAny_call (make_map (f := f) I.kIn M.makes M.init (beq_iff_eq.mp M.fn) (codeAny_mono (F.run _ X.stack _ _ ⟨_ :: us, ks.zip ws⟩ (g (_ :: us) ws) _ _ (E σ) (hr.make C us (ks.zip ws)) (I2.env0.make C us (ks.zip ws)) (hb.to _ (_ :: us) ws I2.kIn n1 (rz.length.symm.trans l2)) (hb.rel r1 rz) hq) fun r s' hq' => ?_))
  cases r with
  | error e => exact hx pins _ _ e s' I2 hq'
  | ok fl =>
    cases fl with
    | ret u =>
      obtain ⟨v, H', I3, rv, ev, q3⟩ := I2.after hq'
      subst ev
      exact ⟨rv, ⟨.ref _, H', I3, rfl, q3⟩⟩
    | next | brk | cont => exact hq'.elim
/-- C(.., k = v, ..) -/
def mkF (c : Nat) (dd : List D) (φ : List D → Res (List D)) (fs gs : En → Res (List D)) : En → Res D := fun ρ => (fs ρ).bind fun ds => (gs ρ).bind fun es => (φ (ds ++ (es ++ dd))).bind fun fl => .ok (.obj c fl)
theorem make_post {F : Addr → Prop} {σ : L2.St} {H : Hp} {Q : VK} {c n : Nat} {dd ds es : List D} {dv vs zs : List V} {φ : List D → Res (List D)} {x dx : Addr} (g : Gd S H) (fd : ∀ a, F a → H a ≠ none) (hdd : ∀ F H, Reps S F H dd dv) (r1 : Reps S F H ds vs) (r2 : Reps S F H es zs) (hn : ds.length + (es.length + dd.length) = n)
    (hx : H x = none) (hdx : H dx = none) (hne : dx ≠ x) (h : Post S W F .esc σ H ((φ (ds ++ (es ++ dd))).bind fun fl => .ok (.obj c fl)) Q) :
    spI S c φ n (.ref x :: vs ++ (zs ++ dv)) (L2.upd (L2.upd H dx (.own x)) x (.ins (S.cA c) dx [])) (fun v H2 => v = .non ∧ Q (.ref x) H2) (WE W σ) := by
  have e1 : Ext H (L2.upd (L2.upd H dx (.own x)) x (.ins (S.cA c) dx [])) := (Ext.upd hdx).trans (Ext.upd (by rw [upd_ne hne.symm]; exact hx))
  have g1 : Gd S (L2.upd (L2.upd H dx (.own x)) x (.ins (S.cA c) dx [])) := (g.upd hdx).upd (by rw [upd_ne hne.symm]; exact hx)
  have back : ∀ {H' : Hp}, ExtB x (L2.upd (L2.upd H dx (.own x)) x (.ins (S.cA c) dx [])) H' → Ext H H' := fun {H'} e => by
    refine ⟨fun b o hb t => e.to b o (ne_of_none hb hx) ?_ t, fun b ps hb => e.tb b ps ?_⟩
    · rw [upd_ne (ne_of_none hb hx), upd_ne (ne_of_none hb hdx)]; exact hb
    · rw [upd_ne (ne_of_none hb hx), upd_ne (ne_of_none hb hdx)]; exact hb
  refine ⟨by rw [List.cons_append, List.length_cons, List.length_append, List.length_append, r1.length, r2.length, (hdd F H).length]; omega, x, dx, vs ++ (zs ++ dv), ds ++ (es ++ dd), fun b => F b ∨ b = x, rfl, upd_same, .inr rfl, g1, fun a z => ?_, ?_, ?_⟩
  · rcases z with z | z
    · exact e1.some (fd a z)
    · rw [z, upd_same]; simp
  · exact Reps.ext e1 (Reps.plus hx (r1.append (r2.append (hdd F H))))
  · cases q : φ (ds ++ (es ++ dd)) with
    | ok fl =>
      rw [q] at h
      have h : Post S W F .esc σ H (.ok (.obj c fl)) Q := h
      intro H' ws dx' e g' hx' hl rf
      refine ⟨rfl, h _ H' (back e) g' ?_⟩
      show Rep S F H' (.obj c fl) (.ref x)
      unfold Rep
      exact ⟨x, dx', ws, rfl, fun z => fd x z hx, hx', hl, Reps.anti (fun _ z => .inl z) rf⟩
    | exc y =>
      rw [q] at h
      have h : ∀ H', Ext H H' → Gd S H' → W (.ref (S.eA y)) none σ H' := h
      exact fun H' e g' => h H' (back e) g'
    | bad => rw [q] at h; exact h.elim
theorem pm_make {x : Str} {c n1 L : Nat} {ks : List Str} {dd : List D} {φ : List D → Res (List D)} (hK : X.K = S.K) (hk : KnownI S X.prog X.w X.mg X.base L x c n1 ks dd φ) (tk : Takes X W) (hr : Room (L + 1) X.A) (hg : Gl X x) (hdb : (x == ("__debug__" : Str)) = false)
    (ha : PML S W .esc X (e :: es) fs ix) (hkw : PMK S W X kws gs iy) (hfl : ∀ ρ ds, fs ρ = .ok ds → ds.length = n1) (hgl : ∀ ρ ds, gs ρ = .ok ds → ds.length = ks.length)
    (hall : (backToKw pos (keywordEach kws X.env)).all (·.1.isSome) = true) (hks : (backToKw pos (keywordEach kws X.env)).filterMap (·.1) = ks)
    (he : starEach (e :: es) X.env = (false, eval e X.env) :: starEach es X.env) (hpl : ((backTo pos (starEach (e :: es) X.env)).any (·.1) || (backToKw pos (keywordEach kws X.env)).any (·.1.isNone)) = false) :
    PM S W .esc X (.Call (.Name x p) (e :: es) kws pos) (mkF c dd φ fs gs) (ix ++ iy) := by
  obtain ⟨f, fd, ps, g, dv, hm, M, hb, hdd, F⟩ := hk.ex
  rw [← hK] at M hb F
  refine ⟨fun pins s σ H Q I ⟨ρ, F', E, h⟩ => ?_⟩
  refine wpAny_Call_Name_kw (ld_glob I hg hm ?_ hdb)
  refine PySem.W.callWith_KW (h₀ := X.base) I.ok.mod.kin M.kp hall (thn (ha.run pos pins s σ H (fun vs H1 => tL S W .esc gs iy σ H1 fun zs H2 => vs.length = n1 ∧ zs.length = ks.length ∧ ∀ x dx, H2 x = none → H2 dx = none → dx ≠ x →
    spI S c φ (n1 + (ks.length + dd.length)) (.ref x :: vs ++ (zs ++ dv)) (L2.upd (L2.upd H2 dx (.own x)) x (.ins (S.cA c) dx [])) (fun v H3 => v = .non ∧ Q (.ref x) H3) (WE W σ)) I ?_) fun us s1 ⟨vs, H1, I1, r, q⟩ => ?_) hpl he
  · refine tL_bind (m := .esc) E h (fun ds vs H1 e1 E1 r1 q1 h1 => ?_) fun i hi => List.mem_append_left _ hi
    have r1 : Reps S F' H1 ds vs := r1
    refine tL_bind (m := .esc) E1 h1 (fun es zs H2 e2 E2 r2 q2 h2 => ?_) fun i hi => List.mem_append_right _ hi
    have r2 : Reps S F' H2 es zs := r2
    have l1 := hfl ρ ds q1
    have l2 := hgl ρ es q2
    refine ⟨by rw [r1.length, l1], by rw [r2.length, l2], fun x dx n1' n2 n3 => make_post E2.gd E2.fd hdd (Reps.ext e2 r1) r2 (by omega) n1' n2 n3 h2⟩
  · refine thn (hkw.run pos pins s1 σ H1 _ I1 q) fun ws s2 ⟨zs, H2, I2, rz, l1, l2, q2⟩ => ⟨I2.kIn, ?_⟩
    rw [hks]
    exact run_makeS (E := WE W) (n := n1) (gV := fun vs zs => vs ++ (zs ++ dv)) M F hr hb (passAt tk σ) I2 r rz l1 l2 q2
end
end PD
/-! A dict with a key more, or changed. -/
namespace PD
open PySem PySem.Spec PyProof.Rows L2
/-- a dict with a key more, or changed -/
def putD (ks ws : List D) (k : List Key) (d : D) : D := if (ks.any fun a => decide (keyOf a = some k)) = true then .dic ks ((ks.zip ws).map fun p => if keyOf p.1 = some k then d else p.2) else .dic (ks ++ [keyD k]) (ws ++ [d])
section
variable {S : Stat} {H : Hp}
theorem any_keyD {kvs : List (List Key × V)} {k : List Key} : ((kvs.map fun p => keyD p.1).any fun a => decide (keyOf a = some k)) = kvs.any fun kv => decide (kv.1 = k) := by
  rw [List.any_map]
  congr 1
  funext p
  show decide (keyOf (keyD p.1) = some k) = _
  rw [keyOf_keyD]
  exact decide_eq_decide.mpr ⟨Option.some.inj, congrArg some⟩
theorem reps_put {F : Addr → Prop} {k : List Key} {d : PD.D} {v : V} (r : Rep S F H d v) : ∀ {kvs : List (List Key × V)} {ws : List PD.D}, Reps S F H ws (kvs.map (·.2)) →
    Reps S F H (((kvs.map fun p => keyD p.1).zip ws).map fun p => if keyOf p.1 = some k then d else p.2) ((kvs.map fun kv => if kv.1 = k then (kv.1, v) else kv).map (·.2))
  | [], ws, h => by
    rw [List.map_nil] at h
    have := h.length
    cases ws with
    | nil => exact h
    | cons w ws => simp at this
  | p :: kvs, ws, h => by
    cases ws with
    | nil => have := h.length; simp at this
    | cons w ws =>
      obtain ⟨v', r', e, h1, h2⟩ := h.cons_inv
      simp only [List.map_cons, List.cons.injEq] at e
      obtain ⟨rfl, rfl⟩ := e
      have ih := reps_put r (k := k) h2
      simp only [List.map_cons, List.zip_cons_cons, keyOf_keyD]
      refine Reps.cons ?_ ih
      by_cases hk : p.1 = k
      · rw [if_pos (by rw [hk]), if_pos hk]; exact r
      · rw [if_neg (fun z => hk (Option.some.inj z)), if_neg hk]; exact h1
theorem putD_rep {F : Addr → Prop} {kvs : List (List Key × V)} {ws : List PD.D} {k : List Key} {d : PD.D} {v : V} (rw_ : Reps S F H ws (kvs.map (·.2))) (r : Rep S F H d v) :
    ∃ ws', putD (kvs.map fun p => keyD p.1) ws k d = .dic ((putK kvs k v).map fun p => keyD p.1) ws' ∧ Reps S F H ws' ((putK kvs k v).map (·.2)) := by
  unfold putD
  rw [any_keyD]
  by_cases q : (kvs.any fun kv => decide (kv.1 = k)) = true
  · rw [if_pos q]
    have z : Reps S F H (((kvs.map fun p => keyD p.1).zip ws).map fun p => if keyOf p.1 = some k then d else p.2) ((putK kvs k v).map (·.2)) := by
      have := reps_put (k := k) r rw_
      unfold putK
      rw [if_pos q]; exact this
    have e : (kvs.map fun p => keyD p.1) = (putK kvs k v).map fun p => keyD p.1 := by
      unfold putK
      rw [if_pos q, List.map_map]
      refine List.map_congr_left fun p _ => ?_
      show keyD p.1 = keyD (if p.1 = k then (p.1, v) else p).1
      split <;> rfl
    exact ⟨_, congrArg (fun l => PD.D.dic l (((kvs.map fun p => keyD p.1).zip ws).map fun p => if keyOf p.1 = some k then d else p.2)) e, z⟩
  · rw [if_neg q]
    have z : Reps S F H (ws ++ [d]) ((putK kvs k v).map (·.2)) := by
      unfold putK
      rw [if_neg q, List.map_append]
      exact rw_.append (Reps.cons r Reps.nil)
    have e : (kvs.map fun p => keyD p.1) ++ [keyD k] = (putK kvs k v).map fun p => keyD p.1 := by
      unfold putK
      rw [if_neg q, List.map_append]; rfl
    exact ⟨_, congrArg (fun l => PD.D.dic l (ws ++ [d])) e, z⟩
end
end PD
/-! {k: v for ..} with tuples as keys. -/
namespace PD
open PySem PySem.Spec PyProof.Rows L2
theorem d_dictSetT {X : Cx} {pins : List (Addr × Obj)} {σ : L2.St} {H : Hp} {s : Shared} {E : Value → Shared → Prop} {D b : Addr} {kvs : List (List Key × V)} {k : List Key} {v : V} {u r : Value} {Q : Unit → Shared → Prop} (hu : X.A.units + 1 < cLine) (I : Inv X pins σ H s) (e : H D = some (.dT kvs)) (eb : H b = some (.tup (k.map kV))) (hz : kvs.length < sizeLine)
    (ry : RelV (.ref b) u) (rv : RelV v r) (h : ∀ s', Inv X pins σ (L2.upd H D (.dT (putK kvs k v))) s' → Q () s') : wpAny (model X.prog X.w) X.A (dictSet D u r) Q E s := by
  cases (show u = Value.ref b from ry)
  obtain ⟨z, hd, xs, rel, dd⟩ := dt_of I.hok e
  have hx : xs.length ≤ sizeLine := by rw [← Paired.length rel]; exact z
  have hl : (putK kvs k v).length ≤ sizeLine := by have q := length_putK kvs k v; omega
  refine wpAny_dictSet_heap (hsz := hx) (show X.A.units < cLine by omega) (key_of I.hok eb) dd fun h' dd' hs => h _ ?_
  obtain ⟨q, es, ep, hq, h2, h3, h4, _, h5⟩ := dd'
  refine d_write (t' := s.toks + (tupleKind (mixKind X.prog X.w)).draws k) I (by rw [e]; exact True.intro) hs ⟨q, hq⟩ ⟨hl, hd, _, (rel.put k eb rv).keeps fun c ys ec => ?_, q, es, ep, hq, h2, h3, h4, h5⟩
  rw [upd_ne (ne_of ec e fun z => nomatch z)]; exact ec
section
variable {X : Cx}
/-- {k: v for target in iter if ..}: D the new dict -/
def tDcT (wi : TI) (g : TG) (tt : TT) (tk tv : TE) (vs : List Nat) : TE := fun σ H Q => wi σ H fun J H1 => ∀ D, H1 D = none → ∃ W : Nat → Nat → Hp → Prop, (∃ m, W 0 m (L2.upd H1 D (.dT []))) ∧ ∀ i m H, W i m H →
  (J.stop i H ∧ Q (.ref D) H) ∨ (J.go i H ∧ ∃ Nx : Hp → Prop, (∀ H', Nx H' → ∃ m', m' < m ∧ W (i + 1) m' H') ∧ ∀ x H', J.yld i H x H' → g x (L2.wipe σ vs) H' fun σ2 H2 => L2.wipe σ2 vs = L2.wipe σ vs ∧ tt σ2 H2 fun b H3 =>
    if b = true then tk σ2 H3 fun y H4 => tv σ2 H4 fun z H5 => ∃ kvs k b, y = .ref b ∧ H5 b = some (.tup (k.map kV)) ∧ H5 D = some (.dT kvs) ∧ kvs.length < sizeLine ∧ Nx (L2.upd H5 D (.dT (putK kvs k z))) else Nx H3)
theorem dcT_core {pins : List (Addr × Obj)} {s : Shared} {σ : L2.St} {H : Hp} {Q : VK} {kx vx tg iter : Expr} {ifs : List Expr} {scope : Scope} {own : List (Str × Nat)} {pos pos' : Pos} {wi : TI} {g : TG} {tt : TT} {tk tv : TE} {use : Option (Value → Sem Unit)} {Qf : Value → Shared → Prop}
    (hu : X.A.units + 1 < cLine) (hc : X.calm = true) (hN : X.N.Nodup) (I : Inv X pins σ H s) (hi : PI X tg iter wi) (ok : BlkOk X.N X.env.scope scope own)
    (hg : ∀ (s : Shared) (H : Hp) (C : Addr) (cl : List (Str × Addr)) (fq : List Addr), PG (X.blk s H scope (compEnvC scope cl C X.env) fq) tg g) (ht : ∀ (s : Shared) (H : Hp) (C : Addr) (cl : List (Str × Addr)) (fq : List Addr), PTs (X.blk s H scope (compEnvC scope cl C X.env) fq) ifs tt)
    (hk : ∀ (s : Shared) (H : Hp) (C : Addr) (cl : List (Str × Addr)) (fq : List Addr), PE (X.blk s H scope (compEnvC scope cl C X.env) fq) kx tk)
    (he : ∀ (s : Shared) (H : Hp) (C : Addr) (cl : List (Str × Addr)) (fq : List Addr), PE (X.blk s H scope (compEnvC scope cl C X.env) fq) vx tv) (hs : ∀ x, foldedSetIterable iter X.env x = pure x)
    (h : tDcT wi g tt tk tv (own.map (·.2)) σ H Q)
    (hQQ : ∀ D C s' m H', Inv X pins σ H' s' → Q (.ref D) H' → s'.heap.Ns C m → FpOk X pins H' C → compPost (model X.prog X.w) X.A X.xe use Qf (.ref D) C (.ok .next) s') :
    wpAny (model X.prog X.w) X.A (comprehension (.DictComp kx vx [⟨tg, iter, ifs, 0⟩] scope pos) scope X.env pos' newDict false (eval iter X.env) use) Qf (X.xe) s := by
  have hfre : ∀ y ∈ scope.names, y.2 = .free → ∃ c, X.env.cells.lookup y.1 = some c := fun w_ hw_ e => by
    rcases ok.free _ hw_ e with k | k
    · exact I.ok.has _ (.inl k)
    · exact I.ok.has _ (.inr k)
  refine wpAny_comprehension_free (use := use) rfl hs (closure_ok hfre) ok.kind (fun w_ hw_ e => by rw [ok.uniq w_ hw_, e])
    (thn (hi.run pins s σ H _ I h) fun xv t1 hx => thn hx fun itv t2 k2 => ?_)
  obtain ⟨it, fq, tn, J, G2, e, J2, T, u2, e2, q⟩ := k2
  subst e
  refine wpAny_newObj_type <| newEnv_comp ?_
  generalize hD : t2.heap.objs.size = D
  have hDm : G2 D = none := J2.hok.fresh (Nat.le_of_eq hD)
  obtain ⟨W, ⟨m0, w0⟩, tur⟩ := q D hDm
  -- the new list
  generalize ks3 : ({ t2 with heap := t2.heap.push { cls := .type "dict", data := .dict #[] } } : Shared) = t3
  have J3 : Inv X pins σ (L2.upd G2 D (.dT [])) t3 := by
    rw [← ks3]
    refine J2.laid (t' := t2.toks) (fun b o e => Heap.get?_push_of_some _ e) (Nat.le_of_eq hD) ?_
    rw [← hD]
    exact dt_empty t2.heap J2.big
  have k3 : t3.heap = t2.heap.push { cls := .type "dict", data := .dict #[] } := by rw [← ks3]
  have sz_ : ∀ b ∈ fq, b < t2.heap.objs.size := fun b hb => by
    obtain ⟨o, e, _⟩ := T.obj _ _ u2 b hb
    exact Heap.lt_size e
  have e3 : ∀ b ∈ fq, FpOk X pins (L2.upd G2 D (.dT [])) b ∧ b < t3.heap.objs.size := fun b hb => by
    have hlu := sz_ b hb
    refine ⟨⟨?_, (e2 b hb).2⟩, by rw [k3, Heap.size_push]; exact Nat.lt_succ_of_lt hlu⟩
    rw [upd_ne (by rw [← hD]; exact Nat.ne_of_lt hlu)]
    exact (e2 b hb).1
  have u3 : tn 0 t3.heap := T.keep _ _ _ u2 fun b _ o e => by rw [k3]; exact Heap.get?_push_of_some _ e
  have J4 := block_start J3 ok hN e3
  have qg := hg t3 (L2.upd G2 D (.dT [])) t3.heap.objs.size (cellsFrom (t3.heap.objs.size + 1) scope.names (cloFrom X.env.cells scope.names [])) fq
  have qt := ht t3 (L2.upd G2 D (.dT [])) t3.heap.objs.size (cellsFrom (t3.heap.objs.size + 1) scope.names (cloFrom X.env.cells scope.names [])) fq
  have qk := hk t3 (L2.upd G2 D (.dT [])) t3.heap.objs.size (cellsFrom (t3.heap.objs.size + 1) scope.names (cloFrom X.env.cells scope.names [])) fq
  have qe := he t3 (L2.upd G2 D (.dT [])) t3.heap.objs.size (cellsFrom (t3.heap.objs.size + 1) scope.names (cloFrom X.env.cells scope.names [])) fq
  show codeAny _ _ (.compStart (.DictComp kx vx [⟨tg, iter, ifs, 0⟩] scope pos) 0 (.ref it) (.ref D) (compEnvC scope (cellsFrom (t3.heap.objs.size + 1) scope.names (cloFrom X.env.cells scope.names [])) t3.heap.objs.size X.env)) (compPost (model X.prog X.w) X.A X.xe use Qf (.ref D) t3.heap.objs.size) { t3 with heap := pushCells (t3.heap.push { cls := .type "dict", data := .dict #[] }) scope.names }
  have nfq : ∀ b ∈ fq, (L2.upd G2 D (.dT [])) b = none := fun b hb => (e3 b hb).1.1
  generalize hcf : compEnvC scope (cellsFrom (t3.heap.objs.size + 1) scope.names (cloFrom X.env.cells scope.names [])) t3.heap.objs.size X.env = cf at J4 qg qt qk qe ⊢
  have cM : cf.locals = t3.heap.objs.size := by subst hcf; rfl
  generalize hG3 : L2.upd G2 D (.dT []) = G3 at J3 J4 qg qt qk qe w0 nfq e3
  generalize ks4 : ({ t3 with heap := pushCells (t3.heap.push { cls := .type "dict", data := .dict #[] }) scope.names } : Shared) = t4 at J4 ⊢
  have u4 : tn 0 t4.heap := T.keep _ _ _ u3 fun b _ o e => by rw [← ks4]; exact pushCells_keeps _ _ _ _ (Heap.get?_push_of_some _ e)
  have sta : ∀ {σ' : L2.St} {H' : Hp} {s' : Shared}, Inv (X.blk t3 G3 scope cf fq) [] σ' H' s' → (∀ b ∈ fq, H' b = none) → ∀ b ∈ fq, FpOk (X.blk t3 G3 scope cf fq) [] H' b := fun {σ' H' s'} I' hn b hb =>
    ⟨hn b hb, (I'.ok.exf b hb).1, I'.ok.exfs b hb, .inl hb, fun x c => (I'.ok.exf b hb).2 x c, fun p hp => absurd (show p ∈ ([] : List (Addr × Obj)) ++ [] from hp) (by simp)⟩
  have lp : codeAny (model X.prog X.w) X.A (.compLoop (.DictComp kx vx [⟨tg, iter, ifs, 0⟩] scope pos) 0 (.ref it) (.ref D) cf) (compPost (model X.prog X.w) X.A X.xe use Qf (.ref D) t3.heap.objs.size) t4 := by
    refine compLoop_anyD (fun n s' => ∃ i H', Inv (X.blk t3 G3 scope cf fq) [] (L2.wipe σ (own.map (·.2))) H' s' ∧ tn i s'.heap ∧ (∀ b ∈ fq, H' b = none) ∧ W i n H') ?_ m0 ⟨0, G3, J4, u4, nfq, w0⟩
    rintro n t5 ⟨i, G5, J5, u5, nn5, ww5⟩
    rcases tur i n G5 ww5 with ⟨sto, qq⟩ | ⟨goo, Ny, hNy, stp⟩
    · have td_ := T.done (X.blk t3 G3 scope cf fq) rfl rfl rfl hc i [] t5 _ G5 (fun _ _ => False) J5 (sta J5 nn5) u5 sto
      refine thnF td_ fun r t6 ⟨hr, J6⟩ => ?_
      subst hr
      -- back in the def's context
      have J7 : Inv X pins σ G5 t6 := J3.call' (ch := fq) J6.os J6.base J6.hok J6.bare fun b hb => ⟨(e3 b hb).1.2.2.2.1, (e3 b hb).1.2.1, (e3 b hb).1.2.2.2.2.1, (e3 b hb).1.2.2.2.2.2⟩
      have nD : G5 t3.heap.objs.size = none := by
        have z : G5 cf.locals = none := J6.free
        rw [cM] at z
        exact z
      obtain ⟨m, hn, _⟩ := J6.loc
      have hn : t6.heap.Ns cf.locals m := hn
      rw [cM] at hn
      exact hQQ D t3.heap.objs.size t6 m G5 J7 qq hn (J3.fpOk (Nat.le_refl _) nD)
    · have ti_ := T.item (X.blk t3 G3 scope cf fq) rfl rfl rfl hc i [] t5 _ G5 (fun _ _ => False) J5 (sta J5 nn5) u5 goo
      refine thnF ti_ fun r t6 ⟨u, hr, k6⟩ => ?_
      subst hr
      refine thnF k6 fun _ t7 ⟨x, G7, J7, rr7, yy7, u7, nn7⟩ => ?_
      have J7' := J7.pinned (sta J7 nn7) (T.obj _ _ u7)
      refine thnF (qg.run _ t7 _ G7 x u _ J7' rr7 (stp x G7 yy7)) fun _ t8 ⟨τ8, G8, J8, hv8, qq8⟩ => ?_
      refine thnF (qt.run _ t8 τ8 G8 _ J8 qq8) fun b t9 ⟨G9, J9, qq9⟩ => ?_
      -- the turn's end
      have fn_ : ∀ {s' : Shared} {H' : Hp}, Inv (X.blk t3 G3 scope cf fq) ([] ++ pinsAt fq t7.heap) τ8 H' s' → Ny H' → ∃ m, m < n ∧ ∃ i H', Inv (X.blk t3 G3 scope cf fq) [] (L2.wipe σ (own.map (·.2))) H' s' ∧ tn i s'.heap ∧ (∀ b ∈ fq, H' b = none) ∧ W i m H' := fun {s' H'} I' nx => by
        obtain ⟨o', hn_, w'⟩ := hNy H' nx
        have pim' : ∀ b ∈ fq, ∀ o, t7.heap.get? b = some o → s'.heap.get? b = some o ∧ H' b = none := fun b hb o e =>
          let zz := I'.pin (b, o) (List.mem_append_right _ (List.mem_append_right _ (mem_pinsAt hb e)))
          ⟨zz.1, zz.2.1⟩
        have hl : (L2.wipe σ (own.map (·.2))).length = τ8.length := by rw [← hv8, wipe_length]
        refine ⟨o', hn_, i + 1, H', (I'.unpinned (pins := [])).weak hl (fun j v e => ?_), T.keep _ _ _ u7 fun b hb o e => (pim' b hb o e).1, fun b hb => ?_, w'⟩
        · rw [← hv8] at e
          exact (wipe_some e).1
        · obtain ⟨o, e, _⟩ := T.obj _ _ u7 b hb
          exact (pim' b hb o e).2
      cases b with
      | false =>
        simp only [Bool.false_eq_true, if_false] at qq9 ⊢
        exact fn_ J9 qq9
      | true =>
        simp only [if_true] at qq9 ⊢
        refine thnF (qk.run _ t9 τ8 G9 _ J9 qq9) fun z t10 ⟨yk, G10, J10, rr10, qq10⟩ => ?_
        refine thnF (qe.run _ t10 τ8 G10 _ J10 qq10) fun z2 t11 ⟨yv, G11, J11, rr11, kvs, k, b, ek, eb, hE11, hy11, nx⟩ => ?_
        subst ek
        exact d_dictSetT (X := X.blk t3 G3 scope cf fq) hu J11 hE11 eb hy11 rr10 rr11 fun t12 J12 => fn_ J12 nx
  exact codeAny_compStart_dict lp (T.self X.A 0 _ _ _ u4 lp)
/-- as a value -/
theorem pe_dcT {kx vx tg iter : Expr} {ifs : List Expr} {scope : Scope} {own : List (Str × Nat)} {pos : Pos} {wi : TI} {g : TG} {tt : TT} {tk tv : TE} (hu : X.A.units + 1 < cLine) (hc : X.calm = true) (hN : X.N.Nodup) (hi : PI X tg iter wi) (ok : BlkOk X.N X.env.scope scope own)
    (hg : ∀ (s : Shared) (H : Hp) (C : Addr) (cl : List (Str × Addr)) (fq : List Addr), PG (X.blk s H scope (compEnvC scope cl C X.env) fq) tg g) (ht : ∀ (s : Shared) (H : Hp) (C : Addr) (cl : List (Str × Addr)) (fq : List Addr), PTs (X.blk s H scope (compEnvC scope cl C X.env) fq) ifs tt)
    (hk : ∀ (s : Shared) (H : Hp) (C : Addr) (cl : List (Str × Addr)) (fq : List Addr), PE (X.blk s H scope (compEnvC scope cl C X.env) fq) kx tk)
    (he : ∀ (s : Shared) (H : Hp) (C : Addr) (cl : List (Str × Addr)) (fq : List Addr), PE (X.blk s H scope (compEnvC scope cl C X.env) fq) vx tv) (hs : ∀ x, foldedSetIterable iter X.env x = pure x := by intro _; rfl) :
    PE X (.DictComp kx vx [⟨tg, iter, ifs, 0⟩] scope pos) (tDcT wi g tt tk tv (own.map (·.2))) := by
  refine ⟨fun pins t σ H Q I h => ?_⟩
  rw [arm_eval_DictComp]
  refine dcT_core hu hc hN I hi ok hg ht hk he hs h fun D C s' m H' I' q hn f => ⟨m, hn, fun h'' sb => ?_⟩
  obtain ⟨f0, e1, e2, e3, e4, e5⟩ := f
  exact ⟨.ref D, H', I'.turned (t' := s'.toks) (fun b o hb e => (sb.2 b hb).trans e) f0 e1 e3 e4 e5, rfl, q⟩
end
end PD
/-! {k: c for t in it}, c an int, as a reading of the environment. -/
namespace PD
open PySem PySem.Spec PyProof.Rows L2
def dcP (c : Int) (acc k : D) : Res D := match acc, keyOf k with
  | .dic ks ws, some kk => if ks.length < sizeLine then .ok (putD ks ws kk (.int c)) else .bad
  | _, _ => .bad
def dcL (vs : List Nat) (t : Tg) (fk : En → Res D) (c : Int) (ρ : En) : List D → D → Res D
  | [], acc => .ok acc
  | d :: ds, acc => (bindT t d (wipeE ρ vs)).bind fun ρ1 => (noE (fk ρ1)).bind fun k => (dcP c acc k).bind fun acc' => dcL vs t fk c ρ ds acc'
def dcF (vs : List Nat) (t : Tg) (fi : En → Res (List D)) (fk : En → Res D) (c : Int) : En → Res D := fun ρ => (fi ρ).bind fun ds => dcL vs t fk c ρ ds (.dic [] [])
theorem bindT_nox {t : Tg} {d : D} {ρ : En} {c : Nat} : bindT t d ρ ≠ .exc c := by
  intro q
  unfold bindT at q
  split at q
  · cases q
  · split at q
    · split at q <;> cases q
    · split at q <;> cases q
    · cases q
theorem noE_noexc {α : Type} {r : Res α} {c : Nat} : noE r ≠ .exc c := by cases r <;> exact fun h => nomatch h
theorem dcL_noexc {vs : List Nat} {t : Tg} {fk : En → Res D} {n : Int} {ρ : En} {c : Nat} : ∀ (ds : List D) (acc : D), dcL vs t fk n ρ ds acc ≠ .exc c
  | [], _, h => by cases h
  | d :: ds, acc, h => by
    unfold dcL at h
    cases q : bindT t d (wipeE ρ vs) with
    | exc x => exact bindT_nox q
    | bad => rw [q] at h; cases h
    | ok ρ1 =>
      rw [q, Res.bind_ok] at h
      cases q2 : noE (fk ρ1) with
      | exc x => exact noE_noexc q2
      | bad => rw [q2] at h; cases h
      | ok k =>
        rw [q2, Res.bind_ok] at h
        cases q3 : dcP n acc k with
        | exc x =>
          unfold dcP at q3
          split at q3
          · split at q3 <;> cases q3
          · cases q3
        | bad => rw [q3] at h; cases h
        | ok a =>
          rw [q3, Res.bind_ok] at h
          exact dcL_noexc ds a h
section
variable {S : Stat} {W : WX} {X : Cx} {md : Md} {kx vx tg iter : Expr} {ifs : List Expr} {scope : Scope} {own : List (Str × Nat)} {pos : Pos} {t : Tg} {fi : En → Res (List D)} {fk : En → Res D} {c : Int} {ei ek : List Nat}
theorem dcP_ok {acc k acc' : D} (h : dcP c acc k = .ok acc') : ∃ ks ws kk, acc = .dic ks ws ∧ keyOf k = some kk ∧ ks.length < sizeLine ∧ acc' = putD ks ws kk (.int c) := by
  unfold dcP at h
  split at h
  · rename_i ks ws kk hk
    split at h
    · cases h; exact ⟨ks, ws, kk, rfl, hk, by assumption, rfl⟩
    · cases h
  · cases h
theorem dc_read {σ : L2.St} {H : Hp} {Q : VK} (hsub : ∀ i ∈ t.slots, i ∈ own.map (·.2)) (h : tM S W md (dcF (own.map (·.2)) t fi fk c) (ei ++ outE (own.map (·.2)) ek) σ H Q) :
    tDcT (tI S W fi ei) (gM S.K t) (tT S W0 (fun _ => .ok true) []) (tM S W0 .bor fk ek) (tM S W0 .esc (fun _ => .ok (.int c)) []) (own.map (·.2)) σ H Q := by
  obtain ⟨ρ, F, E, h⟩ := h
  generalize hvs : own.map (·.2) = vs at *
  refine ⟨ρ, F, E.sub fun i hi => List.mem_append_left _ hi, ?_⟩
  unfold dcF at h
  cases q : fi ρ with
  | exc x => rw [q] at h; exact h
  | bad => rw [q] at h; exact h
  | ok ds =>
    rw [q, Res.bind_ok] at h
    intro J H1 e1 g1 it D hD
    cases q2 : dcL vs t fk c ρ ds (.dic [] []) with
    | exc x => exact absurd q2 (dcL_noexc ds _)
    | bad => rw [q2] at h; exact h.elim
    | ok res =>
      rw [q2] at h
      have E1 := E.ext e1 g1
      let Iv : Nat → Hp → Prop := fun i H2 => Ext H1 H2 ∧ Gd S H2 ∧ ∃ kvs ws, dcL vs t fk c ρ (ds.drop i) (.dic (kvs.map fun p => keyD p.1) ws) = .ok res ∧ H2 D = some (.dT kvs) ∧ Reps S (fun b => F b ∨ b = D) H2 ws (kvs.map (·.2))
      refine ⟨fun i m H2 => m = ds.length - i ∧ i ≤ ds.length ∧ Iv i H2, ⟨ds.length, by simp, Nat.zero_le _, Ext.upd hD, g1.upd hD, [], [], by simpa using q2, upd_same, Reps.nil⟩, ?_⟩
      rintro i m H2 ⟨rfl, hi, e2, g2, kvs, ws, hr, hDl, racc⟩
      have it2 : ItR S (fun b => F b ∨ b = D) H2 J ds := (it.plus hD).ext e2
      by_cases hlt : i < ds.length
      · refine .inr ⟨it2.go hlt, fun H3 => Iv (i + 1) H3, fun H3 z => ⟨ds.length - (i + 1), by omega, rfl, hlt, z⟩, fun x H3 y => ?_⟩
        obtain ⟨rfl, rx⟩ := it2.yld hlt y
        rw [List.drop_eq_getElem_cons hlt] at hr
        unfold dcL at hr
        obtain ⟨ρ1, b1, hr⟩ := bind_ok hr
        obtain ⟨k, b2, hr⟩ := noE_ok hr
        obtain ⟨acc', b3, hr⟩ := bind_ok hr
        obtain ⟨ks, ws', kk, ea, hk, hlen, rfl⟩ := dcP_ok b3
        cases ea
        have EB := (E1.beside hD e2 g2 (by rw [hDl]; simp)).wipe vs
        refine bind_g EB rx b1 fun σ' E' o' l' => ⟨?_, ?_⟩
        · rw [wipe_of (σ := L2.wipe σ vs) l' fun j hj => o' j fun z => hj (hsub j z)]
          exact wipe_of (wipe_length _ _) fun j hj => wipe_out hj
        · have sub : ∀ i ∈ ek, i ∈ (ei ++ outE vs ek) ++ vs ++ t.slots := by
            intro i hi
            refine List.mem_append_left _ ?_
            by_cases hv : i ∈ vs
            · exact List.mem_append_right _ hv
            · exact List.mem_append_left _ (List.mem_append_right _ (List.mem_filter.mpr ⟨hi, by simpa using hv⟩))
          refine ⟨ρ1, _, E'.sub (fun i hi => nomatch hi), fun H4 e4 g4 => ?_⟩
          show tM S W0 .bor fk ek _ _ _
          refine ⟨ρ1, _, (E'.ext e4 g4).sub sub, ?_⟩
          rw [b2]
          intro y H5 e5 g5 ry
          obtain ⟨b, rfl, hb⟩ := keyOf_rep hk (show RepT S _ H5 k y from ry)
          refine ⟨ρ1, _, ((E'.ext e4 g4).ext e5 g5).sub (fun i hi => nomatch hi), fun v H6 e6 g6 rv => ?_⟩
          have rv : Rep S (fun b => F b ∨ b = D) H6 (.int c) v := rv
          have hD6 : H6 D = some (.dT kvs) := e6.to _ _ (e5.to _ _ (e4.to _ _ hDl (fun _ z => nomatch z)) (fun _ z => nomatch z)) (fun _ z => nomatch z)
          have racc6 := Reps.ext e6 (Reps.ext e5 (Reps.ext e4 racc))
          refine ⟨kvs, kk, b, rfl, e6.to _ _ hb (fun _ z => nomatch z), hD6, by simpa using hlen, ?_⟩
          have mv : ∀ {ds : List PD.D} {vs : List V}, Reps S (fun b => F b ∨ b = D) H6 ds vs → Reps S (fun b => F b ∨ b = D) (L2.upd H6 D (.dT (putK kvs kk v))) ds vs := fun r => Reps.upd (.inr rfl) hD6 (fun _ z => nomatch z) (fun _ _ z => nomatch z) r
          have rv' : Rep S (fun b => F b ∨ b = D) (L2.upd H6 D (.dT (putK kvs kk v))) (.int c) v := by
            obtain ⟨_, _, e1, e2, e3⟩ := Reps.cons_inv (mv (Reps.cons rv Reps.nil))
            cases e1
            exact e2
          obtain ⟨ws', p1, p2⟩ := putD_rep (k := kk) (mv racc6) rv'
          refine ⟨(((e2.trans e4).trans e5).trans e6).out hD, g6.write hD6 (fun _ z => nomatch z) (fun _ z => nomatch z), _, ws', ?_, upd_same, p2⟩
          rw [← p1]; exact hr
      · have e : i = ds.length := by omega
        subst e
        refine .inl ⟨it2.stop, ?_⟩
        rw [List.drop_length] at hr
        cases hr
        have rf : RepF S F H H2 (.dic (kvs.map fun p => keyD p.1) ws) (.ref D) := ⟨D, kvs, rfl, e1.none hD, hDl, rfl, racc⟩
        refine h _ _ (e1.trans e2) g2 ?_
        cases md
        · exact RepF.toE E.fd rf
        · exact rf
        · exact Rep.toT (RepF.toE E.fd rf)
theorem pm_dc (hu : X.A.units + 1 < cLine) (hc : X.calm = true) (hK : X.K = S.K) (hN : X.N.Nodup) (hi : PIM S W X tg iter fi ei) (ok : BlkOk X.N X.env.scope scope own) (hsub : ∀ i ∈ t.slots, i ∈ own.map (·.2))
    (hg : ∀ (s : Shared) (H : Hp) (C : Addr) (cl : List (Str × Addr)) (fp : List Addr), TgAt (X.blk s H scope (compEnvC scope cl C X.env) fp) tg t)
    (hk : ∀ (s : Shared) (H : Hp) (C : Addr) (cl : List (Str × Addr)) (fp : List Addr), PM S W0 .bor (X.blk s H scope (compEnvC scope cl C X.env) fp) kx fk ek)
    (hv : ∀ (s : Shared) (H : Hp) (C : Addr) (cl : List (Str × Addr)) (fp : List Addr), PM S W0 .esc (X.blk s H scope (compEnvC scope cl C X.env) fp) vx (fun _ => .ok (.int c)) []) (hs : ∀ x, foldedSetIterable iter X.env x = pure x) :
    PM S W md X (.DictComp kx vx [⟨tg, iter, [], 0⟩] scope pos) (dcF (own.map (·.2)) t fi fk c) (ei ++ outE (own.map (·.2)) ek) :=
  ⟨fun pins s σ H Q I h => (pe_dcT (g := gM S.K t) hu hc hN hi ok (fun s H C cl fp => by have z := TgAt.pg (X := X.blk s H scope (compEnvC scope cl C X.env) fp) hN hc (hg s H C cl fp); rw [← hK]; exact z)
    (fun s H C cl fp => ⟨fun pins s σ H Q I ⟨ρ, F, E, k⟩ => pts_nil.run pins s σ H Q I (k H (Ext.refl H) E.gd)⟩) hk hv hs).run pins s σ H Q I (dc_read hsub h)⟩
end
end PD
/-! xs.index(y), xs a list of things without instances. -/
namespace PD
open PySem PySem.Spec PyProof.Rows L2
def idxL (ys : List D) (x : D) : Res D := match x.py, D.pys ys with
  | some p, some qs => if SeqAt.shaped p = true ∧ SeqAt.shaped (.list qs) = true then (match qs.findIdx? fun z => PyData.eqv z p with
    | some j => .ok (.int (j : Nat))
    | none => .bad) else .bad
  | _, _ => .bad
def idxF (fa fb : En → Res D) : En → Res D := fun ρ => (fa ρ).bind fun x => match x with
  | .lst ys => (fb ρ).bind (idxL ys)
  | _ => .bad
section
variable {S : Stat} {W : WX} {X : Cx} {md : Md} {o e : PySem.Expr} {apos cpos : Pos} {fa fb : En → Res D} {ea eb : List Nat}
theorem pm_idx (hK : X.K = S.K) (hu : X.A.units + 65 < cLine) (ha : PM S W .bor X o fa ea) (hb : PM S W .bor X e fb eb) (hbase : attributeBase o "index" X.env (eval o X.env) = eval o X.env)
    (hfew : ((backTo cpos (starEach [e] X.env)).all (fun x => !x.1) && (backToKw cpos (keywordEach [] X.env)).all (fun x => x.1.isSome) && decide ([e].length + ([] : List Keyword).length + (if ([] : List Keyword).isEmpty then 0 else 1) < 30)) = true)
    (hline : (apos.endLine == cpos.line) = true) (hs : starEach [e] X.env = (false, eval e X.env) :: starEach [] X.env) : PM S W md X (.Call (.Attribute o "index" apos) [e] [] cpos) (idxF fa fb) (ea ++ eb) :=
  ⟨fun pins s σ H Q I ⟨ρ, F, E, h⟩ => (pe_bm PySem.F.plainAttrs_list PySem.F.slot_list_index PySem.F.type_list_index (mt_indexD hu) ha (pa_cons hb pa_nil hs) hbase hfew hline hs rfl).run pins s σ H Q I (by
    refine ⟨ρ, F, E.sub fun i hi => List.mem_append_left _ hi, ?_⟩
    unfold idxF at h
    cases q : fa ρ with
    | exc x => rw [q] at h; exact h
    | bad => rw [q] at h; exact h
    | ok dx =>
      rw [q, Res.bind_ok] at h
      intro x H1 e1 g1 r1
      have r1 : RepT S F H1 dx x := r1
      obtain ⟨ys, rfl⟩ : ∃ ys, dx = .lst ys := by cases dx <;> first | exact ⟨_, rfl⟩ | exact h.elim
      have h : Post S W F md σ H ((fb ρ).bind (idxL ys)) Q := h
      obtain ⟨a, vs, rfl, h2, h3⟩ := r1.lst
      refine ⟨by rw [hK]; exact .inl ⟨rfl, vs, .inl h2⟩, ρ, F, (E.ext e1 g1).sub fun i hi => List.mem_append_right _ hi, ?_⟩
      cases q2 : fb ρ with
      | exc x => rw [q2] at h; exact Post.ext h e1
      | bad => rw [q2] at h; exact h.elim
      | ok dy =>
        rw [q2, Res.bind_ok] at h
        intro y H2 e2 g2 r2
        have r2 : RepT S F H2 dy y := r2
        unfold idxL at h
        split at h
        · rename_i p qs k1 k2
          split at h
          · rename_i hsh
            split at h
            · rename_i j hj
              obtain ⟨hlt, t1, t2⟩ := List.findIdx?_eq_some_iff_getElem.mp hj
              have rl := RepT.dp (S := S) (F := F) (H := H2) (d := .lst ys) (p := .list qs) (v := .ref a) (by show (D.lst ys).py = _; unfold D.py; rw [k2]; rfl) (RepT.ext e2 (show RepT S F H1 (.lst ys) (.ref a) from r1))
              have ry := RepT.dp k1 r2
              rw [hK]
              refine ⟨a, y, p, qs, j, qs[j], rfl, rfl, rl.1, ry.1, hsh.2, hsh.1, List.getElem?_eq_getElem hlt, t1, fun m z' hm hz => ?_, ?_⟩
              · have hz' := (List.getElem?_eq_some_iff.mp hz)
                obtain ⟨hl', rfl⟩ := hz'
                have := t2 m hm
                simpa using this
              · exact (Post.ext (Post.ext h e1) e2).flat g2 rfl (by unfold Rep; rfl)
            · exact h.elim
          · exact h.elim
        · exact h.elim)⟩
end
end PD
/-! list(reversed(x)), x a tuple: a new list. -/
namespace PD
open PySem PySem.Spec PyProof.Rows L2 RT
theorem rt_nolen : typeLookup (.type "reversed") "__len__" = pure none := by rw [typeLookup_type, builtinLookup_eq_fast]; kernel_rfl
theorem rt_hint : Slot "reversed" "__length_hint__" "reversed.__length_hint__" :=
  .of (owner := "reversed") (n := "__length_hint__") (by rw [typeLookup_type, builtinLookup_eq_fast]; kernel_rfl) (by decide +kernel) (by decide +kernel) (by decide +kernel)
    (by first | exact .inl (by decide +kernel) | exact .inr (by decide +kernel)) (by rw [isSubtype_type]; kernel_rfl)
theorem rt_hint_entry : entryFor table "reversed.__length_hint__" = some Builtin.«reversed.__length_hint__» := entryFor_of_tree (by kernel_rfl)
theorem rt_hint_args (a : Value) : argsOk "reversed.__length_hint__" ⟨[a], []⟩ := by
  unfold argsOk; rw [signature?_of (id := "reversed.__length_hint__") (n := ['_', '_', 't', 'n', 'i', 'h', '_', 'h', 't', 'g', 'n', 'e', 'l', '_', '_']) (o := ['d', 'e', 's', 'r', 'e', 'v', 'e', 'r']) (by kernel_rfl) owner_rt]; kernel_rfl
section
variable {prog : Program} {w : World} {A : Around} {E : Value → Shared → Prop} {s : Shared} {it t : Addr} {items : Array Value}
theorem rt_hint_call {Q : Value → Shared → Prop} (hit : IsRt s.heap it t ((items.size : Int) - 1)) (ht : IsTup s.heap t items) (hsz : items.size ≤ sizeLine)
    (hQ : ∀ tk u, Q (.int (items.size : Int) u) { s with toks := tk }) : wpAny (model prog w) A (call (.builtin "reversed.__length_hint__") [.ref it]) Q E s := by
  obtain ⟨o, ho, hc, hd⟩ := id hit
  have hn := line63
  refine wpAny_call_entry rt_hint hit.typeIs rt_hint_entry ?_ (rt_hint_args _)
  unfold Builtin.«reversed.__length_hint__»
  refine wpAny_bind (wpAny_of_eq (a := Value.ref it) rfl ?_)
  try dsimp only
  refine wpAny_bind (wpAny_field ho hd (x := .ref t) rfl ?_)
  try dsimp only
  rw [if_neg (show ¬ (Value.ref t == Value.none) = true from Bool.false_ne_true)]
  refine wpAny_bind (len_tuple ht (by omega) ?_)
  refine wpAny_bind (wpAny_of_eq (a := some ((items.size : Nat) : Int)) rfl ?_)
  try dsimp only
  refine wpAny_bind (wpAny_field (s := { s with toks := s.toks + 1 + 1 }) ho hd (x := rawInt ((items.size : Int) - 1)) rfl ?_)
  try dsimp only
  show wpAny _ _ (if (items.size : Int) < (items.size : Int) - 1 + 1 then _ else retInt ((items.size : Int) - 1 + 1)) _ _ _
  rw [if_neg (by omega), show (items.size : Int) - 1 + 1 = (items.size : Int) by omega]
  show wpAny _ _ (mkInt (items.size : Int) >>= fun v => ret v) _ _ _
  exact wpAny_bind (wpAny_mkInt (wpAny_pure ⟨_, rfl, hQ _ _⟩))
theorem rt_length {Q : Bool → Shared → Prop} (hit : IsRt s.heap it t ((items.size : Int) - 1)) (ht : IsTup s.heap t items) (hsz : items.size ≤ sizeLine)
    (hQ : ∀ b tk, Q b { s with toks := tk }) : wpAny (model prog w) A (Builtin.List.listLengthHint (.ref it)) Q E s := by
  have hT : s.TypeIs (.ref it) "reversed" := hit.typeIs
  have hn := line63
  unfold Builtin.List.listLengthHint
  refine wpAny_bind (wpAny_specialOf hT rt_nolen ?_)
  show wpAny _ A (specialOf (Value.ref it) (Str.ofString "__length_hint__") >>= _) _ _ _
  refine wpAny_bind (wpAny_specialOf hT rt_hint.lookup ?_)
  generalize hid : ("reversed.__length_hint__" : String) = id0
  wp_delta
  rw [show splitId id0 = some ("reversed", "__length_hint__") from by subst hid; decide +kernel]
  subst hid
  refine wpAny_bind (wpAny_isInstance (b := true) hT (by rw [isSubtype_type]; kernel_rfl) ?_)
  refine wpAny_ite_split (fun hab => absurd hab (by decide)) (fun _ => ?_)
  refine wpAny_ite_split (fun hab => absurd hab (by decide +kernel)) (fun _ => ?_)
  refine wpAny_bind (wpAny_rule ?_)
  refine wpAny_bind (wpAny_of_eq (rt_hint.bind _) ?_)
  refine wpAny_bind (wpAny_attempt (rt_hint_call hit ht hsz fun tk u => ?_))
  generalize hn2 : ((items.size : Nat) : Int) = n
  refine wpAny_bind (wpAny_of_eq (a := some n) rfl ?_)
  refine wpAny_ite_split (fun hab => ?_) (fun _ => ?_)
  · unfold Builtin.List.listFitsIndex at hab
    simp only [Bool.not_eq_true', Bool.and_eq_false_iff, decide_eq_false_iff_not] at hab
    omega
  refine wpAny_ite_split (fun hab => by omega) (fun _ => ?_)
  refine wpAny_ite_split (fun hab => ?_) (fun _ => ?_)
  · unfold Builtin.List.listTooLong at hab
    simp only [decide_eq_true_eq] at hab
    omega
  exact wpAny_pure (hQ _ _)
theorem rt_walk (hh : A.handled = none) (hne : t ≠ it) : Walks prog w A it [it, t] [it] items.size (fun i v => items[items.size - 1 - i]? = some v) (fun i h => (i ≤ items.size ∧ items.size ≤ sizeLine) ∧ IsRt h it t ((items.size : Int) - 1 - (i : Int)) ∧ IsTup h t items) where
  sub := fun b hb => by simp at hb; simp [hb]
  frame := fun _ _ _ x hk => ⟨x.1, x.2.1.at fun o e => hk it (by simp) o e, let ⟨o, ho, r⟩ := x.2.2; ⟨o, hk t (by simp) o ho, r⟩⟩
  item := fun i s Q E hi x hQ => by
    have e : (items.size : Int) - 1 - (i : Int) = ((items.size - 1 - i : Nat) : Int) := by omega
    have hit := x.2.1
    rw [e] at hit
    have hx : items[items.size - 1 - i]? = some (items[items.size - 1 - i]'(by omega)) := Array.getElem?_eq_getElem (by omega)
    refine next_rt_item hit x.2.2 hx x.1.2 fun h' hit' hs' => ?_
    have e2 : ((items.size - 1 - i : Nat) : Int) - 1 = (items.size : Int) - 1 - ((i + 1 : Nat) : Int) := by omega
    rw [e2] at hit'
    exact hQ _ h' (s.toks + 1) hx ⟨⟨hi, x.1.2⟩, hit', x.2.2.extBut hs'.extBut hne⟩ fun b o hb eo => hs'.extBut b o (fun h => hb (by simp [h])) eo
  done := fun s Q E x hQ => by
    have e : (items.size : Int) - 1 - (items.size : Int) = -1 := by omega
    have hit := x.2.1
    rw [e] at hit
    exact next_rt_end hh hit fun h' he' => hQ h' s.toks fun b o hb eo => he' b o (fun h => hb (by simp [h])) eo
  self := fun _ _ _ _ x hQ => iter_rt x.2.1 hQ
theorem rt_extend {R : Result → Shared → Prop} (hh : A.handled = none) (hit : IsRt s.heap it t ((items.size : Int) - 1)) (ht : IsTup s.heap t items) (hne : t ≠ it) (hn : items.size ≤ sizeLine) (S : Addr) (hSr : S ≠ it) (hSd : S ≠ t) (res : Value) (c₀ : Nat) (hS : s.heap.get? S = some { cls := .type "list", data := .seq #[] c₀ })
    (hR : ∀ h' tk acc' c', (∀ b o, b ≠ S → b ≠ it → s.heap.get? b = some o → h'.get? b = some o) → h'.get? S = some { cls := .type "list", dict := none, data := .seq acc' c', slots := #[] } → ItemsOf (fun i v => items[items.size - 1 - i]? = some v) acc' items.size → R (.ok (.ret res)) { s with heap := h', toks := tk }) :
    wpAny (model prog w) A.in1 (Builtin.List.listExtendWith (.ref S) (.ref it) res)
      (fun fin s' => match fin with | .done f => R (.ok f) s' | .again c' => c'.quiet = true ∧ codeAny (model prog w) A c' R s') (fun e s' => R (.error e) s') s := by
  have hSf : S ∉ [it, t] := by simp only [List.mem_cons, List.not_mem_nil, or_false, not_or]; exact ⟨hSr, hSd⟩
  have W := (rt_walk (prog := prog) (w := w) (A := A.in1) (items := items) hh hne)
  have e0 : ((items.size : Nat) : Int) - 1 - ((0 : Nat) : Int) = (items.size : Int) - 1 := by omega
  have key : ∀ (h : Heap) (c₁ tk : Nat), IsRt h it t ((items.size : Int) - 1) → IsTup h t items → (∀ b o, b ≠ S → s.heap.get? b = some o → h.get? b = some o) →
      h.get? S = some { cls := .type "list", data := .seq #[] c₁ } → codeAny (model prog w) A (.builtin "list.extend.loop" ⟨[.ref S, .ref it, res], []⟩) R { s with heap := h, toks := tk } := by
    intro h c₁ tk hi1 ht1 hk hS₁
    refine codeAny_extend_loopS W.toS hn S hSf res items.size 0 _ #[] c₁ rfl (Nat.zero_le _) ⟨⟨Nat.zero_le _, hn⟩, by rw [e0]; exact hi1, ht1⟩ hS₁ (ItemsOf.nil _) fun s' acc' c' hm hS' hacc => ?_
    rw [Moved.eq_with hm]
    refine hR s'.heap s'.toks acc' c' (fun b o hb hb2 e => hm.heap b o (fun hmem => ?_) (hk b o hb e)) hS' hacc
    rcases List.mem_cons.mp hmem with e' | hmem
    · exact hb e'
    · exact hb2 (List.mem_singleton.mp hmem)
  have hT : s.TypeIs (.ref it) "reversed" := hit.typeIs
  unfold Builtin.List.listExtendWith
  refine wpAny_bind (wpAny_typeOf (T := "reversed") hT ?_)
  have h1 : Builtin.List.listSameRef (.ref S) (.ref it) = false := by simp [Builtin.List.listSameRef, hSr]
  have h2 : (Value.type "reversed" == Value.type "list") = false := by decide
  have h3 : (Value.type "reversed" == Value.type "tuple") = false := by decide
  simp only [h1, h2, h3, Bool.or_false, Bool.false_eq_true, if_false]
  refine wpAny_bind (iter_rt hit ?_)
  refine wpAny_bind (wpAny_holding (rt_length hit ht hn fun b tk => ?_))
  refine wpAny_ite_split (fun _ => ?_) (fun _ => wpAny_pure ⟨plainId_quiet PySem.F.plain_extend_loop _, key _ c₀ _ hit ht (fun b o _ e => e) hS⟩)
  refine wpAny_bind (wpAny_rule ?_)
  refine wpAny_bind ?_
  show wpAny _ _ (updateSeq S (·.push .none) >>= fun _ => updateSeq S (·.pop)) _ _ _
  refine wpAny_bind (wpAny_updateSeq hS rfl ?_)
  have hS₂ := Heap.get?_update_self (Obj.mapSeq (·.push Value.none)) hS rfl
  refine wpAny_updateSeq (hz := by seq_fits) hS₂ rfl ?_
  have hS₃ := Heap.get?_update_self (Obj.mapSeq (·.pop)) hS₂ rfl
  have oth : ∀ b o, b ≠ S → s.heap.get? b = some o → ((s.heap.update S (Obj.mapSeq (·.push Value.none))).update S (Obj.mapSeq (·.pop))).get? b = some o := fun b o hb e => (Heap.get?_update_other _ _ (Ne.symm hb)).trans ((Heap.get?_update_other _ _ (Ne.symm hb)).trans e)
  exact wpAny_pure ⟨plainId_quiet PySem.F.plain_extend_loop _, key _ _ _ (hit.at fun o e => oth it o hSr.symm e) (let ⟨o, ho, r⟩ := ht; ⟨o, oth t o hSd.symm ho, r⟩) oth hS₃⟩
theorem rt_list {Q : Value → Shared → Prop} (hh : A.handled = none) (hit : IsRt s.heap it t ((items.size : Int) - 1)) (ht : IsTup s.heap t items) (hne : t ≠ it) (hn : items.size ≤ sizeLine)
    (hQ : ∀ h' tk acc' c', (∀ b o, b ≠ it → s.heap.get? b = some o → h'.get? b = some o) → h'.get? s.heap.objs.size = some { cls := .type "list", dict := none, data := .seq acc' c', slots := #[] } → ItemsOf (fun i v => items[items.size - 1 - i]? = some v) acc' items.size → Q (.ref s.heap.objs.size) { s with heap := h', toks := tk }) :
    wpAny (model prog w) A (call (.type "list") [.ref it]) Q E s := by
  refine callType_codes (Q₁ := fun obj s₁ => obj = .ref s.heap.objs.size ∧ s₁ = { s with heap := s.heap.push { cls := .type "list", data := .seq #[] } }) PySem.F.called_list (PySem.F.typeCall_list_1 _) PySem.F.entry_list_init
    (code_list_new _ ⟨rfl, rfl⟩) fun obj s₁ h₁ => ?_
  obtain ⟨rfl, rfl⟩ := h₁
  have hS : (s.heap.push { cls := .type "list", data := .seq #[] }).get? s.heap.objs.size = some { cls := .type "list", data := .seq #[] } := Heap.get?_push_size _ rfl
  have l1 : it < s.heap.objs.size := by obtain ⟨_, e, _⟩ := hit; exact Heap.lt_size e
  have l2 : t < s.heap.objs.size := ht.lt
  have n1 := Nat.ne_of_gt l1
  have n2 := Nat.ne_of_gt l2
  refine ⟨⟨_, hS, rfl⟩, PySem.F.args_list_init_2 _ _, ?_⟩
  show wpAny _ _ (do let old ← Builtin.List.listItems (.ref s.heap.objs.size); Builtin.List.listUpdate (.ref s.heap.objs.size) (fun _ => #[]); letGo old.toList.reverse; Builtin.List.listExtendWith (.ref s.heap.objs.size) (.ref it) .none) _ _ _
  refine wpAny_bind ?_
  unfold Builtin.List.listItems
  refine wpAny_bind (wpAny_seqItems hS rfl (wpAny_pure ?_))
  show wpAny _ _ (updateSeq s.heap.objs.size (fun _ => #[]) >>= fun _ => letGo (#[] : Array Value).toList.reverse >>= fun _ => Builtin.List.listExtendWith (.ref s.heap.objs.size) (.ref it) .none) _ _ _
  refine wpAny_bind (wpAny_updateSeq hS rfl ?_)
  have hS₂ := Heap.get?_update_self (Obj.mapSeq (fun _ => (#[] : Array Value))) hS rfl
  have oth : ∀ b o, b ≠ s.heap.objs.size → s.heap.get? b = some o → ((s.heap.push { cls := .type "list", data := .seq #[] }).update s.heap.objs.size (Obj.mapSeq (fun _ => (#[] : Array Value)))).get? b = some o :=
    fun b o hb e => (Heap.get?_update_other _ _ (Ne.symm hb)).trans (Heap.get?_push_of_some _ e)
  refine wpAny_bind (wpAny_letGo ?_)
  refine rt_extend (A := A.in1) hh (hit.at fun o e => oth it o n1.symm e) (let ⟨o, ho, r⟩ := ht; ⟨o, oth t o n2.symm ho, r⟩) hne hn _ n1 n2 .none _ hS₂ (fun h' tk acc' c' hk hS' hacc => ?_)
  exact ⟨rfl, hQ h' tk acc' c' (fun b o hb e => hk b o (Nat.ne_of_lt (Heap.lt_size e)) hb (oth b o (Nat.ne_of_lt (Heap.lt_size e)) e)) hS' hacc⟩
end
/-- list(reversed(x)), x a tuple: a new list -/
def tListRev (K : PySem.W.Frag) (te : TE) : TE := fun σ H Q => te σ H fun v H1 => ∃ (a : Addr) (xs : List V), v = .ref a ∧ SqT K H1 a xs ∧ ∀ q, H1 q = none → Q (.ref q) (upd H1 q (.lst xs.reverse))
section
variable {X : Cx}
theorem pe_listRev {e : PySem.Expr} {te : TE} {p p2 pos pos2 : Pos} (hc : X.calm = true) (hg : Gl X "list") (hm : X.mg "list" = none) (hv : bootBuiltins "list" = some (.type "list")) (hg2 : Gl X "reversed") (hm2 : X.mg "reversed" = none) (he : PE X e te)
    (hs : starEach [e] X.env = (false, eval e X.env) :: starEach [] X.env := by rfl)
    (hs2 : starEach [.Call (.Name "reversed" p2) [e] [] pos2] X.env = (false, eval (.Call (.Name "reversed" p2) [e] [] pos2) X.env) :: starEach [] X.env := by rfl) :
    PE X (.Call (.Name "list" p) [.Call (.Name "reversed" p2) [e] [] pos2] [] pos) (tListRev X.K te) := by
  refine ⟨fun pins s σ H Q I h => ?_⟩
  refine Call_ (ld_blt I hg hm hv (PyProof.Rows.callWith_type1 (args_cons (Call_ (ld_blt I hg2 hm2 PyProof.Rows.boot_reversed (PyProof.Rows.callWith_type1 (args_cons (thn (he.run pins s σ H _ I h) fun u s1 ⟨v, H1, I1, r1, q1⟩ => args_nil ?_) hs) hs rfl))) hs2) hs2 rfl))
  obtain ⟨a, xs, ev, hq, q⟩ := q1
  subst ev
  obtain rfl : u = Value.ref a := r1
  obtain ⟨its, rv, p', hz⟩ := I1.tuple hq
  have hl := rv.length
  have hn := line63
  have hsz : its.toArray.size ≤ sizeLine := by rw [List.size_toArray, ← rv.length]; exact hz
  refine call_reversed_tup p' (fun A E Q k => len_tuple p' (by omega) k) (args_nil ?_)
  have hne : a ≠ s1.heap.objs.size := Nat.ne_of_lt p'.lt
  refine rt_list (s := { s1 with heap := s1.heap.push (rtObj a ((its.toArray.size : Int) - 1)), toks := s1.toks + 1 + 1 }) (I1.ok.hd hc) ⟨_, Heap.get?_push_size _ rfl, rfl, rfl⟩ (p'.push _) hne hsz fun h' tk acc c hk hS hi => ?_
  have hS' : h'.get? (s1.heap.objs.size + 1) = some { cls := .type "list", dict := none, data := .seq acc c, slots := #[] } := by
    have e : (s1.heap.push (rtObj a ((its.toArray.size : Int) - 1))).objs.size = s1.heap.objs.size + 1 := Heap.size_push ..
    rw [← e]; exact hS
  have e : (s1.heap.push (rtObj a ((its.toArray.size : Int) - 1))).objs.size = s1.heap.objs.size + 1 := Heap.size_push ..
  refine ⟨.ref (s1.heap.objs.size + 1), upd H1 (s1.heap.objs.size + 1) (.lst xs.reverse), I1.laid (t' := tk) (fun b o eb => hk b o (Nat.ne_of_lt (Heap.lt_size eb)) (Heap.get?_push_of_some _ eb)) (Nat.le_succ _) (show ObjOk X.prog X.w _ _ _ (.lst xs.reverse) from ⟨by rw [List.length_reverse]; exact hz, acc.toList, c, vals_rev rv hi, ?_⟩), ?_, q _ (I1.hok.fresh (Nat.le_succ _))⟩
  · rw [Array.toArray_toList]; exact hS'
  · show Value.ref (s1.heap.push _).objs.size = _
    rw [e]
end
def rvlD : D → Res D
  | .tup xs => .ok (.lst xs.reverse)
  | _ => .bad
section
variable {S : Stat} {W : WX} {X : Cx} {md : Md} {e : PySem.Expr} {p p2 pos pos2 : Pos} {fa : En → Res D} {ea : List Nat}
theorem pm_rvl (hK : X.K = S.K) (hc : X.calm = true) (B : Bi X "list") (B2 : Bi X "reversed") (ha : PM S W .bor X e fa ea) (hs : starEach [e] X.env = (false, eval e X.env) :: starEach [] X.env)
    (hs2 : starEach [.Call (.Name "reversed" p2) [e] [] pos2] X.env = (false, eval (.Call (.Name "reversed" p2) [e] [] pos2) X.env) :: starEach [] X.env) :
    PM S W md X (.Call (.Name "list" p) [.Call (.Name "reversed" p2) [e] [] pos2] [] pos) (fun ρ => (fa ρ).bind rvlD) ea :=
  ⟨fun pins s σ H Q I ⟨ρ, F, E, h⟩ => (pe_listRev hc B.gl B.no PyProof.Rows.boot_list B2.gl B2.no ha hs hs2).run pins s σ H Q I (tM_bind (md' := .bor) E h (fun dx x H1 e1 E1 r1 _ h1 => by
    cases dx with
    | tup xs =>
      have r1 : RepT S F H1 (.tup xs) x := r1
      obtain ⟨q, us, rfl, hq, kq⟩ := r1.tup
      exact ⟨q, us, rfl, by rw [hK]; exact SqT.of hq, fun l hl => h1.newLst E1.gd E1.fd hl kq.rev⟩
    | _ => exact h1.elim) fun i hi => hi)⟩
end
end PD
/-! list(d.keys()), list(d.values()), d a dict whose keys are tuples: new lists. -/
namespace PD
open PySem PySem.Spec PyProof.Rows L2 RT
/-- list(d.keys()): a new list of the keys' own tuples -/
def tListKeys (te : TE) : TE := fun σ H Q => te σ H fun v H1 => ∃ (a : Addr) (kvs : List (List Key × V)), v = .ref a ∧ H1 a = some (.dT kvs) ∧ ∀ q bs, H1 q = none → IsKeys H1 kvs bs → Q (.ref q) (upd H1 q (.lst (bs.map V.ref)))
def tListVals (te : TE) : TE := fun σ H Q => te σ H fun v H1 => ∃ (a : Addr) (kvs : List (List Key × V)), v = .ref a ∧ H1 a = some (.dT kvs) ∧ ∀ q, H1 q = none → Q (.ref q) (upd H1 q (.lst (kvs.map (·.2))))
section
variable {X : Cx}
theorem kt_list {P : Nat → Value → Prop} {f : List Key × Addr × Value → Value} {ks : List (List Key × Addr × Value)} {es : Array DictEntry} {acc : Array Value} {n : Nat}
    (hn : n = ks.length) (it : ItemsOf P acc n) (h : ∀ j v, P j v → ∃ x, ks[j]? = some x ∧ v = f x) : acc.toList = ks.map f := by
  have hl : acc.toList.length = ks.length := by rw [Array.length_toList, it.1]; exact hn
  apply List.ext_getElem?
  intro j
  rw [List.getElem?_map]
  cases hj : acc.toList[j]? with
  | none =>
    have h1 := List.getElem?_eq_none_iff.mp hj
    rw [List.getElem?_eq_none (by omega)]
    rfl
  | some v =>
    obtain ⟨x, hx, hv⟩ := h j v (it.2 j v (by rw [← Array.getElem?_toList]; exact hj))
    rw [hx, hv]; rfl
theorem raw_at {P : Program} {w : World} {ks : List (List Key × Addr × Value)} {es : Array DictEntry} (he : es.toList = ks.map (entryOfKey (tupleKind (mixKind P w)))) {i : Nat} (hi : i < es.size) :
    ∃ x, ks[i]? = some x ∧ es[i].key = .ref x.2.1 ∧ es[i].val = x.2.2 := by
  have hs := size_of_entries he
  have e := entry_at he i
  rw [Array.getElem?_eq_getElem hi, List.getElem?_eq_getElem (hs ▸ hi), Option.map_some] at e
  have e' := Option.some.inj e
  exact ⟨_, List.getElem?_eq_getElem (hs ▸ hi), by rw [e']; rfl, by rw [e']; rfl⟩
theorem vals_kt {H : Hp} {kvs : List (List Key × V)} {xs : List (List Key × Addr × Value)} (r : Paired (fun (p : List Key × V) (q : List Key × Addr × Value) => p.1 = q.1 ∧ H q.2.1 = some (.tup (p.1.map kV)) ∧ RelV p.2 q.2.2) kvs xs) :
    Vals (kvs.map (·.2)) (xs.map fun x => x.2.2) := by
  induction r with
  | nil => exact .nil
  | cons h t ih => exact .cons h.2.2 ih
theorem pe_listKeys {e : PySem.Expr} {te : TE} {p pos cpos apos : Pos} (hc : X.calm = true) (hg : Gl X "list") (hm : X.mg "list" = none) (he : PE X e te)
    (hbase : attributeBase e "keys" X.env (eval e X.env) = eval e X.env) (hline : (apos.endLine == cpos.line) = true)
    (hs : starEach [.Call (.Attribute e "keys" apos) [] [] cpos] X.env = (false, eval (.Call (.Attribute e "keys" apos) [] [] cpos) X.env) :: starEach [] X.env := by rfl) :
    PE X (.Call (.Name "list" p) [.Call (.Attribute e "keys" apos) [] [] cpos] [] pos) (tListKeys te) := by
  refine ⟨fun pins s σ H Q I h => ?_⟩
  refine Call_ (ld_blt I hg hm PyProof.Rows.boot_list (PyProof.Rows.callWith_type1 (args_cons (wpAny_Call_method (T := "dict") (id := "dict.keys") hbase rfl hline PySem.F.plainAttrs_dict PySem.F.slot_dict_keys PySem.F.type_dict_keys (thn (he.run pins s σ H _ I h) fun u s1 ⟨v, H1, I1, r1, q1⟩ => ?_)) hs) hs rfl))
  obtain ⟨a, kvs, ev, hq, q⟩ := q1
  subst ev
  obtain rfl : u = Value.ref a := r1
  obtain ⟨z, hsm, ks, pr, o, es, ep, ho, hx, hdt, hent, hn⟩ := (show ObjOk X.prog X.w H1 s1.heap a (.dT kvs) from I1.hok a _ hq)
  have hR : s1.heap.DictRaw a es ep := ⟨o, ho, hx, hdt⟩
  refine ⟨hR.typeIs, fun b eb => ⟨o, ?_, hx.2.1⟩, ?_⟩
  · cases eb; exact ho
  have l1 : es.size = ks.length := size_of_entries hent
  have l2 : kvs.length = ks.length := Paired.length pr
  refine method_meetsIn PySem.F.slot_dict_keys PySem.F.entry_dict_keys rfl (PySem.evalArgs_none ⟨rfl, hR.typeIs, PySem.F.args_dict_keys_1 _, _, meets_dict_keys_raw a hsm, ⟨es, ep, hR⟩, ?_⟩)
  refine args_nil ?_
  have hlt : a < s1.heap.objs.size := Heap.lt_size ho
  refine PySem.W.kdl_call (s := { s1 with heap := s1.heap.push { cls := .type "dict_keys", data := .fields #[.ref a] } }) (KdlSrc.rawKeys (r := s1.heap.objs.size) (d := a) (es := es) (ep := ep)) (I1.ok.hd hc) ⟨⟨_, Heap.get?_push_size _ rfl, rfl, rfl⟩, hR.push _⟩ (by omega) fun h' tk acc c hk hS it => ?_
  have e1 : (s1.heap.push { cls := .type "dict_keys", data := .fields #[.ref a] }).objs.size = s1.heap.objs.size + 1 := Heap.size_push ..
  have ea := kt_list (f := fun x => Value.ref x.2.1) (es := es) l1 it fun j v ⟨hi, e⟩ => let ⟨x, h1, h2, _⟩ := raw_at hent hi; ⟨x, h1, e.trans h2⟩
  have eb : acc.toList = (ks.map fun x => x.2.1).map Value.ref := by rw [ea, List.map_map]; all_goals rfl
  have rv : Vals ((ks.map fun x => x.2.1).map V.ref) acc.toList := by rw [eb]; exact vals_refs _
  have hz : ((ks.map fun x => x.2.1).map V.ref).length ≤ sizeLine := by rw [List.length_map, List.length_map]; omega
  rw [e1] at hS
  refine ⟨.ref (s1.heap.objs.size + 1), upd H1 (s1.heap.objs.size + 1) (.lst ((ks.map fun x => x.2.1).map V.ref)), I1.laid (t' := tk) (fun b o eb => hk b o (Heap.get?_push_of_some _ eb)) (Nat.le_succ _) ⟨hz, acc.toList, c, rv, by rw [Array.toArray_toList]; exact hS⟩, ?_, q _ _ (I1.hok.fresh (Nat.le_succ _)) (isKeys_of pr)⟩
  show Value.ref (s1.heap.push _).objs.size = _
  rw [e1]
theorem pe_listVals {e : PySem.Expr} {te : TE} {p pos cpos apos : Pos} (hc : X.calm = true) (hg : Gl X "list") (hm : X.mg "list" = none) (he : PE X e te)
    (hbase : attributeBase e "values" X.env (eval e X.env) = eval e X.env) (hline : (apos.endLine == cpos.line) = true)
    (hs : starEach [.Call (.Attribute e "values" apos) [] [] cpos] X.env = (false, eval (.Call (.Attribute e "values" apos) [] [] cpos) X.env) :: starEach [] X.env := by rfl) :
    PE X (.Call (.Name "list" p) [.Call (.Attribute e "values" apos) [] [] cpos] [] pos) (tListVals te) := by
  refine ⟨fun pins s σ H Q I h => ?_⟩
  refine Call_ (ld_blt I hg hm PyProof.Rows.boot_list (PyProof.Rows.callWith_type1 (args_cons (wpAny_Call_method (T := "dict") (id := "dict.values") hbase rfl hline PySem.F.plainAttrs_dict PySem.F.slot_dict_values PySem.F.type_dict_values (thn (he.run pins s σ H _ I h) fun u s1 ⟨v, H1, I1, r1, q1⟩ => ?_)) hs) hs rfl))
  obtain ⟨a, kvs, ev, hq, q⟩ := q1
  subst ev
  obtain rfl : u = Value.ref a := r1
  obtain ⟨z, hsm, ks, pr, o, es, ep, ho, hx, hdt, hent, hn⟩ := (show ObjOk X.prog X.w H1 s1.heap a (.dT kvs) from I1.hok a _ hq)
  have hR : s1.heap.DictRaw a es ep := ⟨o, ho, hx, hdt⟩
  refine ⟨hR.typeIs, fun b eb => ⟨o, ?_, hx.2.1⟩, ?_⟩
  · cases eb; exact ho
  have l1 : es.size = ks.length := size_of_entries hent
  have l2 : kvs.length = ks.length := Paired.length pr
  refine method_meetsIn PySem.F.slot_dict_values PySem.F.entry_dict_values rfl (PySem.evalArgs_none ⟨rfl, hR.typeIs, PySem.F.args_dict_values_1 _, _, meets_dict_values_raw a hsm, ⟨es, ep, hR⟩, ?_⟩)
  refine args_nil ?_
  refine PySem.W.kdl_call (s := { s1 with heap := s1.heap.push { cls := .type "dict_values", data := .fields #[.ref a] } }) (KdlSrc.rawValues (r := s1.heap.objs.size) (d := a) (es := es) (ep := ep)) (I1.ok.hd hc) ⟨⟨_, Heap.get?_push_size _ rfl, rfl, rfl⟩, hR.push _⟩ (by omega) fun h' tk acc c hk hS it => ?_
  have e1 : (s1.heap.push { cls := .type "dict_values", data := .fields #[.ref a] }).objs.size = s1.heap.objs.size + 1 := Heap.size_push ..
  have ea := kt_list (f := fun x => x.2.2) (es := es) l1 it fun j v ⟨hi, e⟩ => let ⟨x, h1, _, h2⟩ := raw_at hent hi; ⟨x, h1, e.trans h2⟩
  have hz : (kvs.map (·.2)).length ≤ sizeLine := by rw [List.length_map]; exact z
  rw [e1] at hS
  refine ⟨.ref (s1.heap.objs.size + 1), upd H1 (s1.heap.objs.size + 1) (.lst (kvs.map (·.2))), I1.laid (t' := tk) (fun b o eb => hk b o (Heap.get?_push_of_some _ eb)) (Nat.le_succ _) ⟨hz, acc.toList, c, by rw [ea]; exact vals_kt pr, by rw [Array.toArray_toList]; exact hS⟩, ?_, q _ (I1.hok.fresh (Nat.le_succ _))⟩
  show Value.ref (s1.heap.push _).objs.size = _
  rw [e1]
end
def intB : D → Bool
  | .int _ => true
  | _ => false
def keyIB : D → Bool
  | .tup ds => ds.all intB
  | _ => false
def kvlD (w : Bool) : D → Res D
  | .dic ks ws => if w then .ok (.lst ws) else if ks.all keyIB then .ok (.lst ks) else .bad
  | _ => .bad
section
variable {S : Stat} {W : WX} {X : Cx} {md : Md} {e : PySem.Expr} {p pos cpos apos : Pos} {fa : En → Res D} {ea : List Nat}
theorem reps_ikey {F : Addr → Prop} {H : Hp} : ∀ {k : List Key}, (k.map key1D).all intB = true → Reps S F H (k.map key1D) (k.map kV)
  | [], _ => Reps.nil
  | .inl i :: k, h => Reps.cons (by show Rep S F H (.int i) (.int i); unfold Rep; rfl) (reps_ikey (k := k) (by simpa [intB, key1D] using h))
  | .inr x :: k, h => by simp [intB, key1D] at h
theorem reps_keys {F : Addr → Prop} {H : Hp} {kvs : List (List Key × V)} {bs : List Addr} (h : IsKeys H kvs bs) : (kvs.map fun p => keyD p.1).all keyIB = true → Reps S F H (kvs.map fun p => keyD p.1) (bs.map V.ref) := by
  unfold IsKeys at h
  induction h with
  | nil => exact fun _ => Reps.nil
  | @cons p b ps qs h t ih =>
    intro z
    rw [List.map_cons, List.all_cons, Bool.and_eq_true] at z
    refine Reps.cons ?_ (ih z.2)
    show Rep S F H (.tup (p.1.map key1D)) (.ref b)
    unfold Rep
    exact ⟨b, _, rfl, h, reps_ikey z.1⟩
theorem pm_kvl {w : Bool} (hK : X.K = S.K) (hc : X.calm = true) (B : Bi X "list") (ha : PM S W .bor X e fa ea) 
    (hbase : attributeBase e (if w then "values" else "keys") X.env (eval e X.env) = eval e X.env) (hline : (apos.endLine == cpos.line) = true)
    (hs : starEach [.Call (.Attribute e (if w then "values" else "keys") apos) [] [] cpos] X.env = (false, eval (.Call (.Attribute e (if w then "values" else "keys") apos) [] [] cpos) X.env) :: starEach [] X.env) :
    PM S W md X (.Call (.Name "list" p) [.Call (.Attribute e (if w then "values" else "keys") apos) [] [] cpos] [] pos) (fun ρ => (fa ρ).bind (kvlD w)) ea := by
  refine ⟨fun pins s σ H Q I ⟨ρ, F, E, h⟩ => ?_⟩
  cases w with
  | false =>
    refine (pe_listKeys hc B.gl B.no ha hbase hline hs).run pins s σ H Q I (tM_bind (md' := .bor) E h (fun dx x H1 e1 E1 r1 _ h1 => by
      cases dx with
      | dic ks ws =>
        have r1 : RepT S F H1 (.dic ks ws) x := r1
        obtain ⟨q, kvs, rfl, hq, rfl, kq⟩ := (show ∃ a kvs, x = .ref a ∧ H1 a = some (.dT kvs) ∧ ks = kvs.map (fun p => keyD p.1) ∧ Reps S F H1 ws (kvs.map (·.2)) from r1)
        unfold kvlD at h1
        simp only [Bool.false_eq_true, if_false] at h1
        split at h1
        · rename_i z
          exact ⟨q, kvs, rfl, hq, fun l bs hl hb => h1.newLst E1.gd E1.fd hl (reps_keys hb z)⟩
        · exact h1.elim
      | _ => exact h1.elim) fun i hi => hi)
  | true =>
    refine (pe_listVals hc B.gl B.no ha hbase hline hs).run pins s σ H Q I (tM_bind (md' := .bor) E h (fun dx x H1 e1 E1 r1 _ h1 => by
      cases dx with
      | dic ks ws =>
        have r1 : RepT S F H1 (.dic ks ws) x := r1
        obtain ⟨q, kvs, rfl, hq, rfl, kq⟩ := (show ∃ a kvs, x = .ref a ∧ H1 a = some (.dT kvs) ∧ ks = kvs.map (fun p => keyD p.1) ∧ Reps S F H1 ws (kvs.map (·.2)) from r1)
        unfold kvlD at h1
        simp only [if_true] at h1
        exact ⟨q, kvs, rfl, hq, fun l hl => h1.newLst E1.gd E1.fd hl kq⟩
      | _ => exact h1.elim) fun i hi => hi)
end
end PD
/-! A lambda of one parameter: made, called. -/
namespace PD
open PySem PySem.Spec PyProof.Rows L2 LamX
/-- one parameter, no other name of its own -/
structure LamP (x : Str) (sc scope : Scope) : Prop where
  kind : scope.kind = .function
  co : scope.isCoroutine = false
  gen : scope.isGenerator = false
  cell : ∀ y ∈ scope.names, y.2 ≠ .cell
  own : ∀ y ∈ scope.names, y.2 = .local → y.1 = x
  par : scope.names.lookup x = some .local
  free : ∀ y ∈ scope.names, y.2 = .free → sc.names.lookup y.1 = some .cell ∨ sc.names.lookup y.1 = some .free
def lamPB (x : Str) (sc scope : Scope) : Bool :=
  decide (scope.kind = .function) && (!scope.isCoroutine && (!scope.isGenerator && (decide (scope.names.lookup x = some .local) && scope.names.all fun y => match y.2 with
    | .cell => false
    | .local => decide (y.1 = x)
    | .free => decide (sc.names.lookup y.1 = some .cell) || decide (sc.names.lookup y.1 = some .free)
    | _ => true)))
theorem lamP_by {x : Str} {sc scope : Scope} (h : lamPB x sc scope = true) : LamP x sc scope := by
  unfold lamPB at h
  simp only [Bool.and_eq_true, Bool.not_eq_true', decide_eq_true_eq, List.all_eq_true] at h
  obtain ⟨h1, h2, h3, h4, h5⟩ := h
  refine ⟨h1, h2, h3, fun y hy e => ?_, fun y hy e => ?_, h4, fun y hy e => ?_⟩
  · have z := h5 y hy; rw [e] at z; cases z
  · have z := h5 y hy; rw [e] at z; exact of_decide_eq_true z
  · have z := h5 y hy; rw [e] at z
    have z : (decide (sc.names.lookup y.1 = some .cell) || decide (sc.names.lookup y.1 = some .free)) = true := z
    rw [Bool.or_eq_true, decide_eq_true_eq, decide_eq_true_eq] at z
    exact z
section
variable {X : Cx} {pins : List (Addr × Obj)} {σ : L2.St} {H : Hp} {s : Shared}
theorem lam_has {x : Str} {scope : Scope} (L : LamP x X.env.scope scope) (ok : X.Ok) : ∀ y ∈ scope.names, y.2 = .free → ∃ c, X.env.cells.lookup y.1 = some c := fun y hy e =>
  (L.free y hy e).elim (fun k => ok.has _ (.inl k)) (fun k => ok.has _ (.inr k))
theorem lam_ok {A' : Around} {x : Str} {scope : Scope} {f c' : Addr} (I : L2.Inv X pins σ H s) (L : LamP x X.env.scope scope) (hA : A'.handled = none) (hfr : A'.frames = some (lamEnv X scope s.heap.objs.size f c' :: X.stack)) :
    (gcx X A' s H (lamEnv X scope s.heap.objs.size f c') []).Ok := by
  have hf := lam_has L I.ok
  have cm : ∀ {y c}, (cloFrom X.env.cells scope.names []).lookup y = some c → X.env.cells.lookup y = some c := fun {y c} e => (lookup_cl e hf).1
  refine ⟨I.ok.mod, L.kind, rfl, rfl, Nat.le_refl _, fun y z c e1 e2 => I.ok.inj y z c (cm e1) (cm e2), fun y hy => ?_, fun y c z e => absurd z Bool.false_ne_true, fun _ => hA, hfr, .inr ⟨rfl, rfl⟩, fun b hb => absurd (show b ∈ ([] : List Addr) from hb) (by simp), I.bs, Nat.le_trans I.ok.bsz I.sz, fun b o e hb => absurd (show b ∈ ([] : List Addr) from hb) (by simp), fun b hb z => absurd (show b ∈ ([] : List Addr) from hb) (by simp), I.stack, I.stkFree⟩
  rcases hy with hy | hy
  · exact absurd rfl (L.cell _ (PySem.mem_of_lookup hy))
  · obtain ⟨c', e'⟩ := mem_lookup (cloFrom_has (cells := X.env.cells) (acc := []) (PySem.mem_of_lookup hy))
    exact ⟨c', e'⟩
/-- the lambda's frame has been laid, its parameter bound -/
theorem lam_enter {A' : Around} {x : Str} {scope : Scope} {f c' : Addr} {i : Nat} {v : V} {u : Value} {h1 : Heap} {tk : Nat} (I : L2.Inv X pins σ H s) (L : LamP x X.env.scope scope) (hN : X.N.Nodup) (hi : X.N[i]? = some x) (hA : A'.handled = none)
    (hfr : A'.frames = some (lamEnv X scope s.heap.objs.size f c' :: X.stack)) (r : RelV v u) (hns : h1.Ns s.heap.objs.size fun y => [(x, u)].reverse.lookup y) (kp : ∀ b o, s.heap.get? b = some o → h1.get? b = some o) :
    L2.Inv (gcx X A' s H (lamEnv X scope s.heap.objs.size f c') []) [] ((L2.wipe σ [i]).set i (some v)) H { s with heap := h1, toks := tk } := by
  have ok := lam_ok (c' := c') I L hA hfr
  have hf := lam_has L I.ok
  refine ⟨ok, rfl, I.bare, Un.kept kp, ⟨_, hns, fun j y av e1 e2 e3 => ?_⟩, fun y c e => ?_, I.hok.fresh (Nat.le_refl _), fun y c e => ?_, fun p hp => absurd (show p ∈ ([] : List (Addr × Obj)) from hp) (by simp), I.hok.kept kp, by rw [List.length_set, wipe_length]; exact I.len⟩
  · by_cases hj : j = i
    · subst hj
      have ey : y = x := by rw [hi] at e1; exact (Option.some.inj e1).symm
      subst ey
      rw [List.getElem?_set] at e2
      rw [if_pos rfl] at e2
      split at e2
      · cases e2
        exact ⟨u, r, .inl ⟨L.par, by show [(y, u)].lookup y = some u; simp⟩⟩
      · cases e2
    · rw [List.getElem?_set_ne (fun z => hj z.symm)] at e2
      obtain ⟨e2, hne⟩ := wipe_some e2
      have e3 : Vis scope y := e3
      have nx : y ≠ x := fun z => hj (nodup_ix hN (by rw [z] at e1; exact e1) hi)
      have hfr' : scope.names.lookup y = some .free := by
        rcases e3 with k | k | k
        · exact absurd (L.own _ (PySem.mem_of_lookup k) rfl) nx
        · exact absurd rfl (L.cell _ (PySem.mem_of_lookup k))
        · exact k
      obtain ⟨m, _, hl⟩ := I.loc
      have hvis : Vis X.env.scope y := (L.free _ (PySem.mem_of_lookup hfr') rfl).elim (fun k => .inr (.inl k)) (fun k => .inr (.inr k))
      obtain ⟨w, r, q⟩ := hl j y av e1 e2 hvis
      refine ⟨w, r, .inr ⟨.inr hfr', ?_⟩⟩
      obtain ⟨c2, e'⟩ := mem_lookup (cloFrom_has (cells := X.env.cells) (acc := []) (PySem.mem_of_lookup hfr'))
      obtain ⟨h2, _⟩ := lookup_cl e' hf
      rcases q with ⟨k, _⟩ | ⟨_, c, e, z⟩
      · have k : X.env.scope.names.lookup y = some .local := k
        rcases L.free _ (PySem.mem_of_lookup hfr') rfl with k' | k' <;> rw [show X.env.scope.names.lookup y = _ from k'] at k <;> cases k
      · rw [h2] at e; cases e
        exact ⟨c2, e', z.keeps kp⟩
  · obtain ⟨h1', _⟩ := lookup_cl e hf
    obtain ⟨w, z⟩ := I.cell y c h1'
    exact ⟨w, z.keeps kp⟩
  · obtain ⟨h1', _⟩ := lookup_cl e hf
    exact I.freeC y c h1'
/-- the lambda called -/
theorem lam_call {A : Around} {x : Str} {params : Arguments} {body : PySem.Expr} {scope : Scope} {f c' : Addr} {pm ctv : Value} {i k : Nat} {v : V} {u : Value} {tb : TE} {Q0 : VK} {Q : Value → Shared → Prop} {E : Value → Shared → Prop} (I : L2.Inv X pins σ H s)
    (hf : s.heap.get? f = some (PySem.W.kla_obj "<lambda>" (X.env.qual ++ "<lambda>") params body scope (cloFrom X.env.cells scope.names []) pm c' ctv)) (hc : H c' = some (CodeO c' (X.env.qual ++ "<lambda>"))) (L : LamP x X.env.scope scope) (hN : X.N.Nodup) (hi : X.N[i]? = some x)
    (hbind : bindArgs (PySem.W.kla_fn "<lambda>" (X.env.qual ++ "<lambda>") params body scope (cloFrom X.env.cells scope.names []) pm (.ref c') ctv) ⟨[u], []⟩ = pure [(x, u)]) (r : RelV v u) (hd : A.depth < recursionLimit) (hrd : ∀ env, Room k (A.deeper env)) (hA : A.frames = some X.stack)
    (hbody : ∀ (A' : Around) (s : Shared) (H : Hp) (f c' : Addr), Room k A' → PE (gcx X A' s H (lamEnv X scope s.heap.objs.size f c') []) body tb) (ht : tb ((L2.wipe σ [i]).set i (some v)) H Q0) (hQ : ∀ y H' w s', L2.Inv X pins σ H' s' → Un (frs X.stack) [] H H' s.heap s'.heap → RelV y w → Q0 y H' → Q w s') :
    wpAny (model X.prog X.w) A (call (.ref f) [u]) Q E s := by
  obtain ⟨⟨oc, vs, t, hoc, hdc, hvc⟩, _, _⟩ := I.hok c' _ hc
  have rc : codeAny (model X.prog X.w) A (.call (.ref f) ⟨[u], []⟩) (fun r s' => ∃ w, r = .ok (.ret w) ∧ Q w s') s := by
    refine PySem.W.kla_callFunE hd hf rfl L.co L.gen rfl ⟨c', oc, vs, t, rfl, hoc, hdc, hvc⟩ ?_
    rw [hbind]
    refine wpAny_pure (wpAny_newFunctionEnv L.cell (fun y hy => by rw [List.mem_singleton.mp hy]; exact L.par) (fun h1 hns hsb => ⟨I.nolimit.fresh _ hsb, ?_⟩) L.kind)
    have kp : ∀ b o, s.heap.get? b = some o → h1.get? b = some o := fun b o e => hsb.extBut b o (Nat.ne_of_lt (Heap.lt_size e)) (Heap.get?_push_of_some _ e)
    have hrd := hrd (lamEnv X scope s.heap.objs.size f c')
    have J := lam_enter (tk := s.toks + [(x, u)].length) (f := f) (c' := c') I L hN hi hrd.hd (Around.frames_deeper hA) r hns kp
    refine PySem.W.kla_codeExpr (env := lamEnv X scope s.heap.objs.size f c') (wpAny_mono ((hbody _ s H f c' hrd).run [] _ _ H Q0 J ht) (fun v s' hq => ?_) fun e s' hq => hq.elim)
    obtain ⟨w', H', J', rv, q⟩ := hq
    exact ⟨_, rfl, hQ w' H' v s' (I.call' (ch := []) J'.os J'.base J'.hok J'.bare fun b hb => nomatch hb) J'.base rv q⟩
  refine wpAny_call (codeAny_mono rc fun r s' hq => ?_)
  obtain ⟨w, rfl, q⟩ := hq
  exact q
end
end PD
/-! min(xs, key=lambda x: ..), the keys ints. -/
namespace PD
open PySem PySem.Spec PyProof.Rows L2 LamX
section
variable {X : Cx} {pins : List (Addr × Obj)} {σ : L2.St} {H : Hp} {s : Shared}
/-- the lambda is made; of the tables its own alone may grow -/
theorem lam_made {c P : Addr} {params : Arguments} {body : PySem.Expr} {scope : Scope} {pos : Pos} {E : Value → Shared → Prop} {Q : Value → Shared → Prop} (I : L2.Inv X pins σ H s) (TB : TabB X.base X.mg c P) (hcode : X.env.code = .ref c) (hT : TabS H P (X.env.qual ++ "<lambda>"))
    (hdef : defaultsOf params X.env = ([], [])) (hfree : ∀ y ∈ scope.names, y.2 = .free → ∃ c, X.env.cells.lookup y.1 = some c)
    (h : ∀ (f c' : Addr) (pm ctv : Value) (H1 : Hp) (s' : Shared), L2.Inv X pins σ H1 s' → (∀ b o, H b = some o → b ≠ P → H1 b = some o) → TabS H1 P (X.env.qual ++ "<lambda>") →
      s'.heap.get? f = some (PySem.W.kla_obj "<lambda>" (X.env.qual ++ "<lambda>") params body scope (cloFrom X.env.cells scope.names []) pm c' ctv) → FpOk X pins H1 f → H1 c' = some (CodeO c' (X.env.qual ++ "<lambda>")) → Q (.ref f) s') :
    wpAny (model X.prog X.w) X.A (eval (.Lambda params body scope pos) X.env) Q E s := by
  obtain ⟨ps, hP, ht, ha⟩ := hT
  refine PySem.W.kla_eval hdef ?_
  have bP := TB.bm.keeps I.bk
  have hPs : s.heap.get? P = some { cls := .none, data := .fields ps } := I.hok P _ hP
  cases hcd : codeAmong pos ps.toList with
  | none =>
    refine PySem.W.kla_makeFunction (mg := X.mg) (c := c) (P := P) (ps := ps) (closure_ok hfree) I.ok.glob (I.mod.glob.keeps I.bk) hcode (TB.code.keeps I.bk) hPs ht hcd TB.gP bP fun c' ctv h' tk hx hge hlt hrec htb => ?_
    obtain ⟨c2, oc, vs, t, e2, hoc, hd, hv⟩ := hrec
    cases e2
    have hsz : s.heap.objs.size ≤ h'.objs.size := Nat.le_trans hge (Nat.le_of_lt hlt)
    have nC : H c' = none := I.hok.fresh hge
    have nPc : P ≠ c' := fun z => by rw [z, nC] at hP; cases hP
    have I1 := inv_table (t' := tk) (more := #[rawInt pos.line, rawInt pos.col, .ref c']) (h' := h'.push (PySem.W.kla_obj "<lambda>" (X.env.qual ++ "<lambda>") params body scope (cloFrom X.env.cells scope.names []) ((X.mg "__name__").getD .none) c' ctv)) I hP (fun b o hb e => Heap.get?_push_of_some _ (hx b o hb e)) (Heap.get?_push_of_some _ htb) hge ⟨oc, vs, t, Heap.get?_push_of_some _ hoc, hd, hv⟩
    have at_ : ∀ b, b ≠ P → b ≠ c' → (L2.upd (L2.upd H P (.tbl (ps ++ #[rawInt pos.line, rawInt pos.col, .ref c']))) c' (CodeO c' (X.env.qual ++ "<lambda>"))) b = H b := fun b h1 h2 => by rw [upd_ne h2, upd_ne h1]
    have n1 : h'.objs.size ≠ c' := Nat.ne_of_gt hlt
    have n2 : h'.objs.size ≠ P := Nat.ne_of_gt (Nat.lt_of_lt_of_le (Heap.lt_size hPs) hsz)
    have nf : (L2.upd (L2.upd H P (.tbl (ps ++ #[rawInt pos.line, rawInt pos.col, .ref c']))) c' (CodeO c' (X.env.qual ++ "<lambda>"))) h'.objs.size = none := by rw [at_ _ n2 n1]; exact I.hok.fresh hsz
    refine h h'.objs.size c' ((X.mg "__name__").getD .none) ctv _ _ I1 (fun b o e hb => ?_) ?_ (Heap.get?_push_size _ rfl) (I.fpOk hsz nf) upd_same
    · rw [at_ b hb (fun z => by rw [z, nC] at e; cases e)]; exact e
    · have eL : (ps ++ #[rawInt pos.line, rawInt pos.col, .ref c']).toList = ps.toList ++ [rawInt pos.line, rawInt pos.col, .ref c'] := by simp
      refine ⟨_, by rw [upd_ne nPc, upd_same], by rw [eL]; exact PySem.TriplesOk_snoc _ _ _ _ ht, fun p' cv hcv => ?_⟩
      rw [eL] at hcv
      rcases among_app _ ht hcv with z | z
      · obtain ⟨c0, e1, e2⟩ := ha p' cv z
        refine ⟨c0, e1, ?_⟩
        rw [at_ c0 (fun y => by rw [y, hP] at e2; exact codeO_ne ps (Option.some.inj e2).symm) (fun y => by rw [y, nC] at e2; cases e2)]
        exact e2
      · exact ⟨c', z, upd_same⟩
  | some cv =>
    obtain ⟨c', e, hco⟩ := ha pos cv hcd
    subst e
    refine PySem.W.kla_makeFunctionHit (mg := X.mg) (c := c) (P := P) (ps := ps) (closure_ok hfree) I.ok.glob (I.mod.glob.keeps I.bk) hcode (TB.code.keeps I.bk) hPs ht hcd bP fun ctv h' tk hx hsz => ?_
    have I1 : L2.Inv X pins σ H { s with heap := h'.push (PySem.W.kla_obj "<lambda>" (X.env.qual ++ "<lambda>") params body scope (cloFrom X.env.cells scope.names []) ((X.mg "__name__").getD .none) c' ctv), toks := tk } := I.kept fun b o e => Heap.get?_push_of_some _ (hx b o e)
    exact h h'.objs.size c' ((X.mg "__name__").getD .none) ctv H _ I1 (fun b o e _ => e) ⟨ps, hP, ht, ha⟩ (Heap.get?_push_size _ rfl) (I.fpOk hsz (I.hok.fresh hsz)) hco
end
/-- a walk through a list, its items told by their values -/
theorem walkV {prog : Program} {w : World} {A : Around} (hh : A.handled = none) (it a : Addr) (hne : a ≠ it) (xs : List V) :
    WalksS prog w A it [it, a] [it] (fun a b => b = a) xs.length (fun i v => ∃ x, xs[i]? = some x ∧ RelV x v) (fun i s => s.heap.IsListIter it a i ∧ ∃ its : List Value, Vals xs its ∧ s.heap.IsList a its.toArray) where
  sub := fun b hb => by simp at hb; simp [hb]
  grefl := fun _ => rfl
  gtrans := fun _ _ _ h1 h2 => h2.trans h1
  frame := fun i s h' tk st _ hk => ⟨st.1.at fun o e => hk it (by simp) o e, let ⟨its, rv, hl⟩ := st.2; ⟨its, rv, hl.at fun o e => hk a (by simp) o e⟩⟩
  item := fun i s Q E hi st hQ => by
    obtain ⟨h1, its, rv, hl⟩ := st
    have hsz : its.toArray.size = xs.length := by rw [List.size_toArray]; exact rv.length.symm
    have hx : xs[i]? = some xs[i] := List.getElem?_eq_getElem hi
    refine (Walks.list (prog := prog) (w := w) (A := A) hh it a hne its.toArray).toS.item i s Q E (by rw [hsz]; exact hi) ⟨h1, hl⟩ fun v s' hv st' hm => ?_
    obtain ⟨u, hu, ru⟩ := rv.get hx
    have : u = v := by
      have e : its[i]? = some v := by simpa using hv
      rw [e] at hu; exact (Option.some.inj hu).symm
    subst this
    exact hQ u s' ⟨_, hx, ru⟩ ⟨st'.1, its, rv, st'.2⟩ hm
  done := fun s Q E st hQ => by
    obtain ⟨h1, its, rv, hl⟩ := st
    have hsz : its.toArray.size = xs.length := by rw [List.size_toArray]; exact rv.length.symm
    refine (Walks.list (prog := prog) (w := w) (A := A) hh it a hne its.toArray).toS.done s Q E ⟨by rw [hsz]; exact h1, hl⟩ hQ
  self := fun i s Q E st hQ => by
    obtain ⟨h1, its, rv, hl⟩ := st
    exact (Walks.list (prog := prog) (w := w) (A := A) hh it a hne its.toArray).toS.self i s Q E ⟨h1, hl⟩ hQ
abbrev ltK (kf : Nat → Int) : Nat → Nat → Bool := fun i j => decide (kf i < kf j)
/-- min(e, key=lambda ..) -/
def tMinK (K : PySem.W.Frag) (P : Addr) (q : Str) (te tb : TE) (i : Nat) : TE := fun σ H Q => te σ H fun v H1 => ∃ (a : Addr) (xs : List V), v = .ref a ∧ SqL K H1 a xs ∧ 0 < xs.length ∧ TabS H1 P q ∧
  ∀ H2, (∀ b o, H1 b = some o → b ≠ P → H2 b = some o) → TabS H2 P q → ∃ (Wv : Hp → Prop) (kf : Nat → Int), Wv H2 ∧ (∀ H', Wv H' → SqL K H' a xs ∧ ∀ c, H2 c = some (CodeO c q) → H' c = some (CodeO c q)) ∧
    (∀ j x H', xs[j]? = some x → Wv H' → tb ((L2.wipe σ [i]).set i (some x)) H' fun y H'' => y = .int (kf j) ∧ Wv H'') ∧ ∀ x H', xs[argBest (ltK kf) (xs.length - 1)]? = some x → Wv H' → Q x H'
theorem room_in {k : Nat} {A : Around} (r : Room (k + 1) A) (env : Env) : Room k (A.in1.deeper env) := by
  refine ⟨r.hd, ?_, ?_⟩
  · have := r.dp
    show A.depth + 1 + 3 * k + 5 < _
    omega
  · have := r.un
    show A.units + 1 + 3 + 16 * k + 200 < _
    omega
section
variable {X : Cx}
theorem pe_minK {e body : PySem.Expr} {te tb : TE} {c P : Addr} {params : Arguments} {scope : Scope} {x : Str} {p pos lpos kpos : Pos} {i k : Nat} (hg : Gl X "min") (hm : X.mg "min" = none) (hv : bootBuiltins "min" = some (.builtin "min")) (he : PE X e te)
    (TB : TabB X.base X.mg c P) (hcode : X.env.code = .ref c) (hr : Room (k + 1) X.A) (L : LamP x X.env.scope scope) (hN : X.N.Nodup) (hi : X.N[i]? = some x) (hdef : defaultsOf params X.env = ([], []))
    (hbind : ∀ (q : Str) (cl : List (Str × Addr)) (pm cv ctv u : Value), bindArgs (PySem.W.kla_fn "<lambda>" q params body scope cl pm cv ctv) ⟨[u], []⟩ = pure [(x, u)])
    (hbody : ∀ (A' : Around) (s : Shared) (H : Hp) (f c' : Addr), Room k A' → PE (gcx X A' s H (lamEnv X scope s.heap.objs.size f c') []) body tb)
    (hs : starEach [e] X.env = (false, eval e X.env) :: starEach [] X.env) :
    PE X (.Call (.Name "min" p) [e] [⟨some "key", .Lambda params body scope lpos, kpos⟩] pos) (tMinK X.K P (X.env.qual ++ "<lambda>") te tb i) := by
  refine ⟨fun pins s σ H Q I h => ?_⟩
  refine wpAny_Call_Name_kw (ld_blt I hg hm hv ?_)
  refine PyProof.Rows.callWith_kw (args_cons (thn (he.run pins s σ H _ I h) fun u s1 ⟨v, H1, I1, r1, a, xs, ev, hq, hpos, hT, q⟩ => args_nil ?_) hs) (by rw [hs]; rfl) (by rw [hs]; rfl) rfl rfl
  subst ev
  obtain rfl : u = Value.ref a := r1
  show wpAny _ _ (evalAll ((do let v ← eval (.Lambda params body scope lpos) X.env; standAt pos; pure v) :: [])) _ _ s1
  refine wpAny_evalAll_cons (wpAny_bind (lam_made I1 TB hcode hT hdef (lam_has L I1.ok) fun f c' pm ctv H2 s2 I2 kp T2 hf ff hc => wpAny_bind (wpAny_standAt (wpAny_pure (wpAny_evalAll_nil ?_)))))
  obtain ⟨Wv, kf, w0, keep, turn, fin⟩ := q H2 kp T2
  show wpAny _ _ (call (.builtin "min") [.ref a] [(Str.ofString "key", .ref f)]) _ _ s2
  have hq2 := (keep H2 w0).1
  obtain ⟨its, rv, hl, hz⟩ := I2.list hq2
  have hal : a < s2.heap.objs.size := by obtain ⟨_, e, _⟩ := hl.isList; exact Heap.lt_size e
  have hin : X.A.in1.handled = none := hr.hd
  have hfl : f < s2.heap.objs.size := Heap.lt_size hf
  refine call_min_walkK (wpAny_pyIter_list hl.isList ?_)
  generalize hs3 : ({ s2 with heap := s2.heap.push { cls := .type "list_iterator", data := .fields #[.ref a, .int 0 0] } } : Shared) = s3
  have e3 : s3.heap = s2.heap.push { cls := .type "list_iterator", data := .fields #[.ref a, .int 0 0] } := by rw [← hs3]
  have hne : a ≠ s2.heap.objs.size := Nat.ne_of_lt hal
  have hsz : s3.heap.objs.size = s2.heap.objs.size + 1 := by rw [e3]; exact Heap.size_push ..
  have I3 : L2.Inv X pins σ H2 s3 := by rw [← hs3]; exact I2.kept (t' := s2.toks) fun b o e => Heap.get?_push_of_some _ e
  have fI : FpOk X pins H2 s2.heap.objs.size := I2.fpOk (Nat.le_refl _) (I2.hok.fresh (Nat.le_refl _))
  have fS : FpOk X pins H2 s3.heap.objs.size := by rw [hsz]; exact I2.fpOk (Nat.le_succ _) (I2.hok.fresh (Nat.le_succ _))
  refine ⟨s2.heap.objs.size, [s2.heap.objs.size, a], [s2.heap.objs.size], fun a b => b = a, xs.length, _, _, fun s' => ∃ H', L2.Inv X pins σ H' s' ∧ Wv H' ∧ FpOk X pins H' f ∧ FpOk X pins H' s2.heap.objs.size ∧ FpOk X pins H' s3.heap.objs.size ∧ s'.heap.get? f = some (PySem.W.kla_obj "<lambda>" (X.env.qual ++ "<lambda>") params body scope (cloFrom X.env.cells scope.names []) pm c' ctv),
    fun j k s' => ∃ t, k = Value.int (kf j) t, ltK kf, rfl, walkV hin _ a hne xs, ⟨?_, its, rv, ?_⟩, fun b hb => ?_, hpos, ⟨fun s1 s2' hJ hm => ?_, fun _ _ _ _ h _ => h, fun j v sj o Q' E' hj hP hJ hst hS hQ => ?_, fun i j ki kj s Q E _ hi hj hQ => ?_⟩, ?_, fun v s' hP hJ => ?_⟩
  · rw [e3]; exact ⟨_, Heap.get?_push_size _ rfl, rfl, rfl⟩
  · rw [e3]; exact hl.isList.push _
  · rw [hsz]
    rcases List.mem_cons.mp hb with z | z
    · rw [z]; exact Nat.lt_succ_self _
    · rw [List.mem_singleton.mp z]; exact Nat.lt_succ_of_lt hal
  · obtain ⟨H', I', w', g1, g2, g3, g4⟩ := hJ
    refine ⟨H', ?_, w', g1, g2, g3, hm.heap f _ (fun z => ?_) g4⟩
    · rw [Moved.eq_with hm]
      refine I'.turnedL (ch := [s3.heap.objs.size, s2.heap.objs.size]) (fun b o hb e => hm.heap b o hb e) fun b hb => ?_
      rcases List.mem_cons.mp hb with z | z
      · rw [z]; exact g3
      · rw [List.mem_singleton.mp z]; exact g2
    · rcases List.mem_cons.mp z with z | z
      · rw [hsz] at z; rw [z] at hfl; exact absurd hfl (Nat.not_lt.mpr (Nat.le_succ _))
      · rw [List.mem_singleton.mp z] at hfl; exact Nat.lt_irrefl _ hfl
  · obtain ⟨H', I', w', g1, g2, g3, g4⟩ := hJ
    obtain ⟨x', hx', rx⟩ := hP
    have nfr : ∀ b, FpOk X pins H' b → b ∉ frs X.stack := fun b hb z => by
      rcases List.mem_cons.mp (I'.stkSub b z) with z | z
      · exact hb.2.1 z
      · exact hb.2.2.1 z
    refine lam_call (k := k) (A := X.A.in1) I' g4 ((keep H' w').2 c' hc) L hN hi (hbind _ _ _ _ _ _) rx (by show X.A.depth < _; exact hr.depth) (room_in hr) (by show pushEnvs [] X.A.frames = _; rw [I'.ok.frames]; rfl) hbody (turn j x' H' hx' w') fun y H'' w s' I'' un ry hy => ?_
    obtain ⟨ey, w''⟩ := hy
    subst ey
    obtain ⟨t, rfl⟩ : ∃ t, w = Value.int (kf j) t := ry
    obtain ⟨oi, hoi, ri⟩ := id hst.1
    have kb : ∀ b o, sj.heap.get? b = some o → FpOk X pins H' b → s'.heap.get? b = some o ∧ FpOk X pins H'' b := fun b o e hb => ⟨un.keep b o e hb.1 (nfr b hb) (by simp), un.free b o e hb.1 (by simp), hb.2⟩
    obtain ⟨its', rv', hl', _⟩ := I''.list (keep H'' w'').1
    exact hQ _ s' ⟨H'', I'', w'', (kb _ _ g4 g1).2, (kb _ _ hoi g2).2, (kb _ _ hS g3).2, (kb _ _ g4 g1).1⟩ ⟨⟨oi, (kb _ _ hoi g2).1, ri⟩, its', rv', hl'.isList⟩ (kb _ _ hS g3).1 ⟨t, rfl⟩ fun _ _ h => h
  · obtain ⟨t1, rfl⟩ := hi
    obtain ⟨t2, rfl⟩ := hj
    exact CmpOf.ints_lt (prog := X.prog) (w := X.w) (A := X.A.in1) (P := fun i v => ∃ t, v = Value.int (kf i) t) kf (fun i v h => h) i j _ _ _ _ _ ⟨t1, rfl⟩ ⟨t2, rfl⟩ hQ
  · exact ⟨H2, I3, w0, ff, fI, fS, by rw [e3]; exact Heap.get?_push_of_some _ hf⟩
  · obtain ⟨H', I', w', _⟩ := hJ
    obtain ⟨x', hx', rx⟩ := hP
    exact ⟨x', H', I', rx, fin x' H' hx' w'⟩
end
end PD
/-! min by a key, as a reading of the environment. -/
namespace PD
open PySem PySem.Spec PyProof.Rows L2 LamX
def keyI (r : Res D) : Res Int := match r with
  | .ok (.int i) => .ok i
  | _ => .bad
def mnkL (fe : En → Res D) (i : Nat) (ρ : En) : List D → Res (List Int)
  | [] => .ok []
  | d :: ds => (keyI (fe ((wipeE ρ [i]).set i (.pl d)))).bind fun k => (mnkL fe i ρ ds).bind fun ks => .ok (k :: ks)
def pickD (ds : List D) (ks : List Int) : Res D := .ok (ds.getD (argBest (ltK fun j => ks.getD j 0) (ds.length - 1)) .non)
def mnkV (fe : En → Res D) (i : Nat) (ρ : En) (d : D) : Res D := match d with
  | .lst ds => if ds.isEmpty then .bad else (mnkL fe i ρ ds).bind (pickD ds)
  | _ => .bad
def mnkF (fa : En → Res D) (i : Nat) (fe : En → Res D) : En → Res D := fun ρ => (fa ρ).bind (mnkV fe i ρ)
theorem keyI_ok {r : Res D} {k : Int} (h : keyI r = .ok k) : r = .ok (.int k) := by
  unfold keyI at h
  split at h
  · cases h; rfl
  · cases h
theorem mnkL_at {fe : En → Res D} {i : Nat} {ρ : En} : ∀ {ds : List D} {ks : List Int}, mnkL fe i ρ ds = .ok ks → ∀ {j : Nat} {d : D}, ds[j]? = some d → fe ((wipeE ρ [i]).set i (.pl d)) = .ok (.int (ks.getD j 0))
  | [], _, _, _, _, h => by simp at h
  | d0 :: ds, ks, h, j, d, hd => by
    unfold mnkL at h
    obtain ⟨k, h1, h⟩ := bind_ok h
    obtain ⟨ks', h2, h⟩ := bind_ok h
    cases h
    cases j with
    | zero => cases hd; exact keyI_ok h1
    | succ j => exact mnkL_at h2 (j := j) hd
theorem keyI_noexc {r : Res D} {c : Nat} : keyI r ≠ .exc c := by
  unfold keyI
  split <;> exact fun h => nomatch h
theorem mnkL_noexc {fe : En → Res D} {i : Nat} {ρ : En} {c : Nat} : ∀ ds : List D, mnkL fe i ρ ds ≠ .exc c
  | [], h => by cases h
  | d :: ds, h => by
    unfold mnkL at h
    cases q : keyI (fe ((wipeE ρ [i]).set i (.pl d))) with
    | exc x => exact keyI_noexc q
    | bad => rw [q] at h; cases h
    | ok k =>
      rw [q, Res.bind_ok] at h
      cases q2 : mnkL fe i ρ ds with
      | exc x => exact mnkL_noexc ds q2
      | bad => rw [q2] at h; cases h
      | ok ks => rw [q2] at h; cases h
/-- the table of a def that makes a lambda -/
def LamAt (S : Stat) (mg : Str → Option Value) (base : Heap) (code : Value) (q : Str) : Prop := ∃ c P, code = .ref c ∧ TabB base mg c P ∧ (P, q) ∈ S.tL ∧ (∀ p ∈ S.tL, p.1 = P → p.2 = q) ∧ ∀ P' ∈ S.tG, P' ≠ P
section
variable {S : Stat} {W : WX} {X : Cx} {fa fe : En → Res D} {ea ee : List Nat} {i : Nat}
theorem mnk_read {σ : L2.St} {H : Hp} {Q : VK} {P : Addr} {q : Str} (hi : i < σ.length) (hP : (P, q) ∈ S.tL) (hu : ∀ p ∈ S.tL, p.1 = P → p.2 = q) (hG : ∀ P' ∈ S.tG, P' ≠ P) (h : tM S W .esc (mnkF fa i fe) (ea ++ outE [i] ee) σ H Q) :
    tMinK S.K P q (tM S W .bor fa ea) (tM S W0 .bor fe ee) i σ H Q := by
  obtain ⟨ρ, F, E, h⟩ := h
  refine ⟨ρ, F, E.sub fun i hi => List.mem_append_left _ hi, ?_⟩
  unfold mnkF at h
  cases qa : fa ρ with
  | exc x => rw [qa] at h; exact h
  | bad => rw [qa] at h; exact h
  | ok d =>
    rw [qa, Res.bind_ok] at h
    intro v H1 e1 g1 r1
    have r1 : RepT S F H1 d v := r1
    unfold mnkV at h
    cases d with
    | lst ds =>
      dsimp only at h
      by_cases hem : ds.isEmpty = true
      · rw [if_pos hem] at h; exact h.elim
      rw [if_neg hem] at h
      cases qk : mnkL fe i ρ ds with
      | exc x => exact absurd qk (mnkL_noexc ds)
      | bad => rw [qk] at h; exact h.elim
      | ok ks =>
        rw [qk] at h
        have h : Post S W F .esc σ H (.ok (ds.getD (argBest (ltK fun j => ks.getD j 0) (ds.length - 1)) .non)) Q := h
        obtain ⟨a, us, rfl, hq, kq⟩ := r1.lst
        have hl : us.length = ds.length := kq.length
        have hpos : 0 < us.length := by
          cases ds with
          | nil => exact absurd rfl hem
          | cons _ _ => rw [hl]; exact Nat.succ_pos _
        have hT1 := g1.2 (P, q) hP
        refine ⟨a, us, rfl, .inl hq, hpos, hT1, fun H2 kp T2 => ?_⟩
        obtain ⟨ps1, hP1, _⟩ := hT1
        have ne : ∀ b o, H1 b = some o → (∀ ps, o ≠ .tbl ps) → b ≠ P := fun b o e ht z => by rw [z, hP1] at e; exact ht ps1 (Option.some.inj e).symm
        have e12 : Ext H1 H2 := by
          refine ⟨fun b o hb ht => kp b o hb (ne b o hb ht), fun b ps hb => ?_⟩
          by_cases z : b = P
          · obtain ⟨ps, z2, _⟩ := T2
            exact ⟨ps, by rw [z]; exact z2⟩
          · exact ⟨ps, kp b _ hb z⟩
        have g2 : Gd S H2 := by
          refine ⟨fun P' hP' => ?_, fun p hp => ?_⟩
          · obtain ⟨ps, z1, z2⟩ := g1.1 P' hP'
            exact ⟨ps, kp P' _ z1 (hG P' hP'), z2⟩
          · by_cases z : p.1 = P
            · rw [z, hu p hp z]; exact T2
            · obtain ⟨ps, z1, z2, z3⟩ := g1.2 p hp
              refine ⟨ps, kp _ _ z1 z, z2, fun pos cv hc => ?_⟩
              obtain ⟨c, z4, z5⟩ := z3 pos cv hc
              exact ⟨c, z4, e12.to _ _ z5 fun ps => codeO_not fun φ => fun z => nomatch z⟩
        refine ⟨fun H3 => Ext H2 H3 ∧ Gd S H3, fun j => ks.getD j 0, ⟨Ext.refl _, g2⟩, fun H3 ⟨e3, g3⟩ => ⟨.inl (Rd.ext hq (e12.trans e3)), fun c hc => e3.to _ _ hc fun ps => codeO_not fun φ => fun z => nomatch z⟩, fun j x H3 hx ⟨e3, g3⟩ => ?_, fun x H3 hx ⟨e3, g3⟩ => ?_⟩
        · obtain ⟨d, hd, rd⟩ := kq.get' hx
          have hk := mnkL_at qk hd
          have E3 := ((E.ext ((e1.trans e12).trans e3) g3).wipe [i]).set (i := i) (Rep.ext (e12.trans e3) rd)
          refine ⟨_, F, E3.sub fun j hj => ?_, ?_⟩
          · refine List.mem_append_left _ ?_
            by_cases hv : j ∈ [i]
            · exact List.mem_append_right _ hv
            · exact List.mem_append_left _ (List.mem_append_right _ (List.mem_filter.mpr ⟨hj, by simpa using hv⟩))
          · rw [hk]
            intro w H4 e4 g4 rw_
            have rw_ : RepT S F H4 (.int (ks.getD j 0)) w := rw_
            exact ⟨by cases rw_.int; rfl, e3.trans e4, g4⟩
        · obtain ⟨d, hd, rd⟩ := kq.get' hx
          rw [hl] at hd
          rw [List.getD_eq_getElem?_getD, hd] at h
          exact h x H3 ((e1.trans e12).trans e3) g3 (Rep.ext (e12.trans e3) rd)
    | _ => exact h.elim
theorem pm_mnk {e body : PySem.Expr} {params : Arguments} {scope : Scope} {x : Str} {p pos lpos kpos : Pos} {k : Nat} (hK : X.K = S.K) (B : Bi X "min") (ha : PM S W .bor X e fa ea) (hT : LamAt S X.mg X.base X.env.code (X.env.qual ++ "<lambda>")) (hr : Room (k + 1) X.A) (L : LamP x X.env.scope scope) (hN : X.N.Nodup) (hi : X.N[i]? = some x)
    (hdef : defaultsOf params X.env = ([], [])) (hbind : ∀ (q : Str) (cl : List (Str × Addr)) (pm cv ctv u : Value), bindArgs (PySem.W.kla_fn "<lambda>" q params body scope cl pm cv ctv) ⟨[u], []⟩ = pure [(x, u)])
    (hbody : ∀ (A' : Around) (s : Shared) (H : Hp) (f c' : Addr), Room k A' → PM S W0 .bor (gcx X A' s H (lamEnv X scope s.heap.objs.size f c') []) body fe ee) (hs : starEach [e] X.env = (false, eval e X.env) :: starEach [] X.env) :
    PM S W .esc X (.Call (.Name "min" p) [e] [⟨some "key", .Lambda params body scope lpos, kpos⟩] pos) (mnkF fa i fe) (ea ++ outE [i] ee) := by
  obtain ⟨c, P, hcode, TB, hP, hu, hG⟩ := hT
  exact ⟨fun pins s σ H Q I h => (pe_minK B.gl B.no PyProof.Rows.boot_min ha TB hcode hr L hN hi hdef hbind hbody hs).run pins s σ H Q I (by
    rw [hK]
    refine mnk_read ?_ hP hu hG h
    have z := I.len
    have := (List.getElem?_eq_some_iff.mp hi).1
    omega)⟩
end
end PD
/-! min(xs, default=None), xs a list of ints. -/
namespace PD
open PySem PySem.Spec PyProof.Rows L2
theorem alikeAll_ints (ns : List Int) : PySem.W.AlikeAll (ns.map PyData.int) := by
  refine ⟨fun x hx y hy => ?_, fun x hx z => ?_⟩
  · obtain ⟨i, _, rfl⟩ := List.mem_map.mp hx
    obtain ⟨j, _, rfl⟩ := List.mem_map.mp hy
    rfl
  · obtain ⟨i, _, rfl⟩ := List.mem_map.mp hx
    cases z
theorem depth_ints : ∀ ns : List Int, PyData.depthAll (ns.map PyData.int) = 0
  | [] => rfl
  | n :: ns => by rw [List.map_cons, PyData.depthAll, depth_ints ns]; rfl
def minV : List Int → V
  | [] => .non
  | n :: r => .int (r.foldl min n)
def rMinDef (K : PySem.W.Frag) : List V → List V → Hp → VK → Prop := fun vs zs H Q => ∃ (a : Addr) (ns : List Int), vs = [V.ref a] ∧ zs = [.non] ∧ SqL K H a (ns.map V.int) ∧ Q (minV ns) H
theorem cr_minDef {X : Cx} (hh : X.A.handled = none) (hu : X.A.units + 65 < cLine) : CallRK X (.builtin "min") [Str.ofString "default"] (rMinDef X.K) := by
  intro pins s σ H vs zs us ws Q I r rz h
  obtain ⟨a, ns, rfl, rfl, hs, q⟩ := h
  obtain rfl := Vals.ref1 r
  obtain ⟨w1, rfl, e1⟩ := vals1 rz
  obtain rfl : w1 = Value.none := e1
  obtain ⟨its, rv, hl, hz⟩ := I.list hs
  have hi := rv.ints
  show wpAny _ _ (call (.builtin "min") [.ref a] [(Str.ofString "default", Value.none)]) _ _ _
  refine PySem.W.min_list_default hh hl.isList (xs := ns.map PyData.int) (as := []) (by simpa using PySem.W.readsAll_of_ints hi) (alikeAll_ints ns) (by rw [depth_ints]; omega) (fun he h' tk hk => ?_) fun y ys i v h' tk bs he hv hr hk => ?_
  · have hn : ns = [] := List.map_eq_nil_iff.mp he
    subst hn
    exact ⟨.non, H, I.kept hk, rfl, q⟩
  · cases ns with
    | nil => cases he
    | cons n r =>
      rw [List.map_cons] at he
      injection he with h1 h2
      subst h1 h2
      rw [PySem.W.minD_ints] at hr
      refine ⟨minV (n :: r), H, I.kept hk, ?_, q⟩
      cases hr with
      | int => exact ⟨_, rfl⟩
def D.intsO : List D → Option (List Int)
  | [] => some []
  | .int i :: ds => (D.intsO ds).map fun r => i :: r
  | _ => none
def mndV : List Int → D
  | [] => .non
  | n :: r => .int (r.foldl min n)
def mndD : D → Res D
  | .lst ds => match D.intsO ds with
    | some ns => .ok (mndV ns)
    | none => .bad
  | _ => .bad
theorem intsO_ints : ∀ {ds : List D} {ns : List Int}, D.intsO ds = some ns → ds = ns.map D.int
  | [], ns, h => by cases h; rfl
  | .int i :: ds, ns, h => by
    unfold D.intsO at h
    obtain ⟨r, h1, rfl⟩ := Option.map_eq_some_iff.mp h
    rw [intsO_ints h1]; rfl
  | .non :: _, _, h | .bl _ :: _, _, h | .str _ :: _, _, h | .tup _ :: _, _, h | .lst _ :: _, _, h | .raw _ :: _, _, h | .dic _ _ :: _, _, h | .obj _ _ :: _, _, h => by unfold D.intsO at h; cases h
section
variable {S : Stat} {W : WX} {X : Cx} {md : Md} {e : PySem.Expr} {fa : En → Res D} {ea : List Nat} {p pos kpos : Pos} {j : Nat} {npos : Pos}
theorem reps_ints {F : Addr → Prop} {H : Hp} : ∀ {ns : List Int} {vs : List V}, Reps S F H (ns.map D.int) vs → vs = ns.map V.int
  | [], vs, h => h.nil_inv
  | n :: ns, vs, h => by
    obtain ⟨v, r, rfl, h1, h2⟩ := h.cons_inv
    unfold Rep at h1
    rw [h1, reps_ints h2]; rfl
theorem pm_mnd (hK : X.K = S.K) (hh : X.A.handled = none) (hu : X.A.units + 65 < cLine) (B : Bi X "min") (ha : PM S W .bor X e fa ea) (hs : starEach [e] X.env = (false, eval e X.env) :: starEach [] X.env) :
    PM S W md X (.Call (.Name "min" p) [e] [⟨some "default", .Constant .none j npos, kpos⟩] pos) (fun ρ => (fa ρ).bind mndD) ea :=
  ⟨fun pins s σ H Q I ⟨ρ, F, E, h⟩ => (pe_callBK (cr_minDef hh hu) B.gl B.no PyProof.Rows.boot_min (pa_cons ha pa_nil hs) (pk_cons pe_non pk_nil) (he := by rw [hs]; rfl) (hpl := by rw [hs]; rfl)).run pins s σ H Q I (tM_bind (md' := .bor) E h (fun dx x H1 e1 E1 r1 _ h1 => by
    unfold mndD at h1
    cases dx with
    | lst ds =>
      dsimp only at h1
      cases q : D.intsO ds with
      | none => rw [q] at h1; exact h1.elim
      | some ns =>
        rw [q] at h1
        obtain rfl := intsO_ints q
        have r1 : RepT S F H1 (.lst (ns.map D.int)) x := r1
        obtain ⟨a, us, rfl, hq, kq⟩ := r1.lst
        obtain rfl := reps_ints kq
        refine ⟨a, ns, rfl, rfl, by rw [hK]; exact .inl hq, ?_⟩
        cases ns with
        | nil => exact h1.flat E1.gd rfl (by unfold mndV minV Rep; rfl)
        | cons n r => exact h1.flat E1.gd rfl (by unfold mndV minV Rep; rfl)
    | _ => exact h1.elim) fun i hi => hi)⟩
end
end PD
/-! Deep: a small syntax of expressions, what it tells, the check against a text's tree. -/
namespace PD
open PySem PySem.Spec PyProof.Rows L2
inductive Bop | add | sub | mul | fdiv | mod | pow
inductive Cop | eq | ne | lt | le | gt | ge | isin | nin | is | isnot
inductive Iop | lt | le
inductive Bfn | len | abs | max | min | sum | int | tuple | list | sorted
inductive IK | seq | rng
inductive Ex where
  | var (i : Nat) | int (i : Int) | bl (b : Bool) | non | str (x : Str) | gint (x : Str) (i : Int)
  | bin (o : Bop) (a b : Ex) | cmp (o : Cop) (a b : Ex) | chn (o o' : Iop) (a b c : Ex)
  | neg (a : Ex) | nt (a : Ex) | and (a b : Ex) | or (a b : Ex) | ite (c a b : Ex)
  | tup (es : Ex) | lst (es : Ex) | dic0
  | ix (a b : Ex) | sl (a lo hi : Ex) | fld (c k : Nat) (a : Ex)
  | bi (f : Bfn) (es : Ex) | isi (t : Ty) (a : Ex) | isc (c : Nat) (a : Ex)
  | call (j : Nat) (es : Ex) | meth (j c : Nat) (o es : Ex) | make (j c : Nat) (es kws : Ex)
  | lc (k : IK) (vs : List Nat) (t : Tg) (it c e : Ex) | gen (stop : Bool) (k : IK) (vs : List Nat) (t : Tg) (it e : Ex)
  | tupR (es : Ex)
  | dc (vs : List Nat) (t : Tg) (it e : Ex) (c : Int)
  | idx (a b : Ex) | rvl (a : Ex) | mnk (i : Nat) (a e : Ex) | mnd (a : Ex) | kvl (w : Bool) (a : Ex)
  | nil | cons (a r : Ex)
def Ex.isNil : Ex → Bool
  | .nil => true
  | _ => false
/-- what the callees tell: defs, methods, classes (fields; defaults) -/
structure Fs where
  f : Nat → List D → Res D
  m : Nat → List D → Res D
  k : Nat → List D → Res (List D)
  dd : Nat → List D
def binD : Bop → D → D → Res D
  | .add => plusD | .sub => subD | .mul => mulD | .fdiv => fdivD | .mod => modD | .pow => powD
def cmpD : Cop → D → D → Res Bool
  | .eq => eqD | .ne => fun x y => notB (eqD x y) | .lt => ltD | .le => leD | .gt => gtD | .ge => geD
  | .isin => inD | .nin => fun x y => notB (inD x y) | .is => isD | .isnot => fun x y => notB (isD x y)
def iopD : Iop → D → D → Res Bool
  | .lt => iLt | .le => leD
def bfnD : Bfn → List D → Res D
  | .len => lenD | .abs => absD | .max => maxD | .min => minD | .sum => sumD | .int => int1D | .tuple => tupleD | .list => listD | .sorted => sortedD
def tupK (ds : List D) : Res D := if ds.length ≤ sizeLine then .ok (.tup ds) else .bad
def lstK (ds : List D) : Res D := if ds.length ≤ sizeLine then .ok (.lst ds) else .bad
def rngA (ds : List D) : Res (List D) := match ds with
  | [_] => rngA1 ds
  | [_, _] => rngA2 ds
  | _ => rngA3 ds
def toI : D → Res (Option Int)
  | .int i => .ok (some i)
  | _ => .bad
def tupRD (ds : List D) : Res D := (rngA ds).bind fun xs => if xs.length ≤ sizeLine then .ok (.tup xs) else .bad
mutual
def ev (Φ : Fs) : Ex → En → Res D
  | .var i => vr i
  | .int i => fun _ => .ok (.int i)
  | .bl b => fun _ => .ok (.bl b)
  | .non => fun _ => .ok .non
  | .str x => fun _ => .ok (.str x)
  | .gint _ i => fun _ => .ok (.int i)
  | .bin o a b => bnd2 (ev Φ a) (ev Φ b) (binD o)
  | .cmp o a b => bnd2 (ev Φ a) (ev Φ b) fun x y => blD (cmpD o x y)
  | .chn o o' a b c => chn (iopD o) (iopD o') (ev Φ a) (ev Φ b) (ev Φ c)
  | .neg a => fun ρ => (ev Φ a ρ).bind negD
  | .nt a => notV (ev Φ a)
  | .and a b => andV (ev Φ a) (ev Φ b)
  | .or a b => orV (ev Φ a) (ev Φ b)
  | .ite c a b => iteF (fun ρ => (ev Φ c ρ).bind asB) (ev Φ a) (ev Φ b)
  | .tup es => bndL (evs Φ es) tupK
  | .lst es => bndL (evs Φ es) lstK
  | .dic0 => fun _ => .ok (.dic [] [])
  | .ix a b => bnd2 (ev Φ a) (ev Φ b) ixD
  | .sl a lo hi => slF (ev Φ a) (fun ρ => if lo.isNil then .ok none else (ev Φ lo ρ).bind toI) (fun ρ => if hi.isNil then .ok none else (ev Φ hi ρ).bind toI)
  | .fld c k a => fun ρ => (ev Φ a ρ).bind (fldD c k)
  | .bi f es => bndL (evs Φ es) (bfnD f)
  | .isi t a => fun ρ => (ev Φ a ρ).bind fun d => blD (isiD t d)
  | .isc c a => fun ρ => (ev Φ a ρ).bind fun d => blD (isiC c d)
  | .call j es => bndL (evs Φ es) (Φ.f j)
  | .meth j c o es => mthF c (Φ.m j) (ev Φ o) (evs Φ es)
  | .make j c es kws => mkF c (Φ.dd j) (Φ.k j) (evs Φ es) (evs Φ kws)
  | .lc k vs t it c e => lcF vs t (match k with | .seq => fun ρ => (ev Φ it ρ).bind itemsD | .rng => bndI (evs Φ it) rngA) (fun ρ => if c.isNil then .ok true else (ev Φ c ρ).bind asB) (ev Φ e)
  | .gen stop k vs t it e => genF stop vs t (match k with | .seq => fun ρ => (ev Φ it ρ).bind itemsD | .rng => bndI (evs Φ it) rngA) (ev Φ e)
  | .tupR es => bndL (evs Φ es) tupRD
  | .dc vs t it e c => dcF vs t (fun ρ => (ev Φ it ρ).bind itemsD) (ev Φ e) c
  | .idx a b => idxF (ev Φ a) (ev Φ b)
  | .rvl a => fun ρ => (ev Φ a ρ).bind rvlD
  | .mnk i a e => mnkF (ev Φ a) i (ev Φ e)
  | .mnd a => fun ρ => (ev Φ a ρ).bind mndD
  | .kvl w a => fun ρ => (ev Φ a ρ).bind (kvlD w)
  | .nil => fun _ => .bad
  | .cons _ _ => fun _ => .bad
def evs (Φ : Fs) : Ex → En → Res (List D)
  | .nil => fun _ => .ok []
  | .cons a r => cons2 (ev Φ a) (evs Φ r)
  | _ => fun _ => .bad
end
def evI (Φ : Fs) (k : IK) (it : Ex) : En → Res (List D) := match k with | .seq => fun ρ => (ev Φ it ρ).bind itemsD | .rng => bndI (evs Φ it) rngA
def evC (Φ : Fs) (c : Ex) : En → Res Bool := fun ρ => if c.isNil then .ok true else (ev Φ c ρ).bind asB
def evO (Φ : Fs) (c : Ex) : En → Res (Option Int) := fun ρ => if c.isNil then .ok none else (ev Φ c ρ).bind toI
/-- the slots whose values are kept -/
def slx : Bool → Ex → List Nat
  | m, .var i => if m then [i] else []
  | _, .bin _ a b => slx false a ++ slx false b
  | _, .cmp _ a b => slx false a ++ slx false b
  | _, .chn _ _ a b c => slx false a ++ (slx false b ++ slx false c)
  | _, .neg a => slx false a
  | _, .nt a => slx false a
  | m, .and a b => slx false a ++ slx m b
  | m, .or a b => slx false a ++ slx m b
  | m, .ite c a b => slx false c ++ (slx m a ++ slx m b)
  | _, .tup es => slx true es
  | _, .lst es => slx true es
  | _, .ix a b => slx false a ++ slx false b
  | _, .sl a lo hi => slx false a ++ (slx false lo ++ slx false hi)
  | _, .fld _ _ a => slx false a
  | _, .bi _ es => slx false es
  | _, .isi _ a => slx false a
  | _, .isc _ a => slx false a
  | _, .call _ es => slx true es
  | _, .meth _ _ o es => slx true o ++ slx true es
  | _, .make _ _ es kws => slx true es ++ slx true kws
  | _, .lc k vs _ it c e => slx (match k with | .seq => true | .rng => false) it ++ outE vs (slx false c ++ slx true e)
  | _, .gen _ k vs _ it e => slx (match k with | .seq => true | .rng => false) it ++ outE vs (slx false e)
  | _, .tupR es => slx false es
  | _, .dc vs _ it e _ => slx true it ++ outE vs (slx false e)
  | _, .idx a b => slx false a ++ slx false b
  | _, .rvl a => slx false a
  | _, .mnk i a e => slx false a ++ outE [i] (slx false e)
  | _, .mnd a => slx false a
  | _, .kvl _ a => slx false a
  | m, .cons a r => slx m a ++ slx m r
  | _, _ => []
/-- a value that is new where it has a place of its own -/
def frx : Ex → Bool
  | .var _ | .ix _ _ | .fld _ _ _ | .call _ _ | .meth _ _ _ _ | .make _ _ _ _ | .mnk _ _ _ | .nil | .cons _ _ => false
  | .and _ b => frx b
  | .or _ b => frx b
  | .ite _ a b => frx a && frx b
  | _ => true
/-! ### the check -/
structure TC where
  N : List Str
  sc : Scope
  fn : Str → Bool
  gen : Bool
  lam : Bool
  gi : List (Str × Int)
  fns : List (Str × Nat)
  mts : List (Nat × Str × Nat)
  mks : List (Str × Nat × Nat × List Str)
  isc : List (Str × Nat)
  cls : List Nat
  exs : List (Str × Nat)
  fN : Nat → List Str
def TC.blk (C : TC) (scope : Scope) : TC := { C with sc := relS scope C.sc, fn := fun x => scope.names.lookup x == some .cell, gen := false, lam := false }
def TC.gbl (C : TC) (scope : Scope) : TC := { C with sc := scope, fn := fun _ => false, gen := false, lam := false }
def visB (sc : Scope) (x : Str) : Bool := match sc.names.lookup x with
  | some .local | some .cell | some .free => true
  | _ => false
def glB (sc : Scope) (x : Str) : Bool := decide (sc.names.lookup x = some .globalImplicit)
def locB (C : TC) (x : Str) : Bool := match C.sc.names.lookup x with
  | some .local => true
  | some .cell => C.fn x
  | _ => false
def ndB (x : Str) : Bool := !(x == ("__debug__" : Str)) && !(x == ("__classdict__" : Str))
def binB : Bop → Operator → Bool
  | .add, .Add | .sub, .Sub | .mul, .Mult | .fdiv, .FloorDiv | .mod, .Mod | .pow, .Pow => true
  | _, _ => false
def cmpB : Cop → CmpOp → Bool
  | .eq, .Eq | .ne, .NotEq | .lt, .Lt | .le, .LtE | .gt, .Gt | .ge, .GtE | .isin, .In | .nin, .NotIn | .is, .Is | .isnot, .IsNot => true
  | _, _ => false
def iopB : Iop → CmpOp → Bool
  | .lt, .Lt | .le, .LtE => true
  | _, _ => false
def Bfn.nm : Bfn → Str
  | .len => "len" | .abs => "abs" | .max => "max" | .min => "min" | .sum => "sum" | .int => "int" | .tuple => "tuple" | .list => "list" | .sorted => "sorted"
def Ty.st : Ty → Str
  | .int => "int" | .tup => "tuple" | .str => "str"
def notSet : PySem.Expr → Bool
  | .Set _ _ _ => false
  | _ => true
def plainIxB : PySem.Expr → Bool
  | .Slice _ _ _ _ => false
  | _ => true
def notCall : PySem.Expr → Bool
  | .Call _ _ _ _ => false
  | _ => true
def notStar : PySem.Expr → Bool
  | .Starred _ _ => false
  | _ => true
def plainIt : PySem.Expr → Bool
  | .Set _ _ _ | .List _ _ => false
  | _ => true
def namesB (C : TC) : List PySem.Expr → List Nat → Bool
  | [], [] => true
  | .Name x _ :: es, i :: is => decide (C.N[i]? = some x) && locB C x && namesB C es is
  | _, _ => false
def tgB (C : TC) : Tg → PySem.Expr → Bool
  | .one i, .Name x _ => decide (C.N[i]? = some x) && locB C x
  | .many is, .Tuple es _ _ => namesB C es is
  | _, _ => false
def ownOf (N : List Str) (vs : List Nat) : List (Str × Nat) := vs.map fun i => (N.getD i "", i)
def genB (N : List Str) (sc scope : Scope) (own : List (Str × Nat)) : Bool :=
  blkC N sc scope own && !scope.isCoroutine && (scope.names.all fun y => match y.2 with | .cell => false | _ => true) && decide (scope.names.lookup (".0" : Str) = some NameKind.local) && !N.contains ".0"
def kwNames : List Keyword → List (Option Str)
  | [] => []
  | k :: r => k.arg :: kwNames r
def kwVals : List Keyword → List PySem.Expr
  | [] => []
  | k :: r => k.value :: kwVals r
def paramsB (x : Str) : Arguments → Bool
  | ⟨[], [⟨a, none, _⟩], none, [], [], none, []⟩ => decide (a = x)
  | _ => false
mutual
def tie (C : TC) : Ex → PySem.Expr → Bool
  | .var i, .Name x _ => decide (C.N[i]? = some x) && visB C.sc x && ndB x
  | .int i, .Constant (.int j) _ _ => decide (i = j)
  | .bl b, .Constant (.bool b') _ _ => b == b'
  | .non, .Constant .none _ _ => true
  | .str x, .Constant (.str y) _ _ => decide (x = y) && PyData.strOk x
  | .gint x i, .Name y _ => decide (x = y) && C.gi.contains (x, i) && glB C.sc x && ndB x
  | .bin o a b, .BinOp x op y _ => binB o op && tie C a x && tie C b y
  | .cmp o a b, .Compare x [op] [y] _ => cmpB o op && tie C a x && tie C b y && notSet y
  | .chn o o' a b c, .Compare x [op, op'] [y, z] _ => iopB o op && iopB o' op' && tie C a x && tie C b y && tie C c z
  | .neg a, .UnaryOp .USub x _ => tie C a x
  | .nt a, .UnaryOp .Not x _ => tie C a x
  | .and a b, .BoolOp .And (x :: y :: r) p => tie C a x && tie C b (match r with | [] => y | _ => .BoolOp .And (y :: r) p)
  | .or a b, .BoolOp .Or (x :: y :: r) p => tie C a x && tie C b (match r with | [] => y | _ => .BoolOp .Or (y :: r) p)
  | .ite c a b, .IfExp c' a' b' _ => tie C c c' && tie C a a' && tie C b b'
  | .tup es, .Tuple xs _ _ => ties C es xs
  | .lst es, .List xs _ => ties C es xs
  | .dic0, .Dict [] [] _ => true
  | .ix a b, .Subscript x y _ => tie C a x && tie C b y && plainIxB y
  | .sl a lo hi, .Subscript x (.Slice l h none _) _ => tie C a x && (match l with | none => lo.isNil | some l => !lo.isNil && tie C lo l) && (match h with | none => hi.isNil | some h => !hi.isNil && tie C hi h)
  | .fld c k a, .Attribute x nm _ => C.cls.contains c && decide ((C.fN c)[k]? = some nm) && tie C a x && notCall x
  | .bi f es, .Call (.Name x _) (y :: ys) [] _ => decide (x = f.nm) && glB C.sc x && ties C es (y :: ys)
  | .isi t a, .Call (.Name g _) [x, .Name tn _] [] _ => decide (g = ("isinstance" : Str)) && decide (tn = t.st) && glB C.sc g && glB C.sc tn && tie C a x && notStar x
  | .isc c a, .Call (.Name g _) [x, .Name tn _] [] _ => decide (g = ("isinstance" : Str)) && C.isc.contains (tn, c) && glB C.sc g && glB C.sc tn && ndB tn && tie C a x && notStar x
  | .call j es, .Call (.Name x _) (y :: ys) [] _ => decide (C.fns[j]? = some (x, ys.length + 1)) && glB C.sc x && ndB x && ties C es (y :: ys)
  | .meth j c o es, .Call (.Attribute x nm apos) ys [] pos => decide (C.mts[j]? = some (c, nm, ys.length + 1)) && tie C o x && notCall x && ties C es ys && decide (ys.length < 30) && (apos.endLine == pos.line)
  | .make j c es kws, .Call (.Name x _) (y :: ys) ks _ => decide (C.mks[j]? = some (x, c, ys.length + 1, (kwNames ks).map (·.getD ""))) && (kwNames ks).all (·.isSome) && glB C.sc x && ndB x && ties C es (y :: ys) && ties C kws (kwVals ks)
  | .lc k vs t it c e, .ListComp el [⟨tg, iter, ifs, 0⟩] scope _ => blkC C.N C.sc scope (ownOf C.N vs) && t.slots.all (vs.contains ·) && tgB (C.blk scope) t tg &&
      (match k with | .seq => tie C it iter && plainIt iter | .rng => (match iter with | .Call (.Name g _) ys [] _ => decide (g = ("range" : Str)) && glB C.sc g && decide (1 ≤ ys.length ∧ ys.length ≤ 3) && ties C it ys | _ => false)) &&
      (match ifs with | [] => c.isNil | [x] => !c.isNil && tie (C.blk scope) c x | _ => false) && tie (C.blk scope) e el
  | .gen stop k vs t it e, .Call (.Name g _) [.GeneratorExp el [⟨tg, iter, [], 0⟩] scope _] [] _ => C.gen && decide (g = if stop then ("any" : Str) else "all") && glB C.sc g && genB C.N C.sc scope (ownOf C.N vs) && t.slots.all (vs.contains ·) && tgB (C.gbl scope) t tg &&
      (match k with | .seq => tie C it iter && plainIt iter | .rng => (match iter with | .Call (.Name g _) ys [] _ => decide (g = ("range" : Str)) && glB C.sc g && decide (1 ≤ ys.length ∧ ys.length ≤ 3) && ties C it ys | _ => false)) && tie (C.gbl scope) e el
  | .tupR es, .Call (.Name g _) [.Call (.Name r _) ys [] _] [] _ => decide (g = ("tuple" : Str)) && decide (r = ("range" : Str)) && glB C.sc g && glB C.sc r && decide (ys.length = 2) && ties C es ys
  | .dc vs t it e c, .DictComp kx (.Constant (.int c') _ _) [⟨tg, iter, [], 0⟩] scope _ => decide (c = c') && blkC C.N C.sc scope (ownOf C.N vs) && t.slots.all (vs.contains ·) && tgB (C.blk scope) t tg && tie C it iter && plainIt iter && tie (C.blk scope) e kx
  | .idx a b, .Call (.Attribute o nm apos) [y] [] pos => decide (nm = ("index" : Str)) && tie C a o && notCall o && tie C b y && notStar y && (apos.endLine == pos.line)
  | .rvl a, .Call (.Name g _) [.Call (.Name r _) [y] [] _] [] _ => decide (g = ("list" : Str)) && decide (r = ("reversed" : Str)) && glB C.sc g && glB C.sc r && tie C a y && notStar y
  | .mnk i a e, .Call (.Name g _) [x] [⟨some k, .Lambda params body scope _, _⟩] _ => C.lam && decide (g = ("min" : Str)) && decide (k = ("key" : Str)) && glB C.sc g && tie C a x && notStar x && (match C.N[i]? with | some nm => paramsB nm params && lamPB nm C.sc scope | none => false) && tie (C.gbl scope) e body
  | .kvl w a, .Call (.Name g _) [.Call (.Attribute o nm apos) [] [] cpos] [] _ => decide (g = ("list" : Str)) && decide (nm = if w then ("values" : Str) else ("keys" : Str)) && glB C.sc g && tie C a o && notCall o && (apos.endLine == cpos.line)
  | .mnd a, .Call (.Name g _) [x] [⟨some k, .Constant .none _ _, _⟩] _ => decide (g = ("min" : Str)) && decide (k = ("default" : Str)) && glB C.sc g && tie C a x && notStar x
  | _, _ => false
def ties (C : TC) : Ex → List PySem.Expr → Bool
  | .nil, [] => true
  | .cons a r, x :: xs => notStar x && tie C a x && ties C r xs
  | _, _ => false
end
end PD
/-! Deep: contexts, what is told of an expression. -/
namespace PD
open PySem PySem.Spec PyProof.Rows L2 GxR
/-- the facts of the module that stay -/
structure GEnv (S : Stat) (C : TC) (Φ : Fs) (L : Nat) (P : Program) (w : World) (mg : Str → Option Value) (base : Heap) : Prop where
  gi : ∀ x i, (x, i) ∈ C.gi → ∃ t, mg x = some (.int i t)
  bn : ∀ x ∈ (["len", "abs", "max", "min", "sum", "int", "tuple", "list", "sorted", "range", "isinstance", "all", "any", "str", "reversed"] : List Str), mg x = none
  fns : ∀ j nm n, C.fns[j]? = some (nm, n) → Known S P w mg base L nm n (Φ.f j)
  mts : ∀ j c nm n, C.mts[j]? = some (c, nm, n) → KnownM S P w mg base L c nm n (Φ.m j) ∧ ClsAt S c
  mks : ∀ j nm c n ks, C.mks[j]? = some (nm, c, n, ks) → KnownI S P w mg base L nm c n ks (Φ.dd j) (Φ.k j)
  isc : ∀ nm c, (nm, c) ∈ C.isc → ClsAt S c ∧ IsiAt S c ∧ mg nm = some (.ref (S.cA c))
  cls : ∀ c ∈ C.cls, ClsAt S c
  fN : S.fN = C.fN
structure CxOk (S : Stat) (C : TC) (Φ : Fs) (L : Nat) (X : Cx) : Prop where
  K : X.K = S.K
  calm : X.calm = true
  N : X.N = C.N
  nd : C.N.Nodup
  sc : X.env.scope = C.sc
  fn : X.fn = C.fn
  room : Room (L + 1 + (if C.gen || C.lam then 1 else 0)) X.A
  code : C.gen = true → ∃ c P, X.env.code = .ref c ∧ TabB X.base X.mg c P ∧ P ∈ S.tG ∧ ∀ q ∈ S.tL, q.1 ≠ P
  lcode : C.lam = true → LamAt S X.mg X.base X.env.code (X.env.qual ++ "<lambda>")
  G : GEnv S C Φ L X.prog X.w X.mg X.base
section
variable {S : Stat} {C : TC} {Φ : Fs} {L : Nat} {X : Cx}
theorem GEnv.same {C' : TC} {P : Program} {w : World} {mg : Str → Option Value} {base : Heap} (G : GEnv S C Φ L P w mg base) (h1 : C'.gi = C.gi) (h2 : C'.fns = C.fns) (h3 : C'.mts = C.mts) (h4 : C'.mks = C.mks) (h5 : C'.isc = C.isc) (h6 : C'.cls = C.cls) (h7 : C'.fN = C.fN) : GEnv S C' Φ L P w mg base :=
  ⟨by rw [h1]; exact G.gi, G.bn, by rw [h2]; exact G.fns, by rw [h3]; exact G.mts, by rw [h4]; exact G.mks, by rw [h5]; exact G.isc, by rw [h6]; exact G.cls, by rw [h7]; exact G.fN⟩
theorem CxOk.blk (h : CxOk S C Φ L X) (scope : Scope) (s : Shared) (H : Hp) (Ca : Addr) (cl : List (Str × Addr)) (fp : List Addr) : CxOk S (C.blk scope) Φ L (X.blk s H scope (compEnvC scope cl Ca X.env) fp) where
  K := h.K
  calm := h.calm
  N := h.N
  nd := h.nd
  sc := by show relS scope X.env.scope = relS scope C.sc; rw [h.sc]
  fn := rfl
  room := h.room.mono (by show L + 1 + 0 ≤ _; omega)
  code := fun z => nomatch z
  lcode := fun z => nomatch z
  G := h.G.same rfl rfl rfl rfl rfl rfl rfl
theorem CxOk.gbl (h : CxOk S C Φ L X) (scope : Scope) {A' : Around} (r : Room (L + 1) A') (s : Shared) (H : Hp) (Ca : Addr) (cv : Value) (cl : List (Str × Addr)) (fp : List Addr) : CxOk S (C.gbl scope) Φ L (gcx X A' s H (genEnv scope cl Ca cv builtinsNs X.env) fp) where
  K := h.K
  calm := rfl
  N := h.N
  nd := h.nd
  sc := rfl
  fn := rfl
  room := r
  code := fun z => nomatch z
  lcode := fun z => nomatch z
  G := h.G.same rfl rfl rfl rfl rfl rfl rfl
theorem CxOk.lbl (h : CxOk S C Φ L X) (scope : Scope) {A' : Around} (r : Room (L + 1) A') (s : Shared) (H : Hp) (f c' : Addr) : CxOk S (C.gbl scope) Φ L (gcx X A' s H (LamX.lamEnv X scope s.heap.objs.size f c') []) where
  K := h.K
  calm := rfl
  N := h.N
  nd := h.nd
  sc := rfl
  fn := rfl
  room := r
  code := fun z => nomatch z
  lcode := fun z => nomatch z
  G := h.G.same rfl rfl rfl rfl rfl rfl rfl
theorem CxOk.nd' (h : CxOk S C Φ L X) : X.N.Nodup := by rw [h.N]; exact h.nd
theorem CxOk.hu (h : CxOk S C Φ L X) : X.A.units + 65 < cLine := by have := h.room.un; omega
theorem CxOk.gl (h : CxOk S C Φ L X) {x : Str} (g : glB C.sc x = true) : Gl X x := by
  unfold Gl Env.kindOf
  rw [h.sc]
  exact of_decide_eq_true g
theorem CxOk.bi (h : CxOk S C Φ L X) {x : Str} (g : glB C.sc x = true) (hx : x ∈ (["len", "abs", "max", "min", "sum", "int", "tuple", "list", "sorted", "range", "isinstance", "all", "any", "str", "reversed"] : List Str)) : Bi X x := by
  have hk : ∀ y ∈ (["len", "abs", "max", "min", "sum", "int", "tuple", "list", "sorted", "range", "isinstance", "all", "any", "str", "reversed"] : List Str), y ≠ "__name__" ∧ (y == ("__debug__" : Str)) = false := by decide +kernel
  exact ⟨h.gl g, h.G.bn x hx, (hk x hx).1, (hk x hx).2⟩
theorem CxOk.vis (h : CxOk S C Φ L X) {x : Str} (g : visB C.sc x = true) : Vis X.env.scope x := by
  rw [h.sc]
  unfold visB at g
  unfold Vis
  split at g
  · rename_i e; exact .inl e
  · rename_i e; exact .inr (.inl e)
  · rename_i e; exact .inr (.inr e)
  · cases g
theorem CxOk.loc (h : CxOk S C Φ L X) {x : Str} (g : locB C x = true) : Loc X.env.scope x ∧ (X.fn x = true ∨ X.env.scope.names.lookup x = some .local) := by
  rw [h.sc, h.fn]
  unfold locB at g
  split at g
  · rename_i e; exact ⟨.inl e, .inr e⟩
  · rename_i e; exact ⟨.inr e, .inl g⟩
  · cases g
theorem CxOk.names (h : CxOk S C Φ L X) : ∀ {es : List PySem.Expr} {is : List Nat}, namesB C es is = true → NamesAt X es is
  | [], [], _ => .nil
  | [], _ :: _, g => by unfold namesB at g; cases g
  | .Name x pos :: es, i :: is, g => by
    unfold namesB at g
    simp only [Bool.and_eq_true] at g
    obtain ⟨⟨g1, g2⟩, g3⟩ := g
    obtain ⟨l1, l2⟩ := h.loc g2
    exact .cons (by rw [h.N]; exact of_decide_eq_true g1) l1 l2 (CxOk.names h g3)
  | .Name x pos :: es, [], g => by unfold namesB at g; cases g
  | .BoolOp _ _ _ :: _, is, g | .NamedExpr _ _ _ :: _, is, g | .BinOp _ _ _ _ :: _, is, g | .UnaryOp _ _ _ :: _, is, g | .Lambda _ _ _ _ :: _, is, g | .IfExp _ _ _ _ :: _, is, g | .Dict _ _ _ :: _, is, g | .Set _ _ _ :: _, is, g | .ListComp _ _ _ _ :: _, is, g | .SetComp _ _ _ _ :: _, is, g
  | .DictComp _ _ _ _ _ :: _, is, g | .GeneratorExp _ _ _ _ :: _, is, g | .Await _ _ :: _, is, g | .Yield _ _ :: _, is, g | .YieldFrom _ _ :: _, is, g | .Compare _ _ _ _ :: _, is, g | .Call _ _ _ _ :: _, is, g | .FormattedValue _ _ _ _ :: _, is, g | .JoinedStr _ _ :: _, is, g
  | .Constant _ _ _ :: _, is, g | .Attribute _ _ _ :: _, is, g | .Subscript _ _ _ :: _, is, g | .Starred _ _ :: _, is, g | .List _ _ :: _, is, g | .Tuple _ _ _ :: _, is, g | .Slice _ _ _ _ :: _, is, g => by
    cases is <;> (unfold namesB at g; cases g)
theorem CxOk.tg (h : CxOk S C Φ L X) {t : Tg} {e : PySem.Expr} (g : tgB C t e = true) : TgAt X e t := by
  unfold tgB at g
  split at g
  · simp only [Bool.and_eq_true] at g
    obtain ⟨l1, l2⟩ := h.loc g.2
    exact .one (by rw [h.N]; exact of_decide_eq_true g.1) l1 l2
  · exact .many (h.names g)
  · cases g
end
/-- what is told of an expression -/
def noIte : Ex → Bool
  | .ite _ _ _ => false
  | .and a b => noIte a && noIte b
  | .or a b => noIte a && noIte b
  | .nt a => noIte a
  | _ => true
structure Snd (S : Stat) (W : WX) (X : Cx) (Φ : Fs) (e : Ex) (x : PySem.Expr) : Prop where
  esc : PM S W .esc X x (ev Φ e) (slx true e)
  bor : PM S W .bor X x (ev Φ e) (slx false e)
  fr : frx e = true → PM S W .fr X x (ev Φ e) (slx true e)
  tst : noIte e = true → PMT S W X x (fun ρ => (ev Φ e ρ).bind asB) (slx false e)
structure SndL (S : Stat) (W : WX) (X : Cx) (Φ : Fs) (e : Ex) (xs : List PySem.Expr) : Prop where
  esc : PML S W .esc X xs (evs Φ e) (slx true e)
  bor : PML S W .bor X xs (evs Φ e) (slx false e)
  kw : ∀ ks, kwVals ks = xs → PMK S W X ks (evs Φ e) (slx true e)
  len : ∀ ρ ds, evs Φ e ρ = .ok ds → ds.length = xs.length
  ns : ∀ y ∈ xs, notStar y = true
  one : ∀ y, xs = [y] → ∃ a, e = .cons a .nil ∧ PM S W .bor X y (ev Φ a) (slx false a)
  two : ∀ y z, xs = [y, z] → ∃ a b, e = .cons a (.cons b .nil) ∧ PM S W .bor X y (ev Φ a) (slx false a) ∧ PM S W .bor X z (ev Φ b) (slx false b)
theorem star_cons {y : PySem.Expr} (h : notStar y = true) (ys : List PySem.Expr) (env : Env) : starEach (y :: ys) env = (false, eval y env) :: starEach ys env := by
  cases y <;> first | rfl | cases h
theorem star_any {env : Env} (pos : Pos) : ∀ {ys : List PySem.Expr}, (∀ y ∈ ys, notStar y = true) → (backTo pos (starEach ys env)).any (·.1) = false
  | [], _ => rfl
  | y :: ys, h => by
    rw [star_cons (h y List.mem_cons_self)]
    show (backTo pos (starEach ys env)).any (·.1) = false
    exact star_any pos fun y hy => h y (List.mem_cons_of_mem _ hy)
section
variable {S : Stat} {W : WX} {X : Cx} {Φ : Fs} {e : Ex} {x y : PySem.Expr} {ys : List PySem.Expr}
theorem SndL.ar (h : SndL S W X Φ e (y :: ys)) (pos : Pos) : Ar X y ys pos := ⟨star_cons (h.ns y List.mem_cons_self) ys X.env, star_any pos fun y hy => h.ns y (List.mem_cons_of_mem _ hy)⟩
/-- a node that is the same in all modes, taken as a value by a test -/
theorem Snd.all {es : List Nat} (h1 : slx true e = es) (h2 : slx false e = es) (h : ∀ md, PM S W md X x (ev Φ e) es) (he : ∀ whole, isTrue x X.env whole = (do let v ← whole; standAt x.pos; holding [v] (truthy v))) : Snd S W X Φ e x :=
  ⟨by rw [h1]; exact h .esc, by rw [h2]; exact h .bor, fun _ => by rw [h1]; exact h .fr, fun _ => by rw [h2]; exact PMT.val (h .bor) he⟩
theorem Snd.allC {es : List Nat} (h1 : slx true e = es) (h2 : slx false e = es) (h : PC S W X x (ev Φ e) es) : Snd S W X Φ e x :=
  ⟨by rw [h1]; exact h.v .esc, by rw [h2]; exact h.v .bor, fun _ => by rw [h1]; exact h.v .fr, fun _ => by rw [h2]; exact h.t⟩
theorem Snd.eb {es : List Nat} (h1 : slx true e = es) (h2 : slx false e = es) (hf : frx e = false) (h : PM S W .esc X x (ev Φ e) es) (he : ∀ whole, isTrue x X.env whole = (do let v ← whole; standAt x.pos; holding [v] (truthy v))) : Snd S W X Φ e x :=
  ⟨by rw [h1]; exact h, by rw [h2]; exact PM.toB h, fun z => (by rw [hf] at z; cases z), fun _ => by rw [h2]; exact PMT.val (PM.toB h) he⟩
end
end PD
/-! Deep: what is told of an expression is so. -/
namespace PD
open PySem PySem.Spec PyProof.Rows L2 GxR
section
variable {S : Stat} {W : WX} {X : Cx} {md m : Md} {a b c : PySem.Expr} {fa fb fc : En → Res D} {ea eb ec : List Nat} {pos p p2 pos2 : Pos}
theorem rgV_reps {F : Addr → Prop} {H : Hp} (i j : Int) : Reps S F H (rngD i 1 (j - i).toNat) (rgV i j) := by
  refine Reps.of_get (by rw [rngD_length, rgV_length]) fun k d v h1 h2 => ?_
  have hk : k < (j - i).toNat := by
    have := (List.getElem?_eq_some_iff.mp h1).1
    rwa [rngD_length] at this
  rw [rngD_get hk] at h1
  cases h1
  unfold rgV at h2
  rw [List.getElem?_map, List.getElem?_range hk] at h2
  cases h2
  rw [Int.mul_one]
  exact Rep.mk_int
theorem pm_tupR (hc : X.calm = true) (Bt : Bi X "tuple") (Br : Bi X "range") (ha : PM S W .bor X a fa ea) (hb : PM S W .bor X b fb eb) (na : starEach [a, b] X.env = (false, eval a X.env) :: starEach [b] X.env) (nb : starEach [b] X.env = (false, eval b X.env) :: starEach [] X.env)
    (hp : (backTo pos2 (starEach [b] X.env)).any (·.1) = false) : PM S W md X (.Call (.Name "tuple" p) [.Call (.Name "range" p2) [a, b] [] pos2] [] pos) (bndL (cons2 fa (cons2 fb fun _ => .ok [])) tupRD) (ea ++ (eb ++ [])) :=
  ⟨fun pins s σ H Q I ⟨ρ, F, E, h⟩ => (pe_tupRg hc Bt.gl Bt.no (prg_2 Br.gl Br.no ha hb na nb hp)).run pins s σ H Q I (by
    refine tM_bind (md := md) (Q := Q) (md' := .bor) (k := fun d => ((fb ρ).bind fun e => .ok [d, e]).bind tupRD) E ?_ (fun dx x H1 e1 E1 r1 _ h1 => tM_bind (md := md) (Q := Q) (md' := .bor) (k := fun e => tupRD [dx, e]) E1 ?_ (fun dy y H2 e2 E2 r2 _ h2 => ?_) (fun i hi => by simp [hi])) (fun i hi => List.mem_append_left _ hi)
    · unfold bndL cons2 at h
      cases q : fa ρ with
      | ok d =>
        rw [q] at h
        cases q2 : fb ρ with
        | ok d' => rw [q2] at h; exact h
        | exc z => rw [q2] at h; exact h
        | bad => rw [q2] at h; exact h
      | exc z => rw [q] at h; exact h
      | bad => rw [q] at h; exact h
    · cases q2 : fb ρ with
      | ok d' => rw [q2] at h1; exact h1
      | exc z => rw [q2] at h1; exact h1
      | bad => rw [q2] at h1; exact h1
    · have r1 : RepT S F H1 dx x := r1
      have r2 : RepT S F H2 dy y := r2
      unfold tupRD rngA rngA2 at h2
      dsimp only at h2
      split at h2
      · rename_i i j heq
        cases heq
        cases r1.int; cases r2.int
        split at h2
        · rename_i hcond
          obtain ⟨c1, c2, c3, c4⟩ := hcond
          have h2 : Post S W F md σ H2 (if (rngD i 1 (j - i).toNat).length ≤ sizeLine then .ok (.tup (rngD i 1 (j - i).toNat)) else .bad) Q := h2
          split at h2
          · rename_i hl
            rw [rngD_length, sizeLine_eq] at hl
            exact ⟨i, j, rfl, rfl, ⟨c1, c2, c3, c4, by omega⟩, fun q hq => h2.newTup E2.gd hq (rgV_reps i j)⟩
          · exact h2.elim
        · exact h2.elim
      · exact h2.elim)⟩
theorem and_asB (fa fb : En → Res D) : (fun ρ => (andV fa fb ρ).bind asB) = andT (fun ρ => (fa ρ).bind asB) (fun ρ => (fb ρ).bind asB) := by
  funext ρ
  show ((fa ρ).bind _).bind asB = ((fa ρ).bind asB).bind _
  cases fa ρ with
  | ok d =>
    show ((asB d).bind _).bind asB = (asB d).bind _
    cases asB d with
    | ok t => cases t <;> rfl
    | exc _ => rfl
    | bad => rfl
  | exc _ => rfl
  | bad => rfl
theorem or_asB (fa fb : En → Res D) : (fun ρ => (orV fa fb ρ).bind asB) = orT (fun ρ => (fa ρ).bind asB) (fun ρ => (fb ρ).bind asB) := by
  funext ρ
  show ((fa ρ).bind _).bind asB = ((fa ρ).bind asB).bind _
  cases fa ρ with
  | ok d =>
    show ((asB d).bind _).bind asB = (asB d).bind _
    cases asB d with
    | ok t => cases t <;> rfl
    | exc _ => rfl
    | bad => rfl
  | exc _ => rfl
  | bad => rfl
theorem not_asB (fa : En → Res D) : (fun ρ => (notV fa ρ).bind asB) = notT (fun ρ => (fa ρ).bind asB) := by
  funext ρ
  show ((fa ρ).bind _).bind asB = ((fa ρ).bind asB).bind _
  cases fa ρ with
  | ok d =>
    show ((asB d).bind _).bind asB = (asB d).bind _
    cases asB d with
    | ok t => rfl
    | exc _ => rfl
    | bad => rfl
  | exc _ => rfl
  | bad => rfl
theorem pim_len {tg e : PySem.Expr} {f g : En → Res (List D)} {es : List Nat} (h : PIM S W X tg e f es) (q : ∀ ρ, f ρ = g ρ) : PIM S W X tg e g es := by
  have : f = g := funext q
  rw [← this]; exact h
end
section
variable {S : Stat} {W : WX} {X : Cx} {Φ : Fs} {C : TC} {L : Nat}
/-- a range that is walked -/
theorem snd_rng {it : Ex} {tg : PySem.Expr} {ys : List PySem.Expr} {p pos : Pos} (ok : CxOk S C Φ L X) (g : glB C.sc "range" = true) (h1 : 1 ≤ ys.length) (h3 : ys.length ≤ 3) (h : SndL S W X Φ it ys) : PIM S W X tg (.Call (.Name "range" p) ys [] pos) (bndI (evs Φ it) rngA) (slx false it) := by
  have B := ok.bi g (by simp)
  match ys, h1, h3, h with
  | [a], _, _, h =>
    refine pim_len (pim_rng1 B h.bor (h.ar pos).st) fun ρ => ?_
    unfold bndI
    cases q : evs Φ it ρ with
    | ok ds =>
      have hl := h.len ρ ds q
      match ds, hl with
      | [d], _ => rfl
    | exc _ => rfl
    | bad => rfl
  | [a, b], _, _, h =>
    refine pim_len (pim_rng2 B h.bor (by rw [(h.ar pos).st, star_cons (h.ns b (by simp)) [] X.env]; rfl) (star_cons (h.ns b (by simp)) [] X.env)) fun ρ => ?_
    unfold bndI
    cases q : evs Φ it ρ with
    | ok ds =>
      have hl := h.len ρ ds q
      match ds, hl with
      | [d, e], _ => rfl
    | exc _ => rfl
    | bad => rfl
  | [a, b, c], _, _, h =>
    refine pim_len (pim_rng3 B h.bor (h.ar pos).st (h.ar pos).pl) fun ρ => ?_
    unfold bndI
    cases q : evs Φ it ρ with
    | ok ds =>
      have hl := h.len ρ ds q
      match ds, hl with
      | [d, e, f], _ => rfl
    | exc _ => rfl
    | bad => rfl
/-- what is walked -/
def itB (C : TC) (k : IK) (it : Ex) (iter : PySem.Expr) : Bool := match k with
  | .seq => tie C it iter && plainIt iter
  | .rng => (match iter with | .Call (.Name g _) ys [] _ => decide (g = ("range" : Str)) && glB C.sc g && decide (1 ≤ ys.length ∧ ys.length ≤ 3) && ties C it ys | _ => false)
def slI (k : IK) (it : Ex) : List Nat := slx (match k with | .seq => true | .rng => false) it
theorem snd_it {k : IK} {it : Ex} {tg iter : PySem.Expr} (ok : CxOk S C Φ L X) (h : itB C k it iter = true) (h1 : ∀ x, tie C it x = true → Snd S W X Φ it x) (h2 : ∀ xs, ties C it xs = true → SndL S W X Φ it xs) : PIM S W X tg iter (evI Φ k it) (slI k it) := by
  cases k with
  | seq =>
    unfold itB at h
    simp only [Bool.and_eq_true] at h
    exact pim_seq ok.K (h1 _ h.1).esc
  | rng =>
    unfold itB at h
    dsimp only at h
    split at h
    · simp only [Bool.and_eq_true, decide_eq_true_eq] at h
      obtain ⟨⟨⟨rfl, g⟩, hl⟩, ht⟩ := h
      exact snd_rng ok g hl.1 hl.2 (h2 _ ht)
    · cases h
theorem it_plain {k : IK} {it : Ex} {iter : PySem.Expr} (h : itB C k it iter = true) (env : Env) : (∀ v, foldedSetIterable iter env v = pure v) ∧ ∀ v, genFold iter env v = pure v := by
  have hp : plainIt iter = true := by
    cases k with
    | seq => unfold itB at h; simp only [Bool.and_eq_true] at h; exact h.2
    | rng =>
      unfold itB at h
      dsimp only at h
      split at h
      · rfl
      · cases h
  constructor <;> intro v <;> cases iter <;> first | rfl | cases hp
theorem ownOf_slots (N : List Str) (vs : List Nat) : (ownOf N vs).map (·.2) = vs := by
  unfold ownOf; rw [List.map_map]; exact List.map_id' vs
theorem genOk_by {N : List Str} {sc scope : Scope} {own : List (Str × Nat)} (h : genB N sc scope own = true) : GenOk N sc scope own := by
  unfold genB at h
  simp only [Bool.and_eq_true, Bool.not_eq_true', List.all_eq_true, decide_eq_true_eq] at h
  obtain ⟨⟨⟨⟨h1, h2⟩, h3⟩, h4⟩, h5⟩ := h
  refine { toBlkOk := blkOk_by h1, co := h2, cell := fun y hy z => ?_, dot := h4, ndot := fun z => ?_ }
  · have := h3 y hy
    rw [z] at this; cases this
  · have : N.contains ".0" = true := by simpa using z
    rw [this] at h5; cases h5
end
end PD
/-! Deep: what is told of an expression is so. -/
namespace PD
open PySem PySem.Spec PyProof.Rows L2 GxR
section
variable {S : Stat} {Φ : Fs} {L : Nat}
def SndE (S : Stat) (Φ : Fs) (L : Nat) (e : Ex) : Prop := ∀ (x : PySem.Expr) (C : TC) (X : Cx) (W : WX), CxOk S C Φ L X → Takes X W → tie C e x = true → Snd S W X Φ e x
def SndA (S : Stat) (Φ : Fs) (L : Nat) (e : Ex) : Prop := ∀ (xs : List PySem.Expr) (C : TC) (X : Cx) (W : WX), CxOk S C Φ L X → Takes X W → ties C e xs = true → SndL S W X Φ e xs
theorem kwVals_nil {ks : List Keyword} (h : kwVals ks = []) : ks = [] := by
  cases ks with
  | nil => rfl
  | cons k r => unfold kwVals at h; cases h
theorem kwVals_cons {ks : List Keyword} {x : PySem.Expr} {xs : List PySem.Expr} (h : kwVals ks = x :: xs) : ∃ nm kp r, ks = ⟨nm, x, kp⟩ :: r ∧ kwVals r = xs := by
  cases ks with
  | nil => unfold kwVals at h; cases h
  | cons k r =>
    unfold kwVals at h
    obtain ⟨nm, v, kp⟩ := k
    cases h
    exact ⟨nm, kp, r, rfl, rfl⟩
theorem snd_nilL : SndA S Φ L .nil := by
  intro xs C X W ok tk h
  cases xs with
  | cons x xs => unfold ties at h; cases h
  | nil =>
    have e : evs Φ .nil = fun _ => .ok [] := by unfold evs; rfl
    have s1 : slx true .nil = [] := rfl
    have s2 : slx false .nil = [] := rfl
    refine ⟨by rw [e]; exact pml_nil, by rw [e]; exact pml_nil, fun ks hk => ?_, fun ρ ds hd => ?_, fun y hy => (by cases hy), fun y hy => (by cases hy), fun y z hy => (by cases hy)⟩
    · rw [kwVals_nil hk, e]; exact pmk_nil
    · rw [e] at hd; cases hd; rfl
theorem snd_consL {a r : Ex} (ha : SndE S Φ L a) (hr : SndA S Φ L r) : SndA S Φ L (.cons a r) := by
  intro xs C X W ok tk h
  cases xs with
  | nil => unfold ties at h; cases h
  | cons x xs =>
    unfold ties at h
    simp only [Bool.and_eq_true] at h
    obtain ⟨⟨n, h1⟩, h2⟩ := h
    have A := ha x C X W ok tk h1
    have R := hr xs C X W ok tk h2
    have e : evs Φ (.cons a r) = cons2 (ev Φ a) (evs Φ r) := by rw [evs]
    have s : ∀ m, slx m (.cons a r) = slx m a ++ slx m r := fun m => by cases m <;> rfl
    refine ⟨by rw [e, s]; exact pml_cons (fun z => nomatch z) A.esc R.esc (star_cons n xs X.env), by rw [e, s]; exact pml_cons (fun z => nomatch z) A.bor R.bor (star_cons n xs X.env), fun ks hk => ?_, fun ρ ds hd => ?_, fun y hy => ?_, fun y hy => ?_, fun y z hy => ?_⟩
    · obtain ⟨nm, kp, r', rfl, hk'⟩ := kwVals_cons hk
      rw [e, s]
      exact pmk_cons A.esc (R.kw r' hk')
    · rw [e] at hd
      unfold cons2 at hd
      obtain ⟨d, h1, hd⟩ := bind_ok hd
      obtain ⟨ds', h2, hd⟩ := bind_ok hd
      cases hd
      simp [R.len ρ ds' h2]
    · rcases List.mem_cons.mp hy with rfl | hy
      · exact n
      · exact R.ns y hy
    · cases hy
      have : r = .nil := by
        cases r <;> first | rfl | (unfold ties at h2; cases h2)
      subst this
      exact ⟨a, rfl, A.bor⟩
    · cases hy
      obtain ⟨b, rfl, hb⟩ := R.one z rfl
      exact ⟨a, b, rfl, A.bor, hb⟩
theorem snd_bin {o : Bop} {a b : Ex} (ha : SndE S Φ L a) (hb : SndE S Φ L b) : SndE S Φ L (.bin o a b) := by
  intro x C X W ok tk h
  cases x <;> try exact absurd h Bool.false_ne_true
  rename_i l op r pos
  have h : (binB o op && tie C a l && tie C b r) = true := h
  simp only [Bool.and_eq_true] at h
  obtain ⟨⟨ho, h1⟩, h2⟩ := h
  have A := (ha _ C X W ok tk h1).bor
  have B := (hb _ C X W ok tk h2).bor
  have hu := ok.hu
  refine Snd.all rfl rfl (fun md => ?_) fun _ => rfl
  rw [ev]
  cases o <;> cases op <;> first | (cases ho; done) | skip
  · exact pm_add ok.K A B
  · exact pm_sub A B
  · exact pm_mul ok.K A B
  · exact pm_fdiv A B
  · exact pm_mod A B
  · exact pm_pow A B
theorem snd_var {i : Nat} : SndE S Φ L (.var i) := by
  intro x C X W ok tk h
  cases x <;> try exact absurd h Bool.false_ne_true
  rename_i nm pos
  have h : (decide (C.N[i]? = some nm) && visB C.sc nm && ndB nm) = true := h
  simp only [Bool.and_eq_true, decide_eq_true_eq] at h
  obtain ⟨⟨h1, h2⟩, h3⟩ := h
  unfold ndB at h3
  simp only [Bool.and_eq_true, Bool.not_eq_true'] at h3
  have hN : X.N[i]? = some nm := by rw [ok.N]; exact h1
  have b := pm_varB (S := S) (W := W) (pos := pos) hN (ok.vis h2) h3.1 h3.2
  exact ⟨pm_var hN (ok.vis h2) h3.1 h3.2, b, (fun z => nomatch z), fun _ => PMT.val b fun _ => rfl⟩
theorem snd_int {i : Int} : SndE S Φ L (.int i) := by
  intro x C X W ok tk h
  cases x <;> try exact absurd h Bool.false_ne_true
  rename_i c k pos
  cases c <;> try exact absurd h Bool.false_ne_true
  rename_i j
  have h : decide (i = j) = true := h
  cases of_decide_eq_true h
  exact Snd.all rfl rfl (fun md => pm_int) fun _ => rfl
theorem snd_bl {b : Bool} : SndE S Φ L (.bl b) := by
  intro x C X W ok tk h
  cases x <;> try exact absurd h Bool.false_ne_true
  rename_i c k pos
  cases c <;> try exact absurd h Bool.false_ne_true
  rename_i j
  have h : (b == j) = true := h
  cases eq_of_beq h
  exact Snd.all rfl rfl (fun md => pm_bl) fun _ => rfl
theorem snd_non : SndE S Φ L .non := by
  intro x C X W ok tk h
  cases x <;> try exact absurd h Bool.false_ne_true
  rename_i c k pos
  cases c <;> try exact absurd h Bool.false_ne_true
  exact Snd.all rfl rfl (fun md => pm_non) fun _ => rfl
theorem snd_str {y : Str} : SndE S Φ L (.str y) := by
  intro x C X W ok tk h
  cases x <;> try exact absurd h Bool.false_ne_true
  rename_i c k pos
  cases c <;> try exact absurd h Bool.false_ne_true
  rename_i z
  have h : (decide (y = z) && PyData.strOk y) = true := h
  simp only [Bool.and_eq_true, decide_eq_true_eq] at h
  obtain ⟨rfl, h2⟩ := h
  exact Snd.all rfl rfl (fun md => pm_str h2) fun _ => rfl
theorem snd_gint {y : Str} {i : Int} : SndE S Φ L (.gint y i) := by
  intro x C X W ok tk h
  cases x <;> try exact absurd h Bool.false_ne_true
  rename_i nm pos
  have h : (decide (y = nm) && C.gi.contains (y, i) && glB C.sc y && ndB y) = true := h
  simp only [Bool.and_eq_true, decide_eq_true_eq] at h
  obtain ⟨⟨⟨rfl, h2⟩, h3⟩, h4⟩ := h
  unfold ndB at h4
  simp only [Bool.and_eq_true, Bool.not_eq_true'] at h4
  obtain ⟨t, ht⟩ := ok.G.gi y i (by simpa using h2)
  exact Snd.all rfl rfl (fun md => pm_gint (ok.gl h3) ht h4.1) fun _ => rfl
theorem snd_cmp {o : Cop} {a b : Ex} (ha : SndE S Φ L a) (hb : SndE S Φ L b) : SndE S Φ L (.cmp o a b) := by
  intro x C X W ok tk h
  cases x <;> try exact absurd h Bool.false_ne_true
  rename_i l ops cs pos
  rcases ops with _ | ⟨op, _ | ⟨op2, ops⟩⟩ <;> try exact absurd h Bool.false_ne_true
  rcases cs with _ | ⟨r, _ | ⟨r2, cs⟩⟩ <;> try exact absurd h Bool.false_ne_true
  have h : (cmpB o op && tie C a l && tie C b r && notSet r) = true := h
  simp only [Bool.and_eq_true] at h
  obtain ⟨⟨⟨ho, h1⟩, h2⟩, h3⟩ := h
  have A := (ha _ C X W ok tk h1).bor
  have B := (hb _ C X W ok tk h2).bor
  have hu := ok.hu
  have mk : ∀ op, behindInMarks op r = false := fun op => by
    cases r <;> first | rfl | cases h3
  refine Snd.allC (es := slx false a ++ slx false b) rfl rfl ?_
  rw [ev]
  cases o <;> cases op <;> first | (cases ho; done) | skip
  · exact pc_eq ok.K (by omega) A B
  · exact pc_ne ok.K (by omega) A B
  · exact pc_lt ok.K (by omega) A B
  · exact pc_le A B
  · exact pc_gt A B
  · exact pc_ge A B
  · exact pc_in ok.K (by omega) A B (mk _)
  · exact pc_nin ok.K (by omega) A B (mk _)
  · exact pc_is A B
  · exact pc_isnot A B
theorem snd_chn {o o' : Iop} {a b c : Ex} (ha : SndE S Φ L a) (hb : SndE S Φ L b) (hc : SndE S Φ L c) : SndE S Φ L (.chn o o' a b c) := by
  intro x C X W ok tk h
  cases x <;> try exact absurd h Bool.false_ne_true
  rename_i l ops cs pos
  rcases ops with _ | ⟨op, _ | ⟨op2, _ | ⟨op3, ops⟩⟩⟩ <;> try exact absurd h Bool.false_ne_true
  rcases cs with _ | ⟨r, _ | ⟨r2, _ | ⟨r3, cs⟩⟩⟩ <;> try exact absurd h Bool.false_ne_true
  have h : (iopB o op && iopB o' op2 && tie C a l && tie C b r && tie C c r2) = true := h
  simp only [Bool.and_eq_true] at h
  obtain ⟨⟨⟨⟨ho, ho'⟩, h1⟩, h2⟩, h3⟩ := h
  have A := (ha _ C X W ok tk h1).bor
  have B := (hb _ C X W ok tk h2).bor
  have D := (hc _ C X W ok tk h3).bor
  refine Snd.allC (es := slx false a ++ (slx false b ++ slx false c)) rfl rfl ?_
  rw [ev]
  cases o <;> cases op <;> (try (cases ho; done)) <;> cases o' <;> cases op2 <;> (try (cases ho'; done))
  · exact pc_chain op_lt op_lt (fun _ _ => rfl) iLt_bad (fun _ _ => rfl) iLt_bad (by show behindInMarks _ r2 = false; exact nomark r2) A B D
  · exact pc_chain op_lt op_le (fun _ _ => rfl) iLt_bad (fun _ _ => rfl) leD_bad (by show behindInMarks _ r2 = false; exact nomark r2) A B D
  · exact pc_chain op_le op_lt (fun _ _ => rfl) leD_bad (fun _ _ => rfl) iLt_bad (by show behindInMarks _ r2 = false; exact nomark r2) A B D
  · exact pc_chain op_le op_le (fun _ _ => rfl) leD_bad (fun _ _ => rfl) leD_bad (by show behindInMarks _ r2 = false; exact nomark r2) A B D
theorem snd_neg {a : Ex} (ha : SndE S Φ L a) : SndE S Φ L (.neg a) := by
  intro x C X W ok tk h
  cases x <;> try exact absurd h Bool.false_ne_true
  rename_i op l pos
  cases op <;> try exact absurd h Bool.false_ne_true
  have A := (ha _ C X W ok tk h).bor
  refine Snd.all (es := slx false a) rfl rfl (fun md => ?_) fun _ => rfl
  rw [ev]
  exact pm_neg A
theorem snd_nt {a : Ex} (ha : SndE S Φ L a) : SndE S Φ L (.nt a) := by
  intro x C X W ok tk h
  cases x <;> try exact absurd h Bool.false_ne_true
  rename_i op l pos
  cases op <;> try exact absurd h Bool.false_ne_true
  have A := ha _ C X W ok tk h
  have e : ev Φ (.nt a) = notV (ev Φ a) := by rw [ev]
  refine ⟨by rw [e]; exact pm_not A.bor, by rw [e]; exact pm_not A.bor, fun _ => by rw [e]; exact pm_not A.bor, fun hn => ?_⟩
  rw [e, not_asB]
  exact PMT.not (A.tst hn)
def restE (op : BoolOp) (z : PySem.Expr) (r : List PySem.Expr) (pos : Pos) : PySem.Expr := match r with
  | [] => z
  | _ => .BoolOp op (z :: r) pos
theorem pw_bool {op : BoolOp} {vs : List PySem.Expr} {pos : Pos} {X : Cx} {t : TT} (h : PT X (.BoolOp op vs pos) t) : PW X (.BoolOp op vs pos) t := ⟨fun _ => h.run⟩
theorem snd_and {a b : Ex} (ha : SndE S Φ L a) (hb : SndE S Φ L b) : SndE S Φ L (.and a b) := by
  intro x C X W ok tk h
  cases x <;> try exact absurd h Bool.false_ne_true
  rename_i op vs pos
  cases op <;> try exact absurd h Bool.false_ne_true
  rcases vs with _ | ⟨y, _ | ⟨z, r⟩⟩ <;> try exact absurd h Bool.false_ne_true
  have e : ev Φ (.and a b) = andV (ev Φ a) (ev Φ b) := by rw [ev]
  have s : ∀ m, slx m (.and a b) = slx false a ++ slx m b := fun m => by cases m <;> rfl
  have h : (tie C a y && tie C b (restE .And z r pos)) = true := h
  simp only [Bool.and_eq_true] at h
  obtain ⟨h1, h2⟩ := h
  have A := ha _ C X W ok tk h1
  have B := hb _ C X W ok tk h2
  have key : (∀ md m, PM S W md X (restE .And z r pos) (ev Φ b) m → PM S W md X (.BoolOp .And (z :: r) pos) (ev Φ b) m) ∧
      (∀ f m, PMT S W X (restE .And z r pos) f m → PMW S W X (.BoolOp .And (z :: r) pos) f m) := by
    cases r with
    | nil => exact ⟨fun md m hm => pm_one hm, fun f m hm => PMW.one hm⟩
    | cons _ _ => exact ⟨fun md m hm => hm, fun f m hm => pw_bool hm⟩
  refine ⟨by rw [e, s]; exact pm_and A.bor (key.1 _ _ B.esc), by rw [e, s]; exact pm_and A.bor (key.1 _ _ B.bor), fun hf => by rw [e, s]; exact pm_and A.bor (key.1 _ _ (B.fr hf)), fun hn => ?_⟩
  have hn : (noIte a && noIte b) = true := hn
  simp only [Bool.and_eq_true] at hn
  rw [e, and_asB, s]
  exact (PMW.and (A.tst hn.1) (key.2 _ _ (B.tst hn.2))).pt
theorem snd_or {a b : Ex} (ha : SndE S Φ L a) (hb : SndE S Φ L b) : SndE S Φ L (.or a b) := by
  intro x C X W ok tk h
  cases x <;> try exact absurd h Bool.false_ne_true
  rename_i op vs pos
  cases op <;> try exact absurd h Bool.false_ne_true
  rcases vs with _ | ⟨y, _ | ⟨z, r⟩⟩ <;> try exact absurd h Bool.false_ne_true
  have e : ev Φ (.or a b) = orV (ev Φ a) (ev Φ b) := by rw [ev]
  have s : ∀ m, slx m (.or a b) = slx false a ++ slx m b := fun m => by cases m <;> rfl
  have h : (tie C a y && tie C b (restE .Or z r pos)) = true := h
  simp only [Bool.and_eq_true] at h
  obtain ⟨h1, h2⟩ := h
  have A := ha _ C X W ok tk h1
  have B := hb _ C X W ok tk h2
  have key : (∀ md m, PM S W md X (restE .Or z r pos) (ev Φ b) m → PM S W md X (.BoolOp .Or (z :: r) pos) (ev Φ b) m) ∧
      (∀ f m, PMT S W X (restE .Or z r pos) f m → PMW S W X (.BoolOp .Or (z :: r) pos) f m) := by
    cases r with
    | nil => exact ⟨fun md m hm => pm_one hm, fun f m hm => PMW.one hm⟩
    | cons _ _ => exact ⟨fun md m hm => hm, fun f m hm => pw_bool hm⟩
  refine ⟨by rw [e, s]; exact pm_or A.bor (key.1 _ _ B.esc), by rw [e, s]; exact pm_or A.bor (key.1 _ _ B.bor), fun hf => by rw [e, s]; exact pm_or A.bor (key.1 _ _ (B.fr hf)), fun hn => ?_⟩
  have hn : (noIte a && noIte b) = true := hn
  simp only [Bool.and_eq_true] at hn
  rw [e, or_asB, s]
  exact (PMW.or (A.tst hn.1) (key.2 _ _ (B.tst hn.2))).pt
end
end PD
/-! Deep: what is told of an expression is so, the other nodes. -/
namespace PD
open PySem PySem.Spec PyProof.Rows L2 GxR
section
variable {S : Stat} {Φ : Fs} {L : Nat}
theorem snd_ite {c a b : Ex} (hc : SndE S Φ L c) (ha : SndE S Φ L a) (hb : SndE S Φ L b) (hn : noIte c = true) : SndE S Φ L (.ite c a b) := by
  intro x C X W ok tk h
  cases x <;> try exact absurd h Bool.false_ne_true
  rename_i c' a' b' pos
  have h : (tie C c c' && tie C a a' && tie C b b') = true := h
  simp only [Bool.and_eq_true] at h
  obtain ⟨⟨h1, h2⟩, h3⟩ := h
  have T := (hc _ C X W ok tk h1).tst hn
  have A := ha _ C X W ok tk h2
  have B := hb _ C X W ok tk h3
  have e : ev Φ (.ite c a b) = iteF (fun ρ => (ev Φ c ρ).bind asB) (ev Φ a) (ev Φ b) := by rw [ev]
  have s : ∀ m, slx m (.ite c a b) = slx false c ++ (slx m a ++ slx m b) := fun m => by cases m <;> rfl
  refine ⟨by rw [e, s]; exact pm_if T A.esc B.esc, by rw [e, s]; exact pm_if T A.bor B.bor, fun hf => ?_, fun hz => nomatch hz⟩
  have hf : (frx a && frx b) = true := hf
  simp only [Bool.and_eq_true] at hf
  rw [e, s]
  exact pm_if T (A.fr hf.1) (B.fr hf.2)
theorem snd_tup {es : Ex} (ha : SndA S Φ L es) : SndE S Φ L (.tup es) := by
  intro x C X W ok tk h
  cases x <;> try exact absurd h Bool.false_ne_true
  have A := ha _ C X W ok tk h
  refine Snd.all (es := slx true es) rfl rfl (fun md => ?_) fun _ => rfl
  rw [ev]
  exact pm_tup A.esc
theorem snd_lst {es : Ex} (ha : SndA S Φ L es) : SndE S Φ L (.lst es) := by
  intro x C X W ok tk h
  cases x <;> try exact absurd h Bool.false_ne_true
  have A := ha _ C X W ok tk h
  refine Snd.all (es := slx true es) rfl rfl (fun md => ?_) fun _ => rfl
  rw [ev]
  exact pm_lst A.esc
theorem snd_dic0 : SndE S Φ L .dic0 := by
  intro x C X W ok tk h
  cases x <;> try exact absurd h Bool.false_ne_true
  rename_i ks vs pos
  rcases ks with _ | ⟨k, ks⟩ <;> rcases vs with _ | ⟨v, vs⟩ <;> try exact absurd h Bool.false_ne_true
  refine Snd.all (es := []) rfl rfl (fun md => ?_) fun _ => rfl
  rw [ev]
  exact pm_dic0
theorem plainIx_by {b : PySem.Expr} (h : plainIxB b = true) : PlainIx b := by
  intro o i
  cases b <;> first | rfl | cases h
theorem snd_ix {a b : Ex} (ha : SndE S Φ L a) (hb : SndE S Φ L b) : SndE S Φ L (.ix a b) := by
  intro x C X W ok tk h
  cases x <;> try exact absurd h Bool.false_ne_true
  rename_i l r pos
  have h : (tie C a l && tie C b r && plainIxB r) = true := h
  simp only [Bool.and_eq_true] at h
  obtain ⟨⟨h1, h2⟩, h3⟩ := h
  have A := (ha _ C X W ok tk h1).bor
  have B := (hb _ C X W ok tk h2).bor
  have hu := ok.hu
  have e : ev Φ (.ix a b) = bnd2 (ev Φ a) (ev Φ b) ixD := by rw [ev]
  have k : ∀ md, md ≠ .fr → PM S W md X (.Subscript l r pos) (ev Φ (.ix a b)) (slx false a ++ slx false b) := fun md hm => by
    rw [e]; exact pm_ix hm ok.K (by omega) A B (plainIx_by h3)
  exact ⟨k .esc (fun z => nomatch z), k .bor (fun z => nomatch z), (fun z => nomatch z), fun _ => PMT.val (k .bor (fun z => nomatch z)) fun _ => rfl⟩
def partB (C : TC) (lo : Ex) (l : Option PySem.Expr) : Bool := match l with
  | none => lo.isNil
  | some l => !lo.isNil && tie C lo l
theorem part_by {W : WX} {X : Cx} {C : TC} {lo : Ex} {l : Option PySem.Expr} (ok : CxOk S C Φ L X) (tk : Takes X W) (ha : SndE S Φ L lo) (h : partB C lo l = true) : PPart S W X l (evO Φ lo) (slx false lo) := by
  cases l with
  | none =>
    have h : lo.isNil = true := h
    cases lo <;> first | exact PPart.no | cases h
  | some x =>
    have h : (!lo.isNil && tie C lo x) = true := h
    simp only [Bool.and_eq_true, Bool.not_eq_true'] at h
    have A := (ha _ C X W ok tk h.2).bor
    have e : evO Φ lo = fun ρ => (ev Φ lo ρ).bind fun d => match d with | .int i => .ok (some i) | _ => .bad := by
      funext ρ
      show (if lo.isNil then _ else _) = _
      rw [h.1, if_neg Bool.false_ne_true]
      congr 1
    rw [e]
    exact PPart.yes A
theorem snd_sl {a lo hi : Ex} (ha : SndE S Φ L a) (hl : SndE S Φ L lo) (hh : SndE S Φ L hi) : SndE S Φ L (.sl a lo hi) := by
  intro x C X W ok tk h
  cases x <;> try exact absurd h Bool.false_ne_true
  rename_i x r pos
  cases r <;> try exact absurd h Bool.false_ne_true
  rename_i l u st p
  cases st <;> try exact absurd h Bool.false_ne_true
  have h : (tie C a x && partB C lo l && partB C hi u) = true := h
  simp only [Bool.and_eq_true] at h
  obtain ⟨⟨h1, h2⟩, h3⟩ := h
  have A := (ha _ C X W ok tk h1).bor
  refine Snd.all (es := slx false a ++ (slx false lo ++ slx false hi)) rfl rfl (fun md => ?_) fun _ => rfl
  rw [ev]
  exact pm_slice ok.K A (part_by ok tk hl h2) (part_by ok tk hh h3)
theorem base_by {a : PySem.Expr} (h : notCall a = true) (nm : Str) (env : Env) (w : Sem Value) : attributeBase a nm env w = w := by
  cases a <;> first | rfl | cases h
theorem snd_fld {c k : Nat} {a : Ex} (ha : SndE S Φ L a) : SndE S Φ L (.fld c k a) := by
  intro x C X W ok tk h
  cases x <;> try exact absurd h Bool.false_ne_true
  rename_i x nm pos
  have h : (C.cls.contains c && decide ((C.fN c)[k]? = some nm) && tie C a x && notCall x) = true := h
  simp only [Bool.and_eq_true, decide_eq_true_eq] at h
  obtain ⟨⟨⟨h1, h2⟩, h3⟩, h4⟩ := h
  have A := (ha _ C X W ok tk h3).bor
  have K := ok.G.cls c (by simpa using h1)
  have h2' : (S.fN c)[k]? = some nm := by rw [ok.G.fN]; exact h2
  have key : ∀ md, md ≠ .fr → PM S W md X (.Attribute x nm pos) (ev Φ (.fld c k a)) (slx false a) := fun md hm => by
    rw [ev]; exact pm_fld hm ok.K K h2' A (base_by h4 _ _ _)
  exact ⟨key .esc (fun z => nomatch z), key .bor (fun z => nomatch z), (fun z => nomatch z), fun _ => PMT.val (key .bor (fun z => nomatch z)) fun _ => rfl⟩
theorem snd_bi {f : Bfn} {es : Ex} (ha : SndA S Φ L es) : SndE S Φ L (.bi f es) := by
  intro x C X W ok tk h
  cases x <;> try exact absurd h Bool.false_ne_true
  rename_i fn args kws pos
  cases fn <;> try exact absurd h Bool.false_ne_true
  rename_i nm p
  rcases args with _ | ⟨y, ys⟩ <;> try exact absurd h Bool.false_ne_true
  rcases kws with _ | ⟨k, kws⟩ <;> try exact absurd h Bool.false_ne_true
  have h : (decide (nm = f.nm) && glB C.sc nm && ties C es (y :: ys)) = true := h
  simp only [Bool.and_eq_true, decide_eq_true_eq] at h
  obtain ⟨⟨rfl, h2⟩, h3⟩ := h
  have A := ha _ C X W ok tk h3
  have hu := ok.hu
  refine Snd.all (es := slx false es) rfl rfl (fun md => ?_) fun _ => rfl
  rw [ev]
  cases f
  · exact pm_len ok.K (ok.bi h2 (by simp [Bfn.nm])) (A.ar pos) A.bor
  · exact pm_abs (ok.bi h2 (by simp [Bfn.nm])) (A.ar pos) (by rfl) A.bor
  · exact pm_max ok.calm (ok.bi h2 (by simp [Bfn.nm])) (A.ar pos) (by rfl) A.bor
  · exact pm_min ok.calm (ok.bi h2 (by simp [Bfn.nm])) (A.ar pos) (by rfl) A.bor
  · exact pm_sum ok.K ok.calm (ok.bi h2 (by simp [Bfn.nm])) (A.ar pos) (by rfl) A.bor
  · exact pm_intc (ok.bi h2 (by simp [Bfn.nm])) (A.ar pos) (by rfl) A.bor
  · exact pm_tuple ok.K (ok.bi h2 (by simp [Bfn.nm])) (A.ar pos) (by rfl) A.bor
  · exact pm_list ok.K (ok.bi h2 (by simp [Bfn.nm])) (A.ar pos) (by rfl) A.bor
  · exact pm_sorted ok.K (by omega) (ok.bi h2 (by simp [Bfn.nm])) (A.ar pos) (by rfl) A.bor
end
end PD
/-! Deep: calls, comprehensions. -/
namespace PD
open PySem PySem.Spec PyProof.Rows L2 GxR
section
variable {S : Stat} {Φ : Fs} {L : Nat}
theorem snd_isi {t : Ty} {a : Ex} (ha : SndE S Φ L a) : SndE S Φ L (.isi t a) := by
  intro x C X W ok tk h
  cases x <;> try exact absurd h Bool.false_ne_true
  rename_i fn args kws pos
  cases fn <;> try exact absurd h Bool.false_ne_true
  rename_i g p
  rcases args with _ | ⟨y, _ | ⟨z, _ | ⟨z2, ys⟩⟩⟩ <;> try exact absurd h Bool.false_ne_true
  rotate_left
  · cases z <;> exact absurd h Bool.false_ne_true
  cases z <;> try exact absurd h Bool.false_ne_true
  rename_i tn pt
  rcases kws with _ | ⟨k, kws⟩ <;> try exact absurd h Bool.false_ne_true
  have h : (decide (g = ("isinstance" : Str)) && decide (tn = t.st) && glB C.sc g && glB C.sc tn && tie C a y && notStar y) = true := h
  simp only [Bool.and_eq_true, decide_eq_true_eq] at h
  obtain ⟨⟨⟨⟨⟨rfl, rfl⟩, h3⟩, h4⟩, h5⟩, h6⟩ := h
  have A := (ha _ C X W ok tk h5).bor
  refine Snd.all (es := slx false a) rfl rfl (fun md => ?_) fun _ => rfl
  rw [ev]
  have hm : t.st ∈ (["len", "abs", "max", "min", "sum", "int", "tuple", "list", "sorted", "range", "isinstance", "all", "any", "str", "reversed"] : List Str) := by cases t <;> simp [Ty.st]
  have hv : bootBuiltins t.st = some (.type t.nm) := by cases t <;> rfl
  exact pm_isi ok.K (ok.bi h3 (by simp)) (ok.bi h4 hm) hv ⟨star_cons h6 _ _, rfl⟩ rfl A
theorem snd_isc {c : Nat} {a : Ex} (ha : SndE S Φ L a) : SndE S Φ L (.isc c a) := by
  intro x C X W ok tk h
  cases x <;> try exact absurd h Bool.false_ne_true
  rename_i fn args kws pos
  cases fn <;> try exact absurd h Bool.false_ne_true
  rename_i g p
  rcases args with _ | ⟨y, _ | ⟨z, _ | ⟨z2, ys⟩⟩⟩ <;> try exact absurd h Bool.false_ne_true
  rotate_left
  · cases z <;> exact absurd h Bool.false_ne_true
  cases z <;> try exact absurd h Bool.false_ne_true
  rename_i tn pt
  rcases kws with _ | ⟨k, kws⟩ <;> try exact absurd h Bool.false_ne_true
  have h : (decide (g = ("isinstance" : Str)) && C.isc.contains (tn, c) && glB C.sc g && glB C.sc tn && ndB tn && tie C a y && notStar y) = true := h
  simp only [Bool.and_eq_true, decide_eq_true_eq] at h
  obtain ⟨⟨⟨⟨⟨⟨rfl, h2⟩, h3⟩, h4⟩, h4'⟩, h5⟩, h6⟩ := h
  have A := (ha _ C X W ok tk h5).bor
  obtain ⟨k1, k2, k3⟩ := ok.G.isc tn c (by simpa using h2)
  unfold ndB at h4'
  simp only [Bool.and_eq_true, Bool.not_eq_true'] at h4'
  refine Snd.all (es := slx false a) rfl rfl (fun md => ?_) fun _ => rfl
  rw [ev]
  exact pm_isiC ok.K k1 k2 (ok.bi h3 (by simp)) (ok.gl h4) k3 h4'.1 ⟨star_cons h6 _ _, rfl⟩ rfl A
theorem CxOk.rm {C : TC} {X : Cx} (ok : CxOk S C Φ L X) : Room (L + 1) X.A := ok.room.mono (Nat.le_add_right _ _)
theorem snd_call {j : Nat} {es : Ex} (ha : SndA S Φ L es) : SndE S Φ L (.call j es) := by
  intro x C X W ok tk h
  cases x <;> try exact absurd h Bool.false_ne_true
  rename_i fn args kws pos
  cases fn <;> try exact absurd h Bool.false_ne_true
  rename_i nm p
  rcases args with _ | ⟨y, ys⟩ <;> try exact absurd h Bool.false_ne_true
  rcases kws with _ | ⟨k, kws⟩ <;> try exact absurd h Bool.false_ne_true
  have h : (decide (C.fns[j]? = some (nm, ys.length + 1)) && glB C.sc nm && ndB nm && ties C es (y :: ys)) = true := h
  simp only [Bool.and_eq_true, decide_eq_true_eq] at h
  obtain ⟨⟨⟨h1, h2⟩, h3⟩, h4⟩ := h
  unfold ndB at h3
  simp only [Bool.and_eq_true, Bool.not_eq_true'] at h3
  have A := ha _ C X W ok tk h4
  refine Snd.eb (es := slx true es) rfl rfl rfl ?_ fun _ => rfl
  rw [ev]
  exact pm_call ok.K (ok.G.fns j nm _ h1) tk (ok.rm.mono (Nat.le_succ _)) (ok.gl h2) h3.1 (A.ar pos) A.esc rfl fun ρ ds hd => A.len ρ ds hd
theorem snd_make {j c : Nat} {es kws : Ex} (ha : SndA S Φ L es) (hk : SndA S Φ L kws) : SndE S Φ L (.make j c es kws) := by
  intro x C X W ok tk h
  cases x <;> try exact absurd h Bool.false_ne_true
  rename_i fn args ks pos
  cases fn <;> try exact absurd h Bool.false_ne_true
  rename_i nm p
  rcases args with _ | ⟨y, ys⟩ <;> try exact absurd h Bool.false_ne_true
  have h : (decide (C.mks[j]? = some (nm, c, ys.length + 1, (kwNames ks).map (·.getD ""))) && (kwNames ks).all (·.isSome) && glB C.sc nm && ndB nm && ties C es (y :: ys) && ties C kws (kwVals ks)) = true := h
  simp only [Bool.and_eq_true, decide_eq_true_eq] at h
  obtain ⟨⟨⟨⟨⟨h1, h2⟩, h3⟩, h4⟩, h5⟩, h6⟩ := h
  unfold ndB at h4
  simp only [Bool.and_eq_true, Bool.not_eq_true'] at h4
  have A := ha _ C X W ok tk h5
  have B := hk _ C X W ok tk h6
  have e1 : ∀ ks : List Keyword, (backToKw pos (keywordEach ks X.env)).map (·.1) = kwNames ks := by
    intro ks
    induction ks with
    | nil => rfl
    | cons k r ih =>
      obtain ⟨a, b, c⟩ := k
      show a :: (backToKw pos (keywordEach r X.env)).map (·.1) = a :: kwNames r
      rw [ih]
  have e2 : ∀ ks : List Keyword, (kwNames ks).length = (kwVals ks).length := by
    intro ks
    induction ks with
    | nil => rfl
    | cons k r ih => exact congrArg Nat.succ ih
  have hall : (backToKw pos (keywordEach ks X.env)).all (·.1.isSome) = true := by
    have := e1 ks
    rw [← this, List.all_map] at h2
    exact h2
  have hany : (backToKw pos (keywordEach ks X.env)).any (·.1.isNone) = false := by
    rw [List.any_eq_false]
    intro q hq
    rw [List.all_eq_true] at hall
    have := hall q hq
    cases hq1 : q.1 with
    | none => rw [hq1] at this; cases this
    | some _ => simp
  have hks : (backToKw pos (keywordEach ks X.env)).filterMap (·.1) = (kwNames ks).map (·.getD "") := by
    rw [← e1 ks] at h2 ⊢
    generalize backToKw pos (keywordEach ks X.env) = l at h2
    induction l with
    | nil => rfl
    | cons q r ih =>
      rw [List.map_cons, List.all_cons, Bool.and_eq_true] at h2
      obtain ⟨q1, q2⟩ := q
      cases q1 with
      | none => cases h2.1
      | some n =>
        show n :: r.filterMap (·.1) = n :: _
        rw [ih h2.2]
  refine Snd.eb (es := slx true es ++ slx true kws) rfl rfl rfl ?_ fun _ => rfl
  rw [ev]
  refine pm_make ok.K (ok.G.mks j nm c _ _ h1) tk ok.rm (ok.gl h3) h4.1 A.esc (B.kw ks rfl) (fun ρ ds hd => A.len ρ ds hd) (fun ρ ds hd => by rw [B.len ρ ds hd, List.length_map, e2]) hall hks (star_cons (A.ns y List.mem_cons_self) ys X.env) ?_
  rw [star_any pos A.ns, hany]
  rfl
theorem meth_eval {b : PySem.Expr} {nm : Str} {apos pos : Pos} {ys : List PySem.Expr} {env : Env} (h : notCall b = true) (hs : ∀ y ∈ ys, notStar y = true) (hl : ys.length < 30) (hp : (apos.endLine == pos.line) = true) : eval (.Call (.Attribute b nm apos) ys [] pos) env = (do
      let ov ← eval b env
      standAt apos.atName
      let (f, first) ← holding [ov] (getMethod ov nm (do return (← importBound b env).getD true))
      callWith pos f first (backTo pos (starEach ys env)) (backToKw pos (keywordEach [] env))) := by
  have e0 : eval (.Call (.Attribute b nm apos) ys [] pos) env = (do
    let ov ← attributeBase b nm env (eval b env)
    standAt apos.atName
    methodCall b nm apos pos env ov (ys.length + 0) (backTo pos (starEach ys env)) (backToKw pos (keywordEach [] env))) := by rfl
  rw [e0, base_by h]
  have hf : methodCallForm (ys.length + 0) (backTo pos (starEach ys env)) (backToKw pos (keywordEach [] env)) = true := by
    have := star_any (env := env) pos hs
    unfold methodCallForm
    simp only [Bool.and_eq_true, decide_eq_true_eq]
    refine ⟨⟨?_, rfl⟩, (by show ys.length + 0 + 0 < 30; omega)⟩
    rw [List.any_eq_false] at this
    rw [List.all_eq_true]
    intro q hq
    have := this q hq
    simpa using this
  unfold methodCall
  rw [hf]
  have h2 : methodCallPos true b env apos pos = pure pos := by
    unfold methodCallPos
    rw [hp]
    rfl
  rw [h2]
  rfl
theorem snd_meth {j c : Nat} {o es : Ex} (ho : SndE S Φ L o) (ha : SndA S Φ L es) : SndE S Φ L (.meth j c o es) := by
  intro x C X W ok tk h
  cases x <;> try exact absurd h Bool.false_ne_true
  rename_i fn args kws pos
  cases fn <;> try exact absurd h Bool.false_ne_true
  rename_i b nm apos
  rcases kws with _ | ⟨k, kws⟩ <;> try exact absurd h Bool.false_ne_true
  have h : (decide (C.mts[j]? = some (c, nm, args.length + 1)) && tie C o b && notCall b && ties C es args && decide (args.length < 30) && (apos.endLine == pos.line)) = true := h
  simp only [Bool.and_eq_true, decide_eq_true_eq] at h
  obtain ⟨⟨⟨⟨⟨h1, h2⟩, h3⟩, h4⟩, h5⟩, h6⟩ := h
  have O := (ho _ C X W ok tk h2).esc
  have A := ha _ C X W ok tk h4
  obtain ⟨k1, k2⟩ := ok.G.mts j c nm _ h1
  have ht := meth_eval (pos := pos) (env := X.env) (nm := nm) h3 A.ns h5 h6
  refine Snd.eb (es := slx true o ++ slx true es) rfl rfl rfl ?_ fun _ => rfl
  rw [ev]
  rcases args with _ | ⟨y, ys⟩
  · have he : evs Φ es = fun _ => .ok [] := by
      cases es <;> first | (rw [evs]; done) | (exact absurd h4 Bool.false_ne_true)
    have hsl : slx true es = [] := by cases es <;> first | rfl | exact absurd h4 Bool.false_ne_true
    rw [he, hsl, List.append_nil]
    exact pm_meth0 ok.K k2 k1 (ok.rm.mono (Nat.le_succ _)) O ht
  · exact pm_meth ok.K k2 k1 (ok.rm.mono (Nat.le_succ _)) (A.ar pos) O A.esc (fun ρ ds hd => A.len ρ ds hd) ht
theorem snd_idx {a b : Ex} (ha : SndE S Φ L a) (hb : SndE S Φ L b) : SndE S Φ L (.idx a b) := by
  intro x C X W ok tk h
  cases x <;> try exact absurd h Bool.false_ne_true
  rename_i fn args kws pos
  cases fn <;> try exact absurd h Bool.false_ne_true
  rename_i o nm apos
  rcases args with _ | ⟨y, _ | ⟨z, ys⟩⟩ <;> try exact absurd h Bool.false_ne_true
  rcases kws with _ | ⟨k, kws⟩ <;> try exact absurd h Bool.false_ne_true
  have h : (decide (nm = ("index" : Str)) && tie C a o && notCall o && tie C b y && notStar y && (apos.endLine == pos.line)) = true := h
  simp only [Bool.and_eq_true, decide_eq_true_eq] at h
  obtain ⟨⟨⟨⟨⟨rfl, h2⟩, h3⟩, h4⟩, h5⟩, h6⟩ := h
  have A := (ha _ C X W ok tk h2).bor
  have B := (hb _ C X W ok tk h4).bor
  refine Snd.all (es := slx false a ++ slx false b) rfl rfl (fun md => ?_) fun _ => rfl
  rw [ev]
  have st := star_any (env := X.env) (ys := [y]) pos fun z hz => by rw [List.mem_singleton.mp hz]; exact h5
  refine pm_idx ok.K ok.hu A B (base_by h3 _ _ _) ?_ h6 (star_cons h5 _ _)
  simp only [Bool.and_eq_true, decide_eq_true_eq]
  refine ⟨⟨?_, rfl⟩, by show 1 + 0 + 0 < 30; decide⟩
  rw [List.any_eq_false] at st
  rw [List.all_eq_true]
  intro q hq
  have := st q hq
  simpa using this
theorem snd_rvl {a : Ex} (ha : SndE S Φ L a) : SndE S Φ L (.rvl a) := by
  intro x C X W ok tk h
  cases x <;> try exact absurd h Bool.false_ne_true
  rename_i fn args kws pos
  cases fn <;> try exact absurd h Bool.false_ne_true
  rename_i g p
  rcases args with _ | ⟨y, _ | ⟨z, ys⟩⟩ <;> try exact absurd h Bool.false_ne_true
  rotate_left
  · simp [tie] at h
  cases y <;> try exact absurd h Bool.false_ne_true
  rename_i f2 ys kws2 pos2
  cases f2 <;> try exact absurd h Bool.false_ne_true
  rename_i r p2
  rcases ys with _ | ⟨y, _ | ⟨z, ys⟩⟩ <;> try (first | exact absurd h Bool.false_ne_true | (simp [tie] at h; done))
  rcases kws2 with _ | ⟨kw, kws2⟩ <;> try (first | exact absurd h Bool.false_ne_true | (simp [tie] at h; done))
  rcases kws with _ | ⟨kw, kws⟩ <;> try (first | exact absurd h Bool.false_ne_true | (simp [tie] at h; done))
  have h : (decide (g = ("list" : Str)) && decide (r = ("reversed" : Str)) && glB C.sc g && glB C.sc r && tie C a y && notStar y) = true := h
  simp only [Bool.and_eq_true, decide_eq_true_eq] at h
  obtain ⟨⟨⟨⟨⟨rfl, rfl⟩, h3⟩, h4⟩, h5⟩, h6⟩ := h
  have A := (ha _ C X W ok tk h5).bor
  refine Snd.all (es := slx false a) rfl rfl (fun md => ?_) fun _ => rfl
  rw [ev]
  exact pm_rvl ok.K ok.calm (ok.bi h3 (by simp)) (ok.bi h4 (by simp)) A (star_cons h6 _ _) rfl
end
end PD
/-! Deep: comprehensions, generators; the whole. -/
namespace PD
open PySem PySem.Spec PyProof.Rows L2 GxR
section
variable {S : Stat} {Φ : Fs} {L : Nat}
theorem cond_by {C : TC} {c : Ex} {ifs : List PySem.Expr} (hc : SndE S Φ L c) (hn : noIte c = true) (h : (match ifs with | [] => c.isNil | [x] => !c.isNil && tie C c x | _ => false) = true) : ∀ (X : Cx), CxOk S C Φ L X → PTs X ifs (tT S W0 (evC Φ c) (slx false c)) := by
  intro X ok
  match ifs, h with
  | [], h =>
    have h : c.isNil = true := h
    have e : evC Φ c = fun _ => .ok true := by
      funext ρ
      show (if c.isNil then _ else _) = _
      rw [h, if_pos rfl]
    rw [e]
    exact ⟨fun pins s σ H Q I ⟨ρ, F, E, k⟩ => pts_nil.run pins s σ H Q I (k H (Ext.refl H) E.gd)⟩
  | [x], h =>
    have h : (!c.isNil && tie C c x) = true := h
    simp only [Bool.and_eq_true, Bool.not_eq_true'] at h
    have e : evC Φ c = fun ρ => (ev Φ c ρ).bind asB := by
      funext ρ
      show (if c.isNil then _ else _) = _
      rw [h.1, if_neg Bool.false_ne_true]
    rw [e]
    exact pts_one ((hc x C X W0 ok takes_none5 h.2).tst hn)
def ifsB (C : TC) (c : Ex) (ifs : List PySem.Expr) : Bool := match ifs with
  | [] => c.isNil
  | [x] => !c.isNil && tie C c x
  | _ => false
theorem ev_lc {k : IK} {vs : List Nat} {t : Tg} {it c e : Ex} : ev Φ (.lc k vs t it c e) = lcF vs t (evI Φ k it) (evC Φ c) (ev Φ e) := by cases k <;> rfl
theorem ev_gen {stop : Bool} {k : IK} {vs : List Nat} {t : Tg} {it e : Ex} : ev Φ (.gen stop k vs t it e) = genF stop vs t (evI Φ k it) (ev Φ e) := by cases k <;> rfl
theorem all_sub {t : Tg} {vs : List Nat} (h : t.slots.all (vs.contains ·) = true) : ∀ i ∈ t.slots, i ∈ vs := by
  rw [List.all_eq_true] at h
  intro i hi
  simpa using h i hi
theorem snd_lc {k : IK} {vs : List Nat} {t : Tg} {it c e : Ex} (h1 : SndE S Φ L it) (h2 : SndA S Φ L it) (hc : SndE S Φ L c) (hn : noIte c = true) (he : SndE S Φ L e) : SndE S Φ L (.lc k vs t it c e) := by
  intro x C X W ok tk h
  cases x <;> try exact absurd h Bool.false_ne_true
  rename_i el gs scope pos
  rcases gs with _ | ⟨⟨tg, iter, ifs, asy⟩, _ | ⟨g2, gs⟩⟩ <;> try (first | exact absurd h Bool.false_ne_true | (simp [tie] at h; done))
  by_cases h0 : asy = 0
  rotate_left
  · simp [tie, h0] at h
  subst h0
  have h : (blkC C.N C.sc scope (ownOf C.N vs) && t.slots.all (vs.contains ·) && tgB (C.blk scope) t tg && itB C k it iter && ifsB (C.blk scope) c ifs && tie (C.blk scope) e el) = true := h
  simp only [Bool.and_eq_true] at h
  obtain ⟨⟨⟨⟨⟨g1, g2⟩, g3⟩, g4⟩, g5⟩, g6⟩ := h
  have hI := snd_it (tg := tg) ok g4 (fun x hx => h1 x C X W ok tk hx) fun xs hx => h2 xs C X W ok tk hx
  have own := ownOf_slots C.N vs
  refine Snd.all (es := slI k it ++ outE vs (slx false c ++ slx true e)) rfl rfl (fun md => ?_) fun _ => rfl
  rw [ev_lc]
  have key := pm_lc (S := S) (W := W) (X := X) (md := md) (own := ownOf C.N vs) (t := t) (pos := pos) (scope := scope) (fc := evC Φ c) (fe := ev Φ e) (ec := slx false c) (ee := slx true e) (ifs := ifs) (elt := el) ok.calm ok.K ok.nd' hI (by rw [ok.N, ok.sc]; exact blkOk_by g1) (by rw [own]; exact all_sub g2)
    (fun s H Ca cl fp => (ok.blk scope s H Ca cl fp).tg g3) (fun s H Ca cl fp => cond_by hc hn g5 _ (ok.blk scope s H Ca cl fp)) (fun s H Ca cl fp => (he _ _ _ _ (ok.blk scope s H Ca cl fp) takes_none5 g6).esc) (it_plain g4 X.env).1
  rw [own] at key
  exact key
theorem snd_dc {vs : List Nat} {t : Tg} {it e : Ex} {c : Int} (h1 : SndE S Φ L it) (h2 : SndA S Φ L it) (he : SndE S Φ L e) : SndE S Φ L (.dc vs t it e c) := by
  intro x C X W ok tk h
  cases x <;> try exact absurd h Bool.false_ne_true
  rename_i kx vx gs scope pos
  cases vx <;> try exact absurd h Bool.false_ne_true
  rename_i cst cj cp
  cases cst <;> try exact absurd h Bool.false_ne_true
  rename_i c'
  rcases gs with _ | ⟨⟨tg, iter, ifs, asy⟩, _ | ⟨g2, gs⟩⟩ <;> try (first | exact absurd h Bool.false_ne_true | (simp [tie] at h; done))
  rcases ifs with _ | ⟨i1, ifs⟩ <;> try (first | exact absurd h Bool.false_ne_true | (simp [tie] at h; done))
  by_cases h0 : asy = 0
  rotate_left
  · simp [tie, h0] at h
  subst h0
  have h : (decide (c = c') && blkC C.N C.sc scope (ownOf C.N vs) && t.slots.all (vs.contains ·) && tgB (C.blk scope) t tg && tie C it iter && plainIt iter && tie (C.blk scope) e kx) = true := h
  simp only [Bool.and_eq_true, decide_eq_true_eq] at h
  obtain ⟨⟨⟨⟨⟨⟨rfl, g1⟩, g2⟩, g3⟩, g4⟩, g5⟩, g6⟩ := h
  have gI : itB C .seq it iter = true := by unfold itB; rw [g4, g5]; rfl
  have hI := snd_it (k := .seq) (tg := tg) ok gI (fun x hx => h1 x C X W ok tk hx) fun xs hx => h2 xs C X W ok tk hx
  have own := ownOf_slots C.N vs
  refine Snd.all (es := slI .seq it ++ outE vs (slx false e)) rfl rfl (fun md => ?_) fun _ => rfl
  have key := pm_dc (S := S) (W := W) (X := X) (md := md) (own := ownOf C.N vs) (t := t) (pos := pos) (scope := scope) (fk := ev Φ e) (ek := slx false e) (c := c) (kx := kx) (vx := .Constant (.int c) cj cp) (by have := ok.hu; omega) ok.calm ok.K ok.nd' hI (by rw [ok.N, ok.sc]; exact blkOk_by g1) (by rw [own]; exact all_sub g2)
    (fun s H Ca cl fp => (ok.blk scope s H Ca cl fp).tg g3) (fun s H Ca cl fp => (he _ _ _ _ (ok.blk scope s H Ca cl fp) takes_none5 g6).bor) (fun s H Ca cl fp => pm_int) (it_plain gI X.env).1
  rw [own] at key
  exact key
theorem snd_gen {stop : Bool} {k : IK} {vs : List Nat} {t : Tg} {it e : Ex} (h1 : SndE S Φ L it) (h2 : SndA S Φ L it) (he : SndE S Φ L e) : SndE S Φ L (.gen stop k vs t it e) := by
  intro x C X W ok tk h
  cases x <;> try exact absurd h Bool.false_ne_true
  rename_i fn args kws pos
  cases fn <;> try exact absurd h Bool.false_ne_true
  rename_i g p
  rcases args with _ | ⟨y, _ | ⟨z, ys⟩⟩ <;> try exact absurd h Bool.false_ne_true
  rotate_left
  · simp [tie] at h
  cases y <;> try exact absurd h Bool.false_ne_true
  rename_i el gs scope gpos
  rcases gs with _ | ⟨⟨tg, iter, ifs, asy⟩, _ | ⟨g2, gs⟩⟩ <;> try (first | exact absurd h Bool.false_ne_true | (simp [tie] at h; done))
  rcases ifs with _ | ⟨i1, ifs⟩ <;> try (first | exact absurd h Bool.false_ne_true | (simp [tie] at h; done))
  by_cases h0 : asy = 0
  rotate_left
  · simp [tie, h0] at h
  subst h0
  rcases kws with _ | ⟨kw, kws⟩ <;> try exact absurd h Bool.false_ne_true
  have h : (C.gen && decide (g = if stop then ("any" : Str) else "all") && glB C.sc g && genB C.N C.sc scope (ownOf C.N vs) && t.slots.all (vs.contains ·) && tgB (C.gbl scope) t tg && itB C k it iter && tie (C.gbl scope) e el) = true := h
  simp only [Bool.and_eq_true, decide_eq_true_eq] at h
  obtain ⟨⟨⟨⟨⟨⟨⟨g0, gn⟩, gg⟩, g1⟩, g2⟩, g3⟩, g4⟩, g6⟩ := h
  have hI := snd_it (tg := tg) ok g4 (fun x hx => h1 x C X W ok tk hx) fun xs hx => h2 xs C X W ok tk hx
  have own := ownOf_slots C.N vs
  obtain ⟨c, P, hc, TB, hP, hL⟩ := ok.code g0
  have rm : Room (L + 1 + 1) X.A := by have := ok.room; rw [g0, Bool.true_or] at this; exact this
  refine Snd.all (es := slI k it ++ outE vs (slx false e)) rfl rfl (fun md => ?_) fun _ => rfl
  rw [ev_gen]
  have gk : GenOk X.N X.env.scope scope (ownOf C.N vs) := by rw [ok.N, ok.sc]; exact genOk_by g1
  cases stop with
  | false =>
    have gn : g = ("all" : Str) := gn
    subst gn
    have key := pm_all (S := S) (W := W) (X := X) (md := md) (own := ownOf C.N vs) (t := t) (pos := pos) (p := p) (gpos := gpos) (scope := scope) (fe := ev Φ e) (ee := slx false e) (elt := el) rm (ok.bi gg (by simp)) (by rfl) TB hc hP hL gk ok.nd' ok.K hI (by rw [own]; exact all_sub g2)
      (fun A' s H Ca cv cl fp r => (ok.gbl scope r s H Ca cv cl fp).tg g3) (fun A' s H Ca cv cl fp r => (he _ _ _ _ (ok.gbl scope r s H Ca cv cl fp) takes_none5 g6).bor) (it_plain g4 X.env).2
    rw [own] at key
    exact key
  | true =>
    have gn : g = ("any" : Str) := gn
    subst gn
    have key := pm_any (S := S) (W := W) (X := X) (md := md) (own := ownOf C.N vs) (t := t) (pos := pos) (p := p) (gpos := gpos) (scope := scope) (fe := ev Φ e) (ee := slx false e) (elt := el) rm (ok.bi gg (by simp)) TB hc hP hL gk ok.nd' ok.K hI (by rw [own]; exact all_sub g2)
      (fun A' s H Ca cv cl fp r => (ok.gbl scope r s H Ca cv cl fp).tg g3) (fun A' s H Ca cv cl fp r => (he _ _ _ _ (ok.gbl scope r s H Ca cv cl fp) takes_none5 g6).bor) (it_plain g4 X.env).2
    rw [own] at key
    exact key
theorem params_of {x : Str} {a : Arguments} (h : paramsB x a = true) : ∃ pos, a = ⟨[], [⟨x, none, pos⟩], none, [], [], none, []⟩ := by
  unfold paramsB at h
  split at h
  · rename_i b pos
    exact ⟨pos, by rw [of_decide_eq_true h]⟩
  · cases h
theorem bind_one {nm q : Str} {pp : Pos} {body : PySem.Expr} {scope : Scope} {cl : List (Str × Addr)} {pm cv ctv u : Value} : bindArgs (PySem.W.kla_fn "<lambda>" q ⟨[], [⟨nm, none, pp⟩], none, [], [], none, []⟩ body scope cl pm cv ctv) ⟨[u], []⟩ = pure [(nm, u)] := by
  have e : seqItems? Value.none = pure none := rfl
  have l : List.lookup nm [(nm, u)] = some u := by simp [List.lookup]
  unfold bindArgs
  simp [e, l]
theorem snd_mnk {i : Nat} {a e : Ex} (ha : SndE S Φ L a) (he : SndE S Φ L e) : SndE S Φ L (.mnk i a e) := by
  intro x C X W ok tk h
  cases x <;> try exact absurd h Bool.false_ne_true
  rename_i fn args kws pos
  cases fn <;> try exact absurd h Bool.false_ne_true
  rename_i g p
  rcases args with _ | ⟨y, _ | ⟨z, ys⟩⟩ <;> try exact absurd h Bool.false_ne_true
  rcases kws with _ | ⟨⟨kn, kv, kp⟩, _ | ⟨k2, kws⟩⟩ <;> try (first | exact absurd h Bool.false_ne_true | (simp [tie] at h; done))
  cases kn with
  | none => simp [tie] at h
  | some k =>
    cases kv <;> try (first | exact absurd h Bool.false_ne_true | (simp [tie] at h; done))
    rename_i params body scope lpos
    have h : (C.lam && decide (g = ("min" : Str)) && decide (k = ("key" : Str)) && glB C.sc g && tie C a y && notStar y && (match C.N[i]? with | some nm => paramsB nm params && lamPB nm C.sc scope | none => false) && tie (C.gbl scope) e body) = true := h
    simp only [Bool.and_eq_true, decide_eq_true_eq] at h
    obtain ⟨⟨⟨⟨⟨⟨⟨h0, rfl⟩, rfl⟩, h3⟩, h4⟩, h5⟩, h6⟩, h7⟩ := h
    cases hN : C.N[i]? with
    | none => rw [hN] at h6; cases h6
    | some nm =>
      rw [hN] at h6
      have h6 : (paramsB nm params && lamPB nm C.sc scope) = true := h6
      rw [Bool.and_eq_true] at h6
      obtain ⟨pp, rfl⟩ := params_of h6.1
      have A := (ha _ C X W ok tk h4).bor
      have rm : Room (L + 1 + 1) X.A := by have := ok.room; rw [h0, Bool.or_true] at this; exact this
      refine Snd.eb (es := slx false a ++ outE [i] (slx false e)) rfl rfl rfl ?_ fun _ => rfl
      rw [ev]
      exact pm_mnk ok.K (ok.bi h3 (by simp)) A (ok.lcode h0) rm (lamP_by (by rw [ok.sc]; exact h6.2)) ok.nd' (by rw [ok.N]; exact hN) rfl (fun _ _ _ _ _ _ => bind_one) (fun A' s H f c' r => (he _ _ _ _ (ok.lbl scope r s H f c') takes_none5 h7).bor) (star_cons h5 _ _)
theorem snd_mnd {a : Ex} (ha : SndE S Φ L a) : SndE S Φ L (.mnd a) := by
  intro x C X W ok tk h
  cases x <;> try exact absurd h Bool.false_ne_true
  rename_i fn args kws pos
  cases fn <;> try exact absurd h Bool.false_ne_true
  rename_i g p
  rcases args with _ | ⟨y, _ | ⟨z, ys⟩⟩ <;> try exact absurd h Bool.false_ne_true
  rcases kws with _ | ⟨⟨kn, kv, kp⟩, _ | ⟨k2, kws⟩⟩ <;> try (first | exact absurd h Bool.false_ne_true | (simp [tie] at h; done))
  cases kn with
  | none => simp [tie] at h
  | some k =>
    cases kv <;> try (first | exact absurd h Bool.false_ne_true | (simp [tie] at h; done))
    rename_i cst cj cp
    cases cst <;> try (first | exact absurd h Bool.false_ne_true | (simp [tie] at h; done))
    have h : (decide (g = ("min" : Str)) && decide (k = ("default" : Str)) && glB C.sc g && tie C a y && notStar y) = true := h
    simp only [Bool.and_eq_true, decide_eq_true_eq] at h
    obtain ⟨⟨⟨⟨rfl, rfl⟩, h3⟩, h4⟩, h5⟩ := h
    have A := (ha _ C X W ok tk h4).bor
    refine Snd.all (es := slx false a) rfl rfl (fun md => ?_) fun _ => rfl
    rw [ev]
    exact pm_mnd ok.K ok.room.hd ok.hu (ok.bi h3 (by simp)) A (star_cons h5 _ _)
theorem snd_kvl {w : Bool} {a : Ex} (ha : SndE S Φ L a) : SndE S Φ L (.kvl w a) := by
  intro x C X W ok tk h
  cases x <;> try exact absurd h Bool.false_ne_true
  rename_i fn args kws pos
  cases fn <;> try exact absurd h Bool.false_ne_true
  rename_i g p
  rcases args with _ | ⟨y, _ | ⟨z, ys⟩⟩ <;> try exact absurd h Bool.false_ne_true
  rotate_left
  · simp [tie] at h
  cases y <;> try exact absurd h Bool.false_ne_true
  rename_i f2 ys kws2 cpos
  cases f2 <;> try exact absurd h Bool.false_ne_true
  rename_i o nm apos
  rcases ys with _ | ⟨y, ys⟩ <;> try (first | exact absurd h Bool.false_ne_true | (simp [tie] at h; done))
  rcases kws2 with _ | ⟨kw, kws2⟩ <;> try (first | exact absurd h Bool.false_ne_true | (simp [tie] at h; done))
  rcases kws with _ | ⟨kw, kws⟩ <;> try (first | exact absurd h Bool.false_ne_true | (simp [tie] at h; done))
  have h : (decide (g = ("list" : Str)) && decide (nm = if w then ("values" : Str) else ("keys" : Str)) && glB C.sc g && tie C a o && notCall o && (apos.endLine == cpos.line)) = true := h
  simp only [Bool.and_eq_true, decide_eq_true_eq] at h
  obtain ⟨⟨⟨⟨⟨rfl, rfl⟩, h3⟩, h4⟩, h5⟩, h6⟩ := h
  have A := (ha _ C X W ok tk h4).bor
  refine Snd.all (es := slx false a) rfl rfl (fun md => ?_) fun _ => rfl
  rw [ev]
  exact pm_kvl ok.K ok.calm (ok.bi h3 (by simp)) A (base_by h5 _ _ _) h6 rfl
theorem snd_tupR {es : Ex} (ha : SndA S Φ L es) : SndE S Φ L (.tupR es) := by
  intro x C X W ok tk h
  cases x <;> try exact absurd h Bool.false_ne_true
  rename_i fn args kws pos
  cases fn <;> try exact absurd h Bool.false_ne_true
  rename_i g p
  rcases args with _ | ⟨y, _ | ⟨z, ys⟩⟩ <;> try exact absurd h Bool.false_ne_true
  rotate_left
  · simp [tie] at h
  cases y <;> try exact absurd h Bool.false_ne_true
  rename_i f2 ys kws2 pos2
  cases f2 <;> try exact absurd h Bool.false_ne_true
  rename_i r p2
  rcases kws2 with _ | ⟨kw, kws2⟩ <;> try exact absurd h Bool.false_ne_true
  rcases kws with _ | ⟨kw, kws⟩ <;> try exact absurd h Bool.false_ne_true
  have h : (decide (g = ("tuple" : Str)) && decide (r = ("range" : Str)) && glB C.sc g && glB C.sc r && decide (ys.length = 2) && ties C es ys) = true := h
  simp only [Bool.and_eq_true, decide_eq_true_eq] at h
  obtain ⟨⟨⟨⟨⟨rfl, rfl⟩, h3⟩, h4⟩, h5⟩, h6⟩ := h
  have A := ha _ C X W ok tk h6
  match ys, h5, A with
  | [a, b], _, A =>
    obtain ⟨ea, eb, rfl, ma, mb⟩ := A.two a b rfl
    refine Snd.all (es := slx false ea ++ (slx false eb ++ [])) rfl rfl (fun md => ?_) fun _ => rfl
    rw [ev, evs, evs, evs]
    exact pm_tupR ok.calm (ok.bi h3 (by simp)) (ok.bi h4 (by simp)) ma mb (star_cons (A.ns a (by simp)) [b] X.env) (star_cons (A.ns b (by simp)) [] X.env) (star_any pos2 fun y hy => A.ns y (List.mem_cons_of_mem _ hy))
/-- no if-else as a test -/
def okx : Ex → Bool
  | .bin _ a b | .cmp _ a b | .and a b | .or a b | .ix a b | .idx a b | .mnk _ a b | .cons a b => okx a && okx b
  | .chn _ _ a b c | .sl a b c => okx a && okx b && okx c
  | .neg a | .nt a | .tup a | .lst a | .fld _ _ a | .bi _ a | .isi _ a | .isc _ a | .call _ a | .tupR a | .rvl a | .mnd a | .kvl _ a => okx a
  | .ite c a b => noIte c && okx c && okx a && okx b
  | .meth _ _ o es => okx o && okx es
  | .make _ _ es kws => okx es && okx kws
  | .lc _ _ _ it c e => okx it && okx c && okx e && noIte c
  | .gen _ _ _ _ it e => okx it && okx e
  | .dc _ _ it e _ => okx it && okx e
  | _ => true
theorem noL {e : Ex} (h : ∀ (C : TC) xs, ties C e xs = false) : SndA S Φ L e := fun xs C X W ok tk h' => by rw [h C xs] at h'; cases h'
theorem noE' {e : Ex} (h : ∀ (C : TC) x, tie C e x = false) : SndE S Φ L e := fun x C X W ok tk h' => by rw [h C x] at h'; cases h'
theorem snd_both (e : Ex) : okx e = true → SndE S Φ L e ∧ SndA S Φ L e := by
  induction e with
  | nil => exact fun _ => ⟨noE' fun C x => by cases x <;> rfl, snd_nilL⟩
  | cons a r iha ihr =>
    intro h
    simp only [okx, Bool.and_eq_true] at h
    exact ⟨noE' fun C x => by cases x <;> rfl, snd_consL (iha h.1).1 (ihr h.2).2⟩
  | var i => exact fun _ => ⟨snd_var, noL fun C xs => by cases xs <;> rfl⟩
  | int i => exact fun _ => ⟨snd_int, noL fun C xs => by cases xs <;> rfl⟩
  | bl b => exact fun _ => ⟨snd_bl, noL fun C xs => by cases xs <;> rfl⟩
  | non => exact fun _ => ⟨snd_non, noL fun C xs => by cases xs <;> rfl⟩
  | str x => exact fun _ => ⟨snd_str, noL fun C xs => by cases xs <;> rfl⟩
  | gint x i => exact fun _ => ⟨snd_gint, noL fun C xs => by cases xs <;> rfl⟩
  | bin o a b iha ihb =>
    intro h
    simp only [okx, Bool.and_eq_true] at h
    exact ⟨snd_bin (iha h.1).1 (ihb h.2).1, noL fun C xs => by cases xs <;> rfl⟩
  | cmp o a b iha ihb =>
    intro h
    simp only [okx, Bool.and_eq_true] at h
    exact ⟨snd_cmp (iha h.1).1 (ihb h.2).1, noL fun C xs => by cases xs <;> rfl⟩
  | chn o o' a b c iha ihb ihc =>
    intro h
    simp only [okx, Bool.and_eq_true] at h
    exact ⟨snd_chn (iha h.1.1).1 (ihb h.1.2).1 (ihc h.2).1, noL fun C xs => by cases xs <;> rfl⟩
  | neg a iha => exact fun h => ⟨snd_neg (iha h).1, noL fun C xs => by cases xs <;> rfl⟩
  | nt a iha => exact fun h => ⟨snd_nt (iha h).1, noL fun C xs => by cases xs <;> rfl⟩
  | and a b iha ihb =>
    intro h
    simp only [okx, Bool.and_eq_true] at h
    exact ⟨snd_and (iha h.1).1 (ihb h.2).1, noL fun C xs => by cases xs <;> rfl⟩
  | or a b iha ihb =>
    intro h
    simp only [okx, Bool.and_eq_true] at h
    exact ⟨snd_or (iha h.1).1 (ihb h.2).1, noL fun C xs => by cases xs <;> rfl⟩
  | ite c a b ihc iha ihb =>
    intro h
    simp only [okx, Bool.and_eq_true] at h
    exact ⟨snd_ite (ihc h.1.1.2).1 (iha h.1.2).1 (ihb h.2).1 h.1.1.1, noL fun C xs => by cases xs <;> rfl⟩
  | tup es ih => exact fun h => ⟨snd_tup (ih h).2, noL fun C xs => by cases xs <;> rfl⟩
  | lst es ih => exact fun h => ⟨snd_lst (ih h).2, noL fun C xs => by cases xs <;> rfl⟩
  | dic0 => exact fun _ => ⟨snd_dic0, noL fun C xs => by cases xs <;> rfl⟩
  | ix a b iha ihb =>
    intro h
    simp only [okx, Bool.and_eq_true] at h
    exact ⟨snd_ix (iha h.1).1 (ihb h.2).1, noL fun C xs => by cases xs <;> rfl⟩
  | sl a b c iha ihb ihc =>
    intro h
    simp only [okx, Bool.and_eq_true] at h
    exact ⟨snd_sl (iha h.1.1).1 (ihb h.1.2).1 (ihc h.2).1, noL fun C xs => by cases xs <;> rfl⟩
  | fld c k a iha => exact fun h => ⟨snd_fld (iha h).1, noL fun C xs => by cases xs <;> rfl⟩
  | bi f es ih => exact fun h => ⟨snd_bi (ih h).2, noL fun C xs => by cases xs <;> rfl⟩
  | isi t a iha => exact fun h => ⟨snd_isi (iha h).1, noL fun C xs => by cases xs <;> rfl⟩
  | isc c a iha => exact fun h => ⟨snd_isc (iha h).1, noL fun C xs => by cases xs <;> rfl⟩
  | call j es ih => exact fun h => ⟨snd_call (ih h).2, noL fun C xs => by cases xs <;> rfl⟩
  | meth j c o es iho ihe =>
    intro h
    simp only [okx, Bool.and_eq_true] at h
    exact ⟨snd_meth (iho h.1).1 (ihe h.2).2, noL fun C xs => by cases xs <;> rfl⟩
  | make j c es kws ihe ihk =>
    intro h
    simp only [okx, Bool.and_eq_true] at h
    exact ⟨snd_make (ihe h.1).2 (ihk h.2).2, noL fun C xs => by cases xs <;> rfl⟩
  | lc k vs t it c e ihi ihc ihe =>
    intro h
    simp only [okx, Bool.and_eq_true] at h
    exact ⟨snd_lc (ihi h.1.1.1).1 (ihi h.1.1.1).2 (ihc h.1.1.2).1 h.2 (ihe h.1.2).1, noL fun C xs => by cases xs <;> rfl⟩
  | dc vs t it e c ihi ihe =>
    intro h
    simp only [okx, Bool.and_eq_true] at h
    exact ⟨snd_dc (ihi h.1).1 (ihi h.1).2 (ihe h.2).1, noL fun C xs => by cases xs <;> rfl⟩
  | gen stop k vs t it e ihi ihe =>
    intro h
    simp only [okx, Bool.and_eq_true] at h
    exact ⟨snd_gen (ihi h.1).1 (ihi h.1).2 (ihe h.2).1, noL fun C xs => by cases xs <;> rfl⟩
  | tupR es ih => exact fun h => ⟨snd_tupR (ih h).2, noL fun C xs => by cases xs <;> rfl⟩
  | idx a b iha ihb =>
    intro h
    simp only [okx, Bool.and_eq_true] at h
    exact ⟨snd_idx (iha h.1).1 (ihb h.2).1, noL fun C xs => by cases xs <;> rfl⟩
  | mnk i a e iha ihe =>
    intro h
    simp only [okx, Bool.and_eq_true] at h
    exact ⟨snd_mnk (iha h.1).1 (ihe h.2).1, noL fun C xs => by cases xs <;> rfl⟩
  | mnd a iha => exact fun h => ⟨snd_mnd (iha h).1, noL fun C xs => by cases xs <;> rfl⟩
  | kvl w a iha => exact fun h => ⟨snd_kvl (iha h).1, noL fun C xs => by cases xs <;> rfl⟩
  | rvl a iha => exact fun h => ⟨snd_rvl (iha h).1, noL fun C xs => by cases xs <;> rfl⟩
theorem snd {e : Ex} {x : PySem.Expr} {C : TC} {X : Cx} {W : WX} (ok : CxOk S C Φ L X) (tk : Takes X W) (ho : okx e = true) (h : tie C e x = true) : Snd S W X Φ e x := (snd_both e ho).1 x C X W ok tk h
end
end PD
/-! Statements: what stands in the slots, owned objects. -/
namespace PD
open PySem PySem.Spec PyProof.Rows L2
/-- all stays but the tables, and what in A may be written -/
structure ExtO (A : Addr → Prop) (H H' : Hp) : Prop where
  to : ∀ b o, H b = some o → (∀ ps, o ≠ .tbl ps) → (A b → (∃ xs, o = .tup xs) ∨ ∃ q xs, o = .frz q xs) → H' b = some o
  tb : ∀ b ps, H b = some (.tbl ps) → ∃ qs, H' b = some (.tbl qs)
  st : ∀ b, H b ≠ none → H' b ≠ none
theorem ExtO.refl (A : Addr → Prop) (H : Hp) : ExtO A H H := ⟨fun _ _ h _ _ => h, fun _ ps h => ⟨ps, h⟩, fun _ h => h⟩
theorem ExtO.of {A : Addr → Prop} {H H' : Hp} (e : Ext H H') : ExtO A H H' := ⟨fun b o h t _ => e.to b o h t, e.tb, fun b h => e.some h⟩
theorem ExtO.trans {A A' : Addr → Prop} {H H1 H2 : Hp} (a : ExtO A H H1) (b : ExtO A' H1 H2) (h : ∀ x, A' x → A x ∨ H x = none) : ExtO A H H2 :=
  ⟨fun c o e t q => b.to c o (a.to c o e t q) t fun z => (h c z).elim q (fun z => by rw [z] at e; cases e),
    fun c ps e => by obtain ⟨qs, h1⟩ := a.tb c ps e; exact b.tb c qs h1, fun c e => b.st c (a.st c e)⟩
theorem ExtO.then {A : Addr → Prop} {H H1 H2 : Hp} (a : ExtO A H H1) (b : Ext H1 H2) : ExtO A H H2 := a.trans (A' := A) (ExtO.of b) fun _ z => .inl z
section
variable {S : Stat} {F F' A : Addr → Prop} {H H' : Hp}
mutual
theorem Rep.move (e : ExtO A H H') (hA : ∀ a, A a → F a) (hF : ∀ a, F' a → F a ∨ H a = none) : ∀ {d : D} {v : V}, Rep S F H d v → Rep S F' H' d v
  | .non, _, h => h
  | .bl _, _, h => h
  | .int _, _, h => h
  | .str _, _, h => h
  | .tup ds, _, h => by
    unfold Rep at h ⊢
    obtain ⟨a, vs, h1, h2, h3⟩ := h
    exact ⟨a, vs, h1, e.to _ _ h2 (fun _ z => nomatch z) (fun _ => .inl ⟨_, rfl⟩), Reps.move e hA hF h3⟩
  | .lst ds, _, h => by
    unfold Rep at h ⊢
    obtain ⟨a, vs, h1, n, h2, h3⟩ := h
    have nn : H a ≠ none := by rcases h2 with h2 | ⟨o, h2⟩ <;> (rw [h2]; simp)
    refine ⟨a, vs, h1, fun z => (hF a z).elim n nn, ?_, Reps.move e hA hF h3⟩
    rcases h2 with h2 | ⟨o, h2⟩
    · exact .inl (e.to _ _ h2 (fun _ z => nomatch z) fun z => absurd (hA a z) n)
    · exact .inr ⟨o, e.to _ _ h2 (fun _ z => nomatch z) fun _ => .inr ⟨_, _, rfl⟩⟩
  | .raw ds, _, h => by
    unfold Rep at h ⊢
    obtain ⟨a, vs, h1, h2, h3⟩ := h
    refine ⟨a, vs, h1, ?_, Reps.move e hA hF h3⟩
    rcases h2 with ⟨o, h2⟩ | ⟨_, h2⟩
    · exact .inl ⟨o, e.to _ _ h2 (fun _ z => nomatch z) fun _ => .inr ⟨_, _, rfl⟩⟩
    · exact .inr ⟨.inr h2, h2⟩
  | .dic ks ws, _, h => by
    unfold Rep at h ⊢
    obtain ⟨a, kvs, h1, n, h2, h3, h4⟩ := h
    have nn : H a ≠ none := by rw [h2]; simp
    exact ⟨a, kvs, h1, fun z => (hF a z).elim n nn, e.to _ _ h2 (fun _ z => nomatch z) (fun z => absurd (hA a z) n), h3, Reps.move e hA hF h4⟩
  | .obj c ds, _, h => by
    unfold Rep at h ⊢
    obtain ⟨a, dx, vs, h1, n, h2, h3, h4⟩ := h
    have nn : H a ≠ none := by rw [h2]; simp
    exact ⟨a, dx, vs, h1, fun z => (hF a z).elim n nn, e.to _ _ h2 (fun _ z => nomatch z) (fun z => absurd (hA a z) n), h3, Reps.move e hA hF h4⟩
theorem Reps.move (e : ExtO A H H') (hA : ∀ a, A a → F a) (hF : ∀ a, F' a → F a ∨ H a = none) : ∀ {ds : List D} {vs : List V}, Reps S F H ds vs → Reps S F' H' ds vs
  | [], _, h => h
  | d :: ds, _, h => by
    unfold Reps at h ⊢
    obtain ⟨v, r, h1, h2, h3⟩ := h
    exact ⟨v, r, h1, Rep.move e hA hF h2, Reps.move e hA hF h3⟩
end
theorem ItR.move {J : It} {ds : List D} (e : ExtO A H H') (hA : ∀ a, A a → F a) (hF : ∀ a, F' a → F a ∨ H a = none) (h : ItR S F H J ds) : ItR S F' H' J ds := by
  rcases h with ⟨a, vs, h1, n, h2, h3⟩ | ⟨a, vs, h1, h2, h3⟩ | h | h | h
  · have nn : H a ≠ none := by rcases h2 with h2 | ⟨o, h2⟩ <;> (rw [h2]; simp)
    refine .inl ⟨a, vs, h1, fun z => (hF a z).elim n nn, ?_, Reps.move e hA hF h3⟩
    rcases h2 with h2 | ⟨o, h2⟩
    · exact .inl (e.to _ _ h2 (fun _ z => nomatch z) fun z => absurd (hA a z) n)
    · exact .inr ⟨o, e.to _ _ h2 (fun _ z => nomatch z) fun _ => .inr ⟨_, _, rfl⟩⟩
  · exact .inr (.inl ⟨a, vs, h1, e.to _ _ h2 (fun _ z => nomatch z) (fun _ => .inl ⟨_, rfl⟩), Reps.move e hA hF h3⟩)
  · exact .inr (.inr (.inl h))
  · exact .inr (.inr (.inr (.inl h)))
  · exact .inr (.inr (.inr (.inr h)))
end
/-- an owned object at a -/
def OwnR (S : Stat) (F : Addr → Prop) (H : Hp) (a : Addr) : D → Prop
  | .lst ds => ∃ vs, H a = some (.lst vs) ∧ Reps S F H ds vs
  | .dic ks ws => ∃ kvs, H a = some (.dT kvs) ∧ ks = kvs.map (fun p => keyD p.1) ∧ Reps S F H ws (kvs.map (·.2))
  | .obj c fs => ∃ dx vs, H a = some (.ins (S.cA c) dx (((S.fN c).take fs.length).zip vs)) ∧ vs.length = fs.length ∧ fs.length ≤ (S.fN c).length ∧ Reps S F H fs vs
  | _ => False
def FO (F0 : Addr → Prop) (ω : Nat → Option Addr) (a : Addr) : Prop := F0 a ∨ ∃ j, ω j = some a
structure Sok (S : Stat) (F0 A0 M0 : Addr → Prop) (H0 : Hp) (ρ : En) (σ : L2.St) (H : Hp) (ω : Nat → Option Addr) : Prop where
  ext : ExtO A0 H0 H
  len : ρ.length ≤ σ.length
  gd : Gd S H
  f0 : ∀ a, F0 a → H0 a ≠ none
  pl : ∀ i d, ρ.sl i = .pl d → ∃ v, σ[i]? = some (some v) ∧ Rep S (FO F0 ω) H d v
  ow : ∀ i d, (ρ.sl i).own = some d → ∃ a, ω i = some a ∧ σ[i]? = some (some (.ref a)) ∧ OwnR S (FO F0 ω) H a d
  inj : ∀ i j a, ω i = some a → ω j = some a → i = j
  no : ∀ i c fs, ρ.sl i ≠ .ow (.obj c fs)
  dom : ∀ i a, ω i = some a → (∃ d, (ρ.sl i).own = some d) ∧ (A0 a ∨ H0 a = none) ∧ ¬ F0 a ∧ H a ≠ none
  mka : ∀ i d a, ρ.sl i = .mk d → ω i = some a → M0 a
section
variable {S : Stat} {F0 A0 M0 : Addr → Prop} {H0 H H' : Hp} {ρ : En} {σ : L2.St} {ω : Nat → Option Addr}
theorem OwnR.anti {F F' : Addr → Prop} {a : Addr} {d : D} (e : ∀ a, F' a → F a) (h : OwnR S F H a d) : OwnR S F' H a d := by
  cases d <;> first | exact h | skip
  · obtain ⟨vs, h1, h2⟩ := h; exact ⟨vs, h1, Reps.anti e h2⟩
  · obtain ⟨vs, h1, h3, h2⟩ := h; exact ⟨vs, h1, h3, Reps.anti e h2⟩
  · obtain ⟨dx, vs, h1, h3, h4, h2⟩ := h; exact ⟨dx, vs, h1, h3, h4, Reps.anti e h2⟩
theorem OwnR.ext {F : Addr → Prop} {a : Addr} {d : D} (e : Ext H H') (h : OwnR S F H a d) : OwnR S F H' a d := by
  cases d <;> first | exact h | skip
  · obtain ⟨vs, h1, h2⟩ := h; exact ⟨vs, e.to _ _ h1 (fun _ z => nomatch z), Reps.ext e h2⟩
  · obtain ⟨vs, h1, h3, h2⟩ := h; exact ⟨vs, e.to _ _ h1 (fun _ z => nomatch z), h3, Reps.ext e h2⟩
  · obtain ⟨dx, vs, h1, h3, h4, h2⟩ := h; exact ⟨dx, vs, e.to _ _ h1 (fun _ z => nomatch z), h3, h4, Reps.ext e h2⟩
theorem OwnR.plus {F : Addr → Prop} {a p : Addr} {d : D} (n : H p = none) (h : OwnR S F H a d) : OwnR S (fun b => F b ∨ b = p) H a d := by
  cases d <;> first | exact h | skip
  · obtain ⟨vs, h1, h2⟩ := h; exact ⟨vs, h1, Reps.plus n h2⟩
  · obtain ⟨vs, h1, h3, h2⟩ := h; exact ⟨vs, h1, h3, Reps.plus n h2⟩
  · obtain ⟨dx, vs, h1, h3, h4, h2⟩ := h; exact ⟨dx, vs, h1, h3, h4, Reps.plus n h2⟩
theorem OwnR.some {F : Addr → Prop} {a : Addr} {d : D} (h : OwnR S F H a d) : H a ≠ Option.none := by
  cases d <;> first | exact h.elim | skip
  · obtain ⟨vs, h1, h2⟩ := h; rw [h1]; simp
  · obtain ⟨vs, h1, h3, h2⟩ := h; rw [h1]; simp
  · obtain ⟨dx, vs, h1, h3, h2⟩ := h; rw [h1]; simp
/-- an owned object as what it stands for, its own place left out -/
theorem OwnR.rep {F F' : Addr → Prop} {a : Addr} {d : D} (hd : ∀ c fs, d ≠ .obj c fs) (h : OwnR S F H a d) (e : ∀ a, F' a → F a) (n : ¬ F' a) : Rep S F' H d (.ref a) := by
  cases d <;> first | exact h.elim | skip
  · obtain ⟨vs, h1, h2⟩ := h
    unfold Rep
    exact ⟨a, vs, rfl, n, .inl h1, Reps.anti e h2⟩
  · obtain ⟨vs, h1, h3, h2⟩ := h
    unfold Rep
    exact ⟨a, vs, rfl, n, h1, h3, Reps.anti e h2⟩
  · exact absurd rfl (hd _ _)
theorem OwnR.toT {F : Addr → Prop} {a : Addr} {d : D} (hd : ∀ c fs, d ≠ .obj c fs) (h : OwnR S F H a d) : RepT S F H d (.ref a) := by
  cases d <;> first | exact h.elim | skip
  · obtain ⟨vs, h1, h2⟩ := h; exact ⟨a, vs, rfl, .inl h1, h2⟩
  · obtain ⟨vs, h1, h3, h2⟩ := h; exact ⟨a, vs, rfl, h1, h3, h2⟩
  · exact absurd rfl (hd _ _)
theorem Sok.fd (K : Sok S F0 A0 M0 H0 ρ σ H ω) : ∀ a, FO F0 ω a → H a ≠ none := fun a h => h.elim (fun z => K.ext.st a (K.f0 a z)) fun ⟨j, z⟩ => (K.dom j a z).2.2.2
/-- expressions leave it -/
theorem Sok.to (K : Sok S F0 A0 M0 H0 ρ σ H ω) (e : Ext H H') (g : Gd S H') : Sok S F0 A0 M0 H0 ρ σ H' ω :=
  ⟨K.ext.then e, K.len, g, K.f0, fun i d h => by obtain ⟨v, h1, h2⟩ := K.pl i d h; exact ⟨v, h1, Rep.ext e h2⟩, fun i d h => by obtain ⟨a, h1, h2, h3⟩ := K.ow i d h; exact ⟨a, h1, h2, h3.ext e⟩, K.inj, K.no,
    fun i a h => (by obtain ⟨h1, h2, h3, h4⟩ := K.dom i a h; exact ⟨h1, h2, h3, e.some h4⟩), K.mka⟩
theorem Sok.env (K : Sok S F0 A0 M0 H0 ρ σ H ω) {es : List Nat} (h : ∀ i ∈ es, (ρ.sl i).own = Option.none) : EnvE S (FO F0 ω) ρ σ H es := by
  refine ⟨K.len, K.gd, K.fd, fun i d e => ?_, fun i hi d e => ?_⟩
  · cases q : ρ.sl i with
    | un => rw [q] at e; cases e
    | mk d' => rw [q] at e; cases e
    | pl d' =>
      rw [q] at e; cases e
      obtain ⟨v, h1, h2⟩ := K.pl i _ q
      exact ⟨v, h1, h2.toT⟩
    | ow d' =>
      rw [q] at e; cases e
      obtain ⟨a, h1, h2, h3⟩ := K.ow i d (by rw [q]; rfl)
      exact ⟨_, h2, h3.toT fun c fs z => K.no i c fs (by rw [q, z])⟩
  · have hh := h i hi
    cases q : ρ.sl i with
    | un => rw [q] at e; cases e
    | mk d' => rw [q] at e; cases e
    | pl d' =>
      rw [q] at e; cases e
      exact K.pl i _ q
    | ow d' => rw [q] at hh; cases hh
end
end PD
/-! Statements: stores. -/
namespace PD
open PySem PySem.Spec PyProof.Rows L2
def demS : Sl → Sl
  | .ow d => .pl d
  | .mk _ => .un
  | s => s
/-- the slots of es are kept from now on: what they own is theirs no more -/
def demE : List Nat → En → En
  | [], ρ => ρ
  | i :: es, ρ => demE es (match (ρ.sl i).own with | some _ => ρ.set i (demS (ρ.sl i)) | none => ρ)
def cutW (ω : Nat → Option Addr) (i : Nat) : Nat → Option Addr := fun j => if j = i then none else ω j
def putW (ω : Nat → Option Addr) (i : Nat) (a : Addr) : Nat → Option Addr := fun j => if j = i then some a else ω j
section
variable {S : Stat} {F0 A0 M0 : Addr → Prop} {H0 H H' : Hp} {ρ ρ' : En} {σ : L2.St} {ω : Nat → Option Addr} {i : Nat} {d : D} {v : V}
theorem FO.cut {a : Addr} (h : FO F0 (cutW ω i) a) : FO F0 ω a := h.imp id fun ⟨j, z⟩ => ⟨j, by unfold cutW at z; split at z; exact absurd z (by simp); exact z⟩
theorem sl_out (h : ¬ i < ρ.length) : ρ.sl i = .un := by unfold En.sl; rw [List.getD_eq_getElem?_getD, List.getElem?_eq_none (by simpa using h)]; rfl
theorem sl_in (h : ρ.sl i ≠ .un) : i < ρ.length := Decidable.byContradiction fun z => h (sl_out z)
theorem sl_setself (s : Sl) (h : i < ρ.length) : En.sl (ρ.set i s) i = s := by rw [sl_set, if_pos ⟨rfl, h⟩]
theorem sl_setne {j : Nat} (s : Sl) (h : j ≠ i) : En.sl (ρ.set i s) j = ρ.sl j := by rw [sl_set, if_neg fun z => h z.1]
/-- what owns no more is kept as it is -/
theorem Sok.dem1 (K : Sok S F0 A0 M0 H0 ρ σ H ω) (h : (ρ.sl i).own = some d) : Sok S F0 A0 M0 H0 (ρ.set i (demS (ρ.sl i))) σ H (cutW ω i) := by
  have hi : i < ρ.length := sl_in fun z => by rw [z] at h; cases h
  obtain ⟨a, w1, w2, w3⟩ := K.ow i d h
  have nF : ¬ FO F0 (cutW ω i) a := fun z => by
    rcases z with z | ⟨j, z⟩
    · exact (K.dom i a w1).2.2.1 z
    · unfold cutW at z
      split at z
      · cases z
      · rename_i hj
        exact hj (K.inj j i a z w1)
  have hown : (demS (ρ.sl i)).own = none := by cases ρ.sl i <;> rfl
  refine ⟨K.ext, by simpa using K.len, K.gd, K.f0, fun j e hj => ?_, fun j e hj => ?_, fun j k b hj hk => ?_, fun j c fs hj => ?_, fun j b hj => ?_, fun j dd b hj hk => ?_⟩
  · by_cases hji : j = i
    · subst hji
      rw [sl_setself _ hi] at hj
      cases q : ρ.sl j with
      | un => rw [q] at h; cases h
      | pl d' => rw [q] at h; cases h
      | mk d' => rw [q] at hj; cases hj
      | ow d' =>
        rw [q] at hj h
        cases hj; cases h
        exact ⟨_, w2, w3.rep (fun c fs z => K.no j c fs (by rw [q, z])) (fun _ z => z.cut) nF⟩
    · rw [sl_setne _ hji] at hj
      obtain ⟨v, h1, h2⟩ := K.pl j e hj
      exact ⟨v, h1, Rep.anti (fun _ z => z.cut) h2⟩
  · by_cases hji : j = i
    · subst hji
      rw [sl_setself _ hi, hown] at hj
      cases hj
    · rw [sl_setne _ hji] at hj
      obtain ⟨b, h1, h2, h3⟩ := K.ow j e hj
      exact ⟨b, by unfold cutW; rw [if_neg hji]; exact h1, h2, h3.anti fun _ z => z.cut⟩
  · unfold cutW at hj hk
    split at hj
    · cases hj
    · split at hk
      · cases hk
      · exact K.inj j k b hj hk
  · by_cases hji : j = i
    · subst hji
      rw [sl_setself _ hi] at hj
      rw [hj] at hown; cases hown
    · rw [sl_setne _ hji] at hj
      exact K.no j c fs hj
  · unfold cutW at hj
    split at hj
    · cases hj
    · rename_i hji
      rw [sl_setne _ hji]
      exact K.dom j b hj
  · unfold cutW at hk
    split at hk
    · cases hk
    · rename_i hji
      rw [sl_setne _ hji] at hj
      exact K.mka j dd b hj hk
theorem Sok.dem : ∀ (es : List Nat) {ρ : En} {ω : Nat → Option Addr}, Sok S F0 A0 M0 H0 ρ σ H ω → ∃ ω', Sok S F0 A0 M0 H0 (demE es ρ) σ H ω' ∧ (∀ a, FO F0 ω' a → FO F0 ω a) ∧ ∀ i, (ρ.sl i).own = none → ((demE es ρ).sl i).own = none
  | [], ρ, ω, K => ⟨ω, K, fun _ z => z, fun _ h => h⟩
  | i :: es, ρ, ω, K => by
    unfold demE
    cases q : (ρ.sl i).own with
    | none => exact Sok.dem es K
    | some d =>
      obtain ⟨ω', K', h1, h2⟩ := Sok.dem es (K.dem1 q)
      refine ⟨ω', K', fun a z => (h1 a z).cut, fun j hj => h2 j ?_⟩
      by_cases hji : j = i
      · subst hji; rw [q] at hj; cases hj
      · rw [sl_setne _ hji]; exact hj
theorem demE_own : ∀ (es : List Nat) {ρ : En}, ∀ i ∈ es, ((demE es ρ).sl i).own = none := by
  have keep : ∀ (es : List Nat) {ρ : En} {i : Nat}, (ρ.sl i).own = none → ((demE es ρ).sl i).own = none := by
    intro es
    induction es with
    | nil => intro ρ i h; exact h
    | cons j es ih =>
      intro ρ i h
      unfold demE
      cases q : (ρ.sl j).own with
      | none => exact ih h
      | some d =>
        refine ih ?_
        by_cases hij : i = j
        · subst hij; rw [q] at h; cases h
        · rw [sl_setne _ hij]; exact h
  intro es
  induction es with
  | nil => intro ρ i hi; cases hi
  | cons j es ih =>
    intro ρ i hi
    unfold demE
    rcases List.mem_cons.mp hi with rfl | hi
    · cases q : (ρ.sl i).own with
      | none => exact keep es q
      | some d =>
        refine keep es ?_
        have hl : i < ρ.length := sl_in fun z => by rw [z] at q; cases q
        rw [sl_setself _ hl]
        cases ρ.sl i <;> rfl
    · cases q : (ρ.sl j).own with
      | none => exact ih i hi
      | some d => exact ih i hi
/-- a slot takes a value that is not owned -/
theorem Sok.set (K : Sok S F0 A0 M0 H0 ρ σ H ω) (r : Rep S (FO F0 ω) H d v) : Sok S F0 A0 M0 H0 (ρ.set i (.pl d)) (σ.set i (some v)) H (cutW ω i) := by
  have out : ∀ {j : Nat}, j ≠ i → (σ.set i (some v))[j]? = σ[j]? := fun hj => List.getElem?_set_ne (Ne.symm hj)
  have inn : i < ρ.length → (σ.set i (some v))[i]? = some (some v) := fun hi => List.getElem?_set_self (Nat.lt_of_lt_of_le hi K.len)
  have off : ∀ {j : Nat}, j = i → ¬ i < ρ.length → En.sl (ρ.set i (.pl d)) j = .un := fun hj hi => by
    subst hj; rw [sl_set, if_neg fun z => hi z.2]; exact sl_out hi
  refine ⟨K.ext, by simpa using K.len, K.gd, K.f0, fun j e hj => ?_, fun j e hj => ?_, fun j k b hj hk => ?_, fun j c fs hj => ?_, fun j b hj => ?_, fun j dd b hj hk => ?_⟩
  · by_cases hji : j = i
    · by_cases hi : i < ρ.length
      · subst hji
        rw [sl_setself _ hi] at hj
        cases hj
        exact ⟨v, inn hi, Rep.anti (fun _ z => z.cut) r⟩
      · rw [off hji hi] at hj; cases hj
    · rw [sl_setne _ hji] at hj
      obtain ⟨v, h1, h2⟩ := K.pl j e hj
      exact ⟨v, by rw [out hji]; exact h1, Rep.anti (fun _ z => z.cut) h2⟩
  · by_cases hji : j = i
    · by_cases hi : i < ρ.length
      · subst hji
        rw [sl_setself _ hi] at hj
        cases hj
      · rw [off hji hi] at hj; cases hj
    · rw [sl_setne _ hji] at hj
      obtain ⟨b, h1, h2, h3⟩ := K.ow j e hj
      exact ⟨b, by unfold cutW; rw [if_neg hji]; exact h1, by rw [out hji]; exact h2, h3.anti fun _ z => z.cut⟩
  · unfold cutW at hj hk
    split at hj
    · cases hj
    · split at hk
      · cases hk
      · exact K.inj j k b hj hk
  · by_cases hji : j = i
    · by_cases hi : i < ρ.length
      · subst hji
        rw [sl_setself _ hi] at hj
        cases hj
      · rw [off hji hi] at hj; cases hj
    · rw [sl_setne _ hji] at hj
      exact K.no j c fs hj
  · unfold cutW at hj
    split at hj
    · cases hj
    · rename_i hji
      rw [sl_setne _ hji]
      exact K.dom j b hj
  · unfold cutW at hk
    split at hk
    · cases hk
    · rename_i hji
      rw [sl_setne _ hji] at hj
      exact K.mka j dd b hj hk
/-- a slot takes a new list or dict -/
theorem Sok.setOw {a : Addr} (K : Sok S F0 A0 M0 H0 ρ σ H ω) (e : Ext H H') (g : Gd S H') (hn : H a = none) (hd : ∀ c fs, d ≠ .obj c fs) (r : OwnR S (fun b => FO F0 ω b ∨ b = a) H' a d) (hi : i < ρ.length) : Sok S F0 A0 M0 H0 (ρ.set i (.ow d)) (σ.set i (some (.ref a))) H' (putW ω i a) := by
  have out : ∀ {j : Nat}, j ≠ i → (σ.set i (some (V.ref a)))[j]? = σ[j]? := fun hj => List.getElem?_set_ne (Ne.symm hj)
  have inn : (σ.set i (some (V.ref a)))[i]? = some (some (.ref a)) := List.getElem?_set_self (Nat.lt_of_lt_of_le hi K.len)
  have sub : ∀ b, FO F0 (putW ω i a) b → FO F0 ω b ∨ b = a := fun b z => by
    rcases z with z | ⟨j, z⟩
    · exact .inl (.inl z)
    · unfold putW at z
      split at z
      · cases z; exact .inr rfl
      · exact .inl (.inr ⟨j, z⟩)
  have h0 : H0 a = none := Decidable.byContradiction fun z => K.ext.st a z hn
  have nf : ¬ F0 a := fun z => K.f0 a z h0
  have nw : ∀ j, ω j ≠ some a := fun j z => (K.dom j a z).2.2.2 hn
  refine ⟨K.ext.then e, by simpa using K.len, g, K.f0, fun j e' hj => ?_, fun j e' hj => ?_, fun j k b hj hk => ?_, fun j c fs hj => ?_, fun j b hj => ?_, fun j dd b hj hk => ?_⟩
  · by_cases hji : j = i
    · subst hji
      rw [sl_setself _ hi] at hj
      cases hj
    · rw [sl_setne _ hji] at hj
      obtain ⟨v, h1, h2⟩ := K.pl j e' hj
      exact ⟨v, by rw [out hji]; exact h1, Rep.anti sub (Rep.ext e (Rep.plus hn h2))⟩
  · by_cases hji : j = i
    · subst hji
      rw [sl_setself _ hi] at hj
      cases hj
      exact ⟨a, by unfold putW; rw [if_pos rfl], inn, r.anti sub⟩
    · rw [sl_setne _ hji] at hj
      obtain ⟨b, h1, h2, h3⟩ := K.ow j e' hj
      exact ⟨b, by unfold putW; rw [if_neg hji]; exact h1, by rw [out hji]; exact h2, ((h3.plus hn).ext e).anti sub⟩
  · unfold putW at hj hk
    split at hj
    · rename_i h1
      cases hj
      split at hk
      · rename_i h2; rw [h1, h2]
      · exact absurd hk (nw k)
    · split at hk
      · cases hk; exact absurd hj (nw j)
      · exact K.inj j k b hj hk
  · by_cases hji : j = i
    · subst hji
      rw [sl_setself _ hi] at hj
      cases hj
      exact hd _ _ rfl
    · rw [sl_setne _ hji] at hj
      exact K.no j c fs hj
  · unfold putW at hj
    split at hj
    · rename_i h1
      cases hj
      subst h1
      exact ⟨⟨d, by rw [sl_setself _ hi]; rfl⟩, .inr h0, nf, r.some⟩
    · rename_i hji
      rw [sl_setne _ hji]
      obtain ⟨k1, k2, k3, k4⟩ := K.dom j b hj
      exact ⟨k1, k2, k3, e.some k4⟩
  · unfold putW at hk
    split at hk
    · rename_i hji
      subst hji
      rw [sl_setself _ hi] at hj
      cases hj
    · rename_i hji
      rw [sl_setne _ hji] at hj
      exact K.mka j dd b hj hk
/-- an owned object is written -/
theorem Sok.write {a : Addr} {s : Sl} {e' : D} {o : HO} (K : Sok S F0 A0 M0 H0 ρ σ H ω) (hw : ω i = some a) (hs : s.own = some e') (hno : ∀ c fs, s ≠ .ow (.obj c fs)) (hsp : ∀ d, s ≠ .pl d) (h0 : (ρ.sl i).own = some d) (hm : ∀ d', s = .mk d' → ∃ e, ρ.sl i = .mk e) (nt : ∀ ps, o ≠ .tbl ps)
    (r : ∀ H', H' a = some o → (∀ {ds vs}, Reps S (FO F0 ω) H ds vs → Reps S (FO F0 ω) H' ds vs) → OwnR S (FO F0 ω) H' a e') : Sok S F0 A0 M0 H0 (ρ.set i s) σ (L2.upd H a o) ω := by
  have hi : i < ρ.length := sl_in fun z => by rw [z] at h0; cases h0
  obtain ⟨a', w1, w2, w3⟩ := K.ow i d h0
  rw [hw] at w1; cases w1
  have Fa : FO F0 ω a := .inr ⟨i, hw⟩
  obtain ⟨u, hu, nt1, nf1, nb1, ne1⟩ : ∃ u, H a = some u ∧ (∀ xs, u ≠ .tup xs) ∧ (∀ q xs, u ≠ .frz q xs) ∧ (∀ ps, u ≠ .tbl ps) ∧ ∀ φ, u ≠ .ext φ := by
    cases d <;> first | exact w3.elim | skip
    · obtain ⟨vs, h1, _⟩ := w3; exact ⟨_, h1, fun _ z => (nomatch z), fun _ _ z => (nomatch z), fun _ z => (nomatch z), fun _ z => (nomatch z)⟩
    · obtain ⟨vs, h1, _⟩ := w3; exact ⟨_, h1, fun _ z => (nomatch z), fun _ _ z => (nomatch z), fun _ z => (nomatch z), fun _ z => (nomatch z)⟩
    · obtain ⟨dx, vs, h1, _⟩ := w3; exact ⟨_, h1, fun _ z => (nomatch z), fun _ _ z => (nomatch z), fun _ z => (nomatch z), fun _ z => (nomatch z)⟩
  have hA : A0 a ∨ H0 a = none := (K.dom i a hw).2.1
  refine ⟨⟨fun b o' e t q => ?_, fun b ps e => ?_, fun b e => ?_⟩, by simpa using K.len, K.gd.write hu nb1 ne1, K.f0, fun j e hj => ?_, fun j e hj => ?_, K.inj, fun j c fs hj => ?_, fun j b hj => ?_, fun j dd b hj hk => ?_⟩
  · have h1 := K.ext.to b o' e t q
    by_cases hb : b = a
    · subst hb
      rcases hA with z | z
      · rw [hu] at h1; cases h1
        rcases q z with ⟨xs, rfl⟩ | ⟨q', xs, rfl⟩
        · exact absurd rfl (nt1 _)
        · exact absurd rfl (nf1 _ _)
      · rw [z] at e; cases e
    · rw [upd_ne hb]; exact h1
  · obtain ⟨qs, h1⟩ := K.ext.tb b ps e
    refine ⟨qs, ?_⟩
    rw [upd_ne]
    · exact h1
    · rintro rfl; rw [hu] at h1; cases h1; exact nb1 _ rfl
  · by_cases hb : b = a
    · subst hb; rw [upd_same]; simp
    · rw [upd_ne hb]; exact K.ext.st b e
  · by_cases hji : j = i
    · subst hji
      rw [sl_setself _ hi] at hj
      exact absurd hj (hsp e)
    · rw [sl_setne _ hji] at hj
      obtain ⟨v, h1, h2⟩ := K.pl j e hj
      exact ⟨v, h1, Rep.upd Fa hu nt1 nf1 h2⟩
  · by_cases hji : j = i
    · subst hji
      rw [sl_setself _ hi, hs] at hj
      cases hj
      exact ⟨a, hw, w2, r _ upd_same fun h => Reps.upd Fa hu nt1 nf1 h⟩
    · rw [sl_setne _ hji] at hj
      obtain ⟨b, h1, h2, h3⟩ := K.ow j e hj
      have hba : b ≠ a := fun z => hji (K.inj j i a (by rw [← z]; exact h1) hw)
      refine ⟨b, h1, h2, ?_⟩
      cases e <;> first | exact h3.elim | skip
      · obtain ⟨vs, k1, k2⟩ := h3; exact ⟨vs, by rw [upd_ne hba]; exact k1, Reps.upd Fa hu nt1 nf1 k2⟩
      · obtain ⟨vs, k1, k3, k2⟩ := h3; exact ⟨vs, by rw [upd_ne hba]; exact k1, k3, Reps.upd Fa hu nt1 nf1 k2⟩
      · obtain ⟨dx, vs, k1, k3, k4, k2⟩ := h3; exact ⟨dx, vs, by rw [upd_ne hba]; exact k1, k3, k4, Reps.upd Fa hu nt1 nf1 k2⟩
  · by_cases hji : j = i
    · subst hji
      rw [sl_setself _ hi] at hj
      exact hno c fs hj
    · rw [sl_setne _ hji] at hj
      exact K.no j c fs hj
  · obtain ⟨k1, k2, k3, k4⟩ := K.dom j b hj
    refine ⟨?_, k2, k3, ?_⟩
    · by_cases hji : j = i
      · subst hji; exact ⟨e', by rw [sl_setself _ hi]; exact hs⟩
      · rw [sl_setne _ hji]; exact k1
    · by_cases hb : b = a
      · subst hb; rw [upd_same]; simp
      · rw [upd_ne hb]; exact k4
  · by_cases hji : j = i
    · subst hji
      rw [sl_setself _ hi] at hj
      obtain ⟨e, he⟩ := hm dd hj
      exact K.mka j e b he hk
    · rw [sl_setne _ hji] at hj
      exact K.mka j dd b hj hk
/-- from a nearer base to the first one -/
theorem Sok.back {A1 : Addr → Prop} {H1 : Hp} (e : ExtO A0 H0 H1) (hA : ∀ a, A1 a → A0 a ∨ H0 a = none) (h0 : ∀ a, F0 a → H0 a ≠ none) (K : Sok S F0 A1 M0 H1 ρ σ H ω) : Sok S F0 A0 M0 H0 ρ σ H ω :=
  ⟨e.trans K.ext hA, K.len, K.gd, h0, K.pl, K.ow, K.inj, K.no, fun i a h => (by
    obtain ⟨k1, k2, k3, k4⟩ := K.dom i a h
    exact ⟨k1, k2.elim (hA a) (fun z => .inr (Decidable.byContradiction fun w => e.st a w z)), k3, k4⟩), K.mka⟩
/-- the state that stands as a base -/
theorem Sok.base (K : Sok S F0 A0 M0 H0 ρ σ H ω) : Sok S F0 (fun a => ∃ j, ω j = some a) M0 H ρ σ H ω :=
  ⟨ExtO.refl _ _, K.len, K.gd, fun a z => K.ext.st a (K.f0 a z), K.pl, K.ow, K.inj, K.no, fun i a h => (by
    obtain ⟨k1, k2, k3, k4⟩ := K.dom i a h
    exact ⟨k1, .inl ⟨i, h⟩, k3, k4⟩), K.mka⟩
theorem Sok.own (K : Sok S F0 A0 M0 H0 ρ σ H ω) : ∀ a, (∃ j, ω j = some a) → A0 a ∨ H0 a = none := fun a ⟨j, h⟩ => (K.dom j a h).2.1
end
end PD
/-! Statements: outcomes, readings. -/
namespace PD
open PySem PySem.Spec PyProof.Rows L2
inductive Out | nx (ρ : En) | rt (d : D) | bk (ρ : En) | ct (ρ : En) | exc (c : Nat) (ρ : En) | bad
def Out.bind (o : Out) (k : En → Out) : Out := match o with
  | .nx ρ => k ρ
  | o => o
def liftR {α : Type} (r : Res α) (ρ : En) (k : α → Out) : Out := match r with
  | .ok a => k a
  | .exc c => .exc c ρ
  | .bad => .bad
@[simp] theorem liftR_ok {α : Type} (a : α) (ρ : En) (k : α → Out) : liftR (.ok a) ρ k = k a := rfl
def PostS (S : Stat) (W : WX) (F0 A0 M0 : Addr → Prop) (H0 : Hp) (r : Out) (D : Ends) : Prop := match r with
  | .nx ρ => ∀ σ H ω, Sok S F0 A0 M0 H0 ρ σ H ω → D.nx σ H
  | .rt d => ∀ v H, ExtO A0 H0 H → Gd S H → Rep S F0 H d v → D.rt v H
  | .bk ρ => ∀ σ H ω, Sok S F0 A0 M0 H0 ρ σ H ω → D.bk σ H
  | .ct ρ => ∀ σ H ω, Sok S F0 A0 M0 H0 ρ σ H ω → D.ct σ H
  | .exc c ρ => ∀ σ H ω, Sok S F0 A0 M0 H0 ρ σ H ω → W (.ref (S.eA c)) none σ H
  | .bad => False
def tS (S : Stat) (W : WX) (f : En → Out) : TS := fun D σ H => ∃ ρ F0 A0 M0 H0 ω, Sok S F0 A0 M0 H0 ρ σ H ω ∧ PostS S W F0 A0 M0 H0 (f ρ) D
def PMS (S : Stat) (W : WX) (X : Cx) (st : Stmt) (f : En → Out) : Prop := PS X st (tS S W f)
def PMSs (S : Stat) (W : WX) (X : Cx) (sts : List Stmt) (f : En → Out) : Prop := PSs X sts (tS S W f)
section
variable {S : Stat} {W : WX} {X : Cx} {F0 A0 M0 : Addr → Prop} {H0 H : Hp} {ρ : En} {σ : L2.St} {ω : Nat → Option Addr} {D : Ends} {md : Md} {es : List Nat}
/-- an expression ahead of the rest -/
theorem stepE {f : En → Res PD.D} {k : PD.D → Out} {R : VK} (K : Sok S F0 A0 M0 H0 ρ σ H ω) (h : PostS S W F0 A0 M0 H0 (liftR (f (demE es ρ)) (demE es ρ) k) D)
    (c : ∀ d v H1 ω', Sok S F0 A0 M0 H0 (demE es ρ) σ H1 ω' → Sok S F0 A0 M0 H0 (demE es ρ) σ H ω' → Ext H H1 → Gd S H1 → RepM S (FO F0 ω') md H H1 d v → PostS S W F0 A0 M0 H0 (k d) D → R v H1) : tM S W md f es σ H R := by
  obtain ⟨ω', K', _, _⟩ := K.dem es
  refine ⟨demE es ρ, FO F0 ω', K'.env (fun i hi => demE_own es i hi), ?_⟩
  cases q : f (demE es ρ) with
  | ok d => rw [q] at h; exact fun v H1 e g r => c d v H1 ω' (K'.to e g) K' e g r h
  | exc x => rw [q] at h; exact fun H1 e g => h σ H1 ω' (K'.to e g)
  | bad => rw [q] at h; exact h
theorem stepT {f : En → Res Bool} {k : Bool → Out} {R : Bool → Hp → Prop} (K : Sok S F0 A0 M0 H0 ρ σ H ω) (h : PostS S W F0 A0 M0 H0 (liftR (f (demE es ρ)) (demE es ρ) k) D)
    (c : ∀ b H1 ω', Sok S F0 A0 M0 H0 (demE es ρ) σ H1 ω' → PostS S W F0 A0 M0 H0 (k b) D → R b H1) : tT S W f es σ H R := by
  obtain ⟨ω', K', _, _⟩ := K.dem es
  refine ⟨demE es ρ, FO F0 ω', K'.env (fun i hi => demE_own es i hi), ?_⟩
  cases q : f (demE es ρ) with
  | ok d => rw [q] at h; exact fun H1 e g => c d H1 ω' (K'.to e g) h
  | exc x => rw [q] at h; exact fun H1 e g => h σ H1 ω' (K'.to e g)
  | bad => rw [q] at h; exact h
theorem stepI {f : En → Res (List PD.D)} {k : List PD.D → Out} {R : It → Hp → Prop} (K : Sok S F0 A0 M0 H0 ρ σ H ω) (h : PostS S W F0 A0 M0 H0 (liftR (f (demE es ρ)) (demE es ρ) k) D)
    (c : ∀ ds J H1 ω', Sok S F0 A0 M0 H0 (demE es ρ) σ H1 ω' → ItR S (FO F0 ω') H1 J ds → PostS S W F0 A0 M0 H0 (k ds) D → R J H1) : tI S W f es σ H R := by
  obtain ⟨ω', K', _, _⟩ := K.dem es
  refine ⟨demE es ρ, FO F0 ω', K'.env (fun i hi => demE_own es i hi), ?_⟩
  cases q : f (demE es ρ) with
  | ok d => rw [q] at h; exact fun J H1 e g r => c d J H1 ω' (K'.to e g) r h
  | exc x => rw [q] at h; exact fun H1 e g => h σ H1 ω' (K'.to e g)
  | bad => rw [q] at h; exact h
theorem PMSs.nil : PMSs S W X [] .nx := ⟨fun pins s σ H D I ⟨ρ, F0, A0, M0, H0, ω, K, h⟩ => pss_nil.run pins s σ H D I (h σ H ω K)⟩
theorem PostS.seq {f : Out} {g : En → Out} {D : Ends} (h : PostS S W F0 A0 M0 H0 (f.bind g) D) (hf : ∀ a, F0 a → H0 a ≠ none) : PostS S W F0 A0 M0 H0 f { D with nx := tS S W g D } := by
  cases f with
  | nx ρ => exact fun σ H ω K => ⟨ρ, F0, A0, M0, H0, ω, K, h⟩
  | rt d => exact h
  | bk ρ => exact h
  | ct ρ => exact h
  | exc c ρ => exact h
  | bad => exact h
theorem PMSs.cons {st : Stmt} {sts : List Stmt} {f g : En → Out} (h1 : PMS S W X st f) (h2 : PMSs S W X sts g) : PMSs S W X (st :: sts) (fun ρ => (f ρ).bind g) :=
  ⟨fun pins s σ H D I ⟨ρ, F0, A0, M0, H0, ω, K, h⟩ => (pss_cons h1 h2).run pins s σ H D I ⟨ρ, F0, A0, M0, H0, ω, K, h.seq K.f0⟩⟩
variable {e : PySem.Expr} {f : En → Res PD.D} {pos : Pos} {i : Nat}
theorem pms_pass : PMS S W X (.Pass pos) .nx := ⟨fun pins s σ H D I ⟨ρ, F0, A0, M0, H0, ω, K, h⟩ => ps_pass.run pins s σ H D I (h σ H ω K)⟩
theorem pms_brk : PMS S W X (.Break pos) .bk := ⟨fun pins s σ H D I ⟨ρ, F0, A0, M0, H0, ω, K, h⟩ => ps_break.run pins s σ H D I (h σ H ω K)⟩
theorem pms_cnt : PMS S W X (.Continue pos) .ct := ⟨fun pins s σ H D I ⟨ρ, F0, A0, M0, H0, ω, K, h⟩ => ps_continue.run pins s σ H D I (h σ H ω K)⟩
theorem Rep.out (h : Rep S (FO F0 ω) H d v) : Rep S F0 H d v := Rep.anti (fun _ z => .inl z) h
def retF (f : En → Res PD.D) (es : List Nat) : En → Out := fun ρ => liftR (f (demE es ρ)) (demE es ρ) .rt
theorem pms_ret (he : PM S W .esc X e f es) : PMS S W X (.Return (some e) pos) (retF f es) := ⟨fun pins s σ H D I ⟨ρ, F0, A0, M0, H0, ω, K, h⟩ => (ps_ret he).run pins s σ H D I
  (stepE K h fun d v H1 ω' K1 _ e g r h1 => h1 v H1 K1.ext g (Rep.out r))⟩
theorem pms_retN : PMS S W X (.Return none pos) (fun _ => .rt .non) := ⟨fun pins s σ H D I ⟨ρ, F0, A0, M0, H0, ω, K, h⟩ => ps_retN.run pins s σ H D I (h _ H K.ext K.gd Rep.mk_non)⟩
def dropF (f : En → Res PD.D) (es : List Nat) : En → Out := fun ρ => liftR (f (demE es ρ)) (demE es ρ) fun _ => .nx (demE es ρ)
theorem pms_drop (he : PM S W .esc X e f es) (hs : swapsWith e none pos.line X.env = pure false) : PMS S W X (.Expr e pos) (dropF f es) := ⟨fun pins s σ H D I ⟨ρ, F0, A0, M0, H0, ω, K, h⟩ => (ps_expr he hs).run pins s σ H D I
  (stepE K h fun d v H1 ω' K1 _ e g r h1 => h1 σ H1 ω' K1)⟩
def ifF (f : En → Res Bool) (es : List Nat) (a b : En → Out) : En → Out := fun ρ => liftR (f (demE es ρ)) (demE es ρ) fun t => if t then a (demE es ρ) else b (demE es ρ)
theorem pms_if {c : PySem.Expr} {p q : List Stmt} {t : En → Res Bool} {a b : En → Out} (hc : PMT S W X c t es) (ha : PMSs S W X p a) (hb : PMSs S W X q b) : PMS S W X (.If c p q pos) (ifF t es a b) := ⟨fun pins s σ H D I ⟨ρ, F0, A0, M0, H0, ω, K, h⟩ => (ps_if hc ha hb).run pins s σ H D I
  (stepT K h fun t H1 ω' K1 h1 => by
    cases t with
    | true => rw [if_pos rfl] at h1 ⊢; exact ⟨_, F0, A0, M0, H0, ω', K1, h1⟩
    | false => rw [if_neg Bool.false_ne_true] at h1 ⊢; exact ⟨_, F0, A0, M0, H0, ω', K1, h1⟩)⟩
/-- name = a value that may be shared -/
def asgF (f : En → Res PD.D) (es : List Nat) (i : Nat) : En → Out := fun ρ => liftR (f (demE es ρ)) (demE es ρ) fun d => .nx ((demE es ρ).set i (.pl d))
theorem pms_asg {st : Stmt} (h : PS X st (tAsg (tM S W .esc f es) (gName i))) : PMS S W X st (asgF f es i) := ⟨fun pins s σ H D I ⟨ρ, F0, A0, M0, H0, ω, K, hp⟩ => h.run pins s σ H D I
  (stepE K hp fun d v H1 ω' K1 _ e g r h1 => h1 _ H1 _ (K1.set r))⟩
/-- name = a new list or dict -/
def ownV (d : PD.D) (ρ : En) (i : Nat) : Out := match d with
  | .lst _ | .dic _ _ => if i < ρ.length then .nx (ρ.set i (.ow d)) else .bad
  | .obj _ _ => .bad
  | _ => .nx (ρ.set i (.pl d))
def ownF (f : En → Res PD.D) (es : List Nat) (i : Nat) : En → Out := fun ρ => liftR (f (demE es ρ)) (demE es ρ) fun d => ownV d (demE es ρ) i
theorem pms_own {st : Stmt} (h : PS X st (tAsg (tM S W .fr f es) (gName i))) : PMS S W X st (ownF f es i) := ⟨fun pins s σ H D I ⟨ρ, F0, A0, M0, H0, ω, K, hp⟩ => h.run pins s σ H D I
  (stepE K hp fun d v H1 ω' K1 K0 e g r h1 => by
    have r : RepF S (FO F0 ω') H H1 d v := r
    have fin : d.flat = true → gName i v σ H1 D.nx := fun hf => by
      have h1 : PostS S W F0 A0 M0 H0 (.nx ((demE es ρ).set i (.pl d))) D := by cases d <;> first | exact h1 | cases hf
      refine h1 _ H1 _ (K1.set ?_)
      cases d <;> first | exact r | cases hf
    cases d with
    | lst ds =>
      have h1 : PostS S W F0 A0 M0 H0 (if i < (demE es ρ).length then .nx ((demE es ρ).set i (.ow (.lst ds))) else .bad) D := h1
      split at h1
      · rename_i hi
        obtain ⟨a, vs, rfl, n, h2, h3⟩ := r
        exact h1 _ H1 _ (K0.setOw (i := i) e g n (fun _ _ z => nomatch z) ⟨vs, h2, h3⟩ hi)
      · exact h1.elim
    | dic ks ws =>
      have h1 : PostS S W F0 A0 M0 H0 (if i < (demE es ρ).length then .nx ((demE es ρ).set i (.ow (.dic ks ws))) else .bad) D := h1
      split at h1
      · rename_i hi
        obtain ⟨a, kvs, rfl, n, h2, h3, h4⟩ := r
        exact h1 _ H1 _ (K0.setOw (i := i) e g n (fun _ _ z => nomatch z) ⟨kvs, h2, h3, h4⟩ hi)
      · exact h1.elim
    | obj c fs => exact h1.elim
    | _ => exact fin rfl)⟩
end
end PD
/-! Statements: targets, append, for, raise, fields. -/
namespace PD
open PySem PySem.Spec PyProof.Rows L2
section
variable {S : Stat} {W : WX} {X : Cx} {F0 A0 M0 : Addr → Prop} {H0 H : Hp} {ρ ρ' : En} {σ : L2.St} {ω : Nat → Option Addr} {D : Ends} {md : Md} {es : List Nat} {e : PySem.Expr} {f : En → Res PD.D} {pos : Pos} {i : Nat}
theorem Sok.sets : ∀ {is : List Nat} {ds : List PD.D} {vs : List V} {ρ : En} {σ : L2.St} {ω : Nat → Option Addr}, ds.length = is.length → Sok S F0 A0 M0 H0 ρ σ H ω → Reps S (FO F0 ω) H ds vs → ∃ ω', Sok S F0 A0 M0 H0 (setsE ρ is ds) (setsV σ is vs) H ω' ∧ ∀ a, FO F0 ω' a → FO F0 ω a
  | [], [], vs, ρ, σ, ω, _, K, r => by cases r.nil_inv; exact ⟨ω, K, fun _ z => z⟩
  | [], _ :: _, _, _, _, _, hl, _, _ => by simp at hl
  | _ :: _, [], _, _, _, _, hl, _, _ => by simp at hl
  | i :: is, d :: ds, vs, ρ, σ, ω, hl, K, r => by
    obtain ⟨v, us, rfl, h1, h2⟩ := r.cons_inv
    obtain ⟨ω', K', hs⟩ := Sok.sets (is := is) (by simpa using hl) (K.set (i := i) h1) (Reps.anti (fun _ z => z.cut) h2)
    exact ⟨ω', K', fun a z => (hs a z).cut⟩
theorem Sok.bind {t : Tg} {d : PD.D} {v : V} {Q : L2.St → Hp → Prop} (K : Sok S F0 A0 M0 H0 ρ σ H ω) (r : Rep S (FO F0 ω) H d v) (b : bindT t d ρ = .ok ρ') (k : ∀ σ' ω', Sok S F0 A0 M0 H0 ρ' σ' H ω' → Q σ' H) : gM S.K t v σ H Q := by
  cases t with
  | one i =>
    cases b
    exact k _ _ (K.set r)
  | many is =>
    unfold bindT at b
    cases d with
    | tup ds =>
      dsimp only at b
      split at b
      · rename_i hl
        cases b
        unfold Rep at r
        obtain ⟨a, vs, rfl, h2, h3⟩ := r
        obtain ⟨ω', K', _⟩ := K.sets hl h3
        exact ⟨a, vs, rfl, .inl (SqT.of h2), by rw [h3.length]; exact hl, k _ _ K'⟩
      · cases b
    | lst ds =>
      dsimp only at b
      split at b
      · rename_i hl
        cases b
        unfold Rep at r
        obtain ⟨a, vs, rfl, _, h2, h3⟩ := r
        obtain ⟨ω', K', _⟩ := K.sets hl h3
        exact ⟨a, vs, rfl, .inr (.inl h2), by rw [h3.length]; exact hl, k _ _ K'⟩
      · cases b
    | _ => cases b
/-- a target, an expression -/
def asgTF (f : En → Res PD.D) (es : List Nat) (t : Tg) : En → Out := fun ρ => liftR (f (demE es ρ)) (demE es ρ) fun d => liftR (bindT t d (demE es ρ)) (demE es ρ) .nx
theorem pms_asgT {st : Stmt} {t : Tg} (h : PS X st (tAsg (tM S W .esc f es) (gM S.K t))) : PMS S W X st (asgTF f es t) := ⟨fun pins s σ H D I ⟨ρ, F0, A0, M0, H0, ω, K, hp⟩ => h.run pins s σ H D I
  (stepE K hp fun d v H1 ω' K1 _ e g r h1 => by
    cases q : bindT t d (demE es ρ) with
    | ok ρ1 => rw [q] at h1; exact K1.bind r q fun σ' ω' K' => h1 σ' H1 ω' K'
    | exc c =>
      exfalso
      unfold bindT at q
      split at q
      · cases q
      · split at q
        · split at q <;> cases q
        · split at q <;> cases q
        · cases q
    | bad => rw [q] at h1; exact h1.elim)⟩
/-- x.append(e) -/
def appF (f : En → Res PD.D) (es : List Nat) (i : Nat) : En → Out := fun ρ => match (demE es ρ).sl i with
  | .ow (.lst ds) => liftR (f (demE es ρ)) (demE es ρ) fun d => if ds.length < sizeLine then .nx ((demE es ρ).set i (.ow (.lst (ds ++ [d])))) else .bad
  | _ => .bad
theorem pms_app {x : Str} {px apos cpos : Pos} (hK : X.K = S.K) (hN : X.N[i]? = some x) (hv : Vis X.env.scope x) (hd : (x == ("__debug__" : Str)) = false) (hcd : (x == ("__classdict__" : Str)) = false) (he : PM S W .esc X e f es)
    (hfew : ((backTo cpos (starEach [e] X.env)).all (fun x => !x.1) && (backToKw cpos (keywordEach [] X.env)).all (fun x => x.1.isSome) && decide ([e].length + ([] : List Keyword).length + (if ([] : List Keyword).isEmpty then 0 else 1) < 30)) = true)
    (hline : (apos.endLine == cpos.line) = true) (hs : starEach [e] X.env = (false, eval e X.env) :: starEach [] X.env) :
    PMS S W X (.Expr (.Call (.Attribute (.Name x px) "append" apos) [e] [] cpos) pos) (appF f es i) :=
  ⟨fun pins s σ H D I ⟨ρ, F0, A0, M0, H0, ω, K, hp⟩ => (ps_expr (pe_bm F.plainAttrs_list F.slot_list_append F.type_list_append mt_append (pe_var hN hv hd hcd) (pa_cons he pa_nil hs) rfl hfew hline hs rfl) rfl).run pins s σ H D I (by
    obtain ⟨ω', K', _, hsub⟩ := K.dem es
    unfold appF at hp
    split at hp
    · rename_i ds ho
      obtain ⟨a, w1, w2, vs, w3, w4⟩ := K'.ow i _ (by rw [ho]; rfl)
      refine ⟨.ref a, w2, ?_, ?_⟩
      · rw [hK]; exact .inl ⟨rfl, vs, .inl (.inl w3)⟩
      refine stepE (md := .esc) K hp fun d v H1 ω1 K1 K0 e g r h1 => ?_
      split at h1
      · rename_i hl
        obtain ⟨a1, u1, u2, us, u3, u4⟩ := K1.ow i _ (by rw [ho]; rfl)
        rw [w2] at u2
        cases u2
        refine ⟨a, us, v, rfl, rfl, u3, by rw [u4.length]; exact hl, ?_⟩
        exact h1 σ _ ω1 (K1.write (s := .ow (.lst (ds ++ [d]))) u1 rfl (fun _ _ z => nomatch z) (fun _ z => nomatch z) (by rw [ho]; rfl) (fun _ z => nomatch z) (fun _ z => nomatch z) fun H' hH k => ⟨us ++ [v], hH, k (u4.append (Reps.cons r Reps.nil))⟩)
      · exact h1.elim
    · exact hp.elim)⟩
/-- for -/
def forL (t : Tg) (g : En → Out) : En → List PD.D → Out
  | ρ, [] => .nx ρ
  | ρ, d :: ds => liftR (bindT t d ρ) ρ fun ρ1 => match g ρ1 with
    | .nx ρ2 => forL t g ρ2 ds
    | .ct ρ2 => forL t g ρ2 ds
    | .bk ρ2 => .nx ρ2
    | o => o
def forF (fi : En → Res (List PD.D)) (es : List Nat) (t : Tg) (g : En → Out) : En → Out := fun ρ => liftR (fi (demE es ρ)) (demE es ρ) fun ds => forL t g (demE es ρ) ds
theorem bindT_noexc {t : Tg} {d : PD.D} {ρ : En} {c : Nat} : bindT t d ρ ≠ .exc c := by
  intro q
  unfold bindT at q
  split at q
  · cases q
  · split at q
    · split at q <;> cases q
    · split at q <;> cases q
    · cases q
theorem pms_for {tg iter : PySem.Expr} {body : List Stmt} {t : Tg} {fi : En → Res (List PD.D)} {g : En → Out} (hp : PassesOwn (model X.prog X.w) X.A X.env X.xe) (hc : X.calm = true) (hK : X.K = S.K) (hN : X.N.Nodup) (hi : PIM S W X tg iter fi es) (ht : TgAt X tg t) (hb : PMSs S W X body g)
    (hs : ∀ x, foldedSetIterable iter X.env x = pure x) : PMS S W X (.For tg iter body [] pos) (forF fi es t g) :=
  ⟨fun pins s σ H D I ⟨ρ, F0, A0, M0, H0, ω, K, hpo⟩ => (ps_for (g := gM S.K t) hp hc hi (by have z := ht.pg hN hc; rw [← hK]; exact z) hb hs).run pins s σ H D I
    (stepI K hpo fun ds J H1 ω1 K1 it h1 => by
      refine ⟨fun i m σ' H' => m = ds.length - i ∧ i ≤ ds.length ∧ ∃ ρ' ω', Sok S F0 (fun a => ∃ j, ω1 j = some a) M0 H1 ρ' σ' H' ω' ∧ PostS S W F0 A0 M0 H0 (forL t g ρ' (ds.drop i)) D, ⟨ds.length, by simp, Nat.zero_le _, _, ω1, K1.base, by simpa using h1⟩, ?_⟩
      rintro i m σ' H' ⟨rfl, hi', ρ', ω', K', h'⟩
      have it' : ItR S (FO F0 ω') H' J ds := it.move K'.ext (fun a z => .inr z) fun a z => by
        rcases z with z | ⟨j, z⟩
        · exact .inl (.inl z)
        · exact (K'.dom j a z).2.1.imp (fun z => .inr z) id
      have back : ∀ {ρ σ H ω}, Sok S F0 (fun a => ∃ j, ω1 j = some a) M0 H1 ρ σ H ω → Sok S F0 A0 M0 H0 ρ σ H ω := fun K => K.back K1.ext K1.own K1.f0
      by_cases hlt : i < ds.length
      · refine .inr ⟨it'.go hlt, fun σ2 H2 => ∃ ρ2 ω2, Sok S F0 (fun a => ∃ j, ω1 j = some a) M0 H1 ρ2 σ2 H2 ω2 ∧ PostS S W F0 A0 M0 H0 (forL t g ρ2 (ds.drop (i + 1))) D, fun σ2 H2 z => ⟨ds.length - (i + 1), by omega, rfl, hlt, z⟩, fun x H2 y => ?_⟩
        obtain ⟨rfl, rx⟩ := it'.yld hlt y
        rw [List.drop_eq_getElem_cons hlt] at h'
        unfold forL at h'
        cases b : bindT t ds[i] ρ' with
        | exc c => exact absurd b bindT_noexc
        | bad => rw [b] at h'; exact h'.elim
        | ok ρ1 =>
          rw [b] at h'
          refine K'.bind rx b fun σ3 ω3 K3 => ⟨ρ1, F0, _, M0, H1, ω3, K3, ?_⟩
          have h' : PostS S W F0 A0 M0 H0 (match g ρ1 with | .nx ρ2 => forL t g ρ2 (ds.drop (i + 1)) | .ct ρ2 => forL t g ρ2 (ds.drop (i + 1)) | .bk ρ2 => .nx ρ2 | o => o) D := h'
          cases q : g ρ1 with
          | nx ρ2 => rw [q] at h'; exact fun σ4 H4 ω4 K4 => ⟨ρ2, ω4, K4, h'⟩
          | ct ρ2 => rw [q] at h'; exact fun σ4 H4 ω4 K4 => ⟨ρ2, ω4, K4, h'⟩
          | bk ρ2 => rw [q] at h'; exact fun σ4 H4 ω4 K4 => h' σ4 H4 ω4 (back K4)
          | rt d => rw [q] at h'; exact fun v H4 e4 g4 r4 => h' v H4 (K1.ext.trans e4 K1.own) g4 r4
          | exc c ρ2 => rw [q] at h'; exact fun σ4 H4 ω4 K4 => h' σ4 H4 ω4 (back K4)
          | bad => rw [q] at h'; exact h'.elim
      · have e : i = ds.length := by omega
        subst e
        refine .inl ⟨it'.stop, ?_⟩
        rw [List.drop_length] at h'
        exact h' σ' H' ω' (back K'))⟩
/-- raise X('..') -/
theorem pms_raise {x m : Str} {j c : Nat} {p p2 p3 : Pos} {bmB : List Value} {B newId initId : String} (hc : X.calm = true) (tk : Takes X W) (Fx : ExcBaseFacts B newId initId bmB) (q : PySem.W.excIn X.K (S.eA c) bmB newId = true) (gC : X.mg x = some (.ref (S.eA c)))
    (kC : PySem.W.keepIn X.K (.ref (S.eA c)) = true) (r : Raises X (.ref (S.eA c))) (hg : Gl X x) (hdb : (x == ("__debug__" : Str)) = false) : PMS S W X (.Raise (some (.Call (.Name x p) [.Constant (.str m) j p2] [] p3)) none pos) (fun ρ => .exc c ρ) :=
  ⟨fun pins s σ H D I ⟨ρ, F0, A0, M0, H0, ω, K, hp⟩ => (ps_raise hc tk (pmk_own Fx q gC kC r hg hdb)).run pins s σ H D I (hp σ H ω K)⟩
/-- self.f = e, in the order of the fields -/
def fldF (S : Stat) (nm : Str) (f : En → Res PD.D) (es : List Nat) (i : Nat) (fN : Nat → List Str) : En → Out := fun ρ => match (demE es ρ).sl i with
  | .mk (.obj c fs) => if (fN c)[fs.length]? = some nm then liftR (f (demE es ρ)) (demE es ρ) fun d => .nx ((demE es ρ).set i (.mk (.obj c (fs ++ [d])))) else .bad
  | _ => .bad
theorem putF_new {f : Str} {v : V} : ∀ {fs : List (Str × V)}, (∀ p ∈ fs, p.1 ≠ f) → putF f v fs = fs ++ [(f, v)]
  | [], _ => rfl
  | (g, x) :: r, h => by
    unfold putF
    rw [if_neg (h (g, x) List.mem_cons_self), putF_new fun p hp => h p (List.mem_cons_of_mem _ hp)]
    rfl
theorem pms_fld {x nm : Str} {px apos : Pos} (hK : X.K = S.K) (hN : X.N[i]? = some x) (hv : Vis X.env.scope x) (hd : (x == ("__debug__" : Str)) = false) (hcd : (x == ("__classdict__" : Str)) = false) (hC : ∀ c, (S.fN c) ≠ [] → ClsAt S c) (he : PM S W .esc X e f es)
    (hs : swapsWith e (some (.Attribute (.Name x px) nm apos)) pos.line X.env = pure false) : PMS S W X (.Assign [.Attribute (.Name x px) nm apos] e pos) (fldF S nm f es i S.fN) :=
  ⟨fun pins s σ H D I ⟨ρ, F0, A0, M0, H0, ω, K, hp⟩ => (ps_fld (pe_var hN hv hd hcd) he hs).run pins s σ H D I (by
    unfold fldF at hp
    split at hp
    · rename_i c fs ho
      split at hp
      · rename_i hnm
        refine stepE (md := .esc) K hp fun d v H1 ω1 K1 K0 e g r h1 => ?_
        obtain ⟨a, u1, u2, dx, us, u3, u5, u6, u4⟩ := K1.ow i _ (by rw [ho]; rfl)
        have hlt : fs.length < (S.fN c).length := (List.getElem?_eq_some_iff.mp hnm).1
        have C := hC c (fun z => by rw [z] at hlt; simp at hlt)
        refine ⟨.ref a, u2, a, S.cA c, dx, _, rfl, u3, by rw [hK]; exact C.cls, by rw [hK]; exact C.no nm (List.mem_of_getElem? hnm), ?_, ?_⟩
        · have := C.few
          rw [List.length_zip, List.length_take]
          omega
        have hput : putF nm v (((S.fN c).take fs.length).zip us) = ((S.fN c).take (fs ++ [d]).length).zip (us ++ [v]) := by
          rw [putF_new]
          · rw [List.length_append, List.length_singleton, List.take_succ, hnm]
            rw [List.zip_append (by rw [List.length_take, u5]; omega)]
            rfl
          · intro p hp hpe
            have h1 := (List.of_mem_zip hp).1
            rw [hpe] at h1
            obtain ⟨k, hk, hk2⟩ := List.getElem_of_mem h1
            rw [List.length_take] at hk
            rw [List.getElem_take] at hk2
            have h2 := (List.getElem?_eq_some_iff.mp hnm).2
            have := (List.getElem_inj C.nd).mp (hk2.trans h2.symm)
            omega
        rw [hput]
        refine h1 σ _ ω1 (K1.write (s := .mk (.obj c (fs ++ [d]))) u1 rfl (fun _ _ z => nomatch z) (fun _ z => nomatch z) (by rw [ho]; rfl) (fun _ _ => ⟨_, ho⟩) (fun _ z => nomatch z) fun H' hH k => ⟨dx, us ++ [v], hH, by simp [u5], by rw [List.length_append, List.length_singleton]; exact hlt, k (u4.append (Reps.cons r Reps.nil))⟩)
      · exact hp.elim
    · exact hp.elim)⟩
end
end PD
/-! Statements: name op= e, while, try. -/
namespace PD
open PySem PySem.Spec PyProof.Rows L2
section
variable {S : Stat} {W : WX} {X : Cx} {F0 A0 M0 : Addr → Prop} {H0 H : Hp} {ρ ρ' : En} {σ : L2.St} {ω : Nat → Option Addr} {D : Ends} {md : Md} {es : List Nat} {e : PySem.Expr} {f : En → Res PD.D} {pos : Pos} {i : Nat}
/-- name += e, name -= e, of ints -/
inductive Aop | add | sub
def Aop.fn : Aop → Int → Int → Int
  | .add => fun x y => x + y
  | .sub => fun x y => x - y
def augF (o : Aop) (f : En → Res PD.D) (es : List Nat) (i : Nat) : En → Out := fun ρ => match (demE es ρ).sl i with
  | .pl (.int x) => liftR (f (demE es ρ)) (demE es ρ) fun d => match d with
    | .int y => .nx ((demE es ρ).set i (.pl (.int (o.fn x y))))
    | _ => .bad
  | _ => .bad
theorem pms_aug {x : Str} {px : Pos} {op : Operator} (o : Aop) (ho : (o = .add ∧ op = .Add) ∨ (o = .sub ∧ op = .Sub)) (hN : X.N.Nodup) (hi : X.N[i]? = some x) (hx : Loc X.env.scope x) (hf : X.fn x = true ∨ X.env.scope.names.lookup x = some .local) (he : PM S W .bor X e f es) : PMS S W X (.AugAssign (.Name x px) op e pos) (augF o f es i) := by
  have hop : PIp X op (ipI fun i j => o.fn i j) := by
    rcases ho with ⟨rfl, rfl⟩ | ⟨rfl, rfl⟩
    · exact ip_add
    · exact ip_sub
  refine ⟨fun pins s σ H D I ⟨ρ, F0, A0, M0, H0, ω, K, h⟩ => (ps_aug hN hi hx he hop hf).run pins s σ H D I ?_⟩
  unfold augF at h
  split at h
  · rename_i n hs
    obtain ⟨ω1, K1, _, _⟩ := K.dem es
    obtain ⟨v, hv, rv⟩ := K1.pl i _ hs
    have ev : v = .int n := by unfold Rep at rv; exact rv
    subst ev
    refine ⟨_, hv, stepE (md := .bor) K h fun d v H1 ω' K1 _ e g r h1 => ?_⟩
    cases d with
    | int y =>
      have r : RepT S (FO F0 ω') H1 (.int y) v := r
      cases r.int
      exact ⟨n, y, rfl, rfl, h1 _ H1 _ (K1.set (v := .int (o.fn n y)) (by unfold Rep; rfl))⟩
    | _ => exact h1.elim
  · exact h.elim
/-- while -/
def whlL (fc : En → Res Bool) (es : List Nat) (g : En → Out) : Nat → En → Out
  | 0, _ => .bad
  | n + 1, ρ => liftR (fc (demE es ρ)) (demE es ρ) fun t => if t then (match g (demE es ρ) with
    | .nx ρ2 => whlL fc es g n ρ2
    | .ct ρ2 => whlL fc es g n ρ2
    | .bk ρ2 => .nx ρ2
    | o => o) else .nx (demE es ρ)
def whlF (fc : En → Res Bool) (es : List Nat) (g : En → Out) : En → Out := whlL fc es g 100000
theorem pms_whl {c : PySem.Expr} {body : List Stmt} {fc : En → Res Bool} {g : En → Out} (hp : PassesOwn (model X.prog X.w) X.A X.env X.xe) (hc : PMT S W X c fc es) (hb : PMSs S W X body g) : PMS S W X (.While c body [] pos) (whlF fc es g) := by
  refine ⟨fun pins s σ H D I ⟨ρ, F0, A0, M0, H0, ω, K, h⟩ => (ps_while hp hc hb).run pins s σ H D I ?_⟩
  refine ⟨fun m σ' H' => ∃ ρ' ω', Sok S F0 A0 M0 H0 ρ' σ' H' ω' ∧ PostS S W F0 A0 M0 H0 (whlL fc es g m ρ') D, ⟨100000, ρ, ω, K, h⟩, ?_⟩
  rintro m σ' H' ⟨ρ', ω', K', h'⟩
  cases m with
  | zero => exact h'.elim
  | succ n =>
    refine stepT K' h' fun b H1 ω1 K1 h1 => ?_
    cases b with
    | false => rw [if_neg Bool.false_ne_true] at h1 ⊢; exact h1 _ _ _ K1
    | true =>
      rw [if_pos rfl] at h1 ⊢
      refine ⟨fun σ2 H2 => ∃ ρ2 ω2, Sok S F0 A0 M0 H0 ρ2 σ2 H2 ω2 ∧ PostS S W F0 A0 M0 H0 (whlL fc es g n ρ2) D, fun σ2 H2 z => ⟨n, Nat.lt_succ_self n, z⟩, ⟨_, F0, A0, M0, H0, ω1, K1, ?_⟩⟩
      cases q : g (demE es ρ') with
      | nx ρ2 => rw [q] at h1; exact fun σ4 H4 ω4 K4 => ⟨ρ2, ω4, K4, h1⟩
      | ct ρ2 => rw [q] at h1; exact fun σ4 H4 ω4 K4 => ⟨ρ2, ω4, K4, h1⟩
      | bk ρ2 => rw [q] at h1; exact h1
      | rt d => rw [q] at h1; exact h1
      | exc c ρ2 => rw [q] at h1; exact h1
      | bad => rw [q] at h1; exact h1.elim
/-! ### try: what stands when the body throws -/
def Sl.vl : Sl → Option PD.D
  | .pl d => some d
  | .ow d => some d
  | _ => none
def Sl.dm : Sl → Sl
  | .pl d => .pl d
  | .ow d => .pl d
  | _ => .un
def wipeF (M : List Nat) : Nat → En → En
  | _, [] => []
  | k, s :: ρ => (match M.contains k with | true => .un | false => s.dm) :: wipeF M (k + 1) ρ
def wipe (M : List Nat) (ρ : En) : En := wipeF M 0 ρ
def Keep (M : List Nat) (ρ ρ' : En) : Prop := ρ'.length = ρ.length ∧ ∀ i, M.contains i = false → ∀ d, (ρ.sl i).vl = some d → (ρ'.sl i).vl = some d
theorem Keep.refl (M : List Nat) (ρ : En) : Keep M ρ ρ := ⟨rfl, fun _ _ _ h => h⟩
theorem Keep.trans {M : List Nat} {ρ ρ1 ρ2 : En} (a : Keep M ρ ρ1) (b : Keep M ρ1 ρ2) : Keep M ρ ρ2 := ⟨b.1.trans a.1, fun i h d z => b.2 i h d (a.2 i h d z)⟩
theorem Keep.dem {M : List Nat} : ∀ (es : List Nat) (ρ : En), Keep M ρ (demE es ρ)
  | [], ρ => Keep.refl M ρ
  | i :: es, ρ => by
    unfold demE
    cases q : (ρ.sl i).own with
    | none => exact Keep.dem es ρ
    | some d =>
      refine Keep.trans ⟨by simp, fun j hj d' h => ?_⟩ (Keep.dem es _)
      by_cases e : j = i
      · subst e
        rw [sl_setself _ (sl_in fun z => by rw [z] at q; cases q)]
        cases w : ρ.sl j with
        | un => rw [w] at h; cases h
        | pl x => rw [w] at h; exact h
        | ow x => rw [w] at h; exact h
        | mk x => rw [w] at h; cases h
      · rw [sl_setne _ e]; exact h
theorem Keep.set {M : List Nat} {ρ : En} {i : Nat} {s : Sl} (h : M.contains i = true) : Keep M ρ (ρ.set i s) :=
  ⟨by simp, fun j hj d z => by rw [sl_setne _ (fun e => by rw [e, h] at hj; cases hj)]; exact z⟩
theorem wipeF_len (M : List Nat) : ∀ (ρ : En) (k : Nat), (wipeF M k ρ).length = ρ.length
  | [], _ => rfl
  | _ :: ρ, k => congrArg (· + 1) (wipeF_len M ρ (k + 1))
theorem wipeF_sl (M : List Nat) : ∀ (ρ : En) (k i : Nat), (wipeF M k ρ).sl i = match M.contains (k + i) with | true => .un | false => (ρ.sl i).dm
  | [], k, i => by
    show Sl.un = _
    split <;> rfl
  | s :: ρ, k, 0 => rfl
  | s :: ρ, k, i + 1 => by
    show (wipeF M (k + 1) ρ).sl i = _
    rw [wipeF_sl M ρ (k + 1) i, show k + 1 + i = k + (i + 1) from by omega]
    rfl
theorem dm_pl {s : Sl} {d : PD.D} (h : s.dm = .pl d) : s.vl = some d := by cases s <;> first | (cases h; rfl) | cases h
theorem dm_own {s : Sl} : s.dm.own = none := by cases s <;> rfl
theorem Sok.wipe {M : List Nat} (K : Sok S F0 A0 M0 H0 ρ' σ H ω) (k : Keep M ρ ρ') : Sok S F0 A0 M0 H0 (wipe M ρ) σ H (fun _ => none) := by
  have sl : ∀ i, (PD.wipe M ρ).sl i = match M.contains i with | true => .un | false => (ρ.sl i).dm := fun i => by
    have z := wipeF_sl M ρ 0 i
    rw [Nat.zero_add] at z
    exact z
  have no : ∀ i, ((PD.wipe M ρ).sl i).own = none := fun i => by
    rw [sl]
    split
    · rfl
    · exact dm_own
  refine ⟨K.ext, by unfold PD.wipe; rw [wipeF_len, ← k.1]; exact K.len, K.gd, K.f0, fun i d h => ?_, fun i d h => ?_, fun i j a h _ => (by cases h), fun i c fs h => ?_, fun i a h => (by cases h), fun i d a _ h => (by cases h)⟩
  · rw [sl] at h
    split at h
    · cases h
    rename_i hc
    have v := k.2 i hc d (dm_pl h)
    cases q : ρ'.sl i with
    | un => rw [q] at v; cases v
    | mk x => rw [q] at v; cases v
    | pl x =>
      rw [q] at v; cases v
      obtain ⟨v, h1, h2⟩ := K.pl i _ q
      exact ⟨v, h1, Rep.anti (fun a z => z.elim .inl fun ⟨_, z⟩ => nomatch z) h2⟩
    | ow x =>
      rw [q] at v; cases v
      obtain ⟨a, h1, h2, h3⟩ := K.ow i d (by rw [q]; rfl)
      exact ⟨_, h2, h3.rep (fun c fs z => K.no i c fs (by rw [q, z])) (fun b z => z.elim .inl fun ⟨_, z⟩ => nomatch z) fun z => z.elim (K.dom i a h1).2.2.1 fun ⟨_, z⟩ => nomatch z⟩
  · rw [no] at h; cases h
  · have z := no i
    rw [h] at z
    cases z
/-- try: the clauses by their classes -/
def hdsF (c : Nat) (o : Out) (ρ : En) : List (Nat × (En → Out)) → Out
  | [] => o
  | (c', g) :: r => if c = c' then g ρ else hdsF c o ρ r
def tryF (n : Nat) (M : List Nat) (g : En → Out) (hl : List (Nat × (En → Out))) : En → Out := fun ρ => match g ρ with
  | .exc c ρ' => if c < n then hdsF c (.exc c ρ') (wipe M ρ) hl else .bad
  | o => o
/-- a suite of an except clause -/
inductive HdsAt (S : Stat) (W : WX) (X : Cx) : List ExceptHandler → List (Nat × (En → Out)) → Prop
  | nil : HdsAt S W X [] []
  | cons {x : Str} {c : Nat} {g : En → Out} {b₀ : Stmt} {suite : List Stmt} {np pos' : Pos} {hds : List ExceptHandler} {l : List (Nat × (En → Out))} (hc : Names X x (.ref (S.eA c))) (hsu : ∀ (a : Addr) (pn : List (Addr × Obj)), PMSs S W (X.suite a pn) (b₀ :: suite) g) (r : HdsAt S W X hds l) :
      HdsAt S W X (.ExceptHandler (some (.Name x np)) none (b₀ :: suite) pos' :: hds) ((c, g) :: l)
theorem HdsAt.ok {hds : List ExceptHandler} {l : List (Nat × (En → Out))} (h : HdsAt S W X hds l) : HdsOk X hds (l.map fun p => (.ref (S.eA p.1), fun _ _ _ => tS S W p.2)) := by
  induction h with
  | nil => exact .nil
  | cons hc hsu r ih => exact .cons hc (fun a oe cls d pn _ _ => hsu a _) ih
theorem pms_try {M : List Nat} {body : List Stmt} {h₀ : ExceptHandler} {hds : List ExceptHandler} {g : En → Out} {l : List (Nat × (En → Out))} (hs : X.stack = X.env :: X.outer) (hf : X.env.frame = some X.env.locals) (tk : Takes X W) (hK : X.K = S.K)
    (n : Nat) (he : ∀ c c', c < n → c' < n → PySem.W.exmOne S.K (.ref (S.eA c)) (.ref (S.eA c')) = some (decide (c = c'))) (hl : ∀ p ∈ l, p.1 < n)
    (hb : ∀ (W' : WX) (pn : List (Addr × Obj)) (xe : Value → Shared → Prop), Takes (X.tr pn xe) W' → PassesOwn (model X.prog X.w) X.A X.env xe → PMSs S W' (X.tr pn xe) body g)
    (hk : ∀ ρ c ρ', g ρ = .exc c ρ' → Keep M ρ ρ') (hh : HdsAt S W X (h₀ :: hds) l) : PMS S W X (.Try body (h₀ :: hds) [] [] pos) (tryF n M g l) := by
  refine ⟨fun pins s σ H D I ⟨ρ, F0, A0, M0, H0, ω, K, h⟩ => (ps_try_many (tb := fun W' => tS S W' g) hs hf tk (fun W' pn xe t p => hb W' pn xe t p) hh.ok).run pins s σ H D I ?_⟩
  refine ⟨ρ, F0, A0, M0, H0, ω, K, ?_⟩
  unfold tryF at h
  cases q : g ρ with
  | nx ρ' => rw [q] at h; exact h
  | rt d => rw [q] at h; exact h
  | bk ρ' => rw [q] at h; exact h
  | ct ρ' => rw [q] at h; exact h
  | bad => rw [q] at h; exact h.elim
  | exc c ρ' =>
    rw [q] at h
    have h : PostS S W F0 A0 M0 H0 (if c < n then hdsF c (.exc c ρ') (wipe M ρ) l else .bad) D := h
    by_cases hc : c < n
    rotate_left
    · rw [if_neg hc] at h; exact h.elim
    rw [if_pos hc] at h
    intro σ' H' ω' K'
    have key : ∀ l' : List (Nat × (En → Out)), (∀ p ∈ l', p ∈ l) → PostS S W F0 A0 M0 H0 (hdsF c (.exc c ρ') (wipe M ρ) l') D → wMany X.K W D (l'.map fun p => (.ref (S.eA p.1), fun _ _ _ => tS S W p.2)) (.ref (S.eA c)) none σ' H' := by
      intro l'
      induction l' with
      | nil => intro _ h; exact h σ' H' ω' K'
      | cons p r ih =>
        intro hm h
        obtain ⟨c', g'⟩ := p
        refine ⟨decide (c = c'), by rw [hK]; exact he c c' hc (hl _ (hm _ List.mem_cons_self)), fun hy a _ => ?_, fun hn => ?_⟩
        · have e : c = c' := of_decide_eq_true hy
          have h : PostS S W F0 A0 M0 H0 (if c = c' then g' (wipe M ρ) else hdsF c (.exc c ρ') (wipe M ρ) r) D := h
          rw [if_pos e] at h
          exact ⟨_, F0, A0, M0, H0, _, K'.wipe (hk _ _ _ q), h⟩
        · have e : ¬ c = c' := of_decide_eq_false hn
          have h : PostS S W F0 A0 M0 H0 (if c = c' then g' (wipe M ρ) else hdsF c (.exc c ρ') (wipe M ρ) r) D := h
          rw [if_neg e] at h
          exact ih (fun p hp => hm p (List.mem_cons_of_mem _ hp)) h
    exact key l (fun p hp => hp) h
end
end PD
/-! Statements: name[name] = e, a dict with tuples as keys. -/
namespace PD
open PySem PySem.Spec PyProof.Rows L2
section
variable {S : Stat} {W : WX} {X : Cx} {F0 A0 M0 : Addr → Prop} {H0 H : Hp} {ρ ρ' : En} {σ : L2.St} {ω : Nat → Option Addr} {D : Ends} {md : Md} {es : List Nat} {e : PySem.Expr} {f : En → Res PD.D} {pos : Pos} {i j : Nat}
def stoF (f : En → Res PD.D) (es : List Nat) (i j : Nat) : En → Out := fun ρ => match (demE es ρ).sl i, (demE es ρ).sl j with
  | .ow (.dic ks ws), .pl k => liftR (f (demE es ρ)) (demE es ρ) fun d => match keyOf k with
    | some kk => if ks.length < sizeLine then .nx ((demE es ρ).set i (.ow (putD ks ws kk d))) else .bad
    | none => .bad
  | _, _ => .bad
theorem ownR_put {F : Addr → Prop} {a : Addr} {kvs : List (List Key × V)} {ws : List PD.D} {k : List Key} {d : PD.D} {v : V} (h : H a = some (.dT (putK kvs k v))) (rw_ : Reps S F H ws (kvs.map (·.2))) (r : Rep S F H d v) : OwnR S F H a (putD (kvs.map fun p => keyD p.1) ws k d) := by
  obtain ⟨ws', e, z⟩ := putD_rep (k := k) rw_ r
  rw [e]
  exact ⟨_, h, rfl, z⟩
theorem pms_sto {x y : Str} {px py pos' : Pos} (hu : X.A.units + 1 < cLine) (hNx : X.N[i]? = some x) (hvx : Vis X.env.scope x) (hdx : (x == ("__debug__" : Str)) = false) (hcx : (x == ("__classdict__" : Str)) = false)
    (hNy : X.N[j]? = some y) (hvy : Vis X.env.scope y) (hdy : (y == ("__debug__" : Str)) = false) (hcy : (y == ("__classdict__" : Str)) = false)
    (he : PM S W .esc X e f es) (hs : swapsWith e (some (.Subscript (.Name x px) (.Name y py) pos')) pos.line X.env = pure false) : PMS S W X (.Assign [.Subscript (.Name x px) (.Name y py) pos'] e pos) (stoF f es i j) :=
  ⟨fun pins s σ H D I ⟨ρ, F0, A0, M0, H0, ω, K, hp⟩ => (ps_dput hu (pe_var hNx hvx hdx hcx) (pe_var hNy hvy hdy hcy) he hs).run pins s σ H D I (by
    unfold stoF at hp
    split at hp
    · rename_i ks ws k ho hk
      refine stepE (md := .esc) K hp fun d v H1 ω1 K1 K0 e g r h1 => ?_
      split at h1
      · rename_i kk hkk
        split at h1
        · rename_i hl
          obtain ⟨a, u1, u2, kvs, u3, rfl, u4⟩ := K1.ow i _ (by rw [ho]; rfl)
          obtain ⟨w, w1, w2⟩ := K1.pl j _ hk
          obtain ⟨b, rfl, hb⟩ := keyOf_rep hkk (Rep.toT w2)
          refine ⟨.ref a, u2, .ref b, w1, a, _, rfl, .t u3 hb (by simpa using hl), ?_⟩
          exact h1 σ _ ω1 (K1.write (s := .ow (putD _ ws kk d)) u1 rfl (fun c fs z => by
            unfold putD at z
            split at z <;> cases z) (fun _ z => nomatch z) (by rw [ho]; rfl) (fun _ z => nomatch z) (fun _ z => nomatch z) fun H' hH k => ownR_put hH (k u4) (by
              obtain ⟨_, _, e1, e2, e3⟩ := Reps.cons_inv (k (Reps.cons r Reps.nil))
              cases e1
              exact e2))
        · exact h1.elim
      · exact h1.elim
    · exact hp.elim)⟩
end
end PD
/-! Deep: statements, what they do, the check. -/
namespace PD
open PySem PySem.Spec PyProof.Rows L2
/-- what stands in an except clause -/
inductive Hb where
  | ret (e : Ex) | asg (i : Nat) (e : Ex) | pass
inductive Sm where
  | asg (i : Nat) (e : Ex) | own (i : Nat) (e : Ex) | asgT (is : List Nat) (e : Ex) | app (i : Nat) (e : Ex)
  | ifs (c : Ex) (a b : Sm) | fors (k : IK) (t : Tg) (it : Ex) (b : Sm)
  | ret (e : Ex) | retN | pass | brk | cnt | drop (e : Ex) | raise (c : Nat) | fld (i : Nat) (nm : Str) (e : Ex)
  | aug (i : Nat) (o : Aop) (e : Ex) | whl (c : Ex) (b : Sm) | tr (n : Nat) (M : List Nat) (b : Sm) (hs : List (Nat × Hb)) | sto (i j : Nat) (e : Ex)
  | nil | cons (s r : Sm)
def exH (Φ : Fs) : Hb → En → Out
  | .ret e => fun ρ => (retF (ev Φ e) (slx true e) ρ).bind .nx
  | .asg i e => fun ρ => (asgF (ev Φ e) (slx true e) i ρ).bind .nx
  | .pass => fun ρ => (Out.nx ρ).bind .nx
def Hb.sm : Hb → Sm
  | .ret e => .cons (.ret e) .nil
  | .asg i e => .cons (.asg i e) .nil
  | .pass => .cons .pass .nil
def exS (Φ : Fs) (fN : Nat → List Str) : Sm → En → Out
  | .asg i e => asgF (ev Φ e) (slx true e) i
  | .own i e => ownF (ev Φ e) (slx true e) i
  | .asgT is e => asgTF (ev Φ e) (slx true e) (.many is)
  | .app i e => appF (ev Φ e) (slx true e) i
  | .ifs c a b => ifF (fun ρ => (ev Φ c ρ).bind asB) (slx false c) (exS Φ fN a) (exS Φ fN b)
  | .fors k t it b => forF (evI Φ k it) (slI k it) t (exS Φ fN b)
  | .ret e => retF (ev Φ e) (slx true e)
  | .retN => fun _ => .rt .non
  | .pass => .nx
  | .brk => .bk
  | .cnt => .ct
  | .drop e => dropF (ev Φ e) (slx true e)
  | .raise c => fun ρ => .exc c ρ
  | .fld i nm e => fldF0 nm (ev Φ e) (slx true e) i fN
  | .aug i o e => augF o (ev Φ e) (slx false e) i
  | .whl c b => whlF (fun ρ => (ev Φ c ρ).bind asB) (slx false c) (exS Φ fN b)
  | .tr n M b hs => tryF n M (exS Φ fN b) (hs.map fun p => (p.1, exH Φ p.2))
  | .sto i j e => stoF (ev Φ e) (slx true e) i j
  | .nil => .nx
  | .cons s r => fun ρ => (exS Φ fN s ρ).bind (exS Φ fN r)
where fldF0 (nm : Str) (f : En → Res D) (es : List Nat) (i : Nat) (fN : Nat → List Str) : En → Out := fun ρ => match (demE es ρ).sl i with
  | .mk (.obj c fs) => if (fN c)[fs.length]? = some nm then liftR (f (demE es ρ)) (demE es ρ) fun d => .nx ((demE es ρ).set i (.mk (.obj c (fs ++ [d])))) else .bad
  | _ => .bad
def noComp : PySem.Expr → Bool
  | .ListComp _ _ _ _ | .SetComp _ _ _ _ | .DictComp _ _ _ _ _ => false
  | _ => true
def notTup : PySem.Expr → Bool
  | .Tuple _ _ _ => false
  | _ => true
/-- how a name takes a comprehension -/
def swB (C : TC) (x : Str) (px : Pos) (v : PySem.Expr) : Bool := match v with
  | .ListComp _ _ scope vpos => (match C.sc.names.lookup x with
    | some .local => (px.line == vpos.line) && !(scope.names.any fun (n, k) => n == x && (k == .local || k == .cell))
    | some .cell => true
    | _ => false)
  | .SetComp _ _ _ _ | .DictComp _ _ _ _ _ => false
  | _ => true
def augB : Aop → Operator → Bool
  | .add, .Add | .sub, .Sub => true
  | _, _ => false
def hxB : Ex → Bool
  | .var _ | .int _ | .bl _ | .non | .str _ | .nt (.var _) | .bin .add (.var _) (.int _) => true
  | _ => false
def tieH (C : TC) : Hb → Stmt → Bool
  | .ret e, .Return (some v) _ => tie C e v && hxB e
  | .asg i e, .Assign [.Name x _] v _ => decide (C.N[i]? = some x) && locB C x && tie C e v && hxB e && noComp v
  | .pass, .Pass _ => true
  | _, _ => false
def tieHs (C : TC) : List (Nat × Hb) → List ExceptHandler → Bool
  | [], [] => true
  | (c, h) :: r, .ExceptHandler (some (.Name x _)) none [st] _ :: hds => C.exs.contains (x, c) && glB C.sc x && ndB x && tieH C h st && tieHs C r hds
  | _, _ => false
/-- slots outside of M are not written -/
def keepB (M : List Nat) : Sm → Bool
  | .nil | .pass | .retN | .ret _ | .drop _ | .raise _ | .brk | .cnt => true
  | .cons s r => keepB M s && keepB M r
  | .asg i _ => M.contains i
  | .ifs _ a b => keepB M a && keepB M b
  | _ => false
mutual
def tieS (C : TC) : Sm → Stmt → Bool
  | .asg i e, .Assign [.Name x px] v _ => decide (C.N[i]? = some x) && locB C x && tie C e v && okx e && swB C x px v
  | .own i e, .Assign [.Name x px] v _ => decide (C.N[i]? = some x) && locB C x && tie C e v && okx e && swB C x px v && frx e
  | .asgT is e, .Assign [.Tuple es _ _] v _ => namesB C es is && tie C e v && okx e && noComp v && notTup v
  | .app i e, .Expr (.Call (.Attribute (.Name x _) m apos) [y] [] cpos) _ => decide (m = ("append" : Str)) && decide (C.N[i]? = some x) && visB C.sc x && ndB x && tie C e y && okx e && notStar y && (apos.endLine == cpos.line)
  | .ifs c a b, .If c' a' b' _ => tie C c c' && okx c && noIte c && tieB C a a' && tieB C b b'
  | .fors k t it b, .For tg iter body [] _ => tgB C t tg && itB C k it iter && okx it && tieB C b body
  | .ret e, .Return (some v) _ => tie C e v && okx e
  | .retN, .Return none _ => true
  | .pass, .Pass _ => true
  | .brk, .Break _ => true
  | .cnt, .Continue _ => true
  | .drop e, .Expr v _ => tie C e v && okx e && noComp v
  | .raise c, .Raise (some (.Call (.Name x _) [.Constant (.str _) _ _] [] _)) none _ => C.exs.contains (x, c) && glB C.sc x && ndB x
  | .fld i nm e, .Assign [.Attribute (.Name x _) nm' _] v _ => decide (C.N[i]? = some x) && visB C.sc x && ndB x && decide (nm = nm') && tie C e v && okx e && noComp v
  | .aug i o e, .AugAssign (.Name x _) op v _ => decide (C.N[i]? = some x) && locB C x && augB o op && tie C e v && okx e
  | .whl c b, .While c' body [] _ => tie C c c' && okx c && noIte c && tieB C b body
  | .tr n M b hs, .Try body (h :: hds) [] [] _ => tieB C b body && keepB M b && tieHs C hs (h :: hds) && (hs.all fun p => decide (p.1 < n)) && ((List.range n).all fun c => (C.exs.map (·.2)).contains c)
  | .sto i j e, .Assign [.Subscript (.Name x _) (.Name y _) _] v _ => decide (C.N[i]? = some x) && visB C.sc x && ndB x && decide (C.N[j]? = some y) && visB C.sc y && ndB y && tie C e v && okx e && noComp v
  | _, _ => false
def tieB (C : TC) : Sm → List Stmt → Bool
  | .nil, [] => true
  | .cons s r, x :: xs => tieS C s x && tieB C r xs
  | _, _ => false
end
/-- what is told of own exceptions -/
structure GExc (S : Stat) (C : TC) (mg : Str → Option Value) : Prop where
  ex : ∀ x c, (x, c) ∈ C.exs → ∃ (bmB : List Value) (B newId initId : String), ExcBaseFacts B newId initId bmB ∧ PySem.W.excIn S.K (S.eA c) bmB newId = true ∧ mg x = some (.ref (S.eA c)) ∧ PySem.W.keepIn S.K (.ref (S.eA c)) = true ∧
    PySem.W.subIn S.K (.ref (S.eA c)) (.type "BaseException") = some true ∧ PySem.W.typeIn S.K (.ref (S.eA c)) = some (.type "type")
  exm : ∀ x c x' c', (x, c) ∈ C.exs → (x', c') ∈ C.exs → PySem.W.exmOne S.K (.ref (S.eA c)) (.ref (S.eA c')) = some (decide (c = c'))
/-- the context of statements -/
structure CxS (S : Stat) (C : TC) (Φ : Fs) (L : Nat) (X : Cx) : Prop extends CxOk S C Φ L X where
  pass : PassesOwn (model X.prog X.w) X.A X.env X.xe
  exc : GExc S C X.mg
  kind : X.env.scope.kind = .function
  cl : ∀ c, S.fN c ≠ [] → ClsAt S c
  stk : X.stack = X.env :: X.outer
  frm : X.env.frame = some X.env.locals
section
variable {S : Stat} {C : TC} {Φ : Fs} {L : Nat} {X : Cx} {W : WX} {md : Md}
theorem exS_fld {i : Nat} {nm : Str} {e : Ex} : exS Φ S.fN (.fld i nm e) = fldF S nm (ev Φ e) (slx true e) i S.fN := rfl
/-- name = [..] on one line -/
theorem ps_lc {i : Nat} {y : Str} {py spos pos : Pos} {elt tg iter : PySem.Expr} {ifs : List PySem.Expr} {scope : Scope} {own : List (Str × Nat)} {t : Tg} {fi : En → Res (List D)} {fc : En → Res Bool} {fe : En → Res D} {ei ec ee : List Nat} (hc : X.calm = true) (hK : X.K = S.K) (hN : X.N.Nodup) (hy : X.N[i]? = some y)
    (hyl : X.env.scope.names.lookup y = some .local) (hsw : swapsWith (.ListComp elt [⟨tg, iter, ifs, 0⟩] scope pos) (some (.Name y py)) spos.line X.env = pure true) (hi : PIM S W X tg iter fi ei) (ok : BlkOk X.N X.env.scope scope own) (hsub : ∀ i ∈ t.slots, i ∈ own.map (·.2))
    (hg : ∀ (s : Shared) (H : Hp) (C : Addr) (cl : List (Str × Addr)) (fp : List Addr), TgAt (X.blk s H scope (compEnvC scope cl C X.env) fp) tg t)
    (ht : ∀ (s : Shared) (H : Hp) (C : Addr) (cl : List (Str × Addr)) (fp : List Addr), PTs (X.blk s H scope (compEnvC scope cl C X.env) fp) ifs (tT S W0 fc ec))
    (he : ∀ (s : Shared) (H : Hp) (C : Addr) (cl : List (Str × Addr)) (fp : List Addr), PM S W0 .esc (X.blk s H scope (compEnvC scope cl C X.env) fp) elt fe ee) (hs : ∀ x, foldedSetIterable iter X.env x = pure x) :
    PS X (.Assign [.Name y py] (.ListComp elt [⟨tg, iter, ifs, 0⟩] scope pos) spos) (tAsg (tM S W md (lcF (own.map (·.2)) t fi fc fe) (ei ++ outE (own.map (·.2)) (ec ++ ee))) (gName i)) :=
  ⟨fun pins s σ H D I h => (ps_setLc (g := gM S.K t) hc hN hy hyl hsw hi ok (fun s H C cl fp => by have z := TgAt.pg (X := X.blk s H scope (compEnvC scope cl C X.env) fp) hN hc (hg s H C cl fp); rw [← hK]; exact z) ht he hs).run pins s σ H D I (lc_read hsub h)⟩
/-- name = e -/
theorem set_sound {i : Nat} {x : Str} {px pos : Pos} {e : Ex} {v : PySem.Expr} (ok : CxOk S C Φ L X) (hk : X.env.scope.kind = .function) (tk : Takes X W) (h1 : C.N[i]? = some x) (h2 : locB C x = true) (h3 : tie C e v = true) (h4 : okx e = true) (h5 : swB C x px v = true) :
    PS X (.Assign [.Name x px] v pos) (tAsg (tM S W .esc (ev Φ e) (slx true e)) (gName i)) ∧ (frx e = true → PS X (.Assign [.Name x px] v pos) (tAsg (tM S W .fr (ev Φ e) (slx true e)) (gName i))) := by
  have A := snd ok tk h4 h3
  have hN : X.N[i]? = some x := by rw [ok.N]; exact h1
  obtain ⟨l1, l2⟩ := ok.loc h2
  have plain : ∀ (hs : swapsWith v (some (.Name x px)) pos.line X.env = pure false), PS X (.Assign [.Name x px] v pos) (tAsg (tM S W .esc (ev Φ e) (slx true e)) (gName i)) ∧ (frx e = true → PS X (.Assign [.Name x px] v pos) (tAsg (tM S W .fr (ev Φ e) (slx true e)) (gName i))) :=
    fun hs => ⟨ps_set ok.nd' hN l1 A.esc hs l2, fun hf => ps_set ok.nd' hN l1 (A.fr hf) hs l2⟩
  cases v
  case ListComp el gs scope vpos =>
    unfold swB at h5
    dsimp only at h5
    split at h5
    · rename_i hl
      simp only [Bool.and_eq_true, Bool.not_eq_true'] at h5
      have hsw : swapsWith (.ListComp el gs scope vpos) (some (.Name x px)) pos.line X.env = pure true := sw_true hk (by rw [ok.sc]; exact hl) h5.1 h5.2
      cases e <;> try exact absurd h3 Bool.false_ne_true
      rename_i k vs t it c e
      rcases gs with _ | ⟨⟨tg, iter, ifs, asy⟩, _ | ⟨g2, gs⟩⟩ <;> try (first | exact absurd h3 Bool.false_ne_true | (simp [tie] at h3; done))
      by_cases h0 : asy = 0
      rotate_left
      · simp [tie, h0] at h3
      subst h0
      have h3 : (blkC C.N C.sc scope (ownOf C.N vs) && t.slots.all (vs.contains ·) && tgB (C.blk scope) t tg && itB C k it iter && ifsB (C.blk scope) c ifs && tie (C.blk scope) e el) = true := h3
      simp only [Bool.and_eq_true] at h3
      obtain ⟨⟨⟨⟨⟨g1, g2⟩, g3⟩, g4⟩, g5⟩, g6⟩ := h3
      simp only [okx, Bool.and_eq_true] at h4
      have bi := snd_both (S := S) (Φ := Φ) (L := L) it h4.1.1.1
      have hI := snd_it (tg := tg) ok g4 (fun x hx => bi.1 x C X W ok tk hx) fun xs hx => bi.2 xs C X W ok tk hx
      have own := ownOf_slots C.N vs
      have key : ∀ md, PS X (.Assign [.Name x px] (.ListComp el [⟨tg, iter, ifs, 0⟩] scope vpos) pos) (tAsg (tM S W md (ev Φ (.lc k vs t it c e)) (slx true (.lc k vs t it c e))) (gName i)) := fun md => by
        have key := ps_lc (S := S) (W := W) (X := X) (md := md) (own := ownOf C.N vs) (t := t) (pos := vpos) (scope := scope) (fc := evC Φ c) (fe := ev Φ e) (ec := slx false c) (ee := slx true e) (ifs := ifs) (elt := el) ok.calm ok.K ok.nd' hN (by rw [ok.sc]; exact hl) hsw hI (by rw [ok.N, ok.sc]; exact blkOk_by g1) (by rw [own]; exact all_sub g2)
          (fun s H Ca cl fp => (ok.blk scope s H Ca cl fp).tg g3) (fun s H Ca cl fp => cond_by (snd_both c h4.1.1.2).1 h4.2 g5 _ (ok.blk scope s H Ca cl fp)) (fun s H Ca cl fp => ((snd_both e h4.1.2).1 _ _ _ _ (ok.blk scope s H Ca cl fp) takes_none5 g6).esc) (it_plain g4 X.env).1
        rw [own] at key
        rw [ev_lc]
        exact key
      exact ⟨key .esc, fun _ => key .fr⟩
    · rename_i hl
      refine plain ?_
      have hki : X.env.kindOf x = some .cell := by unfold Env.kindOf; rw [ok.sc]; exact hl
      unfold swapsWith
      simp only [hki]
      cases X.env.blockKind <;> rfl
    · cases h5
  all_goals first | (exact absurd h5 Bool.false_ne_true) | exact plain rfl
theorem sw_none {v : PySem.Expr} (h : noComp v = true) (t : Option PySem.Expr) (n : Nat) (env : Env) : swapsWith v t n env = pure false := by
  cases v <;> first | rfl | cases h
/-! ### except clauses -/
theorem hx_snd {W : WX} {e : Ex} {v : PySem.Expr} (ok : CxOk S C Φ L X) (a : Addr) (pn : List (Addr × Obj)) (hx : hxB e = true) (h : tie C e v = true) : PM S W .esc (X.suite a pn) v (ev Φ e) (slx true e) := by
  have bv : ∀ {i : Nat} {v : PySem.Expr}, tie C (.var i) v = true → PM S W .bor (X.suite a pn) v (ev Φ (.var i)) [] ∧ PM S W .esc (X.suite a pn) v (ev Φ (.var i)) [i] := by
    intro i v h
    cases v <;> try exact absurd h Bool.false_ne_true
    rename_i x px
    have h : (decide (C.N[i]? = some x) && visB C.sc x && ndB x) = true := h
    simp only [Bool.and_eq_true, decide_eq_true_eq] at h
    obtain ⟨⟨h1, h2⟩, h3⟩ := h
    unfold ndB at h3
    simp only [Bool.and_eq_true, Bool.not_eq_true'] at h3
    have e : ev Φ (.var i) = vr i := by unfold ev; rfl
    rw [e]
    exact ⟨pm_varB (by show X.N[i]? = _; rw [ok.N]; exact h1) (ok.vis h2) h3.1 h3.2, pm_var (by show X.N[i]? = _; rw [ok.N]; exact h1) (ok.vis h2) h3.1 h3.2⟩
  cases e <;> try exact absurd hx Bool.false_ne_true
  case var i => exact (bv h).2
  case int i =>
    cases v <;> try exact absurd h Bool.false_ne_true
    rename_i c k p
    cases c <;> try exact absurd h Bool.false_ne_true
    have h := of_decide_eq_true h
    subst h
    have e : ev Φ (.int i) = fun _ => .ok (.int i) := by unfold ev; rfl
    rw [e]; exact pm_int
  case bl b =>
    cases v <;> try exact absurd h Bool.false_ne_true
    rename_i c k p
    cases c <;> try exact absurd h Bool.false_ne_true
    rename_i b'
    have h : (b == b') = true := h
    have h := eq_of_beq h
    subst h
    have e : ev Φ (.bl b) = fun _ => .ok (.bl b) := by unfold ev; rfl
    rw [e]; exact pm_bl
  case non =>
    cases v <;> try exact absurd h Bool.false_ne_true
    rename_i c k p
    cases c <;> try exact absurd h Bool.false_ne_true
    have e : ev Φ .non = fun _ => .ok .non := by unfold ev; rfl
    rw [e]; exact pm_non
  case str x =>
    cases v <;> try exact absurd h Bool.false_ne_true
    rename_i c k p
    cases c <;> try exact absurd h Bool.false_ne_true
    rename_i y
    have h : (decide (x = y) && PyData.strOk x) = true := h
    simp only [Bool.and_eq_true, decide_eq_true_eq] at h
    obtain ⟨rfl, h2⟩ := h
    have e : ev Φ (.str x) = fun _ => .ok (.str x) := by unfold ev; rfl
    rw [e]; exact pm_str h2
  case nt y =>
    cases y <;> try exact absurd hx Bool.false_ne_true
    rename_i i
    cases v <;> try exact absurd h Bool.false_ne_true
    rename_i op x p
    cases op <;> try exact absurd h Bool.false_ne_true
    have e : ev Φ (.nt (.var i)) = notV (ev Φ (.var i)) := by unfold ev; rfl
    rw [e]
    exact pm_not (bv h).1
  case bin o y z =>
    cases o <;> try exact absurd hx Bool.false_ne_true
    cases y <;> try exact absurd hx Bool.false_ne_true
    cases z <;> try exact absurd hx Bool.false_ne_true
    rename_i i k
    cases v <;> try exact absurd h Bool.false_ne_true
    rename_i l op r p
    have h : (binB .add op && tie C (.var i) l && tie C (.int k) r) = true := h
    simp only [Bool.and_eq_true] at h
    obtain ⟨⟨h1, h2⟩, h3⟩ := h
    cases op <;> try exact absurd h1 Bool.false_ne_true
    cases r <;> try exact absurd h3 Bool.false_ne_true
    rename_i c kk pp
    cases c <;> try exact absurd h3 Bool.false_ne_true
    have h3 := of_decide_eq_true h3
    subst h3
    have e : ev Φ (.bin .add (.var i) (.int k)) = bnd2 (ev Φ (.var i)) (fun _ => .ok (.int k)) plusD := rfl
    rw [e]
    exact pm_add ok.K (bv h2).1 pm_int
theorem hb_snd {W : WX} {h : Hb} {st : Stmt} (ok : CxOk S C Φ L X) (hk : X.env.scope.kind = .function) (a : Addr) (pn : List (Addr × Obj)) (t : tieH C h st = true) : PMSs S W (X.suite a pn) [st] (exH Φ h) := by
  cases h with
  | ret e =>
    cases st <;> try exact absurd t Bool.false_ne_true
    rename_i v pos
    cases v <;> try exact absurd t Bool.false_ne_true
    rename_i v
    have t : (tie C e v && hxB e) = true := t
    simp only [Bool.and_eq_true] at t
    exact PMSs.cons (pms_ret (hx_snd ok a pn t.2 t.1)) PMSs.nil
  | asg i e =>
    cases st <;> try exact absurd t Bool.false_ne_true
    rename_i ts v pos
    rcases ts with _ | ⟨tt, _ | ⟨t2, ts⟩⟩ <;> try exact absurd t Bool.false_ne_true
    rotate_left
    · cases tt <;> exact absurd t Bool.false_ne_true
    cases tt <;> try exact absurd t Bool.false_ne_true
    rename_i x px
    have t : (decide (C.N[i]? = some x) && locB C x && tie C e v && hxB e && noComp v) = true := t
    simp only [Bool.and_eq_true, decide_eq_true_eq] at t
    obtain ⟨⟨⟨⟨h1, h2⟩, h3⟩, h4⟩, h5⟩ := t
    obtain ⟨l1, l2⟩ := ok.loc h2
    exact PMSs.cons (pms_asg (ps_set (X := X.suite a pn) ok.nd' (by show X.N[i]? = _; rw [ok.N]; exact h1) l1 (hx_snd ok a pn h4 h3) (sw_none h5 _ _ _) l2)) PMSs.nil
  | pass =>
    cases st <;> try exact absurd t Bool.false_ne_true
    exact PMSs.cons pms_pass PMSs.nil
theorem hds_at (ok : CxS S C Φ L X) : ∀ {hs : List (Nat × Hb)} {hds : List ExceptHandler}, tieHs C hs hds = true → HdsAt S W X hds (hs.map fun p => (p.1, exH Φ p.2))
  | [], [], _ => .nil
  | [], _ :: _, t => absurd t Bool.false_ne_true
  | _ :: _, [], t => absurd t Bool.false_ne_true
  | (c, h) :: r, .ExceptHandler ty nm body pos :: hds, t => by
    cases ty <;> try exact absurd t Bool.false_ne_true
    rename_i ty
    cases ty <;> try exact absurd t Bool.false_ne_true
    rename_i x px
    cases nm <;> try exact absurd t Bool.false_ne_true
    rcases body with _ | ⟨st, _ | ⟨s2, ss⟩⟩ <;> try exact absurd t Bool.false_ne_true
    have t : (C.exs.contains (x, c) && glB C.sc x && ndB x && tieH C h st && tieHs C r hds) = true := t
    simp only [Bool.and_eq_true] at t
    obtain ⟨⟨⟨⟨h1, h2⟩, h3⟩, h4⟩, h5⟩ := t
    unfold ndB at h3
    simp only [Bool.and_eq_true, Bool.not_eq_true'] at h3
    obtain ⟨_, _, _, _, _, _, q3, _⟩ := ok.exc.ex x c (by simpa using h1)
    exact .cons ⟨ok.toCxOk.gl h2, h3.1, .inl q3⟩ (fun a pn => hb_snd ok.toCxOk ok.kind a pn h4) (hds_at ok h5)
/-- what is kept when the body throws -/
def KeepO (M : List Nat) (ρ : En) : Out → Prop
  | .nx ρ' | .bk ρ' | .ct ρ' | .exc _ ρ' => Keep M ρ ρ'
  | _ => True
theorem KeepO.lift {M : List Nat} {ρ ρ1 : En} {α : Type} {r : Res α} {k : α → Out} (h : Keep M ρ ρ1) (hk : ∀ d, KeepO M ρ (k d)) : KeepO M ρ (liftR r ρ1 k) := by
  cases r with
  | ok d => exact hk d
  | exc c => exact h
  | bad => exact trivial
theorem keep_of {M : List Nat} {fN : Nat → List Str} : ∀ (s : Sm), keepB M s = true → ∀ ρ, KeepO M ρ (exS Φ fN s ρ) := by
  intro s
  induction s with
  | nil => exact fun _ ρ => Keep.refl M ρ
  | pass => exact fun _ ρ => Keep.refl M ρ
  | brk => exact fun _ ρ => Keep.refl M ρ
  | cnt => exact fun _ ρ => Keep.refl M ρ
  | raise c => exact fun _ ρ => Keep.refl M ρ
  | retN => exact fun _ ρ => trivial
  | ret e => exact fun _ ρ => KeepO.lift (Keep.dem _ _) fun d => trivial
  | drop e => exact fun _ ρ => KeepO.lift (Keep.dem _ _) fun d => Keep.dem _ _
  | asg i e => exact fun h ρ => KeepO.lift (Keep.dem _ _) fun d => (Keep.dem _ _).trans (Keep.set h)
  | ifs c a b iha ihb =>
    intro h ρ
    have h : (keepB M a && keepB M b) = true := h
    simp only [Bool.and_eq_true] at h
    have go : ∀ {o : Out}, KeepO M (demE (slx false c) ρ) o → KeepO M ρ o := fun {o} k => by
      cases o with
      | nx ρ' => exact (Keep.dem _ _).trans k
      | bk ρ' => exact (Keep.dem _ _).trans k
      | ct ρ' => exact (Keep.dem _ _).trans k
      | exc c ρ' => exact (Keep.dem _ _).trans k
      | rt d => exact trivial
      | bad => exact trivial
    refine KeepO.lift (Keep.dem _ _) fun d => ?_
    cases d with
    | true => exact go (iha h.1 _)
    | false => exact go (ihb h.2 _)
  | cons s r ihs ihr =>
    intro h ρ
    have h : (keepB M s && keepB M r) = true := h
    simp only [Bool.and_eq_true] at h
    have a := ihs h.1 ρ
    show KeepO M ρ ((exS Φ fN s ρ).bind (exS Φ fN r))
    cases q : exS Φ fN s ρ with
    | nx ρ' =>
      rw [q] at a
      have a : Keep M ρ ρ' := a
      have b := ihr h.2 ρ'
      show KeepO M ρ (exS Φ fN r ρ')
      cases q2 : exS Φ fN r ρ' with
      | nx ρ2 => rw [q2] at b; exact a.trans b
      | bk ρ2 => rw [q2] at b; exact a.trans b
      | ct ρ2 => rw [q2] at b; exact a.trans b
      | exc c ρ2 => rw [q2] at b; exact a.trans b
      | rt d => exact trivial
      | bad => exact trivial
    | bk ρ' => rw [q] at a; exact a
    | ct ρ' => rw [q] at a; exact a
    | exc c ρ' => rw [q] at a; exact a
    | rt d => exact trivial
    | bad => exact trivial
  | _ => intro h; exact absurd h Bool.false_ne_true
end
end PD
/-! Deep: statements, soundness; defs. -/
namespace PD
open PySem PySem.Spec PyProof.Rows L2 GxR
section
variable {S : Stat} {C : TC} {Φ : Fs} {L : Nat} {X : Cx} {W : WX}
theorem nb_ {s : Sm} (h : ∀ sts, tieB C s sts = false) : ∀ sts, tieB C s sts = true → PMSs S W X sts (exS Φ S.fN s) := fun sts h' => by rw [h sts] at h'; cases h'
theorem sm_both (s : Sm) : ∀ {X : Cx} {W : WX}, CxS S C Φ L X → Takes X W → (∀ st, tieS C s st = true → PMS S W X st (exS Φ S.fN s)) ∧ (∀ sts, tieB C s sts = true → PMSs S W X sts (exS Φ S.fN s)) := by
  induction s with
  | nil =>
    intro X W ok tk
    have cx := ok.toCxOk
    refine ⟨fun st h => (by cases st <;> exact absurd h Bool.false_ne_true), fun sts h => ?_⟩
    cases sts with
    | nil => exact PMSs.nil
    | cons x xs => exact absurd h Bool.false_ne_true
  | cons s r ihs ihr =>
    intro X W ok tk
    have cx := ok.toCxOk
    refine ⟨fun st h => (by cases st <;> exact absurd h Bool.false_ne_true), fun sts h => ?_⟩
    cases sts with
    | nil => exact absurd h Bool.false_ne_true
    | cons x xs =>
      have h : (tieS C s x && tieB C r xs) = true := h
      simp only [Bool.and_eq_true] at h
      exact PMSs.cons ((ihs ok tk).1 x h.1) ((ihr ok tk).2 xs h.2)
  | asg i e =>
    intro X W ok tk
    have cx := ok.toCxOk
    refine ⟨fun st h => ?_, nb_ fun sts => by cases sts <;> rfl⟩
    cases st <;> try exact absurd h Bool.false_ne_true
    rename_i ts v pos
    rcases ts with _ | ⟨t, _ | ⟨t2, ts⟩⟩ <;> try exact absurd h Bool.false_ne_true
    rotate_left
    · cases t <;> exact absurd h Bool.false_ne_true
    cases t <;> try exact absurd h Bool.false_ne_true
    rename_i x px
    have h : (decide (C.N[i]? = some x) && locB C x && tie C e v && okx e && swB C x px v) = true := h
    simp only [Bool.and_eq_true, decide_eq_true_eq] at h
    obtain ⟨⟨⟨⟨h1, h2⟩, h3⟩, h4⟩, h5⟩ := h
    exact pms_asg (set_sound cx ok.kind tk h1 h2 h3 h4 h5).1
  | own i e =>
    intro X W ok tk
    have cx := ok.toCxOk
    refine ⟨fun st h => ?_, nb_ fun sts => by cases sts <;> rfl⟩
    cases st <;> try exact absurd h Bool.false_ne_true
    rename_i ts v pos
    rcases ts with _ | ⟨t, _ | ⟨t2, ts⟩⟩ <;> try exact absurd h Bool.false_ne_true
    rotate_left
    · cases t <;> exact absurd h Bool.false_ne_true
    cases t <;> try exact absurd h Bool.false_ne_true
    rename_i x px
    have h : (decide (C.N[i]? = some x) && locB C x && tie C e v && okx e && swB C x px v && frx e) = true := h
    simp only [Bool.and_eq_true, decide_eq_true_eq] at h
    obtain ⟨⟨⟨⟨⟨h1, h2⟩, h3⟩, h4⟩, h5⟩, h6⟩ := h
    exact pms_own ((set_sound cx ok.kind tk h1 h2 h3 h4 h5).2 h6)
  | asgT is e =>
    intro X W ok tk
    have cx := ok.toCxOk
    refine ⟨fun st h => ?_, nb_ fun sts => by cases sts <;> rfl⟩
    cases st <;> try exact absurd h Bool.false_ne_true
    rename_i ts v pos
    rcases ts with _ | ⟨t, _ | ⟨t2, ts⟩⟩ <;> try exact absurd h Bool.false_ne_true
    rotate_left
    · cases t <;> exact absurd h Bool.false_ne_true
    cases t <;> try exact absurd h Bool.false_ne_true
    rename_i es k tp
    have h : (namesB C es is && tie C e v && okx e && noComp v && notTup v) = true := h
    simp only [Bool.and_eq_true, decide_eq_true_eq] at h
    obtain ⟨⟨⟨⟨h1, h2⟩, h3⟩, h4⟩, h5⟩ := h
    refine pms_asgT (ps_asg (snd cx tk h3 h2).esc ?_ (show swapsWith v (some (.Tuple es k tp)) pos.line X.env = pure false from sw_none h4 _ _ _) (by cases v <;> first | rfl | cases h5) rfl)
    have z := TgAt.pg (X := X) cx.nd' cx.calm (.many (cx.names h1) : TgAt X (.Tuple es k tp) (.many is))
    rw [← cx.K]; exact z
  | app i e =>
    intro X W ok tk
    have cx := ok.toCxOk
    refine ⟨fun st h => ?_, nb_ fun sts => by cases sts <;> rfl⟩
    cases st <;> try exact absurd h Bool.false_ne_true
    rename_i v pos
    cases v <;> try exact absurd h Bool.false_ne_true
    rename_i fn args kws cpos
    cases fn <;> try exact absurd h Bool.false_ne_true
    rename_i o m apos
    cases o <;> try exact absurd h Bool.false_ne_true
    rename_i x px
    rcases args with _ | ⟨y, _ | ⟨y2, ys⟩⟩ <;> try exact absurd h Bool.false_ne_true
    rcases kws with _ | ⟨kw, kws⟩ <;> try exact absurd h Bool.false_ne_true
    have h : (decide (m = ("append" : Str)) && decide (C.N[i]? = some x) && visB C.sc x && ndB x && tie C e y && okx e && notStar y && (apos.endLine == cpos.line)) = true := h
    simp only [Bool.and_eq_true, decide_eq_true_eq] at h
    obtain ⟨⟨⟨⟨⟨⟨⟨rfl, h2⟩, h3⟩, h4⟩, h5⟩, h6⟩, h7⟩, h8⟩ := h
    unfold ndB at h4
    simp only [Bool.and_eq_true, Bool.not_eq_true'] at h4
    have hs := star_cons h7 [] X.env
    exact pms_app cx.K (by rw [cx.N]; exact h2) (cx.vis h3) h4.1 h4.2 (snd cx tk h6 h5).esc (by rw [hs]; rfl) h8 hs
  | ifs c a b iha ihb =>
    intro X W ok tk
    have cx := ok.toCxOk
    refine ⟨fun st h => ?_, nb_ fun sts => by cases sts <;> rfl⟩
    cases st <;> try exact absurd h Bool.false_ne_true
    rename_i c' a' b' pos
    have h : (tie C c c' && okx c && noIte c && tieB C a a' && tieB C b b') = true := h
    simp only [Bool.and_eq_true] at h
    obtain ⟨⟨⟨⟨h1, h2⟩, h3⟩, h4⟩, h5⟩ := h
    exact pms_if ((snd cx tk h2 h1).tst h3) ((iha ok tk).2 _ h4) ((ihb ok tk).2 _ h5)
  | fors k t it b ihb =>
    intro X W ok tk
    have cx := ok.toCxOk
    refine ⟨fun st h => ?_, nb_ fun sts => by cases sts <;> rfl⟩
    cases st <;> try exact absurd h Bool.false_ne_true
    rename_i tg iter body oe pos
    rcases oe with _ | ⟨o, oe⟩ <;> try exact absurd h Bool.false_ne_true
    have h : (tgB C t tg && itB C k it iter && okx it && tieB C b body) = true := h
    simp only [Bool.and_eq_true] at h
    obtain ⟨⟨⟨h1, h2⟩, h3⟩, h4⟩ := h
    have bi := snd_both (S := S) (Φ := Φ) (L := L) it h3
    exact pms_for ok.pass cx.calm cx.K cx.nd' (snd_it (tg := tg) cx h2 (fun x hx => bi.1 x C X W cx tk hx) fun xs hx => bi.2 xs C X W cx tk hx) (cx.tg h1) ((ihb ok tk).2 _ h4) (it_plain h2 X.env).1
  | ret e =>
    intro X W ok tk
    have cx := ok.toCxOk
    refine ⟨fun st h => ?_, nb_ fun sts => by cases sts <;> rfl⟩
    cases st <;> try exact absurd h Bool.false_ne_true
    rename_i v pos
    cases v <;> try exact absurd h Bool.false_ne_true
    rename_i v
    have h : (tie C e v && okx e) = true := h
    simp only [Bool.and_eq_true] at h
    exact pms_ret (snd cx tk h.2 h.1).esc
  | retN =>
    intro X W ok tk
    have cx := ok.toCxOk
    refine ⟨fun st h => ?_, nb_ fun sts => by cases sts <;> rfl⟩
    cases st <;> try exact absurd h Bool.false_ne_true
    rename_i v pos
    cases v <;> try exact absurd h Bool.false_ne_true
    exact pms_retN
  | pass =>
    intro X W ok tk
    have cx := ok.toCxOk
    refine ⟨fun st h => ?_, nb_ fun sts => by cases sts <;> rfl⟩
    cases st <;> try exact absurd h Bool.false_ne_true
    exact pms_pass
  | brk =>
    intro X W ok tk
    have cx := ok.toCxOk
    refine ⟨fun st h => ?_, nb_ fun sts => by cases sts <;> rfl⟩
    cases st <;> try exact absurd h Bool.false_ne_true
    exact pms_brk
  | cnt =>
    intro X W ok tk
    have cx := ok.toCxOk
    refine ⟨fun st h => ?_, nb_ fun sts => by cases sts <;> rfl⟩
    cases st <;> try exact absurd h Bool.false_ne_true
    exact pms_cnt
  | drop e =>
    intro X W ok tk
    have cx := ok.toCxOk
    refine ⟨fun st h => ?_, nb_ fun sts => by cases sts <;> rfl⟩
    cases st <;> try exact absurd h Bool.false_ne_true
    rename_i v pos
    have h : (tie C e v && okx e && noComp v) = true := h
    simp only [Bool.and_eq_true] at h
    exact pms_drop (snd cx tk h.1.2 h.1.1).esc (sw_none h.2 _ _ _)
  | raise c =>
    intro X W ok tk
    have cx := ok.toCxOk
    refine ⟨fun st h => ?_, nb_ fun sts => by cases sts <;> rfl⟩
    cases st <;> try exact absurd h Bool.false_ne_true
    rename_i v ca pos
    cases v <;> try exact absurd h Bool.false_ne_true
    rename_i v
    cases v <;> try exact absurd h Bool.false_ne_true
    rename_i fn args kws p3
    cases fn <;> try exact absurd h Bool.false_ne_true
    rename_i x px
    rcases args with _ | ⟨y, _ | ⟨y2, ys⟩⟩ <;> try exact absurd h Bool.false_ne_true
    rotate_left
    · cases y <;> try exact absurd h Bool.false_ne_true
      rename_i cst _ _
      cases cst <;> exact absurd h Bool.false_ne_true
    cases y <;> try exact absurd h Bool.false_ne_true
    rename_i cst j p2
    cases cst <;> try exact absurd h Bool.false_ne_true
    rcases kws with _ | ⟨kw, kws⟩ <;> try exact absurd h Bool.false_ne_true
    cases ca <;> try exact absurd h Bool.false_ne_true
    have h : (C.exs.contains (x, c) && glB C.sc x && ndB x) = true := h
    simp only [Bool.and_eq_true] at h
    obtain ⟨⟨h1, h2⟩, h3⟩ := h
    unfold ndB at h3
    simp only [Bool.and_eq_true, Bool.not_eq_true'] at h3
    obtain ⟨bmB, B, nI, iI, F, q1, q2, q3, q4, q5⟩ := ok.exc.ex x c (by simpa using h1)
    rw [← cx.K] at q1 q3 q4 q5
    exact pms_raise cx.calm tk F q1 q2 q3 (raises_own q4 q5) (cx.gl h2) h3.1
  | fld i nm e =>
    intro X W ok tk
    have cx := ok.toCxOk
    refine ⟨fun st h => ?_, nb_ fun sts => by cases sts <;> rfl⟩
    cases st <;> try exact absurd h Bool.false_ne_true
    rename_i ts v pos
    rcases ts with _ | ⟨t, _ | ⟨t2, ts⟩⟩ <;> try exact absurd h Bool.false_ne_true
    rotate_left
    · cases t <;> try exact absurd h Bool.false_ne_true
      rename_i o _ _
      cases o <;> exact absurd h Bool.false_ne_true
    cases t <;> try exact absurd h Bool.false_ne_true
    rename_i o nm' apos
    cases o <;> try exact absurd h Bool.false_ne_true
    rename_i x px
    have h : (decide (C.N[i]? = some x) && visB C.sc x && ndB x && decide (nm = nm') && tie C e v && okx e && noComp v) = true := h
    simp only [Bool.and_eq_true, decide_eq_true_eq] at h
    obtain ⟨⟨⟨⟨⟨⟨h1, h2⟩, h3⟩, rfl⟩, h5⟩, h6⟩, h7⟩ := h
    unfold ndB at h3
    simp only [Bool.and_eq_true, Bool.not_eq_true'] at h3
    rw [exS_fld]
    exact pms_fld cx.K (by rw [cx.N]; exact h1) (cx.vis h2) h3.1 h3.2 ok.cl (snd cx tk h6 h5).esc (sw_none h7 _ _ _)
  | sto i j e =>
    intro X W ok tk
    have cx := ok.toCxOk
    refine ⟨fun st h => ?_, nb_ fun sts => by cases sts <;> rfl⟩
    cases st <;> try exact absurd h Bool.false_ne_true
    rename_i ts v pos
    rcases ts with _ | ⟨t, _ | ⟨t2, ts⟩⟩ <;> try exact absurd h Bool.false_ne_true
    rotate_left
    · cases t <;> try exact absurd h Bool.false_ne_true
      rename_i a b _
      cases a <;> cases b <;> exact absurd h Bool.false_ne_true
    cases t <;> try exact absurd h Bool.false_ne_true
    rename_i a b tp
    cases a <;> try exact absurd h Bool.false_ne_true
    rename_i x px
    cases b <;> try exact absurd h Bool.false_ne_true
    rename_i y py
    have h : (decide (C.N[i]? = some x) && visB C.sc x && ndB x && decide (C.N[j]? = some y) && visB C.sc y && ndB y && tie C e v && okx e && noComp v) = true := h
    simp only [Bool.and_eq_true, decide_eq_true_eq] at h
    obtain ⟨⟨⟨⟨⟨⟨⟨⟨h1, h2⟩, h3⟩, h4⟩, h5⟩, h6⟩, h7⟩, h8⟩, h9⟩ := h
    unfold ndB at h3 h6
    simp only [Bool.and_eq_true, Bool.not_eq_true'] at h3 h6
    exact pms_sto (by have := cx.hu; omega) (by rw [cx.N]; exact h1) (cx.vis h2) h3.1 h3.2 (by rw [cx.N]; exact h4) (cx.vis h5) h6.1 h6.2 (snd cx tk h8 h7).esc (sw_none h9 _ _ _)
  | aug i o e =>
    intro X W ok tk
    have cx := ok.toCxOk
    refine ⟨fun st h => ?_, nb_ fun sts => by cases sts <;> rfl⟩
    cases st <;> try exact absurd h Bool.false_ne_true
    rename_i t op v pos
    cases t <;> try exact absurd h Bool.false_ne_true
    rename_i x px
    have h : (decide (C.N[i]? = some x) && locB C x && augB o op && tie C e v && okx e) = true := h
    simp only [Bool.and_eq_true, decide_eq_true_eq] at h
    obtain ⟨⟨⟨⟨h1, h2⟩, h3⟩, h4⟩, h5⟩ := h
    obtain ⟨l1, l2⟩ := cx.loc h2
    refine pms_aug o ?_ cx.nd' (by rw [cx.N]; exact h1) l1 l2 (snd cx tk h5 h4).bor
    cases o <;> cases op <;> first | exact .inl ⟨rfl, rfl⟩ | exact .inr ⟨rfl, rfl⟩ | exact absurd h3 Bool.false_ne_true
  | whl c b ihb =>
    intro X W ok tk
    have cx := ok.toCxOk
    refine ⟨fun st h => ?_, nb_ fun sts => by cases sts <;> rfl⟩
    cases st <;> try exact absurd h Bool.false_ne_true
    rename_i c' body oe pos
    rcases oe with _ | ⟨o, oe⟩ <;> try exact absurd h Bool.false_ne_true
    have h : (tie C c c' && okx c && noIte c && tieB C b body) = true := h
    simp only [Bool.and_eq_true] at h
    obtain ⟨⟨⟨h1, h2⟩, h3⟩, h4⟩ := h
    exact pms_whl ok.pass ((snd cx tk h2 h1).tst h3) ((ihb ok tk).2 _ h4)
  | tr n M b hs ihb =>
    intro X W ok tk
    have cx := ok.toCxOk
    refine ⟨fun st h => ?_, nb_ fun sts => by cases sts <;> rfl⟩
    cases st <;> try exact absurd h Bool.false_ne_true
    rename_i body hds oe fb pos
    rcases hds with _ | ⟨h0, hds⟩ <;> try exact absurd h Bool.false_ne_true
    rcases oe with _ | ⟨o, oe⟩ <;> try exact absurd h Bool.false_ne_true
    rcases fb with _ | ⟨o, oe⟩ <;> try exact absurd h Bool.false_ne_true
    have h : (tieB C b body && keepB M b && tieHs C hs (h0 :: hds) && (hs.all fun p => decide (p.1 < n)) && ((List.range n).all fun c => (C.exs.map (·.2)).contains c)) = true := h
    simp only [Bool.and_eq_true] at h
    obtain ⟨⟨⟨⟨h1, h2⟩, h3⟩, h4⟩, h5⟩ := h
    have mem : ∀ c, c < n → ∃ x, (x, c) ∈ C.exs := fun c hc => by
      have z := List.all_eq_true.mp h5 c (List.mem_range.mpr hc)
      simpa using z
    refine pms_try ok.stk ok.frm tk cx.K n (fun c c' hc hc' => ?_) (fun p hp => ?_) (fun W' pn xe t p => ?_) (fun ρ c ρ' q => ?_) (hds_at ok h3)
    · obtain ⟨x, hx⟩ := mem c hc
      obtain ⟨x', hx'⟩ := mem c' hc'
      exact ok.exc.exm x c x' c' hx hx'
    · obtain ⟨q, hq, rfl⟩ := List.mem_map.mp hp
      exact of_decide_eq_true (List.all_eq_true.mp h4 q hq)
    · exact (ihb (X := X.tr pn xe) ⟨⟨cx.K, cx.calm, cx.N, cx.nd, cx.sc, cx.fn, cx.room, cx.code, cx.lcode, cx.G⟩, p, ok.exc, ok.kind, ok.cl, ok.stk, ok.frm⟩ t).2 _ h1
    · have z := keep_of (Φ := Φ) (fN := S.fN) b h2 ρ
      rw [q] at z
      exact z
end
/-! ### defs -/
def outR (o : Out) : Res D := match o with
  | .rt d => .ok d
  | .nx _ => .ok .non
  | .exc c _ => .exc c
  | _ => .bad
def startE (n : Nat) (ds : List D) : En := ds.map .pl ++ List.replicate (n - ds.length) .un
/-- what a def tells -/
def runDef (Φ : Fs) (fN : Nat → List Str) (n : Nat) (b : Sm) (ds : List D) : Res D := outR (exS Φ fN b (startE n ds))
section
variable {S : Stat} {C : TC} {Φ : Fs} {L : Nat}
theorem startE_get {n : Nat} {ds : List D} {i : Nat} : (startE n ds).sl i = match ds[i]? with | some d => .pl d | none => .un := by
  unfold startE En.sl
  rw [List.getD_eq_getElem?_getD]
  by_cases h : i < ds.length
  · rw [List.getElem?_append_left (by simpa using h), List.getElem?_map, List.getElem?_eq_getElem h]; rfl
  · have h2 : ds[i]? = none := List.getElem?_eq_none (by omega)
    rw [List.getElem?_append_right (by simpa using h), h2, List.getElem?_replicate]
    split <;> rfl
theorem start_get {N : List Str} {vs : List V} {i : Nat} {v : V} (h : vs[i]? = some v) : (L2.start N vs)[i]? = some (some v) := by
  unfold L2.start
  have hl := (List.getElem?_eq_some_iff.mp h).1
  rw [List.getElem?_append_left (by simpa using hl), List.getElem?_map, h]; rfl
theorem start_len {N : List Str} {vs : List V} : N.length ≤ (L2.start N vs).length := by
  unfold L2.start
  rw [List.length_append, List.length_map, List.length_replicate]; omega
theorem startE_len {n : Nat} {ds : List D} (h : ds.length ≤ n) : (startE n ds).length = n := by
  unfold startE
  rw [List.length_append, List.length_map, List.length_replicate]; omega
/-- THE RULE for a def -/
theorem def_ok {P : Program} {w : World} {mg : Str → Option Value} {base : Heap} {f : Addr} {name qual : Str} {params : Arguments} {body : List Stmt} {scope : Scope} {dV kV doc pm cdv ct oc : Value} {an od : Option Addr} {osl : Array (Option Value)} {ps : List Str} {b : Sm}
    (lk : S.K.lookup f = some ⟨oc, od, .func (PySem.W.fnOf name qual params body scope dV kV doc pm an cdv ct), osl⟩) (hcd : PySem.W.codeIn S.K cdv qual = true) (hS : FnScope C.N ps scope) (hsc : C.sc = scope) (hfn : C.fn = fun _ => true) (hb : tieB C b body = true)
    (G : GEnv S C Φ L P w mg base) (GX : GExc S C mg) (hcl : ∀ c, S.fN c ≠ [] → ClsAt S c) (hgen : C.gen = true → ∃ c P, cdv = .ref c ∧ TabB base mg c P ∧ P ∈ S.tG ∧ ∀ q ∈ S.tL, q.1 ≠ P) (hlam : C.lam = true → LamAt S mg base cdv (qual ++ ".<locals>." ++ "<lambda>")) :
    FnOk P w S.K mg base (L2.CX P w) (L + 3) f (PySem.W.fnOf name qual params body scope dV kV doc pm an cdv ct) ps (spD S (runDef Φ S.fN C.N.length b) ps.length) := by
  have hpl : ps.length ≤ C.N.length := by have := congrArg List.length hS.pre; rw [List.length_take] at this; omega
  refine fn_of (k := L + 2) lk hcd hS (fun vs H Q E h => h.1) fun A outer s H vs Q E hr hsp => ?_
  obtain ⟨hl, ds, F, g, fd, r, post⟩ := hsp
  have hdl : ds.length = ps.length := by rw [← r.length, hl]
  have cx : CxS S C Φ L (cxOf (L2.CX P w) P w S.K mg base C.N qual scope f cdv A outer s H E) :=
    { K := rfl, calm := rfl, N := rfl, nd := hS.nd, sc := hsc.symm, fn := hfn.symm, room := hr.mono (by split <;> omega), code := hgen, lcode := hlam, G := G, pass := passes_of (K := fun e s'' => L2.CX P w outer H s E e s'') (E₁ := fun e' s'' => L2.CX P w outer H s E e' s'') rfl, exc := GX, kind := hS.kind, cl := hcl, stk := rfl, frm := rfl }
  have tk : Takes (cxOf (L2.CX P w) P w S.K mg base C.N qual scope f cdv A outer s H E) (fun cls d _ H' => E cls d H') := takes_of rfl rfl rfl (E₁ := fun e' s'' => L2.CX P w outer H s E e' s'') rfl
  refine ⟨_, (sm_both b cx tk).2 body hb, startE C.N.length ds, F, fun _ => False, fun _ => False, H, fun _ => none, ⟨ExtO.refl _ _, ?_, g, fd, fun i d h => ?_, fun i d h => ?_, fun i j a h => (by cases h), fun i c fs h => ?_, fun i a h => (by cases h), fun i d a _ h => (by cases h)⟩, ?_⟩
  · rw [startE_len (by omega)]; exact start_len
  · rw [startE_get] at h
    cases q : ds[i]? with
    | none => rw [q] at h; cases h
    | some d' =>
      rw [q] at h; cases h
      obtain ⟨v, h1, h2⟩ := r.get q
      exact ⟨v, start_get h1, Rep.anti (fun a z => z.elim id fun ⟨_, z⟩ => nomatch z) h2⟩
  · rw [startE_get] at h
    cases q : ds[i]? with
    | none => rw [q] at h; cases h
    | some d' => rw [q] at h; cases h
  · rw [startE_get] at h
    cases q : ds[i]? with
    | none => rw [q] at h; cases h
    | some d' => rw [q] at h; cases h
  · have ext : ∀ {H'}, ExtO (fun _ => False) H H' → Ext H H' := fun e => ⟨fun b o h t => e.to b o h t fun z => z.elim, e.tb⟩
    unfold runDef at post
    cases q : exS Φ S.fN b (startE C.N.length ds) with
    | nx ρ => rw [q] at post; exact fun σ H' ω K => post .non H' (ext K.ext) K.gd (Rep.mk_non (S := S) (F := F) (H := H'))
    | rt d => rw [q] at post; exact fun v H' e g' r' => post v H' (ext e) g' r'
    | exc c ρ => rw [q] at post; exact fun σ H' ω K => post H' (ext K.ext) K.gd
    | bk ρ => rw [q] at post; exact post.elim
    | ct ρ => rw [q] at post; exact post.elim
    | bad => rw [q] at post; exact post.elim
end
end PD
/-! Deep: __init__. -/
namespace PD
open PySem PySem.Spec PyProof.Rows L2 GxR
def outI (fN : Nat → List Str) (c : Nat) (o : Out) : Res (List D) := match o with
  | .nx ρ => (match ρ.sl 0 with
    | .mk (.obj c' fs) => if c' = c ∧ fs.length = (fN c).length then .ok fs else .bad
    | _ => .bad)
  | .exc e _ => .exc e
  | _ => .bad
def startI (c n : Nat) (ds : List D) : En := .mk (.obj c []) :: startE n ds
/-- what an __init__ tells: the fields -/
def runInit (Φ : Fs) (fN : Nat → List Str) (c n : Nat) (b : Sm) (ds : List D) : Res (List D) := outI fN c (exS Φ fN b (startI c (n - 1) ds))
section
variable {S : Stat} {C : TC} {Φ : Fs} {L : Nat}
theorem sl_zero {s : Sl} {ρ : En} : En.sl (s :: ρ) 0 = s := rfl
theorem sl_succ {s : Sl} {ρ : En} {i : Nat} : En.sl (s :: ρ) (i + 1) = ρ.sl i := rfl
/-- THE RULE for an __init__ -/
theorem init_ok {P : Program} {w : World} {mg : Str → Option Value} {base : Heap} {f : Addr} {name qual : Str} {params : Arguments} {body : List Stmt} {scope : Scope} {dV kV doc pm cdv ct oc : Value} {an od : Option Addr} {osl : Array (Option Value)} {ps : List Str} {b : Sm} {c n : Nat}
    (lk : S.K.lookup f = some ⟨oc, od, .func (PySem.W.fnOf name qual params body scope dV kV doc pm an cdv ct), osl⟩) (hcd : PySem.W.codeIn S.K cdv qual = true) (hS : FnScope C.N ps scope) (hsc : C.sc = scope) (hfn : C.fn = fun _ => true) (hb : tieB C b body = true) (hn : ps.length = n + 1)
    (G : GEnv S C Φ L P w mg base) (GX : GExc S C mg) (hcl : ∀ c, S.fN c ≠ [] → ClsAt S c) (hgen : C.gen = true → ∃ c P, cdv = .ref c ∧ TabB base mg c P ∧ P ∈ S.tG ∧ ∀ q ∈ S.tL, q.1 ≠ P) (hlam : C.lam = false) :
    FnOk P w S.K mg base (L2.CX P w) (L + 3) f (PySem.W.fnOf name qual params body scope dV kV doc pm an cdv ct) ps (spI S c (runInit Φ S.fN c C.N.length b) n) := by
  have hpl : ps.length ≤ C.N.length := by have := congrArg List.length hS.pre; rw [List.length_take] at this; omega
  refine fn_of (k := L + 2) lk hcd hS (fun vs H Q E h => by rw [hn]; exact h.1) fun A outer s H vs Q E hr hsp => ?_
  obtain ⟨hl, x, dx, rest, ds, F, rfl, hx, Fx, g, fd, r, post⟩ := hsp
  have hdl : ds.length = n := by rw [← r.length]; simpa using hl
  have cx : CxS S C Φ L (cxOf (L2.CX P w) P w S.K mg base C.N qual scope f cdv A outer s H E) :=
    { K := rfl, calm := rfl, N := rfl, nd := hS.nd, sc := hsc.symm, fn := hfn.symm, room := hr.mono (by split <;> omega), code := hgen, lcode := fun z => (by rw [hlam] at z; cases z), G := G, pass := passes_of (K := fun e s'' => L2.CX P w outer H s E e s'') (E₁ := fun e' s'' => L2.CX P w outer H s E e' s'') rfl, exc := GX, kind := hS.kind, cl := hcl, stk := rfl, frm := rfl }
  have tk : Takes (cxOf (L2.CX P w) P w S.K mg base C.N qual scope f cdv A outer s H E) (fun cls d _ H' => E cls d H') := takes_of rfl rfl rfl (E₁ := fun e' s'' => L2.CX P w outer H s E e' s'') rfl
  have sub : ∀ a, FO (fun a => F a ∧ a ≠ x) (fun i => if i = 0 then some x else none) a → F a := fun a z => by
    rcases z with z | ⟨j, z⟩
    · exact z.1
    · dsimp only at z
      split at z
      · cases z; exact Fx
      · cases z
  refine ⟨_, (sm_both b cx tk).2 body hb, startI c (C.N.length - 1) ds, fun a => F a ∧ a ≠ x, fun a => a = x, fun a => a = x, H, fun i => if i = 0 then some x else none, ⟨ExtO.refl _ _, ?_, g, fun a z => fd a z.1, fun i d h => ?_, fun i d h => ?_, fun i j a h h' => ?_, fun i c fs h => ?_, fun i a h => ?_, fun i d a _ h => ?_⟩, ?_⟩
  · show (startE (C.N.length - 1) ds).length + 1 ≤ _
    rw [startE_len (by omega)]
    have := start_len (N := C.N) (vs := .ref x :: rest)
    omega
  · cases i with
    | zero => cases h
    | succ i =>
      have h : (startE (C.N.length - 1) ds).sl i = .pl d := h
      rw [startE_get] at h
      cases q : ds[i]? with
      | none => rw [q] at h; cases h
      | some d' =>
        rw [q] at h; cases h
        obtain ⟨v, h1, h2⟩ := r.get q
        exact ⟨v, start_get h1, Rep.anti sub h2⟩
  · cases i with
    | zero =>
      cases h
      exact ⟨x, rfl, start_get rfl, dx, [], by simpa using hx, rfl, Nat.zero_le _, Reps.nil⟩
    | succ i =>
      have h : ((startE (C.N.length - 1) ds).sl i).own = some d := h
      rw [startE_get] at h
      cases q : ds[i]? with
      | none => rw [q] at h; cases h
      | some d' => rw [q] at h; cases h
  · split at h
    · split at h'
      · omega
      · cases h'
    · cases h
  · cases i with
    | zero => cases h
    | succ i =>
      have h : (startE (C.N.length - 1) ds).sl i = .ow (.obj c fs) := h
      rw [startE_get] at h
      cases q : ds[i]? with
      | none => rw [q] at h; cases h
      | some d' => rw [q] at h; cases h
  · split at h
    · rename_i hi
      cases h
      subst hi
      exact ⟨⟨.obj c [], rfl⟩, .inl rfl, fun z => z.2 rfl, by rw [hx]; simp⟩
    · cases h
  · split at h
    · cases h; rfl
    · cases h
  · have ext : ∀ {H'}, ExtO (fun a => a = x) H H' → ExtB x H H' := fun e => ⟨fun b o n h t => e.to b o h t fun z => absurd z n, e.tb⟩
    unfold runInit at post
    cases q : exS Φ S.fN b (startI c (C.N.length - 1) ds) with
    | nx ρ =>
      rw [q] at post
      intro σ H' ω K
      unfold outI at post
      dsimp only at post
      split at post
      · rename_i c' fs hρ
        split at post
        · rename_i hc
          obtain ⟨rfl, hfl⟩ := hc
          obtain ⟨a, w1, w2, dx', us, w3, w4, w5, w6⟩ := K.ow 0 _ (by rw [hρ]; rfl)
          have hax : a = x := K.mka 0 _ a hρ w1
          subst hax
          rw [hfl, List.take_length] at w3
          refine post H' us dx' (ext K.ext) K.gd w3 (by rw [w4, hfl]) (Reps.anti (fun b z => ?_) w6)
          by_cases hb : b = a
          · exact .inr ⟨0, by rw [hb]; exact w1⟩
          · exact .inl ⟨z, hb⟩
        · exact post.elim
      · exact post.elim
    | rt d => rw [q] at post; exact post.elim
    | exc e ρ => rw [q] at post; exact fun σ H' ω K => post H' (ext K.ext) K.gd
    | bk ρ => rw [q] at post; exact post.elim
    | ct ρ => rw [q] at post; exact post.elim
    | bad => rw [q] at post; exact post.elim
end
end PD
/-! The module's facts by names; each def known by what it tells; the law's end. -/
namespace PD
open PySem PySem.Spec PyProof.Rows L2 GxR
/-- the defs that make lambdas -/
def isLam (p : He.Defn) : Bool := decide (p = (("best_line" : Str), none)) || decide (p = (("nearest" : Str), none))
def lamNm (p : He.Defn) : Str := p.1 ++ ".<locals>." ++ "<lambda>"
def statOf (K : PySem.W.Frag) (cN eN : List Str) (fN : Nat → List Str) (tf : List He.Defn) : Stat := ⟨K, fun i => He.ga K (cN.getD i ""), fN, fun i => He.ga K (eN.getD i ""), (tf.filter fun p => !isLam p).map fun p => (He.cT K p).2, (tf.filter isLam).map fun p => ((He.cT K p).2, lamNm p)⟩
/-- the tables of different defs are different -/
def tabNd (K : PySem.W.Frag) (tf : List He.Defn) : Bool := decide ((tf.map fun p => (He.cT K p).2).Nodup)
theorem nd_inj {α β : Type} {f : α → β} : ∀ {xs : List α}, (xs.map f).Nodup → ∀ {x y : α}, x ∈ xs → y ∈ xs → f x = f y → x = y
  | z :: xs, h, x, y, hx, hy, e => by
    rw [List.map_cons, List.nodup_cons] at h
    rcases List.mem_cons.mp hx with hx' | hx' <;> rcases List.mem_cons.mp hy with hy' | hy'
    · rw [hx', hy']
    · exact absurd (List.mem_map.mpr ⟨y, hy', by rw [← e, hx']⟩) h.1
    · exact absurd (List.mem_map.mpr ⟨x, hx', by rw [e, hy']⟩) h.1
    · exact nd_inj h.2 hx' hy' e
/-- what the head tells -/
structure Fac (fa : List He.Fa) (fn : List He.DefD) (tf : List He.Defn) (ex : PySem.W.Frag → Bool) (w : World) (h : Heap) (K : PySem.W.Frag) (mg : Str → Option Value) (base : Heap) : Prop where
  X : K.In h
  G : h.Ns mainGlobals mg
  c : He.SaysX fa fn [] tf ex w h K
  TB : ∀ p ∈ tf, TabB base mg (He.cT K p).1 (He.cT K p).2
  nd : tabNd K tf = true
theorem Known.mono {S : Stat} {P : Program} {w : World} {mg : Str → Option Value} {base : Heap} {L L' : Nat} {nm : Str} {n : Nat} {φ : List D → Res D} (h : Known S P w mg base L nm n φ) (l : L ≤ L') : Known S P w mg base L' nm n φ := by
  obtain ⟨f, fd, ps, a, b, c, d⟩ := h.ex
  exact ⟨f, fd, ps, a, b, c, d.mono l⟩
theorem KnownM.mono {S : Stat} {P : Program} {w : World} {mg : Str → Option Value} {base : Heap} {L L' c : Nat} {nm : Str} {n : Nat} {φ : List D → Res D} (h : KnownM S P w mg base L c nm n φ) (l : L ≤ L') : KnownM S P w mg base L' c nm n φ := by
  obtain ⟨f, fd, ps, a, b, c, d⟩ := h.ex
  exact ⟨f, fd, ps, a, b, c, d.mono l⟩
theorem KnownI.mono {S : Stat} {P : Program} {w : World} {mg : Str → Option Value} {base : Heap} {L L' c : Nat} {nm : Str} {n : Nat} {ks : List Str} {dd : List D} {φ : List D → Res (List D)} (h : KnownI S P w mg base L nm c n ks dd φ) (l : L ≤ L') : KnownI S P w mg base L' nm c n ks dd φ := by
  obtain ⟨f, fd, ps, g, dv, a, b, c, d, e⟩ := h.ex
  exact ⟨f, fd, ps, g, dv, a, b, c, d, e.mono l⟩
/-- lists of known defs, methods, classes -/
inductive KnL (S : Stat) (P : Program) (w : World) (mg : Str → Option Value) (base : Heap) (L : Nat) : List (Str × Nat) → List (List D → Res D) → Prop
  | nil : KnL S P w mg base L [] []
  | cons {nm : Str} {n : Nat} {φ : List D → Res D} {r : List (Str × Nat)} {rs : List (List D → Res D)} (h : Known S P w mg base L nm n φ) (t : KnL S P w mg base L r rs) : KnL S P w mg base L ((nm, n) :: r) (φ :: rs)
inductive KnM (S : Stat) (P : Program) (w : World) (mg : Str → Option Value) (base : Heap) (L : Nat) : List (Nat × Str × Nat) → List (List D → Res D) → Prop
  | nil : KnM S P w mg base L [] []
  | cons {c : Nat} {nm : Str} {n : Nat} {φ : List D → Res D} {r : List (Nat × Str × Nat)} {rs : List (List D → Res D)} (h : KnownM S P w mg base L c nm n φ) (k : ClsAt S c) (t : KnM S P w mg base L r rs) : KnM S P w mg base L ((c, nm, n) :: r) (φ :: rs)
inductive KnI (S : Stat) (P : Program) (w : World) (mg : Str → Option Value) (base : Heap) (L : Nat) : List (Str × Nat × Nat × List Str) → List (List D × (List D → Res (List D))) → Prop
  | nil : KnI S P w mg base L [] []
  | cons {c : Nat} {nm : Str} {n : Nat} {ks : List Str} {dd : List D} {φ : List D → Res (List D)} {r : List (Str × Nat × Nat × List Str)} {rs : List (List D × (List D → Res (List D)))} (h : KnownI S P w mg base L nm c n ks dd φ) (t : KnI S P w mg base L r rs) : KnI S P w mg base L ((nm, c, n, ks) :: r) ((dd, φ) :: rs)
def fsOf (fs ms : List (List D → Res D)) (ks : List (List D × (List D → Res (List D)))) : Fs := ⟨fun j => fs.getD j fun _ => .bad, fun j => ms.getD j fun _ => .bad, fun j => (ks.getD j ([], fun _ => .bad)).2, fun j => (ks.getD j ([], fun _ => .bad)).1⟩
section
variable {S : Stat} {P : Program} {w : World} {mg : Str → Option Value} {base : Heap} {L : Nat}
theorem KnL.at : ∀ {l : List (Str × Nat)} {fs : List (List D → Res D)} {j : Nat} {nm : Str} {n : Nat}, KnL S P w mg base L l fs → l[j]? = some (nm, n) → Known S P w mg base L nm n (fs.getD j fun _ => .bad)
  | _, _, 0, _, _, .cons h t, e => by cases e; exact h
  | _, _, j + 1, _, _, .cons h t, e => KnL.at (j := j) t e
  | _, _, _, _, _, .nil, e => by simp at e
theorem KnM.at : ∀ {l : List (Nat × Str × Nat)} {fs : List (List D → Res D)} {j c : Nat} {nm : Str} {n : Nat}, KnM S P w mg base L l fs → l[j]? = some (c, nm, n) → KnownM S P w mg base L c nm n (fs.getD j fun _ => .bad) ∧ ClsAt S c
  | _, _, 0, _, _, _, .cons h k t, e => by cases e; exact ⟨h, k⟩
  | _, _, j + 1, _, _, _, .cons h k t, e => KnM.at (j := j) t e
  | _, _, _, _, _, _, .nil, e => by simp at e
theorem KnI.at : ∀ {l : List (Str × Nat × Nat × List Str)} {fs : List (List D × (List D → Res (List D)))} {j c n : Nat} {nm : Str} {ks : List Str}, KnI S P w mg base L l fs → l[j]? = some (nm, c, n, ks) → KnownI S P w mg base L nm c n ks (fs.getD j ([], fun _ => .bad)).1 (fs.getD j ([], fun _ => .bad)).2
  | _, _, 0, _, _, _, _, .cons h t, e => by cases e; exact h
  | _, _, j + 1, _, _, _, _, .cons h t, e => KnI.at (j := j) t e
  | _, _, _, _, _, _, _, .nil, e => by simp at e
end
/-- the built-ins' names -/
def bnames : List Str := ["len", "abs", "max", "min", "sum", "int", "tuple", "list", "sorted", "range", "isinstance", "all", "any", "str", "reversed"]
section
variable {fa : List He.Fa} {fn : List He.DefD} {tf : List He.Defn} {ex : PySem.W.Frag → Bool} {P : Program} {w : World} {h base : Heap} {K : PySem.W.Frag} {mg : Str → Option Value} {cN eN : List Str} {fN : Nat → List Str} {L : Nat}
theorem Fac.fact (Z : Fac fa fn tf ex w h K mg base) {f : He.Fa} (hf : f ∈ fa) : f.ok K = true := Z.c.t.d.facts hf
theorem cls_at (Z : Fac fa fn tf ex w h K mg base) {c : Nat} {nm : Str} (hc : cN.getD c "" = nm) (h1 : He.Fa.cls nm ∈ fa) (h2 : ∀ f ∈ fN c, He.Fa.noat nm f ∈ fa) (h3 : (fN c).Nodup) (h4 : (fN c).length < 1000) : ClsAt (statOf K cN eN fN tf) c :=
  ⟨by show Cls K (He.ga K (cN.getD c "")); rw [hc]; exact He.cls_ok (Z.fact h1), fun f hf => by show NoAttr K (He.ga K (cN.getD c "")) f; rw [hc]; exact He.noat_ok (Z.fact (h2 f hf)), h3, h4⟩
theorem genv (Z : Fac fa fn tf ex w h K mg base) {C : TC} {fs ms : List (List D → Res D)} {ks : List (List D × (List D → Res (List D)))} (h1 : ∀ x i, (x, i) ∈ C.gi → He.Fa.int x i ∈ fa) (h2 : ∀ x ∈ bnames, He.Fa.free x ∈ fa) (k1 : KnL (statOf K cN eN fN tf) P w mg base L C.fns fs)
    (k2 : KnM (statOf K cN eN fN tf) P w mg base L C.mts ms) (k3 : KnI (statOf K cN eN fN tf) P w mg base L C.mks ks) (h3 : ∀ nm c, (nm, c) ∈ C.isc → ClsAt (statOf K cN eN fN tf) c ∧ IsiAt (statOf K cN eN fN tf) c ∧ cN.getD c "" = nm ∧ He.Fa.glo nm ∈ fa) (h4 : ∀ c ∈ C.cls, ClsAt (statOf K cN eN fN tf) c) (h5 : C.fN = fN) :
    GEnv (statOf K cN eN fN tf) C (fsOf fs ms ks) L P w mg base where
  gi x i hx := He.int_ok Z.X Z.G (Z.fact (h1 x i hx))
  bn x hx := He.free_ok Z.X Z.G (Z.fact (h2 x hx))
  fns j nm n e := k1.at e
  mts j c nm n e := k2.at e
  mks j nm c n ks e := k3.at e
  isc nm c hx := by
    obtain ⟨a, b, c', d⟩ := h3 nm c hx
    refine ⟨a, b, ?_⟩
    show mg nm = some (.ref (He.ga K (cN.getD c "")))
    rw [c']
    exact He.glo_ok Z.X Z.G (Z.fact d)
  cls := h4
  fN := h5.symm
theorem gexc (Z : Fac fa fn tf ex w h K mg base) {C : TC} (h1 : ∀ x c, (x, c) ∈ C.exs → eN.getD c "" = x ∧ He.Fa.exc x ∈ fa ∧ He.Fa.glo x ∈ fa) (h2 : ∀ x c x' c', (x, c) ∈ C.exs → (x', c') ∈ C.exs → PySem.W.exmOne K (.ref (He.ga K x)) (.ref (He.ga K x')) = some (decide (c = c'))) : GExc (statOf K cN eN fN tf) C mg where
  exm x c x' c' hx hx' := by
    show PySem.W.exmOne K (.ref (He.ga K (eN.getD c ""))) (.ref (He.ga K (eN.getD c' ""))) = _
    rw [(h1 x c hx).1, (h1 x' c' hx').1]
    exact h2 x c x' c' hx hx'
  ex x c hx := by
    obtain ⟨a, b, d⟩ := h1 x c hx
    obtain ⟨q1, q2, q3, q4⟩ := He.exc_ok (Z.fact b)
    refine ⟨He.veBase, "ValueError", "ValueError.__new__", _, F.excBase_ValueError, ?_, ?_, ?_, ?_, ?_⟩
    · show PySem.W.excIn K (He.ga K (eN.getD c "")) _ _ = true; rw [a]; exact q1
    · show mg x = some (.ref (He.ga K (eN.getD c ""))); rw [a]; exact He.glo_ok Z.X Z.G (Z.fact d)
    · show PySem.W.keepIn K (.ref (He.ga K (eN.getD c ""))) = true; rw [a]; exact q2
    · show PySem.W.subIn K (.ref (He.ga K (eN.getD c ""))) _ = _; rw [a]; exact q3
    · show PySem.W.typeIn K (.ref (He.ga K (eN.getD c ""))) = _; rw [a]; exact q4
theorem code_ref (Z : Fac fa fn tf ex w h K mg base) {p : He.Defn} (hp : p ∈ tf) {oc : Value} {od : Option Addr} {osl : Array (Option Value)} {fd : FuncData} {q : Str} (lk : K.lookup (He.fAd K p) = some ⟨oc, od, .func fd, osl⟩) (hc : PySem.W.codeIn K fd.code q = true) :
    ∃ c, fd.code = .ref c ∧ TabB base mg c (He.cT K p).2 := by
  obtain ⟨c, hc⟩ := He.codeIn_ref hc
  have e := He.codeOf_eq lk hc
  refine ⟨c, hc, ?_⟩
  have := Z.TB p hp
  have e1 : (He.cT K p).1 = c := e
  rw [e1] at this
  exact this
theorem code_of (Z : Fac fa fn tf ex w h K mg base) {p : He.Defn} (hp : p ∈ tf ∧ isLam p = false) {oc : Value} {od : Option Addr} {osl : Array (Option Value)} {fd : FuncData} {q : Str} (lk : K.lookup (He.fAd K p) = some ⟨oc, od, .func fd, osl⟩) (hc : PySem.W.codeIn K fd.code q = true) :
    ∃ c P, fd.code = .ref c ∧ TabB base mg c P ∧ P ∈ (statOf K cN eN fN tf).tG ∧ ∀ q ∈ (statOf K cN eN fN tf).tL, q.1 ≠ P := by
  obtain ⟨c, h1, h2⟩ := code_ref Z hp.1 lk hc
  refine ⟨c, (He.cT K p).2, h1, h2, List.mem_map.mpr ⟨p, List.mem_filter.mpr ⟨hp.1, by rw [hp.2]; rfl⟩, rfl⟩, fun q hq z => ?_⟩
  obtain ⟨p', hp', rfl⟩ := List.mem_map.mp hq
  obtain ⟨m1, m2⟩ := List.mem_filter.mp hp'
  rw [nd_inj (of_decide_eq_true Z.nd) m1 hp.1 z, hp.2] at m2
  cases m2
theorem lam_of (Z : Fac fa fn tf ex w h K mg base) {p : He.Defn} {nm : Str} (hp : p ∈ tf ∧ isLam p = true ∧ nm = p.1) {oc : Value} {od : Option Addr} {osl : Array (Option Value)} {fd : FuncData} {q : Str} (lk : K.lookup (He.fAd K p) = some ⟨oc, od, .func fd, osl⟩) (hc : PySem.W.codeIn K fd.code q = true) :
    LamAt (statOf K cN eN fN tf) mg base fd.code (nm ++ ".<locals>." ++ "<lambda>") := by
  obtain ⟨c, h1, h2⟩ := code_ref Z hp.1 lk hc
  have e : nm ++ ".<locals>." ++ "<lambda>" = lamNm p := by rw [hp.2.2]; rfl
  rw [e]
  refine ⟨c, (He.cT K p).2, h1, ⟨h2.code, h2.bm, h2.gP⟩, List.mem_map.mpr ⟨p, List.mem_filter.mpr ⟨hp.1, hp.2.1⟩, rfl⟩, fun q hq z => ?_, fun P' hP' z => ?_⟩
  · obtain ⟨p', hp', rfl⟩ := List.mem_map.mp hq
    rw [nd_inj (of_decide_eq_true Z.nd) (List.mem_filter.mp hp').1 hp.1 z]
  · obtain ⟨p', hp', rfl⟩ := List.mem_map.mp hP'
    obtain ⟨m1, m2⟩ := List.mem_filter.mp hp'
    rw [nd_inj (of_decide_eq_true Z.nd) m1 hp.1 z, hp.2.1] at m2
    cases m2
/-- a def of the module -/
theorem mk_known (Z : Fac fa fn tf ex w h K mg base) {d : He.DefD} (hd : d ∈ fn) {nm : Str} (hat : d.at_ = (nm, none)) (hglo : He.Fa.glo nm ∈ fa) (hdf : d.dfl = []) (hkw : d.kwd = []) {C : TC} {Φ : Fs} {b : Sm} {ps : List Str} (hS : FnScope C.N ps d.scope) (hsc : C.sc = d.scope) (hfn : C.fn = fun _ => true) (hb : tieB C b d.body = true)
    (hbn : ∀ (kV doc pm : Value) (an : Option Addr) (cdv ct : Value) (us : List Value), us.length = ps.length → bindArgs (PySem.W.fnOf d.name d.qual d.params d.body d.scope .none kV doc pm an cdv ct) ⟨us, []⟩ = pure (ps.zip us)) (hg : C.gen = true → ((nm, none) : He.Defn) ∈ tf ∧ isLam (nm, none) = false) (hl : C.lam = true → ((nm, none) : He.Defn) ∈ tf ∧ isLam (nm, none) = true ∧ d.qual = nm)
    (G : GEnv (statOf K cN eN fN tf) C Φ L P w mg base) (GX : GExc (statOf K cN eN fN tf) C mg) (hcl : ∀ c, fN c ≠ [] → ClsAt (statOf K cN eN fN tf) c) : Known (statOf K cN eN fN tf) P w mg base (L + 3) nm ps.length (runDef Φ fN C.N.length b) := by
  obtain ⟨fd, FD⟩ := Z.c.t.d.defs hd
  have e1 : d.dvs K = [] := by unfold He.DefD.dvs; rw [hdf]; rfl
  rw [e1] at FD
  have bi : Binds K fd ps [] := FunD.bindsN FD hbn
  have kp := FD.kp
  obtain ⟨oc, od, dV, kV, doc, pm, an, cdv, ct, osl, rfl, lk, hcd, hD, hK⟩ := FD.ex
  rw [hat] at lk kp
  exact ⟨He.ga K nm, _, ps, He.glo_ok Z.X Z.G (Z.fact hglo), kp, bi, def_ok (S := statOf K cN eN fN tf) lk hcd hS hsc hfn hb G GX hcl (fun z => code_of Z (hg z) lk hcd) fun z => lam_of Z (hl z) lk hcd⟩
/-- a method -/
theorem mk_knownM (Z : Fac fa fn tf ex w h K mg base) {d : He.DefD} (hd : d ∈ fn) {cn nm : Str} {c : Nat} (hc : cN.getD c "" = cn) (hat : d.at_ = (cn, some nm)) (hme : He.Fa.meth cn nm ∈ fa) (hno : nm ∉ fN c) (hdf : d.dfl = []) {C : TC} {Φ : Fs} {b : Sm} {ps : List Str} (hS : FnScope C.N ps d.scope) (hsc : C.sc = d.scope) (hfn : C.fn = fun _ => true) (hb : tieB C b d.body = true)
    (hbn : ∀ (kV doc pm : Value) (an : Option Addr) (cdv ct : Value) (us : List Value), us.length = ps.length → bindArgs (PySem.W.fnOf d.name d.qual d.params d.body d.scope .none kV doc pm an cdv ct) ⟨us, []⟩ = pure (ps.zip us)) (hg : C.gen = true → ((cn, some nm) : He.Defn) ∈ tf ∧ isLam (cn, some nm) = false) (hl : C.lam = false)
    (G : GEnv (statOf K cN eN fN tf) C Φ L P w mg base) (GX : GExc (statOf K cN eN fN tf) C mg) (hcl : ∀ c, fN c ≠ [] → ClsAt (statOf K cN eN fN tf) c) : KnownM (statOf K cN eN fN tf) P w mg base (L + 3) c nm ps.length (runDef Φ fN C.N.length b) := by
  obtain ⟨fd, FD⟩ := Z.c.t.d.defs hd
  have e1 : d.dvs K = [] := by unfold He.DefD.dvs; rw [hdf]; rfl
  rw [e1] at FD
  have bi : Binds K fd ps [] := FunD.bindsN FD hbn
  obtain ⟨oc, od, dV, kV, doc, pm, an, cdv, ct, osl, rfl, lk, hcd, hD, hK⟩ := FD.ex
  rw [hat] at lk
  refine ⟨He.ma K (He.ga K cn) nm, _, ps, ?_, hno, bi, def_ok (S := statOf K cN eN fN tf) lk hcd hS hsc hfn hb G GX hcl (fun z => code_of Z (hg z) lk hcd) fun z => (by rw [hl] at z; cases z)⟩
  show Meth K (He.ga K (cN.getD c "")) nm _
  rw [hc]
  exact He.meth_ok (Z.fact hme)
/-- a class by its __init__, all keywords written -/
theorem mk_knownI (Z : Fac fa fn tf ex w h K mg base) {d : He.DefD} (hd : d ∈ fn) {cn : Str} {c n1 : Nat} {ks : List Str} {dd : List D} {dv : List V} (hc : cN.getD c "" = cn) (hat : d.at_ = (cn, some ("__init__" : Str))) (hmk : He.Fa.mkr cn ∈ fa) (hglo : He.Fa.glo cn ∈ fa) {C : TC} {Φ : Fs} {b : Sm} {ps : List Str} (hS : FnScope C.N ps d.scope) (hsc : C.sc = d.scope) (hfn : C.fn = fun _ => true) (hb : tieB C b d.body = true)
    (hn : ps.length = (n1 + (ks.length + dd.length)) + 1) (hdd : ∀ F H, Reps (statOf K cN eN fN tf) F H dd dv)
    (hbn : ∀ (fd : FuncData), FunD K d.name d.qual d.params d.body d.scope (d.dvs K) (d.kws K) (He.fAd K d.at_) fd → ∃ g, KBn K fd ps (n1 + 1) ks g (fun vs zs => vs ++ (zs ++ dv))) (hg : C.gen = true → ((cn, some ("__init__" : Str)) : He.Defn) ∈ tf ∧ isLam (cn, some ("__init__" : Str)) = false) (hl : C.lam = false)
    (G : GEnv (statOf K cN eN fN tf) C Φ L P w mg base) (GX : GExc (statOf K cN eN fN tf) C mg) (hcl : ∀ c, fN c ≠ [] → ClsAt (statOf K cN eN fN tf) c) : KnownI (statOf K cN eN fN tf) P w mg base (L + 3) cn c n1 ks dd (runInit Φ fN c C.N.length b) := by
  obtain ⟨fd, FD⟩ := Z.c.t.d.defs hd
  obtain ⟨g, bi⟩ := hbn fd FD
  obtain ⟨oc, od, dV, kV, doc, pm, an, cdv, ct, osl, rfl, lk, hcd, hD, hK⟩ := FD.ex
  rw [hat] at lk
  have M := He.mkr_ok (Z.fact hmk)
  have e : (statOf K cN eN fN tf).cA c = He.ga K cn := by show He.ga K (cN.getD c "") = _; rw [hc]
  exact ⟨He.ma K (He.ga K cn) "__init__", _, ps, g, dv, by rw [e]; exact He.glo_ok Z.X Z.G (Z.fact hglo), by rw [e]; exact M, bi, hdd, init_ok (S := statOf K cN eN fN tf) lk hcd hS hsc hfn hb hn G GX hcl (fun z => code_of Z (hg z) lk hcd) hl⟩
/-- what the law is asked -/
theorem law_sp {φ : List D → Res D} {H : Hp} {a : Addr} {ns : List Int} (hT : ∀ p ∈ tf, H (He.cT K p).2 = some (.tbl #[])) (hS : SqL K H a (ns.map V.int)) (h1 : φ [.raw (ns.map D.int)] = .ok (.bl true)) (h2 : φ [.lst (ns.map D.int)] = .ok (.bl true)) :
    spD (statOf K cN eN fN tf) φ 1 [.ref a] H (fun v _ => v = .bl true) fun _ _ _ => False := by
  have gd : Gd (statOf K cN eN fN tf) H := by
    refine ⟨fun P hP => ?_, fun q hq => ?_⟩
    · obtain ⟨p, hp, rfl⟩ := List.mem_map.mp hP
      exact ⟨#[], hT p (List.mem_filter.mp hp).1, by first | exact trivial | decide | (simp [TriplesOk])⟩
    · obtain ⟨p, hp, rfl⟩ := List.mem_map.mp hq
      exact LamX.TabS.nil (hT p (List.mem_filter.mp hp).1)
  have ri : ∀ ns : List Int, Reps (statOf K cN eN fN tf) (fun _ => False) H (ns.map D.int) (ns.map V.int) := by
    intro ns
    induction ns with
    | nil => exact Reps.nil
    | cons i r ih => exact Reps.cons Rep.mk_int ih
  refine ⟨rfl, ?_⟩
  by_cases hl : ∃ ys, H a = some (.lst ys)
  · obtain ⟨ys, hy⟩ := hl
    have hys : Rd H a (.lst (ns.map V.int)) ∨ ∃ (o : Obj) (its : Array Value) (n : Nat), K.lookup a = some o ∧ o.cls = .type "list" ∧ o.dict = none ∧ o.data = .seq its n ∧ its.size ≤ sizeLine ∧ Vals (ns.map V.int) its.toList := hS
    rcases hys with hr | hr
    · refine ⟨[.lst (ns.map D.int)], fun _ => False, gd, fun _ z => z.elim, Reps.cons ?_ Reps.nil, ?_⟩
      · unfold Rep; exact ⟨a, _, rfl, id, hr, ri ns⟩
      · rw [h2]; exact fun v H' e g r => RepT.bl (S := statOf K cN eN fN tf) (F := fun _ => False) (H := H') (Rep.toT (H := H') r)
    · refine ⟨[.raw (ns.map D.int)], fun _ => False, gd, fun _ z => z.elim, Reps.cons ?_ Reps.nil, ?_⟩
      · unfold Rep; exact ⟨a, _, rfl, .inr ⟨hS, hr⟩, ri ns⟩
      · rw [h1]; exact fun v H' e g r => RepT.bl (S := statOf K cN eN fN tf) (F := fun _ => False) (H := H') (Rep.toT (H := H') r)
  · refine ⟨[.raw (ns.map D.int)], fun _ => False, gd, fun _ z => z.elim, Reps.cons ?_ Reps.nil, ?_⟩
    · unfold Rep; exact ⟨a, _, rfl, SqR.of hS fun ys z => hl ⟨ys, z⟩, ri ns⟩
    · rw [h1]; exact fun v H' e g r => RepT.bl (S := statOf K cN eN fN tf) (F := fun _ => False) (H := H') (Rep.toT (H := H') r)
end
end PD
/-! The list of facts, by kinds. -/
namespace PD
open PySem PySem.Spec PyProof.Rows L2 GxR
def faOf (GI : List (Str × Int)) (fns cls exs : List Str) (noats meths : List (Str × Str)) : List He.Fa :=
  (GI.map fun p => He.Fa.int p.1 p.2) ++ (bnames.map He.Fa.free ++ (fns.map He.Fa.glo ++ (cls.map He.Fa.glo ++ (exs.map He.Fa.glo ++ (cls.map He.Fa.cls ++ (cls.map He.Fa.mkr ++ (exs.map He.Fa.exc ++ ((noats.map fun p => He.Fa.noat p.1 p.2) ++ (meths.map fun p => He.Fa.meth p.1 p.2)))))))))
section
variable {GI : List (Str × Int)} {fns cls exs : List Str} {noats meths : List (Str × Str)}
theorem fa_int : ∀ x i, (x, i) ∈ GI → He.Fa.int x i ∈ faOf GI fns cls exs noats meths := fun x i h => List.mem_append_left _ (List.mem_map.mpr ⟨(x, i), h, rfl⟩)
theorem fa_free : ∀ x ∈ bnames, He.Fa.free x ∈ faOf GI fns cls exs noats meths := fun x h => List.mem_append_right _ (List.mem_append_left _ (List.mem_map.mpr ⟨x, h, rfl⟩))
theorem fa_glo {x : Str} (h : x ∈ fns) : He.Fa.glo x ∈ faOf GI fns cls exs noats meths := List.mem_append_right _ (List.mem_append_right _ (List.mem_append_left _ (List.mem_map.mpr ⟨x, h, rfl⟩)))
theorem fa_gloC {x : Str} (h : x ∈ cls) : He.Fa.glo x ∈ faOf GI fns cls exs noats meths := List.mem_append_right _ (List.mem_append_right _ (List.mem_append_right _ (List.mem_append_left _ (List.mem_map.mpr ⟨x, h, rfl⟩))))
theorem fa_gloE {x : Str} (h : x ∈ exs) : He.Fa.glo x ∈ faOf GI fns cls exs noats meths := List.mem_append_right _ (List.mem_append_right _ (List.mem_append_right _ (List.mem_append_right _ (List.mem_append_left _ (List.mem_map.mpr ⟨x, h, rfl⟩)))))
theorem fa_cls {x : Str} (h : x ∈ cls) : He.Fa.cls x ∈ faOf GI fns cls exs noats meths := List.mem_append_right _ (List.mem_append_right _ (List.mem_append_right _ (List.mem_append_right _ (List.mem_append_right _ (List.mem_append_left _ (List.mem_map.mpr ⟨x, h, rfl⟩))))))
theorem fa_mkr {x : Str} (h : x ∈ cls) : He.Fa.mkr x ∈ faOf GI fns cls exs noats meths := List.mem_append_right _ (List.mem_append_right _ (List.mem_append_right _ (List.mem_append_right _ (List.mem_append_right _ (List.mem_append_right _ (List.mem_append_left _ (List.mem_map.mpr ⟨x, h, rfl⟩)))))))
theorem fa_exc {x : Str} (h : x ∈ exs) : He.Fa.exc x ∈ faOf GI fns cls exs noats meths := List.mem_append_right _ (List.mem_append_right _ (List.mem_append_right _ (List.mem_append_right _ (List.mem_append_right _ (List.mem_append_right _ (List.mem_append_right _ (List.mem_append_left _ (List.mem_map.mpr ⟨x, h, rfl⟩))))))))
theorem fa_noat {x f : Str} (h : (x, f) ∈ noats) : He.Fa.noat x f ∈ faOf GI fns cls exs noats meths := List.mem_append_right _ (List.mem_append_right _ (List.mem_append_right _ (List.mem_append_right _ (List.mem_append_right _ (List.mem_append_right _ (List.mem_append_right _ (List.mem_append_right _ (List.mem_append_left _ (List.mem_map.mpr ⟨(x, f), h, rfl⟩)))))))))
theorem fa_meth {x f : Str} (h : (x, f) ∈ meths) : He.Fa.meth x f ∈ faOf GI fns cls exs noats meths := List.mem_append_right _ (List.mem_append_right _ (List.mem_append_right _ (List.mem_append_right _ (List.mem_append_right _ (List.mem_append_right _ (List.mem_append_right _ (List.mem_append_right _ (List.mem_append_right _ (List.mem_map.mpr ⟨(x, f), h, rfl⟩)))))))))
end
/-- keyword-only parameters, those that are written ahead of those that lack -/
theorem kb_of {K : PySem.W.Frag} {x qual : Str} {params : Arguments} {body : List Stmt} {scope : Scope} {kws : List (Str × V)} {f : Addr} {fd : FuncData} {ps : List Str} (F : FunD K x qual params body scope [] kws f fd) (n : Nat) (ks : List Str) (ms : List (Str × V)) (hk : kws ≠ []) (hms : ∀ q ∈ ms, q ∈ kws)
    (h : ∀ (D : Addr) (doc pm : Value) (an : Option Addr) (cdv ct : Value) (us mv ws : List Value), us.length = n → mv.length = ms.length → ws.length = ks.length →
      KwChain D ((ms.map (·.1)).zip mv) (bindArgs (PySem.W.fnOf x qual params body scope .none (.ref D) doc pm an cdv ct) ⟨us, ks.zip ws⟩) (ps.zip (us ++ (ws ++ mv)))) :
    ∃ g, KBn K fd ps n ks g (fun vs zs => vs ++ (zs ++ ms.map (·.2))) := by
  obtain ⟨mv, b⟩ := F.kbinds0 (ps := ps) n ks ms (fun {α} (us mv ws : List α) => us ++ (ws ++ mv)) hk hms (fun h1 h2 h3 => h1.append (h3.append h2)) h
  exact ⟨_, b⟩
/-- the law -/
theorem mk_law {fa : List He.Fa} {fn : List He.DefD} {tf : List He.Defn} {ex : PySem.W.Frag → Bool} {l : PySem.W.OpenLaw} {w : World} {h : Heap} {K : PySem.W.Frag} {mg : Str → Option Value} {cN eN : List Str} {fN : Nat → List Str} {L : Nat} {fA : Addr} {d : He.DefD} {C : TC} {Φ : Fs} {b : Sm}
    (X : K.In h) (Gm : h.Ns mainGlobals mg) (c : He.SaysX fa fn [] tf ex w h K) (hd : d ∈ fn) (hat : d.at_ = (("law" : Str), none)) (hglo : He.Fa.glo "law" ∈ fa) (hmg : mg "law" = some (.ref fA)) (hdf : d.dfl = []) (hS : FnScope C.N ["script"] d.scope) (hsc : C.sc = d.scope) (hfn : C.fn = fun _ => true) (hb : tieB C b d.body = true)
    (hbn : ∀ (kV doc pm : Value) (an : Option Addr) (cdv ct : Value) (us : List Value), us.length = (["script"] : List Str).length → bindArgs (PySem.W.fnOf d.name d.qual d.params d.body d.scope .none kV doc pm an cdv ct) ⟨us, []⟩ = pure ((["script"] : List Str).zip us)) (hg : C.gen = true → ((("law" : Str), none) : He.Defn) ∈ tf ∧ isLam (("law" : Str), none) = false) (hl : C.lam = false) (hnd : tabNd K tf = true)
    (G : ∀ base, Fac fa fn tf ex w h K mg base → GEnv (statOf K cN eN fN tf) C Φ L l.prog w mg base) (GX : ∀ base, Fac fa fn tf ex w h K mg base → GExc (statOf K cN eN fN tf) C mg) (hcl : ∀ base, Fac fa fn tf ex w h K mg base → ∀ c, fN c ≠ [] → ClsAt (statOf K cN eN fN tf) c)
    (math : ∀ ns : List Int, ns.length ≤ 63 → (∀ z ∈ ns, Builtin.Int.intBits z ≤ 1048576) → runDef Φ fN C.N.length b [.raw (ns.map D.int)] = .ok (.bl true) ∧ runDef Φ fN C.N.length b [.lst (ns.map D.int)] = .ok (.bl true)) :
    LamX.LawAtS l w K (L2.CX l.prog w) (L + 3) 63 "script" mg fA h := by
  obtain ⟨fd, FD⟩ := c.t.d.defs hd
  have e1 : d.dvs K = [] := by unfold He.DefD.dvs; rw [hdf]; rfl
  rw [e1] at FD
  have bi := FunD.bindsA FD hbn
  have kp := FD.kp
  obtain ⟨oc, od, dV, kV, doc, pm, an, cdv, ct, osl, rfl, lk, hcd, hD, hK⟩ := FD.ex
  rw [hat] at lk kp
  have ef : He.fAd K (("law" : Str), none) = fA := by
    have z := (He.glo_ok X Gm (c.t.d.facts hglo)).symm.trans hmg
    exact Value.ref.inj (Option.some.inj z)
  have lk2 := lk
  rw [ef] at lk kp
  refine ⟨_, tf.map (He.cT K), spD (statOf K cN eN fN tf) (runDef Φ fN C.N.length b) 1, fun p hp => ?_, fun p hp => ?_, fun p hp => ?_, fun s u => bi s [u] rfl, fun H a ns hl hbits hT hS' => ?_, fun base hB hN hTB => ?_⟩
  · obtain ⟨q, hq, rfl⟩ := List.mem_map.mp hp
    exact c.empty q hq
  · obtain ⟨q, hq, rfl⟩ := List.mem_map.mp hp
    exact c.out q hq
  · obtain ⟨q, hq, rfl⟩ := List.mem_map.mp hp
    exact PySem.W.codeHd_of_K X (c.hd q hq)
  · obtain ⟨m1, m2⟩ := math ns hl hbits
    exact law_sp (fun p hp => hT _ (List.mem_map.mpr ⟨p, hp, rfl⟩)) hS' m1 m2
  · have Z : Fac fa fn tf ex w h K mg base := ⟨X, Gm, c, fun p hp => by have z := hTB _ (List.mem_map.mpr ⟨p, hp, rfl⟩); exact ⟨z.code, z.bm, z.gP⟩, hnd⟩
    refine def_ok (S := statOf K cN eN fN tf) lk hcd hS hsc hfn hb (G base Z) (GX base Z) (hcl base Z) (fun z => code_of Z (hg z) lk2 hcd) fun z => (by rw [hl] at z; cases z)
theorem cx_none {P : Program} {w : World} (H : Hp) (s : Shared) (e : Value) (s' : Shared) (h : L2.CX P w [] H s (fun _ _ _ => False) e s') : False := by
  obtain ⟨_, _, _, _, _, _, _, _, _, _, _, _, z⟩ := h
  exact z
end PD
/-! The Hook of the head, its places found by a mask (no list is searched for what is met twice). -/
namespace PD
open PySem PySem.Spec PyProof.Rows L2
def maskS : Nat → List Addr → List Addr → Nat × List Addr
  | m, acc, [] => (m, acc)
  | m, acc, a :: r => match Nat.testBit m a with
    | true => maskS m acc r
    | false => maskS (Nat.lor m (Nat.shiftLeft 1 a)) (a :: acc) r
def namedBy (g : Addr → Option Obj) (a : Addr) : List Addr := match g a with
  | some o => He.refsD o
  | none => []
def waves (g : Addr → Option Obj) : Nat → Nat → List Addr → List Addr → List Addr
  | 0, _, _, all => all
  | n + 1, m, fr, all => match maskS m [] (fr.flatMap (namedBy g)) with
    | (m', new) => waves g n m' new (new ++ all)
/-- what is reached from the top's names in n steps -/
def asW (g : Addr → Option Obj) (n : Nat) : List Addr := waves g n (Nat.shiftLeft 1 mainGlobals) [mainGlobals] [mainGlobals]
section
variable {n : Nat} {fa : List He.Fa} {fn : List He.DefD} {ts : List He.Tab} {tf : List He.Defn} {ex : PySem.W.Frag → Bool}
def obsOn (fa : List He.Fa) (fn : List He.DefD) (ts : List He.Tab) (tf : List He.Defn) (ex : PySem.W.Frag → Bool) (g : Addr → Option Obj) (K : PySem.W.Frag) : He.AlX := (He.obsT fa fn ts K, ex K && He.tabsB g tf K)
def obsW (n : Nat) (fa : List He.Fa) (fn : List He.DefD) (ts : List He.Tab) (tf : List He.Defn) (ex : PySem.W.Frag → Bool) (g : Addr → Option Obj) : He.AlX := obsOn fa fn ts tf ex g (He.frT g (asW g n))
theorem saysOn {w : World} {h : Heap} {as : List Addr} (e : obsOn fa fn ts tf ex h.get? (He.frT h.get? as) = He.valX fn ts w) : He.SaysX fa fn ts tf ex w h (He.frT h.get? as) := by
  generalize eK : He.frT h.get? as = K at e ⊢
  have e1 := congrArg (·.1) e
  have e2 := congrArg (·.2) e
  have e2 : (ex K && He.tabsB h.get? tf K) = true := e2
  rw [Bool.and_eq_true] at e2
  have all := List.all_eq_true.mp e2.2
  have tab : ∀ p ∈ tf, PySem.W.codeHdIn K (He.cT K p).1 (He.cT K p).2 = true ∧ ∃ o, h.get? (He.cT K p).2 = some o ∧ He.emptyTab o = true := by
    intro p hp
    have z := all p hp
    rw [Bool.and_eq_true] at z
    refine ⟨z.1, ?_⟩
    have z2 := z.2
    cases q : h.get? (He.cT K p).2 with
    | none => rw [q] at z2; exact absurd z2 Bool.false_ne_true
    | some o => rw [q] at z2; exact ⟨o, rfl, z2⟩
  refine ⟨e1, e2.1, fun p hp => (tab p hp).1, fun p hp => ?_, fun p hp => ?_⟩
  · obtain ⟨_, o, q, z⟩ := tab p hp
    rw [← eK] at q ⊢
    exact He.frT_none q z
  · obtain ⟨_, o, q, z⟩ := tab p hp
    rw [q, He.emptyTab_eq z]
def hookW (n : Nat) (fa : List He.Fa) (fn : List He.DefD) (ts : List He.Tab) (tf : List He.Defn) (ex : PySem.W.Frag → Bool) : PySem.W.Hook where
  α := He.AlX
  obs := fun s => obsW n fa fn ts tf ex s.heap.get?
  val := fun w => He.valX fn ts w
  says := fun w h => ∃ K : PySem.W.Frag, K.In h ∧ He.SaysX fa fn ts tf ex w h K
  of := fun _ _ e => ⟨_, He.frT_in, saysOn e⟩
  keeps := fun _ _ _ ⟨K, hK, c⟩ k => ⟨K, hK.keeps k, { t := c.t, more := c.more, hd := c.hd, out := c.out, empty := fun p hp => k _ _ (c.empty p hp) }⟩
theorem obsW_eq {g : Addr → Option Obj} {s : Shared} (h : ∀ a, g a = s.heap.get? a) : obsW n fa fn ts tf ex g = (hookW n fa fn ts tf ex).obs s := by
  obtain rfl : g = s.heap.get? := funext h
  rfl
end
/-- a run told part by part -/
theorem run_of {σ β : Type} {e : Option σ} {A : σ → Bool} {B : σ → β} {C : σ → He.AlX} {b : β} {c : He.AlX} (hA : e.map A = some true) (hB : e.map B = some b) (hC : e.map (fun s => (C s).1) = some c.1) (hD : e.map (fun s => (C s).2) = some c.2) :
    e.map (fun s => (A s, B s, C s)) = some (true, b, c) := by
  cases e with
  | none => cases hA
  | some s =>
    have a := Option.some.inj hA
    have b' := Option.some.inj hB
    have c1 := Option.some.inj hC
    have c2 := Option.some.inj hD
    have cc : C s = c := Prod.ext c1 c2
    show some (A s, B s, C s) = _
    rw [a, b', cc]
end PD
/-! isinstance with own classes: what the head is asked. -/
namespace PD
open PySem PySem.Spec PyProof.Rows L2 GxR
def isiB (K : PySem.W.Frag) (nm : Str) : Bool :=
  decide (PySem.W.findIn K (.ref (He.ga K nm)) "__class__" = some (some (.builtin "object.__class__"))) &&
  (decide (PySem.W.specialIn K (.builtin "object.__class__") "__get__" = some (some (.builtin "getset_descriptor.__get__"))) &&
  (decide (PySem.W.takesIn K (.builtin "object.__class__") = some true) &&
  (decide (PySem.W.mroIn K (He.ga K nm) (.type "object") = some true) &&
  decide (PySem.W.kitOne K (.type "NoneType") (.ref (He.ga K nm)) = some false))))
theorem isi_of {K : PySem.W.Frag} {cN eN : List Str} {fN : Nat → List Str} {tf : List He.Defn} {nm : Str} {c : Nat} (h : isiB K nm = true) (hc : cN.getD c "" = nm) : IsiAt (statOf K cN eN fN tf) c := by
  unfold isiB at h
  simp only [Bool.and_eq_true, decide_eq_true_eq] at h
  obtain ⟨h1, h2, h3, h4, h5⟩ := h
  have e : (statOf K cN eN fN tf).cA c = He.ga K nm := by show He.ga K (cN.getD c "") = _; rw [hc]
  exact ⟨by rw [e]; exact h1, h2, h3, by rw [e]; exact h4, by rw [e]; exact h5⟩
/-- which exceptions an except clause takes -/
def exmB (K : PySem.W.Frag) (EX : List (Str × Nat)) : Bool := EX.all fun p => EX.all fun q => decide (PySem.W.exmOne K (.ref (He.ga K p.1)) (.ref (He.ga K q.1)) = some (decide (p.2 = q.2)))
theorem exm_of {K : PySem.W.Frag} {EX : List (Str × Nat)} (h : exmB K EX = true) : ∀ x c x' c', (x, c) ∈ EX → (x', c') ∈ EX → PySem.W.exmOne K (.ref (He.ga K x)) (.ref (He.ga K x')) = some (decide (c = c')) :=
  fun x c x' c' hx hx' => of_decide_eq_true (List.all_eq_true.mp (List.all_eq_true.mp h (x, c) hx) (x', c') hx')
end PD
/-! The evaluators' equations, for simp. -/
namespace PD
open PySem PySem.Spec
section
variable {Φ : Fs} {fN : Nat → List Str} {ρ : En}
@[simp] theorem v_var {i : Nat} : ev Φ (.var i) ρ = (match (ρ.sl i).val with | some d => .ok d | none => .bad) := Eq.trans rfl rfl
@[simp] theorem v_int {i : Int} : ev Φ (.int i) ρ = .ok (.int i) := Eq.trans rfl rfl
@[simp] theorem v_bl {b : Bool} : ev Φ (.bl b) ρ = .ok (.bl b) := Eq.trans rfl rfl
@[simp] theorem v_non : ev Φ .non ρ = .ok .non := Eq.trans rfl rfl
@[simp] theorem v_str {x : Str} : ev Φ (.str x) ρ = .ok (.str x) := Eq.trans rfl rfl
@[simp] theorem v_gint {x : Str} {i : Int} : ev Φ (.gint x i) ρ = .ok (.int i) := Eq.trans rfl rfl
@[simp] theorem v_bin {o : Bop} {a b : Ex} : ev Φ (.bin o a b) ρ = (ev Φ a ρ).bind fun x => (ev Φ b ρ).bind fun y => binD o x y := Eq.trans rfl rfl
@[simp] theorem v_cmp {o : Cop} {a b : Ex} : ev Φ (.cmp o a b) ρ = (ev Φ a ρ).bind fun x => (ev Φ b ρ).bind fun y => blD (cmpD o x y) := Eq.trans rfl rfl
@[simp] theorem v_chn {o o' : Iop} {a b c : Ex} : ev Φ (.chn o o' a b c) ρ = (ev Φ a ρ).bind fun x => (ev Φ b ρ).bind fun y => (iopD o x y).bind fun t => if t then (ev Φ c ρ).bind fun z => blD (iopD o' y z) else .ok (.bl false) := Eq.trans rfl rfl
@[simp] theorem v_neg {a : Ex} : ev Φ (.neg a) ρ = (ev Φ a ρ).bind negD := Eq.trans rfl rfl
@[simp] theorem v_nt {a : Ex} : ev Φ (.nt a) ρ = (ev Φ a ρ).bind fun d => (asB d).bind fun b => .ok (.bl (!b)) := Eq.trans rfl rfl
@[simp] theorem v_and {a b : Ex} : ev Φ (.and a b) ρ = (ev Φ a ρ).bind fun d => (asB d).bind fun t => if t then ev Φ b ρ else .ok (.bl false) := Eq.trans rfl rfl
@[simp] theorem v_or {a b : Ex} : ev Φ (.or a b) ρ = (ev Φ a ρ).bind fun d => (asB d).bind fun t => if t then .ok (.bl true) else ev Φ b ρ := Eq.trans rfl rfl
@[simp] theorem v_ite {c a b : Ex} : ev Φ (.ite c a b) ρ = ((ev Φ c ρ).bind asB).bind fun t => if t then ev Φ a ρ else ev Φ b ρ := Eq.trans rfl rfl
@[simp] theorem v_tup {es : Ex} : ev Φ (.tup es) ρ = (evs Φ es ρ).bind tupK := Eq.trans rfl rfl
@[simp] theorem v_lst {es : Ex} : ev Φ (.lst es) ρ = (evs Φ es ρ).bind lstK := Eq.trans rfl rfl
@[simp] theorem v_dic0 : ev Φ .dic0 ρ = .ok (.dic [] []) := Eq.trans rfl rfl
@[simp] theorem v_ix {a b : Ex} : ev Φ (.ix a b) ρ = (ev Φ a ρ).bind fun x => (ev Φ b ρ).bind fun y => ixD x y := Eq.trans rfl rfl
@[simp] theorem v_sl {a lo hi : Ex} : ev Φ (.sl a lo hi) ρ = (ev Φ a ρ).bind fun d => (if lo.isNil then .ok none else (ev Φ lo ρ).bind toI).bind fun l => (if hi.isNil then .ok none else (ev Φ hi ρ).bind toI).bind fun h => sliceD d l h := Eq.trans rfl rfl
@[simp] theorem v_fld {c k : Nat} {a : Ex} : ev Φ (.fld c k a) ρ = (ev Φ a ρ).bind (fldD c k) := Eq.trans rfl rfl
@[simp] theorem v_bi {f : Bfn} {es : Ex} : ev Φ (.bi f es) ρ = (evs Φ es ρ).bind (bfnD f) := Eq.trans rfl rfl
@[simp] theorem v_isi {t : Ty} {a : Ex} : ev Φ (.isi t a) ρ = (ev Φ a ρ).bind fun d => blD (isiD t d) := Eq.trans rfl rfl
@[simp] theorem v_isc {c : Nat} {a : Ex} : ev Φ (.isc c a) ρ = (ev Φ a ρ).bind fun d => blD (isiC c d) := Eq.trans rfl rfl
@[simp] theorem v_call {j : Nat} {es : Ex} : ev Φ (.call j es) ρ = (evs Φ es ρ).bind (Φ.f j) := Eq.trans rfl rfl
@[simp] theorem v_meth {j c : Nat} {o es : Ex} : ev Φ (.meth j c o es) ρ = (ev Φ o ρ).bind fun x => if x.isC c then (evs Φ es ρ).bind fun ds => noX (Φ.m j (x :: ds)) else .bad := Eq.trans rfl rfl
@[simp] theorem v_make {j c : Nat} {es kws : Ex} : ev Φ (.make j c es kws) ρ = (evs Φ es ρ).bind fun ds => (evs Φ kws ρ).bind fun es => (Φ.k j (ds ++ (es ++ Φ.dd j))).bind fun fl => .ok (.obj c fl) := Eq.trans rfl rfl
@[simp] theorem v_lc {k : IK} {vs : List Nat} {t : Tg} {it c e : Ex} : ev Φ (.lc k vs t it c e) ρ = (evI Φ k it ρ).bind fun ds => (lcL vs t (evC Φ c) (ev Φ e) ρ ds).bind fun xs => if xs.length ≤ sizeLine then .ok (.lst xs) else .bad := by cases k <;> exact Eq.trans rfl rfl
@[simp] theorem v_gen {stop : Bool} {k : IK} {vs : List Nat} {t : Tg} {it e : Ex} : ev Φ (.gen stop k vs t it e) ρ = (evI Φ k it ρ).bind fun ds => (noE (genL stop vs t (ev Φ e) ρ ds)).bind fun b => .ok (.bl b) := by cases k <;> exact Eq.trans rfl rfl
@[simp] theorem v_tupR {es : Ex} : ev Φ (.tupR es) ρ = (evs Φ es ρ).bind tupRD := Eq.trans rfl rfl
@[simp] theorem vs_nil : evs Φ .nil ρ = .ok [] := Eq.trans rfl rfl
@[simp] theorem vs_cons {a r : Ex} : evs Φ (.cons a r) ρ = (ev Φ a ρ).bind fun d => (evs Φ r ρ).bind fun ds => .ok (d :: ds) := Eq.trans rfl rfl
@[simp] theorem vI_seq {it : Ex} : evI Φ .seq it ρ = (ev Φ it ρ).bind itemsD := Eq.trans rfl rfl
@[simp] theorem vI_rng {it : Ex} : evI Φ .rng it ρ = (evs Φ it ρ).bind rngA := Eq.trans rfl rfl
@[simp] theorem vC_nil : evC Φ .nil ρ = .ok true := Eq.trans rfl rfl
theorem vC_of {c : Ex} (h : c.isNil = false) : evC Φ c ρ = (ev Φ c ρ).bind asB := by unfold evC; rw [h]; rfl
/-! statements -/
@[simp] theorem x_asg {i : Nat} {e : Ex} : exS Φ fN (.asg i e) ρ = liftR (ev Φ e (demE (slx true e) ρ)) (demE (slx true e) ρ) fun d => .nx ((demE (slx true e) ρ).set i (.pl d)) := Eq.trans rfl rfl
@[simp] theorem x_own {i : Nat} {e : Ex} : exS Φ fN (.own i e) ρ = liftR (ev Φ e (demE (slx true e) ρ)) (demE (slx true e) ρ) fun d => ownV d (demE (slx true e) ρ) i := Eq.trans rfl rfl
@[simp] theorem x_asgT {is : List Nat} {e : Ex} : exS Φ fN (.asgT is e) ρ = liftR (ev Φ e (demE (slx true e) ρ)) (demE (slx true e) ρ) fun d => liftR (bindT (.many is) d (demE (slx true e) ρ)) (demE (slx true e) ρ) .nx := Eq.trans rfl rfl
@[simp] theorem x_app {i : Nat} {e : Ex} : exS Φ fN (.app i e) ρ = (match (demE (slx true e) ρ).sl i with
  | .ow (.lst ds) => liftR (ev Φ e (demE (slx true e) ρ)) (demE (slx true e) ρ) fun d => if ds.length < sizeLine then .nx ((demE (slx true e) ρ).set i (.ow (.lst (ds ++ [d])))) else .bad
  | _ => .bad) := Eq.trans rfl rfl
@[simp] theorem x_ifs {c : Ex} {a b : Sm} : exS Φ fN (.ifs c a b) ρ = liftR ((ev Φ c (demE (slx false c) ρ)).bind asB) (demE (slx false c) ρ) fun t => if t then exS Φ fN a (demE (slx false c) ρ) else exS Φ fN b (demE (slx false c) ρ) := Eq.trans rfl rfl
@[simp] theorem x_fors {k : IK} {t : Tg} {it : Ex} {b : Sm} : exS Φ fN (.fors k t it b) ρ = liftR (evI Φ k it (demE (slI k it) ρ)) (demE (slI k it) ρ) fun ds => forL t (exS Φ fN b) (demE (slI k it) ρ) ds := Eq.trans rfl rfl
@[simp] theorem x_ret {e : Ex} : exS Φ fN (.ret e) ρ = liftR (ev Φ e (demE (slx true e) ρ)) (demE (slx true e) ρ) .rt := Eq.trans rfl rfl
@[simp] theorem x_retN : exS Φ fN .retN ρ = .rt .non := Eq.trans rfl rfl
@[simp] theorem x_pass : exS Φ fN .pass ρ = .nx ρ := Eq.trans rfl rfl
@[simp] theorem x_brk : exS Φ fN .brk ρ = .bk ρ := Eq.trans rfl rfl
@[simp] theorem x_cnt : exS Φ fN .cnt ρ = .ct ρ := Eq.trans rfl rfl
@[simp] theorem x_drop {e : Ex} : exS Φ fN (.drop e) ρ = liftR (ev Φ e (demE (slx true e) ρ)) (demE (slx true e) ρ) fun _ => .nx (demE (slx true e) ρ) := Eq.trans rfl rfl
@[simp] theorem x_raise {c : Nat} : exS Φ fN (.raise c) ρ = .exc c ρ := Eq.trans rfl rfl
@[simp] theorem x_fld {i : Nat} {nm : Str} {e : Ex} : exS Φ fN (.fld i nm e) ρ = (match (demE (slx true e) ρ).sl i with
  | .mk (.obj c fs) => if (fN c)[fs.length]? = some nm then liftR (ev Φ e (demE (slx true e) ρ)) (demE (slx true e) ρ) fun d => .nx ((demE (slx true e) ρ).set i (.mk (.obj c (fs ++ [d])))) else .bad
  | _ => .bad) := Eq.trans rfl rfl
@[simp] theorem x_nil : exS Φ fN .nil ρ = .nx ρ := Eq.trans rfl rfl
@[simp] theorem x_cons {s r : Sm} : exS Φ fN (.cons s r) ρ = (exS Φ fN s ρ).bind (exS Φ fN r) := Eq.trans rfl rfl
@[simp] theorem o_nx {k : En → Out} : (Out.nx ρ).bind k = k ρ := Eq.trans rfl rfl
@[simp] theorem o_rt {d : D} {k : En → Out} : (Out.rt d).bind k = .rt d := Eq.trans rfl rfl
@[simp] theorem o_exc {c : Nat} {k : En → Out} : (Out.exc c ρ).bind k = .exc c ρ := Eq.trans rfl rfl
@[simp] theorem o_bk {k : En → Out} : (Out.bk ρ).bind k = .bk ρ := Eq.trans rfl rfl
@[simp] theorem o_ct {k : En → Out} : (Out.ct ρ).bind k = .ct ρ := Eq.trans rfl rfl
@[simp] theorem l_exc {α : Type} {c : Nat} {k : α → Out} : liftR (.exc c : Res α) ρ k = .exc c ρ := Eq.trans rfl rfl
@[simp] theorem R_rt {d : D} : outR (.rt d) = .ok d := Eq.trans rfl rfl
@[simp] theorem R_nx : outR (.nx ρ) = .ok .non := Eq.trans rfl rfl
@[simp] theorem R_exc {c : Nat} : outR (.exc c ρ) = .exc c := Eq.trans rfl rfl
/-! slots -/
@[simp] theorem sl_cons0 {s : Sl} {r : List Sl} : En.sl (s :: r) 0 = s := Eq.trans rfl rfl
@[simp] theorem sl_consS {s : Sl} {r : List Sl} {i : Nat} : En.sl (s :: r) (i + 1) = En.sl r i := Eq.trans rfl rfl
@[simp] theorem val_pl {d : D} : (Sl.pl d).val = some d := Eq.trans rfl rfl
@[simp] theorem val_ow {d : D} : (Sl.ow d).val = some d := Eq.trans rfl rfl
@[simp] theorem own_pl {d : D} : (Sl.pl d).own = none := Eq.trans rfl rfl
@[simp] theorem own_un : Sl.un.own = none := Eq.trans rfl rfl
@[simp] theorem own_ow {d : D} : (Sl.ow d).own = some d := Eq.trans rfl rfl
@[simp] theorem own_mk {d : D} : (Sl.mk d).own = some d := Eq.trans rfl rfl
@[simp] theorem dem_nil : demE [] ρ = ρ := Eq.trans rfl rfl
@[simp] theorem dem_cons {i : Nat} {es : List Nat} : demE (i :: es) ρ = demE es (match (ρ.sl i).own with | some _ => ρ.set i (demS (ρ.sl i)) | none => ρ) := Eq.trans rfl rfl
@[simp] theorem demS_ow {d : D} : demS (.ow d) = .pl d := Eq.trans rfl rfl
end
/-! data -/
section
variable {i j : Int} {b c : Bool}
@[simp] theorem b_add : binD .add = plusD := Eq.trans rfl rfl
@[simp] theorem b_sub : binD .sub = subD := Eq.trans rfl rfl
@[simp] theorem b_mul : binD .mul = mulD := Eq.trans rfl rfl
@[simp] theorem b_fdiv : binD .fdiv = fdivD := Eq.trans rfl rfl
@[simp] theorem b_mod : binD .mod = modD := Eq.trans rfl rfl
@[simp] theorem b_pow : binD .pow = powD := Eq.trans rfl rfl
@[simp] theorem d_add : plusD (.int i) (.int j) = .ok (.int (i + j)) := Eq.trans rfl rfl
@[simp] theorem d_sub : subD (.int i) (.int j) = .ok (.int (i - j)) := Eq.trans rfl rfl
theorem d_mulL (h : -(2 ^ 64) < i ∧ i < 2 ^ 64) : mulD (.int i) (.int j) = .ok (.int (i * j)) := if_pos (.inl h)
theorem d_mulR (h : -(2 ^ 64) < j ∧ j < 2 ^ 64) : mulD (.int i) (.int j) = .ok (.int (i * j)) := if_pos (.inr h)
theorem d_fdiv (h : 0 < j ∧ j < 1073741824) : fdivD (.int i) (.int j) = .ok (.int (i / j)) := if_pos h
theorem d_mod (h : 0 < j) : modD (.int i) (.int j) = .ok (.int (i % j)) := if_pos h
@[simp] theorem d_neg : negD (.int i) = .ok (.int (-i)) := Eq.trans rfl rfl
@[simp] theorem c_eq {x y : D} : cmpD .eq x y = eqD x y := Eq.trans rfl rfl
@[simp] theorem c_ne {x y : D} : cmpD .ne x y = notB (eqD x y) := Eq.trans rfl rfl
@[simp] theorem c_lt {x y : D} : cmpD .lt x y = ltD x y := Eq.trans rfl rfl
@[simp] theorem c_le {x y : D} : cmpD .le x y = leD x y := Eq.trans rfl rfl
@[simp] theorem c_gt {x y : D} : cmpD .gt x y = gtD x y := Eq.trans rfl rfl
@[simp] theorem c_ge {x y : D} : cmpD .ge x y = geD x y := Eq.trans rfl rfl
@[simp] theorem c_in {x y : D} : cmpD .isin x y = inD x y := Eq.trans rfl rfl
@[simp] theorem c_nin {x y : D} : cmpD .nin x y = notB (inD x y) := Eq.trans rfl rfl
@[simp] theorem c_is {x y : D} : cmpD .is x y = isD x y := Eq.trans rfl rfl
@[simp] theorem c_isnot {x y : D} : cmpD .isnot x y = notB (isD x y) := Eq.trans rfl rfl
@[simp] theorem i_lt {x y : D} : iopD .lt x y = iLt x y := Eq.trans rfl rfl
@[simp] theorem i_le {x y : D} : iopD .le x y = leD x y := Eq.trans rfl rfl
@[simp] theorem e_iLt : iLt (.int i) (.int j) = .ok (decide (i < j)) := Eq.trans rfl rfl
@[simp] theorem e_lt : ltD (.int i) (.int j) = .ok (decide (i < j)) := Eq.trans rfl rfl
@[simp] theorem e_le : leD (.int i) (.int j) = .ok (decide (i ≤ j)) := Eq.trans rfl rfl
@[simp] theorem e_gt : gtD (.int i) (.int j) = .ok (decide (j < i)) := Eq.trans rfl rfl
@[simp] theorem e_ge : geD (.int i) (.int j) = .ok (decide (j ≤ i)) := Eq.trans rfl rfl
@[simp] theorem bl_ok : blD (.ok b) = .ok (.bl b) := Eq.trans rfl rfl
@[simp] theorem bl_exc {c : Nat} : blD (.exc c) = .exc c := Eq.trans rfl rfl
@[simp] theorem nb_ok : notB (.ok b) = .ok (!b) := Eq.trans rfl rfl
@[simp] theorem as_bl : asB (.bl b) = .ok b := Eq.trans rfl rfl
@[simp] theorem f_len : bfnD .len = lenD := Eq.trans rfl rfl
@[simp] theorem f_abs : bfnD .abs = absD := Eq.trans rfl rfl
@[simp] theorem f_max : bfnD .max = maxD := Eq.trans rfl rfl
@[simp] theorem f_min : bfnD .min = minD := Eq.trans rfl rfl
@[simp] theorem f_sum : bfnD .sum = sumD := Eq.trans rfl rfl
@[simp] theorem f_int : bfnD .int = int1D := Eq.trans rfl rfl
@[simp] theorem f_tuple : bfnD .tuple = tupleD := Eq.trans rfl rfl
@[simp] theorem f_list : bfnD .list = listD := Eq.trans rfl rfl
@[simp] theorem f_sorted : bfnD .sorted = sortedD := Eq.trans rfl rfl
@[simp] theorem l_tup {xs : List D} : lenD [.tup xs] = .ok (.int xs.length) := Eq.trans rfl rfl
@[simp] theorem l_lst {xs : List D} : lenD [.lst xs] = .ok (.int xs.length) := Eq.trans rfl rfl
@[simp] theorem l_raw {xs : List D} : lenD [.raw xs] = .ok (.int xs.length) := Eq.trans rfl rfl
@[simp] theorem a_abs : absD [.int i] = .ok (.int (if i < 0 then -i else i)) := Eq.trans rfl rfl
@[simp] theorem a_int : int1D [.int i] = .ok (.int i) := Eq.trans rfl rfl
@[simp] theorem t_tup {xs : List D} : tupleD [.tup xs] = .ok (.tup xs) := Eq.trans rfl rfl
@[simp] theorem t_lst {xs : List D} : tupleD [.lst xs] = .ok (.tup xs) := Eq.trans rfl rfl
@[simp] theorem ls_tup {xs : List D} : listD [.tup xs] = .ok (.lst xs) := Eq.trans rfl rfl
@[simp] theorem ls_lst {xs : List D} : listD [.lst xs] = .ok (.lst xs) := Eq.trans rfl rfl
@[simp] theorem it_lst {xs : List D} : itemsD (.lst xs) = .ok xs := Eq.trans rfl rfl
@[simp] theorem it_tup {xs : List D} : itemsD (.tup xs) = .ok xs := Eq.trans rfl rfl
@[simp] theorem noX_ok {d : D} : noX (.ok d) = .ok d := Eq.trans rfl rfl
@[simp] theorem noE_ok' {α : Type} {d : α} : noE (.ok d) = .ok d := Eq.trans rfl rfl
@[simp] theorem isC_obj' {c c' : Nat} {fs : List D} : (D.obj c' fs).isC c = decide (c' = c) := Eq.trans rfl rfl
@[simp] theorem is_non : isD .non .non = .ok true := Eq.trans rfl rfl
@[simp] theorem is_int : isD (.int i) .non = .ok false := Eq.trans rfl rfl
end
theorem tupK_ok {ds : List D} (h : ds.length ≤ 16777216) : tupK ds = .ok (.tup ds) := by unfold tupK; rw [if_pos (by rw [sizeLine_eq]; exact h)]
theorem lstK_ok {ds : List D} (h : ds.length ≤ 16777216) : lstK ds = .ok (.lst ds) := by unfold lstK; rw [if_pos (by rw [sizeLine_eq]; exact h)]
end PD
/-! Plain facts: loops, places, pairs, sorting. -/
namespace PD
open PySem PySem.Spec PySem.W PyProof.Rows
def rangeI (lo : Int) (n : Nat) : List Int := (List.range n).map fun i => lo + (i : Nat)
theorem rngD_up (lo : Int) (n : Nat) : rngD lo 1 n = (rangeI lo n).map D.int := by
  unfold rngD rangeI
  rw [List.map_map]
  exact List.map_congr_left fun i _ => by simp
theorem mem_rangeI {lo x : Int} {n : Nat} : x ∈ rangeI lo n ↔ lo ≤ x ∧ x < lo + n := by
  unfold rangeI
  simp only [List.mem_map, List.mem_range]
  constructor
  · rintro ⟨i, h, rfl⟩; omega
  · rintro ⟨h1, h2⟩; exact ⟨(x - lo).toNat, by omega, by omega⟩
theorem len_rangeI {lo : Int} {n : Nat} : (rangeI lo n).length = n := by simp [rangeI]
theorem rng1 {j : Int} (h : -(2 ^ 62) ≤ j ∧ j < 2 ^ 62) : rngA [.int j] = .ok ((rangeI 0 j.toNat).map D.int) := by
  have e : rngA [.int j] = if -(2 ^ 62) ≤ j ∧ j < 2 ^ 62 then .ok (rngD 0 1 j.toNat) else .bad := rfl
  rw [e, if_pos h, rngD_up]
theorem rng2 {i j : Int} (h : -(2 ^ 62) ≤ i ∧ i < 2 ^ 62 ∧ -(2 ^ 62) ≤ j ∧ j < 2 ^ 62) : rngA [.int i, .int j] = .ok ((rangeI i (j - i).toNat).map D.int) := by
  have e : rngA [.int i, .int j] = if -(2 ^ 62) ≤ i ∧ i < 2 ^ 62 ∧ -(2 ^ 62) ≤ j ∧ j < 2 ^ 62 then .ok (rngD i 1 (j - i).toNat) else .bad := rfl
  rw [e, if_pos h, rngD_up]
/-! places -/
theorem atI_nat {α : Type} {xs : List α} {i : Int} (h0 : 0 ≤ i) (h1 : i < xs.length) : L2.atI xs i = xs[i.toNat]? := by
  unfold L2.atI L2.ixN
  rw [if_pos h0, if_pos h1]
  rfl
theorem ix_lst {xs : List D} {i : Int} {d : D} (h0 : 0 ≤ i) (h1 : i < xs.length) (h : xs[i.toNat]? = some d) : ixD (.lst xs) (.int i) = .ok d := by
  show (match L2.atI xs i with | some d => Res.ok d | none => .bad) = _
  rw [atI_nat h0 h1, h]
theorem ix_tup {xs : List D} {i : Int} {d : D} (h0 : 0 ≤ i) (h1 : i < xs.length) (h : xs[i.toNat]? = some d) : ixD (.tup xs) (.int i) = .ok d := by
  show (match L2.atI xs i with | some d => Res.ok d | none => .bad) = _
  rw [atI_nat h0 h1, h]
theorem ix_raw {xs : List D} {i : Int} {d : D} (h0 : 0 ≤ i) (h1 : i < xs.length) (h : xs[i.toNat]? = some d) : ixD (.raw xs) (.int i) = .ok d := by
  show (match L2.atI xs i with | some d => Res.ok d | none => .bad) = _
  rw [atI_nat h0 h1, h]
def atZ (xs : List Int) (i : Int) : Int := xs.getD i.toNat 0
theorem ix_lstI {xs : List Int} {i : Int} (h0 : 0 ≤ i) (h1 : i < xs.length) : ixD (.lst (xs.map D.int)) (.int i) = .ok (.int (atZ xs i)) :=
  ix_lst h0 (by simpa using h1) (by rw [List.getElem?_map, List.getElem?_eq_getElem (by omega)]; simp [atZ, List.getD_eq_getElem?_getD, List.getElem?_eq_getElem (show i.toNat < xs.length by omega)])
theorem ix_tupI {xs : List Int} {i : Int} (h0 : 0 ≤ i) (h1 : i < xs.length) : ixD (.tup (xs.map D.int)) (.int i) = .ok (.int (atZ xs i)) :=
  ix_tup h0 (by simpa using h1) (by rw [List.getElem?_map, List.getElem?_eq_getElem (by omega)]; simp [atZ, List.getD_eq_getElem?_getD, List.getElem?_eq_getElem (show i.toNat < xs.length by omega)])
theorem atZ_mem {xs : List Int} {i : Int} (h0 : 0 ≤ i) (h1 : i < xs.length) : atZ xs i ∈ xs := by
  have h2 : i.toNat < xs.length := by omega
  unfold atZ
  rw [List.getD_eq_getElem?_getD, List.getElem?_eq_getElem h2]
  exact List.getElem_mem h2
/-! loops -/
section
variable {α : Type} {vs : List Nat} {t : Tg} {fc : En → Res Bool} {fe : En → Res D} {ρ : En}
theorem lcL_map {F : α → D} {R : α → En} {c : α → Bool} {G : α → D} : ∀ {xs : List α}, (∀ x ∈ xs, bindT t (F x) (wipeE ρ vs) = .ok (R x) ∧ fc (R x) = .ok (c x) ∧ (c x = true → fe (R x) = .ok (G x))) →
    lcL vs t fc fe ρ (xs.map F) = .ok ((xs.filter c).map G)
  | [], _ => rfl
  | x :: xs, h => by
    obtain ⟨h1, h2, h3⟩ := h x (List.mem_cons_self ..)
    have r := lcL_map (xs := xs) fun y hy => h y (List.mem_cons_of_mem _ hy)
    rw [List.map_cons, lcL, h1, Res.bind_ok, h2]
    cases q : c x with
    | true => simp [noE, h3 q, r, q]
    | false => simp [noE, r, q]
theorem genL_all {F : α → D} {R : α → En} {c : α → Bool} : ∀ {xs : List α}, (∀ x ∈ xs, bindT t (F x) (wipeE ρ vs) = .ok (R x) ∧ fe (R x) = .ok (.bl (c x))) → genL false vs t fe ρ (xs.map F) = .ok (xs.all c)
  | [], _ => rfl
  | x :: xs, h => by
    obtain ⟨h1, h2⟩ := h x (List.mem_cons_self ..)
    have r := genL_all (xs := xs) fun y hy => h y (List.mem_cons_of_mem _ hy)
    rw [List.map_cons, genL, h1, Res.bind_ok, h2]
    cases q : c x <;> simp [noE, q, r]
theorem genL_any {F : α → D} {R : α → En} {c : α → Bool} : ∀ {xs : List α}, (∀ x ∈ xs, bindT t (F x) (wipeE ρ vs) = .ok (R x) ∧ fe (R x) = .ok (.bl (c x))) → genL true vs t fe ρ (xs.map F) = .ok (xs.any c)
  | [], _ => rfl
  | x :: xs, h => by
    obtain ⟨h1, h2⟩ := h x (List.mem_cons_self ..)
    have r := genL_any (xs := xs) fun y hy => h y (List.mem_cons_of_mem _ hy)
    rw [List.map_cons, genL, h1, Res.bind_ok, h2]
    cases q : c x <;> simp [noE, q, r]
/-- all up to the first that fails: later items need no answer -/
theorem genL_all1 {F : α → D} {x : α} {xs : List α} {ρ1 : En} (h1 : bindT t (F x) (wipeE ρ vs) = .ok ρ1) (h2 : fe ρ1 = .ok (.bl false)) : genL false vs t fe ρ ((x :: xs).map F) = .ok false := by
  rw [List.map_cons, genL, h1, Res.bind_ok, h2]
  simp [noE]
theorem forL_inv {β : Type} {F : α → D} {g : En → Out} {I : β → En → Prop} {f : β → α → β} : ∀ {xs : List α} {a : β} {ρ : En}, (∀ x ∈ xs, ∀ a ρ, I a ρ → ∃ ρ1 ρ2, bindT t (F x) ρ = .ok ρ1 ∧ (g ρ1 = .nx ρ2 ∨ g ρ1 = .ct ρ2) ∧ I (f a x) ρ2) → I a ρ →
    ∃ ρ', forL t g ρ (xs.map F) = .nx ρ' ∧ I (xs.foldl f a) ρ'
  | [], a, ρ, _, h => ⟨ρ, rfl, h⟩
  | x :: xs, a, ρ, s, h => by
    obtain ⟨ρ1, ρ2, h1, h2, h3⟩ := s x (List.mem_cons_self ..) a ρ h
    obtain ⟨ρ', r, h4⟩ := forL_inv (xs := xs) (fun y hy => s y (List.mem_cons_of_mem _ hy)) h3
    refine ⟨ρ', ?_, h4⟩
    rw [List.map_cons, forL, h1, liftR_ok]
    rcases h2 with h2 | h2 <;> rw [h2] <;> exact r
end
/-! pairs -/
def dP (p : Int × Int) : D := .tup [.int p.1, .int p.2]
@[simp] theorem eqI {i j : Int} : eqD (.int i) (.int j) = .ok (decide (i = j)) := by
  show (if min 0 0 ≤ 60 then Res.ok (PyData.eqv (.int i) (.int j)) else .bad) = _
  simp [PyData.eqv, PyData.depth]
  by_cases h : i = j <;> simp [h]
@[simp] theorem eqB {i j : Bool} : eqD (.bl i) (.bl j) = .ok (decide (i = j)) := by
  cases i <;> cases j <;> rfl
theorem dP_py (p : Int × Int) : (dP p).py = some (.tuple [.int p.1, .int p.2]) := rfl
theorem eqv_P (p q : Int × Int) : PyData.eqv (.tuple [.int p.1, .int p.2]) (.tuple [.int q.1, .int q.2]) = decide (p = q) := by
  obtain ⟨a, b⟩ := p; obtain ⟨c, d⟩ := q
  simp [PyData.eqv, PyData.eqvAll, Prod.ext_iff]
  by_cases h1 : a = c <;> by_cases h2 : b = d <;> simp [h1, h2]
theorem depth_P (p : Int × Int) : (PyData.tuple [.int p.1, .int p.2]).depth ≤ 2 := by simp [PyData.depth, PyData.depthAll]
theorem eq_P (p q : Int × Int) : eqD (dP p) (dP q) = .ok (decide (p = q)) := by
  unfold eqD
  rw [dP_py, dP_py]
  dsimp only
  rw [if_pos (by have := depth_P p; omega), eqv_P]
theorem pys_P : ∀ ps : List (Int × Int), D.pys (ps.map dP) = some (ps.map fun p => .tuple [.int p.1, .int p.2])
  | [] => rfl
  | p :: ps => by rw [List.map_cons, D.pys, dP_py, pys_P ps]; rfl
theorem mem_P (p : Int × Int) (ps : List (Int × Int)) : memP (dP p) (ps.map dP) = .ok (decide (p ∈ ps)) := by
  unfold memP
  rw [dP_py, pys_P]
  dsimp only
  rw [if_pos (by have := depth_P p; omega)]
  congr 1
  induction ps with
  | nil => simp
  | cons q ps ih =>
    rw [List.map_cons, List.any_cons, ih, eqv_P]
    by_cases h1 : q = p <;> by_cases h2 : p ∈ ps <;> simp [h1, h2, eq_comm]
    exact fun h => h1 h.symm
theorem in_P (p : Int × Int) (ps : List (Int × Int)) : inD (dP p) (.tup (ps.map dP)) = .ok (decide (p ∈ ps)) := mem_P p ps
theorem ix_P0 (p : Int × Int) : ixD (dP p) (.int 0) = .ok (.int p.1) := rfl
theorem ix_P1 (p : Int × Int) : ixD (dP p) (.int 1) = .ok (.int p.2) := rfl
def ltP (p q : Int × Int) : Prop := p.1 < q.1 ∨ (p.1 = q.1 ∧ p.2 < q.2)
instance (p q : Int × Int) : Decidable (ltP p q) := by unfold ltP; infer_instance
def leP (p q : Int × Int) : Bool := decide (p.1 < q.1 ∨ (p.1 = q.1 ∧ p.2 ≤ q.2))
theorem lt_P (p q : Int × Int) : ltD (dP p) (dP q) = .ok (decide (ltP p q)) := by
  obtain ⟨a, b⟩ := p; obtain ⟨c, d⟩ := q
  show Res.ok (HT.lexLt [a, b] [c, d]) = _
  unfold ltP
  simp only [HT.lexLt_cons, HT.lexLt_nil_nil]
  congr 1
  by_cases h1 : a = c <;> by_cases h2 : b = d <;> simp [h1, h2]
theorem ltP_trans {p q r : Int × Int} (h1 : ltP p q) (h2 : ltP q r) : ltP p r := by unfold ltP at *; omega
theorem sle_P (p q : Int × Int) : sleD (dP p) (dP q) = leP p q := by
  show (!dataLt (.tuple [.int q.1, .int q.2]) (.tuple [.int p.1, .int p.2])) = _
  rw [dataLt_ii]
  unfold leP
  by_cases h : q.1 < p.1 ∨ (q.1 = p.1 ∧ q.2 < p.2)
  · have h' : ¬ (p.1 < q.1 ∨ (p.1 = q.1 ∧ p.2 ≤ q.2)) := by omega
    simp [h, h']
  · have h' : p.1 < q.1 ∨ (p.1 = q.1 ∧ p.2 ≤ q.2) := by omega
    simp [h, h']
def sortP (ps : List (Int × Int)) : List (Int × Int) := ps.mergeSort leP
theorem sorted_P {ps : List (Int × Int)} (h : ps.length ≤ 16777216) : sortedD [.lst (ps.map dP)] = .ok (.lst ((sortP ps).map dP)) := by
  have ho : okSort (ps.map fun p : Int × Int => .tuple [.int p.1, .int p.2]) = true := by
    unfold okSort
    simp only [Bool.and_eq_true, Bool.or_eq_true, List.all_eq_true, decide_eq_true_eq, List.mem_map]
    refine ⟨⟨?_, .inl ?_⟩, ?_⟩
    · rintro _ ⟨p, _, rfl⟩ _ ⟨q, _, rfl⟩; simp [alike, alikeAll]
    · rintro _ ⟨p, _, rfl⟩; rfl
    · rintro _ ⟨p, _, rfl⟩; exact Nat.le_trans (depth_P p) (by decide)
  have e : sortedD [.lst (ps.map dP)] = (match D.pys (ps.map dP) with | some qs => if okSort qs = true ∧ (ps.map dP).length ≤ sizeLine then Res.ok (D.lst ((ps.map dP).mergeSort sleD)) else .bad | none => .bad) := rfl
  rw [e, pys_P]
  dsimp only
  rw [if_pos ⟨ho, by rw [sizeLine_eq]; simpa using h⟩]
  unfold sortP
  rw [List.map_mergeSort (s := sleD) fun a _ b _ => (sle_P a b).symm]
theorem sortP_mem {ps : List (Int × Int)} {p : Int × Int} : p ∈ sortP ps ↔ p ∈ ps := List.mem_mergeSort
theorem sortP_len {ps : List (Int × Int)} : (sortP ps).length = ps.length := List.length_mergeSort ps
theorem sortP_sorted (ps : List (Int × Int)) : (sortP ps).Pairwise fun p q => leP p q = true :=
  List.pairwise_mergeSort (fun a b c h1 h2 => by simp only [leP, decide_eq_true_eq] at *; omega) (fun a b => by simp only [leP, Bool.or_eq_true, decide_eq_true_eq]; omega) ps
def keepP (ps : List (Int × Int)) (k : Int) : Bool := decide (k = 0) || decide (ps.getD k.toNat (0, 0) ≠ ps.getD (k - 1).toNat (0, 0))
def twinP (ps : List (Int × Int)) : List (Int × Int) := ((rangeI 0 ps.length).filter (keepP ps)).map fun k => ps.getD k.toNat (0, 0)
theorem twinP_mem {ps : List (Int × Int)} {p : Int × Int} (h : p ∈ twinP ps) : p ∈ ps := by
  unfold twinP at h
  obtain ⟨k, hk, rfl⟩ := List.mem_map.mp h
  have hk := mem_rangeI.mp (List.mem_filter.mp hk).1
  have h2 : k.toNat < ps.length := by omega
  rw [List.getD_eq_getElem?_getD, List.getElem?_eq_getElem h2]
  exact List.getElem_mem h2
theorem twinP_len {ps : List (Int × Int)} : (twinP ps).length ≤ ps.length := by
  unfold twinP
  rw [List.length_map]
  exact Nat.le_trans (List.length_filter_le _ _) (by rw [len_rangeI]; exact Nat.le_refl _)
theorem twinP_rises {ps : List (Int × Int)} (h : ps.Pairwise fun p q => leP p q = true) : (twinP ps).Pairwise ltP := by
  unfold twinP
  rw [List.pairwise_map]
  have r : (rangeI 0 ps.length).Pairwise (· < ·) := by
    unfold rangeI
    rw [List.pairwise_map]
    exact List.pairwise_lt_range.imp fun h => by omega
  refine (List.Pairwise.filter _ r).imp_of_mem fun {i j} hi hj hij => ?_
  have gi := mem_rangeI.mp (List.mem_filter.mp hi).1
  have gj := mem_rangeI.mp (List.mem_filter.mp hj).1
  have kj := (List.mem_filter.mp hj).2
  have n0 : ¬ j = 0 := by omega
  simp only [keepP, n0, decide_false, Bool.false_or, decide_eq_true_eq] at kj
  have le : ∀ a b : Nat, a ≤ b → b < ps.length → leP (ps.getD a (0, 0)) (ps.getD b (0, 0)) = true := fun a b hab hb => by
    rw [List.getD_eq_getElem?_getD, List.getD_eq_getElem?_getD, List.getElem?_eq_getElem hb, List.getElem?_eq_getElem (show a < ps.length by omega)]
    rcases Nat.lt_or_eq_of_le hab with q | q
    · exact List.pairwise_iff_getElem.mp h a b (by omega) hb q
    · subst q; simp [leP]
  have l1 := le i.toNat (j - 1).toNat (by omega) (by omega)
  have l2 := le (j - 1).toNat j.toNat (by omega) (by omega)
  generalize ps.getD i.toNat (0, 0) = a at *
  generalize ps.getD (j - 1).toNat (0, 0) = b at *
  generalize ps.getD j.toNat (0, 0) = c at *
  obtain ⟨a1, a2⟩ := a; obtain ⟨b1, b2⟩ := b; obtain ⟨c1, c2⟩ := c
  simp only [leP, decide_eq_true_eq, ltP, ne_eq, Prod.mk.injEq] at *
  omega
theorem rises_get {ps : List (Int × Int)} (h : ps.Pairwise ltP) {i : Nat} (h1 : i + 1 < ps.length) : ltP (ps.getD i (0, 0)) (ps.getD (i + 1) (0, 0)) := by
  rw [List.getD_eq_getElem?_getD, List.getD_eq_getElem?_getD, List.getElem?_eq_getElem h1, List.getElem?_eq_getElem (show i < ps.length by omega)]
  exact List.pairwise_iff_getElem.mp h i (i + 1) (by omega) h1 (by omega)
theorem ix_lstP {ps : List (Int × Int)} {i : Int} (h0 : 0 ≤ i) (h1 : i < ps.length) : ixD (.lst (ps.map dP)) (.int i) = .ok (dP (ps.getD i.toNat (0, 0))) :=
  ix_lst h0 (by simpa using h1) (by rw [List.getElem?_map, List.getElem?_eq_getElem (by omega)]; simp [List.getD_eq_getElem?_getD, List.getElem?_eq_getElem (show i.toNat < ps.length by omega)])
theorem ix_tupP {ps : List (Int × Int)} {i : Int} (h0 : 0 ≤ i) (h1 : i < ps.length) : ixD (.tup (ps.map dP)) (.int i) = .ok (dP (ps.getD i.toNat (0, 0))) :=
  ix_tup h0 (by simpa using h1) (by rw [List.getElem?_map, List.getElem?_eq_getElem (by omega)]; simp [List.getD_eq_getElem?_getD, List.getElem?_eq_getElem (show i.toNat < ps.length by omega)])
end PD
/-! Loops by place; more equations. -/
namespace PD
open PySem PySem.Spec PySem.W PyProof.Rows
section
variable {α : Type} {t : Tg}
theorem forL_at {F : α → D} {g : En → Out} : ∀ {xs : List α} {I : Nat → En → Prop} {ρ : En}, (∀ i x ρ, xs[i]? = some x → I i ρ → ∃ ρ1 ρ2, bindT t (F x) ρ = .ok ρ1 ∧ (g ρ1 = .nx ρ2 ∨ g ρ1 = .ct ρ2) ∧ I (i + 1) ρ2) → I 0 ρ →
    ∃ ρ', forL t g ρ (xs.map F) = .nx ρ' ∧ I xs.length ρ'
  | [], I, ρ, _, h => ⟨ρ, rfl, h⟩
  | x :: xs, I, ρ, s, h => by
    obtain ⟨ρ1, ρ2, h1, h2, h3⟩ := s 0 x ρ rfl h
    obtain ⟨ρ', r, h4⟩ := forL_at (xs := xs) (I := fun i => I (i + 1)) (fun i y ρ hy hI => s (i + 1) y ρ (by simpa using hy) hI) h3
    refine ⟨ρ', ?_, h4⟩
    rw [List.map_cons, forL, h1, liftR_ok]
    rcases h2 with h2 | h2 <;> rw [h2] <;> exact r
/-- a loop with an early return: it ends at the first that returns -/
theorem forL_ret {F : α → D} {g : En → Out} {I : En → Prop} {c : α → Bool} {r : D} : ∀ {xs : List α} {ρ : En}, (∀ x ∈ xs, ∀ ρ, I ρ → ∃ ρ1, bindT t (F x) ρ = .ok ρ1 ∧ (c x = true → g ρ1 = .rt r) ∧ (c x = false → ∃ ρ2, (g ρ1 = .nx ρ2 ∨ g ρ1 = .ct ρ2) ∧ I ρ2)) → I ρ →
    (xs.any c = true → forL t g ρ (xs.map F) = .rt r) ∧ (xs.any c = false → ∃ ρ', forL t g ρ (xs.map F) = .nx ρ' ∧ I ρ')
  | [], ρ, _, h => ⟨fun z => by simp at z, fun _ => ⟨ρ, rfl, h⟩⟩
  | x :: xs, ρ, s, h => by
    obtain ⟨ρ1, h1, h2, h3⟩ := s x (List.mem_cons_self ..) ρ h
    cases q : c x with
    | true =>
      refine ⟨fun _ => ?_, fun z => by simp [q] at z⟩
      rw [List.map_cons, forL, h1, liftR_ok, h2 q]
    | false =>
      obtain ⟨ρ2, h4, h5⟩ := h3 q
      obtain ⟨k1, k2⟩ := forL_ret (xs := xs) (fun y hy => s y (List.mem_cons_of_mem _ hy)) h5
      have e : forL t g ρ ((x :: xs).map F) = forL t g ρ2 (xs.map F) := by
        rw [List.map_cons, forL, h1, liftR_ok]
        rcases h4 with h4 | h4 <;> rw [h4]
      rw [e, List.any_cons, q, Bool.false_or]
      exact ⟨k1, k2⟩
end
theorem get_rangeI {lo : Int} {n i : Nat} {x : Int} (h : (rangeI lo n)[i]? = some x) : x = lo + i ∧ i < n := by
  unfold rangeI at h
  rw [List.getElem?_map] at h
  by_cases q : i < n
  · rw [List.getElem?_range q] at h
    exact ⟨(Option.some.inj h).symm, q⟩
  · rw [List.getElem?_eq_none (by simpa using q)] at h; cases h
theorem lst_plus {xs ys : List D} (h : xs.length + ys.length ≤ 16777216) : plusD (.lst xs) (.lst ys) = .ok (.lst (xs ++ ys)) := by
  unfold plusD
  simp only [sizeLine_eq]
  rw [if_pos h]
section
variable {i : Int} {b : Bool} {xs : List D}
@[simp] theorem isi_int : isiD .int (.int i) = .ok true := Eq.trans rfl rfl
@[simp] theorem isi_int_non : isiD .int .non = .ok false := Eq.trans rfl rfl
@[simp] theorem isi_int_tup : isiD .int (.tup xs) = .ok false := Eq.trans rfl rfl
@[simp] theorem isi_tup : isiD .tup (.tup xs) = .ok true := Eq.trans rfl rfl
@[simp] theorem isi_tup_int : isiD .tup (.int i) = .ok false := Eq.trans rfl rfl
@[simp] theorem isi_tup_lst : isiD .tup (.lst xs) = .ok false := Eq.trans rfl rfl
@[simp] theorem isi_tup_non : isiD .tup .non = .ok false := Eq.trans rfl rfl
@[simp] theorem is_int_bl : isD (.int i) (.bl b) = .ok false := Eq.trans rfl rfl
@[simp] theorem is_tup_non : isD (.tup xs) .non = .ok false := Eq.trans rfl rfl
@[simp] theorem is_lst_non : isD (.lst xs) .non = .ok false := Eq.trans rfl rfl
end
end PD
/-! Books as plain data; steps of a body. -/
namespace PD
open PySem PySem.Spec PySem.W PyProof.Rows
section
variable {Φ : Fs} {fN : Nat → List Str} {s r : Sm} {e : Ex} {ρ ρ' : En} {d : D} {o : Out} {i : Nat}
theorem go (h : exS Φ fN s ρ = .nx ρ') (h2 : exS Φ fN r ρ' = o) : exS Φ fN (.cons s r) ρ = o := by rw [x_cons, h]; exact h2
theorem go_asg (d : D) (hd : demE (slx true e) ρ = ρ) (h : ev Φ e ρ = .ok d) (h2 : exS Φ fN r (ρ.set i (.pl d)) = o) : exS Φ fN (.cons (.asg i e) r) ρ = o := by
  rw [x_cons, x_asg, hd, h, liftR_ok]; exact h2
theorem go_ret (hd : demE (slx true e) ρ = ρ) (h : ev Φ e ρ = .ok d) : exS Φ fN (.cons (.ret e) r) ρ = .rt d := by
  rw [x_cons, x_ret, hd, h, liftR_ok]; rfl
theorem go_if {c : Ex} {a b : Sm} (t : Bool) (hd : demE (slx false c) ρ = ρ) (h : (ev Φ c ρ).bind asB = .ok t) (h2 : (if t then exS Φ fN a ρ else exS Φ fN b ρ) = .nx ρ') (h3 : exS Φ fN r ρ' = o) : exS Φ fN (.cons (.ifs c a b) r) ρ = o := by
  rw [x_cons, x_ifs, hd, h, liftR_ok, h2]; exact h3
theorem go_skip {c : Ex} {a : Sm} (hd : demE (slx false c) ρ = ρ) (h : (ev Φ c ρ).bind asB = .ok false) (h3 : exS Φ fN r ρ = o) : exS Φ fN (.cons (.ifs c a .nil) r) ρ = o :=
  go_if false hd h (by rw [if_neg Bool.false_ne_true]; rfl) h3
theorem go_for {k : IK} {t : Tg} {it : Ex} {b : Sm} {ds : List D} (hd : demE (slI k it) ρ = ρ) (h : evI Φ k it ρ = .ok ds) (h2 : forL t (exS Φ fN b) ρ ds = .nx ρ') (h3 : exS Φ fN r ρ' = o) : exS Φ fN (.cons (.fors k t it b) r) ρ = o := by
  rw [x_cons, x_fors, hd, h, liftR_ok, h2]; exact h3
end
def eO {α : Type} (e : α → D) : Option α → D := fun o => match o with
  | none => .non
  | some x => e x
@[simp] theorem eO_none {α : Type} {e : α → D} : eO e none = .non := Eq.trans rfl rfl
@[simp] theorem eO_some {α : Type} {e : α → D} {x : α} : eO e (some x) = e x := Eq.trans rfl rfl
abbrev oI : Option Int → D := eO D.int
def modes : List (List Int) := [[0, 2, 4, 5, 7, 9, 11], [0, 2, 3, 5, 7, 9, 10], [0, 1, 3, 5, 7, 8, 10], [0, 2, 4, 6, 7, 9, 11], [0, 1, 2, 3, 4, 5, 6]]
structure Bk where
  mode : List Int
  low : Int
  high : Int
  leaps : List (Int × Int)
  sweet : List (Int × Int)
  perfect : List (Int × Int)
  turn : Option Int
namespace Bk
def fs (b : Bk) : List D := [.tup (b.mode.map .int), .int b.low, .int b.high, .tup (b.leaps.map dP), .tup (b.sweet.map dP), .tup (b.perfect.map dP), oI b.turn]
def d (b : Bk) : D := .tup b.fs
structure Ok (b : Bk) : Prop where
  mode : b.mode ∈ modes
  low : -3 ≤ b.low ∧ b.low ≤ 1
  high : b.low + 2 ≤ b.high ∧ b.high ≤ b.low + 4
  leaps : b.leaps.Pairwise ltP
  leap : ∀ p ∈ b.leaps, (0 < p.1 ∧ p.1 ≤ 4 ∧ 0 < p.2 ∧ p.2 ≤ 12) ∨ (p.1 < 0 ∧ -4 ≤ p.1 ∧ p.2 < 0 ∧ -12 ≤ p.2)
  leapn : b.leaps.length ≤ 200
  sweets : b.sweet.Pairwise ltP
  sweet : ∀ p ∈ b.sweet, 0 ≤ p.1 ∧ p.1 ≤ 6 ∧ 0 ≤ p.2 ∧ p.2 ≤ 11
  sweetn : b.sweet.length ≤ 50
  perfects : b.perfect.Pairwise ltP
  perfect : ∀ p ∈ b.perfect, p ∈ b.sweet
  perfectn : b.perfect.length ≤ 50
  turn : b.turn = none ∨ ∃ i, b.turn = some i ∧ 2 ≤ i ∧ i ≤ 4
theorem Ok.len {b : Bk} (h : b.Ok) : b.mode.length = 7 := (by decide : ∀ m ∈ modes, m.length = 7) _ h.mode
end Bk
end PD
/-! Members among whole numbers; the tables of the book. -/
namespace PD
open PySem PySem.Spec PySem.W PyProof.Rows
theorem pys_I : ∀ xs : List Int, D.pys (xs.map D.int) = some (xs.map .int)
  | [] => rfl
  | x :: xs => by rw [List.map_cons, D.pys, pys_I xs]; rfl
theorem mem_I (i : Int) (xs : List Int) : memP (.int i) (xs.map D.int) = .ok (decide (i ∈ xs)) := by
  unfold memP
  rw [pys_I, show (D.int i).py = some (.int i) from rfl]
  dsimp only
  rw [if_pos (by simp [PyData.depth])]
  congr 1
  induction xs with
  | nil => simp
  | cons q xs ih =>
    rw [List.map_cons, List.any_cons, ih, show PyData.eqv (.int q) (.int i) = decide (q = i) by simp [PyData.eqv]; by_cases h : q = i <;> simp [h]]
    by_cases h1 : q = i <;> by_cases h2 : i ∈ xs <;> simp [h1, h2, eq_comm]
    exact fun h => h1 h.symm
theorem in_I (i : Int) (xs : List Int) : inD (.int i) (.tup (xs.map D.int)) = .ok (decide (i ∈ xs)) := mem_I i xs
theorem in_IL (i : Int) (xs : List Int) : inD (.int i) (.lst (xs.map D.int)) = .ok (decide (i ∈ xs)) := mem_I i xs
def modesD : D := .tup (modes.map fun m => .tup (m.map .int))
theorem e_mode {k : Int} (h0 : 0 ≤ k) (h1 : k < 5) : ∃ m ∈ modes, ixD modesD (.int k) = .ok (.tup (m.map .int)) := by
  have : k = 0 ∨ k = 1 ∨ k = 2 ∨ k = 3 ∨ k = 4 := by omega
  rcases this with rfl | rfl | rfl | rfl | rfl <;> exact ⟨_, by decide, rfl⟩
theorem e_turn {k : Int} (h0 : 0 ≤ k) (h1 : k < 4) : ∃ t : Option Int, (t = none ∨ ∃ i, t = some i ∧ 2 ≤ i ∧ i ≤ 4) ∧ ixD (.tup [.non, .int 2, .int 3, .int 4]) (.int k) = .ok (oI t) := by
  have : k = 0 ∨ k = 1 ∨ k = 2 ∨ k = 3 := by omega
  rcases this with rfl | rfl | rfl | rfl
  · exact ⟨none, .inl rfl, rfl⟩
  · exact ⟨some 2, .inr ⟨2, rfl, by decide, by decide⟩, rfl⟩
  · exact ⟨some 3, .inr ⟨3, rfl, by decide, by decide⟩, rfl⟩
  · exact ⟨some 4, .inr ⟨4, rfl, by decide, by decide⟩, rfl⟩
def hgt (m : List Int) (n : Int) : Int := 12 * (n / 7) + atZ m (n % 7)
def lpP (m : List Int) (a b : Int) : Int × Int := (b - a, hgt m b - hgt m a)
def ivP (m : List Int) (a b : Int) : Int × Int := ((b - a) % 7, (hgt m b - hgt m a) % 12)
def okL (p : Int × Int) : Prop := (0 < p.1 ∧ p.1 ≤ 4 ∧ 0 < p.2 ∧ p.2 ≤ 12) ∨ (p.1 < 0 ∧ -4 ≤ p.1 ∧ p.2 < 0 ∧ -12 ≤ p.2)
instance (p : Int × Int) : Decidable (okL p) := by unfold okL; infer_instance
def stepsL : List Int := [1, 2, 3, 4, -1, -2, -3, -4]
theorem okL_lp : ∀ m ∈ modes, ∀ x ∈ rangeI (-7) 21, ∀ k ∈ stepsL, okL (lpP m x (x + k)) := by decide +kernel
theorem ivP_ok (m : List Int) (a b : Int) : 0 ≤ (ivP m a b).1 ∧ (ivP m a b).1 ≤ 6 ∧ 0 ≤ (ivP m a b).2 ∧ (ivP m a b).2 ≤ 11 := by unfold ivP; dsimp only; omega
end PD
/-! Rows (place, name), names, rows of ints. -/
namespace PD
open PySem PySem.Spec PySem.W PyProof.Rows
theorem eqv_str (x y : Str) : PyData.eqv (.str x) (.str y) = decide (x = y) := by
  simp only [PyData.eqv]
  by_cases h : x = y <;> simp [h]
theorem eqv_int (i j : Int) : PyData.eqv (.int i) (.int j) = decide (i = j) := by
  simp only [PyData.eqv]
  by_cases h : i = j <;> simp [h]
theorem pys_Str : ∀ xs : List Str, D.pys (xs.map D.str) = some (xs.map .str)
  | [] => rfl
  | x :: xs => by rw [List.map_cons, D.pys, pys_Str xs]; rfl
theorem mem_Str (i : Str) (xs : List Str) : memP (.str i) (xs.map D.str) = .ok (decide (i ∈ xs)) := by
  unfold memP
  rw [pys_Str, show (D.str i).py = some (.str i) from rfl]
  dsimp only
  rw [if_pos (by simp [PyData.depth])]
  congr 1
  induction xs with
  | nil => simp
  | cons q xs ih =>
    rw [List.map_cons, List.any_cons, ih, eqv_str]
    by_cases h1 : q = i <;> by_cases h2 : i ∈ xs <;> simp [h1, h2, eq_comm]
    exact fun h => h1 h.symm
theorem in_Str (i : Str) (xs : List Str) : inD (.str i) (.tup (xs.map D.str)) = .ok (decide (i ∈ xs)) := mem_Str i xs
def dS (p : Int × Str) : D := .tup [.int p.1, .str p.2]
theorem dS_py (p : Int × Str) : (dS p).py = some (.tuple [.int p.1, .str p.2]) := rfl
theorem eqv_S (p q : Int × Str) : PyData.eqv (.tuple [.int p.1, .str p.2]) (.tuple [.int q.1, .str q.2]) = decide (p = q) := by
  obtain ⟨a, b⟩ := p; obtain ⟨c, d⟩ := q
  have e : PyData.eqv (.tuple [.int a, .str b]) (.tuple [.int c, .str d]) = (PyData.eqv (.int a) (.int c) && (PyData.eqv (.str b) (.str d) && true)) := by simp only [PyData.eqv, PyData.eqvAll]
  rw [e, eqv_int, eqv_str]
  by_cases h1 : a = c <;> by_cases h2 : b = d <;> simp [h1, h2]
theorem depth_S (p : Int × Str) : (PyData.tuple [.int p.1, .str p.2]).depth ≤ 2 := by simp [PyData.depth, PyData.depthAll]
def pS (p : Int × Str) : PyData := .tuple [.int p.1, .str p.2]
theorem pys_S : ∀ ps : List (Int × Str), D.pys (ps.map dS) = some (ps.map pS)
  | [] => rfl
  | p :: ps => by rw [List.map_cons, D.pys, dS_py, pys_S ps]; rfl
theorem eqvAll_S : ∀ ps qs : List (Int × Str), PyData.eqvAll (ps.map pS) (qs.map pS) = decide (ps = qs)
  | [], [] => by simp [PyData.eqvAll]
  | [], _ :: _ => by simp [PyData.eqvAll]
  | _ :: _, [] => by simp [PyData.eqvAll]
  | p :: ps, q :: qs => by
    rw [List.map_cons, List.map_cons, PyData.eqvAll, eqvAll_S ps qs, show PyData.eqv (pS p) (pS q) = decide (p = q) from eqv_S p q]
    by_cases h1 : p = q <;> by_cases h2 : ps = qs <;> simp [h1, h2]
theorem depthAll_S : ∀ ps : List (Int × Str), PyData.depthAll (ps.map pS) ≤ 3
  | [] => by simp [PyData.depthAll]
  | p :: ps => by
    have h := depthAll_S ps
    have h2 : (pS p).depth ≤ 2 := depth_S p
    rw [List.map_cons]
    simp only [PyData.depthAll]
    omega
theorem eqL_S (ps qs : List (Int × Str)) : eqD (.lst (ps.map dS)) (.lst (qs.map dS)) = .ok (decide (ps = qs)) := by
  unfold eqD
  rw [show (D.lst (ps.map dS)).py = (D.pys (ps.map dS)).map .list from rfl, show (D.lst (qs.map dS)).py = (D.pys (qs.map dS)).map .list from rfl, pys_S, pys_S]
  simp only [Option.map_some]
  have h := depthAll_S ps
  rw [if_pos (by simp only [PyData.depth]; omega)]
  simp only [PyData.eqv]
  rw [eqvAll_S]
theorem eqT_S (ps qs : List (Int × Str)) : eqD (.tup (ps.map dS)) (.tup (qs.map dS)) = .ok (decide (ps = qs)) := by
  unfold eqD
  rw [show (D.tup (ps.map dS)).py = (D.pys (ps.map dS)).map .tuple from rfl, show (D.tup (qs.map dS)).py = (D.pys (qs.map dS)).map .tuple from rfl, pys_S, pys_S]
  simp only [Option.map_some]
  have h := depthAll_S ps
  rw [if_pos (by simp only [PyData.depth]; omega)]
  simp only [PyData.eqv]
  rw [eqvAll_S]
end PD
/-! Lists that grow by tests; rows of faults. -/
namespace PD
open PySem PySem.Spec PySem.W PyProof.Rows
section
variable {Φ : Fs} {fN : Nat → List Str} {s r : Sm} {e : Ex} {ρ ρ' : En} {d : D} {o : Out} {i : Nat}
theorem set_same {x : Sl} (h : ρ.sl i = x) (hx : x ≠ .un) : ρ.set i x = ρ := by
  unfold En.sl at h
  rw [List.getD_eq_getElem?_getD] at h
  by_cases hl : i < ρ.length
  · rw [List.getElem?_eq_getElem hl] at h
    have h : ρ[i] = x := h
    rw [← h]
    exact List.set_getElem_self hl
  · rw [List.getElem?_eq_none (by omega)] at h
    exact absurd h.symm hx
theorem go_app {ds : List D} (hd : demE (slx true e) ρ = ρ) (hs : ρ.sl i = .ow (.lst ds)) (hv : ev Φ e ρ = .ok d) (hl : ds.length < sizeLine) (h3 : exS Φ fN r (ρ.set i (.ow (.lst (ds ++ [d])))) = o) : exS Φ fN (.cons (.app i e) r) ρ = o := by
  rw [x_cons, x_app, hd, hs]
  dsimp only
  rw [hv, liftR_ok, if_pos hl]
  exact h3
theorem go_ifapp {c : Ex} {ds : List D} (t : Bool) (hd : demE (slx false c) ρ = ρ) (h : (ev Φ c ρ).bind asB = .ok t) (hde : demE (slx true e) ρ = ρ) (hs : ρ.sl i = .ow (.lst ds)) (hv : t = true → ev Φ e ρ = .ok d) (hl : ds.length < sizeLine)
    (h3 : exS Φ fN r (ρ.set i (.ow (.lst (ds ++ if t then [d] else [])))) = o) : exS Φ fN (.cons (.ifs c (.cons (.app i e) .nil) .nil) r) ρ = o := by
  cases t with
  | true =>
    rw [if_pos rfl] at h3
    exact go_if true hd h (by rw [if_pos rfl]; exact go_app hde hs (hv rfl) hl rfl) h3
  | false =>
    rw [if_neg Bool.false_ne_true, List.append_nil, set_same hs (by intro z; cases z)] at h3
    exact go_skip hd h h3
end
/-- rows (place, name) of the places below n -/
def rows (f : Nat → List Str) (n : Nat) : List (Int × Str) := (List.range n).flatMap fun k => (f k).map fun x => ((k : Int), x)
theorem rows_succ (f : Nat → List Str) (n : Nat) : rows f (n + 1) = rows f n ++ (f n).map fun x => ((n : Int), x) := by
  unfold rows
  rw [List.range_succ, List.flatMap_append]
  simp
theorem rows_len {f : Nat → List Str} {w : Nat} (h : ∀ k, (f k).length ≤ w) : ∀ n, (rows f n).length ≤ w * n
  | 0 => by simp [rows]
  | n + 1 => by
    have := rows_len h n
    have := h n
    rw [rows_succ, List.length_append, List.length_map, Nat.mul_succ]
    omega
theorem rows_filter {f : Nat → List Str} {c : Str → Bool} : ∀ n, (rows f n).filter (fun p => c p.2) = rows (fun k => (f k).filter c) n
  | 0 => by simp [rows]
  | n + 1 => by
    rw [rows_succ, rows_succ, List.filter_append, rows_filter n]
    congr 1
    rw [List.filter_map]
    rfl
theorem rows_congr {f g : Nat → List Str} {n : Nat} (h : ∀ k, k < n → f k = g k) : rows f n = rows g n := by
  induction n with
  | zero => rfl
  | succ n ih => rw [rows_succ, rows_succ, ih fun k hk => h k (by omega), h n (by omega)]
/-- rows that begin late -/
theorem rows_shift {f : Nat → List Str} (d : Nat) (h : ∀ k, k < d → f k = []) : ∀ n, rows f (d + n) = (rows (fun k => f (k + d)) n).map fun p => (p.1 + (d : Int), p.2)
  | 0 => by
    have z : ∀ m, m ≤ d → rows f m = [] := fun m => by
      induction m with
      | zero => intro _; rfl
      | succ m ih => intro hm; rw [rows_succ, ih (by omega), h m (by omega)]; rfl
    rw [Nat.add_zero, z d (Nat.le_refl _)]
    rfl
  | n + 1 => by
    rw [← Nat.add_assoc, rows_succ, rows_succ, rows_shift d h n, List.map_append, Nat.add_comm n d]
    congr 1
    rw [List.map_map]
    refine List.map_congr_left fun x _ => ?_
    show (((d + n : Nat) : Int), x) = ((n : Int) + (d : Int), x)
    rw [show ((d + n : Nat) : Int) = (n : Int) + (d : Int) by omega]
end PD
/-! What canons and pairs tell, in plain Lean. -/
namespace PD
open PySem PySem.Spec PySem.W PyProof.Rows
def ab (x : Int) : Int := if x < 0 then -x else x
def trnP (t : Option Int) (x y z : Int) : Bool := match t with
  | none => true
  | some i => if ab (y - x) < i then true else decide ((z - y) * (y - x) < 0) && decide (ab (z - y) < i)
def ordP (s a c : Int) : Int × Int := if 0 ≤ s then (a, c) else (c, a)
/-- not too far off -/
def Near (xs : List Int) : Prop := ∀ x ∈ xs, -199 ≤ x ∧ x ≤ 199
theorem Near.at {xs : List Int} (h : Near xs) {i : Int} (h0 : 0 ≤ i) (h1 : i < xs.length) : -199 ≤ atZ xs i ∧ atZ xs i ≤ 199 := h _ (atZ_mem h0 h1)
def inRngB (b : Bk) (x : Int) : Bool := decide (x ∈ rangeI b.low (b.high + 1 - b.low).toNat)
def goesB (b : Bk) (x y : Int) : Bool := decide (lpP b.mode x y ∈ b.leaps)
def sweetB (b : Bk) (x y : Int) : Bool := decide (ivP b.mode x y ∈ b.sweet)
def perfB (b : Bk) (x y : Int) : Bool := decide (ivP b.mode x y ∈ b.perfect)
/-- two steps of the same way between equal perfect intervals -/
def parB (b : Bk) (p q : Int × Int) (d e : Int) : Bool := decide (0 < d * e) && (decide (ivP b.mode p.1 p.2 = ivP b.mode q.1 q.2) && perfB b q.1 q.2)
def tag (t : Bool) (x : Str) : List Str := if t then [x] else []
def lineN (b : Bk) (xs : List Int) (k : Nat) : List Str := tag (!inRngB b (atZ xs k)) "range" ++ (tag (decide (0 < k) && !goesB b (atZ xs (k - 1)) (atZ xs k)) "leap" ++ tag (decide (1 < k) && !trnP b.turn (atZ xs (k - 2)) (atZ xs (k - 1)) (atZ xs k)) "turn")
def pairN (b : Bk) (ls us : List Int) (k : Nat) : List Str := tag (decide (atZ us k < atZ ls k)) "cross" ++ (tag (!sweetB b (atZ ls k) (atZ us k)) "rough" ++ tag (decide (0 < k) && parB b (atZ ls (k - 1), atZ us (k - 1)) (atZ ls k, atZ us k) (atZ ls k - atZ ls (k - 1)) (atZ us k - atZ us (k - 1))) "parallel")
def canN (b : Bk) (xs : List Int) (d : Nat) (s : Int) (k : Nat) : List Str := tag (decide ((ordP s (atZ xs k) (atZ xs (k - d) + s)).2 < (ordP s (atZ xs k) (atZ xs (k - d) + s)).1)) "cross" ++ (tag (!sweetB b (ordP s (atZ xs k) (atZ xs (k - d) + s)).1 (ordP s (atZ xs k) (atZ xs (k - d) + s)).2) "rough" ++ tag (decide (d < k) && parB b (ordP s (atZ xs (k - 1)) (atZ xs (k - 1 - d) + s)) (ordP s (atZ xs k) (atZ xs (k - d) + s)) (atZ xs k - atZ xs (k - 1)) (atZ xs (k - d) - atZ xs (k - 1 - d))) "parallel")
def wrongN (b : Bk) (xs : List Int) (d : Nat) (s : Int) (k : Nat) : List Str := lineN b xs k ++ if d ≤ k then canN b xs d s k else []
theorem tag_len {t : Bool} {x : Str} : (tag t x).length ≤ 1 := by unfold tag; split <;> simp
theorem lineN_len {b : Bk} {xs : List Int} {k : Nat} : (lineN b xs k).length ≤ 3 := by
  unfold lineN
  rw [List.length_append, List.length_append]
  have := @tag_len; have a := @this (!inRngB b (atZ xs k)) "range"; have c := @this (decide (0 < k) && !goesB b (atZ xs (k - 1)) (atZ xs k)) "leap"; have e := @this (decide (1 < k) && !trnP b.turn (atZ xs (k - 2)) (atZ xs (k - 1)) (atZ xs k)) "turn"
  omega
section
variable {Φ : Fs} {fN : Nat → List Str} {s r : Sm} {e : Ex} {ρ ρ' : En} {o : Out} {i : Nat} {α : Type} {F : α → D} {x : α} {ns : List α}
theorem go_drop {d : D} (hd : demE (slx true e) ρ = ρ) (h : ev Φ e ρ = .ok d) (h2 : exS Φ fN r ρ = o) : exS Φ fN (.cons (.drop e) r) ρ = o := by
  rw [x_cons, x_drop, hd, h, liftR_ok]; exact h2
theorem go_tag {c : Ex} (t : Bool) (hd : demE (slx false c) ρ = ρ) (h : (ev Φ c ρ).bind asB = .ok t) (hde : demE (slx true e) ρ = ρ) (hs : ρ.sl i = .ow (.lst (ns.map F))) (hv : t = true → ev Φ e ρ = .ok (F x)) (hl : ns.length ≤ 1000)
    (h3 : exS Φ fN r (ρ.set i (.ow (.lst ((ns ++ if t then [x] else []).map F)))) = o) : exS Φ fN (.cons (.ifs c (.cons (.app i e) .nil) .nil) r) ρ = o := by
  refine go_ifapp (d := F x) t hd h hde hs hv (by rw [sizeLine_eq, List.length_map]; omega) ?_
  rw [List.map_append] at h3
  rw [show (if t then [F x] else []) = (if t then [x] else []).map F by cases t <;> rfl]
  exact h3
end
theorem pairN_len {b : Bk} {ls us : List Int} {k : Nat} : (pairN b ls us k).length ≤ 3 := by
  unfold pairN
  rw [List.length_append, List.length_append]
  have a := @tag_len (decide (atZ us k < atZ ls k)) "cross"
  have c := @tag_len (!sweetB b (atZ ls k) (atZ us k)) "rough"
  have e := @tag_len (decide (0 < k) && parB b (atZ ls (k - 1), atZ us (k - 1)) (atZ ls k, atZ us k) (atZ ls k - atZ ls (k - 1)) (atZ us k - atZ us (k - 1))) "parallel"
  omega
theorem wrongN_len {b : Bk} {xs : List Int} {d : Nat} {s : Int} {k : Nat} : (wrongN b xs d s k).length ≤ 6 := by
  unfold wrongN canN
  have h := @lineN_len b xs k
  rw [List.length_append]
  generalize ordP s (atZ xs k) (atZ xs (k - d) + s) = q
  generalize (decide (d < k) && parB b (ordP s (atZ xs (k - 1)) (atZ xs (k - 1 - d) + s)) q (atZ xs k - atZ xs (k - 1)) (atZ xs (k - d) - atZ xs (k - 1 - d))) = t
  have a := @tag_len (decide (q.2 < q.1)) "cross"
  have c := @tag_len (!sweetB b q.1 q.2) "rough"
  have e := @tag_len t "parallel"
  split
  · rw [List.length_append, List.length_append]; omega
  · simp only [List.length_nil]; omega
end PD
/-! The typed side: what typed functions tell of the evaluators. -/
namespace PD
open PySem PySem.Spec PySem.W PyProof.Rows
section
variable {α β γ δ α' β' γ' : Type}
/-- the typed side m tells of r, as far as it tells anything -/
def Rf (e : α → β) (r : Res β) (m : Res α) : Prop := (∀ x, m = .ok x → r = .ok (e x)) ∧ ∀ c, m = .exc c → r = .exc c
theorem Rf.of {e : α → β} {r : Res β} {x : α} (h : r = .ok (e x)) : Rf e r (.ok x) := ⟨fun y z => by cases z; exact h, fun c z => by cases z⟩
theorem Rf.ox {e : α → β} {r : Res β} {c : Nat} (h : r = .exc c) : Rf e r (.exc c) := ⟨fun y z => by (cases z), fun c z => by cases z; exact h⟩
theorem Rf.bd {e : α → β} {r : Res β} : Rf e r .bad := ⟨fun y z => by (cases z), fun c z => by (cases z)⟩
theorem Rf.get {e : α → β} {r : Res β} {x : α} (h : Rf e r (.ok x)) : r = .ok (e x) := h.1 x rfl
theorem Rf.gex {e : α → β} {r : Res β} {c : Nat} (h : Rf e r (.exc c)) : r = .exc c := h.2 c rfl
theorem Rf.bind {e : α → β} {e' : γ → β'} {r : Res β} {m : Res α} {k : β → Res β'} {km : α → Res γ} (h : Rf e r m) (hk : ∀ x, Rf e' (k (e x)) (km x)) : Rf e' (r.bind k) (m.bind km) := by
  cases m with
  | ok x => rw [show r = .ok (e x) from h.get]; exact hk x
  | exc c => rw [show r = .exc c from h.gex]; exact .ox rfl
  | bad => exact .bd
theorem Rf.okK {e : α → β} {e' : γ → β'} {r : Res β} {m : Res α} {k : β → Res β'} {f : α → γ} (h : Rf e r m) (hk : ∀ x, k (e x) = .ok (e' (f x))) : Rf e' (r.bind k) (m.bind fun x => .ok (f x)) := h.bind fun x => .of (hk x)
theorem Rf.eq {e : α → β} {r : Res β} {m : Res α} {x : α} (h : Rf e r m) (hm : m = .ok x) : r = .ok (e x) := by rw [hm] at h; exact h.get
theorem Rf.to {e : α → β} {e' : γ → β} {r : Res β} {m : Res α} {km : α → Res γ} (h : Rf e r m) (hk : ∀ x, Rf e' (.ok (e x)) (km x)) : Rf e' r (m.bind km) := by
  cases m with
  | ok x => rw [show r = .ok (e x) from h.get]; exact hk x
  | exc c => exact .ox h.gex
  | bad => exact .bd
@[simp] theorem bind_assoc {m : Res α} {f : α → Res β} {g : β → Res γ} : (m.bind f).bind g = m.bind fun x => (f x).bind g := by cases m <;> rfl
@[simp] theorem bind_ite {c : Prop} [Decidable c] {a b : Res α} {k : α → Res β} : (if c then a else b).bind k = if c then a.bind k else b.bind k := by split <;> rfl
@[simp] theorem bind_okid {m : Res α} : (m.bind fun x => .ok x) = m := by cases m <;> rfl
/-! writings of typed values -/
def eUn : Unit → D := fun _ => .non
def eX : D → D := fun d => d
def eT (e : α → D) : List α → D := fun xs => .tup (xs.map e)
def eL (e : α → D) : List α → D := fun xs => .lst (xs.map e)
def eR (e : α → D) : List α → D := fun xs => .raw (xs.map e)
def cA (e : α → D) (f : β → List D) : α × β → List D := fun p => e p.1 :: f p.2
def oA (e : α → D) : α → List D := fun x => [e x]
def zA : Unit → List D := fun _ => []
def eP (f : α → List D) : α → D := fun p => .tup (f p)
def eC (c : Nat) (f : α → List D) : α → D := fun p => .obj c (f p)
def eDic (k : α → D) (v : β → D) : List (α × β) → D := fun ps => .dic (ps.map fun p => k p.1) (ps.map fun p => v p.2)
/-! back from data -/
def ofO : Option α → Res α
  | some x => .ok x
  | none => .bad
@[simp] theorem ofO_some {x : α} : ofO (some x) = .ok x := rfl
class Dc (e : α → D) where
  f : D → Option α
  h : ∀ d x, f d = some x → d = e x
  g : ∀ x, f (e x) = some x
class DcA (e : α → List D) where
  f : List D → Option α
  h : ∀ d x, f d = some x → d = e x
  g : ∀ x, f (e x) = some x
instance : Dc D.int where
  f := fun d => match d with | .int i => some i | _ => none
  h := by intro d x h; cases d <;> first | (cases h; rfl) | cases h
  g := fun _ => rfl
instance : Dc D.bl where
  f := fun d => match d with | .bl i => some i | _ => none
  h := by intro d x h; cases d <;> first | (cases h; rfl) | cases h
  g := fun _ => rfl
instance : Dc D.str where
  f := fun d => match d with | .str i => some i | _ => none
  h := by intro d x h; cases d <;> first | (cases h; rfl) | cases h
  g := fun _ => rfl
instance : Dc eUn where
  f := fun d => match d with | .non => some () | _ => none
  h := by intro d x h; cases d <;> first | (cases h; rfl) | cases h
  g := fun _ => rfl
instance : Dc eX where
  f := some
  h := by intro d x h; cases h; rfl
  g := fun _ => rfl
def decs (f : D → Option α) : List D → Option (List α)
  | [] => some []
  | d :: ds => (f d).bind fun x => (decs f ds).bind fun xs => some (x :: xs)
theorem decs_h {e : α → D} [i : Dc e] : ∀ {ds : List D} {xs : List α}, decs i.f ds = some xs → ds = xs.map e
  | [], xs, h => by cases h; rfl
  | d :: ds, xs, h => by
    unfold decs at h
    cases q : i.f d with
    | none => rw [q] at h; cases h
    | some x =>
      cases q2 : decs i.f ds with
      | none => rw [q, q2] at h; cases h
      | some ys =>
        rw [q, q2] at h; cases h
        rw [i.h _ _ q, decs_h q2]; rfl
theorem decs_g {e : α → D} [i : Dc e] : ∀ xs : List α, decs i.f (xs.map e) = some xs
  | [] => rfl
  | x :: xs => by rw [List.map_cons, decs, i.g, decs_g xs]; rfl
instance {e : α → D} [i : Dc e] : Dc (eT e) where
  f := fun d => match d with | .tup ds => decs i.f ds | _ => none
  h := by
    intro d x h
    cases d <;> first | cases h | skip
    exact congrArg D.tup (decs_h h)
  g := fun xs => decs_g xs
instance {e : α → D} [i : Dc e] : Dc (eL e) where
  f := fun d => match d with | .lst ds => decs i.f ds | _ => none
  h := by
    intro d x h
    cases d <;> first | cases h | skip
    exact congrArg D.lst (decs_h h)
  g := fun xs => decs_g xs
instance : DcA zA where
  f := fun d => match d with | [] => some () | _ => none
  h := by intro d x h; cases d <;> first | (cases h; rfl) | cases h
  g := fun _ => rfl
instance {e : α → D} [i : Dc e] : DcA (oA e) where
  f := fun d => match d with | [d] => i.f d | _ => none
  h := by
    intro d x h
    rcases d with _ | ⟨d, _ | ⟨_, _⟩⟩ <;> first | cases h | skip
    rw [i.h _ _ h]; rfl
  g := fun x => i.g x
instance {e : α → D} {f : β → List D} [i : Dc e] [j : DcA f] : DcA (cA e f) where
  f := fun d => match d with | d :: ds => (i.f d).bind fun x => (j.f ds).bind fun y => some (x, y) | _ => none
  h := by
    intro d x h
    rcases d with _ | ⟨d, ds⟩ <;> first | cases h | skip
    dsimp only at h
    cases q : i.f d with
    | none => rw [q] at h; cases h
    | some y =>
      cases q2 : j.f ds with
      | none => rw [q, q2] at h; cases h
      | some z =>
        rw [q, q2] at h; cases h
        rw [i.h _ _ q, j.h _ _ q2]; rfl
  g := fun x => by
    show ((i.f (e x.1)).bind fun a => (j.f (f x.2)).bind fun b => some (a, b)) = _
    rw [i.g, j.g]; rfl
instance {f : α → List D} [i : DcA f] : Dc (eP f) where
  f := fun d => match d with | .tup ds => i.f ds | _ => none
  h := by
    intro d x h
    cases d <;> first | cases h | skip
    exact congrArg D.tup (i.h _ _ h)
  g := fun x => i.g x
instance {c : Nat} {f : α → List D} [i : DcA f] : Dc (eC c f) where
  f := fun d => match d with | .obj c' ds => if c' = c then i.f ds else none | _ => none
  h := by
    intro d x h
    cases d <;> first | cases h | skip
    dsimp only at h
    split at h
    · rename_i hc; subst hc; exact congrArg (D.obj _) (i.h _ _ h)
    · cases h
  g := fun x => by
    show (if c = c then i.f (f x) else none) = _
    rw [if_pos rfl]; exact i.g x
/-- cast: data read as a typed value -/
def castR (e : α → D) [i : Dc e] (d : D) : Res α := ofO (i.f d)
@[simp] theorem castR_e {e : α → D} [i : Dc e] {x : α} : castR e (e x) = .ok x := by unfold castR; rw [i.g]; rfl
theorem L_down {e : α → D} [i : Dc e] {r : Res D} {m : Res D} (h : Rf eX r m) : Rf e r (m.bind (castR e)) := h.to fun d => by
  unfold castR
  cases q : i.f d with
  | none => exact .bd
  | some x => rw [i.h _ _ q]; exact .of rfl
theorem L_up {e : α → D} {r : Res D} {m : Res α} (h : Rf e r m) : Rf eX r (m.bind fun x => .ok (e x)) := h.to fun x => .of rfl
theorem L_some {e : α → D} {r : Res D} {m : Res α} (h : Rf e r m) : Rf (eO e) r (m.bind fun x => .ok (some x)) := h.to fun x => .of rfl
theorem L_none {e : α → D} {r : Res D} {m : Res Unit} (h : Rf eUn r m) : Rf (eO e) r (m.bind fun _ => .ok none) := h.to fun x => .of rfl
/-- an Option that is there -/
def getR : Option α → Res α
  | some x => .ok x
  | none => .bad
@[simp] theorem getR_some {x : α} : getR (some x) = .ok x := rfl
theorem L_get {e : α → D} {r : Res D} {m : Res (Option α)} (h : Rf (eO e) r m) : Rf e r (m.bind getR) := h.to fun x => by
  cases x with
  | none => exact .bd
  | some x => exact .of rfl
theorem L_ids {r : Res (List D)} {m : Res (List D)} (h : Rf (fun x => x) r m) : Rf (List.map eX) r m := by
  cases m with
  | ok x => rw [show r = .ok x from h.get]; exact .of (congrArg Res.ok (List.map_id _).symm)
  | exc c => exact .ox h.gex
  | bad => exact .bd
/-! equality -/
class Cm (e : α → D) (n : outParam Nat) where
  py : α → PyData
  hpy : ∀ x, (e x).py = some (py x)
  dep : ∀ x, (py x).depth ≤ n
  eqv : ∀ x y, PyData.eqv (py x) (py y) = true ↔ x = y
class CmA (e : α → List D) (n : outParam Nat) where
  py : α → List PyData
  hpy : ∀ x, D.pys (e x) = some (py x)
  dep : ∀ x, PyData.depthAll (py x) ≤ n
  eqv : ∀ x y, PyData.eqvAll (py x) (py y) = true ↔ x = y
instance : Cm D.int 0 where
  py := .int
  hpy := fun _ => rfl
  dep := fun _ => by simp [PyData.depth]
  eqv := fun x y => by rw [eqv_int]; simp
instance : Cm D.str 0 where
  py := .str
  hpy := fun _ => rfl
  dep := fun _ => by simp [PyData.depth]
  eqv := fun x y => by rw [eqv_str]; simp
instance : Cm D.bl 0 where
  py := .bool
  hpy := fun _ => rfl
  dep := fun _ => by simp [PyData.depth]
  eqv := fun x y => by cases x <;> cases y <;> simp [PyData.eqv]
theorem pys_cm {e : α → D} {n : Nat} [i : Cm e n] : ∀ xs : List α, D.pys (xs.map e) = some (xs.map i.py)
  | [] => rfl
  | x :: xs => by rw [List.map_cons, D.pys, i.hpy, pys_cm (e := e) xs]; rfl
theorem dep_cm {e : α → D} {n : Nat} [i : Cm e n] : ∀ xs : List α, PyData.depthAll (xs.map i.py) ≤ n + 1
  | [] => by simp [PyData.depthAll]
  | x :: xs => by
    have h1 := dep_cm (e := e) xs
    have h2 := i.dep x
    simp only [List.map_cons, PyData.depthAll]
    omega
theorem eqv_cm {e : α → D} {n : Nat} [i : Cm e n] : ∀ xs ys : List α, PyData.eqvAll (xs.map i.py) (ys.map i.py) = true ↔ xs = ys
  | [], [] => by simp [PyData.eqvAll]
  | [], _ :: _ => by simp [PyData.eqvAll]
  | _ :: _, [] => by simp [PyData.eqvAll]
  | x :: xs, y :: ys => by
    rw [List.map_cons, List.map_cons, PyData.eqvAll, Bool.and_eq_true, i.eqv, eqv_cm xs ys, List.cons.injEq]
instance {e : α → D} {n : Nat} [i : Cm e n] : Cm (eT e) (n + 2) where
  py := fun xs => .tuple (xs.map i.py)
  hpy := fun xs => by
    show (D.pys (xs.map e)).map PyData.tuple = _
    rw [pys_cm (e := e)]; rfl
  dep := fun xs => by have := dep_cm (e := e) xs; simp only [PyData.depth]; omega
  eqv := fun x y => by simp only [PyData.eqv]; exact eqv_cm (e := e) x y
instance {e : α → D} {n : Nat} [i : Cm e n] : Cm (eL e) (n + 2) where
  py := fun xs => .list (xs.map i.py)
  hpy := fun xs => by
    show (D.pys (xs.map e)).map PyData.list = _
    rw [pys_cm (e := e)]; rfl
  dep := fun xs => by have := dep_cm (e := e) xs; simp only [PyData.depth]; omega
  eqv := fun x y => by simp only [PyData.eqv]; exact eqv_cm (e := e) x y
instance {e : α → D} {n : Nat} [i : Cm e n] : CmA (oA e) (n + 1) where
  py := fun x => [i.py x]
  hpy := fun x => by show D.pys [e x] = _; rw [D.pys, i.hpy]; rfl
  dep := fun x => by have := i.dep x; simp only [PyData.depthAll]; omega
  eqv := fun x y => by simp only [PyData.eqvAll, Bool.and_true]; exact i.eqv x y
instance {e : α → D} {f : β → List D} {n m : Nat} [i : Cm e n] [j : CmA f m] : CmA (cA e f) (max n m + 1) where
  py := fun p => i.py p.1 :: j.py p.2
  hpy := fun p => by show D.pys (e p.1 :: f p.2) = _; rw [D.pys, i.hpy, j.hpy]
  dep := fun p => by have := i.dep p.1; have := j.dep p.2; simp only [PyData.depthAll]; omega
  eqv := fun x y => by simp only [PyData.eqvAll, Bool.and_eq_true]; rw [i.eqv, j.eqv, Prod.ext_iff]
instance {f : α → List D} {n : Nat} [i : CmA f n] : Cm (eP f) (n + 1) where
  py := fun x => .tuple (i.py x)
  hpy := fun x => by
    show (D.pys (f x)).map PyData.tuple = _
    rw [i.hpy]; rfl
  dep := fun x => by have := i.dep x; simp only [PyData.depth]; omega
  eqv := fun x y => by simp only [PyData.eqv]; exact i.eqv x y
/-- not None -/
class Nn (e : α → D) (n : outParam Nat) [i : Cm e n] where
  l : ∀ x, PyData.eqv .none (i.py x) = false
  r : ∀ x, PyData.eqv (i.py x) .none = false
instance : Nn D.int 0 := ⟨fun _ => by simp [PyData.eqv, Cm.py], fun _ => by simp [PyData.eqv, Cm.py]⟩
instance : Nn D.str 0 := ⟨fun _ => by simp [PyData.eqv, Cm.py], fun _ => by simp [PyData.eqv, Cm.py]⟩
instance : Nn D.bl 0 := ⟨fun _ => by simp [PyData.eqv, Cm.py], fun _ => by simp [PyData.eqv, Cm.py]⟩
instance {e : α → D} {n : Nat} [i : Cm e n] : Nn (eT e) (n + 2) := ⟨fun _ => by simp [PyData.eqv, Cm.py], fun _ => by simp [PyData.eqv, Cm.py]⟩
instance {e : α → D} {n : Nat} [i : Cm e n] : Nn (eL e) (n + 2) := ⟨fun _ => by simp [PyData.eqv, Cm.py], fun _ => by simp [PyData.eqv, Cm.py]⟩
instance {f : α → List D} {n : Nat} [i : CmA f n] : Nn (eP f) (n + 1) := ⟨fun _ => by simp [PyData.eqv, Cm.py], fun _ => by simp [PyData.eqv, Cm.py]⟩
instance {e : α → D} {n : Nat} [i : Cm e n] [j : Nn e n] : Cm (eO e) n where
  py := fun o => match o with | none => .none | some x => i.py x
  hpy := fun o => by
    cases o with
    | none => rfl
    | some x => exact i.hpy x
  dep := fun o => by
    cases o with
    | none => simp [PyData.depth]
    | some x => exact i.dep x
  eqv := fun x y => by
    cases x <;> cases y
    · simp [PyData.eqv]
    · simp [j.l]
    · simp [j.r]
    · simp [i.eqv]
theorem eqE {e : α → D} {n : Nat} [i : Cm e n] [DecidableEq α] (hn : n ≤ 60) (x y : α) : eqD (e x) (e y) = .ok (decide (x = y)) := by
  unfold eqD
  rw [i.hpy, i.hpy]
  dsimp only
  have := i.dep x
  rw [if_pos (by omega)]
  congr 1
  rw [Bool.eq_iff_iff, i.eqv, decide_eq_true_eq]
theorem memE {e : α → D} {n : Nat} [i : Cm e n] [DecidableEq α] (hn : n ≤ 60) (x : α) (ys : List α) : memP (e x) (ys.map e) = .ok (decide (x ∈ ys)) := by
  unfold memP
  rw [i.hpy, pys_cm (e := e)]
  dsimp only
  have := i.dep x
  rw [if_pos (by omega)]
  congr 1
  rw [Bool.eq_iff_iff, List.any_eq_true, decide_eq_true_eq]
  constructor
  · rintro ⟨q, hq, h⟩
    obtain ⟨y, hy, rfl⟩ := List.mem_map.mp hq
    rw [i.eqv] at h
    exact h ▸ hy
  · intro h
    exact ⟨i.py x, List.mem_map.mpr ⟨x, h, rfl⟩, (i.eqv x x).mpr rfl⟩
end
end PD
/-! The typed side: expressions. -/
namespace PD
open PySem PySem.Spec PySem.W PyProof.Rows
section
variable {α β γ δ α' β' γ' : Type} {Φ : Fs} {ρ : En} {a b c x y z es kws it lo hi : Ex} {i j k cc : Nat}
def idB (t : Bool) : Bool := t
def b2 (f : α → β → Res γ) (a : Res α) (b : Res β) : Res γ := a.bind fun x => b.bind fun y => f x y
@[simp] theorem b2_ok {f : α → β → Res γ} {x : α} {y : β} : b2 f (.ok x) (.ok y) = f x y := rfl
theorem Rf.same {r : Res β} : Rf (fun x => x) r r := by cases r <;> first | exact .of rfl | exact .ox rfl | exact .bd
theorem Rf.sameB {r : Res Bool} : Rf idB r r := by cases r <;> first | exact .of rfl | exact .ox rfl | exact .bd
theorem Rf.sameX {r : Res D} : Rf eX r r := by cases r <;> first | exact .of rfl | exact .ox rfl | exact .bd
theorem Rf.cast {e : α → D} [Dc e] {r : Res D} : Rf e r (r.bind (castR e)) := L_down Rf.sameX
theorem V (e : α → D) (x : α) (h : (ρ.sl i).val = some (e x)) : Rf e (ev Φ (.var i) ρ) (.ok x) := by rw [v_var, h]; exact .of rfl
theorem K_int (n : Int) : Rf D.int (ev Φ (.int n) ρ) (.ok n) := .of rfl
theorem K_gint {s : Str} (n : Int) : Rf D.int (ev Φ (.gint s n) ρ) (.ok n) := .of rfl
theorem K_bl (n : Bool) : Rf D.bl (ev Φ (.bl n) ρ) (.ok n) := .of rfl
theorem K_str (n : Str) : Rf D.str (ev Φ (.str n) ρ) (.ok n) := .of rfl
theorem K_non : Rf eUn (ev Φ .non ρ) (.ok ()) := .of rfl
theorem L_bin {o : Bop} {e1 : α → D} {e2 : β → D} {e3 : γ → D} {f : α → β → Res γ} {ma : Res α} {mb : Res β} (hf : ∀ x y, Rf e3 (binD o (e1 x) (e2 y)) (f x y)) (ha : Rf e1 (ev Φ a ρ) ma) (hb : Rf e2 (ev Φ b ρ) mb) : Rf e3 (ev Φ (.bin o a b) ρ) (b2 f ma mb) := by
  rw [v_bin]; exact ha.bind fun x => hb.bind fun y => hf x y
theorem L_cmp {o : Cop} {e1 : α → D} {e2 : β → D} {f : α → β → Res Bool} {ma : Res α} {mb : Res β} (hf : ∀ x y, Rf idB (cmpD o (e1 x) (e2 y)) (f x y)) (ha : Rf e1 (ev Φ a ρ) ma) (hb : Rf e2 (ev Φ b ρ) mb) : Rf D.bl (ev Φ (.cmp o a b) ρ) (b2 f ma mb) := by
  rw [v_cmp]
  refine ha.bind fun x => hb.bind fun y => ?_
  have h := hf x y
  unfold blD
  cases q : f x y with
  | ok t => rw [q] at h; rw [show cmpD o (e1 x) (e2 y) = .ok t from h.get]; exact .of rfl
  | exc t => rw [q] at h; rw [show cmpD o (e1 x) (e2 y) = .exc t from h.gex]; exact .ox rfl
  | bad => exact .bd
def addI (x y : Int) : Res Int := .ok (x + y)
def subI (x y : Int) : Res Int := .ok (x - y)
def mulI (x y : Int) : Res Int := (mulD (.int x) (.int y)).bind (castR D.int)
def fdivI (x y : Int) : Res Int := (fdivD (.int x) (.int y)).bind (castR D.int)
def modI (x y : Int) : Res Int := (modD (.int x) (.int y)).bind (castR D.int)
def powI (x y : Int) : Res Int := (powD (.int x) (.int y)).bind (castR D.int)
def negI (x : Int) : Res Int := .ok (-x)
def szR (xs : List α) : Res (List α) := if xs.length ≤ sizeLine then .ok xs else .bad
def catR (xs ys : List α) : Res (List α) := if xs.length + ys.length ≤ sizeLine then .ok (xs ++ ys) else .bad
def repR (xs : List α) (n : Int) : Res (List α) := if xs ≠ [] ∧ xs.length ≤ 1000 ∧ 1 ≤ n ∧ n ≤ 1000 then .ok (List.replicate n.toNat xs).flatten else .bad
def appR (xs : List α) (x : α) : Res (List α) := if xs.length < sizeLine then .ok (xs ++ [x]) else .bad
def catS (x y : Str) : Res Str := (plusD (.str x) (.str y)).bind (castR D.str)
@[simp] theorem addI_eq {x y : Int} : addI x y = .ok (x + y) := Eq.trans rfl rfl
@[simp] theorem subI_eq {x y : Int} : subI x y = .ok (x - y) := Eq.trans rfl rfl
@[simp] theorem negI_eq {x : Int} : negI x = .ok (-x) := Eq.trans rfl rfl
theorem mulI_L {x y : Int} (h : -18446744073709551616 < x ∧ x < 18446744073709551616) : mulI x y = .ok (x * y) := by unfold mulI; rw [d_mulL (by simpa using h)]; rfl
theorem mulI_R {x y : Int} (h : -18446744073709551616 < y ∧ y < 18446744073709551616) : mulI x y = .ok (x * y) := by unfold mulI; rw [d_mulR (by simpa using h)]; rfl
theorem fdivI_eq {x y : Int} (h : 0 < y ∧ y < 1073741824) : fdivI x y = .ok (x / y) := by unfold fdivI; rw [d_fdiv h]; rfl
theorem modI_eq {x y : Int} (h : 0 < y) : modI x y = .ok (x % y) := by unfold modI; rw [d_mod h]; rfl
theorem szR_ok {xs : List α} (h : xs.length ≤ 16777216) : szR xs = .ok xs := by unfold szR; rw [if_pos (by rw [sizeLine_eq]; exact h)]
theorem catR_ok {xs ys : List α} (h : xs.length + ys.length ≤ 16777216) : catR xs ys = .ok (xs ++ ys) := by unfold catR; rw [if_pos (by rw [sizeLine_eq]; exact h)]
theorem appR_ok {xs : List α} {x : α} (h : xs.length < 16777216) : appR xs x = .ok (xs ++ [x]) := by unfold appR; rw [if_pos (by rw [sizeLine_eq]; exact h)]
theorem repR_ok {xs : List α} {n : Int} (h : xs ≠ [] ∧ xs.length ≤ 1000 ∧ 1 ≤ n ∧ n ≤ 1000) : repR xs n = .ok (List.replicate n.toNat xs).flatten := by unfold repR; rw [if_pos h]
theorem O_add (x y : Int) : Rf D.int (binD .add (.int x) (.int y)) (addI x y) := .of rfl
theorem O_sub (x y : Int) : Rf D.int (binD .sub (.int x) (.int y)) (subI x y) := .of rfl
theorem O_mul (x y : Int) : Rf D.int (binD .mul (.int x) (.int y)) (mulI x y) := Rf.cast
theorem O_fdiv (x y : Int) : Rf D.int (binD .fdiv (.int x) (.int y)) (fdivI x y) := Rf.cast
theorem O_mod (x y : Int) : Rf D.int (binD .mod (.int x) (.int y)) (modI x y) := Rf.cast
theorem O_pow (x y : Int) : Rf D.int (binD .pow (.int x) (.int y)) (powI x y) := Rf.cast
theorem O_catS (x y : Str) : Rf D.str (binD .add (.str x) (.str y)) (catS x y) := Rf.cast
theorem O_catT {e : α → D} (x y : List α) : Rf (eT e) (binD .add (eT e x) (eT e y)) (catR x y) := by
  unfold catR
  split
  · rename_i h
    refine .of ?_
    show (if (x.map e).length + (y.map e).length ≤ sizeLine then Res.ok (D.tup (x.map e ++ y.map e)) else .bad) = .ok (.tup ((x ++ y).map e))
    rw [List.length_map, List.length_map, if_pos h, List.map_append]
  · exact .bd
theorem O_catL {e : α → D} (x y : List α) : Rf (eL e) (binD .add (eL e x) (eL e y)) (catR x y) := by
  unfold catR
  split
  · rename_i h
    refine .of ?_
    show (if (x.map e).length + (y.map e).length ≤ sizeLine then Res.ok (D.lst (x.map e ++ y.map e)) else .bad) = .ok (.lst ((x ++ y).map e))
    rw [List.length_map, List.length_map, if_pos h, List.map_append]
  · exact .bd
theorem O_rep {e : α → D} (x : List α) (n : Int) : Rf (eT e) (binD .mul (eT e x) (.int n)) (repR x n) := by
  unfold repR
  split
  · rename_i h
    refine .of ?_
    show (if x.map e ≠ [] ∧ (x.map e).length ≤ 1000 ∧ 1 ≤ n ∧ n ≤ 1000 then Res.ok (D.tup (List.replicate n.toNat (x.map e)).flatten) else .bad) = .ok (.tup ((List.replicate n.toNat x).flatten.map e))
    rw [if_pos ⟨by simpa using h.1, by simpa using h.2.1, h.2.2⟩]
    simp [List.map_flatten, List.map_replicate]
  · exact .bd
theorem O_X {o : Bop} (x y : D) : Rf eX (binD o (eX x) (eX y)) (binD o x y) := Rf.sameX
def ltI (x y : Int) : Res Bool := .ok (decide (x < y))
def leI (x y : Int) : Res Bool := .ok (decide (x ≤ y))
def gtI (x y : Int) : Res Bool := .ok (decide (y < x))
def geI (x y : Int) : Res Bool := .ok (decide (y ≤ x))
def eqG [DecidableEq α] (x y : α) : Res Bool := .ok (decide (x = y))
def neG [DecidableEq α] (x y : α) : Res Bool := .ok (!decide (x = y))
def inG [DecidableEq α] (x : α) (y : List α) : Res Bool := .ok (decide (x ∈ y))
def ninG [DecidableEq α] (x : α) (y : List α) : Res Bool := .ok (!decide (x ∈ y))
def isN (x : Option α) (_ : Unit) : Res Bool := .ok x.isNone
def nisN (x : Option α) (_ : Unit) : Res Bool := .ok (!x.isNone)
@[simp] theorem ltI_eq {x y : Int} : ltI x y = .ok (decide (x < y)) := Eq.trans rfl rfl
@[simp] theorem leI_eq {x y : Int} : leI x y = .ok (decide (x ≤ y)) := Eq.trans rfl rfl
@[simp] theorem gtI_eq {x y : Int} : gtI x y = .ok (decide (y < x)) := Eq.trans rfl rfl
@[simp] theorem geI_eq {x y : Int} : geI x y = .ok (decide (y ≤ x)) := Eq.trans rfl rfl
@[simp] theorem eqG_eq [DecidableEq α] {x y : α} : eqG x y = .ok (decide (x = y)) := Eq.trans rfl rfl
@[simp] theorem neG_eq [DecidableEq α] {x y : α} : neG x y = .ok (!decide (x = y)) := Eq.trans rfl rfl
@[simp] theorem inG_eq [DecidableEq α] {x : α} {y : List α} : inG x y = .ok (decide (x ∈ y)) := Eq.trans rfl rfl
@[simp] theorem ninG_eq [DecidableEq α] {x : α} {y : List α} : ninG x y = .ok (!decide (x ∈ y)) := Eq.trans rfl rfl
@[simp] theorem isN_eq {x : Option α} {u : Unit} : isN x u = .ok x.isNone := Eq.trans rfl rfl
@[simp] theorem nisN_eq {x : Option α} {u : Unit} : nisN x u = .ok (!x.isNone) := Eq.trans rfl rfl
theorem C_lt (x y : Int) : Rf idB (cmpD .lt (.int x) (.int y)) (ltI x y) := .of rfl
theorem C_le (x y : Int) : Rf idB (cmpD .le (.int x) (.int y)) (leI x y) := .of rfl
theorem C_gt (x y : Int) : Rf idB (cmpD .gt (.int x) (.int y)) (gtI x y) := .of rfl
theorem C_ge (x y : Int) : Rf idB (cmpD .ge (.int x) (.int y)) (geI x y) := .of rfl
theorem C_eq {e : α → D} {n : Nat} [Cm e n] [DecidableEq α] (hn : n ≤ 60) (x y : α) : Rf idB (cmpD .eq (e x) (e y)) (eqG x y) := .of (eqE hn x y)
theorem C_ne {e : α → D} {n : Nat} [Cm e n] [DecidableEq α] (hn : n ≤ 60) (x y : α) : Rf idB (cmpD .ne (e x) (e y)) (neG x y) := by
  refine .of ?_
  show notB (eqD (e x) (e y)) = _
  rw [eqE hn]; rfl
theorem C_inT {e : α → D} {n : Nat} [Cm e n] [DecidableEq α] (hn : n ≤ 60) (x : α) (y : List α) : Rf idB (cmpD .isin (e x) (eT e y)) (inG x y) := .of (memE hn x y)
theorem inL_D {x : D} {ys : List D} : inD x (.lst ys) = memP x ys := by cases x <;> rfl
theorem inT_D {x : D} {ys : List D} : inD x (.tup ys) = memP x ys := by cases x <;> rfl
theorem C_inL {e : α → D} {n : Nat} [Cm e n] [DecidableEq α] (hn : n ≤ 60) (x : α) (y : List α) : Rf idB (cmpD .isin (e x) (eL e y)) (inG x y) := by
  refine .of ?_
  show inD (e x) (.lst (y.map e)) = _
  rw [inL_D]; exact memE hn x y
theorem C_ninT {e : α → D} {n : Nat} [Cm e n] [DecidableEq α] (hn : n ≤ 60) (x : α) (y : List α) : Rf idB (cmpD .nin (e x) (eT e y)) (ninG x y) := by
  refine .of ?_
  show notB (inD (e x) (.tup (y.map e))) = _
  rw [inT_D, memE hn]; rfl
theorem C_ninL {e : α → D} {n : Nat} [Cm e n] [DecidableEq α] (hn : n ≤ 60) (x : α) (y : List α) : Rf idB (cmpD .nin (e x) (eL e y)) (ninG x y) := by
  refine .of ?_
  show notB (inD (e x) (.lst (y.map e))) = _
  rw [inL_D, memE hn]; rfl
/-- not None, as is tells -/
class Ni (e : α → D) : Prop where
  ni : ∀ x, isNonD (e x) = false
instance : Ni D.int := ⟨fun _ => rfl⟩
instance : Ni D.bl := ⟨fun _ => rfl⟩
instance : Ni D.str := ⟨fun _ => rfl⟩
instance {e : α → D} : Ni (eT e) := ⟨fun _ => rfl⟩
instance {e : α → D} : Ni (eL e) := ⟨fun _ => rfl⟩
instance {f : α → List D} : Ni (eP f) := ⟨fun _ => rfl⟩
instance {c : Nat} {f : α → List D} : Ni (eC c f) := ⟨fun _ => rfl⟩
theorem isNon_O {e : α → D} [h : Ni e] (x : Option α) : isNonD (eO e x) = x.isNone := by
  cases x with
  | none => rfl
  | some x => exact h.ni x
theorem C_is {e : α → D} [h : Ni e] (x : Option α) (u : Unit) : Rf idB (cmpD .is (eO e x) (eUn u)) (isN x u) := by
  refine .of ?_
  show Res.ok (isNonD _) = _
  rw [isNon_O]; rfl
theorem C_isnot {e : α → D} [h : Ni e] (x : Option α) (u : Unit) : Rf idB (cmpD .isnot (eO e x) (eUn u)) (nisN x u) := by
  refine .of ?_
  show notB (Res.ok (isNonD _)) = _
  rw [isNon_O]; rfl
theorem C_X {o : Cop} (x y : D) : Rf idB (cmpD o (eX x) (eX y)) (cmpD o x y) := Rf.sameB
/-- any two written values -/
theorem C_W {o : Cop} {e1 : α → D} {e2 : β → D} (x : α) (y : β) : Rf idB (cmpD o (e1 x) (e2 y)) (cmpD o (e1 x) (e2 y)) := Rf.sameB
def chnR (f g : Int → Int → Res Bool) (a b c : Res Int) : Res Bool := a.bind fun x => b.bind fun y => (f x y).bind fun t => if t then c.bind fun z => g y z else .ok false
@[simp] theorem chnR_ok {f g : Int → Int → Res Bool} {x y z : Int} : chnR f g (.ok x) (.ok y) (.ok z) = (f x y).bind fun t => if t then g y z else .ok false := rfl
theorem I_lt (x y : Int) : iopD .lt (.int x) (.int y) = ltI x y := rfl
theorem I_le (x y : Int) : iopD .le (.int x) (.int y) = leI x y := rfl
theorem L_chn {o o' : Iop} {f g : Int → Int → Res Bool} {ma mb mc : Res Int} (hf : ∀ x y, iopD o (.int x) (.int y) = f x y) (hg : ∀ x y, iopD o' (.int x) (.int y) = g x y) (ha : Rf D.int (ev Φ a ρ) ma) (hb : Rf D.int (ev Φ b ρ) mb) (hc : Rf D.int (ev Φ c ρ) mc) : Rf D.bl (ev Φ (.chn o o' a b c) ρ) (chnR f g ma mb mc) := by
  rw [v_chn]
  refine ha.bind fun x => hb.bind fun y => ?_
  rw [hf]
  refine (Rf.sameB (r := f x y)).bind fun t => ?_
  unfold idB
  cases t with
  | true =>
    rw [if_pos rfl, if_pos rfl]
    refine hc.bind fun z => ?_
    rw [hg]
    unfold blD
    have h := (Rf.sameB (r := g y z)).bind (k := fun t => .ok (D.bl t)) (km := fun t => .ok t) (e' := D.bl) (fun t => .of rfl)
    rw [bind_okid] at h; exact h
  | false => rw [if_neg Bool.false_ne_true, if_neg Bool.false_ne_true]; exact .of rfl
theorem L_neg {m : Res Int} (h : Rf D.int (ev Φ a ρ) m) : Rf D.int (ev Φ (.neg a) ρ) (m.bind negI) := by rw [v_neg]; exact h.bind fun x => .of rfl
def notR (m : Res Bool) : Res Bool := m.bind fun t => .ok (!t)
def andR (a b : Res Bool) : Res Bool := a.bind fun t => if t then b else .ok false
def orR (a b : Res Bool) : Res Bool := a.bind fun t => if t then .ok true else b
def iteR (c : Res Bool) (a b : Res α) : Res α := c.bind fun t => if t then a else b
@[simp] theorem notR_ok {t : Bool} : notR (.ok t) = .ok (!t) := rfl
@[simp] theorem andR_ok {t u : Bool} : andR (.ok t) (.ok u) = .ok (t && u) := by cases t <;> rfl
@[simp] theorem orR_ok {t u : Bool} : orR (.ok t) (.ok u) = .ok (t || u) := by cases t <;> rfl
@[simp] theorem andR_ff {b : Res Bool} : andR (.ok false) b = .ok false := rfl
@[simp] theorem orR_tt {b : Res Bool} : orR (.ok true) b = .ok true := rfl
@[simp] theorem andR_tt {b : Res Bool} : andR (.ok true) b = b := rfl
@[simp] theorem orR_ff {b : Res Bool} : orR (.ok false) b = b := rfl
@[simp] theorem iteR_ok {t : Bool} {a b : Res α} : iteR (.ok t) a b = if t then a else b := rfl
/-- a second part that is needed only behind the first -/
theorem andR_if {t u : Bool} {b : Res Bool} (h : t = true → b = .ok u) : andR (.ok t) b = .ok (t && u) := by
  cases t with
  | true => rw [andR_tt, h rfl]; rfl
  | false => rfl
theorem orR_if {t u : Bool} {b : Res Bool} (h : t = false → b = .ok u) : orR (.ok t) b = .ok (t || u) := by
  cases t with
  | false => rw [orR_ff, h rfl]; rfl
  | true => rfl
theorem L_nt {m : Res Bool} (h : Rf D.bl (ev Φ a ρ) m) : Rf D.bl (ev Φ (.nt a) ρ) (notR m) := by rw [v_nt]; exact h.bind fun x => .of rfl
theorem L_and {ma mb : Res Bool} (ha : Rf D.bl (ev Φ a ρ) ma) (hb : Rf D.bl (ev Φ b ρ) mb) : Rf D.bl (ev Φ (.and a b) ρ) (andR ma mb) := by
  rw [v_and]
  refine ha.bind fun t => ?_
  rw [as_bl, Res.bind_ok]
  cases t with
  | true => exact hb
  | false => exact .of rfl
theorem L_or {ma mb : Res Bool} (ha : Rf D.bl (ev Φ a ρ) ma) (hb : Rf D.bl (ev Φ b ρ) mb) : Rf D.bl (ev Φ (.or a b) ρ) (orR ma mb) := by
  rw [v_or]
  refine ha.bind fun t => ?_
  rw [as_bl, Res.bind_ok]
  cases t with
  | false => exact hb
  | true => exact .of rfl
theorem Rf.asB {r : Res D} {m : Res Bool} (h : Rf D.bl r m) : Rf idB (r.bind PD.asB) m := by
  have := h.bind (k := PD.asB) (km := fun t => .ok t) (e' := idB) (fun t => .of rfl)
  rw [bind_okid] at this; exact this
theorem L_ite {e : α → D} {mc : Res Bool} {ma mb : Res α} (hc : Rf D.bl (ev Φ c ρ) mc) (ha : Rf e (ev Φ a ρ) ma) (hb : Rf e (ev Φ b ρ) mb) : Rf e (ev Φ (.ite c a b) ρ) (iteR mc ma mb) := by
  rw [v_ite]
  refine hc.asB.bind fun t => ?_
  cases t with
  | true => exact ha
  | false => exact hb
/-! lists of expressions -/
theorem A_nil : Rf zA (evs Φ .nil ρ) (.ok ()) := .of rfl
theorem A_one {e : α → D} {m : Res α} (h : Rf e (ev Φ a ρ) m) : Rf (oA e) (evs Φ (.cons a .nil) ρ) m := by
  rw [vs_cons]
  have := h.bind (k := fun d => (evs Φ .nil ρ).bind fun ds => .ok (d :: ds)) (km := fun x => .ok x) (e' := oA e) (fun x => .of rfl)
  rw [bind_okid] at this; exact this
theorem A_cons {e : α → D} {f : β → List D} {m : Res α} {mr : Res β} (h : Rf e (ev Φ a ρ) m) (hr : Rf f (evs Φ es ρ) mr) : Rf (cA e f) (evs Φ (.cons a es) ρ) (m.bind fun x => mr.bind fun y => .ok (x, y)) := by
  rw [vs_cons]
  exact h.bind fun x => hr.bind fun y => .of rfl
theorem H_nil {e : α → D} : Rf (List.map e) (evs Φ .nil ρ) (.ok []) := .of rfl
theorem H_cons {e : α → D} {m : Res α} {mr : Res (List α)} (h : Rf e (ev Φ a ρ) m) (hr : Rf (List.map e) (evs Φ es ρ) mr) : Rf (List.map e) (evs Φ (.cons a es) ρ) (m.bind fun x => mr.bind fun y => .ok (x :: y)) := by
  rw [vs_cons]
  exact h.bind fun x => hr.bind fun y => .of rfl
theorem L_tupP {f : α → List D} {m : Res α} (hn : ∀ x, (f x).length ≤ 100) (h : Rf f (evs Φ es ρ) m) : Rf (eP f) (ev Φ (.tup es) ρ) m := by
  rw [v_tup]
  have := h.bind (k := tupK) (km := fun x => .ok x) (e' := eP f) (fun x => .of (tupK_ok (by have := hn x; omega)))
  rw [bind_okid] at this; exact this
theorem L_tupT {e : α → D} {m : Res (List α)} (h : Rf (List.map e) (evs Φ es ρ) m) : Rf (eT e) (ev Φ (.tup es) ρ) (m.bind szR) := by
  rw [v_tup]
  refine h.bind fun xs => ?_
  unfold szR
  split
  · rename_i hl
    unfold tupK
    rw [if_pos (by rw [List.length_map]; exact hl)]; exact .of rfl
  · exact .bd
theorem L_lst {e : α → D} {m : Res (List α)} (h : Rf (List.map e) (evs Φ es ρ) m) : Rf (eL e) (ev Φ (.lst es) ρ) (m.bind szR) := by
  rw [v_lst]
  refine h.bind fun xs => ?_
  unfold szR
  split
  · rename_i hl
    unfold lstK
    rw [if_pos (by rw [List.length_map]; exact hl)]; exact .of rfl
  · exact .bd
theorem L_dic0 {e : α → D} {f : β → D} : Rf (eDic e f) (ev Φ .dic0 ρ) (.ok []) := .of rfl
/-! places -/
def atR (xs : List α) (i : Int) : Res α := ofO (L2.atI xs i)
theorem atI_map {e : α → β} {xs : List α} {i : Int} : L2.atI (xs.map e) i = (L2.atI xs i).map e := by
  unfold L2.atI
  rw [List.length_map]
  cases L2.ixN xs.length i with
  | none => rfl
  | some j => simp
theorem atR_Rf {e : α → D} {xs : List α} {i : Int} : Rf e (match L2.atI (xs.map e) i with | some d => Res.ok d | none => .bad) (atR xs i) := by
  unfold atR
  rw [atI_map]
  cases L2.atI xs i with
  | none => exact .bd
  | some x => exact .of rfl
theorem L_ixT {e : α → D} {ma : Res (List α)} {mb : Res Int} (ha : Rf (eT e) (ev Φ a ρ) ma) (hb : Rf D.int (ev Φ b ρ) mb) : Rf e (ev Φ (.ix a b) ρ) (b2 atR ma mb) := by
  rw [v_ix]; exact ha.bind fun x => hb.bind fun y => atR_Rf
theorem L_ixL {e : α → D} {ma : Res (List α)} {mb : Res Int} (ha : Rf (eL e) (ev Φ a ρ) ma) (hb : Rf D.int (ev Φ b ρ) mb) : Rf e (ev Φ (.ix a b) ρ) (b2 atR ma mb) := by
  rw [v_ix]; exact ha.bind fun x => hb.bind fun y => atR_Rf
theorem L_ixR {e : α → D} {ma : Res (List α)} {mb : Res Int} (ha : Rf (eR e) (ev Φ a ρ) ma) (hb : Rf D.int (ev Φ b ρ) mb) : Rf e (ev Φ (.ix a b) ρ) (b2 atR ma mb) := by
  rw [v_ix]; exact ha.bind fun x => hb.bind fun y => atR_Rf
theorem L_ixP {e1 : α → D} {e : β → D} {acc : α → β} {n : Int} {m : Res α} (hk : ∀ p, ixD (e1 p) (.int n) = .ok (e (acc p))) (h : Rf e1 (ev Φ a ρ) m) : Rf e (ev Φ (.ix a (.int n)) ρ) (m.bind fun p => .ok (acc p)) := by
  rw [v_ix]; exact h.bind fun p => by rw [v_int, Res.bind_ok]; exact .of (hk p)
theorem L_ixX {ma mb : Res D} (ha : Rf eX (ev Φ a ρ) ma) (hb : Rf eX (ev Φ b ρ) mb) : Rf eX (ev Φ (.ix a b) ρ) (b2 ixD ma mb) := by
  rw [v_ix]; exact ha.bind fun x => hb.bind fun y => Rf.sameX
theorem evO_none : Rf (fun x => x) (evO Φ .nil ρ) (.ok none) := .of rfl
theorem evO_some {m : Res Int} (hn : c.isNil = false) (h : Rf D.int (ev Φ c ρ) m) : Rf (fun x => x) (evO Φ c ρ) (m.bind fun i => .ok (some i)) := by
  unfold evO
  rw [hn]
  exact h.bind fun x => .of rfl
def cutR (m : Res (List α)) (l h : Res (Option Int)) : Res (List α) := m.bind fun x => l.bind fun l => h.bind fun h => .ok (cutD x l h)
@[simp] theorem cutR_ok {x : List α} {l h : Option Int} : cutR (.ok x) (.ok l) (.ok h) = .ok (cutD x l h) := rfl
theorem cutD_map {e : α → β} {xs : List α} {l h : Option Int} : cutD (xs.map e) l h = (cutD xs l h).map e := by
  unfold cutD
  rw [List.length_map, List.map_take, List.map_drop]
theorem L_slT {e : α → D} {m : Res (List α)} {ml mh : Res (Option Int)} (h : Rf (eT e) (ev Φ a ρ) m) (hl : Rf (fun x => x) (evO Φ lo ρ) ml) (hh : Rf (fun x => x) (evO Φ hi ρ) mh) : Rf (eT e) (ev Φ (.sl a lo hi) ρ) (cutR m ml mh) := by
  rw [v_sl]
  refine h.bind fun x => Rf.bind (e := fun x => x) hl fun l => Rf.bind (e := fun x => x) hh fun h => ?_
  refine .of ?_
  show Res.ok (D.tup (cutD (x.map e) l h)) = _
  rw [cutD_map]; rfl
theorem L_slL {e : α → D} {m : Res (List α)} {ml mh : Res (Option Int)} (h : Rf (eL e) (ev Φ a ρ) m) (hl : Rf (fun x => x) (evO Φ lo ρ) ml) (hh : Rf (fun x => x) (evO Φ hi ρ) mh) : Rf (eL e) (ev Φ (.sl a lo hi) ρ) (cutR m ml mh) := by
  rw [v_sl]
  refine h.bind fun x => Rf.bind (e := fun x => x) hl fun l => Rf.bind (e := fun x => x) hh fun h => ?_
  refine .of ?_
  show Res.ok (D.lst (cutD (x.map e) l h)) = _
  rw [cutD_map]; rfl
theorem L_slX {m : Res D} {ml mh : Res (Option Int)} (h : Rf eX (ev Φ a ρ) m) (hl : Rf (fun x => x) (evO Φ lo ρ) ml) (hh : Rf (fun x => x) (evO Φ hi ρ) mh) : Rf eX (ev Φ (.sl a lo hi) ρ) (m.bind fun x => ml.bind fun l => mh.bind fun h => sliceD x l h) := by
  rw [v_sl]
  exact h.bind fun x => Rf.bind (e := fun x => x) hl fun l => Rf.bind (e := fun x => x) hh fun h => Rf.sameX
theorem L_fld {e1 : α → D} {e : β → D} {acc : α → β} {m : Res α} (hk : ∀ p, fldD cc k (e1 p) = .ok (e (acc p))) (h : Rf e1 (ev Φ a ρ) m) : Rf e (ev Φ (.fld cc k a) ρ) (m.bind fun p => .ok (acc p)) := by
  rw [v_fld]; exact h.bind fun p => .of (hk p)
/-! built-ins -/
theorem L_bi1 {f : Bfn} {e1 : α → D} {e : β → D} {g : α → Res β} {m : Res α} (hf : ∀ x, Rf e (bfnD f [e1 x]) (g x)) (h : Rf e1 (ev Φ a ρ) m) : Rf e (ev Φ (.bi f (.cons a .nil)) ρ) (m.bind g) := by
  rw [v_bi]; exact (A_one h).bind fun x => hf x
theorem L_bi2 {f : Bfn} {e1 : α → D} {e2 : β → D} {e : γ → D} {g : α → β → Res γ} {ma : Res α} {mb : Res β} (hf : ∀ x y, Rf e (bfnD f [e1 x, e2 y]) (g x y)) (ha : Rf e1 (ev Φ a ρ) ma) (hb : Rf e2 (ev Φ b ρ) mb) : Rf e (ev Φ (.bi f (.cons a (.cons b .nil))) ρ) (b2 g ma mb) := by
  rw [v_bi, vs_cons]
  unfold b2
  cases ma with
  | bad => exact .bd
  | exc c => rw [show ev Φ a ρ = .exc c from ha.gex]; exact .ox rfl
  | ok x =>
    rw [show ev Φ a ρ = .ok (e1 x) from ha.get, Res.bind_ok, Res.bind_ok, vs_cons]
    cases mb with
    | bad => exact .bd
    | exc c => rw [show ev Φ b ρ = .exc c from hb.gex]; exact .ox rfl
    | ok y => rw [show ev Φ b ρ = .ok (e2 y) from hb.get]; exact hf x y
def lenG (xs : List α) : Res Int := .ok (xs.length : Int)
def absI (x : Int) : Res Int := .ok (ab x)
def sumI (xs : List Int) : Res Int := .ok xs.sum
def sameG (x : α) : Res α := .ok x
def maxI (x y : Int) : Res Int := .ok (if y > x then y else x)
def minI (x y : Int) : Res Int := .ok (if y < x then y else x)
@[simp] theorem lenG_eq {xs : List α} : lenG xs = .ok (xs.length : Int) := Eq.trans rfl rfl
@[simp] theorem absI_eq {x : Int} : absI x = .ok (ab x) := Eq.trans rfl rfl
@[simp] theorem sumI_eq {x : List Int} : sumI x = .ok x.sum := Eq.trans rfl rfl
@[simp] theorem sameG_eq {x : α} : sameG x = .ok x := Eq.trans rfl rfl
@[simp] theorem maxI_eq {x y : Int} : maxI x y = .ok (if y > x then y else x) := Eq.trans rfl rfl
@[simp] theorem minI_eq {x y : Int} : minI x y = .ok (if y < x then y else x) := Eq.trans rfl rfl
theorem B_lenT {e : α → D} (x : List α) : Rf D.int (bfnD .len [eT e x]) (lenG x) := by refine .of ?_; show Res.ok (D.int ((x.map e).length : Int)) = _; rw [List.length_map]
theorem B_lenL {e : α → D} (x : List α) : Rf D.int (bfnD .len [eL e x]) (lenG x) := by refine .of ?_; show Res.ok (D.int ((x.map e).length : Int)) = _; rw [List.length_map]
theorem B_lenR {e : α → D} (x : List α) : Rf D.int (bfnD .len [eR e x]) (lenG x) := by refine .of ?_; show Res.ok (D.int ((x.map e).length : Int)) = _; rw [List.length_map]
theorem B_X1 {f : Bfn} (x : D) : Rf eX (bfnD f [eX x]) (bfnD f [x]) := Rf.sameX
theorem B_XI {f : Bfn} (x : D) : Rf D.int (bfnD f [eX x]) ((bfnD f [x]).bind (castR D.int)) := Rf.cast
theorem B_abs (x : Int) : Rf D.int (bfnD .abs [.int x]) (absI x) := .of rfl
theorem B_int (x : Int) : Rf D.int (bfnD .int [.int x]) (sameG x) := .of rfl
theorem B_max (x y : Int) : Rf D.int (bfnD .max [.int x, .int y]) (maxI x y) := .of rfl
theorem B_min (x y : Int) : Rf D.int (bfnD .min [.int x, .int y]) (minI x y) := .of rfl
theorem intsD_I : ∀ xs : List Int, intsD (xs.map D.int) = some xs
  | [] => rfl
  | x :: xs => by rw [List.map_cons, intsD, intsD_I xs]; rfl
theorem B_sum (x : List Int) : Rf D.int (bfnD .sum [eL D.int x]) (sumI x) := by
  refine .of ?_
  show (match intsD (x.map D.int) with | some ns => Res.ok (D.int ns.sum) | none => .bad) = _
  rw [intsD_I]
theorem B_tupL {e : α → D} (x : List α) : Rf (eT e) (bfnD .tuple [eL e x]) (sameG x) := .of rfl
theorem B_tupT {e : α → D} (x : List α) : Rf (eT e) (bfnD .tuple [eT e x]) (sameG x) := .of rfl
theorem B_lstL {e : α → D} (x : List α) : Rf (eL e) (bfnD .list [eL e x]) (sameG x) := .of rfl
theorem B_lstT {e : α → D} (x : List α) : Rf (eL e) (bfnD .list [eT e x]) (sameG x) := .of rfl
theorem L_isi {t : PD.Ty} {e : α → D} {f : α → Res Bool} {m : Res α} (hf : ∀ x, Rf idB (isiD t (e x)) (f x)) (h : Rf e (ev Φ a ρ) m) : Rf D.bl (ev Φ (.isi t a) ρ) (m.bind f) := by
  rw [v_isi]
  refine h.bind fun x => ?_
  have h := hf x
  unfold blD
  cases q : f x with
  | ok t => rw [q] at h; rw [show isiD _ (e x) = .ok t from h.get]; exact .of rfl
  | exc t => rw [q] at h; rw [show isiD _ (e x) = .exc t from h.gex]; exact .ox rfl
  | bad => exact .bd
theorem L_isc {e : α → D} {f : α → Res Bool} {m : Res α} (hf : ∀ x, Rf idB (isiC k (e x)) (f x)) (h : Rf e (ev Φ a ρ) m) : Rf D.bl (ev Φ (.isc k a) ρ) (m.bind f) := by
  rw [v_isc]
  refine h.bind fun x => ?_
  have h := hf x
  unfold blD
  cases q : f x with
  | ok t => rw [q] at h; rw [show isiC _ (e x) = .ok t from h.get]; exact .of rfl
  | exc t => rw [q] at h; rw [show isiC _ (e x) = .exc t from h.gex]; exact .ox rfl
  | bad => exact .bd
theorem S_isiX {t : PD.Ty} (x : D) : Rf idB (isiD t (eX x)) (isiD t x) := Rf.sameB
theorem S_iscX (x : D) : Rf idB (isiC k (eX x)) (isiC k x) := Rf.sameB
def ttG (_ : α) : Res Bool := .ok true
@[simp] theorem ttG_eq {x : α} : ttG x = .ok true := Eq.trans rfl rfl
theorem S_iscC {f : α → List D} (x : α) : Rf idB (isiC k (eC k f x)) (ttG x) := by
  refine .of ?_
  show (if k = k then Res.ok true else .bad) = _
  rw [if_pos rfl]; rfl
theorem S_isiT {e : α → D} (x : List α) : Rf idB (isiD .tup (eT e x)) (ttG x) := .of rfl
theorem S_isiI (x : Int) : Rf idB (isiD .int (D.int x)) (ttG x) := .of rfl
/-! calls -/
theorem L_call {f : α → List D} {e : β → D} {t : α → Res β} {m : Res α} (φ : List D → Res D) (hj : Φ.f j = φ) (hf : ∀ p, Rf e (φ (f p)) (t p)) (h : Rf f (evs Φ es ρ) m) : Rf e (ev Φ (.call j es) ρ) (m.bind t) := by
  rw [v_call, hj]; exact h.bind hf
def nxR (m : Res α) : Res α := match m with
  | .exc _ => .bad
  | r => r
@[simp] theorem nxR_ok {x : α} : nxR (.ok x) = .ok x := rfl
theorem Rf.noX {e : α → D} {r : Res D} {m : Res α} (h : Rf e r m) : Rf e (PD.noX r) (nxR m) := by
  cases m with
  | ok x => rw [show r = .ok (e x) from h.get]; exact .of rfl
  | exc c => exact .bd
  | bad => exact .bd
theorem Rf.noE {e : α → β} {r : Res β} {m : Res α} (h : Rf e r m) : Rf e (PD.noE r) (nxR m) := by
  cases m with
  | ok x => rw [show r = .ok (e x) from h.get]; exact .of rfl
  | exc c => exact .bd
  | bad => exact .bd
theorem L_meth {c : Nat} {eo : α → D} {f : β → List D} {e : γ → D} {t : α → β → Res γ} {mo : Res α} {m : Res β} (φ : List D → Res D) (hj : Φ.m j = φ) (ho : ∀ x, (eo x).isC c = true) (hf : ∀ x p, Rf e (φ (eo x :: f p)) (t x p)) (h1 : Rf eo (ev Φ a ρ) mo) (h : Rf f (evs Φ es ρ) m) : Rf e (ev Φ (.meth j c a es) ρ) (b2 (fun x p => nxR (t x p)) mo m) := by
  rw [v_meth, hj]
  refine h1.bind fun x => ?_
  rw [if_pos (ho x)]
  exact h.bind fun p => (hf x p).noX
theorem L_make {c : Nat} {f : α → List D} {g : β → List D} {fl : γ → List D} {t : α → β → Res γ} {m : Res α} {mk : Res β} (φ : List D → Res (List D)) (dd : List D) (hj : Φ.k j = φ) (hd : Φ.dd j = dd) (hf : ∀ x y, Rf fl (φ (f x ++ (g y ++ dd))) (t x y)) (h : Rf f (evs Φ es ρ) m) (hk : Rf g (evs Φ kws ρ) mk) : Rf (eC c fl) (ev Φ (.make j c es kws) ρ) (b2 t m mk) := by
  rw [v_make, hj, hd]
  refine h.bind fun x => hk.bind fun y => ?_
  have h := hf x y
  have := h.bind (k := fun fl => .ok (.obj c fl)) (km := fun x => .ok x) (e' := eC c fl) (fun x => .of rfl)
  rw [bind_okid] at this; exact this
theorem isC_eC {f : α → List D} (x : α) : (eC k f x).isC k = true := by
  show decide (k = k) = true
  simp
/-! what is walked -/
theorem I_T {e : α → D} {m : Res (List α)} (h : Rf (eT e) (ev Φ a ρ) m) : Rf (List.map e) (evI Φ .seq a ρ) m := by
  rw [vI_seq]
  have := h.bind (k := itemsD) (km := fun x => .ok x) (e' := List.map e) (fun x => .of rfl)
  rw [bind_okid] at this; exact this
theorem I_L {e : α → D} {m : Res (List α)} (h : Rf (eL e) (ev Φ a ρ) m) : Rf (List.map e) (evI Φ .seq a ρ) m := by
  rw [vI_seq]
  have := h.bind (k := itemsD) (km := fun x => .ok x) (e' := List.map e) (fun x => .of rfl)
  rw [bind_okid] at this; exact this
def castsR (e : α → D) [i : Dc e] (ds : List D) : Res (List α) := ofO (decs i.f ds)
@[simp] theorem castsR_e {e : α → D} [i : Dc e] {xs : List α} : castsR e (xs.map e) = .ok xs := by unfold castsR; rw [decs_g]; rfl
theorem I_X {e : α → D} [i : Dc e] {m : Res D} (h : Rf eX (ev Φ a ρ) m) : Rf (List.map e) (evI Φ .seq a ρ) (m.bind fun d => (itemsD d).bind (castsR e)) := by
  rw [vI_seq]
  refine h.bind fun d => ?_
  show Rf (List.map e) (itemsD d) ((itemsD d).bind (castsR e))
  refine Rf.to (Rf.same (r := itemsD d)) fun ds => ?_
  unfold castsR
  cases q : decs i.f ds with
  | none => exact .bd
  | some xs => exact .of (congrArg Res.ok (decs_h q))
def rng1R (n : Int) : Res (List Int) := if -(2 ^ 62) ≤ n ∧ n < 2 ^ 62 then .ok (rangeI 0 n.toNat) else .bad
def rng2R (i n : Int) : Res (List Int) := if -(2 ^ 62) ≤ i ∧ i < 2 ^ 62 ∧ -(2 ^ 62) ≤ n ∧ n < 2 ^ 62 then .ok (rangeI i (n - i).toNat) else .bad
def downI (hi : Int) (n : Nat) : List Int := (List.range n).map fun i => hi - (i : Nat)
def rng3R (i n : Int) : Res (List Int) := if -(2 ^ 62) ≤ i ∧ i < 2 ^ 62 ∧ -(2 ^ 62) ≤ n ∧ n < 2 ^ 62 then .ok (downI i (i - n).toNat) else .bad
theorem rng1R_ok {n : Int} (h : -1000000000000 ≤ n ∧ n ≤ 1000000000000) : rng1R n = .ok (rangeI 0 n.toNat) := by unfold rng1R; rw [if_pos (by omega)]
theorem rng2R_ok {i n : Int} (h1 : -1000000000000 ≤ i ∧ i ≤ 1000000000000) (h : -1000000000000 ≤ n ∧ n ≤ 1000000000000) : rng2R i n = .ok (rangeI i (n - i).toNat) := by unfold rng2R; rw [if_pos (by omega)]
theorem rng3R_ok {i n : Int} (h1 : -1000000000000 ≤ i ∧ i ≤ 1000000000000) (h : -1000000000000 ≤ n ∧ n ≤ 1000000000000) : rng3R i n = .ok (downI i (i - n).toNat) := by unfold rng3R; rw [if_pos (by omega)]
theorem I_r1 {m : Res Int} (h : Rf D.int (ev Φ a ρ) m) : Rf (List.map D.int) (evI Φ .rng (.cons a .nil) ρ) (m.bind rng1R) := by
  rw [vI_rng]
  refine (A_one h).bind fun n => ?_
  unfold rng1R
  split
  · rename_i hn
    exact .of (rng1 hn)
  · exact .bd
theorem I_r2 {ma mb : Res Int} (ha : Rf D.int (ev Φ a ρ) ma) (hb : Rf D.int (ev Φ b ρ) mb) : Rf (List.map D.int) (evI Φ .rng (.cons a (.cons b .nil)) ρ) (b2 rng2R ma mb) := by
  rw [vI_rng, vs_cons]
  unfold b2
  cases ma with
  | bad => exact .bd
  | exc c => rw [show ev Φ a ρ = .exc c from ha.gex]; exact .ox rfl
  | ok x =>
    rw [show ev Φ a ρ = .ok (.int x) from ha.get, Res.bind_ok, Res.bind_ok, vs_cons]
    cases mb with
    | bad => exact .bd
    | exc c => rw [show ev Φ b ρ = .exc c from hb.gex]; exact .ox rfl
    | ok y =>
      rw [show ev Φ b ρ = .ok (.int y) from hb.get, Res.bind_ok]
      show Rf _ (rngA [.int x, .int y]) (rng2R x y)
      unfold rng2R
      split
      · rename_i hn
        exact .of (rng2 hn)
      · exact .bd
theorem I_r3 {ma mb : Res Int} (ha : Rf D.int (ev Φ a ρ) ma) (hb : Rf D.int (ev Φ b ρ) mb) : Rf (List.map D.int) (evI Φ .rng (.cons a (.cons b (.cons (.neg (.int 1)) .nil))) ρ) (b2 rng3R ma mb) := by
  rw [vI_rng, vs_cons]
  unfold b2
  cases ma with
  | bad => exact .bd
  | exc c => rw [show ev Φ a ρ = .exc c from ha.gex]; exact .ox rfl
  | ok x =>
    rw [show ev Φ a ρ = .ok (.int x) from ha.get, Res.bind_ok, Res.bind_ok, vs_cons]
    cases mb with
    | bad => exact .bd
    | exc c => rw [show ev Φ b ρ = .exc c from hb.gex]; exact .ox rfl
    | ok y =>
      rw [show ev Φ b ρ = .ok (.int y) from hb.get, Res.bind_ok]
      show Rf _ (rngA [.int x, .int y, .int (-1)]) (rng3R x y)
      unfold rng3R
      split
      · rename_i hn
        have e : rngA [.int x, .int y, .int (-1)] = if (-1 : Int) = -1 ∧ -(2 ^ 62) ≤ x ∧ x < 2 ^ 62 ∧ -(2 ^ 62) ≤ y ∧ y < 2 ^ 62 then .ok (rngD x (-1) (x - y).toNat) else .bad := rfl
        rw [e, if_pos ⟨rfl, hn⟩]
        refine .of (congrArg Res.ok ?_)
        unfold rngD downI
        rw [List.map_map]
        refine List.map_congr_left fun i _ => ?_
        have e : x + (i : Int) * -1 = x - (i : Int) := by omega
        exact congrArg D.int e
      · exact .bd
theorem L_tupR {ma mb : Res Int} (ha : Rf D.int (ev Φ a ρ) ma) (hb : Rf D.int (ev Φ b ρ) mb) : Rf (eT D.int) (ev Φ (.tupR (.cons a (.cons b .nil))) ρ) ((b2 rng2R ma mb).bind szR) := by
  have h := I_r2 ha hb
  rw [vI_rng] at h
  rw [v_tupR]
  show Rf _ ((evs Φ (.cons a (.cons b .nil)) ρ).bind fun ds => (rngA ds).bind fun xs => if xs.length ≤ sizeLine then Res.ok (D.tup xs) else .bad) _
  rw [← bind_assoc]
  refine h.bind fun xs => ?_
  unfold szR
  by_cases hl : xs.length ≤ sizeLine
  · rw [if_pos hl, if_pos (by rw [List.length_map]; exact hl)]; exact .of rfl
  · rw [if_neg hl]; exact .bd
/-! comprehensions -/
def lcR (mc : α → Res Bool) (mf : α → Res β) : List α → Res (List β)
  | [] => .ok []
  | x :: xs => (nxR (mc x)).bind fun t => if t then (nxR (mf x)).bind fun y => (lcR mc mf xs).bind fun ys => .ok (y :: ys) else lcR mc mf xs
theorem lcL_Rf {vs : List Nat} {t : Tg} {fc : En → Res Bool} {fe : En → Res D} {ea : α → D} {eb : β → D} {R : α → En} {mc : α → Res Bool} {mf : α → Res β} (hb : ∀ x, bindT t (ea x) (wipeE ρ vs) = .ok (R x)) (hc : ∀ x, Rf idB (fc (R x)) (mc x)) (he : ∀ x, Rf eb (fe (R x)) (mf x)) :
    ∀ xs, Rf (List.map eb) (lcL vs t fc fe ρ (xs.map ea)) (lcR mc mf xs)
  | [] => .of rfl
  | x :: xs => by
    rw [List.map_cons, lcL, hb, Res.bind_ok, lcR]
    refine (hc x).noE.bind fun t => ?_
    cases t with
    | true => exact (he x).noE.bind fun y => (lcL_Rf hb hc he xs).bind fun ys => .of rfl
    | false => exact lcL_Rf hb hc he xs
theorem L_lc {ik : IK} {vs : List Nat} {t : Tg} {e : Ex} {ea : α → D} {eb : β → D} {R : α → En} {mi : Res (List α)} {mc : α → Res Bool} {mf : α → Res β} (hi : Rf (List.map ea) (evI Φ ik it ρ) mi) (hb : ∀ x, bindT t (ea x) (wipeE ρ vs) = .ok (R x)) (hc : ∀ x, Rf idB (evC Φ c (R x)) (mc x)) (he : ∀ x, Rf eb (ev Φ e (R x)) (mf x)) :
    Rf (eL eb) (ev Φ (.lc ik vs t it c e) ρ) (mi.bind fun xs => (lcR mc mf xs).bind szR) := by
  rw [v_lc]
  refine hi.bind fun xs => (lcL_Rf hb hc he xs).bind fun ys => ?_
  unfold szR
  by_cases hl : ys.length ≤ sizeLine
  · rw [if_pos hl, if_pos (by rw [List.length_map]; exact hl)]; exact .of rfl
  · rw [if_neg hl]; exact .bd
theorem Q_none (R : En) : Rf idB (evC Φ .nil R) (.ok true) := .of rfl
theorem Q_some {m : Res Bool} (hn : c.isNil = false) (h : Rf D.bl (ev Φ c ρ) m) : Rf idB (evC Φ c ρ) m := by
  rw [vC_of hn]; exact h.asB
def qnR (stop : Bool) (mf : α → Res Bool) : List α → Res Bool
  | [] => .ok (!stop)
  | x :: xs => (nxR (mf x)).bind fun t => if t = stop then .ok stop else qnR stop mf xs
theorem genL_Rf {vs : List Nat} {t : Tg} {stop : Bool} {fe : En → Res D} {ea : α → D} {R : α → En} {mf : α → Res Bool} (hb : ∀ x, bindT t (ea x) (wipeE ρ vs) = .ok (R x)) (he : ∀ x, Rf D.bl (fe (R x)) (mf x)) :
    ∀ xs, Rf idB (genL stop vs t fe ρ (xs.map ea)) (qnR stop mf xs)
  | [] => .of rfl
  | x :: xs => by
    rw [List.map_cons, genL, hb, Res.bind_ok, qnR]
    refine (he x).noE.bind fun t => ?_
    dsimp only
    by_cases h : t = stop
    · rw [if_pos h, if_pos h]; exact .of rfl
    · rw [if_neg h, if_neg h]; exact genL_Rf hb he xs
theorem L_gen {ik : IK} {vs : List Nat} {t : Tg} {stop : Bool} {e : Ex} {ea : α → D} {R : α → En} {mi : Res (List α)} {mf : α → Res Bool} (hi : Rf (List.map ea) (evI Φ ik it ρ) mi) (hb : ∀ x, bindT t (ea x) (wipeE ρ vs) = .ok (R x)) (he : ∀ x, Rf D.bl (ev Φ e (R x)) (mf x)) :
    Rf D.bl (ev Φ (.gen stop ik vs t it e) ρ) (mi.bind (qnR stop mf)) := by
  rw [v_gen]
  refine hi.bind fun xs => ?_
  have h := (genL_Rf (stop := stop) hb he xs).noE
  have := h.bind (k := fun b => .ok (.bl b)) (km := fun x => .ok x) (e' := D.bl) (fun x => .of rfl)
  rw [bind_okid] at this
  have z : nxR (qnR stop mf xs) = qnR stop mf xs ∨ nxR (qnR stop mf xs) = .bad := by cases qnR stop mf xs <;> simp [nxR]
  rcases z with z | z
  · rw [z] at this; exact this
  · cases q : qnR stop mf xs with
    | ok x => rw [q] at z; cases z
    | bad => exact .bd
    | exc c => exact (qnR_noexc q).elim
where
  qnR_noexc {stop : Bool} {mf : α → Res Bool} {c : Nat} : ∀ {xs : List α}, qnR stop mf xs = .exc c → False
    | [], h => by cases h
    | x :: xs, h => by
      rw [qnR] at h
      cases q : mf x with
      | ok t =>
        rw [q, nxR_ok, Res.bind_ok] at h
        split at h
        · cases h
        · exact qnR_noexc h
      | exc t => rw [q] at h; cases h
      | bad => rw [q] at h; cases h
end
/-! comprehensions whose parts all tell -/
theorem lcR_ok {α β : Type} {mc : α → Res Bool} {mf : α → Res β} {c : α → Bool} {f : α → β} : ∀ {xs : List α}, (∀ x ∈ xs, mc x = .ok (c x)) → (∀ x ∈ xs, c x = true → mf x = .ok (f x)) → lcR mc mf xs = .ok ((xs.filter c).map f)
  | [], _, _ => rfl
  | x :: xs, hc, hf => by
    have r := lcR_ok (xs := xs) (fun y hy => hc y (List.mem_cons_of_mem _ hy)) (fun y hy => hf y (List.mem_cons_of_mem _ hy))
    rw [lcR, hc x List.mem_cons_self, nxR_ok, Res.bind_ok, List.filter_cons]
    cases q : c x with
    | true => rw [if_pos rfl, if_pos rfl, hf x List.mem_cons_self q, r]; rfl
    | false => rw [if_neg Bool.false_ne_true, if_neg Bool.false_ne_true, r]
theorem lcR_map {α β : Type} {mf : α → Res β} {f : α → β} {xs : List α} (hf : ∀ x ∈ xs, mf x = .ok (f x)) : lcR (fun _ => .ok true) mf xs = .ok (xs.map f) := by
  have := lcR_ok (mc := fun _ => .ok true) (c := fun _ => true) (f := f) (xs := xs) (fun _ _ => rfl) (fun x hx _ => hf x hx)
  rw [this, List.filter_eq_self.mpr fun _ _ => rfl]
theorem qnR_all {α : Type} {mf : α → Res Bool} {f : α → Bool} : ∀ {xs : List α}, (∀ x ∈ xs, mf x = .ok (f x)) → qnR false mf xs = .ok (xs.all f)
  | [], _ => rfl
  | x :: xs, hf => by
    have r := qnR_all (xs := xs) (fun y hy => hf y (List.mem_cons_of_mem _ hy))
    rw [qnR, hf x List.mem_cons_self, nxR_ok, Res.bind_ok, r]
    cases q : f x <;> simp [q]
theorem qnR_any {α : Type} {mf : α → Res Bool} {f : α → Bool} : ∀ {xs : List α}, (∀ x ∈ xs, mf x = .ok (f x)) → qnR true mf xs = .ok (xs.any f)
  | [], _ => rfl
  | x :: xs, hf => by
    have r := qnR_any (xs := xs) (fun y hy => hf y (List.mem_cons_of_mem _ hy))
    rw [qnR, hf x List.mem_cons_self, nxR_ok, Res.bind_ok, r]
    cases q : f x <;> simp [q]
/-- all, where later items may not tell behind the first that fails -/
theorem qnR_allI {α : Type} {mf : α → Res Bool} {f : α → Bool} : ∀ {xs : List α} (P : α → Prop), (∀ x ∈ xs, P x) → (∀ x, P x → mf x = .ok (f x)) → qnR false mf xs = .ok (xs.all f) := fun P h k => qnR_all fun x hx => k x (h x hx)
end PD
/-! The typed side: statements. -/
namespace PD
open PySem PySem.Spec PySem.W PyProof.Rows
theorem Out.bind_assoc {o : Out} {f g : En → Out} : (o.bind f).bind g = o.bind fun ρ => (f ρ).bind g := by cases o <;> rfl
theorem Out.bind_nx {o : Out} : o.bind .nx = o := by cases o <;> rfl
/-- what is said of an end: an exception and silence are passed on -/
structure JOk {M : Type} (J : Out → Res M → Prop) : Prop where
  exc : ∀ c ρ, J (.exc c ρ) (.exc c)
  bad : ∀ o, J o .bad
inductive Ctl (σ R : Type) where
  | nx (s : σ) | bk (s : σ) | rt (r : R)
section
variable {M α β γ σ R : Type}
def BJ (e : α → D) : Out → Res α → Prop := fun o m => Rf e (outR o) m
theorem BJ_ok {e : α → D} : JOk (BJ e) := ⟨fun _ _ => .ox rfl, fun _ => .bd⟩
def PJ (E : σ → En → Prop) : Out → Res σ → Prop := fun o m => (∀ s, m = .ok s → ∃ ρ, o = .nx ρ ∧ E s ρ) ∧ ∀ c, m = .exc c → ∃ ρ, o = .exc c ρ
theorem PJ_ok {E : σ → En → Prop} : JOk (PJ E) := ⟨fun c ρ => ⟨fun _ z => (by cases z), fun _ z => by cases z; exact ⟨_, rfl⟩⟩, fun _ => ⟨fun _ z => (by cases z), fun _ z => (by cases z)⟩⟩
def LJ (E : σ → En → Prop) : Out → Res σ → Prop := fun o m => (∀ s, m = .ok s → ∃ ρ, (o = .nx ρ ∨ o = .ct ρ) ∧ E s ρ) ∧ ∀ c, m = .exc c → ∃ ρ, o = .exc c ρ
theorem LJ_ok {E : σ → En → Prop} : JOk (LJ E) := ⟨fun c ρ => ⟨fun _ z => (by cases z), fun _ z => by cases z; exact ⟨_, rfl⟩⟩, fun _ => ⟨fun _ z => (by cases z), fun _ z => (by cases z)⟩⟩
structure CJ (E : σ → En → Prop) (e : R → D) (o : Out) (m : Res (Ctl σ R)) : Prop where
  nx : ∀ s, m = .ok (.nx s) → ∃ ρ, (o = .nx ρ ∨ o = .ct ρ) ∧ E s ρ
  bk : ∀ s, m = .ok (.bk s) → ∃ ρ, o = .bk ρ ∧ E s ρ
  rt : ∀ r, m = .ok (.rt r) → o = .rt (e r)
  exc : ∀ c, m = .exc c → ∃ ρ, o = .exc c ρ
theorem CJ_ok {E : σ → En → Prop} {e : R → D} : JOk (CJ E e) := ⟨fun c ρ => ⟨fun _ z => (by cases z), fun _ z => (by cases z), fun _ z => (by cases z), fun _ z => by cases z; exact ⟨_, rfl⟩⟩, fun _ => ⟨fun _ z => (by cases z), fun _ z => (by cases z), fun _ z => (by cases z), fun _ z => (by cases z)⟩⟩
/-- ends of an __init__ -/
def IJ (fN : Nat → List Str) (c : Nat) (e : α → List D) : Out → Res α → Prop := fun o m => Rf e (outI fN c o) m
theorem IJ_ok {fN : Nat → List Str} {c : Nat} {e : α → List D} : JOk (IJ fN c e) := ⟨fun _ _ => .ox rfl, fun _ => .bd⟩
/-- a block and what comes behind it -/
def JB (Φ : Fs) (fN : Nat → List Str) (J : Out → Res M → Prop) (K : En → Out) (ρ : En) (b : Sm) (m : Res M) : Prop := J ((exS Φ fN b ρ).bind K) m
theorem J_lift {J : Out → Res M → Prop} (hJ : JOk J) {e : α → β} {r : Res β} {m : Res α} {ρ : En} {k : β → Out} {km : α → Res M} (h : Rf e r m) (hk : ∀ x, J (k (e x)) (km x)) : J (liftR r ρ k) (m.bind km) := by
  cases m with
  | ok x => rw [show r = .ok (e x) from h.get]; exact hk x
  | exc c => rw [show r = .exc c from h.gex]; exact hJ.exc c ρ
  | bad => exact hJ.bad _
theorem liftR_bind {r : Res β} {ρ : En} {k : β → Out} {K : En → Out} : (liftR r ρ k).bind K = liftR r ρ fun x => (k x).bind K := by cases r <;> rfl
section
variable {Φ : Fs} {fN : Nat → List Str} {J : Out → Res M → Prop} {K : En → Out} {ρ ρ1 : En} {r : Sm} {i : Nat} {e c : Ex} {m : Res α} {en : α → D}
theorem run_def {n : Nat} {b : Sm} {ds : List D} {e : α → D} {m : Res α} (h : JB Φ fN (BJ e) .nx (startE n ds) b m) : Rf e (runDef Φ fN n b ds) m := by
  unfold JB at h
  rw [Out.bind_nx] at h
  exact h
theorem run_init {n cc : Nat} {b : Sm} {ds : List D} {e : α → List D} {m : Res α} (h : JB Φ fN (IJ fN cc e) .nx (startI cc (n - 1) ds) b m) : Rf e (runInit Φ fN cc n b ds) m := by
  unfold JB at h
  rw [Out.bind_nx] at h
  exact h
theorem jb_nil {m : Res M} (h : J (K ρ) m) : JB Φ fN J K ρ .nil m := h
theorem jb_nilr {m : Res M} (h : JB Φ fN J K ρ r m) : JB Φ fN J (fun ρ' => (exS Φ fN r ρ').bind K) ρ .nil m := h
theorem jb_asg {km : α → Res M} (hJ : JOk J) (hd : demE (slx true e) ρ = ρ1) (h : Rf en (ev Φ e ρ1) m) (hk : ∀ x, JB Φ fN J K (ρ1.set i (.pl (en x))) r (km x)) : JB Φ fN J K ρ (.cons (.asg i e) r) (m.bind km) := by
  unfold JB
  rw [x_cons, x_asg, hd, liftR_bind, liftR_bind]
  exact J_lift hJ h hk
theorem jb_ownL {xe : α → D} {m : Res (List α)} {km : List α → Res M} (hJ : JOk J) (hd : demE (slx true e) ρ = ρ1) (hi : i < ρ1.length) (h : Rf (eL xe) (ev Φ e ρ1) m) (hk : ∀ x, JB Φ fN J K (ρ1.set i (.ow (eL xe x))) r (km x)) : JB Φ fN J K ρ (.cons (.own i e) r) (m.bind km) := by
  unfold JB
  rw [x_cons, x_own, hd, liftR_bind, liftR_bind]
  refine J_lift hJ h fun x => ?_
  have e : ownV (eL xe x) ρ1 i = .nx (ρ1.set i (.ow (eL xe x))) := if_pos hi
  rw [e]
  exact hk x
theorem jb_ownD {ke : α → D} {ve : β → D} {m : Res (List (α × β))} {km : List (α × β) → Res M} (hJ : JOk J) (hd : demE (slx true e) ρ = ρ1) (hi : i < ρ1.length) (h : Rf (eDic ke ve) (ev Φ e ρ1) m) (hk : ∀ x, JB Φ fN J K (ρ1.set i (.ow (eDic ke ve x))) r (km x)) : JB Φ fN J K ρ (.cons (.own i e) r) (m.bind km) := by
  unfold JB
  rw [x_cons, x_own, hd, liftR_bind, liftR_bind]
  refine J_lift hJ h fun x => ?_
  have e : ownV (eDic ke ve x) ρ1 i = .nx (ρ1.set i (.ow (eDic ke ve x))) := if_pos hi
  rw [e]
  exact hk x
theorem jb_asgT {is : List Nat} {Rn : α → En} {km : α → Res M} (hJ : JOk J) (hd : demE (slx true e) ρ = ρ1) (h : Rf en (ev Φ e ρ1) m) (hb : ∀ x, bindT (.many is) (en x) ρ1 = .ok (Rn x)) (hk : ∀ x, JB Φ fN J K (Rn x) r (km x)) : JB Φ fN J K ρ (.cons (.asgT is e) r) (m.bind km) := by
  unfold JB
  rw [x_cons, x_asgT, hd, liftR_bind, liftR_bind]
  refine J_lift hJ h fun x => ?_
  rw [hb]
  exact hk x
theorem jb_app {xs : List α} {km : List α → Res M} (hJ : JOk J) (hd : demE (slx true e) ρ = ρ1) (hs : ρ1.sl i = .ow (eL en xs)) (h : Rf en (ev Φ e ρ1) m) (hk : ∀ ys, JB Φ fN J K (ρ1.set i (.ow (eL en ys))) r (km ys)) : JB Φ fN J K ρ (.cons (.app i e) r) ((m.bind (appR xs)).bind km) := by
  unfold JB
  rw [x_cons, x_app, hd, hs]
  show J (((liftR (ev Φ e ρ1) ρ1 fun d => if (xs.map en).length < sizeLine then .nx (ρ1.set i (.ow (.lst (xs.map en ++ [d])))) else .bad).bind (exS Φ fN r)).bind K) _
  rw [liftR_bind, liftR_bind, PD.bind_assoc]
  refine J_lift hJ h fun x => ?_
  unfold appR
  by_cases hl : xs.length < sizeLine
  · rw [if_pos hl, if_pos (by rw [List.length_map]; exact hl)]
    have := hk (xs ++ [x])
    unfold eL at this
    rw [List.map_append] at this
    exact this
  · rw [if_neg hl]; exact hJ.bad _
theorem jb_ifs {a b : Sm} {m : Res Bool} {ma mb : Res M} (hJ : JOk J) (hd : demE (slx false c) ρ = ρ1) (h : Rf D.bl (ev Φ c ρ1) m) (ha : JB Φ fN J (fun ρ' => (exS Φ fN r ρ').bind K) ρ1 a ma) (hb : JB Φ fN J (fun ρ' => (exS Φ fN r ρ').bind K) ρ1 b mb) : JB Φ fN J K ρ (.cons (.ifs c a b) r) (iteR m ma mb) := by
  unfold JB at ha hb ⊢
  rw [← Out.bind_assoc] at ha hb
  rw [x_cons, x_ifs, hd, liftR_bind, liftR_bind]
  refine J_lift hJ h.asB fun t => ?_
  cases t with
  | true => exact ha
  | false => exact hb
/-- a statement whose ends meet -/
theorem jb_seq {s : Sm} {E : σ → En → Prop} {m : Res σ} {km : σ → Res M} (hJ : JOk J) (h : JB Φ fN (PJ E) .nx ρ (.cons s .nil) m) (hk : ∀ s ρ', E s ρ' → JB Φ fN J K ρ' r (km s)) : JB Φ fN J K ρ (.cons s r) (m.bind km) := by
  unfold JB at h ⊢
  rw [Out.bind_nx, x_cons] at h
  have e : (exS Φ fN s ρ).bind (exS Φ fN .nil) = exS Φ fN s ρ := Out.bind_nx
  rw [e] at h
  rw [x_cons]
  cases m with
  | ok s =>
    obtain ⟨ρ', h1, h2⟩ := h.1 s rfl
    rw [h1]; exact hk s ρ' h2
  | exc c =>
    obtain ⟨ρ', h1⟩ := h.2 c rfl
    rw [h1]; exact hJ.exc c ρ'
  | bad => exact hJ.bad _
theorem jb_ret {kr : α → Res M} (hJ : JOk J) (hd : demE (slx true e) ρ = ρ1) (h : Rf en (ev Φ e ρ1) m) (hk : ∀ x, J (.rt (en x)) (kr x)) : JB Φ fN J K ρ (.cons (.ret e) r) (m.bind kr) := by
  unfold JB
  rw [x_cons, x_ret, hd, liftR_bind, liftR_bind]
  exact J_lift hJ h hk
theorem jb_retN {m : Res M} (h : J (.rt .non) m) : JB Φ fN J K ρ (.cons .retN r) m := h
theorem jb_raise {cc : Nat} (hJ : JOk J) : JB Φ fN J K ρ (.cons (.raise cc) r) (.exc cc) := hJ.exc cc ρ
theorem jb_drop {km : α → Res M} (hJ : JOk J) (hd : demE (slx true e) ρ = ρ1) (h : Rf en (ev Φ e ρ1) m) (hk : ∀ x, JB Φ fN J K ρ1 r (km x)) : JB Φ fN J K ρ (.cons (.drop e) r) (m.bind km) := by
  unfold JB
  rw [x_cons, x_drop, hd, liftR_bind, liftR_bind]
  exact J_lift hJ h hk
theorem jb_aug {o : Aop} {x : Int} {m : Res Int} {km : Int → Res M} (hJ : JOk J) (hd : demE (slx false e) ρ = ρ1) (hs : ρ1.sl i = .pl (.int x)) (h : Rf D.int (ev Φ e ρ1) m) (hk : ∀ z, JB Φ fN J K (ρ1.set i (.pl (.int z))) r (km z)) : JB Φ fN J K ρ (.cons (.aug i o e) r) ((m.bind fun y => .ok (o.fn x y)).bind km) := by
  unfold JB
  have e1 : exS Φ fN (.aug i o e) ρ = liftR (ev Φ e ρ1) ρ1 fun d => match d with | .int y => .nx (ρ1.set i (.pl (.int (o.fn x y)))) | _ => .bad := by
    show augF o (ev Φ e) (slx false e) i ρ = _
    unfold augF
    rw [hd, hs] <;> rfl
  rw [x_cons, e1, liftR_bind, liftR_bind, PD.bind_assoc]
  exact J_lift hJ h fun y => hk _
/-- a name known to hold a thing of a kind -/
theorem jb_narrow {en : α → D} [Dc en] {d : D} {R1 : α → En} {km : α → Res M} (hJ : JOk J) (hs : ρ.sl i = .pl d) (hR : ∀ x, R1 x = ρ.set i (.pl (en x))) (hk : ∀ x, JB Φ fN J K (R1 x) r (km x)) : JB Φ fN J K ρ r ((castR en d).bind km) := by
  unfold castR
  cases q : Dc.f en d with
  | some x =>
    have e : d = en x := Dc.h d x q
    have e2 : R1 x = ρ := by
      rw [hR, ← e, ← hs]
      have hi : i < ρ.length := sl_in fun z => by rw [z] at hs; cases hs
      unfold En.sl
      rw [List.getD_eq_getElem?_getD, List.getElem?_eq_getElem hi, Option.getD_some, List.set_getElem_self]
    rw [← e2]
    exact hk x
  | none => exact hJ.bad _
theorem jb_bad (hJ : JOk J) : JB Φ fN J K ρ r .bad := hJ.bad _
theorem jb_pass {m : Res M} (h : JB Φ fN J K ρ r m) : JB Φ fN J K ρ (.cons .pass r) m := h
theorem jb_brk {m : Res M} (h : J (.bk ρ) m) : JB Φ fN J K ρ (.cons .brk r) m := h
theorem jb_cnt {m : Res M} (h : J (.ct ρ) m) : JB Φ fN J K ρ (.cons .cnt r) m := h
theorem jb_fld {nm : Str} {cc : Nat} {fs : List D} {km : α → Res M} (hJ : JOk J) (hd : demE (slx true e) ρ = ρ1) (hs : ρ1.sl i = .mk (.obj cc fs)) (hn : (fN cc)[fs.length]? = some nm) (h : Rf en (ev Φ e ρ1) m) (hk : ∀ x, JB Φ fN J K (ρ1.set i (.mk (.obj cc (fs ++ [en x])))) r (km x)) : JB Φ fN J K ρ (.cons (.fld i nm e) r) (m.bind km) := by
  unfold JB
  rw [x_cons, x_fld, hd, hs]
  dsimp only
  rw [if_pos hn, liftR_bind, liftR_bind]
  exact J_lift hJ h hk
def whlR (c : σ → Res Bool) (f : σ → Res σ) : Nat → σ → Res σ
  | 0, _ => .bad
  | n + 1, s => (c s).bind fun t => if t then (f s).bind (whlR c f n) else .ok s
theorem whlL_fold {g : En → Out} {fc : En → Res Bool} {es : List Nat} {E : σ → En → Prop} {mc : σ → Res Bool} {f : σ → Res σ} (hc : ∀ s ρ, E s ρ → demE es ρ = ρ ∧ Rf id (fc ρ) (mc s)) (hb : ∀ s ρ, E s ρ → LJ E (g ρ) (f s)) : ∀ n s ρ, E s ρ → PJ E (whlL fc es g n ρ) (whlR mc f n s)
  | 0, s, ρ, h => PJ_ok.bad _
  | n + 1, s, ρ, h => by
    obtain ⟨h1, h2⟩ := hc s ρ h
    rw [whlL, whlR, h1]
    refine J_lift PJ_ok h2 fun t => ?_
    cases t with
    | false => exact ⟨fun _ z => by cases z; exact ⟨ρ, rfl, h⟩, fun _ z => (by cases z)⟩
    | true =>
      rw [if_pos rfl, if_pos (show id true = true from rfl)]
      have h3 := hb s ρ h
      cases q : f s with
      | ok s' =>
        obtain ⟨ρ3, h4, h5⟩ := h3.1 s' q
        have ih := whlL_fold hc hb n s' ρ3 h5
        rcases h4 with h4 | h4 <;> (rw [h4]; exact ih)
      | exc c =>
        obtain ⟨ρ3, h4⟩ := h3.2 c q
        rw [h4]; exact PJ_ok.exc c ρ3
      | bad => exact PJ_ok.bad _
theorem jb_whl {c : Ex} {b : Sm} {E : σ → En → Prop} {s0 : σ} {mc : σ → Res Bool} {f : σ → Res σ} {km : σ → Res M} (hJ : JOk J) (h0 : E s0 ρ) (hc : ∀ s ρ, E s ρ → demE (slx false c) ρ = ρ ∧ Rf D.bl (ev Φ c ρ) (mc s)) (hb : ∀ s ρ, E s ρ → JB Φ fN (LJ E) .nx ρ b (f s))
    (hk : ∀ s ρ', E s ρ' → JB Φ fN J K ρ' r (km s)) : JB Φ fN J K ρ (.cons (.whl c b) r) ((whlR mc f 100000 s0).bind km) := by
  unfold JB
  rw [x_cons]
  have h : PJ E (exS Φ fN (.whl c b) ρ) (whlR mc f 100000 s0) := whlL_fold (fun s ρ hE => ⟨(hc s ρ hE).1, (hc s ρ hE).2.asB⟩) (fun s ρ hE => by
    have z := hb s ρ hE
    unfold JB at z
    rw [Out.bind_nx] at z
    exact z) _ s0 ρ h0
  cases q : whlR mc f 100000 s0 with
  | ok s =>
    obtain ⟨ρ', h1, h2⟩ := h.1 s q
    rw [h1]; exact hk s ρ' h2
  | exc c =>
    obtain ⟨ρ', h1⟩ := h.2 c q
    rw [h1]; exact hJ.exc c ρ'
  | bad => exact hJ.bad _
/-- a loop that neither breaks nor returns -/
def foldR (f : σ → α → Res σ) : List α → σ → Res σ
  | [], s => .ok s
  | x :: xs, s => (f s x).bind (foldR f xs)
theorem forL_fold {t : Tg} {g : En → Out} {ea : α → D} {E : σ → En → Prop} {f : σ → α → Res σ} (hb : ∀ s x ρ, E s ρ → ∃ ρ2, bindT t (ea x) ρ = .ok ρ2 ∧ LJ E (g ρ2) (f s x)) : ∀ xs s ρ, E s ρ → PJ E (forL t g ρ (xs.map ea)) (foldR f xs s)
  | [], s, ρ, h => ⟨fun s' z => by cases z; exact ⟨ρ, rfl, h⟩, fun _ z => (by cases z)⟩
  | x :: xs, s, ρ, h => by
    obtain ⟨ρ2, h1, h2⟩ := hb s x ρ h
    rw [List.map_cons, forL, h1, liftR_ok, foldR]
    cases q : f s x with
    | ok s' =>
      obtain ⟨ρ3, h3, h4⟩ := h2.1 s' q
      have ih := forL_fold hb xs s' ρ3 h4
      rcases h3 with h3 | h3 <;> (rw [h3]; exact ih)
    | exc c =>
      obtain ⟨ρ3, h3⟩ := h2.2 c q
      rw [h3]; exact PJ_ok.exc c ρ3
    | bad => exact PJ_ok.bad _
theorem jb_for {ik : IK} {t : Tg} {it : Ex} {b : Sm} {ea : α → D} {E : σ → En → Prop} {s0 : σ} {f : σ → α → Res σ} {mi : Res (List α)} {km : σ → Res M} (hJ : JOk J) (hd : demE (slI ik it) ρ = ρ1) (hi : Rf (List.map ea) (evI Φ ik it ρ1) mi) (h0 : E s0 ρ1)
    (hb : ∀ s x ρ, E s ρ → ∃ ρ2, bindT t (ea x) ρ = .ok ρ2 ∧ JB Φ fN (LJ E) .nx ρ2 b (f s x)) (hk : ∀ s ρ', E s ρ' → JB Φ fN J K ρ' r (km s)) : JB Φ fN J K ρ (.cons (.fors ik t it b) r) (mi.bind fun xs => (foldR f xs s0).bind km) := by
  unfold JB
  rw [x_cons, x_fors, hd, liftR_bind, liftR_bind]
  refine J_lift hJ hi fun xs => ?_
  have h := forL_fold (g := exS Φ fN b) (fun s x ρ hE => by
    obtain ⟨ρ2, h1, h2⟩ := hb s x ρ hE
    unfold JB at h2
    rw [Out.bind_nx] at h2
    exact ⟨ρ2, h1, h2⟩) xs s0 ρ1 h0
  cases q : foldR f xs s0 with
  | ok s =>
    obtain ⟨ρ', h1, h2⟩ := h.1 s q
    rw [h1]; exact hk s ρ' h2
  | exc c =>
    obtain ⟨ρ', h1⟩ := h.2 c q
    rw [h1]; exact hJ.exc c ρ'
  | bad => exact hJ.bad _
/-- a loop that may end early -/
def forC (f : σ → α → Res (Ctl σ R)) : List α → σ → Res (σ ⊕ R)
  | [], s => .ok (.inl s)
  | x :: xs, s => (f s x).bind fun c => match c with
    | .nx s' => forC f xs s'
    | .bk s' => .ok (.inl s')
    | .rt r => .ok (.inr r)
def endC (k : σ → Res M) (kr : R → Res M) (c : σ ⊕ R) : Res M := match c with
  | .inl s => k s
  | .inr r => kr r
@[simp] theorem endC_l {k : σ → Res M} {kr : R → Res M} {s : σ} : endC k kr (.inl s) = k s := rfl
@[simp] theorem endC_r {k : σ → Res M} {kr : R → Res M} {s : R} : endC k kr (.inr s) = kr s := rfl
structure SJ (E : σ → En → Prop) (e : R → D) (o : Out) (m : Res (σ ⊕ R)) : Prop where
  l : ∀ s, m = .ok (.inl s) → ∃ ρ, o = .nx ρ ∧ E s ρ
  r : ∀ r, m = .ok (.inr r) → o = .rt (e r)
  exc : ∀ c, m = .exc c → ∃ ρ, o = .exc c ρ
theorem forL_ctl {t : Tg} {g : En → Out} {ea : α → D} {E : σ → En → Prop} {er : R → D} {f : σ → α → Res (Ctl σ R)} (hb : ∀ s x ρ, E s ρ → ∃ ρ2, bindT t (ea x) ρ = .ok ρ2 ∧ CJ E er (g ρ2) (f s x)) : ∀ xs s ρ, E s ρ → SJ E er (forL t g ρ (xs.map ea)) (forC f xs s)
  | [], s, ρ, h => ⟨fun s' z => by cases z; exact ⟨ρ, rfl, h⟩, fun _ z => (by cases z), fun _ z => (by cases z)⟩
  | x :: xs, s, ρ, h => by
    obtain ⟨ρ2, h1, h2⟩ := hb s x ρ h
    rw [List.map_cons, forL, h1, liftR_ok, forC]
    cases q : f s x with
    | ok c =>
      cases c with
      | nx s' =>
        obtain ⟨ρ3, h3, h4⟩ := h2.nx s' q
        have ih := forL_ctl hb xs s' ρ3 h4
        rcases h3 with h3 | h3 <;> (rw [h3]; exact ih)
      | bk s' =>
        obtain ⟨ρ3, h3, h4⟩ := h2.bk s' q
        rw [h3]; exact ⟨fun _ z => by cases z; exact ⟨ρ3, rfl, h4⟩, fun _ z => (by cases z), fun _ z => (by cases z)⟩
      | rt r =>
        rw [h2.rt r q]; exact ⟨fun _ z => (by cases z), fun _ z => by cases z; rfl, fun _ z => (by cases z)⟩
    | exc c =>
      obtain ⟨ρ3, h3⟩ := h2.exc c q
      rw [h3]; exact ⟨fun _ z => (by cases z), fun _ z => (by cases z), fun _ z => by cases z; exact ⟨ρ3, rfl⟩⟩
    | bad => exact ⟨fun _ z => (by cases z), fun _ z => (by cases z), fun _ z => (by cases z)⟩
theorem jb_forC {ik : IK} {t : Tg} {it : Ex} {b : Sm} {ea : α → D} {er : R → D} {E : σ → En → Prop} {s0 : σ} {f : σ → α → Res (Ctl σ R)} {mi : Res (List α)} {km : σ → Res M} {kr : R → Res M} (hJ : JOk J) (hd : demE (slI ik it) ρ = ρ1) (hi : Rf (List.map ea) (evI Φ ik it ρ1) mi) (h0 : E s0 ρ1)
    (hb : ∀ s x ρ, E s ρ → ∃ ρ2, bindT t (ea x) ρ = .ok ρ2 ∧ JB Φ fN (CJ E er) .nx ρ2 b (f s x)) (hr : ∀ x, J (.rt (er x)) (kr x)) (hk : ∀ s ρ', E s ρ' → JB Φ fN J K ρ' r (km s)) : JB Φ fN J K ρ (.cons (.fors ik t it b) r) (mi.bind fun xs => (forC f xs s0).bind (endC km kr)) := by
  unfold JB
  rw [x_cons, x_fors, hd, liftR_bind, liftR_bind]
  refine J_lift hJ hi fun xs => ?_
  have h := forL_ctl (g := exS Φ fN b) (er := er) (fun s x ρ hE => by
    obtain ⟨ρ2, h1, h2⟩ := hb s x ρ hE
    unfold JB at h2
    rw [Out.bind_nx] at h2
    exact ⟨ρ2, h1, h2⟩) xs s0 ρ1 h0
  cases q : forC f xs s0 with
  | ok c =>
    cases c with
    | inl s =>
      obtain ⟨ρ', h1, h2⟩ := h.l s q
      rw [h1]; exact hk s ρ' h2
    | inr x => rw [h.r x q]; exact hr x
  | exc c =>
    obtain ⟨ρ', h1⟩ := h.exc c q
    rw [h1]; exact hJ.exc c ρ'
  | bad => exact hJ.bad _
/-! try -/
theorem SJ_ok {E : σ → En → Prop} {e : R → D} : JOk (SJ E e) := ⟨fun c ρ => ⟨fun _ z => (by cases z), fun _ z => (by cases z), fun _ z => by cases z; exact ⟨_, rfl⟩⟩, fun _ => ⟨fun _ z => (by cases z), fun _ z => (by cases z), fun _ z => (by cases z)⟩⟩
theorem SJ_nx {E : σ → En → Prop} {e : R → D} {s : σ} {ρ : En} (h : E s ρ) : SJ E e (.nx ρ) (.ok (.inl s)) := ⟨fun _ z => by cases z; exact ⟨ρ, rfl, h⟩, fun _ z => (by cases z), fun _ z => (by cases z)⟩
theorem SJ_rt {E : σ → En → Prop} {e : R → D} {x : R} : SJ E e (.rt (e x)) (.ok (.inr x)) := ⟨fun _ z => (by cases z), fun _ z => by cases z; rfl, fun _ z => (by cases z)⟩
def tryR (n : Nat) (m : Res (σ ⊕ R)) (k : σ → Res M) (kr : R → Res M) (h : Nat → Res M) : Res M := match m with
  | .ok (.inl s) => k s
  | .ok (.inr x) => kr x
  | .exc c => if c < n then h c else .bad
  | .bad => .bad
@[simp] theorem tryR_l {n : Nat} {k : σ → Res M} {kr : R → Res M} {h : Nat → Res M} {s : σ} : tryR n (.ok (.inl s)) k kr h = k s := rfl
@[simp] theorem tryR_r {n : Nat} {k : σ → Res M} {kr : R → Res M} {h : Nat → Res M} {x : R} : tryR n (.ok (.inr x)) k kr h = kr x := rfl
@[simp] theorem tryR_e {n c : Nat} {k : σ → Res M} {kr : R → Res M} {h : Nat → Res M} : tryR n (.exc c) k kr h = if c < n then h c else .bad := rfl
def HB (Φ : Fs) (fN : Nat → List Str) (J : Out → Res M → Prop) (K : En → Out) (ρ : En) (r : Sm) (hs : List (Nat × Hb)) (h : Nat → Res M) : Prop := ∀ c ρ', J (((hdsF c (.exc c ρ') ρ (hs.map fun p => (p.1, exH Φ p.2))).bind (exS Φ fN r)).bind K) (h c)
theorem hb_nil (hJ : JOk J) : HB Φ fN J K ρ r [] fun c => .exc c := fun c ρ' => hJ.exc c ρ'
theorem exH_sm {x : Hb} : exH Φ x = exS Φ fN x.sm := by cases x <;> rfl
theorem hb_cons {c0 : Nat} {x : Hb} {hs : List (Nat × Hb)} {m : Res M} {h : Nat → Res M} (h1 : JB Φ fN J (fun ρ' => (exS Φ fN r ρ').bind K) ρ x.sm m) (h2 : HB Φ fN J K ρ r hs h) : HB Φ fN J K ρ r ((c0, x) :: hs) fun c => if c = c0 then m else h c := by
  intro c ρ'
  show J (((if c = c0 then exH Φ x ρ else hdsF c (.exc c ρ') ρ (hs.map fun p => (p.1, exH Φ p.2))).bind (exS Φ fN r)).bind K) (if c = c0 then m else h c)
  by_cases e : c = c0
  · rw [if_pos e, if_pos e, exH_sm (fN := fN), Out.bind_assoc]; exact h1
  · rw [if_neg e, if_neg e]; exact h2 c ρ'
theorem jb_tr {n : Nat} {Ms : List Nat} {b : Sm} {hs : List (Nat × Hb)} {E : σ → En → Prop} {er : R → D} {ρw : En} {mb : Res (σ ⊕ R)} {km : σ → Res M} {kr : R → Res M} {h : Nat → Res M} (hJ : JOk J) (hw : wipe Ms ρ = ρw) (hb : JB Φ fN (SJ E er) .nx ρ b mb) (hr : ∀ x, J (.rt (er x)) (kr x))
    (hk : ∀ s ρ', E s ρ' → JB Φ fN J K ρ' r (km s)) (hh : HB Φ fN J K ρw r hs h) : JB Φ fN J K ρ (.cons (.tr n Ms b hs) r) (tryR n mb km kr h) := by
  unfold JB at hb ⊢
  rw [Out.bind_nx] at hb
  rw [x_cons]
  show J (((match exS Φ fN b ρ with
    | .exc c ρ' => if c < n then hdsF c (.exc c ρ') (wipe Ms ρ) (hs.map fun p : Nat × Hb => (p.1, exH Φ p.2)) else .bad
    | o => o).bind (exS Φ fN r)).bind K) _
  rw [hw]
  cases q : mb with
  | ok c =>
    cases c with
    | inl s =>
      obtain ⟨ρ', h1, h2⟩ := hb.l s q
      rw [h1]; exact hk s ρ' h2
    | inr x => rw [hb.r x q]; exact hr x
  | exc c =>
    obtain ⟨ρ', h1⟩ := hb.exc c q
    rw [h1, tryR_e]
    dsimp only
    by_cases hc : c < n
    · rw [if_pos hc, if_pos hc]; exact hh c ρ'
    · rw [if_neg hc, if_neg hc]; exact hJ.bad _
  | bad => exact hJ.bad _
end
end
end PD
namespace PD
open PySem PySem.Spec PySem.W PyProof.Rows
section
variable {M α β γ σ R : Type}
theorem BJ_rt {e : α → D} {x : α} : BJ e (.rt (e x)) (.ok x) := Rf.of rfl
theorem BJ_nx {ρ : En} : BJ eUn (.nx ρ) (.ok ()) := Rf.of rfl
theorem BJ_rtN : BJ eUn (.rt .non) (.ok ()) := Rf.of rfl
theorem PJ_nx {E : σ → En → Prop} {s : σ} {ρ : En} (h : E s ρ) : PJ E (.nx ρ) (.ok s) := ⟨fun _ z => by cases z; exact ⟨ρ, rfl, h⟩, fun _ z => (by cases z)⟩
theorem LJ_nx {E : σ → En → Prop} {s : σ} {ρ : En} (h : E s ρ) : LJ E (.nx ρ) (.ok s) := ⟨fun _ z => by cases z; exact ⟨ρ, .inl rfl, h⟩, fun _ z => (by cases z)⟩
theorem LJ_ct {E : σ → En → Prop} {s : σ} {ρ : En} (h : E s ρ) : LJ E (.ct ρ) (.ok s) := ⟨fun _ z => by cases z; exact ⟨ρ, .inr rfl, h⟩, fun _ z => (by cases z)⟩
theorem CJ_nx {E : σ → En → Prop} {e : R → D} {s : σ} {ρ : En} (h : E s ρ) : CJ E e (.nx ρ) (.ok (.nx s)) := ⟨fun _ z => by cases z; exact ⟨ρ, .inl rfl, h⟩, fun _ z => (by cases z), fun _ z => (by cases z), fun _ z => (by cases z)⟩
theorem CJ_ct {E : σ → En → Prop} {e : R → D} {s : σ} {ρ : En} (h : E s ρ) : CJ E e (.ct ρ) (.ok (.nx s)) := ⟨fun _ z => by cases z; exact ⟨ρ, .inr rfl, h⟩, fun _ z => (by cases z), fun _ z => (by cases z), fun _ z => (by cases z)⟩
theorem CJ_bk {E : σ → En → Prop} {e : R → D} {s : σ} {ρ : En} (h : E s ρ) : CJ E e (.bk ρ) (.ok (.bk s)) := ⟨fun _ z => (by cases z), fun _ z => by cases z; exact ⟨ρ, rfl, h⟩, fun _ z => (by cases z), fun _ z => (by cases z)⟩
theorem CJ_rt {E : σ → En → Prop} {e : R → D} {x : R} : CJ E e (.rt (e x)) (.ok (.rt x)) := ⟨fun _ z => (by cases z), fun _ z => (by cases z), fun _ z => by cases z; rfl, fun _ z => (by cases z)⟩
theorem L_re {β' : Type} {e : α → β'} {e' : β → β'} {f : α → β} {r : Res β'} {m : Res α} (hf : ∀ x, e x = e' (f x)) (h : Rf e r m) : Rf e' r (m.bind fun x => .ok (f x)) := h.to fun x => .of (congrArg Res.ok (hf x))
end
/-- tasks as plain data -/
structure Tk where
  book : Bk
  cantus : List Int
  ratio : Int
  above : Bool
def Tk.fs (t : Tk) : List D := [eC 0 Bk.fs t.book, eT D.int t.cantus, .int t.ratio, .bl t.above]
/-! back from instances -/
instance : Dc (eO D.int) where
  f := fun d => match d with | .non => some none | .int i => some (some i) | _ => none
  h := by intro d x h; cases d <;> first | (cases h; rfl) | cases h
  g := fun x => by cases x <;> rfl
abbrev DcA.of {α β : Type} {f : α → List D} (g : β → List D) [i : DcA g] (to : α → β) (fro : β → α) (h1 : ∀ a, fro (to a) = a) (h2 : ∀ b, to (fro b) = b) (h3 : ∀ a, f a = g (to a)) : DcA f where
  f := fun ds => (i.f ds).map fro
  h := by
    intro ds x h
    cases q : i.f ds with
    | none => rw [q] at h; cases h
    | some y =>
      rw [q] at h
      cases h
      rw [h3, h2]; exact i.h _ _ q
  g := fun x => by rw [h3, i.g]; exact congrArg some (h1 x)
instance : DcA Bk.fs := DcA.of (cA (eT D.int) (cA D.int (cA D.int (cA (eT (eP (cA D.int (oA D.int)))) (cA (eT (eP (cA D.int (oA D.int)))) (cA (eT (eP (cA D.int (oA D.int)))) (oA (eO D.int))))))))
  (fun b => (b.mode, b.low, b.high, b.leaps, b.sweet, b.perfect, b.turn)) (fun p => ⟨p.1, p.2.1, p.2.2.1, p.2.2.2.1, p.2.2.2.2.1, p.2.2.2.2.2.1, p.2.2.2.2.2.2⟩) (fun _ => rfl) (fun _ => rfl) fun _ => rfl
instance : DcA Tk.fs := DcA.of (cA (eC 0 Bk.fs) (cA (eT D.int) (cA D.int (oA D.bl))))
  (fun b => (b.book, b.cantus, b.ratio, b.above)) (fun p => ⟨p.1, p.2.1, p.2.2.1, p.2.2.2⟩) (fun _ => rfl) (fun _ => rfl) fun _ => rfl
end PD
/-! Plain: tasks and their faults; what typed loops and lists tell. -/
namespace PD
open PySem PySem.Spec PySem.W PyProof.Rows
theorem atR_nat {α : Type} {xs : List α} {i : Int} {x : α} (h0 : 0 ≤ i) (h1 : i < xs.length) (h : xs[i.toNat]? = some x) : atR xs i = .ok x := by
  unfold atR; rw [atI_nat h0 h1, h]; rfl
theorem atR_I {xs : List Int} {i : Int} (h0 : 0 ≤ i) (h1 : i < xs.length) : atR xs i = .ok (atZ xs i) :=
  atR_nat h0 h1 (by rw [List.getElem?_eq_getElem (show i.toNat < xs.length by omega)]; simp [atZ, List.getD_eq_getElem?_getD, List.getElem?_eq_getElem (show i.toNat < xs.length by omega)])
theorem atR_last {α : Type} {xs : List α} {x : α} : atR (xs ++ [x]) (-1) = .ok x := by
  unfold atR L2.atI L2.ixN
  rw [if_neg (by decide), if_pos (by rw [List.length_append, List.length_singleton]; omega)]
  have e : ((-1 : Int) + ((xs ++ [x]).length : Nat)).toNat = xs.length := by rw [List.length_append, List.length_singleton]; omega
  show ofO ((some _ : Option Nat).bind _) = _
  rw [Option.bind_some, e, List.getElem?_concat_length]
  rfl
theorem foldR_inv {σ α : Type} {f : σ → α → Res σ} {I : Nat → σ → Prop} : ∀ {xs : List α} {s : σ}, (∀ i x s, xs[i]? = some x → I i s → ∃ s', f s x = .ok s' ∧ I (i + 1) s') → I 0 s → ∃ s', foldR f xs s = .ok s' ∧ I xs.length s'
  | [], s, _, h => ⟨s, rfl, h⟩
  | x :: xs, s, st, h => by
    obtain ⟨s1, h1, h2⟩ := st 0 x s rfl h
    obtain ⟨s', h3, h4⟩ := foldR_inv (xs := xs) (I := fun i => I (i + 1)) (fun i y s hy hI => st (i + 1) y s (by simpa using hy) hI) h2
    refine ⟨s', ?_, h4⟩
    rw [foldR, h1]; exact h3
theorem foldR_eq {σ α : Type} {f : σ → α → Res σ} {g : Nat → σ} {xs : List α} (h : ∀ i x, xs[i]? = some x → f (g i) x = .ok (g (i + 1))) : foldR f xs (g 0) = .ok (g xs.length) := by
  obtain ⟨s', h1, h2⟩ := foldR_inv (f := f) (I := fun i s => s = g i) (xs := xs) (fun i x s hx hs => ⟨g (i + 1), by rw [hs]; exact h i x hx, rfl⟩) rfl
  rw [h1, h2]
/-- a loop without memory of its place: a plain fold -/
theorem foldR_pure {σ α : Type} {f : σ → α → Res σ} {g : σ → α → σ} : ∀ {xs : List α} {s : σ} (I : σ → Prop), (∀ x ∈ xs, ∀ s, I s → f s x = .ok (g s x) ∧ I (g s x)) → I s → foldR f xs s = .ok (xs.foldl g s) ∧ I (xs.foldl g s)
  | [], s, I, _, h => ⟨rfl, h⟩
  | x :: xs, s, I, st, h => by
    obtain ⟨h1, h2⟩ := st x List.mem_cons_self s h
    rw [foldR, h1]
    exact foldR_pure (xs := xs) I (fun y hy => st y (List.mem_cons_of_mem _ hy)) h2
theorem appR_tag {α : Type} {xs : List α} {x : α} {t : Bool} (h : xs.length ≤ 1000000) : (if t = true then appR xs x else .ok xs) = .ok (xs ++ if t then [x] else []) := by
  cases t with
  | true => rw [if_pos rfl, if_pos rfl, appR_ok (by omega)]
  | false => rw [if_neg Bool.false_ne_true, if_neg Bool.false_ne_true, List.append_nil]
@[simp] theorem szR_nil {α : Type} : szR ([] : List α) = .ok [] := szR_ok (by simp)
@[simp] theorem szR_1 {α : Type} {a : α} : szR [a] = .ok [a] := szR_ok (by simp)
@[simp] theorem szR_2 {α : Type} {a b : α} : szR [a, b] = .ok [a, b] := szR_ok (by simp)
@[simp] theorem szR_3 {α : Type} {a b c : α} : szR [a, b, c] = .ok [a, b, c] := szR_ok (by simp)
@[simp] theorem bind_bad' {α β : Type} {k : α → Res β} : (Res.bad : Res α).bind k = .bad := rfl
/-! tasks -/
/-- a book that can be reckoned with -/
structure Bk.Fit (b : Bk) : Prop where
  len : b.mode.length = 7
  low : -150 ≤ b.low ∧ b.low ≤ 150
  high : b.low ≤ b.high + 1 ∧ b.high ≤ b.low + 24
  turn : b.turn = none ∨ ∃ i, b.turn = some i ∧ 2 ≤ i ∧ i ≤ 1000
theorem Bk.Ok.fit {b : Bk} (h : b.Ok) : b.Fit := ⟨h.len, by have := h.low; omega, by have := h.high; omega, h.turn.imp id fun ⟨i, a, b, c⟩ => ⟨i, a, b, by omega⟩⟩
namespace Tk
def size (t : Tk) : Int := t.ratio * ((t.cantus.length : Int) - 1) + 1
def und (t : Tk) (p : Int) : Int := atZ t.cantus (p / t.ratio)
def strong (t : Tk) (p : Int) : Bool := decide (p % t.ratio = 0)
def pr (t : Tk) (p n : Int) : Int × Int := if t.above = true then (t.und p, n) else (n, t.und p)
def sw (t : Tk) (p n : Int) : Bool := sweetB t.book (t.pr p n).1 (t.pr p n).2
def pf (t : Tk) (p n : Int) : Bool := perfB t.book (t.pr p n).1 (t.pr p n).2
def iv (t : Tk) (p n : Int) : Int × Int := ivP t.book.mode (t.pr p n).1 (t.pr p n).2
def alone (t : Tk) (p n : Int) : List Str := tag (!inRngB t.book n) "range" ++ (tag (decide ((t.pr p n).2 < (t.pr p n).1)) "cross" ++ (tag (t.strong p && !t.sw p n) "rough" ++ tag ((decide (p = 0) || decide (p = t.size - 1)) && !t.pf p n) "end"))
def alike (t : Tk) (p l n : Int) : Bool := decide (0 < (n - l) * (t.und p - t.und (p - 1)))
def both (t : Tk) (p l n : Int) : Bool := t.strong p && (t.pf p n && t.alike p l n)
def together (t : Tk) (p l n : Int) : List Str := tag (!goesB t.book l n) "leap" ++ (tag (t.both p l n && decide (t.iv (p - 1) l = t.iv p n)) "parallel" ++ (tag (t.both p l n && (!decide (t.iv (p - 1) l = t.iv p n) && decide (1 < ab (n - l)))) "direct" ++ tag (decide (p = t.size - 1) && !decide (ab (n - l) = 1)) "close"))
def passes (x y z : Int) : Bool := decide (ab (y - x) = 1) && decide (z - y = y - x)
/-- told of the place p of y -/
def three (t : Tk) (p x y z : Int) : List Str := tag (!trnP t.book.turn x y z) "turn" ++ tag (!t.strong p && (!t.sw p y && !passes x y z)) "loose"
structure Ok (t : Tk) : Prop where
  book : t.book.Fit
  near : Near t.cantus
  len : 2 ≤ t.cantus.length ∧ t.cantus.length ≤ 16
  ratio : 1 ≤ t.ratio ∧ t.ratio ≤ 4
theorem Ok.size_le {t : Tk} (h : t.Ok) : 2 ≤ t.size ∧ t.size ≤ 61 := by
  have h1 := h.len
  have h2 := h.ratio
  unfold size
  have : t.ratio = 1 ∨ t.ratio = 2 ∨ t.ratio = 3 ∨ t.ratio = 4 := by omega
  rcases this with e | e | e | e <;> rw [e] <;> omega
theorem Ok.plc {t : Tk} (h : t.Ok) {p : Int} (h0 : 0 ≤ p) (h1 : p < t.size) : 0 ≤ p / t.ratio ∧ p / t.ratio < t.cantus.length := by
  have h2 := h.len
  have h3 := h.ratio
  unfold size at h1
  have : t.ratio = 1 ∨ t.ratio = 2 ∨ t.ratio = 3 ∨ t.ratio = 4 := by omega
  rcases this with e | e | e | e <;> rw [e] at h1 ⊢ <;> omega
theorem Ok.und_near {t : Tk} (h : t.Ok) {p : Int} (h0 : 0 ≤ p) (h1 : p < t.size) : -199 ≤ t.und p ∧ t.und p ≤ 199 := h.near.at (h.plc h0 h1).1 (h.plc h0 h1).2
/-- the faults at a place of a line -/
def nm (t : Tk) (xs : List Int) (k : Nat) : List Str := t.alone k (atZ xs k) ++ ((if 0 < k then t.together k (atZ xs (k - 1)) (atZ xs k) else []) ++ if 0 < k ∧ k + 1 < xs.length then t.three k (atZ xs (k - 1)) (atZ xs k) (atZ xs (k + 1)) else [])
def flts (t : Tk) (xs : List Int) : List (Int × Str) := rows (t.nm xs) xs.length
end Tk
theorem tag_nil {t : Bool} {x : Str} : tag t x = [] ↔ t = false := by cases t <;> simp [tag]
theorem alone_len {t : Tk} {p n : Int} : (t.alone p n).length ≤ 4 := by
  unfold Tk.alone
  simp only [List.length_append]
  have := @tag_len
  have a := @this (!inRngB t.book n) "range"
  have b := @this (decide ((t.pr p n).2 < (t.pr p n).1)) "cross"
  have c := @this (t.strong p && !t.sw p n) "rough"
  have d := @this ((decide (p = 0) || decide (p = t.size - 1)) && !t.pf p n) "end"
  omega
theorem together_len {t : Tk} {p l n : Int} : (t.together p l n).length ≤ 4 := by
  unfold Tk.together
  simp only [List.length_append]
  have := @tag_len
  have a := @this (!goesB t.book l n) "leap"
  have b := @this (t.both p l n && decide (t.iv (p - 1) l = t.iv p n)) "parallel"
  have c := @this (t.both p l n && (!decide (t.iv (p - 1) l = t.iv p n) && decide (1 < ab (n - l)))) "direct"
  have d := @this (decide (p = t.size - 1) && !decide (ab (n - l) = 1)) "close"
  omega
theorem three_len {t : Tk} {p x y z : Int} : (t.three p x y z).length ≤ 2 := by
  unfold Tk.three
  simp only [List.length_append]
  have := @tag_len
  have a := @this (!trnP t.book.turn x y z) "turn"
  have b := @this (!t.strong p && (!t.sw p y && !Tk.passes x y z)) "loose"
  omega
theorem nm_len {t : Tk} {xs : List Int} {k : Nat} : (t.nm xs k).length ≤ 10 := by
  unfold Tk.nm
  simp only [List.length_append]
  have a := @alone_len t k (atZ xs k)
  have b := @together_len t k (atZ xs (k - 1)) (atZ xs k)
  have c := @three_len t k (atZ xs (k - 1)) (atZ xs k) (atZ xs (k + 1))
  split <;> split <;> (try simp only [List.length_nil]) <;> omega
end PD
namespace PD
open PySem PySem.Spec PySem.W PyProof.Rows
theorem bnd {α β : Type} {m : Res α} {k : α → Res β} {o : Res β} {x : α} (h : m = .ok x) (h2 : k x = o) : m.bind k = o := by rw [h]; exact h2
theorem qnR_allT {α : Type} {mf : α → Res Bool} {xs : List α} (h : ∀ x ∈ xs, mf x = .ok true) : qnR false mf xs = .ok true := by
  rw [qnR_all (f := fun _ => true) h]
  congr 1
  rw [List.all_eq_true]; exact fun _ _ => rfl
theorem foldR_to {σ α : Type} {f : σ → α → Res σ} {xs : List α} {s : σ} (g : Nat → σ) (h0 : g 0 = s) (h : ∀ i x, xs[i]? = some x → f (g i) x = .ok (g (i + 1))) : foldR f xs s = .ok (g xs.length) := by
  rw [← h0]; exact foldR_eq h
theorem rows_lcR {p : Int} {ys : List Str} {mf : Str → Res (Int × Str)} (h : ∀ y ∈ ys, mf y = .ok (p, y)) (hl : ys.length ≤ 1000) : (lcR (fun _ => .ok true) mf ys).bind szR = .ok (ys.map fun y => (p, y)) := by
  rw [lcR_map h, Res.bind_ok]
  exact szR_ok (by rw [List.length_map]; omega)
end PD
namespace PD
open PySem PySem.Spec PySem.W PyProof.Rows
theorem rng1N {n : Nat} (h : n ≤ 1000000) : rng1R (n : Int) = .ok (rangeI 0 n) := by rw [rng1R_ok (by omega), Int.toNat_natCast]
theorem rngLen {α : Type} {xs : List α} (h : xs.length ≤ 1000000) : ((Res.ok xs).bind lenG).bind rng1R = .ok (rangeI 0 xs.length) := by
  rw [Res.bind_ok, lenG_eq, Res.bind_ok, rng1N h]
end PD
namespace PD
open PySem PySem.Spec PySem.W PyProof.Rows
theorem inG_PP (x : Int × Int) (y : List (Int × Int)) : inG x y = .ok (decide (x ∈ y)) := by
  unfold inG
  congr 1
  exact decide_eq_decide.mpr Iff.rfl
theorem ninG_PP (x : Int × Int) (y : List (Int × Int)) : ninG x y = .ok (!decide (x ∈ y)) := by
  unfold ninG
  congr 2
  exact decide_eq_decide.mpr Iff.rfl
end PD
namespace PD
open PySem PySem.Spec PySem.W PyProof.Rows
theorem sIx_some {n d : Nat} {i : Int} (h : 0 ≤ i) : HT.sIx n d (some i) = min i.toNat n := by
  show (if i < 0 then (i + (n : Int)).toNat else min i.toNat n) = _
  rw [if_neg (by omega)]
theorem cut_from {α : Type} {xs : List α} {i : Int} (h : 0 ≤ i) : cutD xs (some i) none = xs.drop i.toNat := by
  unfold cutD
  rw [HT.sIx_none, sIx_some h, List.take_of_length_le (by rw [List.length_drop]; omega)]
  by_cases h2 : i ≤ xs.length
  · congr 1; omega
  · rw [List.drop_of_length_le (by omega), List.drop_of_length_le (by omega)]
theorem cut_to {α : Type} {xs : List α} {i : Int} (h : 0 ≤ i) : cutD xs none (some i) = xs.take i.toNat := by
  unfold cutD
  rw [HT.sIx_none, sIx_some h, List.drop_zero, Nat.sub_zero]
  by_cases h2 : i ≤ xs.length
  · congr 1; omega
  · rw [List.take_of_length_le (by omega), List.take_of_length_le (by omega)]
/-- the last of a list -/
theorem atR_end {α : Type} {xs : List α} (h : xs ≠ []) : atR xs (-1) = .ok (xs.getLast h) := by
  obtain ⟨ys, y, rfl⟩ : ∃ ys y, xs = ys ++ [y] := ⟨xs.dropLast, xs.getLast h, (List.dropLast_concat_getLast h).symm⟩
  rw [atR_last, List.getLast_concat]
theorem atR_mem {α : Type} {xs : List α} {i : Int} (h0 : 0 ≤ i) (h1 : i < xs.length) : ∃ x, x ∈ xs ∧ atR xs i = .ok x ∧ xs[i.toNat]? = some x := by
  have hl : i.toNat < xs.length := by omega
  exact ⟨xs[i.toNat], List.getElem_mem hl, atR_nat h0 h1 (List.getElem?_eq_getElem hl), List.getElem?_eq_getElem hl⟩
end PD
namespace PD
open PySem PySem.Spec PySem.W PyProof.Rows
theorem exb {α β : Type} {P : β → Prop} {m : Res α} {k : α → Res β} {x : α} (h : m = .ok x) (h2 : ∃ y, P y ∧ k x = .ok y) : ∃ y, P y ∧ m.bind k = .ok y := by rw [h]; exact h2
end PD
namespace PD
open PySem PySem.Spec PySem.W PyProof.Rows
theorem eqG_PP (x y : Int × Int) : eqG x y = .ok (decide (x = y)) := by
  unfold eqG
  congr 1
end PD
/-! Plain: beginnings without a fault, layer by layer. -/
namespace PD
open PySem PySem.Spec PySem.W PyProof.Rows
theorem forC_run {σ α R : Type} {f : σ → α → Res (Ctl σ R)} {r : R} : ∀ {xs : List α} {s : σ} (g : Nat → σ) (c : Nat → Bool), g 0 = s → (∀ i x, xs[i]? = some x → (∀ j, j < i → c j = false) → (c i = false → f (g i) x = .ok (.nx (g (i + 1)))) ∧ (c i = true → f (g i) x = .ok (.rt r))) →
    forC f xs s = .ok (if (List.range xs.length).any c then .inr r else .inl (g xs.length))
  | [], s, g, c, h0, _ => by rw [← h0]; rfl
  | x :: xs, s, g, c, h0, h => by
    obtain ⟨h1, h2⟩ := h 0 x rfl (fun j hj => absurd hj (Nat.not_lt_zero j))
    rw [forC, ← h0, List.length_cons, List.range_succ_eq_map, List.any_cons]
    cases q : c 0 with
    | true => rw [h2 q]; simp
    | false =>
      rw [h1 q, Res.bind_ok]
      have ih := forC_run (f := f) (r := r) (xs := xs) (fun i => g (i + 1)) (fun i => c (i + 1)) rfl fun i y hy hj => h (i + 1) y (by simpa using hy) fun j hj' => by
        cases j with
        | zero => exact q
        | succ j => exact hj j (by omega)
      dsimp only
      rw [ih, Bool.false_or, List.any_map]
      rfl
theorem forC_run1 {σ α R : Type} {f : σ → α → Res (Ctl σ R)} {r : R} {xs : List α} {s : σ} (g : Nat → σ) (c : Nat → Bool) (h0 : g 0 = s) (h : ∀ i x, xs[i]? = some x → (∀ j, j < i → c j = false) → f (g i) x = .ok (if c i = true then .rt r else .nx (g (i + 1)))) : forC f xs s = .ok (if (List.range xs.length).any c then .inr r else .inl (g xs.length)) :=
  forC_run g c h0 fun i x hx hj => ⟨fun hc => by rw [h i x hx hj, hc]; rfl, fun hc => by rw [h i x hx hj, hc]; rfl⟩
/-- a loop that searches: it returns at the first that is met, and changes nothing -/
theorem forC_find {σ α R : Type} {f : σ → α → Res (Ctl σ R)} {r : R} {s : σ} {c : α → Bool} : ∀ {xs : List α}, (∀ x ∈ xs, (c x = false → f s x = .ok (.nx s)) ∧ (c x = true → f s x = .ok (.rt r))) → forC f xs s = .ok (if xs.any c then .inr r else .inl s)
  | [], _ => rfl
  | x :: xs, h => by
    obtain ⟨h1, h2⟩ := h x List.mem_cons_self
    rw [forC, List.any_cons]
    cases q : c x with
    | true => rw [h2 q]; simp
    | false =>
      rw [h1 q, Res.bind_ok]
      dsimp only
      rw [forC_find (xs := xs) fun y hy => h y (List.mem_cons_of_mem _ hy), Bool.false_or]
/-- a loop that gathers lists -/
theorem foldR_flat {α β : Type} {f : List β → α → Res (List β)} {g : α → List β} {w n : Nat} : ∀ {xs : List α} {acc : List β}, (∀ x ∈ xs, ∀ acc : List β, acc.length ≤ n → f acc x = .ok (acc ++ g x)) → (∀ x ∈ xs, (g x).length ≤ w) → acc.length + w * xs.length ≤ n → foldR f xs acc = .ok (acc ++ xs.flatMap g)
  | [], acc, _, _, _ => by rw [List.flatMap_nil, List.append_nil]; rfl
  | x :: xs, acc, h, hw, hn => by
    have h1 := h x List.mem_cons_self acc (by omega)
    have h2 := hw x List.mem_cons_self
    rw [List.length_cons, Nat.mul_succ] at hn
    rw [foldR, h1, Res.bind_ok, foldR_flat (xs := xs) (fun y hy => h y (List.mem_cons_of_mem _ hy)) (fun y hy => hw y (List.mem_cons_of_mem _ hy)) (by rw [List.length_append]; omega), List.flatMap_cons, List.append_assoc]
theorem flatMap_len {α β : Type} {g : α → List β} {w : Nat} : ∀ {xs : List α}, (∀ x ∈ xs, (g x).length ≤ w) → (xs.flatMap g).length ≤ w * xs.length
  | [], _ => by simp
  | x :: xs, h => by
    have h1 := h x List.mem_cons_self
    have h2 := flatMap_len (xs := xs) fun y hy => h y (List.mem_cons_of_mem _ hy)
    rw [List.flatMap_cons, List.length_append, List.length_cons, Nat.mul_succ]
    omega
theorem atZ_app_lt {xs ys : List Int} {i : Int} (h0 : 0 ≤ i) (h : i < xs.length) : atZ (xs ++ ys) i = atZ xs i := by
  unfold atZ
  rw [List.getD_eq_getElem?_getD, List.getD_eq_getElem?_getD, List.getElem?_append_left (by omega)]
theorem atZ_app_at {xs : List Int} {x : Int} : atZ (xs ++ [x]) xs.length = x := by
  unfold atZ
  rw [List.getD_eq_getElem?_getD, Int.toNat_natCast, List.getElem?_concat_length]
  rfl
namespace Tk
def notes (t : Tk) : List Int := rangeI t.book.low (t.book.high + 1 - t.book.low).toNat
theorem mem_notes {t : Tk} {n : Int} : n ∈ t.notes ↔ t.book.low ≤ n ∧ n ≤ t.book.high := by
  unfold notes
  rw [mem_rangeI]
  omega
theorem notes_len {t : Tk} (h : t.Ok) : t.notes.length ≤ 25 := by
  unfold notes
  rw [len_rangeI]
  have := h.book.high
  omega
def good (t : Tk) (xs : List Int) : Bool := decide (t.alone ((xs.length : Int) - 1) (atZ xs ((xs.length : Int) - 1)) = []) && ((decide (xs.length ≤ 1) || decide (t.together ((xs.length : Int) - 1) (atZ xs ((xs.length : Int) - 2)) (atZ xs ((xs.length : Int) - 1)) = [])) && (decide (xs.length ≤ 2) || decide (t.three ((xs.length : Int) - 2) (atZ xs ((xs.length : Int) - 3)) (atZ xs ((xs.length : Int) - 2)) (atZ xs ((xs.length : Int) - 1)) = [])))
def ext (t : Tk) (xs : List Int) : List (List Int) := (t.notes.filter fun n => t.good (xs ++ [n])).map fun n => xs ++ [n]
def grow (t : Tk) (ls : List (List Int)) : List (List Int) := ls.flatMap t.ext
def lay (t : Tk) : Nat → List (List Int)
  | 0 => [[]]
  | k + 1 => t.grow (t.lay k)
def few (t : Tk) (most : Nat) : Bool := (List.range t.size.toNat).all fun k => decide ((t.lay (k + 1)).length ≤ most)
def lays (t : Tk) : List (List (List Int)) := (List.range t.size.toNat).map fun k => t.lay (k + 1)
def all (t : Tk) (most : Nat) : Option (List (List (List Int))) := if t.few most = true then some t.lays else none
theorem ext_len {t : Tk} (h : t.Ok) {xs : List Int} : (t.ext xs).length ≤ 25 := by
  unfold ext
  rw [List.length_map]
  exact Nat.le_trans (List.length_filter_le _ _) (notes_len h)
theorem mem_ext {t : Tk} {xs ys : List Int} : ys ∈ t.ext xs ↔ ∃ n, n ∈ t.notes ∧ t.good (xs ++ [n]) = true ∧ ys = xs ++ [n] := by
  unfold ext
  rw [List.mem_map]
  constructor
  · rintro ⟨n, hn, rfl⟩
    exact ⟨n, (List.mem_filter.mp hn).1, (List.mem_filter.mp hn).2, rfl⟩
  · rintro ⟨n, h1, h2, rfl⟩
    exact ⟨n, List.mem_filter.mpr ⟨h1, h2⟩, rfl⟩
theorem lay_mem {t : Tk} : ∀ {k : Nat} {xs : List Int}, xs ∈ t.lay k → xs.length = k ∧ ∀ x ∈ xs, x ∈ t.notes
  | 0, xs, h => by
    cases List.mem_singleton.mp h
    exact ⟨rfl, fun x hx => (by cases hx)⟩
  | k + 1, xs, h => by
    obtain ⟨ys, hy, he⟩ := List.mem_flatMap.mp h
    obtain ⟨n, h1, h2, rfl⟩ := mem_ext.mp he
    obtain ⟨i1, i2⟩ := lay_mem hy
    refine ⟨by rw [List.length_append, i1]; rfl, fun x hx => ?_⟩
    rcases List.mem_append.mp hx with hx | hx
    · exact i2 x hx
    · cases List.mem_singleton.mp hx; exact h1
theorem Ok.note {t : Tk} (h : t.Ok) {n : Int} (hn : n ∈ t.notes) : -150 ≤ n ∧ n ≤ 174 := by
  have h1 := mem_notes.mp hn
  have h2 := h.book.low
  have h3 := h.book.high
  omega
theorem lay_near {t : Tk} (h : t.Ok) {k : Nat} {xs : List Int} (hx : xs ∈ t.lay k) : Near xs := fun x hx' => by
  have := h.note ((lay_mem hx).2 x hx')
  omega
end Tk
end PD
/-! Order and sorting of typed values. -/
namespace PD
open PySem PySem.Spec PySem.W PyProof.Rows
section
variable {α β : Type}
def lexB [DecidableEq α] (lt : α → α → Bool) : List α → List α → Bool
  | [], [] => false
  | [], _ :: _ => true
  | _ :: _, [] => false
  | x :: xs, y :: ys => if x = y then lexB lt xs ys else lt x y
/-- an order of the written values -/
class Od (e : α → D) (n : outParam Nat) [i : Cm e n] where
  lt : α → α → Bool
  al : ∀ x y, alike (i.py x) (i.py y) = true
  hlt : ∀ x y, dataLt (i.py x) (i.py y) = lt x y
class OdA [DecidableEq α] (e : α → List D) (n : outParam Nat) [i : CmA e n] where
  lt : α → α → Bool
  al : ∀ x y, alikeAll (i.py x) (i.py y) = true
  hlt : ∀ x y, PyProof.Rows.lexLt itemOrd (keyToksAll (i.py x)) (keyToksAll (i.py y)) = lt x y
instance : Od D.int 0 where
  lt := fun x y => decide (x < y)
  al := fun _ _ => by simp [Cm.py, alike]
  hlt := fun x y => dataLt_int x y
theorem alike_cm {e : α → D} {n : Nat} [i : Cm e n] [o : Od e n] : ∀ xs ys : List α, alikeAll (xs.map i.py) (ys.map i.py) = true
  | [], ys => by simp [alikeAll]
  | x :: xs, [] => by simp [alikeAll]
  | x :: xs, y :: ys => by simp only [List.map_cons, alikeAll, o.al, alike_cm (e := e) xs ys, Bool.and_self]
theorem lexB_cm {e : α → D} {n : Nat} [i : Cm e n] [DecidableEq α] [o : Od e n] : ∀ xs ys : List α, PyProof.Rows.lexLt itemOrd (keyToksAll (xs.map i.py)) (keyToksAll (ys.map i.py)) = lexB o.lt xs ys
  | [], [] => by simp [keyToksAll, lexB, lex_irrefl]
  | [], y :: ys => by
    simp only [List.map_nil, List.map_cons]
    rw [toks_all_cons]
    simp only [keyToksAll]
    rw [lex_diff (O := itemOrd) (by simp)]
    simp [lexB, itemLt]
  | x :: xs, [] => by
    simp only [List.map_nil, List.map_cons]
    rw [toks_all_cons]
    simp only [keyToksAll]
    rw [lex_diff (O := itemOrd) (by simp)]
    simp [lexB, itemLt]
  | x :: xs, y :: ys => by
    rw [List.map_cons, List.map_cons, dataLt_cons (o.al x y), lexB, lexB_cm (e := e) xs ys, o.hlt]
    by_cases h : x = y
    · rw [if_pos ((i.eqv x y).mpr h), if_pos h]
    · rw [if_neg (fun z => h ((i.eqv x y).mp z)), if_neg h]
instance {e : α → D} {n : Nat} [i : Cm e n] [DecidableEq α] [o : Od e n] : Od (eT e) (n + 2) where
  lt := lexB o.lt
  al := fun x y => by
    show alike (.tuple (x.map i.py)) (.tuple (y.map i.py)) = true
    simp only [alike]
    exact alike_cm (e := e) x y
  hlt := fun x y => by
    show dataLt (.tuple (x.map i.py)) (.tuple (y.map i.py)) = _
    rw [dataLt_tuple]
    exact lexB_cm (e := e) x y
/-- what sorted takes: tuples that are not empty -/
class So (e : α → D) (n : outParam Nat) [i : Cm e n] where
  ok : α → Bool
  h : ∀ x, ok x = true → ∃ p r, i.py x = .tuple (p :: r)
instance {e : α → D} {n : Nat} [i : Cm e n] : So (eT e) (n + 2) where
  ok := fun x => !x.isEmpty
  h := fun x hx => by
    cases x with
    | nil => cases hx
    | cons a r => exact ⟨_, _, rfl⟩
def leO (lt : α → α → Bool) (x y : α) : Bool := !lt y x
def sortR (e : α → D) {n : Nat} [i : Cm e n] [o : Od e n] [s : So e n] (xs : List α) : Res (List α) := if xs.all s.ok = true ∧ xs.length ≤ sizeLine then .ok (xs.mergeSort (leO o.lt)) else .bad
theorem B_sortL {e : α → D} {n : Nat} [i : Cm e n] [o : Od e n] [s : So e n] (hn : n ≤ 60) (xs : List α) : Rf (eL e) (bfnD .sorted [eL e xs]) (sortR e xs) := by
  unfold sortR
  by_cases h : xs.all s.ok = true ∧ xs.length ≤ sizeLine
  rotate_left
  · rw [if_neg h]; exact .bd
  rw [if_pos h]
  refine .of ?_
  have hq : ∀ x, sleD (e x) (e x) = leO o.lt x x := fun x => by
    show (!dataLt (pyOf (e x)) (pyOf (e x))) = _
    unfold pyOf; rw [i.hpy]; show (!dataLt (i.py x) (i.py x)) = _; rw [o.hlt]; rfl
  have hs : ∀ x y, sleD (e x) (e y) = leO o.lt x y := fun x y => by
    show (!dataLt (pyOf (e y)) (pyOf (e x))) = _
    unfold pyOf; rw [i.hpy, i.hpy]; show (!dataLt (i.py y) (i.py x)) = _; rw [o.hlt]; rfl
  have ho : okSort (xs.map i.py) = true := by
    unfold okSort
    simp only [Bool.and_eq_true, Bool.or_eq_true, List.all_eq_true, decide_eq_true_eq, List.mem_map]
    refine ⟨⟨?_, .inl ?_⟩, ?_⟩
    · rintro _ ⟨p, _, rfl⟩ _ ⟨q, _, rfl⟩; exact o.al p q
    · rintro _ ⟨p, hp, rfl⟩
      obtain ⟨a, r, e⟩ := s.h p (List.all_eq_true.mp h.1 p hp)
      rw [e]
    · rintro _ ⟨p, _, rfl⟩; have := i.dep p; omega
  have e1 : bfnD .sorted [eL e xs] = (match D.pys (xs.map e) with | some qs => if okSort qs = true ∧ (xs.map e).length ≤ sizeLine then Res.ok (D.lst ((xs.map e).mergeSort sleD)) else .bad | none => .bad) := rfl
  rw [e1, pys_cm (e := e)]
  dsimp only
  rw [if_pos ⟨ho, by rw [List.length_map]; exact h.2⟩]
  show Res.ok (D.lst _) = Res.ok (D.lst _)
  rw [List.map_mergeSort (s := sleD) fun a _ b _ => (hs a b).symm]
/-! strict orders -/
structure Sto (lt : α → α → Bool) : Prop where
  irr : ∀ x, lt x x = false
  tr : ∀ x y z, lt x y = true → lt y z = true → lt x z = true
  tot : ∀ x y, lt x y = false → lt y x = false → x = y
theorem sto_int : Sto (fun x y : Int => decide (x < y)) := ⟨fun x => by simp, fun x y z h1 h2 => by simp only [decide_eq_true_eq] at *; omega, fun x y h1 h2 => by simp only [decide_eq_false_iff_not] at *; omega⟩
theorem lexB_irr [DecidableEq α] {lt : α → α → Bool} : ∀ xs : List α, lexB lt xs xs = false
  | [] => rfl
  | x :: xs => by rw [lexB, if_pos rfl, lexB_irr xs]
theorem lexB_tr [DecidableEq α] {lt : α → α → Bool} (h : Sto lt) : ∀ xs ys zs : List α, lexB lt xs ys = true → lexB lt ys zs = true → lexB lt xs zs = true
  | [], _, [], h1, h2 => by
    rename_i ys
    cases ys with
    | nil => cases h2
    | cons _ _ => cases h2
  | [], _, _ :: _, _, _ => rfl
  | _ :: _, [], _, h1, _ => by cases h1
  | _ :: _, _ :: _, [], _, h2 => by cases h2
  | x :: xs, y :: ys, z :: zs, h1, h2 => by
    rw [lexB] at h1 h2 ⊢
    by_cases a : x = y
    · subst a
      rw [if_pos rfl] at h1
      by_cases b : x = z
      · rw [if_pos b] at h2 ⊢; exact lexB_tr h xs ys zs h1 h2
      · rw [if_neg b] at h2 ⊢; exact h2
    · rw [if_neg a] at h1
      by_cases b : y = z
      · subst b
        rw [if_neg a]; exact h1
      · rw [if_neg b] at h2
        have t := h.tr x y z h1 h2
        by_cases c : x = z
        · subst c; rw [h.irr] at t; cases t
        · rw [if_neg c]; exact t
theorem lexB_tot [DecidableEq α] {lt : α → α → Bool} (h : Sto lt) : ∀ xs ys : List α, lexB lt xs ys = false → lexB lt ys xs = false → xs = ys
  | [], [], _, _ => rfl
  | [], _ :: _, h1, _ => by cases h1
  | _ :: _, [], _, h2 => by cases h2
  | x :: xs, y :: ys, h1, h2 => by
    rw [lexB] at h1 h2
    by_cases a : x = y
    · subst a
      rw [if_pos rfl] at h1 h2
      rw [lexB_tot h xs ys h1 h2]
    · rw [if_neg a] at h1
      rw [if_neg (Ne.symm a)] at h2
      exact absurd (h.tot x y h1 h2) a
theorem sto_lex [DecidableEq α] {lt : α → α → Bool} (h : Sto lt) : Sto (lexB lt) := ⟨lexB_irr, lexB_tr h, lexB_tot h⟩
def ltL (xs ys : List Int) : Bool := lexB (fun x y : Int => decide (x < y)) xs ys
theorem sto_L : Sto ltL := sto_lex sto_int
theorem sort_sorted {lt : α → α → Bool} (h : Sto lt) (xs : List α) : (xs.mergeSort (leO lt)).Pairwise fun x y => leO lt x y = true :=
  List.pairwise_mergeSort (fun a b c h1 h2 => by
    unfold leO at *
    simp only [Bool.not_eq_true'] at *
    cases q : lt c a with
    | false => rfl
    | true =>
      by_cases e : b = c
      · subst e; rw [q] at h1; cases h1
      · cases q2 : lt b c with
        | true => have := h.tr _ _ _ q2 q; rw [h1] at this; cases this
        | false => exact absurd (h.tot b c q2 h2) e) (fun a b => by
    unfold leO
    cases q : lt b a with
    | false => rfl
    | true =>
      cases q2 : lt a b with
      | false => rfl
      | true => have := h.tr _ _ _ q q2; rw [h.irr] at this; cases this) xs
/-- rising lists of the same members are one -/
theorem rising_eq {lt : α → α → Bool} (h : Sto lt) : ∀ {xs ys : List α}, xs.Pairwise (fun x y => lt x y = true) → ys.Pairwise (fun x y => lt x y = true) → (∀ z, z ∈ xs ↔ z ∈ ys) → xs = ys
  | [], [], _, _, _ => rfl
  | [], y :: ys, _, _, m => absurd ((m y).mpr List.mem_cons_self) (by simp)
  | x :: xs, [], _, _, m => absurd ((m x).mp List.mem_cons_self) (by simp)
  | x :: xs, y :: ys, hx, hy, m => by
    obtain ⟨x1, x2⟩ := List.pairwise_cons.mp hx
    obtain ⟨y1, y2⟩ := List.pairwise_cons.mp hy
    have e : x = y := by
      rcases List.mem_cons.mp ((m x).mp List.mem_cons_self) with a | a
      · exact a
      · rcases List.mem_cons.mp ((m y).mpr List.mem_cons_self) with b | b
        · exact b.symm
        · have := h.tr _ _ _ (y1 x a) (x1 y b); rw [h.irr] at this; cases this
    subst e
    rw [rising_eq h x2 y2 fun z => ?_]
    constructor
    · intro hz
      rcases List.mem_cons.mp ((m z).mp (List.mem_cons_of_mem _ hz)) with a | a
      · subst a; have := x1 z hz; rw [h.irr] at this; cases this
      · exact a
    · intro hz
      rcases List.mem_cons.mp ((m z).mpr (List.mem_cons_of_mem _ hz)) with a | a
      · subst a; have := y1 z hz; rw [h.irr] at this; cases this
      · exact a
/-- a sorted list without twins rises -/
theorem sort_rising {lt : α → α → Bool} (h : Sto lt) {xs : List α} (hn : xs.Nodup) : (xs.mergeSort (leO lt)).Pairwise fun x y => lt x y = true := by
  have hp : (xs.mergeSort (leO lt)).Nodup := (List.mergeSort_perm xs (leO lt)).nodup_iff.mpr hn
  refine (sort_sorted h xs).imp₂ ?_ hp
  intro x y h1 h2
  unfold leO at h1
  simp only [Bool.not_eq_true'] at h1
  cases q : lt x y with
  | true => rfl
  | false => exact absurd (h.tot x y q h1) h2
end
end PD
namespace PD
open PySem PySem.Spec PySem.W PyProof.Rows
theorem sortR_L {xs : List (List Int)} (h : ∀ x ∈ xs, x ≠ []) (hl : xs.length ≤ 16777216) : sortR (eT D.int) xs = .ok (xs.mergeSort (leO ltL)) := by
  unfold sortR
  have ha : xs.all (So.ok (eT D.int)) = true := by
    rw [List.all_eq_true]
    intro x hx
    have := h x hx
    cases x with
    | nil => exact absurd rfl this
    | cons a r => rfl
  rw [if_pos ⟨ha, by rw [sizeLine_eq]; exact hl⟩]
  rfl
/-- rows without twins -/
def twin (xs : List (List Int)) : List (List Int) := ((rangeI 0 xs.length).filter fun k => decide (k = 0) || !decide (xs.getD k.toNat [] = xs.getD (k - 1).toNat [])).map fun k => xs.getD k.toNat []
theorem getD_mem {xs : List (List Int)} {k : Int} (h0 : 0 ≤ k) (h1 : k < xs.length) : xs.getD k.toNat [] ∈ xs := by
  have h2 : k.toNat < xs.length := by omega
  rw [List.getD_eq_getElem?_getD, List.getElem?_eq_getElem h2]
  exact List.getElem_mem h2
/-- sorted rows without twins rise -/
theorem twin_rising {xs : List (List Int)} (h : xs.Pairwise fun x y => leO ltL x y = true) : (twin xs).Pairwise fun x y => ltL x y = true := by
  unfold twin
  rw [List.pairwise_map]
  have r : (rangeI 0 xs.length).Pairwise (· < ·) := by
    unfold rangeI
    rw [List.pairwise_map]
    exact List.pairwise_lt_range.imp fun h => by omega
  refine (List.Pairwise.filter _ r).imp_of_mem fun {i j} hi hj hij => ?_
  have gi := mem_rangeI.mp (List.mem_filter.mp hi).1
  have gj := mem_rangeI.mp (List.mem_filter.mp hj).1
  have kj := (List.mem_filter.mp hj).2
  have n0 : ¬ j = 0 := by omega
  simp only [n0, decide_false, Bool.false_or, Bool.not_eq_true', decide_eq_false_iff_not] at kj
  have le : ∀ a b : Nat, a ≤ b → b < xs.length → leO ltL (xs.getD a []) (xs.getD b []) = true := fun a b hab hb => by
    rw [List.getD_eq_getElem?_getD, List.getD_eq_getElem?_getD, List.getElem?_eq_getElem hb, List.getElem?_eq_getElem (show a < xs.length by omega)]
    rcases Nat.lt_or_eq_of_le hab with q | q
    · exact List.pairwise_iff_getElem.mp h a b (by omega) hb q
    · subst q; unfold leO; rw [sto_L.irr]; rfl
  have l1 := le i.toNat (j - 1).toNat (by omega) (by omega)
  have l2 := le (j - 1).toNat j.toNat (by omega) (by omega)
  generalize xs.getD i.toNat [] = a at *
  generalize xs.getD (j - 1).toNat [] = b at *
  generalize xs.getD j.toNat [] = c at *
  unfold leO at l1 l2
  simp only [Bool.not_eq_true'] at l1 l2
  cases q : ltL b c with
  | false => exact absurd (sto_L.tot b c q l2).symm kj
  | true =>
    by_cases e : a = b
    · rw [e]; exact q
    · cases q2 : ltL a b with
      | true => exact sto_L.tr _ _ _ q2 q
      | false => exact absurd (sto_L.tot a b q2 l1) e
theorem mem_twin {xs : List (List Int)} {x : List Int} : x ∈ twin xs ↔ x ∈ xs := by
  unfold twin
  rw [List.mem_map]
  constructor
  · rintro ⟨k, hk, rfl⟩
    have := mem_rangeI.mp (List.mem_filter.mp hk).1
    exact getD_mem (by omega) (by omega)
  · intro hx
    -- the first place where it stands
    have ex : ∃ k : Nat, k < xs.length ∧ xs.getD k [] = x := by
      obtain ⟨k, hk, e⟩ := List.getElem_of_mem hx
      exact ⟨k, hk, by rw [List.getD_eq_getElem?_getD, List.getElem?_eq_getElem hk]; exact e⟩
    obtain ⟨k, ⟨hk, e⟩, hmin⟩ : ∃ k : Nat, (k < xs.length ∧ xs.getD k [] = x) ∧ ∀ j, j < k → ¬ (j < xs.length ∧ xs.getD j [] = x) := by
      obtain ⟨k, hk⟩ := ex
      induction k using Nat.strongRecOn with
      | _ k ih =>
        by_cases z : ∃ j, j < k ∧ (j < xs.length ∧ xs.getD j [] = x)
        · obtain ⟨j, h1, h2⟩ := z
          exact ih j h1 h2
        · exact ⟨k, hk, fun j hj hh => z ⟨j, hj, hh⟩⟩
    refine ⟨(k : Int), List.mem_filter.mpr ⟨mem_rangeI.mpr ⟨by omega, by omega⟩, ?_⟩, by rw [Int.toNat_natCast]; exact e⟩
    by_cases h0 : k = 0
    · subst h0; simp
    · have := hmin (k - 1) (by omega)
      simp only [Bool.or_eq_true, decide_eq_true_eq, Bool.not_eq_true', decide_eq_false_iff_not]
      right
      rw [Int.toNat_natCast, e, show ((k : Int) - 1).toNat = k - 1 by omega]
      exact fun z => this ⟨by omega, z.symm⟩
theorem twin_len {xs : List (List Int)} : (twin xs).length ≤ xs.length := by
  unfold twin
  rw [List.length_map]
  exact Nat.le_trans (List.length_filter_le _ _) (by rw [len_rangeI]; exact Nat.le_refl _)
theorem atR_getD {xs : List (List Int)} {i : Int} (h0 : 0 ≤ i) (h1 : i < xs.length) : atR xs i = .ok (xs.getD i.toNat []) := by
  have h2 : i.toNat < xs.length := by omega
  exact atR_nat h0 h1 (by rw [List.getElem?_eq_getElem h2, List.getD_eq_getElem?_getD, List.getElem?_eq_getElem h2]; rfl)
end PD
/-! Plain: states of beginnings, tables. -/
namespace PD
open PySem PySem.Spec PySem.W PyProof.Rows
section
variable {α : Type} [DecidableEq α]
/-- each once, as they are met -/
def ins (acc : List α) (x : α) : List α := if x ∈ acc then acc else acc ++ [x]
def dd (acc xs : List α) : List α := xs.foldl ins acc
theorem mem_ins {acc : List α} {x y : α} : y ∈ ins acc x ↔ y ∈ acc ∨ y = x := by
  unfold ins
  split
  · rename_i h
    exact ⟨.inl, fun z => z.elim id fun e => e ▸ h⟩
  · simp
theorem nd_ins {acc : List α} {x : α} (h : acc.Nodup) : (ins acc x).Nodup := by
  unfold ins
  split
  · exact h
  · rename_i hn
    rw [List.nodup_append]
    exact ⟨h, by simp, fun a ha b hb => by rw [List.mem_singleton.mp hb]; exact fun e => hn (e ▸ ha)⟩
theorem mem_dd {y : α} : ∀ {xs acc : List α}, y ∈ dd acc xs ↔ y ∈ acc ∨ y ∈ xs
  | [], acc => by simp [dd]
  | x :: xs, acc => by
    show y ∈ dd (ins acc x) xs ↔ _
    rw [mem_dd (xs := xs), mem_ins, List.mem_cons, or_assoc]
theorem nd_dd : ∀ {xs acc : List α}, acc.Nodup → (dd acc xs).Nodup
  | [], acc, h => h
  | x :: xs, acc, h => by
    show (dd (ins acc x) xs).Nodup
    exact nd_dd (nd_ins h)
theorem nodup_le : ∀ {xs ys : List α}, xs.Nodup → (∀ x ∈ xs, x ∈ ys) → xs.length ≤ ys.length
  | [], _, _, _ => Nat.zero_le _
  | x :: xs, ys, h, m => by
    obtain ⟨h1, h2⟩ := List.nodup_cons.mp h
    have hx := m x List.mem_cons_self
    have ih := nodup_le (ys := ys.erase x) h2 fun y hy => (List.mem_erase_of_ne fun e => h1 (by rw [← e]; exact hy)).mpr (m y (List.mem_cons_of_mem _ hy))
    rw [List.length_erase_of_mem hx] at ih
    have := List.length_pos_of_mem hx
    rw [List.length_cons]
    omega
theorem dd_app (acc xs ys : List α) : dd acc (xs ++ ys) = dd (dd acc xs) ys := List.foldl_append
end
/-- the last of a row of notes -/
def lastZ (s : List Int) : Int := atZ s ((s.length : Int) - 1)
theorem lastZ_app {s : List Int} {n : Int} : lastZ (s ++ [n]) = n := by
  unfold lastZ
  rw [List.length_append, List.length_singleton, show (((s.length + 1 : Nat) : Int) - 1) = (s.length : Int) by omega]
  exact atZ_app_at
theorem atR_lastZ {s : List Int} (h : s ≠ []) : atR s (-1) = .ok (lastZ s) := by
  obtain ⟨ys, y, rfl⟩ : ∃ ys y, s = ys ++ [y] := ⟨s.dropLast, s.getLast h, (List.dropLast_concat_getLast h).symm⟩
  rw [atR_last, lastZ_app]
/-- the state of a beginning: its last two notes -/
def last2 (s : List Int) : List Int := s.drop (s.length - 2)
theorem last2_len {s : List Int} : (last2 s).length = min s.length 2 := by unfold last2; rw [List.length_drop]; omega
/-- the last two notes, as python cuts them -/
theorem cut_last2 {s : List Int} : cutD s (some (-2)) none = last2 s := by
  unfold cutD last2
  rw [HT.sIx_none]
  have e : HT.sIx s.length 0 (some (-2)) = s.length - 2 := by
    show (if (-2 : Int) < 0 then (-2 + (s.length : Int)).toNat else min (-2 : Int).toNat s.length) = _
    rw [if_pos (by decide)]; omega
  rw [e, List.take_of_length_le (by rw [List.length_drop]; omega)]
theorem last2_app1 {n : Int} : last2 [n] = [n] := rfl
theorem last2_app {s : List Int} {n : Int} (h : s ≠ []) : last2 (s ++ [n]) = [lastZ s, n] := by
  obtain ⟨ys, y, rfl⟩ : ∃ ys y, s = ys ++ [y] := ⟨s.dropLast, s.getLast h, (List.dropLast_concat_getLast h).symm⟩
  rw [lastZ_app]
  unfold last2
  rw [show ((ys ++ [y]) ++ [n]).length - 2 = ys.length by simp, List.append_assoc, List.drop_left' rfl]
  rfl
theorem lastZ_last2 {s : List Int} (h : s ≠ []) : lastZ (last2 s) = lastZ s := by
  obtain ⟨ys, y, rfl⟩ : ∃ ys y, s = ys ++ [y] := ⟨s.dropLast, s.getLast h, (List.dropLast_concat_getLast h).symm⟩
  cases ys with
  | nil => rfl
  | cons a r =>
    rw [last2_app (by simp), lastZ_app]
    exact lastZ_app (s := [lastZ (a :: r)])
namespace Tk
/-- may a note come at a place behind a state -/
def coming (t : Tk) (p : Int) (s : List Int) (n : Int) : Bool := decide (t.alone p n = []) && (decide (t.together p (lastZ s) n = []) && (decide (s.length < 2) || decide (t.three (p - 1) (atZ s 0) (atZ s 1) n = [])))
def later (t : Tk) (p : Int) (s : List Int) : List (List Int) := (t.notes.filter (t.coming p s)).map fun n => [lastZ s, n]
def starts (t : Tk) : List (List Int) := (t.notes.filter fun n => decide (t.alone 0 n = [])).map fun n => [n]
def tab (t : Tk) : Nat → List (List Int)
  | 0 => t.starts
  | k + 1 => (dd [] ((t.tab k).flatMap (t.later ((k + 1 : Nat) : Int)))).mergeSort (leO ltL)
def tabs (t : Tk) : List (List (List Int)) := (List.range t.size.toNat).map t.tab
theorem later_len {t : Tk} (h : t.Ok) {p : Int} {s : List Int} : (t.later p s).length ≤ 25 := by
  unfold later
  rw [List.length_map]
  exact Nat.le_trans (List.length_filter_le _ _) (notes_len h)
theorem mem_later {t : Tk} {p : Int} {s s' : List Int} : s' ∈ t.later p s ↔ ∃ n, n ∈ t.notes ∧ t.coming p s n = true ∧ s' = [lastZ s, n] := by
  unfold later
  rw [List.mem_map]
  constructor
  · rintro ⟨n, hn, rfl⟩
    exact ⟨n, (List.mem_filter.mp hn).1, (List.mem_filter.mp hn).2, rfl⟩
  · rintro ⟨n, h1, h2, rfl⟩
    exact ⟨n, List.mem_filter.mpr ⟨h1, h2⟩, rfl⟩
theorem mem_starts {t : Tk} {s : List Int} : s ∈ t.starts ↔ ∃ n, n ∈ t.notes ∧ t.alone 0 n = [] ∧ s = [n] := by
  unfold starts
  rw [List.mem_map]
  constructor
  · rintro ⟨n, hn, rfl⟩
    exact ⟨n, (List.mem_filter.mp hn).1, by simpa using (List.mem_filter.mp hn).2, rfl⟩
  · rintro ⟨n, h1, h2, rfl⟩
    exact ⟨n, List.mem_filter.mpr ⟨h1, by simpa using h2⟩, rfl⟩
theorem mem_tabS {t : Tk} {k : Nat} {s : List Int} : s ∈ t.tab (k + 1) ↔ ∃ s', s' ∈ t.tab k ∧ s ∈ t.later ((k + 1 : Nat) : Int) s' := by
  show s ∈ (dd [] ((t.tab k).flatMap (t.later ((k + 1 : Nat) : Int)))).mergeSort (leO ltL) ↔ _
  rw [List.mem_mergeSort, mem_dd, List.mem_flatMap]
  simp
/-- good, told of the state and the note behind it -/
theorem good_app {t : Tk} {xs : List Int} {n : Int} (h : xs ≠ []) : t.good (xs ++ [n]) = t.coming (xs.length : Int) (last2 xs) n := by
  have hp := List.length_pos_iff.mpr h
  obtain ⟨ys, y, rfl⟩ : ∃ ys y, xs = ys ++ [y] := ⟨xs.dropLast, xs.getLast h, (List.dropLast_concat_getLast h).symm⟩
  have e1 : atZ ((ys ++ [y]) ++ [n]) (((ys ++ [y]).length : Int)) = n := atZ_app_at
  have e2 : atZ ((ys ++ [y]) ++ [n]) ((ys.length : Int)) = y := by
    rw [atZ_app_lt (by omega) (by simp only [List.length_append, List.length_singleton]; omega)]; exact atZ_app_at
  unfold good coming
  rw [lastZ_last2 (by simp), lastZ_app]
  have l : (((ys ++ [y]) ++ [n]).length : Int) = (ys.length : Int) + 2 := by simp only [List.length_append, List.length_singleton]; omega
  have l2 : ((ys ++ [y]).length : Int) = (ys.length : Int) + 1 := by simp only [List.length_append, List.length_singleton]; omega
  rw [l2] at e1
  rw [l, l2, show (ys.length : Int) + 2 - 1 = (ys.length : Int) + 1 by omega, show (ys.length : Int) + 2 - 2 = (ys.length : Int) by omega, show (ys.length : Int) + 1 - 1 = (ys.length : Int) by omega, e1, e2]
  have c1 : decide (((ys ++ [y]) ++ [n]).length ≤ 1) = false := by simp
  rw [c1, Bool.false_or]
  cases ys with
  | nil => rfl
  | cons a r =>
    have c2 : decide ((((a :: r) ++ [y]) ++ [n]).length ≤ 2) = false := by simp
    have c3 : decide ((last2 ((a :: r) ++ [y])).length < 2) = false := by rw [last2_len]; simp
    rw [c2, c3, last2_app (by simp)]
    have e3 : atZ (((a :: r) ++ [y]) ++ [n]) (((a :: r).length : Int) + 2 - 3) = lastZ (a :: r) := by
      rw [show ((a :: r).length : Int) + 2 - 3 = ((a :: r).length : Int) - 1 by omega, atZ_app_lt (by simp only [List.length_cons]; omega) (by simp only [List.length_append, List.length_cons, List.length_nil]; omega), atZ_app_lt (by simp only [List.length_cons]; omega) (by simp only [List.length_cons]; omega)]
      rfl
    rw [e3]
    rfl
theorem good_one {t : Tk} {n : Int} : t.good [n] = decide (t.alone 0 n = []) := by
  unfold good
  simp [atZ]
/-- the states of the tables are those of the beginnings -/
theorem mem_tab {t : Tk} : ∀ {k : Nat} {s : List Int}, s ∈ t.tab k ↔ ∃ xs, xs ∈ t.lay (k + 1) ∧ s = last2 xs
  | 0, s => by
    show s ∈ t.starts ↔ _
    rw [mem_starts]
    constructor
    · rintro ⟨n, h1, h2, rfl⟩
      refine ⟨[n], List.mem_flatMap.mpr ⟨[], List.mem_singleton.mpr rfl, mem_ext.mpr ⟨n, h1, ?_, rfl⟩⟩, rfl⟩
      rw [List.nil_append, good_one]; simpa using h2
    · rintro ⟨xs, h1, rfl⟩
      obtain ⟨ys, hy, he⟩ := List.mem_flatMap.mp h1
      cases List.mem_singleton.mp hy
      obtain ⟨n, a, b, rfl⟩ := mem_ext.mp he
      rw [List.nil_append, good_one] at b
      exact ⟨n, a, by simpa using b, rfl⟩
  | k + 1, s => by
    rw [mem_tabS]
    constructor
    · rintro ⟨s', h1, h2⟩
      obtain ⟨xs, h3, rfl⟩ := mem_tab.mp h1
      obtain ⟨n, a, b, rfl⟩ := mem_later.mp h2
      have hl := (lay_mem h3).1
      have hx : xs ≠ [] := fun z => by rw [z] at hl; simp at hl
      refine ⟨xs ++ [n], List.mem_flatMap.mpr ⟨xs, h3, mem_ext.mpr ⟨n, a, ?_, rfl⟩⟩, ?_⟩
      · rw [good_app hx, hl]; exact b
      · rw [lastZ_last2 hx, last2_app hx]
    · rintro ⟨xs, h1, rfl⟩
      obtain ⟨ys, hy, he⟩ := List.mem_flatMap.mp h1
      obtain ⟨n, a, b, rfl⟩ := mem_ext.mp he
      have hl := (lay_mem hy).1
      have hx : ys ≠ [] := fun z => by rw [z] at hl; simp at hl
      refine ⟨last2 ys, mem_tab.mpr ⟨ys, hy, rfl⟩, mem_later.mpr ⟨n, a, ?_, ?_⟩⟩
      · rw [good_app hx, hl] at b; exact b
      · rw [last2_app hx, lastZ_last2 hx]
theorem tab_len2 {t : Tk} {k : Nat} {s : List Int} (h : s ∈ t.tab k) : s.length = min (k + 1) 2 ∧ ∀ x ∈ s, x ∈ t.notes := by
  obtain ⟨xs, h1, rfl⟩ := mem_tab.mp h
  obtain ⟨h2, h3⟩ := lay_mem h1
  exact ⟨by rw [last2_len, h2], fun x hx => h3 x (List.mem_of_mem_drop hx)⟩
theorem notes_rising (t : Tk) : t.notes.Pairwise (· < ·) := by
  unfold notes rangeI
  rw [List.pairwise_map]
  exact List.pairwise_lt_range.imp fun h => by omega
theorem starts_rising (t : Tk) : t.starts.Pairwise fun x y => ltL x y = true := by
  unfold starts
  rw [List.pairwise_map]
  refine ((notes_rising t).filter _).imp fun {a b} h => ?_
  unfold ltL lexB
  rw [if_neg (by omega)]
  simpa using h
theorem tab_rising (t : Tk) : ∀ k, (t.tab k).Pairwise fun x y => ltL x y = true
  | 0 => starts_rising t
  | k + 1 => by
    unfold tab
    exact sort_rising sto_L (nd_dd List.nodup_nil)
theorem tab_nodup (t : Tk) (k : Nat) : (t.tab k).Nodup := (tab_rising t k).imp fun {a b} h e => by
  subst e; rw [sto_L.irr] at h; cases h
/-- at most 625 -/
theorem pairs_le {t : Tk} (h : t.Ok) {xs : List (List Int)} (hn : xs.Nodup) (hx : ∀ s ∈ xs, ∃ a b, a ∈ t.notes ∧ b ∈ t.notes ∧ s = [a, b]) : xs.length ≤ 625 := by
  have h1 := notes_len h
  refine Nat.le_trans (nodup_le (ys := t.notes.flatMap fun a => t.notes.map fun b => [a, b]) hn fun s hs => ?_) ?_
  · obtain ⟨a, b, ha, hb, rfl⟩ := hx s hs
    exact List.mem_flatMap.mpr ⟨a, ha, List.mem_map.mpr ⟨b, hb, rfl⟩⟩
  · have := flatMap_len (g := fun a => t.notes.map fun b => [a, b]) (w := 25) (xs := t.notes) fun a _ => by rw [List.length_map]; exact h1
    omega
theorem tab_le {t : Tk} (h : t.Ok) : ∀ k, (t.tab k).length ≤ 625
  | 0 => by
    show t.starts.length ≤ 625
    unfold starts
    rw [List.length_map]
    exact Nat.le_trans (Nat.le_trans (List.length_filter_le _ _) (notes_len h)) (by decide)
  | k + 1 => pairs_le h (tab_nodup t _) fun s hs => by
    obtain ⟨s', h1, h2⟩ := mem_tabS.mp hs
    obtain ⟨n, a, b, rfl⟩ := mem_later.mp h2
    obtain ⟨q1, q2⟩ := tab_len2 h1
    have : s' ≠ [] := fun z => by rw [z] at q1; simp at q1; omega
    refine ⟨_, _, q2 _ ?_, a, rfl⟩
    exact atZ_mem (by have := List.length_pos_iff.mpr this; omega) (by omega)
end Tk
end PD
/-! Plain: checks of notes. -/
namespace PD
open PySem PySem.Spec PySem.W PyProof.Rows
theorem qnR_map {α β : Type} {f : α → β} {mf : β → Res Bool} {stop : Bool} : ∀ {xs : List α}, qnR stop mf (xs.map f) = qnR stop (fun x => mf (f x)) xs
  | [] => rfl
  | x :: xs => by rw [List.map_cons, qnR, qnR]; congr 1; funext t; rw [qnR_map]
/-- a line of notes -/
def okN (xs : List Int) : Bool := !decide (xs = []) && xs.all fun x => decide (ab x ≤ 199)
theorem okN_near {xs : List Int} (h : Near xs) (h0 : xs ≠ []) : okN xs = true := by
  unfold okN
  simp only [Bool.and_eq_true, Bool.not_eq_true', decide_eq_false_iff_not, List.all_eq_true, decide_eq_true_eq]
  exact ⟨h0, fun x hx => by have := h x hx; unfold ab; split <;> omega⟩
theorem okN_not {xs : List Int} {x : Int} (hx : x ∈ xs) (h : x < -199 ∨ 199 < x) : okN xs = false := by
  unfold okN
  rw [Bool.and_eq_false_iff]
  refine .inr ?_
  rw [List.all_eq_false]
  exact ⟨x, hx, by simp only [decide_eq_true_eq]; unfold ab; split <;> omega⟩
end PD
/-! The typed side: dicts with tuples as keys. -/
namespace PD
open PySem PySem.Spec PySem.W PyProof.Rows
section
variable {M α β κ : Type}
/-- a writing of keys -/
class Ky (e : κ → D) where
  key : κ → List L2.Key
  h : ∀ k, keyOf (e k) = some (key k)
  inj : ∀ a b, key a = key b → a = b
theorem keysOf_I : ∀ xs : List Int, keysOf (xs.map D.int) = some (xs.map Sum.inl)
  | [] => rfl
  | x :: xs => by
    show (match key1Of (.int x), keysOf (xs.map D.int) with
      | some k, some r => some (k :: r)
      | _, _ => none) = _
    rw [keysOf_I xs]; rfl
instance : Ky (eT D.int) where
  key := fun xs => xs.map Sum.inl
  h := fun xs => keysOf_I xs
  inj := by
    intro a
    induction a with
    | nil => intro b h; cases b with | nil => rfl | cons _ _ => cases h
    | cons x a ih =>
      intro b h
      cases b with
      | nil => cases h
      | cons y b =>
        simp only [List.map_cons, List.cons.injEq, Sum.inl.injEq] at h
        rw [h.1, ih b h.2]
theorem Ky.iff {e : κ → D} [i : Ky e] {a b : κ} : keyOf (e a) = some (Ky.key e b) ↔ a = b := by
  rw [Ky.h]
  exact ⟨fun z => Ky.inj _ _ (Option.some.inj z), fun z => by rw [z]⟩
def putP [DecidableEq κ] (acc : List (κ × β)) (k : κ) (d : β) : List (κ × β) := if (acc.any fun p => decide (p.1 = k)) = true then acc.map fun p => if p.1 = k then (p.1, d) else p else acc ++ [(k, d)]
def stoR [DecidableEq κ] (acc : List (κ × β)) (k : κ) (d : β) : Res (List (κ × β)) := if acc.length < sizeLine then .ok (putP acc k d) else .bad
def dgetR [DecidableEq κ] (xs : List (κ × β)) (k : κ) : Res β := match xs.find? fun p => decide (p.1 = k) with
  | some p => .ok p.2
  | none => .bad
def dcR [DecidableEq κ] (mk : α → Res κ) (c : β) : List α → List (κ × β) → Res (List (κ × β))
  | [], acc => .ok acc
  | x :: xs, acc => (nxR (mk x)).bind fun k => (stoR acc k c).bind fun acc' => dcR mk c xs acc'
theorem putP_D [DecidableEq κ] {ke : κ → D} {ve : β → D} [Ky ke] {acc : List (κ × β)} {k : κ} {d : β} : putD (acc.map fun p => ke p.1) (acc.map fun p => ve p.2) (Ky.key ke k) (ve d) = eDic ke ve (putP acc k d) := by
  unfold putD putP eDic
  have e1 : ((acc.map fun p => ke p.1).any fun a => decide (keyOf a = some (Ky.key ke k))) = acc.any fun p => decide (p.1 = k) := by
    rw [List.any_map]
    congr 1
    funext p
    exact decide_eq_decide.mpr Ky.iff
  rw [e1]
  by_cases h : (acc.any fun p => decide (p.1 = k)) = true
  · rw [if_pos h, if_pos h, List.zip_map', List.map_map, List.map_map, List.map_map]
    congr 1
    · refine List.map_congr_left fun p _ => ?_
      show ke p.1 = ke (if p.1 = k then (p.1, d) else p).1
      split <;> rfl
    · refine List.map_congr_left fun p _ => ?_
      show (if keyOf (ke p.1) = some (Ky.key ke k) then ve d else ve p.2) = ve (if p.1 = k then (p.1, d) else p).2
      by_cases hk : p.1 = k
      · rw [if_pos (Ky.iff.mpr hk), if_pos hk]
      · rw [if_neg (fun z => hk (Ky.iff.mp z)), if_neg hk]
  · rw [if_neg h, if_neg h, List.map_append, List.map_append]
    congr 1
    rw [show keyD (Ky.key ke k) = ke k from (keyOf_inj (Ky.h k)).symm]
    rfl
theorem dget_D [DecidableEq κ] {ke : κ → D} {ve : β → D} [Ky ke] {k : κ} : ∀ {xs : List (κ × β)}, getK (xs.map fun p => ke p.1) (xs.map fun p => ve p.2) (Ky.key ke k) = (xs.find? fun p => decide (p.1 = k)).map fun p => ve p.2
  | [] => rfl
  | p :: xs => by
    unfold getK
    rw [List.map_cons, List.map_cons, List.zip_cons_cons, List.find?_cons, List.find?_cons]
    by_cases h : p.1 = k
    · rw [decide_eq_true (Ky.iff.mpr h), decide_eq_true h]; rfl
    · rw [decide_eq_false (fun z => h (Ky.iff.mp z)), decide_eq_false h]
      exact dget_D
variable {Φ : Fs} {fN : Nat → List Str} {J : Out → Res M → Prop} {K : En → Out} {ρ ρ1 : En} {r : Sm} {i j : Nat} {a b e : Ex}
theorem L_ixD [DecidableEq κ] {ke : κ → D} {ve : β → D} [Ky ke] {ma : Res (List (κ × β))} {mb : Res κ} (ha : Rf (eDic ke ve) (ev Φ a ρ) ma) (hb : Rf ke (ev Φ b ρ) mb) : Rf ve (ev Φ (.ix a b) ρ) (b2 dgetR ma mb) := by
  rw [v_ix]
  refine ha.bind fun x => hb.bind fun y => ?_
  have e : ixD (eDic ke ve x) (ke y) = (match keyOf (ke y) with
    | some kk => match getK (x.map fun p => ke p.1) (x.map fun p => ve p.2) kk with | some d => .ok d | none => .bad
    | none => .bad) := by
    unfold eDic ixD
    rfl
  rw [e, Ky.h]
  dsimp only
  rw [dget_D]
  unfold dgetR
  cases x.find? fun p => decide (p.1 = y) with
  | none => exact .bd
  | some p => exact .of rfl
theorem dcL_Rf [DecidableEq κ] {vs : List Nat} {t : Tg} {fk : En → Res D} {c : Int} {ea : α → D} {ke : κ → D} [Ky ke] {R : α → En} {mk : α → Res κ} (hb : ∀ x, bindT t (ea x) (wipeE ρ vs) = .ok (R x)) (hk : ∀ x, Rf ke (fk (R x)) (mk x)) :
    ∀ xs acc, Rf (eDic ke D.int) (dcL vs t fk c ρ (xs.map ea) (eDic ke D.int acc)) (dcR mk c xs acc)
  | [], acc => .of rfl
  | x :: xs, acc => by
    rw [List.map_cons, dcL, hb, Res.bind_ok, dcR]
    refine (hk x).noE.bind fun k => ?_
    have e : dcP c (eDic ke D.int acc) (ke k) = if acc.length < sizeLine then .ok (eDic ke D.int (putP acc k c)) else .bad := by
      show (match PD.D.dic _ _, keyOf (ke k) with
        | .dic ks ws, some kk => if ks.length < sizeLine then Res.ok (putD ks ws kk (.int c)) else .bad
        | _, _ => .bad) = _
      rw [Ky.h]
      dsimp only
      rw [List.length_map, ← putP_D (ke := ke) (ve := D.int)]
    rw [e]
    unfold stoR
    by_cases h : acc.length < sizeLine
    · rw [if_pos h, if_pos h, Res.bind_ok, Res.bind_ok]; exact dcL_Rf hb hk xs _
    · rw [if_neg h, if_neg h]; exact .bd
theorem L_dc [DecidableEq κ] {vs : List Nat} {t : Tg} {it : Ex} {c : Int} {ea : α → D} {ke : κ → D} [Ky ke] {R : α → En} {mi : Res (List α)} {mk : α → Res κ} (hi : Rf (List.map ea) (evI Φ .seq it ρ) mi) (hb : ∀ x, bindT t (ea x) (wipeE ρ vs) = .ok (R x)) (hk : ∀ x, Rf ke (ev Φ e (R x)) (mk x)) :
    Rf (eDic ke D.int) (ev Φ (.dc vs t it e c) ρ) (mi.bind fun xs => dcR mk c xs []) := by
  have v : ev Φ (.dc vs t it e c) ρ = (evI Φ .seq it ρ).bind fun ds => dcL vs t (ev Φ e) c ρ ds (.dic [] []) := Eq.trans rfl rfl
  rw [v]
  exact hi.bind fun xs => dcL_Rf hb hk xs []
theorem jb_sto [DecidableEq κ] {ke : κ → D} {ve : β → D} [Ky ke] {xs : List (κ × β)} {k : κ} {m : Res β} {km : List (κ × β) → Res M} (hJ : JOk J) (hd : demE (slx true e) ρ = ρ1) (hs : ρ1.sl i = .ow (eDic ke ve xs)) (hj : ρ1.sl j = .pl (ke k)) (h : Rf ve (ev Φ e ρ1) m)
    (hk : ∀ ys, JB Φ fN J K (ρ1.set i (.ow (eDic ke ve ys))) r (km ys)) : JB Φ fN J K ρ (.cons (.sto i j e) r) ((m.bind (stoR xs k)).bind km) := by
  unfold JB
  have e1 : exS Φ fN (.sto i j e) ρ = liftR (ev Φ e ρ1) ρ1 fun d => match keyOf (ke k) with
    | some kk => if (xs.map fun p => ke p.1).length < sizeLine then .nx (ρ1.set i (.ow (putD (xs.map fun p => ke p.1) (xs.map fun p => ve p.2) kk d))) else .bad
    | none => .bad := by
    show stoF (ev Φ e) (slx true e) i j ρ = _
    unfold stoF
    rw [hd, hs, hj] <;> rfl
  rw [x_cons, e1, liftR_bind, liftR_bind, PD.bind_assoc]
  refine J_lift hJ h fun d => ?_
  rw [Ky.h]
  dsimp only
  rw [List.length_map, putP_D]
  unfold stoR
  by_cases hl : xs.length < sizeLine
  · rw [if_pos hl, if_pos hl]; exact hk _
  · rw [if_neg hl, if_neg hl]; exact hJ.bad _
end
end PD
/-! Plain: dicts that are filled in order; counts of continuations. -/
namespace PD
open PySem PySem.Spec PySem.W PyProof.Rows
section
variable {κ β α : Type} [DecidableEq κ]
theorem putP_new {acc : List (κ × β)} {k : κ} {d : β} (h : k ∉ acc.map (·.1)) : putP acc k d = acc ++ [(k, d)] := by
  unfold putP
  rw [if_neg]
  intro z
  obtain ⟨p, hp, e⟩ := List.any_eq_true.mp z
  exact h (List.mem_map.mpr ⟨p, hp, of_decide_eq_true e⟩)
theorem stoR_new {acc : List (κ × β)} {k : κ} {d : β} (h : k ∉ acc.map (·.1)) (hl : acc.length ≤ 1000000) : stoR acc k d = .ok (acc ++ [(k, d)]) := by
  unfold stoR
  rw [if_pos (Nat.lt_of_le_of_lt hl (by decide)), putP_new h]
theorem dcR_map {c : β} : ∀ {xs : List κ} {acc : List (κ × β)}, xs.Nodup → (∀ x ∈ xs, x ∉ acc.map (·.1)) → acc.length + xs.length ≤ 1000000 → dcR (fun x => .ok x) c xs acc = .ok (acc ++ xs.map fun x => (x, c))
  | [], acc, _, _, _ => by rw [dcR, List.map_nil, List.append_nil]
  | x :: xs, acc, hn, hd, hl => by
    rw [List.length_cons] at hl
    rw [dcR]
    show (stoR acc x c).bind _ = _
    rw [stoR_new (hd x List.mem_cons_self) (by omega), Res.bind_ok, dcR_map (xs := xs) (List.nodup_cons.mp hn).2 (fun y hy z => ?_) (by rw [List.length_append, List.length_singleton]; omega)]
    · simp
    · rw [List.map_append, List.mem_append] at z
      rcases z with z | z
      · exact hd y (List.mem_cons_of_mem _ hy) z
      · rw [List.mem_singleton.mp z] at hy; exact (List.nodup_cons.mp hn).1 hy
theorem foldR_sto {f : List (κ × β) → κ → Res (List (κ × β))} {v : κ → β} : ∀ {xs : List κ} {acc : List (κ × β)}, xs.Nodup → (∀ x ∈ xs, x ∉ acc.map (·.1)) → acc.length + xs.length ≤ 1000000 → (∀ x ∈ xs, ∀ acc, f acc x = stoR acc x (v x)) → foldR f xs acc = .ok (acc ++ xs.map fun x => (x, v x))
  | [], acc, _, _, _, _ => by rw [foldR, List.map_nil, List.append_nil]
  | x :: xs, acc, hn, hd, hl, hf => by
    rw [List.length_cons] at hl
    rw [foldR, hf x List.mem_cons_self, stoR_new (hd x List.mem_cons_self) (by omega), Res.bind_ok, foldR_sto (xs := xs) (v := v) (List.nodup_cons.mp hn).2 (fun y hy z => ?_) (by rw [List.length_append, List.length_singleton]; omega) fun y hy => hf y (List.mem_cons_of_mem _ hy)]
    · simp
    · rw [List.map_append, List.mem_append] at z
      rcases z with z | z
      · exact hd y (List.mem_cons_of_mem _ hy) z
      · rw [List.mem_singleton.mp z] at hy; exact (List.nodup_cons.mp hn).1 hy
theorem dgetR_map {v : κ → β} {k : κ} : ∀ {xs : List κ}, k ∈ xs → dgetR (xs.map fun x => (x, v x)) k = .ok (v k)
  | [], h => nomatch h
  | x :: xs, h => by
    unfold dgetR
    rw [List.map_cons, List.find?_cons]
    by_cases e : x = k
    · subst e
      rw [decide_eq_true rfl]
    · rw [decide_eq_false e]
      exact dgetR_map ((List.mem_cons.mp h).resolve_left fun z => e z.symm)
end
theorem foldR_end {σ α β : Type} {f : σ → α → Res σ} {xs : List α} {s : σ} {I : Nat → σ → Prop} {k : σ → Res β} {o : Res β} (h0 : I 0 s) (st : ∀ i x s, xs[i]? = some x → I i s → ∃ s', f s x = .ok s' ∧ I (i + 1) s') (he : ∀ s', I xs.length s' → k s' = o) : (foldR f xs s).bind k = o := by
  obtain ⟨s', h1, h2⟩ := foldR_inv st h0
  rw [h1]; exact he s' h2
namespace Tk
/-- the ways on from a state at place k, d notes long -/
def conts (t : Tk) : Nat → Nat → List Int → List (List Int)
  | 0, _, _ => [[]]
  | d + 1, k, s => (t.later ((k + 1 : Nat) : Int) s).flatMap fun s' => (conts t d (k + 1) s').map fun c => lastZ s' :: c
def cnt (t : Tk) (d k : Nat) (s : List Int) : Int := ((t.conts d k s).length : Int)
theorem cnt_zero {t : Tk} {k : Nat} {s : List Int} : t.cnt 0 k s = 1 := rfl
theorem sum_len {α β : Type} {f : α → List β} : ∀ {xs : List α}, ((xs.flatMap f).length : Int) = (xs.map fun x => ((f x).length : Int)).sum
  | [] => rfl
  | x :: xs => by rw [List.flatMap_cons, List.length_append, List.map_cons, List.sum_cons, ← sum_len]; omega
theorem cnt_succ {t : Tk} {d k : Nat} {s : List Int} : t.cnt (d + 1) k s = ((t.later ((k + 1 : Nat) : Int) s).map (t.cnt d (k + 1))).sum := by
  unfold cnt
  rw [conts, sum_len]
  congr 1
  refine List.map_congr_left fun x _ => ?_
  rw [List.length_map]
/-- the lines that begin with xs -/
theorem lay_conts {t : Tk} : ∀ (d k : Nat), t.lay (k + 1 + d) = (t.lay (k + 1)).flatMap fun xs => (t.conts d k (last2 xs)).map fun c => xs ++ c
  | 0, k => by
    have : ∀ ls : List (List Int), ls = ls.flatMap fun xs => ([[]] : List (List Int)).map fun c => xs ++ c := fun ls => by
      induction ls with
      | nil => rfl
      | cons x xs ih => rw [List.flatMap_cons, ← ih]; simp
    exact this _
  | d + 1, k => by
    rw [show k + 1 + (d + 1) = k + 1 + 1 + d by omega, lay_conts d (k + 1)]
    show (t.grow (t.lay (k + 1))).flatMap _ = _
    unfold grow
    rw [List.flatMap_assoc]
    have fe : ∀ {α β : Type} {f g : α → List β} {l : List α}, (∀ x ∈ l, f x = g x) → l.flatMap f = l.flatMap g := fun {α β f g l} h => by
      induction l with
      | nil => rfl
      | cons x l ih => rw [List.flatMap_cons, List.flatMap_cons, h x List.mem_cons_self, ih fun y hy => h y (List.mem_cons_of_mem _ hy)]
    refine fe fun xs hx => ?_
    obtain ⟨hl, _⟩ := lay_mem hx
    have ne : xs ≠ [] := fun z => by rw [z] at hl; simp at hl
    show (t.ext xs).flatMap _ = (conts t (d + 1) k (last2 xs)).map _
    unfold ext
    rw [conts, List.flatMap_map, List.map_flatMap]
    unfold later
    rw [List.flatMap_map]
    have e : (t.notes.filter fun n => t.good (xs ++ [n])) = t.notes.filter (t.coming ((k + 1 : Nat) : Int) (last2 xs)) := by
      refine List.filter_congr fun n _ => ?_
      rw [good_app ne, hl]
    rw [e]
    refine fe fun n hn => ?_
    rw [last2_app ne, lastZ_last2 ne, List.map_map]
    refine List.map_congr_left fun c _ => ?_
    have : lastZ [lastZ xs, n] = n := lastZ_app (s := [lastZ xs])
    show xs ++ [n] ++ c = xs ++ (lastZ [lastZ xs, n] :: c)
    rw [this]; simp
def cdic (t : Tk) (d k : Nat) : List (List Int × Int) := (t.tab k).map fun s => (s, t.cnt d k s)
def countsL (t : Tk) : List (List (List Int × Int)) := (List.range t.size.toNat).map fun k => t.cdic (t.size.toNat - 1 - k) k
/-- the ways on from some states at place k -/
def ways (t : Tk) (d k : Nat) (cs : List (List Int)) : List (List Int) := cs.flatMap fun s => (t.conts d k s).map fun c => lastZ s :: c
theorem ways_len {t : Tk} {d k : Nat} {cs : List (List Int)} : ((t.ways d k cs).length : Int) = (cs.map (t.cnt d k)).sum := by
  unfold ways
  rw [sum_len]
  congr 1
  refine List.map_congr_left fun x _ => ?_
  rw [List.length_map]; rfl
theorem conts_ways {t : Tk} {d k : Nat} {s : List Int} : t.conts (d + 1) k s = t.ways d (k + 1) (t.later ((k + 1 : Nat) : Int) s) := rfl
theorem lay_ways {t : Tk} {d : Nat} : t.lay (d + 1) = t.ways d 0 t.starts := by
  rw [show d + 1 = 0 + 1 + d by omega, lay_conts d 0]
  show (t.grow (t.lay 0)).flatMap _ = _
  have e : t.grow (t.lay 0) = t.starts := by
    show ([[]] : List (List Int)).flatMap t.ext = _
    rw [List.flatMap_cons, List.flatMap_nil, List.append_nil]
    unfold ext starts
    have : (t.notes.filter fun n => t.good ([] ++ [n])) = t.notes.filter fun n => decide (t.alone 0 n = []) := List.filter_congr fun n _ => good_one
    rw [this]
    rfl
  rw [e]
  unfold ways starts
  rw [List.flatMap_map, List.flatMap_map]
  have fe : ∀ {α β : Type} {f g : α → List β} {l : List α}, (∀ x ∈ l, f x = g x) → l.flatMap f = l.flatMap g := fun {α β f g l} h => by
    induction l with
    | nil => rfl
    | cons x l ih => rw [List.flatMap_cons, List.flatMap_cons, h x List.mem_cons_self, ih fun y hy => h y (List.mem_cons_of_mem _ hy)]
  exact fe fun n _ => rfl
theorem cnt_nonneg {t : Tk} {d k : Nat} {s : List Int} : 0 ≤ t.cnt d k s := by unfold cnt; omega
theorem ways_at {t : Tk} {d k : Nat} {pre post : List (List Int)} {s : List Int} {m : Nat} (hm : (m : Int) < t.cnt d k s) : (t.ways d k (pre ++ s :: post))[((t.ways d k pre).length + m)]? = ((t.conts d k s)[m]?).map fun c => lastZ s :: c := by
  unfold ways
  rw [List.flatMap_append, List.flatMap_cons, List.getElem?_append_right (by omega), Nat.add_sub_cancel_left, List.getElem?_append_left (by unfold cnt at hm; rw [List.length_map]; omega), List.getElem?_map]
/-- choices are left out as long as the number is not below what they tell -/
theorem whl_pick {v : List Int → Int} {C : Int × List Int × List (List Int) → Res Bool} {F : Int × List Int × List (List Int) → Res (Int × List Int × List (List Int))} {T : List Int → Prop} (hC : ∀ m s cs, T s → C (m, s, cs) = .ok (decide (v s ≤ m)))
    (hF : ∀ m s s' cs, T s → F (m, s, s :: s' :: cs) = .ok (m - v s, s', s' :: cs)) : ∀ (cs : List (List Int)) (s0 : List Int) (m : Int) (N : Nat), (∀ s ∈ s0 :: cs, T s) → m < ((s0 :: cs).map v).sum → 0 ≤ m → cs.length < N →
    ∃ pre s post m', s0 :: cs = pre ++ s :: post ∧ m = (pre.map v).sum + m' ∧ 0 ≤ m' ∧ m' < v s ∧ whlR C F N (m, s0, s0 :: cs) = .ok (m', s, s :: post)
  | [], s0, m, N, hT, hm, h0, hN => by
    obtain ⟨N, rfl⟩ : ∃ k, N = k + 1 := ⟨N - 1, by omega⟩
    have h : ¬ v s0 ≤ m := by simp at hm; omega
    exact ⟨[], s0, [], m, rfl, by simp, h0, by omega, by rw [whlR, hC _ _ _ (hT s0 List.mem_cons_self), Res.bind_ok, decide_eq_false h]; rfl⟩
  | s1 :: cs, s0, m, N, hT, hm, h0, hN => by
    rw [List.length_cons] at hN
    obtain ⟨N, rfl⟩ : ∃ k, N = k + 1 := ⟨N - 1, by omega⟩
    have hs := hT s0 List.mem_cons_self
    by_cases h : v s0 ≤ m
    · rw [List.map_cons, List.sum_cons] at hm
      obtain ⟨pre, s, post, m', e, em, a, b, w⟩ := whl_pick hC hF cs s1 (m - v s0) N (fun s hs => hT s (List.mem_cons_of_mem _ hs)) (by omega) (by omega) (by omega)
      refine ⟨s0 :: pre, s, post, m', by rw [e]; rfl, by rw [List.map_cons, List.sum_cons]; omega, a, b, ?_⟩
      rw [whlR, hC _ _ _ hs, Res.bind_ok, decide_eq_true h, if_pos rfl, hF _ _ _ _ hs, Res.bind_ok]
      exact w
    · exact ⟨[], s0, s1 :: cs, m, rfl, by simp, h0, by omega, by rw [whlR, hC _ _ _ hs, Res.bind_ok, decide_eq_false h]; rfl⟩
end Tk
end PD
/-! Plain: the lines without a fault are those that are grown. -/
namespace PD
open PySem PySem.Spec PySem.W PyProof.Rows
theorem rows_nil {f : Nat → List Str} {n : Nat} : rows f n = [] ↔ ∀ k, k < n → f k = [] := by
  unfold rows
  rw [List.flatMap_eq_nil_iff]
  exact ⟨fun h k hk => List.map_eq_nil_iff.mp (h k (List.mem_range.mpr hk)), fun h k hk => List.map_eq_nil_iff.mpr (h k (List.mem_range.mp hk))⟩
namespace Tk
structure Okk (t : Tk) (xs : List Int) (k : Nat) : Prop where
  a : t.alone k (atZ xs k) = []
  b : 0 < k → t.together k (atZ xs (k - 1)) (atZ xs k) = []
  c : 0 < k → k + 1 < xs.length → t.three k (atZ xs (k - 1)) (atZ xs k) (atZ xs (k + 1)) = []
theorem flts_nil {t : Tk} {xs : List Int} : t.flts xs = [] ↔ ∀ k, k < xs.length → t.Okk xs k := by
  unfold flts
  rw [rows_nil]
  constructor
  · intro h k hk
    have z := h k hk
    unfold nm at z
    rw [List.append_eq_nil_iff, List.append_eq_nil_iff] at z
    obtain ⟨z1, z2, z3⟩ := z
    exact ⟨z1, fun h0 => by rwa [if_pos h0] at z2, fun h0 h1 => by rwa [if_pos ⟨h0, h1⟩] at z3⟩
  · intro h k hk
    obtain ⟨a, b, c⟩ := h k hk
    unfold nm
    rw [List.append_eq_nil_iff, List.append_eq_nil_iff]
    refine ⟨a, ?_, ?_⟩
    · split
      · rename_i h0; exact b h0
      · rfl
    · split
      · rename_i h0; exact c h0.1 h0.2
      · rfl
theorem alone_notes {t : Tk} {p n : Int} (h : t.alone p n = []) : n ∈ t.notes := by
  unfold alone at h
  have z := (List.append_eq_nil_iff.mp h).1
  have z := tag_nil.mp z
  unfold inRngB at z
  unfold notes
  simpa using z
theorem good_iff {t : Tk} {xs : List Int} {n : Int} : t.good (xs ++ [n]) = true ↔ t.alone xs.length n = [] ∧ (0 < xs.length → t.together xs.length (atZ xs ((xs.length : Int) - 1)) n = []) ∧ (1 < xs.length → t.three ((xs.length : Int) - 1) (atZ xs ((xs.length : Int) - 2)) (atZ xs ((xs.length : Int) - 1)) n = []) := by
  unfold good
  have l : (((xs ++ [n]).length : Nat) : Int) = (xs.length : Int) + 1 := by rw [List.length_append, List.length_singleton]; omega
  have l2 : (xs ++ [n]).length = xs.length + 1 := by rw [List.length_append, List.length_singleton]
  rw [l, l2, show (xs.length : Int) + 1 - 1 = (xs.length : Int) by omega, show (xs.length : Int) + 1 - 2 = (xs.length : Int) - 1 by omega, show (xs.length : Int) + 1 - 3 = (xs.length : Int) - 2 by omega, atZ_app_at]
  simp only [Bool.and_eq_true, Bool.or_eq_true, decide_eq_true_eq]
  refine and_congr Iff.rfl (and_congr ⟨fun h h0 => ?_, fun h => ?_⟩ ⟨fun h h0 => ?_, fun h => ?_⟩)
  · rcases h with h | h
    · omega
    · rwa [atZ_app_lt (by omega) (by omega)] at h
  · by_cases h0 : 0 < xs.length
    · right; rw [atZ_app_lt (by omega) (by omega)]; exact h h0
    · left; omega
  · rcases h with h | h
    · omega
    · rwa [atZ_app_lt (by omega) (by omega), atZ_app_lt (by omega) (by omega)] at h
  · by_cases h0 : 1 < xs.length
    · right; rw [atZ_app_lt (by omega) (by omega), atZ_app_lt (by omega) (by omega)]; exact h h0
    · left; omega
theorem flts_app {t : Tk} {xs : List Int} {n : Int} : t.flts (xs ++ [n]) = [] ↔ t.flts xs = [] ∧ t.good (xs ++ [n]) = true := by
  rw [flts_nil, flts_nil, good_iff]
  have l2 : (xs ++ [n]).length = xs.length + 1 := by rw [List.length_append, List.length_singleton]
  constructor
  · intro h
    refine ⟨fun k hk => ?_, ?_, ?_, ?_⟩
    · obtain ⟨a, b, c⟩ := h k (by omega)
      refine ⟨by rwa [atZ_app_lt (by omega) (by omega)] at a, fun h0 => ?_, fun h0 h1 => ?_⟩
      · have := b h0
        rwa [atZ_app_lt (by omega) (by omega), atZ_app_lt (by omega) (by omega)] at this
      · have := c h0 (by omega)
        rwa [atZ_app_lt (by omega) (by omega), atZ_app_lt (by omega) (by omega), atZ_app_lt (by omega) (by omega)] at this
    · have := (h xs.length (by omega)).a
      rwa [atZ_app_at] at this
    · intro h0
      have := (h xs.length (by omega)).b h0
      rwa [atZ_app_at, atZ_app_lt (by omega) (by omega)] at this
    · intro h0
      have := (h (xs.length - 1) (by omega)).c (by omega) (by omega)
      rw [show ((xs.length - 1 : Nat) : Int) = (xs.length : Int) - 1 by omega, show (xs.length : Int) - 1 - 1 = (xs.length : Int) - 2 by omega, show (xs.length : Int) - 1 + 1 = (xs.length : Int) by omega, atZ_app_at, atZ_app_lt (by omega) (by omega), atZ_app_lt (by omega) (by omega)] at this
      exact this
  · rintro ⟨h, a, b, c⟩ k hk
    by_cases e : k = xs.length
    · subst e
      refine ⟨by rw [atZ_app_at]; exact a, fun h0 => by rw [atZ_app_at, atZ_app_lt (by omega) (by omega)]; exact b h0, fun _ h1 => by omega⟩
    · obtain ⟨a', b', c'⟩ := h k (by omega)
      refine ⟨by rw [atZ_app_lt (by omega) (by omega)]; exact a', fun h0 => by rw [atZ_app_lt (by omega) (by omega), atZ_app_lt (by omega) (by omega)]; exact b' h0, fun h0 h1 => ?_⟩
      by_cases e2 : k + 1 = xs.length
      · have := c (by omega)
        rw [show (k : Int) + 1 = (xs.length : Int) by omega, atZ_app_at, atZ_app_lt (by omega) (by omega), atZ_app_lt (by omega) (by omega)]
        rwa [show (xs.length : Int) - 1 = (k : Int) by omega, show (xs.length : Int) - 2 = (k : Int) - 1 by omega] at this
      · rw [atZ_app_lt (by omega) (by omega), atZ_app_lt (by omega) (by omega), atZ_app_lt (by omega) (by omega)]
        exact c' h0 (by omega)
theorem lay_flts {t : Tk} : ∀ (k : Nat) (xs : List Int), xs ∈ t.lay k ↔ xs.length = k ∧ t.flts xs = []
  | 0, xs => by
    show xs ∈ ([[]] : List (List Int)) ↔ _
    rw [List.mem_singleton]
    exact ⟨fun h => by rw [h]; exact ⟨rfl, rfl⟩, fun h => List.length_eq_zero_iff.mp h.1⟩
  | k + 1, xs => by
    show xs ∈ (t.lay k).flatMap t.ext ↔ _
    rw [List.mem_flatMap]
    constructor
    · rintro ⟨ys, h1, h2⟩
      obtain ⟨n, _, h3, rfl⟩ := mem_ext.mp h2
      obtain ⟨h4, h5⟩ := (lay_flts k ys).mp h1
      exact ⟨by rw [List.length_append, List.length_singleton, h4], flts_app.mpr ⟨h5, h3⟩⟩
    · rintro ⟨h1, h2⟩
      have ne : xs ≠ [] := fun z => by rw [z] at h1; simp at h1
      have e := List.dropLast_concat_getLast ne
      rw [← e] at h2
      obtain ⟨h3, h4⟩ := flts_app.mp h2
      exact ⟨xs.dropLast, (lay_flts k _).mpr ⟨by rw [List.length_dropLast]; omega, h3⟩, mem_ext.mpr ⟨_, alone_notes (good_iff.mp h4).1, h4, e.symm⟩⟩
end Tk
end PD
/-! The typed side: places in a list, reversed lists; the number of a line. -/
namespace PD
open PySem PySem.Spec PySem.W PyProof.Rows
def idxR (xs : List (List Int)) (y : List Int) : Res Int := match xs.findIdx? fun z => decide (z = y) with
  | some j => .ok (j : Nat)
  | none => .bad
theorem lay_ints : ∀ ns : List Int, PyData.canLayAll0 (ns.map PyData.int) = true
  | [] => rfl
  | n :: ns => by rw [List.map_cons, PyData.canLayAll0, lay_ints ns]; rfl
theorem dep_ints : ∀ ns : List Int, PyData.depthAll (ns.map PyData.int) = 0
  | [] => rfl
  | n :: ns => by rw [List.map_cons, PyData.depthAll, dep_ints ns]; rfl
theorem lay_intsT : ∀ xs : List (List Int), PyData.canLayAll0 (xs.map fun ns => PyData.tuple (ns.map PyData.int)) = true
  | [] => rfl
  | x :: xs => by rw [List.map_cons, PyData.canLayAll0, lay_intsT xs, PyData.canLay0, lay_ints]; rfl
theorem dep_intsT : ∀ xs : List (List Int), PyData.depthAll (xs.map fun ns => PyData.tuple (ns.map PyData.int)) ≤ 1
  | [] => by decide
  | x :: xs => by rw [List.map_cons, PyData.depthAll, PyData.depth, dep_ints]; have := dep_intsT xs; omega
section
variable {α : Type} {Φ : Fs} {ρ : En} {a b : Ex}
theorem L_idx {ma : Res (List (List Int))} {mb : Res (List Int)} (ha : Rf (eL (eT D.int)) (ev Φ a ρ) ma) (hb : Rf (eT D.int) (ev Φ b ρ) mb) : Rf D.int (ev Φ (.idx a b) ρ) (b2 idxR ma mb) := by
  have v : ev Φ (.idx a b) ρ = (ev Φ a ρ).bind fun x => match x with
    | .lst ys => (ev Φ b ρ).bind (idxL ys)
    | _ => .bad := Eq.trans rfl rfl
  rw [v]
  refine ha.bind fun xs => ?_
  show Rf D.int ((ev Φ b ρ).bind (idxL (xs.map (eT D.int)))) _
  refine hb.bind fun y => ?_
  have e1 : (eT D.int y).py = some (.tuple (y.map PyData.int)) := Cm.hpy (e := eT D.int) y
  have e2 : D.pys (xs.map (eT D.int)) = some (xs.map fun ns => PyData.tuple (ns.map PyData.int)) := pys_cm (e := eT D.int) xs
  unfold idxL
  rw [e1, e2]
  dsimp only
  have s1 : SeqAt.shaped (.tuple (y.map PyData.int)) = true := by
    unfold SeqAt.shaped
    rw [PyData.canLay0, lay_ints, PyData.depth, dep_ints]; rfl
  have s2 : SeqAt.shaped (.list (xs.map fun ns => PyData.tuple (ns.map PyData.int))) = true := by
    unfold SeqAt.shaped
    have := dep_intsT xs
    rw [PyData.canLay0, lay_intsT, PyData.depth, Bool.true_and, decide_eq_true_eq]; omega
  rw [if_pos ⟨s1, s2⟩]
  have e3 : ∀ xs : List (List Int), (xs.map fun ns => PyData.tuple (ns.map PyData.int)).findIdx? (fun z => PyData.eqv z (.tuple (y.map PyData.int))) = xs.findIdx? fun z => decide (z = y) := by
    intro xs
    rw [List.findIdx?_map]
    congr 1
    funext z
    have : PyData.eqv (.tuple (z.map PyData.int)) (.tuple (y.map PyData.int)) = true ↔ z = y := Cm.eqv (e := eT D.int) z y
    show PyData.eqv _ _ = _
    rw [Bool.eq_iff_iff, this, decide_eq_true_eq]
  rw [e3]
  unfold idxR
  cases xs.findIdx? fun z => decide (z = y) with
  | none => exact .bd
  | some j => exact .of rfl
theorem L_rvl {e : α → D} {m : Res (List α)} (h : Rf (eT e) (ev Φ a ρ) m) : Rf (eL e) (ev Φ (.rvl a) ρ) (m.bind fun xs => .ok xs.reverse) := by
  have v : ev Φ (.rvl a) ρ = (ev Φ a ρ).bind rvlD := Eq.trans rfl rfl
  rw [v]
  refine h.bind fun xs => .of ?_
  show Res.ok (D.lst (xs.map e).reverse) = Res.ok (D.lst (xs.reverse.map e))
  rw [List.map_reverse]
end
theorem asc_split {α : Type} {f : α → Int} {cs : List α} {s : α} (h : cs.Pairwise fun x y => f x < f y) (hs : s ∈ cs) : ∃ pre post, cs = pre ++ s :: post ∧ cs.filter (fun x => decide (f x < f s)) = pre ∧ cs.filter (fun x => decide (f x = f s)) = [s] := by
  obtain ⟨pre, post, rfl⟩ := List.append_of_mem hs
  obtain ⟨_, h2, h3⟩ := List.pairwise_append.mp h
  have h4 := (List.pairwise_cons.mp h2).1
  have h5 : ∀ x ∈ pre, f x < f s := fun x hx => h3 x hx s List.mem_cons_self
  refine ⟨pre, post, rfl, ?_, ?_⟩
  · rw [List.filter_append, List.filter_cons, if_neg (by simp), List.filter_eq_self.mpr fun x hx => decide_eq_true (h5 x hx), List.filter_eq_nil_iff.mpr fun x hx => ?_, List.append_nil]
    have := h4 x hx
    simp only [decide_eq_true_eq]; omega
  · rw [List.filter_append, List.filter_cons, if_pos (by simp), List.filter_eq_nil_iff.mpr fun x hx => ?_, List.filter_eq_nil_iff.mpr fun x hx => ?_]
    · rfl
    · have := h4 x hx
      simp only [decide_eq_true_eq]; omega
    · have := h5 x hx
      simp only [decide_eq_true_eq]; omega
theorem findIdx_at {xs : List (List Int)} (hn : xs.Nodup) {j : Nat} {y : List Int} (h : xs[j]? = some y) : xs.findIdx? (fun z => decide (z = y)) = some j := by
  obtain ⟨hl, e⟩ := List.getElem?_eq_some_iff.mp h
  rw [List.findIdx?_eq_some_iff_getElem]
  refine ⟨hl, decide_eq_true e, fun i hi => ?_⟩
  have := (List.pairwise_iff_getElem.mp hn) i j (by omega) hl hi
  simp only [decide_eq_true_eq]
  rw [e] at this
  exact this
theorem at_inj {α : Type} {xs : List α} (hn : xs.Nodup) {i j : Nat} {y : α} (h1 : xs[i]? = some y) (h2 : xs[j]? = some y) : i = j := by
  obtain ⟨a, e1⟩ := List.getElem?_eq_some_iff.mp h1
  obtain ⟨b, e2⟩ := List.getElem?_eq_some_iff.mp h2
  have z := List.pairwise_iff_getElem.mp hn
  by_cases c : i < j
  · exact absurd (e1.trans e2.symm) (z i j a b c)
  · by_cases c2 : j < i
    · exact absurd (e2.trans e1.symm) (z j i b a c2)
    · omega
namespace Tk
theorem ext_nodup {t : Tk} {xs : List Int} : (t.ext xs).Nodup := by
  unfold ext
  refine List.pairwise_map.mpr (List.Pairwise.imp (fun {a b} h e => ?_) ((notes_rising t).filter _))
  have := List.append_cancel_left e
  cases this
  omega
theorem lay_nodup {t : Tk} : ∀ k, (t.lay k).Nodup
  | 0 => List.pairwise_singleton ..
  | k + 1 => by
    show ((t.lay k).flatMap t.ext).Nodup
    refine List.pairwise_flatMap.mpr ⟨fun x _ => ext_nodup, (lay_nodup k).imp fun {a b} h => ?_⟩
    intro c h1 d h2 e
    obtain ⟨n, _, _, e1⟩ := mem_ext.mp h1
    obtain ⟨m, _, _, e2⟩ := mem_ext.mp h2
    rw [e1, e2] at e
    exact h (List.append_inj_left' e rfl)
theorem starts_asc (t : Tk) : t.starts.Pairwise fun x y => lastZ x < lastZ y := by
  unfold starts
  refine List.pairwise_map.mpr (List.Pairwise.imp (fun {a b} h => ?_) ((notes_rising t).filter _))
  exact h
theorem later_asc {t : Tk} {p : Int} {s : List Int} : (t.later p s).Pairwise fun x y => lastZ x < lastZ y := by
  unfold later
  refine List.pairwise_map.mpr (List.Pairwise.imp (fun {a b} h => ?_) ((notes_rising t).filter _))
  have e1 : lastZ [lastZ s, a] = a := lastZ_app (s := [lastZ s])
  have e2 : lastZ [lastZ s, b] = b := lastZ_app (s := [lastZ s])
  rw [e1, e2]; exact h
theorem mem_ways {t : Tk} {d k : Nat} {cs : List (List Int)} {r : List Int} : r ∈ t.ways d k cs ↔ ∃ s ∈ cs, ∃ c ∈ t.conts d k s, r = lastZ s :: c := by
  unfold ways
  rw [List.mem_flatMap]
  constructor
  · rintro ⟨s, h1, h2⟩
    obtain ⟨c, h3, rfl⟩ := List.mem_map.mp h2
    exact ⟨s, h1, c, h3, rfl⟩
  · rintro ⟨s, h1, c, h3, rfl⟩
    exact ⟨s, h1, List.mem_map.mpr ⟨c, h3, rfl⟩⟩
end Tk
end PD
/-! The typed side: min by a key, min with a default. -/
namespace PD
open PySem PySem.Spec PySem.W PyProof.Rows
section
variable {α : Type}
def nxI (r : Res Int) : Res Int := match r with
  | .ok i => .ok i
  | _ => .bad
def keysR (f : α → Res Int) : List α → Res (List Int)
  | [] => .ok []
  | x :: xs => (nxI (f x)).bind fun k => (keysR f xs).bind fun ks => .ok (k :: ks)
def pickR (xs : List α) (ks : List Int) : Res α := match xs[argBest (ltK fun j => ks.getD j 0) (xs.length - 1)]? with
  | some x => .ok x
  | none => .bad
def mnkR (f : α → Res Int) (xs : List α) : Res α := if xs.isEmpty then .bad else (keysR f xs).bind (pickR xs)
def minO : List Int → Option Int
  | [] => none
  | n :: r => some (r.foldl min n)
def mndR (ns : List Int) : Res (Option Int) := .ok (minO ns)
theorem intsO_map : ∀ ns : List Int, D.intsO (ns.map D.int) = some ns
  | [] => rfl
  | n :: ns => by
    rw [List.map_cons]
    show (D.intsO (ns.map D.int)).map (fun r => n :: r) = _
    rw [intsO_map ns]; rfl
variable {Φ : Fs} {ρ : En} {a b : Ex} {i : Nat} {e : α → D}
theorem L_mnd {m : Res (List Int)} (h : Rf (eL D.int) (ev Φ a ρ) m) : Rf (eO D.int) (ev Φ (.mnd a) ρ) (m.bind mndR) := by
  have v : ev Φ (.mnd a) ρ = (ev Φ a ρ).bind mndD := Eq.trans rfl rfl
  rw [v]
  refine h.bind fun ns => .of ?_
  show (match D.intsO (ns.map D.int) with | some ns => Res.ok (mndV ns) | none => .bad) = _
  rw [intsO_map]
  cases ns <;> rfl
theorem mnkL_Rf {fe : En → Res D} {R : α → En} {mk : α → Res Int} (hb : ∀ x, (wipeE ρ [i]).set i (.pl (e x)) = R x) (hk : ∀ x, Rf D.int (fe (R x)) (mk x)) : ∀ (xs : List α) (ks : List Int), keysR mk xs = .ok ks → mnkL fe i ρ (xs.map e) = .ok ks
  | [], ks, h => by cases h; rfl
  | x :: xs, ks, h => by
    unfold keysR at h
    obtain ⟨k, h1, h⟩ := bind_ok h
    obtain ⟨ks', h2, h⟩ := bind_ok h
    cases h
    rw [List.map_cons, mnkL, hb]
    have h3 : mk x = .ok k := by
      unfold nxI at h1
      split at h1
      · rename_i j hj; cases h1; exact hj
      · cases h1
    have h4 : fe (R x) = .ok (.int k) := (hk x).eq h3
    rw [h4]
    show (mnkL fe i ρ (xs.map e)).bind _ = _
    rw [mnkL_Rf hb hk xs ks' h2]; rfl
theorem keysR_noexc {f : α → Res Int} {c : Nat} : ∀ xs : List α, keysR f xs ≠ .exc c
  | [], h => by cases h
  | x :: xs, h => by
    unfold keysR at h
    cases q : nxI (f x) with
    | exc c => unfold nxI at q; split at q <;> cases q
    | bad => rw [q] at h; cases h
    | ok k =>
      rw [q, Res.bind_ok] at h
      cases q2 : keysR f xs with
      | exc c => exact keysR_noexc xs q2
      | bad => rw [q2] at h; cases h
      | ok ks => rw [q2] at h; cases h
theorem L_mnk {R : α → En} {m : Res (List α)} {mk : α → Res Int} (ha : Rf (eL e) (ev Φ a ρ) m) (hb : ∀ x, (wipeE ρ [i]).set i (.pl (e x)) = R x) (hk : ∀ x, Rf D.int (ev Φ b (R x)) (mk x)) : Rf e (ev Φ (.mnk i a b) ρ) (m.bind (mnkR mk)) := by
  have v : ev Φ (.mnk i a b) ρ = (ev Φ a ρ).bind (mnkV (ev Φ b) i ρ) := Eq.trans rfl rfl
  rw [v]
  refine ha.bind fun xs => ?_
  have e1 : mnkV (ev Φ b) i ρ (eL e xs) = if (xs.map e).isEmpty then .bad else (mnkL (ev Φ b) i ρ (xs.map e)).bind (pickD (xs.map e)) := by unfold mnkV eL; rfl
  rw [e1, List.isEmpty_map]
  unfold mnkR
  by_cases hem : xs.isEmpty = true
  · rw [if_pos hem, if_pos hem]; exact .bd
  rw [if_neg hem, if_neg hem]
  cases q : keysR mk xs with
  | exc c => exact absurd q (keysR_noexc xs)
  | bad => exact .bd
  | ok ks =>
    rw [mnkL_Rf hb hk xs ks q, Res.bind_ok, Res.bind_ok]
    unfold pickD pickR
    rw [List.length_map, List.getD_eq_getElem?_getD, List.getElem?_map]
    cases xs[argBest (ltK fun j => ks.getD j 0) (xs.length - 1)]? with
    | none => exact .bd
    | some x => exact .of rfl
/-- the first of the least -/
def firstB (g : α → Int) (x : α) (xs : List α) : α := xs.foldl (fun a y => if g y < g a then y else a) x
theorem keysR_ok {f : α → Res Int} {g : α → Int} : ∀ {xs : List α}, (∀ x ∈ xs, f x = .ok (g x)) → keysR f xs = .ok (xs.map g)
  | [], _ => rfl
  | x :: xs, h => by
    rw [keysR, h x List.mem_cons_self]
    show (keysR f xs).bind _ = _
    rw [keysR_ok fun y hy => h y (List.mem_cons_of_mem _ hy)]; rfl
theorem mnkR_ok {f : α → Res Int} {g : α → Int} {x : α} {xs : List α} (h : ∀ y ∈ x :: xs, f y = .ok (g y)) : mnkR f (x :: xs) = .ok (firstB g x xs) := by
  unfold mnkR
  rw [if_neg (by simp), keysR_ok h, Res.bind_ok]
  unfold pickR
  have e1 : (x :: xs).length - 1 = xs.length := by simp
  rw [e1]
  have e2 := argBest_fold (fun a b => decide (g a < g b)) x x xs xs.length (Nat.le_refl _)
  have e3 : argBest (ltK fun j => ((x :: xs).map g).getD j 0) xs.length = argBest (fun i j => decide (g ((x :: xs).getD i x) < g ((x :: xs).getD j x))) xs.length := by
    have key : ∀ k, k ≤ xs.length → argBest (ltK fun j => ((x :: xs).map g).getD j 0) k = argBest (fun i j => decide (g ((x :: xs).getD i x) < g ((x :: xs).getD j x))) k := by
      intro k
      induction k with
      | zero => intro _; rfl
      | succ k ih =>
        intro hk
        have hle := (argBest_fold (fun a b => decide (g a < g b)) x x xs k (by omega)).1
        have gd : ∀ j, j ≤ xs.length → ((x :: xs).map g).getD j 0 = g ((x :: xs).getD j x) := fun j hj => by
          rw [List.getD_eq_getElem?_getD, List.getD_eq_getElem?_getD, List.getElem?_map, List.getElem?_eq_getElem (by rw [List.length_cons]; omega)]; rfl
        show (if (ltK fun j => ((x :: xs).map g).getD j 0) (k + 1) (argBest (ltK fun j => ((x :: xs).map g).getD j 0) k) = true then k + 1 else argBest (ltK fun j => ((x :: xs).map g).getD j 0) k) = _
        rw [ih (by omega)]
        have e4 : (ltK fun j => ((x :: xs).map g).getD j 0) (k + 1) (argBest (fun i j => decide (g ((x :: xs).getD i x) < g ((x :: xs).getD j x))) k) = decide (g ((x :: xs).getD (k + 1) x) < g ((x :: xs).getD (argBest (fun i j => decide (g ((x :: xs).getD i x) < g ((x :: xs).getD j x))) k) x)) := by
          show decide (((x :: xs).map g).getD (k + 1) 0 < ((x :: xs).map g).getD _ 0) = _
          rw [gd _ (by omega), gd _ (by omega)]
        rw [e4]; rfl
    exact key _ (Nat.le_refl _)
  rw [e3]
  obtain ⟨h1, h2⟩ := e2
  rw [List.take_length] at h2
  have h3 : (x :: xs)[argBest (fun i j => decide (g ((x :: xs).getD i x) < g ((x :: xs).getD j x))) xs.length]? = some (firstB g x xs) := by
    rw [List.getD_eq_getElem?_getD] at h2
    have hl : argBest (fun i j => decide (g ((x :: xs).getD i x) < g ((x :: xs).getD j x))) xs.length < (x :: xs).length := by rw [List.length_cons]; omega
    rw [List.getElem?_eq_getElem hl] at h2 ⊢
    unfold firstB
    simp only [Option.getD_some] at h2
    rw [h2]
    congr 2
    funext a y
    by_cases c : g y < g a
    · rw [if_pos c, if_pos (decide_eq_true c)]
    · rw [if_neg c, if_neg (by simpa using c)]
  rw [h3]
theorem L_dicO {β : Type} {ke : α → D} {ve : β → D} {m : Res (List (α × β))} (h : Rf (eDic ke ve) (ev Φ a ρ) m) : Rf (eDic ke (eO ve)) (ev Φ a ρ) (m.bind fun xs => .ok (xs.map fun p => (p.1, some p.2))) := by
  refine h.to fun xs => .of ?_
  unfold eDic
  rw [List.map_map, List.map_map]
  rfl
end
end PD
/-! The typed side: orders of tuples of several kinds. -/
namespace PD
open PySem PySem.Spec PySem.W PyProof.Rows
section
variable {α β : Type}
instance {e : α → D} {n : Nat} [i : Cm e n] [DecidableEq α] [o : Od e n] : OdA (oA e) (n + 1) where
  lt := fun x y => if x = y then false else o.lt x y
  al := fun x y => by
    show alikeAll [i.py x] [i.py y] = true
    simp only [alikeAll, o.al, Bool.and_self]
  hlt := fun x y => by
    have := lexB_cm (e := e) [x] [y]
    show PyProof.Rows.lexLt itemOrd (keyToksAll [i.py x]) (keyToksAll [i.py y]) = _
    rw [show [i.py x] = [x].map i.py from rfl, show [i.py y] = [y].map i.py from rfl, this]
    rfl
instance {e : α → D} {f : β → List D} {n m : Nat} [i : Cm e n] [j : CmA f m] [DecidableEq α] [DecidableEq β] [o : Od e n] [p : OdA f m] : OdA (cA e f) (max n m + 1) where
  lt := fun x y => if x.1 = y.1 then p.lt x.2 y.2 else o.lt x.1 y.1
  al := fun x y => by
    show alikeAll (i.py x.1 :: j.py x.2) (i.py y.1 :: j.py y.2) = true
    simp only [alikeAll, o.al, p.al, Bool.and_self]
  hlt := fun x y => by
    show PyProof.Rows.lexLt itemOrd (keyToksAll (i.py x.1 :: j.py x.2)) (keyToksAll (i.py y.1 :: j.py y.2)) = _
    rw [dataLt_cons (o.al x.1 y.1), p.hlt, o.hlt]
    by_cases h : x.1 = y.1
    · rw [if_pos ((i.eqv _ _).mpr h), if_pos h]
    · rw [if_neg (fun z => h ((i.eqv _ _).mp z)), if_neg h]
instance {e : α → List D} {n : Nat} [i : CmA e n] [DecidableEq α] [o : OdA e n] : Od (eP e) (n + 1) where
  lt := o.lt
  al := fun x y => by
    show alike (.tuple (i.py x)) (.tuple (i.py y)) = true
    simp only [alike]
    exact o.al x y
  hlt := fun x y => by
    show dataLt (.tuple (i.py x)) (.tuple (i.py y)) = _
    rw [dataLt_tuple]
    exact o.hlt x y
instance {e : α → D} {f : β → List D} {n m : Nat} [i : Cm e n] [j : CmA f m] : So (eP (cA e f)) (max n m + 1 + 1) where
  ok := fun _ => true
  h := fun x _ => ⟨_, _, rfl⟩
end
end PD
/-! Plain: costs of lines, bounds, the first of the cheapest. -/
namespace PD
open PySem PySem.Spec PySem.W PyProof.Rows
abbrev Rw := List (Int × Int)
abbrev Co := Rw × Rw
/-- the cost of so many steps -/
def lstd (rows : Rw) (k : Int) : Int := ((rows.filter fun p => decide (p.1 = k)).map (·.2)).headD 0
/-- a row of costs, steps ascending -/
structure RowOk (rows : Rw) : Prop where
  asc : rows.Pairwise fun p q => p.1 < q.1
  len : rows.length ≤ 10
  rng : ∀ p ∈ rows, 0 ≤ p.1 ∧ 0 ≤ p.2 ∧ p.2 ≤ 999
theorem lstd_rng {rows : Rw} (h : RowOk rows) (k : Int) : 0 ≤ lstd rows k ∧ lstd rows k ≤ 999 := by
  unfold lstd
  cases q : (rows.filter fun p => decide (p.1 = k)).map (·.2) with
  | nil => exact ⟨by decide, by decide⟩
  | cons a r =>
    have : a ∈ (rows.filter fun p => decide (p.1 = k)).map (·.2) := by rw [q]; exact List.mem_cons_self
    obtain ⟨p, hp, rfl⟩ := List.mem_map.mp this
    have := h.rng p (List.mem_filter.mp hp).1
    exact ⟨this.2.1, this.2.2⟩
theorem asc_one {k : Int} : ∀ {rows : Rw}, (rows.Pairwise fun p q => p.1 < q.1) → ((rows.filter fun p => decide (p.1 = k)).map (·.2)).sum = lstd rows k ∧ (rows.filter fun p => decide (p.1 = k)).length ≤ 1
  | [], _ => ⟨rfl, by simp⟩
  | p :: rows, h => by
    obtain ⟨h1, h2⟩ := List.pairwise_cons.mp h
    obtain ⟨i1, i2⟩ := asc_one (k := k) h2
    unfold lstd at *
    rw [List.filter_cons]
    by_cases c : p.1 = k
    · have e : rows.filter (fun p => decide (p.1 = k)) = [] := List.filter_eq_nil_iff.mpr fun q hq => by have := h1 q hq; simp only [decide_eq_true_eq]; omega
      rw [if_pos (decide_eq_true c), e]
      exact ⟨by simp, by simp⟩
    · rw [if_neg (by simpa using c)]
      exact ⟨i1, i2⟩
namespace Tk
def stand (t : Tk) (c : Co) (k n : Int) : Int := lstd c.2 (ab (n - t.und k) % 7)
def mov (c : Co) (l n : Int) : Int := lstd c.1 (ab (n - l))
/-- what a state's last note costs, with the move to it -/
def stp (t : Tk) (c : Co) (k : Int) (s : List Int) : Int := t.stand c k (lastZ s) + if s.length = 2 then mov c (atZ s 0) (atZ s 1) else 0
/-- what notes cost behind a note at place k -/
def costS (t : Tk) (c : Co) : Nat → Int → List Int → Int
  | _, _, [] => 0
  | k, l, n :: r => t.stand c ((k + 1 : Nat) : Int) n + mov c l n + costS t c (k + 1) n r
/-- what a line costs -/
def costL (t : Tk) (c : Co) : List Int → Int
  | [] => 0
  | n :: r => t.stand c 0 n + t.costS c 0 n r
theorem costS_app {t : Tk} {c : Co} : ∀ (xs ys : List Int) (k : Nat) (l : Int), t.costS c k l (xs ++ ys) = t.costS c k l xs + t.costS c (k + xs.length) ((l :: xs).getLastD l) ys
  | [], ys, k, l => by simp [costS]
  | x :: xs, ys, k, l => by
    rw [List.cons_append, costS, costS, costS_app xs ys (k + 1) x]
    have e : (l :: x :: xs).getLastD l = (x :: xs).getLastD x := by simp [List.getLastD]
    rw [e, List.length_cons, show k + 1 + xs.length = k + (xs.length + 1) by omega]
    omega
theorem getLastD_lastZ : ∀ (l : Int) (xs : List Int), (l :: xs).getLastD l = lastZ (l :: xs)
  | l, [] => rfl
  | l, x :: xs => by
    have e : (l :: x :: xs).getLastD l = (x :: xs).getLastD x := by simp [List.getLastD]
    rw [e, getLastD_lastZ x xs]
    unfold lastZ atZ
    simp only [List.length_cons]
    rw [show ((xs.length + 1 + 1 : Nat) : Int) - 1 = ((xs.length + 1 : Nat) : Int) by omega, show ((xs.length + 1 : Nat) : Int) - 1 = (xs.length : Int) by omega, Int.toNat_natCast, Int.toNat_natCast, List.getD_cons_succ]
/-- a line in two parts -/
theorem costL_app {t : Tk} {c : Co} {xs ys : List Int} {k : Nat} (h : xs.length = k + 1) : t.costL c (xs ++ ys) = t.costL c xs + t.costS c k (lastZ xs) ys := by
  cases xs with
  | nil => simp at h
  | cons x xs =>
    rw [List.length_cons] at h
    rw [List.cons_append, costL, costL, costS_app, getLastD_lastZ, show 0 + xs.length = k by omega]
    omega
/-- the least cost of what comes behind a state at place k, d notes long -/
def bd (t : Tk) (c : Co) : Nat → Nat → List Int → Option Int
  | 0, _, _ => some 0
  | d + 1, k, s => minO ((t.later ((k + 1 : Nat) : Int) s).filterMap fun s' => (bd t c d (k + 1) s').map fun b => t.stp c ((k + 1 : Nat) : Int) s' + b)
end Tk
/-! least members -/
theorem foldl_min (n : Int) : ∀ r : List Int, (r.foldl min n ∈ n :: r) ∧ ∀ x ∈ n :: r, r.foldl min n ≤ x
  | [] => ⟨by simp, fun x hx => by rw [List.mem_singleton.mp hx]; exact Int.le_refl _⟩
  | m :: r => by
    obtain ⟨h1, h2⟩ := foldl_min (min n m) r
    rw [List.foldl_cons]
    refine ⟨?_, fun x hx => ?_⟩
    · rcases List.mem_cons.mp h1 with e | e
      · rw [e]
        by_cases h : n ≤ m
        · rw [Int.min_eq_left h]; exact List.mem_cons_self
        · rw [Int.min_eq_right (by omega)]; exact List.mem_cons_of_mem _ List.mem_cons_self
      · exact List.mem_cons_of_mem _ (List.mem_cons_of_mem _ e)
    · have h0 := h2 _ List.mem_cons_self
      rcases List.mem_cons.mp hx with e | hx
      · rw [e]; omega
      · rcases List.mem_cons.mp hx with e | hx
        · rw [e]; omega
        · exact h2 x (List.mem_cons_of_mem _ hx)
theorem minO_some {ns : List Int} {m : Int} : minO ns = some m ↔ m ∈ ns ∧ ∀ x ∈ ns, m ≤ x := by
  cases ns with
  | nil => exact ⟨fun h => (by cases h), fun h => absurd h.1 (by simp)⟩
  | cons n r =>
    obtain ⟨h1, h2⟩ := foldl_min n r
    constructor
    · intro h
      cases h
      exact ⟨h1, h2⟩
    · rintro ⟨h3, h4⟩
      have a := h2 m h3
      have b := h4 _ h1
      show some (r.foldl min n) = some m
      congr 1; omega
theorem minO_none {ns : List Int} : minO ns = none ↔ ns = [] := by
  cases ns with
  | nil => exact ⟨fun _ => rfl, fun _ => rfl⟩
  | cons n r => exact ⟨fun h => (by cases h), fun h => (by cases h)⟩
namespace Tk
/-- the bound is the least cost of the ways on -/
theorem bd_min {t : Tk} {c : Co} : ∀ (d k : Nat) (s : List Int), t.bd c d k s = minO ((t.conts d k s).map (t.costS c k (lastZ s)))
  | 0, k, s => rfl
  | d + 1, k, s => by
    have key : ∀ m, t.bd c (d + 1) k s = some m ↔ minO ((t.conts (d + 1) k s).map (t.costS c k (lastZ s))) = some m := by
      intro m
      have stpE : ∀ s', s' ∈ t.later ((k + 1 : Nat) : Int) s → ∀ r, t.costS c k (lastZ s) (lastZ s' :: r) = t.stp c ((k + 1 : Nat) : Int) s' + t.costS c (k + 1) (lastZ s') r := by
        intro s' hs' r
        obtain ⟨n, _, _, rfl⟩ := mem_later.mp hs'
        rw [costS]
        unfold stp
        rw [if_pos (show [lastZ s, n].length = 2 from rfl)]
        rfl
      rw [bd, minO_some, minO_some, conts]
      have mem : ∀ x, x ∈ ((t.later ((k + 1 : Nat) : Int) s).flatMap fun s' => (t.conts d (k + 1) s').map fun r => lastZ s' :: r).map (t.costS c k (lastZ s)) ↔ ∃ s' ∈ t.later ((k + 1 : Nat) : Int) s, ∃ r ∈ t.conts d (k + 1) s', x = t.stp c ((k + 1 : Nat) : Int) s' + t.costS c (k + 1) (lastZ s') r := by
        intro x
        rw [List.mem_map]
        constructor
        · rintro ⟨y, hy, rfl⟩
          obtain ⟨s', h1, h2⟩ := List.mem_flatMap.mp hy
          obtain ⟨r, h3, rfl⟩ := List.mem_map.mp h2
          exact ⟨s', h1, r, h3, stpE s' h1 r⟩
        · rintro ⟨s', h1, r, h3, rfl⟩
          exact ⟨_, List.mem_flatMap.mpr ⟨s', h1, List.mem_map.mpr ⟨r, h3, rfl⟩⟩, stpE s' h1 r⟩
      have mem2 : ∀ x, x ∈ (t.later ((k + 1 : Nat) : Int) s).filterMap (fun s' => (t.bd c d (k + 1) s').map fun b => t.stp c ((k + 1 : Nat) : Int) s' + b) ↔ ∃ s' ∈ t.later ((k + 1 : Nat) : Int) s, ∃ b, t.bd c d (k + 1) s' = some b ∧ x = t.stp c ((k + 1 : Nat) : Int) s' + b := by
        intro x
        rw [List.mem_filterMap]
        constructor
        · rintro ⟨s', h1, h2⟩
          obtain ⟨b, h3, h4⟩ := Option.map_eq_some_iff.mp h2
          exact ⟨s', h1, b, h3, h4.symm⟩
        · rintro ⟨s', h1, b, h3, rfl⟩
          exact ⟨s', h1, by rw [h3]; rfl⟩
      constructor
      · rintro ⟨h1, h2⟩
        obtain ⟨s', a1, b, a2, rfl⟩ := (mem2 m).mp h1
        rw [bd_min d (k + 1) s'] at a2
        obtain ⟨a3, a4⟩ := minO_some.mp a2
        obtain ⟨r, a5, rfl⟩ := List.mem_map.mp a3
        refine ⟨(mem _).mpr ⟨s', a1, r, a5, rfl⟩, fun x hx => ?_⟩
        obtain ⟨s2, b1, r2, b2, rfl⟩ := (mem x).mp hx
        cases q : t.bd c d (k + 1) s2 with
        | none =>
          rw [bd_min d (k + 1) s2] at q
          have := minO_none.mp q
          rw [List.map_eq_nil_iff] at this
          rw [this] at b2; cases b2
        | some b3 =>
          have h3 := h2 _ ((mem2 _).mpr ⟨s2, b1, b3, q, rfl⟩)
          rw [bd_min d (k + 1) s2] at q
          have := (minO_some.mp q).2 _ (List.mem_map.mpr ⟨r2, b2, rfl⟩)
          omega
      · rintro ⟨h1, h2⟩
        obtain ⟨s', a1, r, a5, rfl⟩ := (mem m).mp h1
        cases q : t.bd c d (k + 1) s' with
        | none =>
          rw [bd_min d (k + 1) s'] at q
          have := minO_none.mp q
          rw [List.map_eq_nil_iff] at this
          rw [this] at a5; cases a5
        | some b =>
          have q2 := q
          rw [bd_min d (k + 1) s'] at q2
          obtain ⟨q3, q4⟩ := minO_some.mp q2
          obtain ⟨r2, q5, e5⟩ := List.mem_map.mp q3
          have e1 := q4 _ (List.mem_map.mpr ⟨r, a5, rfl⟩)
          have e2 := h2 _ ((mem _).mpr ⟨s', a1, r2, q5, rfl⟩)
          rw [e5] at e2
          have e3 : b = t.costS c (k + 1) (lastZ s') r := by omega
          refine ⟨(mem2 _).mpr ⟨s', a1, b, q, by rw [e3]⟩, fun x hx => ?_⟩
          obtain ⟨s2, b1, b2, b3, rfl⟩ := (mem2 x).mp hx
          rw [bd_min d (k + 1) s2] at b3
          obtain ⟨r3, b4, b5⟩ := List.mem_map.mp (minO_some.mp b3).1
          have := h2 _ ((mem _).mpr ⟨s2, b1, r3, b4, rfl⟩)
          rw [b5] at this
          exact this
    cases q : t.bd c (d + 1) k s with
    | some m => exact ((key m).mp q).symm
    | none =>
      cases q2 : minO ((t.conts (d + 1) k s).map (t.costS c k (lastZ s))) with
      | none => rfl
      | some m => rw [(key m).mpr q2] at q; cases q
end Tk
end PD
/-! Plain: note by note, the first of the cheapest lines is found. -/
namespace PD
open PySem PySem.Spec PySem.W PyProof.Rows
section
variable {α : Type} {g : α → Int}
theorem firstB_fix {x : α} : ∀ {xs : List α}, (∀ y ∈ xs, g x ≤ g y) → firstB g x xs = x
  | [], _ => rfl
  | y :: xs, h => by
    unfold firstB
    rw [List.foldl_cons, if_neg (by have := h y List.mem_cons_self; omega)]
    exact firstB_fix fun z hz => h z (List.mem_cons_of_mem _ hz)
theorem firstB_eq {s : α} {post : List α} (h2 : ∀ y ∈ post, g s ≤ g y) : ∀ {pre : List α} {x : α} {xs : List α}, x :: xs = pre ++ s :: post → (∀ y ∈ pre, g s < g y) → firstB g x xs = s
  | [], x, xs, e, _ => by
    cases e
    exact firstB_fix h2
  | p :: pre, x, xs, e, h1 => by
    have ex : x = p := (List.cons.inj e).1
    have exs : xs = pre ++ s :: post := (List.cons.inj e).2
    subst ex exs
    cases pre with
    | nil =>
      show firstB g x (s :: post) = s
      unfold firstB
      rw [List.foldl_cons, if_pos (h1 x List.mem_cons_self)]
      exact firstB_fix h2
    | cons y pre =>
      have i1 := h1 x List.mem_cons_self
      have i2 := h1 y (List.mem_cons_of_mem _ List.mem_cons_self)
      show firstB g x (y :: (pre ++ s :: post)) = s
      unfold firstB
      rw [List.foldl_cons]
      by_cases c : g y < g x
      · rw [if_pos c]
        exact firstB_eq h2 (pre := y :: pre) (x := y) rfl fun z hz => h1 z (List.mem_cons_of_mem _ hz)
      · rw [if_neg c]
        exact firstB_eq h2 (pre := x :: pre) (x := x) rfl fun z hz => (List.mem_cons.mp hz).elim (fun e => by rw [e]; exact i1) fun hz => h1 z (List.mem_cons_of_mem _ (List.mem_cons_of_mem _ hz))
end
theorem ltL_at {a b : Int} (h : a < b) : ∀ (P x y : List Int), ltL (P ++ a :: x) (P ++ b :: y) = true
  | [], x, y => by
    unfold ltL lexB
    simp only [List.nil_append]
    rw [if_neg (by omega)]
    exact decide_eq_true h
  | p :: P, x, y => by
    have := ltL_at h P x y
    unfold ltL at *
    rw [List.cons_append, List.cons_append, lexB, if_pos rfl]
    exact this
namespace Tk
/-- the first of the cheapest lines -/
structure Best (t : Tk) (c : Co) (L : List Int) : Prop where
  mem : L ∈ t.lay t.size.toNat
  low : ∀ L' ∈ t.lay t.size.toNat, t.costL c L ≤ t.costL c L' ∧ (t.costL c L' = t.costL c L → L' = L ∨ ltL L L' = true)
/-- the states that may come at place k behind P -/
def base (t : Tk) (k : Nat) (P : List Int) : List (List Int) := if k = 0 then t.starts else t.later (k : Int) (last2 P)
def gval (t : Tk) (c : Co) (d k : Nat) (s : List Int) : Int := t.stp c (k : Int) s + (t.bd c d k s).getD 0
def cho (t : Tk) (c : Co) (d k : Nat) (P : List Int) : List (List Int) := (t.base k P).filter fun s => (t.bd c d k s).isSome
theorem base_asc {t : Tk} {k : Nat} {P : List Int} : (t.base k P).Pairwise fun x y => lastZ x < lastZ y := by
  unfold base
  split
  · exact starts_asc t
  · exact later_asc
theorem lay_one {t : Tk} : t.lay 1 = t.starts := by
  have := lay_ways (t := t) (d := 0)
  rw [this]
  unfold ways
  have key : ∀ cs : List (List Int), (∀ s ∈ cs, ∃ n, s = [n]) → (cs.flatMap fun s => (t.conts 0 0 s).map fun c => lastZ s :: c) = cs := fun cs => by
    induction cs with
    | nil => intro _; rfl
    | cons s cs ih =>
      intro h
      obtain ⟨n, rfl⟩ := h s List.mem_cons_self
      rw [List.flatMap_cons, ih fun s hs => h s (List.mem_cons_of_mem _ hs)]
      rfl
  exact key _ fun s hs => by
    obtain ⟨n, _, _, rfl⟩ := mem_starts.mp hs
    exact ⟨n, rfl⟩
/-- a state that may come makes the beginning longer -/
theorem base_lay {t : Tk} {k : Nat} {P s : List Int} (hP : P ∈ t.lay k) (hs : s ∈ t.base k P) : P ++ [lastZ s] ∈ t.lay (k + 1) ∧ last2 (P ++ [lastZ s]) = s ∧ ∀ c, t.costL c (P ++ [lastZ s]) = t.costL c P + t.stp c (k : Int) s := by
  have hl := (lay_mem hP).1
  unfold base at hs
  by_cases hk : k = 0
  · subst hk
    rw [if_pos rfl] at hs
    have e : P = [] := List.length_eq_zero_iff.mp hl
    subst e
    obtain ⟨n, h1, h2, rfl⟩ := mem_starts.mp hs
    refine ⟨by rw [Nat.zero_add, lay_one]; exact hs, rfl, fun c => ?_⟩
    show t.stand c 0 n + 0 = 0 + (t.stand c 0 n + 0)
    omega
  · rw [if_neg hk] at hs
    obtain ⟨n, h1, h2, rfl⟩ := mem_later.mp hs
    have ne : P ≠ [] := fun z => by rw [z] at hl; exact hk hl.symm
    have el : lastZ [lastZ (last2 P), n] = n := lastZ_app (s := [lastZ (last2 P)])
    rw [el]
    refine ⟨List.mem_flatMap.mpr ⟨P, hP, mem_ext.mpr ⟨n, h1, ?_, rfl⟩⟩, ?_, fun c => ?_⟩
    · rw [good_app ne, hl]; exact h2
    · rw [last2_app ne, lastZ_last2 ne]
    · rw [costL_app (k := k - 1) (by omega)]
      unfold stp
      rw [if_pos (show [lastZ (last2 P), n].length = 2 from rfl), el, lastZ_last2 ne]
      show t.costL c P + (t.stand c (((k - 1) + 1 : Nat) : Int) n + mov c (lastZ P) n + 0) = t.costL c P + (t.stand c (k : Int) n + mov c (atZ [lastZ P, n] 0) (atZ [lastZ P, n] 1))
      rw [show k - 1 + 1 = k by omega]
      show _ = t.costL c P + (t.stand c (k : Int) n + mov c (lastZ P) n)
      omega
theorem lay_take {t : Tk} : ∀ {i j : Nat} {L : List Int}, L ∈ t.lay (j + i) → L.take j ∈ t.lay j
  | 0, j, L, h => by
    have := (lay_mem h).1
    rw [List.take_of_length_le (by omega)]; exact h
  | i + 1, j, L, h => by
    obtain ⟨xs, h1, h2⟩ := List.mem_flatMap.mp (show L ∈ (t.lay (j + i)).flatMap t.ext from h)
    obtain ⟨n, _, _, rfl⟩ := mem_ext.mp h2
    have hl := (lay_mem h1).1
    have := lay_take (i := i) (j := j) h1
    rw [List.take_append_of_le_length (by omega)]
    exact this
theorem best_step {t : Tk} {c : Co} {L : List Int} (hb : Best t c L) {k : Nat} (hk : k < t.size.toNat) : ∃ pre post, t.cho c (t.size.toNat - 1 - k) k (L.take k) = pre ++ last2 (L.take (k + 1)) :: post ∧ (∀ s ∈ pre, t.gval c (t.size.toNat - 1 - k) k (last2 (L.take (k + 1))) < t.gval c (t.size.toNat - 1 - k) k s) ∧
    (∀ s ∈ post, t.gval c (t.size.toNat - 1 - k) k (last2 (L.take (k + 1))) ≤ t.gval c (t.size.toNat - 1 - k) k s) ∧ lastZ (last2 (L.take (k + 1))) = atZ L k := by
  generalize hd : t.size.toNat - 1 - k = d
  have hn : t.size.toNat = k + 1 + d := by omega
  have hL := hb.mem
  have hlen := (lay_mem hL).1
  have hP : L.take k ∈ t.lay k := lay_take (i := d + 1) (by rw [show k + (d + 1) = t.size.toNat by omega]; exact hL)
  have hlP := (lay_mem hP).1
  -- the line in its parts
  rw [hn, lay_conts] at hL
  obtain ⟨xs, hx, hx2⟩ := List.mem_flatMap.mp hL
  obtain ⟨r0, hr0, eL⟩ := List.mem_map.mp hx2
  have hxl := (lay_mem hx).1
  have ex : L.take (k + 1) = xs := by rw [← eL, List.take_append_of_le_length (by omega), List.take_of_length_le (by omega)]
  rw [ex]
  have hxk : L.take k = xs.take k := by rw [← ex, List.take_take, show min k (k + 1) = k by omega]
  obtain ⟨a, ea⟩ : ∃ a, xs = L.take k ++ [a] := by
    have ne : xs ≠ [] := fun z => by rw [z] at hxl; simp at hxl
    refine ⟨xs.getLast ne, ?_⟩
    rw [hxk]
    conv => lhs; rw [← List.dropLast_concat_getLast ne]
    rw [List.dropLast_eq_take, hxl, Nat.add_sub_cancel]
  have hlz : lastZ (last2 xs) = a := by
    rw [lastZ_last2 (fun z => by rw [z] at hxl; simp at hxl), ea]; exact lastZ_app
  have hak : atZ L k = a := by
    rw [← eL, ea]
    have := atZ_app_lt (xs := L.take k ++ [a]) (ys := r0) (i := (k : Int)) (by omega) (by rw [List.length_append, hlP, List.length_singleton]; omega)
    rw [this]
    have := atZ_app_at (xs := L.take k) (x := a)
    rwa [hlP] at this
  -- its state may come
  have hs : last2 xs ∈ t.base k (L.take k) := by
    unfold base
    by_cases h0 : k = 0
    · subst h0
      rw [if_pos rfl, ← lay_one]
      have : xs = [a] := by rw [ea]; simp
      rw [this] at hx ⊢
      exact hx
    · rw [if_neg h0]
      have ne : L.take k ≠ [] := fun z => by rw [z] at hlP; simp at hlP; omega
      have hx' := hx
      rw [ea] at hx'
      obtain ⟨ys, h1, h2⟩ := List.mem_flatMap.mp (show L.take k ++ [a] ∈ (t.lay k).flatMap t.ext from hx')
      obtain ⟨m, m1, m2, m3⟩ := mem_ext.mp h2
      have e1 := List.append_inj m3 (by rw [hlP, (lay_mem h1).1])
      obtain ⟨e1, e2⟩ := e1
      cases e2
      rw [← e1, good_app ne, hlP] at m2
      rw [ea, last2_app ne]
      exact mem_later.mpr ⟨a, m1, m2, by rw [lastZ_last2 ne]⟩
  have cP : ∀ s ∈ t.base k (L.take k), ∀ r ∈ t.conts d k s, L.take k ++ lastZ s :: r ∈ t.lay t.size.toNat ∧ t.costL c (L.take k ++ lastZ s :: r) = t.costL c (L.take k) + t.stp c (k : Int) s + t.costS c k (lastZ s) r := fun s hs r hr => by
    obtain ⟨h1, h2, h3⟩ := base_lay hP hs
    have e : L.take k ++ lastZ s :: r = (L.take k ++ [lastZ s]) ++ r := by simp
    refine ⟨?_, ?_⟩
    · rw [hn, lay_conts]
      exact List.mem_flatMap.mpr ⟨_, h1, List.mem_map.mpr ⟨r, by rw [h2]; exact hr, e.symm⟩⟩
    · rw [e, costL_app (k := k) (by rw [List.length_append, hlP]; rfl), h3]
      have : lastZ (L.take k ++ [lastZ s]) = lastZ s := lastZ_app
      rw [this]
  have eL2 : L = L.take k ++ lastZ (last2 xs) :: r0 := by
    conv => lhs; rw [← eL, ea]
    rw [hlz]; simp
  have cL := (cP _ hs r0 hr0).2
  rw [← eL2] at cL
  have gv : ∀ s ∈ t.base k (L.take k), ∀ b, t.bd c d k s = some b → ∃ r ∈ t.conts d k s, t.costS c k (lastZ s) r = b ∧ t.costL c (L.take k ++ lastZ s :: r) = t.costL c (L.take k) + (t.stp c (k : Int) s + b) := fun s hs b hbd => by
    rw [bd_min] at hbd
    obtain ⟨r, hr, e⟩ := List.mem_map.mp (minO_some.mp hbd).1
    refine ⟨r, hr, e, ?_⟩
    rw [(cP s hs r hr).2, e]; omega
  -- its bound
  obtain ⟨b0, hb0⟩ : ∃ b0, t.bd c d k (last2 xs) = some b0 := by
    cases q : t.bd c d k (last2 xs) with
    | some b => exact ⟨b, rfl⟩
    | none =>
      rw [bd_min] at q
      have := minO_none.mp q
      rw [List.map_eq_nil_iff] at this
      rw [this] at hr0; cases hr0
  have hbc : t.costL c L = t.costL c (L.take k) + (t.stp c (k : Int) (last2 xs) + b0) := by
    obtain ⟨r, hr, e, ec⟩ := gv _ hs b0 hb0
    have h1 := (hb.low _ (cP _ hs r hr).1).1
    have h2 := hb0
    rw [bd_min] at h2
    have h3 := (minO_some.mp h2).2 _ (List.mem_map.mpr ⟨r0, hr0, rfl⟩)
    omega
  have hcs : last2 xs ∈ t.cho c d k (L.take k) := List.mem_filter.mpr ⟨hs, by rw [hb0]; rfl⟩
  obtain ⟨pre, post, e1, e2, _⟩ := asc_split (f := lastZ) (cs := t.cho c d k (L.take k)) (base_asc.filter _) hcs
  have g0 : t.gval c d k (last2 xs) = t.stp c (k : Int) (last2 xs) + b0 := by unfold gval; rw [hb0]; rfl
  have all : ∀ s ∈ t.cho c d k (L.take k), t.gval c d k (last2 xs) ≤ t.gval c d k s ∧ (lastZ s < lastZ (last2 xs) → t.gval c d k (last2 xs) < t.gval c d k s) := fun s hs' => by
    obtain ⟨m1, m2⟩ := List.mem_filter.mp hs'
    obtain ⟨b, hbs⟩ := Option.isSome_iff_exists.mp m2
    obtain ⟨r, hr, e, ec⟩ := gv s m1 b hbs
    have gs : t.gval c d k s = t.stp c (k : Int) s + b := by unfold gval; rw [hbs]; rfl
    obtain ⟨h1, h2⟩ := hb.low _ (cP s m1 r hr).1
    refine ⟨by omega, fun hlt => ?_⟩
    by_cases c1 : t.gval c d k (last2 xs) < t.gval c d k s
    · exact c1
    · have lt := ltL_at hlt (L.take k) r r0
      rw [← eL2] at lt
      rcases h2 (by omega) with h3 | h3
      · rw [h3, sto_L.irr] at lt; cases lt
      · have := sto_L.tr _ _ _ lt h3; rw [sto_L.irr] at this; cases this
  refine ⟨pre, post, e1, fun s hs' => ?_, fun s hs' => (all s (by rw [e1]; exact List.mem_append_right _ (List.mem_cons_of_mem _ hs'))).1, by rw [hlz, hak]⟩
  rw [← e2] at hs'
  obtain ⟨m1, m2⟩ := List.mem_filter.mp hs'
  exact (all s m1).2 (of_decide_eq_true m2)
end Tk
end PD
/-! Plain: costs as sums. -/
namespace PD
open PySem PySem.Spec PySem.W PyProof.Rows
theorem rangeI_succ (a : Int) (n : Nat) : rangeI a (n + 1) = rangeI a n ++ [a + (n : Int)] := by
  unfold rangeI
  rw [List.range_succ, List.map_append]; rfl
theorem atZ_take {xs : List Int} {k j : Nat} (h : j < k) : atZ (xs.take k) (j : Int) = atZ xs (j : Int) := by
  unfold atZ
  rw [Int.toNat_natCast, List.getD_eq_getElem?_getD, List.getD_eq_getElem?_getD, List.getElem?_take_of_lt h]
theorem take_snoc {xs : List Int} {k : Nat} (h : k < xs.length) : xs.take (k + 1) = xs.take k ++ [atZ xs (k : Int)] := by
  rw [List.take_succ_eq_append_getElem h]
  congr 2
  unfold atZ
  rw [Int.toNat_natCast, List.getD_eq_getElem?_getD, List.getElem?_eq_getElem h]; rfl
namespace Tk
theorem take_cost {t : Tk} {c : Co} {xs : List Int} {k : Nat} (h : k < xs.length) : t.costL c (xs.take (k + 1)) = t.costL c (xs.take k) + t.stand c (k : Int) (atZ xs k) + if 0 < k then mov c (atZ xs ((k : Int) - 1)) (atZ xs k) else 0 := by
  rw [take_snoc h]
  cases k with
  | zero =>
    rw [List.take_zero, if_neg (by omega)]
    show t.stand c 0 (atZ xs 0) + 0 = 0 + t.stand c 0 (atZ xs 0) + 0
    omega
  | succ k =>
    have hl : (xs.take (k + 1)).length = k + 1 := by rw [List.length_take]; omega
    rw [costL_app hl, if_pos (by omega)]
    have e : lastZ (xs.take (k + 1)) = atZ xs (((k + 1 : Nat) : Int) - 1) := by
      rw [take_snoc (by omega), lastZ_app]
      congr 1; omega
    rw [e]
    show _ + (t.stand c ((k + 1 : Nat) : Int) _ + mov c _ _ + 0) = _
    omega
theorem sum_cost {t : Tk} {c : Co} {xs : List Int} : ∀ {n : Nat}, n ≤ xs.length → ((rangeI 0 n).map fun k => t.stand c k (atZ xs k)).sum + ((rangeI 1 (n - 1)).map fun k => mov c (atZ xs (k - 1)) (atZ xs k)).sum = t.costL c (xs.take n)
  | 0, _ => rfl
  | n + 1, h => by
    have ih := sum_cost (t := t) (c := c) (xs := xs) (n := n) (by omega)
    rw [take_cost (by omega), rangeI_succ, List.map_append, List.sum_append, List.map_singleton, List.sum_singleton, show (0 : Int) + (n : Int) = n by omega]
    cases n with
    | zero =>
      rw [if_neg (by omega)]
      have : ((rangeI 1 (0 + 1 - 1)).map fun k => mov c (atZ xs (k - 1)) (atZ xs k)).sum = 0 := rfl
      rw [this]
      have i2 : ((rangeI 0 0).map fun k => t.stand c k (atZ xs k)).sum = 0 := rfl
      have i3 : t.costL c (xs.take 0) = 0 := rfl
      omega
    | succ n =>
      rw [if_pos (by omega), show n + 1 + 1 - 1 = n + 1 by omega, rangeI_succ 1 n, List.map_append, List.sum_append, List.map_singleton, List.sum_singleton]
      rw [show n + 1 - 1 = n by omega] at ih
      have e1 : (1 : Int) + (n : Int) - 1 = ((n + 1 : Nat) : Int) - 1 := by omega
      have e2 : (1 : Int) + (n : Int) = ((n + 1 : Nat) : Int) := by omega
      rw [e1, e2]
      omega
def bndD (t : Tk) (c : Co) (k : Nat) : List (List Int × Option Int) := (t.tab k).map fun s => (s, t.bd c (t.size.toNat - 1 - k) k s)
def boundsL (t : Tk) (c : Co) : List (List (List Int × Option Int)) := (List.range t.size.toNat).map (t.bndD c)
theorem stand_rng {t : Tk} {c : Co} (h : RowOk c.2) (k n : Int) : 0 ≤ t.stand c k n ∧ t.stand c k n ≤ 999 := lstd_rng h _
theorem mov_rng {c : Co} (h : RowOk c.1) (k n : Int) : 0 ≤ mov c k n ∧ mov c k n ≤ 999 := lstd_rng h _
end Tk
end PD
/-! Plain: pairs of costs and lines in order. -/
namespace PD
open PySem PySem.Spec PySem.W PyProof.Rows
def ltC (p q : Int × List Int) : Bool := if p.1 = q.1 then (if p.2 = q.2 then false else ltL p.2 q.2) else decide (p.1 < q.1)
theorem sto_C : Sto ltC := by
  refine ⟨fun x => ?_, fun x y z h1 h2 => ?_, fun x y h1 h2 => ?_⟩
  · unfold ltC; rw [if_pos rfl, if_pos rfl]
  · unfold ltC at *
    by_cases a : x.1 = y.1
    · rw [if_pos a] at h1
      by_cases a2 : x.2 = y.2
      · rw [if_pos a2] at h1; cases h1
      rw [if_neg a2] at h1
      by_cases b : y.1 = z.1
      · rw [if_pos b] at h2
        by_cases b2 : y.2 = z.2
        · rw [if_pos b2] at h2; cases h2
        rw [if_neg b2] at h2
        have t := sto_L.tr _ _ _ h1 h2
        rw [if_pos (a.trans b)]
        by_cases e : x.2 = z.2
        · rw [e, sto_L.irr] at t; cases t
        · rw [if_neg e]; exact t
      · rw [if_neg b] at h2
        rw [if_neg (by rw [a]; exact b), a]; exact h2
    · rw [if_neg a] at h1
      by_cases b : y.1 = z.1
      · rw [if_neg (by rw [← b]; exact a), ← b]; exact h1
      · rw [if_neg b] at h2
        simp only [decide_eq_true_eq] at h1 h2
        rw [if_neg (by omega)]
        exact decide_eq_true (by omega)
  · unfold ltC at *
    by_cases a : x.1 = y.1
    · rw [if_pos a] at h1
      rw [if_pos a.symm] at h2
      by_cases a2 : x.2 = y.2
      · exact Prod.ext a a2
      · rw [if_neg a2] at h1
        rw [if_neg fun z => a2 z.symm] at h2
        exact absurd (sto_L.tot _ _ h1 h2) a2
    · rw [if_neg a] at h1
      rw [if_neg fun z => a z.symm] at h2
      simp only [decide_eq_false_iff_not] at h1 h2
      omega
theorem sortR_C {xs : List (Int × List Int)} (hl : xs.length ≤ 16777216) : sortR (eP (cA D.int (oA (eT D.int)))) xs = .ok (xs.mergeSort (leO ltC)) := by
  unfold sortR
  have ha : xs.all (So.ok (eP (cA D.int (oA (eT D.int))))) = true := by
    rw [List.all_eq_true]
    intro x hx
    rfl
  rw [if_pos ⟨ha, by rw [sizeLine_eq]; exact hl⟩]
  rfl
/-- the first of the sorted ones is below all -/
theorem sort_head {α : Type} {lt : α → α → Bool} (h : Sto lt) {xs : List α} (hx : xs ≠ []) : ∃ m r, xs.mergeSort (leO lt) = m :: r ∧ m ∈ xs ∧ ∀ x ∈ xs, lt x m = false := by
  have hp := List.mergeSort_perm xs (leO lt)
  have hs := sort_sorted h xs
  cases q : xs.mergeSort (leO lt) with
  | nil =>
    rw [q] at hp
    exact absurd (List.nil_perm.mp hp) hx
  | cons m r =>
    rw [q] at hp hs
    refine ⟨m, r, rfl, hp.mem_iff.mp List.mem_cons_self, fun x hx' => ?_⟩
    rcases List.mem_cons.mp (hp.mem_iff.mpr hx') with e | e
    · rw [e]; exact h.irr m
    · have := (List.pairwise_cons.mp hs).1 x e
      unfold leO at this
      simpa using this
namespace Tk
theorem best_sort {t : Tk} {c : Co} (hx : t.lay t.size.toNat ≠ []) : ∃ L r, ((t.lay t.size.toNat).map fun L => (t.costL c L, L)).mergeSort (leO ltC) = (t.costL c L, L) :: r ∧ Best t c L := by
  obtain ⟨m, r, e, h1, h2⟩ := sort_head sto_C (xs := (t.lay t.size.toNat).map fun L => (t.costL c L, L)) (by simpa using hx)
  obtain ⟨L, hL, rfl⟩ := List.mem_map.mp h1
  refine ⟨L, r, e, hL, fun L' hL' => ?_⟩
  have := h2 _ (List.mem_map.mpr ⟨L', hL', rfl⟩)
  unfold ltC at this
  dsimp only at this
  by_cases a : t.costL c L' = t.costL c L
  · rw [if_pos a] at this
    refine ⟨by omega, fun _ => ?_⟩
    by_cases a2 : L' = L
    · exact .inl a2
    · rw [if_neg a2] at this
      right
      cases q : ltL L L' with
      | true => rfl
      | false => exact absurd (sto_L.tot _ _ this q) a2
  · rw [if_neg a] at this
    simp only [decide_eq_false_iff_not] at this
    exact ⟨by omega, fun z => absurd z a⟩
end Tk
end PD
/-! list(d.keys()), list(d.values()) of typed dicts. -/
namespace PD
open PySem L2
section
variable {Φ : Fs} {ρ : En} {a : Ex} {β : Type}
theorem keys_ints (ks : List (List Int)) : (ks.map (eT D.int)).all keyIB = true := by
  rw [List.all_map, List.all_eq_true]
  intro k _
  show (k.map D.int).all intB = true
  rw [List.all_map, List.all_eq_true]
  intro i _; rfl
theorem L_keys {ve : β → D} {m : Res (List (List Int × β))} (h : Rf (eDic (eT D.int) ve) (ev Φ a ρ) m) : Rf (eL (eT D.int)) (ev Φ (.kvl false a) ρ) (m.bind fun xs => .ok (xs.map (·.1))) := by
  have v : ev Φ (.kvl false a) ρ = (ev Φ a ρ).bind (kvlD false) := Eq.trans rfl rfl
  rw [v]
  refine h.bind fun xs => .of ?_
  have e : (xs.map fun p => eT D.int p.1) = (xs.map (·.1)).map (eT D.int) := by rw [List.map_map]; rfl
  unfold eDic kvlD
  rw [e]
  simp only [Bool.false_eq_true, if_false]
  rw [if_pos (keys_ints _)]; rfl
theorem L_vals {κ : Type} {ke : κ → D} {ve : β → D} {m : Res (List (κ × β))} (h : Rf (eDic ke ve) (ev Φ a ρ) m) : Rf (eL ve) (ev Φ (.kvl true a) ρ) (m.bind fun xs => .ok (xs.map (·.2))) := by
  have v : ev Φ (.kvl true a) ρ = (ev Φ a ρ).bind (kvlD true) := Eq.trans rfl rfl
  rw [v]
  refine h.bind fun xs => .of ?_
  unfold eDic kvlD
  simp only [if_true]
  show Res.ok (D.lst (xs.map fun p => ve p.2)) = Res.ok (D.lst ((xs.map (·.2)).map ve))
  rw [List.map_map]; rfl
end
/-- what is kept is owned by none: nothing changes (for long lists) -/
theorem dem_keep {ρ : En} : ∀ {es : List Nat}, es.all (fun i => (ρ.sl i).own.isNone) = true → demE es ρ = ρ
  | [], _ => rfl
  | i :: es, h => by
    rw [List.all_cons, Bool.and_eq_true] at h
    unfold demE
    cases q : (ρ.sl i).own with
    | some d => rw [q] at h; exact absurd h.1 (by simp)
    | none => exact dem_keep h.2
end PD
/-! Bounds that prove that no line costs less. -/
namespace PD
open PySem L2
abbrev Rb := List (List Int × Int)
/-- the number that stands first for a state -/
def look (rows : Rb) (s : List Int) : Option Int := ((rows.filter fun p => decide (p.1 = s)).map (·.2)).head?
def rowAt (bs : List Rb) (k : Int) : Rb := bs.getD k.toNat []
theorem look_map {f : List Int → Int} : ∀ {xs : List (List Int)} {s : List Int}, s ∈ xs → look (xs.map fun s => (s, f s)) s = some (f s)
  | x :: xs, s, h => by
    by_cases e : x = s
    · subst e
      unfold look
      rw [List.map_cons, List.filter_cons_of_pos (by simp)]; rfl
    · have h' : s ∈ xs := by
        rcases List.mem_cons.mp h with z | z
        · exact absurd z.symm e
        · exact z
      have := look_map (f := f) h'
      unfold look at this ⊢
      rw [List.map_cons, List.filter_cons_of_neg (by simpa using e)]
      exact this
namespace Tk
def over (rows : Rb) (cost m : Int) (o : List Int) : Bool := match look rows o with
  | none => true
  | some m' => decide (cost + m' < m)
/-- does the rows' bound of some state not hold -/
def openB (t : Tk) (c : Co) (bs : List Rb) (k : Int) (p : List Int × Int) : Bool := (t.later k p.1).any fun o => over (rowAt bs k) (t.stp c k o) p.2 o
/-- do bounds prove that no line costs less -/
def provB (t : Tk) (c : Co) (bs : List Rb) (least : Int) : Bool :=
  if t.starts.any (fun s => over (rowAt bs 0) (t.stp c 0 s) least s) = true then false
  else if (rangeI 1 (t.size.toNat - 1)).any (fun k => (rowAt bs (k - 1)).any (t.openB c bs k)) = true then false
  else (rowAt bs (t.size - 1)).all fun p => decide (p.2 ≤ 0)
def top (t : Tk) : Int := 2000 * t.size
def tld (t : Tk) (c : Co) (k : Nat) : Rb := (t.tab k).map fun s => (s, (t.bd c (t.size.toNat - 1 - k) k s).getD t.top)
def toldL (t : Tk) (c : Co) : List Rb := (List.range t.size.toNat).map (t.tld c)
theorem rowAt_told {t : Tk} {c : Co} {k : Nat} (hk : k < t.size.toNat) : rowAt (t.toldL c) (k : Int) = t.tld c k := by
  unfold rowAt toldL
  rw [Int.toNat_natCast, List.getD_eq_getElem?_getD, List.getElem?_map, List.getElem?_range hk]; rfl
section
variable {t : Tk} {c : Co}
theorem stp_rng (ha : RowOk c.1) (hb : RowOk c.2) (k : Int) (s : List Int) : 0 ≤ t.stp c k s ∧ t.stp c k s ≤ 1998 := by
  have h1 := stand_rng (t := t) hb k (lastZ s)
  have h2 := lstd_rng ha (ab (atZ s 1 - atZ s 0))
  unfold stp mov
  split <;> omega
theorem bd_rng (ha : RowOk c.1) (hb : RowOk c.2) : ∀ {d k : Nat} {s : List Int} {m : Int}, t.bd c d k s = some m → 0 ≤ m ∧ m ≤ 1998 * (d : Int)
  | 0, k, s, m, h => by cases h; exact ⟨Int.le_refl _, Int.le_refl _⟩
  | d + 1, k, s, m, h => by
    unfold bd at h
    obtain ⟨s', _, h1⟩ := List.mem_filterMap.mp (minO_some.mp h).1
    cases q : t.bd c d (k + 1) s' with
    | none => rw [q] at h1; cases h1
    | some b =>
      rw [q] at h1
      cases h1
      have := bd_rng ha hb q
      have := stp_rng (t := t) ha hb ((k + 1 : Nat) : Int) s'
      dsimp only
      omega
theorem bd_step {d k : Nat} {s o : List Int} {b : Int} (ho : o ∈ t.later ((k + 1 : Nat) : Int) s) (h : t.bd c d (k + 1) o = some b) : ∃ m, t.bd c (d + 1) k s = some m ∧ m ≤ t.stp c ((k + 1 : Nat) : Int) o + b := by
  have hm : t.stp c ((k + 1 : Nat) : Int) o + b ∈ (t.later ((k + 1 : Nat) : Int) s).filterMap fun s' => (t.bd c d (k + 1) s').map fun b => t.stp c ((k + 1 : Nat) : Int) s' + b :=
    List.mem_filterMap.mpr ⟨o, ho, by rw [h]; rfl⟩
  cases q : t.bd c (d + 1) k s with
  | none =>
    unfold bd at q
    rw [minO_none.mp q] at hm
    cases hm
  | some m =>
    refine ⟨m, rfl, ?_⟩
    unfold bd at q
    exact (minO_some.mp q).2 _ hm
theorem start_line {d : Nat} {s : List Int} {m : Int} (hs : s ∈ t.starts) (h : t.bd c d 0 s = some m) : ∃ L ∈ t.lay (d + 1), t.costL c L = t.stp c 0 s + m := by
  rw [bd_min] at h
  obtain ⟨r, hr, e⟩ := List.mem_map.mp (minO_some.mp h).1
  refine ⟨lastZ s :: r, by rw [lay_ways]; exact mem_ways.mpr ⟨s, hs, r, hr, rfl⟩, ?_⟩
  obtain ⟨n, _, _, rfl⟩ := mem_starts.mp hs
  rw [costL, ← e]
  unfold stp
  rw [if_neg (by simp)]
  omega
theorem costS_rng (ha : RowOk c.1) (hb : RowOk c.2) : ∀ (r : List Int) (k : Nat) (l : Int), 0 ≤ t.costS c k l r ∧ t.costS c k l r ≤ 1998 * (r.length : Int)
  | [], _, _ => by rw [costS]; exact ⟨Int.le_refl _, Int.le_refl _⟩
  | n :: r, k, l => by
    rw [costS, List.length_cons]
    have := costS_rng ha hb r (k + 1) n
    have := stand_rng (t := t) hb ((k + 1 : Nat) : Int) n
    have := mov_rng ha l n
    omega
theorem costL_rng (ha : RowOk c.1) (hb : RowOk c.2) (L : List Int) : 0 ≤ t.costL c L ∧ t.costL c L ≤ 1998 * (L.length : Int) := by
  cases L with
  | nil => rw [costL]; exact ⟨Int.le_refl _, Int.le_refl _⟩
  | cons n r =>
    rw [costL, List.length_cons]
    have := costS_rng (t := t) ha hb r 0 n
    have := stand_rng (t := t) hb 0 n
    omega
/-- the program's own bounds prove what the best line costs -/
theorem prov_told (ha : RowOk c.1) (hb : RowOk c.2) (h2 : 2 ≤ t.size) {L : List Int} (hB : Best t c L) (hl : (L.length : Int) = t.size) : t.provB c (t.toldL c) (t.costL c L) = true := by
  have h3 : (t.size.toNat : Int) = t.size := by omega
  unfold provB
  rw [if_neg, if_neg]
  · have := rowAt_told (t := t) (c := c) (k := t.size.toNat - 1) (by omega)
    rw [show ((t.size.toNat - 1 : Nat) : Int) = t.size - 1 by omega] at this
    rw [this]
    refine List.all_eq_true.mpr fun p hp => ?_
    obtain ⟨s, _, rfl⟩ := List.mem_map.mp hp
    rw [show t.size.toNat - 1 - (t.size.toNat - 1) = 0 by omega]
    exact decide_eq_true (by show (some 0 : Option Int).getD t.top ≤ 0; exact Int.le_refl _)
  · rw [Bool.not_eq_true, List.any_eq_false]
    intro k hk
    have hk := mem_rangeI.mp hk
    obtain ⟨j, rfl⟩ : ∃ j : Nat, k = ((j + 1 : Nat) : Int) := ⟨(k - 1).toNat, by omega⟩
    have hj : j + 1 < t.size.toNat := by omega
    rw [show (((j + 1 : Nat) : Int) - 1) = (j : Int) by omega, rowAt_told (k := j) (by omega), Bool.not_eq_true, List.any_eq_false]
    intro p hp
    obtain ⟨s, hs, rfl⟩ := List.mem_map.mp hp
    unfold openB
    rw [Bool.not_eq_true, List.any_eq_false]
    intro o ho
    have mo : o ∈ t.tab (j + 1) := mem_tabS.mpr ⟨s, hs, ho⟩
    unfold over
    rw [rowAt_told hj]
    unfold tld
    rw [look_map mo]
    have st := stp_rng (t := t) ha hb ((j + 1 : Nat) : Int) o
    rw [Bool.not_eq_true]
    refine decide_eq_false ?_
    show ¬ (t.stp c ((j + 1 : Nat) : Int) o + (t.bd c (t.size.toNat - 1 - (j + 1)) (j + 1) o).getD t.top < (t.bd c (t.size.toNat - 1 - j) j s).getD t.top)
    obtain ⟨d, hd⟩ : ∃ d, t.size.toNat - 1 - (j + 1) = d := ⟨_, rfl⟩
    rw [hd, show t.size.toNat - 1 - j = d + 1 by omega]
    cases q : t.bd c d (j + 1) o with
    | some b =>
      obtain ⟨m, h1, h2⟩ := bd_step ho q
      rw [h1]
      show ¬ (_ + b < m)
      omega
    | none =>
      show ¬ (_ + t.top < _)
      cases q2 : t.bd c (d + 1) j s with
      | none => show ¬ (_ + t.top < t.top); omega
      | some m =>
        have := bd_rng ha hb q2
        show ¬ (_ + t.top < m)
        unfold top
        omega
  · rw [Bool.not_eq_true, List.any_eq_false]
    intro s hs
    have := rowAt_told (t := t) (c := c) (k := 0) (by omega)
    rw [show ((0 : Nat) : Int) = 0 from rfl] at this
    unfold over
    rw [this]
    unfold tld
    rw [look_map (show s ∈ t.tab 0 from hs), Nat.sub_zero, Bool.not_eq_true]
    refine decide_eq_false ?_
    show ¬ (t.stp c 0 s + (t.bd c (t.size.toNat - 1) 0 s).getD t.top < t.costL c L)
    have st := stp_rng (t := t) ha hb 0 s
    cases q : t.bd c (t.size.toNat - 1) 0 s with
    | none =>
      have := costL_rng (t := t) ha hb L
      show ¬ (_ + t.top < _)
      unfold top
      omega
    | some m =>
      obtain ⟨L', h1, h2⟩ := start_line hs q
      rw [show t.size.toNat - 1 + 1 = t.size.toNat by omega] at h1
      have := (hB.low L' h1).1
      show ¬ (_ + m < _)
      omega
end
end Tk
end PD
/-! Plain: how far lines are from a wish, bounds, the first of the nearest (printed by mkLN.py). -/
namespace PD
open PySem PySem.Spec PySem.W PyProof.Rows L2
namespace Tk
def standW (t : Tk) (c : List Int) (k n : Int) : Int := if n = atZ c k then 0 else 1
def movW (c : List Int) (l n : Int) : Int := 0
theorem stand_rngW {t : Tk} {c : List Int} (k n : Int) : 0 ≤ t.standW c k n ∧ t.standW c k n ≤ 1 := by unfold standW; split <;> omega
theorem mov_rngW {c : List Int} (l n : Int) : 0 ≤ movW c l n ∧ movW c l n ≤ 0 := by unfold movW; omega
section
variable {t : Tk} {c : List Int}
/-- what a state's last note costs, with the move to it -/
def stpW (t : Tk) (c : List Int) (k : Int) (s : List Int) : Int := t.standW c k (lastZ s) + if s.length = 2 then movW c (atZ s 0) (atZ s 1) else 0
/-- what notes cost behind a note at place k -/
def costSW (t : Tk) (c : List Int) : Nat → Int → List Int → Int
  | _, _, [] => 0
  | k, l, n :: r => t.standW c ((k + 1 : Nat) : Int) n + movW c l n + costSW t c (k + 1) n r
/-- what a line costs -/
def costLW (t : Tk) (c : List Int) : List Int → Int
  | [] => 0
  | n :: r => t.standW c 0 n + t.costSW c 0 n r
theorem costS_appW {t : Tk} {c : List Int} : ∀ (xs ys : List Int) (k : Nat) (l : Int), t.costSW c k l (xs ++ ys) = t.costSW c k l xs + t.costSW c (k + xs.length) ((l :: xs).getLastD l) ys
  | [], ys, k, l => by simp [costSW]
  | x :: xs, ys, k, l => by
    rw [List.cons_append, costSW, costSW, costS_appW xs ys (k + 1) x]
    have e : (l :: x :: xs).getLastD l = (x :: xs).getLastD x := by simp [List.getLastD]
    rw [e, List.length_cons, show k + 1 + xs.length = k + (xs.length + 1) by omega]
    omega
/-- a line in two parts -/
theorem costL_appW {t : Tk} {c : List Int} {xs ys : List Int} {k : Nat} (h : xs.length = k + 1) : t.costLW c (xs ++ ys) = t.costLW c xs + t.costSW c k (lastZ xs) ys := by
  cases xs with
  | nil => simp at h
  | cons x xs =>
    rw [List.length_cons] at h
    rw [List.cons_append, costLW, costLW, costS_appW, getLastD_lastZ, show 0 + xs.length = k by omega]
    omega
/-- the least cost of what comes behind a state at place k, d notes long -/
def bdW (t : Tk) (c : List Int) : Nat → Nat → List Int → Option Int
  | 0, _, _ => some 0
  | d + 1, k, s => minO ((t.later ((k + 1 : Nat) : Int) s).filterMap fun s' => (bdW t c d (k + 1) s').map fun b => t.stpW c ((k + 1 : Nat) : Int) s' + b)
/-- the bound is the least cost of the ways on -/
theorem bd_minW {t : Tk} {c : List Int} : ∀ (d k : Nat) (s : List Int), t.bdW c d k s = minO ((t.conts d k s).map (t.costSW c k (lastZ s)))
  | 0, k, s => rfl
  | d + 1, k, s => by
    have key : ∀ m, t.bdW c (d + 1) k s = some m ↔ minO ((t.conts (d + 1) k s).map (t.costSW c k (lastZ s))) = some m := by
      intro m
      have stpE : ∀ s', s' ∈ t.later ((k + 1 : Nat) : Int) s → ∀ r, t.costSW c k (lastZ s) (lastZ s' :: r) = t.stpW c ((k + 1 : Nat) : Int) s' + t.costSW c (k + 1) (lastZ s') r := by
        intro s' hs' r
        obtain ⟨n, _, _, rfl⟩ := mem_later.mp hs'
        rw [costSW]
        unfold stpW
        rw [if_pos (show [lastZ s, n].length = 2 from rfl)]
        rfl
      rw [bdW, minO_some, minO_some, conts]
      have mem : ∀ x, x ∈ ((t.later ((k + 1 : Nat) : Int) s).flatMap fun s' => (t.conts d (k + 1) s').map fun r => lastZ s' :: r).map (t.costSW c k (lastZ s)) ↔ ∃ s' ∈ t.later ((k + 1 : Nat) : Int) s, ∃ r ∈ t.conts d (k + 1) s', x = t.stpW c ((k + 1 : Nat) : Int) s' + t.costSW c (k + 1) (lastZ s') r := by
        intro x
        rw [List.mem_map]
        constructor
        · rintro ⟨y, hy, rfl⟩
          obtain ⟨s', h1, h2⟩ := List.mem_flatMap.mp hy
          obtain ⟨r, h3, rfl⟩ := List.mem_map.mp h2
          exact ⟨s', h1, r, h3, stpE s' h1 r⟩
        · rintro ⟨s', h1, r, h3, rfl⟩
          exact ⟨_, List.mem_flatMap.mpr ⟨s', h1, List.mem_map.mpr ⟨r, h3, rfl⟩⟩, stpE s' h1 r⟩
      have mem2 : ∀ x, x ∈ (t.later ((k + 1 : Nat) : Int) s).filterMap (fun s' => (t.bdW c d (k + 1) s').map fun b => t.stpW c ((k + 1 : Nat) : Int) s' + b) ↔ ∃ s' ∈ t.later ((k + 1 : Nat) : Int) s, ∃ b, t.bdW c d (k + 1) s' = some b ∧ x = t.stpW c ((k + 1 : Nat) : Int) s' + b := by
        intro x
        rw [List.mem_filterMap]
        constructor
        · rintro ⟨s', h1, h2⟩
          obtain ⟨b, h3, h4⟩ := Option.map_eq_some_iff.mp h2
          exact ⟨s', h1, b, h3, h4.symm⟩
        · rintro ⟨s', h1, b, h3, rfl⟩
          exact ⟨s', h1, by rw [h3]; rfl⟩
      constructor
      · rintro ⟨h1, h2⟩
        obtain ⟨s', a1, b, a2, rfl⟩ := (mem2 m).mp h1
        rw [bd_minW d (k + 1) s'] at a2
        obtain ⟨a3, a4⟩ := minO_some.mp a2
        obtain ⟨r, a5, rfl⟩ := List.mem_map.mp a3
        refine ⟨(mem _).mpr ⟨s', a1, r, a5, rfl⟩, fun x hx => ?_⟩
        obtain ⟨s2, b1, r2, b2, rfl⟩ := (mem x).mp hx
        cases q : t.bdW c d (k + 1) s2 with
        | none =>
          rw [bd_minW d (k + 1) s2] at q
          have := minO_none.mp q
          rw [List.map_eq_nil_iff] at this
          rw [this] at b2; cases b2
        | some b3 =>
          have h3 := h2 _ ((mem2 _).mpr ⟨s2, b1, b3, q, rfl⟩)
          rw [bd_minW d (k + 1) s2] at q
          have := (minO_some.mp q).2 _ (List.mem_map.mpr ⟨r2, b2, rfl⟩)
          omega
      · rintro ⟨h1, h2⟩
        obtain ⟨s', a1, r, a5, rfl⟩ := (mem m).mp h1
        cases q : t.bdW c d (k + 1) s' with
        | none =>
          rw [bd_minW d (k + 1) s'] at q
          have := minO_none.mp q
          rw [List.map_eq_nil_iff] at this
          rw [this] at a5; cases a5
        | some b =>
          have q2 := q
          rw [bd_minW d (k + 1) s'] at q2
          obtain ⟨q3, q4⟩ := minO_some.mp q2
          obtain ⟨r2, q5, e5⟩ := List.mem_map.mp q3
          have e1 := q4 _ (List.mem_map.mpr ⟨r, a5, rfl⟩)
          have e2 := h2 _ ((mem _).mpr ⟨s', a1, r2, q5, rfl⟩)
          rw [e5] at e2
          have e3 : b = t.costSW c (k + 1) (lastZ s') r := by omega
          refine ⟨(mem2 _).mpr ⟨s', a1, b, q, by rw [e3]⟩, fun x hx => ?_⟩
          obtain ⟨s2, b1, b2, b3, rfl⟩ := (mem2 x).mp hx
          rw [bd_minW d (k + 1) s2] at b3
          obtain ⟨r3, b4, b5⟩ := List.mem_map.mp (minO_some.mp b3).1
          have := h2 _ ((mem _).mpr ⟨s2, b1, r3, b4, rfl⟩)
          rw [b5] at this
          exact this
    cases q : t.bdW c (d + 1) k s with
    | some m => exact ((key m).mp q).symm
    | none =>
      cases q2 : minO ((t.conts (d + 1) k s).map (t.costSW c k (lastZ s))) with
      | none => rfl
      | some m => rw [(key m).mpr q2] at q; cases q
/-- the first of the cheapest lines -/
structure BestW (t : Tk) (c : List Int) (L : List Int) : Prop where
  mem : L ∈ t.lay t.size.toNat
  low : ∀ L' ∈ t.lay t.size.toNat, t.costLW c L ≤ t.costLW c L' ∧ (t.costLW c L' = t.costLW c L → L' = L ∨ ltL L L' = true)
def gvalW (t : Tk) (c : List Int) (d k : Nat) (s : List Int) : Int := t.stpW c (k : Int) s + (t.bdW c d k s).getD 0
def choW (t : Tk) (c : List Int) (d k : Nat) (P : List Int) : List (List Int) := (t.base k P).filter fun s => (t.bdW c d k s).isSome
/-- a state that may come makes the beginning longer -/
theorem base_layW {t : Tk} {k : Nat} {P s : List Int} (hP : P ∈ t.lay k) (hs : s ∈ t.base k P) : P ++ [lastZ s] ∈ t.lay (k + 1) ∧ last2 (P ++ [lastZ s]) = s ∧ ∀ c, t.costLW c (P ++ [lastZ s]) = t.costLW c P + t.stpW c (k : Int) s := by
  have hl := (lay_mem hP).1
  unfold base at hs
  by_cases hk : k = 0
  · subst hk
    rw [if_pos rfl] at hs
    have e : P = [] := List.length_eq_zero_iff.mp hl
    subst e
    obtain ⟨n, h1, h2, rfl⟩ := mem_starts.mp hs
    refine ⟨by rw [Nat.zero_add, lay_one]; exact hs, rfl, fun c => ?_⟩
    show t.standW c 0 n + 0 = 0 + (t.standW c 0 n + 0)
    omega
  · rw [if_neg hk] at hs
    obtain ⟨n, h1, h2, rfl⟩ := mem_later.mp hs
    have ne : P ≠ [] := fun z => by rw [z] at hl; exact hk hl.symm
    have el : lastZ [lastZ (last2 P), n] = n := lastZ_app (s := [lastZ (last2 P)])
    rw [el]
    refine ⟨List.mem_flatMap.mpr ⟨P, hP, mem_ext.mpr ⟨n, h1, ?_, rfl⟩⟩, ?_, fun c => ?_⟩
    · rw [good_app ne, hl]; exact h2
    · rw [last2_app ne, lastZ_last2 ne]
    · rw [costL_appW (k := k - 1) (by omega)]
      unfold stpW
      rw [if_pos (show [lastZ (last2 P), n].length = 2 from rfl), el, lastZ_last2 ne]
      show t.costLW c P + (t.standW c (((k - 1) + 1 : Nat) : Int) n + movW c (lastZ P) n + 0) = t.costLW c P + (t.standW c (k : Int) n + movW c (atZ [lastZ P, n] 0) (atZ [lastZ P, n] 1))
      rw [show k - 1 + 1 = k by omega]
      show _ = t.costLW c P + (t.standW c (k : Int) n + movW c (lastZ P) n)
      omega
theorem best_stepW {t : Tk} {c : List Int} {L : List Int} (hb : BestW t c L) {k : Nat} (hk : k < t.size.toNat) : ∃ pre post, t.choW c (t.size.toNat - 1 - k) k (L.take k) = pre ++ last2 (L.take (k + 1)) :: post ∧ (∀ s ∈ pre, t.gvalW c (t.size.toNat - 1 - k) k (last2 (L.take (k + 1))) < t.gvalW c (t.size.toNat - 1 - k) k s) ∧
    (∀ s ∈ post, t.gvalW c (t.size.toNat - 1 - k) k (last2 (L.take (k + 1))) ≤ t.gvalW c (t.size.toNat - 1 - k) k s) ∧ lastZ (last2 (L.take (k + 1))) = atZ L k := by
  generalize hd : t.size.toNat - 1 - k = d
  have hn : t.size.toNat = k + 1 + d := by omega
  have hL := hb.mem
  have hlen := (lay_mem hL).1
  have hP : L.take k ∈ t.lay k := lay_take (i := d + 1) (by rw [show k + (d + 1) = t.size.toNat by omega]; exact hL)
  have hlP := (lay_mem hP).1
  -- the line in its parts
  rw [hn, lay_conts] at hL
  obtain ⟨xs, hx, hx2⟩ := List.mem_flatMap.mp hL
  obtain ⟨r0, hr0, eL⟩ := List.mem_map.mp hx2
  have hxl := (lay_mem hx).1
  have ex : L.take (k + 1) = xs := by rw [← eL, List.take_append_of_le_length (by omega), List.take_of_length_le (by omega)]
  rw [ex]
  have hxk : L.take k = xs.take k := by rw [← ex, List.take_take, show min k (k + 1) = k by omega]
  obtain ⟨a, ea⟩ : ∃ a, xs = L.take k ++ [a] := by
    have ne : xs ≠ [] := fun z => by rw [z] at hxl; simp at hxl
    refine ⟨xs.getLast ne, ?_⟩
    rw [hxk]
    conv => lhs; rw [← List.dropLast_concat_getLast ne]
    rw [List.dropLast_eq_take, hxl, Nat.add_sub_cancel]
  have hlz : lastZ (last2 xs) = a := by
    rw [lastZ_last2 (fun z => by rw [z] at hxl; simp at hxl), ea]; exact lastZ_app
  have hak : atZ L k = a := by
    rw [← eL, ea]
    have := atZ_app_lt (xs := L.take k ++ [a]) (ys := r0) (i := (k : Int)) (by omega) (by rw [List.length_append, hlP, List.length_singleton]; omega)
    rw [this]
    have := atZ_app_at (xs := L.take k) (x := a)
    rwa [hlP] at this
  -- its state may come
  have hs : last2 xs ∈ t.base k (L.take k) := by
    unfold base
    by_cases h0 : k = 0
    · subst h0
      rw [if_pos rfl, ← lay_one]
      have : xs = [a] := by rw [ea]; simp
      rw [this] at hx ⊢
      exact hx
    · rw [if_neg h0]
      have ne : L.take k ≠ [] := fun z => by rw [z] at hlP; simp at hlP; omega
      have hx' := hx
      rw [ea] at hx'
      obtain ⟨ys, h1, h2⟩ := List.mem_flatMap.mp (show L.take k ++ [a] ∈ (t.lay k).flatMap t.ext from hx')
      obtain ⟨m, m1, m2, m3⟩ := mem_ext.mp h2
      have e1 := List.append_inj m3 (by rw [hlP, (lay_mem h1).1])
      obtain ⟨e1, e2⟩ := e1
      cases e2
      rw [← e1, good_app ne, hlP] at m2
      rw [ea, last2_app ne]
      exact mem_later.mpr ⟨a, m1, m2, by rw [lastZ_last2 ne]⟩
  have cP : ∀ s ∈ t.base k (L.take k), ∀ r ∈ t.conts d k s, L.take k ++ lastZ s :: r ∈ t.lay t.size.toNat ∧ t.costLW c (L.take k ++ lastZ s :: r) = t.costLW c (L.take k) + t.stpW c (k : Int) s + t.costSW c k (lastZ s) r := fun s hs r hr => by
    obtain ⟨h1, h2, h3⟩ := base_layW hP hs
    have e : L.take k ++ lastZ s :: r = (L.take k ++ [lastZ s]) ++ r := by simp
    refine ⟨?_, ?_⟩
    · rw [hn, lay_conts]
      exact List.mem_flatMap.mpr ⟨_, h1, List.mem_map.mpr ⟨r, by rw [h2]; exact hr, e.symm⟩⟩
    · rw [e, costL_appW (k := k) (by rw [List.length_append, hlP]; rfl), h3]
      have : lastZ (L.take k ++ [lastZ s]) = lastZ s := lastZ_app
      rw [this]
  have eL2 : L = L.take k ++ lastZ (last2 xs) :: r0 := by
    conv => lhs; rw [← eL, ea]
    rw [hlz]; simp
  have cL := (cP _ hs r0 hr0).2
  rw [← eL2] at cL
  have gv : ∀ s ∈ t.base k (L.take k), ∀ b, t.bdW c d k s = some b → ∃ r ∈ t.conts d k s, t.costSW c k (lastZ s) r = b ∧ t.costLW c (L.take k ++ lastZ s :: r) = t.costLW c (L.take k) + (t.stpW c (k : Int) s + b) := fun s hs b hbd => by
    rw [bd_minW] at hbd
    obtain ⟨r, hr, e⟩ := List.mem_map.mp (minO_some.mp hbd).1
    refine ⟨r, hr, e, ?_⟩
    rw [(cP s hs r hr).2, e]; omega
  -- its bound
  obtain ⟨b0, hb0⟩ : ∃ b0, t.bdW c d k (last2 xs) = some b0 := by
    cases q : t.bdW c d k (last2 xs) with
    | some b => exact ⟨b, rfl⟩
    | none =>
      rw [bd_minW] at q
      have := minO_none.mp q
      rw [List.map_eq_nil_iff] at this
      rw [this] at hr0; cases hr0
  have hbc : t.costLW c L = t.costLW c (L.take k) + (t.stpW c (k : Int) (last2 xs) + b0) := by
    obtain ⟨r, hr, e, ec⟩ := gv _ hs b0 hb0
    have h1 := (hb.low _ (cP _ hs r hr).1).1
    have h2 := hb0
    rw [bd_minW] at h2
    have h3 := (minO_some.mp h2).2 _ (List.mem_map.mpr ⟨r0, hr0, rfl⟩)
    omega
  have hcs : last2 xs ∈ t.choW c d k (L.take k) := List.mem_filter.mpr ⟨hs, by rw [hb0]; rfl⟩
  obtain ⟨pre, post, e1, e2, _⟩ := asc_split (f := lastZ) (cs := t.choW c d k (L.take k)) (base_asc.filter _) hcs
  have g0 : t.gvalW c d k (last2 xs) = t.stpW c (k : Int) (last2 xs) + b0 := by unfold gvalW; rw [hb0]; rfl
  have all : ∀ s ∈ t.choW c d k (L.take k), t.gvalW c d k (last2 xs) ≤ t.gvalW c d k s ∧ (lastZ s < lastZ (last2 xs) → t.gvalW c d k (last2 xs) < t.gvalW c d k s) := fun s hs' => by
    obtain ⟨m1, m2⟩ := List.mem_filter.mp hs'
    obtain ⟨b, hbs⟩ := Option.isSome_iff_exists.mp m2
    obtain ⟨r, hr, e, ec⟩ := gv s m1 b hbs
    have gs : t.gvalW c d k s = t.stpW c (k : Int) s + b := by unfold gvalW; rw [hbs]; rfl
    obtain ⟨h1, h2⟩ := hb.low _ (cP s m1 r hr).1
    refine ⟨by omega, fun hlt => ?_⟩
    by_cases c1 : t.gvalW c d k (last2 xs) < t.gvalW c d k s
    · exact c1
    · have lt := ltL_at hlt (L.take k) r r0
      rw [← eL2] at lt
      rcases h2 (by omega) with h3 | h3
      · rw [h3, sto_L.irr] at lt; cases lt
      · have := sto_L.tr _ _ _ lt h3; rw [sto_L.irr] at this; cases this
  refine ⟨pre, post, e1, fun s hs' => ?_, fun s hs' => (all s (by rw [e1]; exact List.mem_append_right _ (List.mem_cons_of_mem _ hs'))).1, by rw [hlz, hak]⟩
  rw [← e2] at hs'
  obtain ⟨m1, m2⟩ := List.mem_filter.mp hs'
  exact (all s m1).2 (of_decide_eq_true m2)
def bndDW (t : Tk) (c : List Int) (k : Nat) : List (List Int × Option Int) := (t.tab k).map fun s => (s, t.bdW c (t.size.toNat - 1 - k) k s)
def boundsLW (t : Tk) (c : List Int) : List (List (List Int × Option Int)) := (List.range t.size.toNat).map (t.bndDW c)
theorem best_sortW {t : Tk} {c : List Int} (hx : t.lay t.size.toNat ≠ []) : ∃ L r, ((t.lay t.size.toNat).map fun L => (t.costLW c L, L)).mergeSort (leO ltC) = (t.costLW c L, L) :: r ∧ BestW t c L := by
  obtain ⟨m, r, e, h1, h2⟩ := sort_head sto_C (xs := (t.lay t.size.toNat).map fun L => (t.costLW c L, L)) (by simpa using hx)
  obtain ⟨L, hL, rfl⟩ := List.mem_map.mp h1
  refine ⟨L, r, e, hL, fun L' hL' => ?_⟩
  have := h2 _ (List.mem_map.mpr ⟨L', hL', rfl⟩)
  unfold ltC at this
  dsimp only at this
  by_cases a : t.costLW c L' = t.costLW c L
  · rw [if_pos a] at this
    refine ⟨by omega, fun _ => ?_⟩
    by_cases a2 : L' = L
    · exact .inl a2
    · rw [if_neg a2] at this
      right
      cases q : ltL L L' with
      | true => rfl
      | false => exact absurd (sto_L.tot _ _ this q) a2
  · rw [if_neg a] at this
    simp only [decide_eq_false_iff_not] at this
    exact ⟨by omega, fun z => absurd z a⟩
/-- does the rows' bound of some state not hold -/
def openBW (t : Tk) (c : List Int) (bs : List Rb) (k : Int) (p : List Int × Int) : Bool := (t.later k p.1).any fun o => over (rowAt bs k) (t.stpW c k o) p.2 o
/-- do bounds prove that no line costs less -/
def provBW (t : Tk) (c : List Int) (bs : List Rb) (least : Int) : Bool :=
  if t.starts.any (fun s => over (rowAt bs 0) (t.stpW c 0 s) least s) = true then false
  else if (rangeI 1 (t.size.toNat - 1)).any (fun k => (rowAt bs (k - 1)).any (t.openBW c bs k)) = true then false
  else (rowAt bs (t.size - 1)).all fun p => decide (p.2 ≤ 0)
def topW (t : Tk) : Int := t.size
def tldW (t : Tk) (c : List Int) (k : Nat) : Rb := (t.tab k).map fun s => (s, (t.bdW c (t.size.toNat - 1 - k) k s).getD t.topW)
def toldLW (t : Tk) (c : List Int) : List Rb := (List.range t.size.toNat).map (t.tldW c)
theorem rowAt_toldW {t : Tk} {c : List Int} {k : Nat} (hk : k < t.size.toNat) : rowAt (t.toldLW c) (k : Int) = t.tldW c k := by
  unfold rowAt toldLW
  rw [Int.toNat_natCast, List.getD_eq_getElem?_getD, List.getElem?_map, List.getElem?_range hk]; rfl
theorem stp_rngW  (k : Int) (s : List Int) : 0 ≤ t.stpW c k s ∧ t.stpW c k s ≤ 1 := by
  have h1 := stand_rngW (t := t) (c := c) k (lastZ s)
  unfold stpW movW
  split <;> omega
theorem bd_rngW  : ∀ {d k : Nat} {s : List Int} {m : Int}, t.bdW c d k s = some m → 0 ≤ m ∧ m ≤ 1 * (d : Int)
  | 0, k, s, m, h => by cases h; exact ⟨Int.le_refl _, Int.le_refl _⟩
  | d + 1, k, s, m, h => by
    unfold bdW at h
    obtain ⟨s', _, h1⟩ := List.mem_filterMap.mp (minO_some.mp h).1
    cases q : t.bdW c d (k + 1) s' with
    | none => rw [q] at h1; cases h1
    | some b =>
      rw [q] at h1
      cases h1
      have := bd_rngW q
      have := stp_rngW (t := t) (c := c) ((k + 1 : Nat) : Int) s'
      dsimp only
      omega
theorem bd_stepW {d k : Nat} {s o : List Int} {b : Int} (ho : o ∈ t.later ((k + 1 : Nat) : Int) s) (h : t.bdW c d (k + 1) o = some b) : ∃ m, t.bdW c (d + 1) k s = some m ∧ m ≤ t.stpW c ((k + 1 : Nat) : Int) o + b := by
  have hm : t.stpW c ((k + 1 : Nat) : Int) o + b ∈ (t.later ((k + 1 : Nat) : Int) s).filterMap fun s' => (t.bdW c d (k + 1) s').map fun b => t.stpW c ((k + 1 : Nat) : Int) s' + b :=
    List.mem_filterMap.mpr ⟨o, ho, by rw [h]; rfl⟩
  cases q : t.bdW c (d + 1) k s with
  | none =>
    unfold bdW at q
    rw [minO_none.mp q] at hm
    cases hm
  | some m =>
    refine ⟨m, rfl, ?_⟩
    unfold bdW at q
    exact (minO_some.mp q).2 _ hm
theorem start_lineW {d : Nat} {s : List Int} {m : Int} (hs : s ∈ t.starts) (h : t.bdW c d 0 s = some m) : ∃ L ∈ t.lay (d + 1), t.costLW c L = t.stpW c 0 s + m := by
  rw [bd_minW] at h
  obtain ⟨r, hr, e⟩ := List.mem_map.mp (minO_some.mp h).1
  refine ⟨lastZ s :: r, by rw [lay_ways]; exact mem_ways.mpr ⟨s, hs, r, hr, rfl⟩, ?_⟩
  obtain ⟨n, _, _, rfl⟩ := mem_starts.mp hs
  rw [costLW, ← e]
  unfold stpW
  rw [if_neg (by simp)]
  omega
theorem costS_rngW  : ∀ (r : List Int) (k : Nat) (l : Int), 0 ≤ t.costSW c k l r ∧ t.costSW c k l r ≤ 1 * (r.length : Int)
  | [], _, _ => by rw [costSW]; exact ⟨Int.le_refl _, Int.le_refl _⟩
  | n :: r, k, l => by
    rw [costSW, List.length_cons]
    have := costS_rngW r (k + 1) n
    have := stand_rngW (t := t) (c := c) ((k + 1 : Nat) : Int) n
    have := mov_rngW (c := c) l n
    omega
theorem costL_rngW  (L : List Int) : 0 ≤ t.costLW c L ∧ t.costLW c L ≤ 1 * (L.length : Int) := by
  cases L with
  | nil => rw [costLW]; exact ⟨Int.le_refl _, Int.le_refl _⟩
  | cons n r =>
    rw [costLW, List.length_cons]
    have := costS_rngW (t := t) (c := c) r 0 n
    have := stand_rngW (t := t) (c := c) 0 n
    omega
/-- the program's own bounds prove what the best line costs -/
theorem prov_toldW  (h2 : 2 ≤ t.size) {L : List Int} (hB : BestW t c L) (hl : (L.length : Int) = t.size) : t.provBW c (t.toldLW c) (t.costLW c L) = true := by
  have h3 : (t.size.toNat : Int) = t.size := by omega
  unfold provBW
  rw [if_neg, if_neg]
  · have := rowAt_toldW (t := t) (c := c) (k := t.size.toNat - 1) (by omega)
    rw [show ((t.size.toNat - 1 : Nat) : Int) = t.size - 1 by omega] at this
    rw [this]
    refine List.all_eq_true.mpr fun p hp => ?_
    obtain ⟨s, _, rfl⟩ := List.mem_map.mp hp
    rw [show t.size.toNat - 1 - (t.size.toNat - 1) = 0 by omega]
    exact decide_eq_true (by show (some 0 : Option Int).getD t.topW ≤ 0; exact Int.le_refl _)
  · rw [Bool.not_eq_true, List.any_eq_false]
    intro k hk
    have hk := mem_rangeI.mp hk
    obtain ⟨j, rfl⟩ : ∃ j : Nat, k = ((j + 1 : Nat) : Int) := ⟨(k - 1).toNat, by omega⟩
    have hj : j + 1 < t.size.toNat := by omega
    rw [show (((j + 1 : Nat) : Int) - 1) = (j : Int) by omega, rowAt_toldW (k := j) (by omega), Bool.not_eq_true, List.any_eq_false]
    intro p hp
    obtain ⟨s, hs, rfl⟩ := List.mem_map.mp hp
    unfold openBW
    rw [Bool.not_eq_true, List.any_eq_false]
    intro o ho
    have mo : o ∈ t.tab (j + 1) := mem_tabS.mpr ⟨s, hs, ho⟩
    unfold over
    rw [rowAt_toldW hj]
    unfold tldW
    rw [look_map mo]
    have st := stp_rngW (t := t) (c := c) ((j + 1 : Nat) : Int) o
    rw [Bool.not_eq_true]
    refine decide_eq_false ?_
    show ¬ (t.stpW c ((j + 1 : Nat) : Int) o + (t.bdW c (t.size.toNat - 1 - (j + 1)) (j + 1) o).getD t.topW < (t.bdW c (t.size.toNat - 1 - j) j s).getD t.topW)
    obtain ⟨d, hd⟩ : ∃ d, t.size.toNat - 1 - (j + 1) = d := ⟨_, rfl⟩
    rw [hd, show t.size.toNat - 1 - j = d + 1 by omega]
    cases q : t.bdW c d (j + 1) o with
    | some b =>
      obtain ⟨m, h1, h2⟩ := bd_stepW ho q
      rw [h1]
      show ¬ (_ + b < m)
      omega
    | none =>
      show ¬ (_ + t.topW < _)
      cases q2 : t.bdW c (d + 1) j s with
      | none => show ¬ (_ + t.topW < t.topW); omega
      | some m =>
        have := bd_rngW q2
        show ¬ (_ + t.topW < m)
        unfold topW
        omega
  · rw [Bool.not_eq_true, List.any_eq_false]
    intro s hs
    have := rowAt_toldW (t := t) (c := c) (k := 0) (by omega)
    rw [show ((0 : Nat) : Int) = 0 from rfl] at this
    unfold over
    rw [this]
    unfold tldW
    rw [look_map (show s ∈ t.tab 0 from hs), Nat.sub_zero, Bool.not_eq_true]
    refine decide_eq_false ?_
    show ¬ (t.stpW c 0 s + (t.bdW c (t.size.toNat - 1) 0 s).getD t.topW < t.costLW c L)
    have st := stp_rngW (t := t) (c := c) 0 s
    cases q : t.bdW c (t.size.toNat - 1) 0 s with
    | none =>
      have := costL_rngW (t := t) (c := c) L
      show ¬ (_ + t.topW < _)
      unfold topW
      omega
    | some m =>
      obtain ⟨L', h1, h2⟩ := start_lineW hs q
      rw [show t.size.toNat - 1 + 1 = t.size.toNat by omega] at h1
      have := (hB.low L' h1).1
      show ¬ (_ + m < _)
      omega
end
end Tk
end PD
/-! Plain: lines stand in ascending order; costs of nothing, costs twice as great. -/
namespace PD
open PySem PySem.Spec PySem.W PyProof.Rows L2
theorem ltL_ext {u v : List Int} : ∀ {x y : List Int}, x.length = y.length → ltL x y = true → ltL (x ++ u) (y ++ v) = true
  | [], [], _, h => by unfold ltL lexB at h; cases h
  | [], _ :: _, e, _ => by simp at e
  | _ :: _, [], e, _ => by simp at e
  | a :: x, b :: y, e, h => by
    have e' : x.length = y.length := by simpa using e
    unfold ltL at h ⊢
    rw [List.cons_append, List.cons_append, lexB]
    rw [lexB] at h
    by_cases z : a = b
    · rw [if_pos z] at h ⊢
      have := ltL_ext (u := u) (v := v) e' (show ltL x y = true from h)
      exact this
    · rw [if_neg z] at h ⊢
      exact h
namespace Tk
theorem notes_asc (t : Tk) : t.notes.Pairwise (· < ·) := by
  unfold notes rangeI
  refine List.pairwise_map.mpr (List.pairwise_lt_range.imp fun {x y} h => ?_)
  omega
theorem lay_asc {t : Tk} : ∀ k, (t.lay k).Pairwise fun x y => ltL x y = true
  | 0 => List.pairwise_singleton ..
  | k + 1 => by
    show ((t.lay k).flatMap t.ext).Pairwise _
    refine List.pairwise_flatMap.mpr ⟨fun x _ => ?_, ?_⟩
    · unfold ext
      refine List.pairwise_map.mpr (((notes_asc t).filter _).imp fun {a b} h => ?_)
      exact ltL_at h x [] []
    · refine List.Pairwise.imp_of_mem (fun {a b} ha hb h => ?_) (lay_asc k)
      intro c h1 d h2
      obtain ⟨n, _, _, rfl⟩ := mem_ext.mp h1
      obtain ⟨m, _, _, rfl⟩ := mem_ext.mp h2
      exact ltL_ext (by rw [(lay_mem ha).1, (lay_mem hb).1]) h
section
variable {t : Tk} {c : Co}
theorem costS_zero : ∀ (r : List Int) (k : Nat) (l : Int), t.costS ([], []) k l r = 0
  | [], _, _ => rfl
  | n :: r, k, l => by
    rw [costS, costS_zero r (k + 1) n]; rfl
theorem costL_zero (L : List Int) : t.costL ([], []) L = 0 := by
  cases L with
  | nil => rfl
  | cons n r => rw [costL, costS_zero r 0 n]; rfl
theorem best_zero {k : Nat} {L : List Int} {Ls : List (List Int)} (h : t.lay t.size.toNat = L :: Ls) : Best t ([], []) L := by
  refine ⟨by rw [h]; exact List.mem_cons_self, fun L' hL' => ?_⟩
  rw [costL_zero, costL_zero]
  refine ⟨Int.le_refl _, fun _ => ?_⟩
  rw [h] at hL'
  rcases List.mem_cons.mp hL' with e | e
  · exact .inl e
  · have p := lay_asc (t := t) t.size.toNat
    rw [h] at p
    exact .inr ((List.pairwise_cons.mp p).1 L' e)
def dblR (rows : List (Int × Int)) : List (Int × Int) := rows.map fun p => (p.1, 2 * p.2)
def dbl (c : Co) : Co := (dblR c.1, dblR c.2)
theorem lstd_dbl (rows : List (Int × Int)) (k : Int) : lstd (dblR rows) k = 2 * lstd rows k := by
  unfold lstd dblR
  rw [List.filter_map, List.map_map]
  have e : ((fun p : Int × Int => decide (p.1 = k)) ∘ fun p : Int × Int => (p.1, 2 * p.2)) = fun p : Int × Int => decide (p.1 = k) := rfl
  rw [e]
  cases rows.filter fun p => decide (p.1 = k) with
  | nil => rfl
  | cons a r => rfl
theorem costS_dbl : ∀ (r : List Int) (k : Nat) (l : Int), t.costS (dbl c) k l r = 2 * t.costS c k l r
  | [], _, _ => rfl
  | n :: r, k, l => by
    rw [costS, costS, costS_dbl r (k + 1) n]
    have h1 : t.stand (dbl c) ((k + 1 : Nat) : Int) n = 2 * t.stand c ((k + 1 : Nat) : Int) n := lstd_dbl c.2 _
    have h2 : mov (dbl c) l n = 2 * mov c l n := lstd_dbl c.1 _
    rw [h1, h2]
    omega
theorem costL_dbl (L : List Int) : t.costL (dbl c) L = 2 * t.costL c L := by
  cases L with
  | nil => rfl
  | cons n r =>
    rw [costL, costL, costS_dbl r 0 n]
    have h1 : t.stand (dbl c) 0 n = 2 * t.stand c 0 n := lstd_dbl c.2 _
    rw [h1]
    omega
theorem best_dbl {L : List Int} (h : Best t c L) : Best t (dbl c) L := by
  refine ⟨h.mem, fun L' hL' => ?_⟩
  have := h.low L' hL'
  rw [costL_dbl, costL_dbl]
  exact ⟨by omega, fun e => this.2 (by omega)⟩
theorem row_dbl {rows : List (Int × Int)} (h : RowOk rows) (hs : ∀ p ∈ rows, p.2 ≤ 499) : RowOk (dblR rows) := by
  refine ⟨List.pairwise_map.mpr h.asc, by unfold dblR; rw [List.length_map]; exact h.len, fun p hp => ?_⟩
  obtain ⟨q, hq, rfl⟩ := List.mem_map.mp hp
  have := h.rng q hq
  have := hs q hq
  dsimp only
  omega
end
end Tk
end PD
/-! Plain: looser books: what fits still does. -/
namespace PD
open PySem PySem.Spec PySem.W PyProof.Rows L2
/-- a book as the law's, or somewhat wider -/
structure Bk.Wd (b : Bk) : Prop where
  mode : b.mode ∈ modes
  low : -5 ≤ b.low ∧ b.low ≤ 1
  high : b.low + 2 ≤ b.high ∧ b.high ≤ b.low + 8
  leaps : b.leaps.Pairwise ltP
  leap : ∀ p ∈ b.leaps, (0 < p.1 ∧ p.1 ≤ 4 ∧ 0 < p.2 ∧ p.2 ≤ 12) ∨ (p.1 < 0 ∧ -4 ≤ p.1 ∧ p.2 < 0 ∧ -12 ≤ p.2)
  leapn : b.leaps.length ≤ 210
  sweets : b.sweet.Pairwise ltP
  sweet : ∀ p ∈ b.sweet, 0 ≤ p.1 ∧ p.1 ≤ 6 ∧ 0 ≤ p.2 ∧ p.2 ≤ 11
  sweetn : b.sweet.length ≤ 60
  perfects : b.perfect.Pairwise ltP
  perfect : ∀ p ∈ b.perfect, p ∈ b.sweet
  perfectn : b.perfect.length ≤ 50
  turn : b.turn = none ∨ ∃ i, b.turn = some i ∧ 2 ≤ i ∧ i ≤ 4
theorem Bk.Ok.wd {b : Bk} (h : b.Ok) : b.Wd := ⟨h.mode, by have := h.low; omega, by have := h.high; omega, h.leaps, h.leap, by have := h.leapn; omega, h.sweets, h.sweet, by have := h.sweetn; omega, h.perfects, h.perfect, h.perfectn, h.turn⟩
theorem Bk.Wd.len {b : Bk} (h : b.Wd) : b.mode.length = 7 := (by decide : ∀ m ∈ modes, m.length = 7) _ h.mode
theorem Bk.Wd.fit {b : Bk} (h : b.Wd) : b.Fit := ⟨h.len, by have := h.low; omega, by have := h.high; omega, h.turn.imp id fun ⟨i, a, b, c⟩ => ⟨i, a, b, by omega⟩⟩
/-- all that stands in a row stands in it without twins -/
theorem twinP_all {ps : List (Int × Int)} : ∀ (k : Nat) {p : Int × Int}, ps[k]? = some p → p ∈ twinP ps := by
  have key : ∀ (k : Nat) {p : Int × Int}, ps[k]? = some p → keepP ps (k : Int) = true → p ∈ twinP ps := fun k p hp hk => by
    unfold twinP
    have hl := (List.getElem?_eq_some_iff.mp hp).1
    refine List.mem_map.mpr ⟨(k : Int), List.mem_filter.mpr ⟨mem_rangeI.mpr (by omega), hk⟩, ?_⟩
    rw [Int.toNat_natCast, List.getD_eq_getElem?_getD, hp]; rfl
  intro k
  induction k with
  | zero => exact fun {p} hp => key 0 hp rfl
  | succ k ih =>
    intro p hp
    by_cases e : ps[k]? = some p
    · exact ih e
    · refine key (k + 1) hp ?_
      have hl := (List.getElem?_eq_some_iff.mp hp).1
      unfold keepP
      rw [Bool.or_eq_true]
      right
      refine decide_eq_true fun z => e ?_
      rw [Int.toNat_natCast, List.getD_eq_getElem?_getD, hp, show (((k + 1 : Nat) : Int) - 1).toNat = k by omega, List.getD_eq_getElem?_getD] at z
      have hk : k < ps.length := by omega
      rw [List.getElem?_eq_getElem hk] at z ⊢
      exact congrArg some z.symm
theorem twins_mem {ps : List (Int × Int)} {p : Int × Int} : p ∈ twinP (sortP ps) ↔ p ∈ ps := by
  refine ⟨fun h => sortP_mem.mp (twinP_mem h), fun h => ?_⟩
  obtain ⟨k, hk, e⟩ := List.mem_iff_getElem.mp (sortP_mem.mpr h)
  exact twinP_all k (by rw [List.getElem?_eq_getElem hk, e])
/-- a book that forbids less -/
structure Loose (b b' : Bk) : Prop where
  mode : b'.mode = b.mode
  low : b'.low ≤ b.low
  high : b.high ≤ b'.high
  leap : ∀ p ∈ b.leaps, p ∈ b'.leaps
  sweet : ∀ p ∈ b.sweet, p ∈ b'.sweet
  perfect : b'.perfect = b.perfect
  turn : b'.turn = b.turn ∨ b'.turn = none
namespace Tk
/-- the task with another book -/
def wb (t : Tk) (b' : Bk) : Tk := ⟨b', t.cantus, t.ratio, t.above⟩
section
variable {t : Tk} {b' : Bk}
theorem app4 {a b c d : List Str} : a ++ (b ++ (c ++ d)) = [] ↔ a = [] ∧ b = [] ∧ c = [] ∧ d = [] := by
  rw [List.append_eq_nil_iff, List.append_eq_nil_iff, List.append_eq_nil_iff]
theorem sw_wb (h : Loose t.book b') {p n : Int} (e : t.sw p n = true) : (t.wb b').sw p n = true := by
  unfold sw sweetB at e ⊢
  have e := of_decide_eq_true e
  refine decide_eq_true ?_
  show ivP b'.mode (t.pr p n).1 (t.pr p n).2 ∈ b'.sweet
  rw [h.mode]
  exact h.sweet _ e
theorem pf_wb (h : Loose t.book b') {p n : Int} : (t.wb b').pf p n = t.pf p n := by
  show perfB b' (t.pr p n).1 (t.pr p n).2 = perfB t.book (t.pr p n).1 (t.pr p n).2
  unfold perfB
  rw [h.mode, h.perfect]
theorem iv_wb (h : Loose t.book b') {p n : Int} : (t.wb b').iv p n = t.iv p n := by
  show ivP b'.mode (t.pr p n).1 (t.pr p n).2 = ivP t.book.mode (t.pr p n).1 (t.pr p n).2
  rw [h.mode]
theorem alone_wb (h : Loose t.book b') {p n : Int} (e : t.alone p n = []) : (t.wb b').alone p n = [] := by
  unfold alone at e ⊢
  rw [app4, tag_nil, tag_nil, tag_nil, tag_nil] at e ⊢
  obtain ⟨e1, e2, e3, e4⟩ := e
  refine ⟨?_, e2, ?_, ?_⟩
  · rw [Bool.not_eq_false'] at e1 ⊢
    have e1 := mem_rangeI.mp (of_decide_eq_true e1)
    refine decide_eq_true (mem_rangeI.mpr ?_)
    have := h.low
    have := h.high
    show b'.low ≤ n ∧ n < b'.low + ((b'.high + 1 - b'.low).toNat : Int)
    omega
  · rw [Bool.and_eq_false_iff] at e3 ⊢
    rcases e3 with e3 | e3
    · exact .inl e3
    · rw [Bool.not_eq_false'] at e3 ⊢
      exact .inr (sw_wb h e3)
  · rw [pf_wb h]; exact e4
theorem together_wb (h : Loose t.book b') {p l n : Int} (e : t.together p l n = []) : (t.wb b').together p l n = [] := by
  unfold together at e ⊢
  rw [app4, tag_nil, tag_nil, tag_nil, tag_nil] at e ⊢
  obtain ⟨e1, e2, e3, e4⟩ := e
  have bo : (t.wb b').both p l n = t.both p l n := by
    unfold both
    rw [pf_wb h]; rfl
  refine ⟨?_, ?_, ?_, e4⟩
  · rw [Bool.not_eq_false'] at e1 ⊢
    unfold goesB at e1 ⊢
    have e1 := of_decide_eq_true e1
    refine decide_eq_true ?_
    show lpP b'.mode l n ∈ b'.leaps
    rw [h.mode]
    exact h.leap _ e1
  · rw [bo, iv_wb h, iv_wb h]; exact e2
  · rw [bo, iv_wb h, iv_wb h]; exact e3
theorem three_wb (h : Loose t.book b') {p x y z : Int} (e : t.three p x y z = []) : (t.wb b').three p x y z = [] := by
  unfold three at e ⊢
  rw [List.append_eq_nil_iff, tag_nil, tag_nil] at e ⊢
  obtain ⟨e1, e2⟩ := e
  refine ⟨?_, ?_⟩
  · show (!trnP b'.turn x y z) = false
    rcases h.turn with q | q
    · rw [q]; exact e1
    · rw [q]; rfl
  · rw [Bool.and_eq_false_iff] at e2 ⊢
    rcases e2 with e2 | e2
    · exact .inl e2
    · right
      rw [Bool.and_eq_false_iff] at e2 ⊢
      rcases e2 with e2 | e2
      · left
        rw [Bool.not_eq_false'] at e2
        rw [sw_wb h e2]; rfl
      · exact .inr e2
theorem flts_wb (h : Loose t.book b') {xs : List Int} (e : t.flts xs = []) : (t.wb b').flts xs = [] := by
  rw [flts_nil] at e ⊢
  exact fun k hk => ⟨alone_wb h (e k hk).a, fun h0 => together_wb h ((e k hk).b h0), fun h0 h1 => three_wb h ((e k hk).c h0 h1)⟩
theorem lay_wb (h : Loose t.book b') {k : Nat} {xs : List Int} (e : xs ∈ t.lay k) : xs ∈ (t.wb b').lay k := by
  rw [lay_flts] at e ⊢
  exact ⟨e.1, flts_wb h e.2⟩
end
end Tk
theorem sub_len {α : Type} [DecidableEq α] : ∀ {xs ys : List α}, xs.Nodup → (∀ x ∈ xs, x ∈ ys) → xs.length ≤ ys.length
  | [], _, _, _ => Nat.zero_le _
  | x :: xs, ys, hn, hs => by
    obtain ⟨n1, n2⟩ := List.nodup_cons.mp hn
    obtain ⟨p, q, rfl⟩ := List.append_of_mem (hs x List.mem_cons_self)
    have := sub_len (ys := p ++ q) n2 fun y hy => by
      have := hs y (List.mem_cons_of_mem _ hy)
      rcases List.mem_append.mp this with z | z
      · exact List.mem_append_left _ z
      · rcases List.mem_cons.mp z with e | z
        · rw [e] at hy; exact absurd hy n1
        · exact List.mem_append_right _ z
    rw [List.length_append] at this ⊢
    rw [List.length_cons, List.length_cons]
    omega
/-- a line's number grows with what stands below it -/
theorem idx_mono {α : Type} [DecidableEq α] {lt : α → α → Bool} (st : Sto lt) {xs ys : List α} (hx : xs.Pairwise fun a b => lt a b = true) (hy : ys.Pairwise fun a b => lt a b = true) (hs : ∀ x ∈ xs, x ∈ ys) {a : α} {i j : Nat} (hi : xs[i]? = some a) (hj : ys[j]? = some a) : i ≤ j := by
  have hil := (List.getElem?_eq_some_iff.mp hi).1
  have hjl := (List.getElem?_eq_some_iff.mp hj).1
  have ex : xs = xs.take i ++ xs.drop i := (List.take_append_drop i xs).symm
  have ndx : xs.Nodup := hx.imp fun {p q} h e => by rw [e, st.irr] at h; exact absurd h Bool.false_ne_true
  have nd : (xs.take i).Nodup := ndx.sublist (List.take_sublist i xs)
  have below : ∀ x ∈ xs.take i, x ∈ ys.take j := by
    intro x hxm
    obtain ⟨m, hm, e⟩ := List.mem_iff_getElem.mp hxm
    rw [List.length_take] at hm
    rw [List.getElem_take] at e
    have l1 : lt x a = true := by
      have := List.pairwise_iff_getElem.mp hx m i (by omega) hil (by omega)
      rw [e] at this
      rw [List.getElem?_eq_getElem hil] at hi
      rw [← Option.some.inj hi]; exact this
    obtain ⟨m2, hm2, e2⟩ := List.mem_iff_getElem.mp (hs x (List.mem_of_mem_take hxm))
    have l2 : m2 < j := by
      rcases Nat.lt_or_ge m2 j with z | z
      · exact z
      · rw [List.getElem?_eq_getElem hjl] at hj
        rcases Nat.lt_or_eq_of_le z with z | z
        · have := List.pairwise_iff_getElem.mp hy j m2 hjl hm2 z
          rw [Option.some.inj hj, e2] at this
          have := st.tr _ _ _ l1 this
          rw [st.irr] at this; cases this
        · subst z
          have e3 : x = a := by rw [← e2]; exact Option.some.inj hj
          rw [e3, st.irr] at l1; cases l1
    refine List.mem_iff_getElem.mpr ⟨m2, by rw [List.length_take]; omega, ?_⟩
    rw [List.getElem_take]; exact e2
  have := sub_len nd below
  rw [List.length_take, List.length_take] at this
  omega
end PD
namespace K00
open PySem PySem.Spec PyProof.Rows L2 GxR PD
def top (i : Nat) : Stmt := PySem.Challenge.pw_cantusmill_k00_what_makes_a_book.main.body.getD i (.Pass ⟨0, 0, 0, 0⟩)
def fN : Nat → List Str := fun c => ([["mode", "low", "high", "leaps", "sweet", "perfect", "turn"]] : List (List Str)).getD c []
def cN : List Str := ["Book"]
def eN : List Str := ["BadBook"]
def GI : List (Str × Int) := [("MOST_RANGE", 24), ("MOST_STEPS", 14)]
def EX : List (Str × Nat) := [("BadBook", 0)]
def fns : List Str := (["_wall", "is_number", "is_mode", "is_pair", "rises", "is_leaps", "is_intervals", "_law_cell", "_law_draws", "_law_height", "_law_leap", "_law_interval", "_law_without_twins", "_law_book", "_law_made", "_law_turned", "law"] : List Str)
def noats : List (Str × Str) := [("Book", "mode"), ("Book", "low"), ("Book", "high"), ("Book", "leaps"), ("Book", "sweet"), ("Book", "perfect"), ("Book", "turn")]
def meths : List (Str × Str) := [("Book", "height"), ("Book", "notes")]
def ISC : List (Str × Nat) := [("Book", 0)]
def tf : List He.Defn := [("is_mode", none), ("rises", none), ("is_leaps", none), ("is_intervals", none), ("Book", some "__init__")]
def exB : PySem.W.Frag → Bool := fun K => (cN.all (isiB K) && exmB K EX) && tabNd K tf
def fa : List He.Fa := faOf GI fns cN eN noats meths
abbrev s__law_cell : Stmt := (top 15)
def d__law_cell : He.DefD := ⟨("_law_cell", none), "_law_cell", "_law_cell", defArgs s__law_cell, defBody s__law_cell, defScope s__law_cell, [], []⟩
abbrev s__law_draws : Stmt := (top 16)
def d__law_draws : He.DefD := ⟨("_law_draws", none), "_law_draws", "_law_draws", defArgs s__law_draws, defBody s__law_draws, defScope s__law_draws, [], []⟩
abbrev s__law_height : Stmt := (top 17)
def d__law_height : He.DefD := ⟨("_law_height", none), "_law_height", "_law_height", defArgs s__law_height, defBody s__law_height, defScope s__law_height, [], []⟩
abbrev s__law_leap : Stmt := (top 18)
def d__law_leap : He.DefD := ⟨("_law_leap", none), "_law_leap", "_law_leap", defArgs s__law_leap, defBody s__law_leap, defScope s__law_leap, [], []⟩
abbrev s__law_interval : Stmt := (top 19)
def d__law_interval : He.DefD := ⟨("_law_interval", none), "_law_interval", "_law_interval", defArgs s__law_interval, defBody s__law_interval, defScope s__law_interval, [], []⟩
abbrev s__law_without_twins : Stmt := (top 20)
def d__law_without_twins : He.DefD := ⟨("_law_without_twins", none), "_law_without_twins", "_law_without_twins", defArgs s__law_without_twins, defBody s__law_without_twins, defScope s__law_without_twins, [], []⟩
abbrev s__law_book : Stmt := (top 21)
def d__law_book : He.DefD := ⟨("_law_book", none), "_law_book", "_law_book", defArgs s__law_book, defBody s__law_book, defScope s__law_book, [], []⟩
abbrev s__law_turned : Stmt := (top 23)
def d__law_turned : He.DefD := ⟨("_law_turned", none), "_law_turned", "_law_turned", defArgs s__law_turned, defBody s__law_turned, defScope s__law_turned, [], []⟩
abbrev s_is_number : Stmt := (top 7)
def d_is_number : He.DefD := ⟨("is_number", none), "is_number", "is_number", defArgs s_is_number, defBody s_is_number, defScope s_is_number, [], []⟩
abbrev s_is_mode : Stmt := (top 8)
def d_is_mode : He.DefD := ⟨("is_mode", none), "is_mode", "is_mode", defArgs s_is_mode, defBody s_is_mode, defScope s_is_mode, [], []⟩
abbrev s_rises : Stmt := (top 10)
def d_rises : He.DefD := ⟨("rises", none), "rises", "rises", defArgs s_rises, defBody s_rises, defScope s_rises, [], []⟩
abbrev s_is_pair : Stmt := (top 9)
def d_is_pair : He.DefD := ⟨("is_pair", none), "is_pair", "is_pair", defArgs s_is_pair, defBody s_is_pair, defScope s_is_pair, [], []⟩
abbrev s_is_leaps : Stmt := (top 11)
def d_is_leaps : He.DefD := ⟨("is_leaps", none), "is_leaps", "is_leaps", defArgs s_is_leaps, defBody s_is_leaps, defScope s_is_leaps, [], []⟩
abbrev s_is_intervals : Stmt := (top 12)
def d_is_intervals : He.DefD := ⟨("is_intervals", none), "is_intervals", "is_intervals", defArgs s_is_intervals, defBody s_is_intervals, defScope s_is_intervals, [], []⟩
abbrev s_Book_init : Stmt := (inClass (top 13) 0)
def d_Book_init : He.DefD := ⟨("Book", some "__init__"), "__init__", "Book.__init__", defArgs s_Book_init, defBody s_Book_init, defScope s_Book_init, [], [("turn", .non)]⟩
abbrev s__law_made : Stmt := (top 22)
def d__law_made : He.DefD := ⟨("_law_made", none), "_law_made", "_law_made", defArgs s__law_made, defBody s__law_made, defScope s__law_made, [], []⟩
abbrev s_Book_notes : Stmt := (inClass (top 13) 2)
def d_Book_notes : He.DefD := ⟨("Book", some "notes"), "notes", "Book.notes", defArgs s_Book_notes, defBody s_Book_notes, defScope s_Book_notes, [], []⟩
abbrev s_law : Stmt := (top 24)
def d_law : He.DefD := ⟨("law", none), "law", "law", defArgs s_law, defBody s_law, defScope s_law, [], []⟩
def fn : List He.DefD := [d__law_cell, d__law_draws, d__law_height, d__law_leap, d__law_interval, d__law_without_twins, d__law_book, d__law_turned, d_is_number, d_is_mode, d_rises, d_is_pair, d_is_leaps, d_is_intervals, d_Book_init, d__law_made, d_Book_notes, d_law]
def b__law_cell : Sm := (.cons (.ifs (.cmp .lt (.var 1) (.bi .len (.cons (.var 0) .nil))) (.cons (.ret (.ix (.var 0) (.var 1))) .nil) .nil) (.cons (.ret (.int (0))) .nil))
def Φ__law_cell : Fs := fsOf [] [] []
def φ__law_cell : List D → Res D := runDef Φ__law_cell fN 2 b__law_cell
def l0__law_draws : Sm := (.cons (.asg 5 (.bin .mod (.bi .int (.cons (.bin .add (.bin .add (.bin .mul (.var 0) (.int (48271))) (.bin .mul (.var 4) (.int (69621)))) (.int (1))) .nil)) (.int (2147483647)))) (.cons (.ifs (.cmp .ge (.var 0) (.bin .pow (.int (10)) (.int (18)))) (.cons (.app 2 (.bin .mod (.var 3) (.int (1009)))) (.cons (.asg 3 (.bin .fdiv (.var 3) (.int (1009)))) .nil)) (.cons (.app 2 (.bin .fdiv (.bin .mod (.bi .int (.cons (.bin .add (.bin .mul (.var 5) (.var 5)) (.bin .mul (.var 5) (.int (40692)))) .nil)) (.int (2147483399))) (.int (7)))) .nil)) .nil))
def b__law_draws : Sm := (.cons (.own 2 (.lst .nil)) (.cons (.asg 3 (.bi .int (.cons (.var 0) .nil))) (.cons (.fors .rng (.one 4) (.cons (.var 1) .nil) l0__law_draws) (.cons (.ret (.var 2)) .nil))))
def Φ__law_draws : Fs := fsOf [] [] []
def φ__law_draws : List D → Res D := runDef Φ__law_draws fN 6 b__law_draws
def b__law_height : Sm := (.cons (.ret (.bin .add (.bin .mul (.int (12)) (.bin .fdiv (.var 1) (.int (7)))) (.ix (.var 0) (.bin .mod (.var 1) (.int (7)))))) .nil)
def Φ__law_height : Fs := fsOf [] [] []
def φ__law_height : List D → Res D := runDef Φ__law_height fN 2 b__law_height
def b__law_leap : Sm := (.cons (.ret (.tup (.cons (.bin .sub (.var 2) (.var 1)) (.cons (.bin .sub (.call 0 (.cons (.var 0) (.cons (.var 2) .nil))) (.call 0 (.cons (.var 0) (.cons (.var 1) .nil)))) .nil)))) .nil)
def Φ__law_leap : Fs := fsOf [φ__law_height] [] []
def φ__law_leap : List D → Res D := runDef Φ__law_leap fN 3 b__law_leap
def b__law_interval : Sm := (.cons (.ret (.tup (.cons (.bin .mod (.bin .sub (.var 2) (.var 1)) (.int (7))) (.cons (.bin .mod (.bin .sub (.call 0 (.cons (.var 0) (.cons (.var 2) .nil))) (.call 0 (.cons (.var 0) (.cons (.var 1) .nil)))) (.int (12))) .nil)))) .nil)
def Φ__law_interval : Fs := fsOf [φ__law_height] [] []
def φ__law_interval : List D → Res D := runDef Φ__law_interval fN 3 b__law_interval
def b__law_without_twins : Sm := (.cons (.asg 0 (.bi .sorted (.cons (.var 0) .nil))) (.cons (.ret (.bi .tuple (.cons (.lc .rng [1] (.one 1) (.cons (.bi .len (.cons (.var 0) .nil)) .nil) (.or (.cmp .eq (.var 1) (.int (0))) (.cmp .ne (.ix (.var 0) (.var 1)) (.ix (.var 0) (.bin .sub (.var 1) (.int (1)))))) (.ix (.var 0) (.var 1))) .nil))) .nil))
def Φ__law_without_twins : Fs := fsOf [] [] []
def φ__law_without_twins : List D → Res D := runDef Φ__law_without_twins fN 2 b__law_without_twins
def l0__law_book : Sm := (.cons (.asg 8 (.bin .add (.var 8) (.lc .seq [7] (.one 7) (.var 6) .nil (.call 1 (.cons (.var 3) (.cons (.var 9) (.cons (.bin .add (.var 9) (.var 7)) .nil))))))) .nil)
def l1__law_book : Sm := (.cons (.asg 11 (.bin .add (.var 11) (.lc .seq [7] (.one 7) (.tup (.cons (.int (0)) (.cons (.int (2)) (.cons (.int (4)) (.cons (.int (5)) (.cons (.int (3)) .nil)))))) (.or (.cmp .gt (.bin .mod (.ix (.var 1) (.bin .add (.int (13)) (.var 7))) (.int (4))) (.int (0))) (.cmp .eq (.var 7) (.int (0)))) (.call 2 (.cons (.var 3) (.cons (.var 9) (.cons (.bin .add (.var 9) (.var 7)) .nil))))))) .nil)
def b__law_book : Sm := (.cons (.asg 1 (.call 0 (.cons (.var 0) (.cons (.int (24)) .nil)))) (.cons (.asg 2 (.tup (.cons (.tup (.cons (.int (0)) (.cons (.int (2)) (.cons (.int (4)) (.cons (.int (5)) (.cons (.int (7)) (.cons (.int (9)) (.cons (.int (11)) .nil)))))))) (.cons (.tup (.cons (.int (0)) (.cons (.int (2)) (.cons (.int (3)) (.cons (.int (5)) (.cons (.int (7)) (.cons (.int (9)) (.cons (.int (10)) .nil)))))))) (.cons (.tup (.cons (.int (0)) (.cons (.int (1)) (.cons (.int (3)) (.cons (.int (5)) (.cons (.int (7)) (.cons (.int (8)) (.cons (.int (10)) .nil)))))))) (.cons (.tup (.cons (.int (0)) (.cons (.int (2)) (.cons (.int (4)) (.cons (.int (6)) (.cons (.int (7)) (.cons (.int (9)) (.cons (.int (11)) .nil)))))))) (.cons (.tup (.cons (.int (0)) (.cons (.int (1)) (.cons (.int (2)) (.cons (.int (3)) (.cons (.int (4)) (.cons (.int (5)) (.cons (.int (6)) .nil)))))))) .nil))))))) (.cons (.asg 3 (.ix (.var 2) (.bin .mod (.ix (.var 1) (.int (0))) (.int (5))))) (.cons (.asg 4 (.bin .sub (.bin .mod (.ix (.var 1) (.int (1))) (.int (5))) (.int (3)))) (.cons (.asg 5 (.bin .add (.bin .add (.var 4) (.bin .mod (.ix (.var 1) (.int (2))) (.int (3)))) (.int (2)))) (.cons (.asg 6 (.lc .seq [7] (.one 7) (.tup (.cons (.int (1)) (.cons (.int (2)) (.cons (.int (3)) (.cons (.int (4)) (.cons (.neg (.int (1))) (.cons (.neg (.int (2))) (.cons (.neg (.int (3))) (.cons (.neg (.int (4))) .nil))))))))) (.cmp .lt (.bin .mod (.ix (.var 1) (.bin .add (.int (3)) (.bin .mod (.var 7) (.int (8))))) (.int (3))) (.ite (.cmp .eq (.bi .abs (.cons (.var 7) .nil)) (.int (1))) (.int (3)) (.int (2)))) (.var 7))) (.cons (.asg 8 (.lst .nil)) (.cons (.fors .rng (.one 9) (.cons (.neg (.int (7))) (.cons (.int (14)) .nil)) l0__law_book) (.cons (.ifs (.cmp .eq (.bin .mod (.ix (.var 1) (.int (12))) (.int (3))) (.int (0))) (.cons (.asg 8 (.lc .seq [10] (.one 10) (.var 8) (.cmp .nin (.ix (.var 10) (.int (1))) (.tup (.cons (.int (6)) (.cons (.neg (.int (6))) (.cons (.int (1)) .nil))))) (.var 10))) .nil) .nil) (.cons (.asg 11 (.lst .nil)) (.cons (.fors .rng (.one 9) (.cons (.int (7)) .nil) l1__law_book) (.cons (.asg 11 (.call 3 (.cons (.var 11) .nil))) (.cons (.asg 12 (.bi .tuple (.cons (.lc .seq [10] (.one 10) (.var 11) (.or (.cmp .eq (.ix (.var 10) (.int (0))) (.int (0))) (.or (.and (.cmp .eq (.ix (.var 10) (.int (0))) (.int (4))) (.cmp .eq (.bin .mod (.ix (.var 1) (.int (20))) (.int (2))) (.int (0)))) (.cmp .eq (.bin .mod (.ix (.var 1) (.int (21))) (.int (5))) (.int (0))))) (.var 10)) .nil))) (.cons (.asg 13 (.ix (.tup (.cons .non (.cons (.int (2)) (.cons (.int (3)) (.cons (.int (4)) .nil))))) (.bin .mod (.ix (.var 1) (.int (22))) (.int (4))))) (.cons (.ret (.tup (.cons (.var 3) (.cons (.var 4) (.cons (.var 5) (.cons (.call 3 (.cons (.var 8) .nil)) (.cons (.var 11) (.cons (.var 12) (.cons (.var 13) .nil))))))))) .nil)))))))))))))))
def Φ__law_book : Fs := fsOf [φ__law_draws, φ__law_leap, φ__law_interval, φ__law_without_twins] [] []
def φ__law_book : List D → Res D := runDef Φ__law_book fN 14 b__law_book
def b__law_turned : Sm := (.cons (.asgT [2, 3, 4, 5, 6, 7, 8] (.var 0)) (.cons (.asg 9 (.tup (.cons (.tup (.cons (.var 0) (.cons (.bl true) .nil))) (.cons (.tup (.cons (.tup (.cons (.var 2) (.cons (.var 3) (.cons (.var 3) (.cons (.var 5) (.cons (.var 6) (.cons (.var 7) (.cons (.var 8) .nil)))))))) (.cons (.bl true) .nil))) (.cons (.tup (.cons (.tup (.cons (.var 2) (.cons (.var 3) (.cons (.bin .add (.var 3) (.int (24))) (.cons (.tup .nil) (.cons (.var 6) (.cons (.tup .nil) (.cons .non .nil)))))))) (.cons (.bl true) .nil))) (.cons (.tup (.cons (.tup (.cons (.var 2) (.cons (.var 3) (.cons (.var 4) (.cons (.var 5) (.cons (.tup .nil) (.cons (.tup .nil) (.cons (.var 8) .nil)))))))) (.cons (.bl true) .nil))) (.cons (.tup (.cons (.tup (.cons (.var 2) (.cons (.neg (.int (99))) (.cons (.neg (.int (99))) (.cons (.tup (.cons (.tup (.cons (.neg (.int (14))) (.cons (.neg (.int (1))) .nil))) (.cons (.tup (.cons (.int (14)) (.cons (.int (1)) .nil))) .nil))) (.cons (.tup (.cons (.tup (.cons (.int (0)) (.cons (.int (0)) .nil))) (.cons (.tup (.cons (.int (6)) (.cons (.int (11)) .nil))) .nil))) (.cons (.tup (.cons (.tup (.cons (.int (0)) (.cons (.int (0)) .nil))) .nil)) (.cons (.int (99)) .nil)))))))) (.cons (.bl true) .nil))) (.cons (.tup (.cons (.tup (.cons (.var 2) (.cons (.var 3) (.cons (.bin .add (.var 3) (.int (25))) (.cons (.var 5) (.cons (.var 6) (.cons (.var 7) (.cons (.var 8) .nil)))))))) (.cons (.bl false) .nil))) (.cons (.tup (.cons (.tup (.cons (.var 2) (.cons (.bin .add (.var 4) (.int (1))) (.cons (.var 4) (.cons (.var 5) (.cons (.var 6) (.cons (.var 7) (.cons (.var 8) .nil)))))))) (.cons (.bl false) .nil))) (.cons (.tup (.cons (.tup (.cons (.var 2) (.cons (.int (100)) (.cons (.int (100)) (.cons (.var 5) (.cons (.var 6) (.cons (.var 7) (.cons (.var 8) .nil)))))))) (.cons (.bl false) .nil))) (.cons (.tup (.cons (.tup (.cons (.var 2) (.cons (.bl true) (.cons (.bin .add (.var 4) (.int (2))) (.cons (.var 5) (.cons (.var 6) (.cons (.var 7) (.cons (.var 8) .nil)))))))) (.cons (.bl false) .nil))) (.cons (.tup (.cons (.tup (.cons (.var 2) (.cons (.var 3) (.cons .non (.cons (.var 5) (.cons (.var 6) (.cons (.var 7) (.cons (.var 8) .nil)))))))) (.cons (.bl false) .nil))) (.cons (.tup (.cons (.tup (.cons (.sl (.var 2) .nil (.int (6))) (.cons (.var 3) (.cons (.var 4) (.cons (.var 5) (.cons (.var 6) (.cons (.var 7) (.cons (.var 8) .nil)))))))) (.cons (.bl false) .nil))) (.cons (.tup (.cons (.tup (.cons (.bin .add (.sl (.var 2) .nil (.int (6))) (.tup (.cons (.int (12)) .nil))) (.cons (.var 3) (.cons (.var 4) (.cons (.var 5) (.cons (.var 6) (.cons (.var 7) (.cons (.var 8) .nil)))))))) (.cons (.bl false) .nil))) (.cons (.tup (.cons (.tup (.cons (.bin .add (.bin .add (.sl (.var 2) .nil (.int (2))) (.tup (.cons (.ix (.var 2) (.int (1))) .nil))) (.sl (.var 2) (.int (3)) .nil)) (.cons (.var 3) (.cons (.var 4) (.cons (.var 5) (.cons (.var 6) (.cons (.var 7) (.cons (.var 8) .nil)))))))) (.cons (.bl false) .nil))) (.cons (.tup (.cons (.tup (.cons (.bin .add (.tup (.cons (.int (1)) .nil)) (.sl (.var 2) (.int (1)) .nil)) (.cons (.var 3) (.cons (.var 4) (.cons (.var 5) (.cons (.var 6) (.cons (.var 7) (.cons (.var 8) .nil)))))))) (.cons (.bl false) .nil))) (.cons (.tup (.cons (.tup (.cons (.bi .list (.cons (.var 2) .nil)) (.cons (.var 3) (.cons (.var 4) (.cons (.var 5) (.cons (.var 6) (.cons (.var 7) (.cons (.var 8) .nil)))))))) (.cons (.bl false) .nil))) (.cons (.tup (.cons (.tup (.cons (.var 2) (.cons (.var 3) (.cons (.var 4) (.cons (.tup (.cons (.tup (.cons (.int (1)) (.cons (.int (2)) .nil))) (.cons (.tup (.cons (.int (1)) (.cons (.int (1)) .nil))) .nil))) (.cons (.var 6) (.cons (.var 7) (.cons (.var 8) .nil)))))))) (.cons (.bl false) .nil))) (.cons (.tup (.cons (.tup (.cons (.var 2) (.cons (.var 3) (.cons (.var 4) (.cons (.tup (.cons (.tup (.cons (.int (1)) (.cons (.int (1)) .nil))) (.cons (.tup (.cons (.int (1)) (.cons (.int (1)) .nil))) .nil))) (.cons (.var 6) (.cons (.var 7) (.cons (.var 8) .nil)))))))) (.cons (.bl false) .nil))) (.cons (.tup (.cons (.tup (.cons (.var 2) (.cons (.var 3) (.cons (.var 4) (.cons (.tup (.cons (.tup (.cons (.int (1)) (.cons (.neg (.int (1))) .nil))) .nil)) (.cons (.var 6) (.cons (.var 7) (.cons (.var 8) .nil)))))))) (.cons (.bl false) .nil))) (.cons (.tup (.cons (.tup (.cons (.var 2) (.cons (.var 3) (.cons (.var 4) (.cons (.tup (.cons (.tup (.cons (.int (0)) (.cons (.int (0)) .nil))) .nil)) (.cons (.var 6) (.cons (.var 7) (.cons (.var 8) .nil)))))))) (.cons (.bl false) .nil))) (.cons (.tup (.cons (.tup (.cons (.var 2) (.cons (.var 3) (.cons (.var 4) (.cons (.tup (.cons (.tup (.cons (.int (15)) (.cons (.int (20)) .nil))) .nil)) (.cons (.var 6) (.cons (.var 7) (.cons (.var 8) .nil)))))))) (.cons (.bl false) .nil))) (.cons (.tup (.cons (.tup (.cons (.var 2) (.cons (.var 3) (.cons (.var 4) (.cons (.lst (.cons (.tup (.cons (.int (1)) (.cons (.int (1)) .nil))) .nil)) (.cons (.var 6) (.cons (.var 7) (.cons (.var 8) .nil)))))))) (.cons (.bl false) .nil))) (.cons (.tup (.cons (.tup (.cons (.var 2) (.cons (.var 3) (.cons (.var 4) (.cons (.var 5) (.cons (.tup (.cons (.tup (.cons (.int (7)) (.cons (.int (0)) .nil))) .nil)) (.cons (.tup .nil) (.cons (.var 8) .nil)))))))) (.cons (.bl false) .nil))) (.cons (.tup (.cons (.tup (.cons (.var 2) (.cons (.var 3) (.cons (.var 4) (.cons (.var 5) (.cons (.tup (.cons (.tup (.cons (.int (0)) (.cons (.int (12)) .nil))) .nil)) (.cons (.tup .nil) (.cons (.var 8) .nil)))))))) (.cons (.bl false) .nil))) (.cons (.tup (.cons (.tup (.cons (.var 2) (.cons (.var 3) (.cons (.var 4) (.cons (.var 5) (.cons (.tup (.cons (.tup (.cons (.int (2)) (.cons (.int (4)) .nil))) (.cons (.tup (.cons (.int (2)) (.cons (.int (3)) .nil))) .nil))) (.cons (.tup .nil) (.cons (.var 8) .nil)))))))) (.cons (.bl false) .nil))) (.cons (.tup (.cons (.tup (.cons (.var 2) (.cons (.var 3) (.cons (.var 4) (.cons (.var 5) (.cons (.tup (.cons (.tup (.cons (.int (0)) (.cons (.int (0)) .nil))) .nil)) (.cons (.tup (.cons (.tup (.cons (.int (4)) (.cons (.int (7)) .nil))) .nil)) (.cons (.var 8) .nil)))))))) (.cons (.bl false) .nil))) (.cons (.tup (.cons (.tup (.cons (.var 2) (.cons (.var 3) (.cons (.var 4) (.cons (.var 5) (.cons (.var 6) (.cons (.var 7) (.cons (.int (1)) .nil)))))))) (.cons (.bl false) .nil))) (.cons (.tup (.cons (.tup (.cons (.var 2) (.cons (.var 3) (.cons (.var 4) (.cons (.var 5) (.cons (.var 6) (.cons (.var 7) (.cons (.bl true) .nil)))))))) (.cons (.bl false) .nil))) (.cons (.tup (.cons (.tup (.cons (.var 2) (.cons (.var 3) (.cons (.var 4) (.cons (.var 5) (.cons (.var 6) (.cons (.var 7) (.cons (.str "2") .nil)))))))) (.cons (.bl false) .nil))) .nil)))))))))))))))))))))))))))))) (.cons (.ret (.ix (.var 9) (.bin .mod (.var 1) (.bi .len (.cons (.var 9) .nil))))) .nil)))
def Φ__law_turned : Fs := fsOf [] [] []
def φ__law_turned : List D → Res D := runDef Φ__law_turned fN 10 b__law_turned
def b_is_number : Sm := (.cons (.ret (.and (.isi .int (.var 0)) (.and (.cmp .isnot (.var 0) (.bl true)) (.cmp .isnot (.var 0) (.bl false))))) .nil)
def Φ_is_number : Fs := fsOf [] [] []
def φ_is_number : List D → Res D := runDef Φ_is_number fN 1 b_is_number
def b_is_mode : Sm := (.cons (.ifs (.or (.nt (.isi .tup (.var 0))) (.or (.cmp .ne (.bi .len (.cons (.var 0) .nil)) (.int (7))) (.nt (.gen false .seq [1] (.one 1) (.var 0) (.call 0 (.cons (.var 1) .nil)))))) (.cons (.ret (.bl false)) .nil) .nil) (.cons (.ret (.and (.cmp .eq (.ix (.var 0) (.int (0))) (.int (0))) (.and (.cmp .lt (.ix (.var 0) (.int (6))) (.int (12))) (.gen false .rng [2] (.one 2) (.cons (.int (6)) .nil) (.cmp .lt (.ix (.var 0) (.var 2)) (.ix (.var 0) (.bin .add (.var 2) (.int (1))))))))) .nil))
def Φ_is_mode : Fs := fsOf [φ_is_number] [] []
def φ_is_mode : List D → Res D := runDef Φ_is_mode fN 3 b_is_mode
def b_rises : Sm := (.cons (.ret (.gen false .rng [1] (.one 1) (.cons (.bin .sub (.bi .len (.cons (.var 0) .nil)) (.int (1))) .nil) (.cmp .lt (.ix (.var 0) (.var 1)) (.ix (.var 0) (.bin .add (.var 1) (.int (1))))))) .nil)
def Φ_rises : Fs := fsOf [] [] []
def φ_rises : List D → Res D := runDef Φ_rises fN 2 b_rises
def b_is_pair : Sm := (.cons (.ret (.and (.isi .tup (.var 0)) (.and (.cmp .eq (.bi .len (.cons (.var 0) .nil)) (.int (2))) (.and (.call 0 (.cons (.ix (.var 0) (.int (0))) .nil)) (.call 0 (.cons (.ix (.var 0) (.int (1))) .nil)))))) .nil)
def Φ_is_pair : Fs := fsOf [φ_is_number] [] []
def φ_is_pair : List D → Res D := runDef Φ_is_pair fN 1 b_is_pair
def b_is_leaps : Sm := (.cons (.ifs (.or (.nt (.isi .tup (.var 0))) (.or (.nt (.gen false .seq [1] (.one 1) (.var 0) (.call 1 (.cons (.var 1) .nil)))) (.nt (.call 0 (.cons (.var 0) .nil))))) (.cons (.ret (.bl false)) .nil) .nil) (.cons (.ret (.gen false .seq [1] (.one 1) (.var 0) (.and (.chn .lt .le (.int (0)) (.bi .abs (.cons (.ix (.var 1) (.int (0))) .nil)) (.gint "MOST_STEPS" (14))) (.cmp .gt (.bin .mul (.ix (.var 1) (.int (0))) (.ix (.var 1) (.int (1)))) (.int (0)))))) .nil))
def Φ_is_leaps : Fs := fsOf [φ_rises, φ_is_pair] [] []
def φ_is_leaps : List D → Res D := runDef Φ_is_leaps fN 2 b_is_leaps
def b_is_intervals : Sm := (.cons (.ifs (.or (.nt (.isi .tup (.var 0))) (.or (.nt (.gen false .seq [1] (.one 1) (.var 0) (.call 1 (.cons (.var 1) .nil)))) (.nt (.call 0 (.cons (.var 0) .nil))))) (.cons (.ret (.bl false)) .nil) .nil) (.cons (.ret (.gen false .seq [1] (.one 1) (.var 0) (.and (.chn .le .le (.int (0)) (.ix (.var 1) (.int (0))) (.int (6))) (.chn .le .le (.int (0)) (.ix (.var 1) (.int (1))) (.int (11)))))) .nil))
def Φ_is_intervals : Fs := fsOf [φ_rises, φ_is_pair] [] []
def φ_is_intervals : List D → Res D := runDef Φ_is_intervals fN 2 b_is_intervals
def b_Book_init : Sm := (.cons (.ifs (.nt (.call 0 (.cons (.var 1) .nil))) (.cons (.raise 0) .nil) .nil) (.cons (.ifs (.or (.nt (.call 1 (.cons (.var 2) .nil))) (.or (.nt (.call 1 (.cons (.var 3) .nil))) (.or (.nt (.chn .le .le (.var 2) (.var 3) (.bin .add (.var 2) (.gint "MOST_RANGE" (24))))) (.cmp .gt (.bi .abs (.cons (.var 2) .nil)) (.int (99)))))) (.cons (.raise 0) .nil) .nil) (.cons (.ifs (.nt (.call 2 (.cons (.var 4) .nil))) (.cons (.raise 0) .nil) .nil) (.cons (.ifs (.or (.nt (.call 3 (.cons (.var 5) .nil))) (.or (.nt (.call 3 (.cons (.var 6) .nil))) (.nt (.gen false .seq [8] (.one 8) (.var 6) (.cmp .isin (.var 8) (.var 5)))))) (.cons (.raise 0) .nil) .nil) (.cons (.ifs (.and (.cmp .isnot (.var 7) .non) (.or (.nt (.call 1 (.cons (.var 7) .nil))) (.cmp .lt (.var 7) (.int (2))))) (.cons (.raise 0) .nil) .nil) (.cons (.fld 0 "mode" (.var 1)) (.cons (.fld 0 "low" (.var 2)) (.cons (.fld 0 "high" (.var 3)) (.cons (.fld 0 "leaps" (.var 4)) (.cons (.fld 0 "sweet" (.var 5)) (.cons (.fld 0 "perfect" (.var 6)) (.cons (.fld 0 "turn" (.var 7)) .nil))))))))))))
def Φ_Book_init : Fs := fsOf [φ_is_mode, φ_is_number, φ_is_leaps, φ_is_intervals] [] []
def φ_Book_init : List D → Res (List D) := runInit Φ_Book_init fN 0 9 b_Book_init
def b__law_made : Sm := (.cons (.ret (.make 0 0 (.cons (.ix (.var 0) (.int (0))) (.cons (.ix (.var 0) (.int (1))) (.cons (.ix (.var 0) (.int (2))) .nil))) (.cons (.ix (.var 0) (.int (3))) (.cons (.ix (.var 0) (.int (4))) (.cons (.ix (.var 0) (.int (5))) (.cons (.ix (.var 0) (.int (6))) .nil)))))) .nil)
def Φ__law_made : Fs := fsOf [] [] [([], φ_Book_init)]
def φ__law_made : List D → Res D := runDef Φ__law_made fN 1 b__law_made
def b_Book_notes : Sm := (.cons (.ret (.tupR (.cons (.fld 0 1 (.var 0)) (.cons (.bin .add (.fld 0 2 (.var 0)) (.int (1))) .nil)))) .nil)
def Φ_Book_notes : Fs := fsOf [] [] []
def φ_Book_notes : List D → Res D := runDef Φ_Book_notes fN 1 b_Book_notes
def b_law : Sm := (.cons (.asgT [1, 2] (.call 2 (.cons (.call 1 (.cons (.call 0 (.cons (.var 0) (.cons (.int (0)) .nil))) .nil)) (.cons (.bi .abs (.cons (.call 0 (.cons (.var 0) (.cons (.int (1)) .nil))) .nil)) .nil)))) (.cons (.tr 1 [3] (.cons (.asg 3 (.call 3 (.cons (.var 1) .nil))) .nil) [(0, .ret (.nt (.var 2)))]) (.cons (.asg 4 (.tup (.cons (.fld 0 0 (.var 3)) (.cons (.fld 0 1 (.var 3)) (.cons (.fld 0 2 (.var 3)) (.cons (.fld 0 3 (.var 3)) (.cons (.fld 0 4 (.var 3)) (.cons (.fld 0 5 (.var 3)) (.cons (.fld 0 6 (.var 3)) .nil))))))))) (.cons (.ret (.and (.var 2) (.and (.cmp .eq (.var 4) (.var 1)) (.cmp .eq (.meth 0 0 (.var 3) .nil) (.tupR (.cons (.ix (.var 1) (.int (1))) (.cons (.bin .add (.ix (.var 1) (.int (2))) (.int (1))) .nil))))))) .nil))))
def Φ_law : Fs := fsOf [φ__law_cell, φ__law_book, φ__law_turned, φ__law_made] [φ_Book_notes] []
def φ_law : List D → Res D := runDef Φ_law fN 5 b_law
end K00
namespace K00
open PySem PySem.Spec PyProof.Rows L2 GxR PD
section
variable {P : Program} {w : World} {h base : Heap} {K : PySem.W.Frag} {mg : Str → Option Value}
abbrev Sx (K : PySem.W.Frag) : Stat := statOf K cN eN fN tf
theorem cls0 (Z : Fac fa fn tf exB w h K mg base) : ClsAt (Sx K) 0 := cls_at Z (nm := "Book") (by decide +kernel) (fa_cls (by decide +kernel)) (fun f hf => fa_noat ((by decide +kernel : ∀ f ∈ fN 0, (("Book" : Str), f) ∈ noats) f hf)) (by decide +kernel) (by decide +kernel)
theorem hcl (Z : Fac fa fn tf exB w h K mg base) : ∀ c, fN c ≠ [] → ClsAt (Sx K) c := fun c h => match c, h with
  | 0, _ => cls0 Z
  | _ + 1, h => absurd rfl h
theorem hcls (Z : Fac fa fn tf exB w h K mg base) : ∀ c ∈ ([0] : List Nat), ClsAt (Sx K) c := fun c h => hcl Z c ((by decide +kernel : ∀ c ∈ ([0] : List Nat), fN c ≠ []) c h)
theorem exB_sp {K : PySem.W.Frag} (z : exB K = true) : (cN.all (isiB K) = true ∧ exmB K EX = true) ∧ tabNd K tf = true := by
  unfold exB at z
  rwa [Bool.and_eq_true, Bool.and_eq_true] at z
theorem exB_and (Z : Fac fa fn tf exB w h K mg base) : cN.all (isiB K) = true ∧ exmB K EX = true := (exB_sp Z.c.more).1
theorem hisc (Z : Fac fa fn tf exB w h K mg base) : ∀ nm c, (nm, c) ∈ ISC → ClsAt (Sx K) c ∧ IsiAt (Sx K) c ∧ cN.getD c "" = nm ∧ He.Fa.glo nm ∈ fa := fun nm c h => by
  have a := (by decide +kernel : ∀ p ∈ ISC, cN.getD p.2 "" = p.1 ∧ p.1 ∈ cN ∧ fN p.2 ≠ []) (nm, c) h
  exact ⟨hcl Z c a.2.2, isi_of (List.all_eq_true.mp (exB_and Z).1 nm a.2.1) a.1, a.1, fa_gloC a.2.1⟩
theorem hex (Z : Fac fa fn tf exB w h K mg base) {C : TC} (hC : C.exs = EX) : GExc (Sx K) C mg := gexc Z (fun x c hx => by
  rw [hC] at hx
  have a := (by decide +kernel : ∀ p ∈ EX, eN.getD p.2 "" = p.1 ∧ p.1 ∈ eN) (x, c) hx
  exact ⟨a.1, fa_exc a.2, fa_gloE a.2⟩) fun x c y d hx hy => exm_of (exB_and Z).2 x c y d (hC ▸ hx) (hC ▸ hy)
def C__law_cell : TC := ⟨["script", "k"], defScope s__law_cell, fun _ => true, false, false, GI, [], [], [], ISC, [0], EX, fN⟩
theorem kn__law_cell (Z : Fac fa fn tf exB w h K mg base) : Known (Sx K) P w mg base 3 "_law_cell" 2 φ__law_cell :=
  mk_known (L := 0) Z (d := d__law_cell) (List.mem_of_getElem? (i := 0) rfl) rfl (fa_glo (by decide +kernel)) rfl rfl (C := C__law_cell) (b := b__law_cell) (ps := ["script", "k"]) ⟨rfl, rfl, rfl, by decide +kernel, rfl, by decide +kernel, by decide +kernel⟩ rfl rfl (by decide +kernel) (fun _ _ _ _ _ _ us hl => match us, hl with | [_, _], _ => rfl) (fun z => nomatch z) (fun z => nomatch z) (genv (L := 0) Z (C := C__law_cell) fa_int fa_free .nil .nil .nil (hisc Z) (hcls Z) rfl) (hex Z rfl) (hcl Z)
def C__law_draws : TC := ⟨["cell", "count", "result", "rest", "k", "mixed"], defScope s__law_draws, fun _ => true, false, false, GI, [], [], [], ISC, [0], EX, fN⟩
theorem kn__law_draws (Z : Fac fa fn tf exB w h K mg base) : Known (Sx K) P w mg base 3 "_law_draws" 2 φ__law_draws :=
  mk_known (L := 0) Z (d := d__law_draws) (List.mem_of_getElem? (i := 1) rfl) rfl (fa_glo (by decide +kernel)) rfl rfl (C := C__law_draws) (b := b__law_draws) (ps := ["cell", "count"]) ⟨rfl, rfl, rfl, by decide +kernel, rfl, by decide +kernel, by decide +kernel⟩ rfl rfl (by decide +kernel) (fun _ _ _ _ _ _ us hl => match us, hl with | [_, _], _ => rfl) (fun z => nomatch z) (fun z => nomatch z) (genv (L := 0) Z (C := C__law_draws) fa_int fa_free .nil .nil .nil (hisc Z) (hcls Z) rfl) (hex Z rfl) (hcl Z)
def C__law_height : TC := ⟨["mode", "note"], defScope s__law_height, fun _ => true, false, false, GI, [], [], [], ISC, [0], EX, fN⟩
theorem kn__law_height (Z : Fac fa fn tf exB w h K mg base) : Known (Sx K) P w mg base 3 "_law_height" 2 φ__law_height :=
  mk_known (L := 0) Z (d := d__law_height) (List.mem_of_getElem? (i := 2) rfl) rfl (fa_glo (by decide +kernel)) rfl rfl (C := C__law_height) (b := b__law_height) (ps := ["mode", "note"]) ⟨rfl, rfl, rfl, by decide +kernel, rfl, by decide +kernel, by decide +kernel⟩ rfl rfl (by decide +kernel) (fun _ _ _ _ _ _ us hl => match us, hl with | [_, _], _ => rfl) (fun z => nomatch z) (fun z => nomatch z) (genv (L := 0) Z (C := C__law_height) fa_int fa_free .nil .nil .nil (hisc Z) (hcls Z) rfl) (hex Z rfl) (hcl Z)
def C__law_leap : TC := ⟨["mode", "first", "second"], defScope s__law_leap, fun _ => true, false, false, GI, [("_law_height", 2)], [], [], ISC, [0], EX, fN⟩
theorem kn__law_leap (Z : Fac fa fn tf exB w h K mg base) : Known (Sx K) P w mg base 6 "_law_leap" 3 φ__law_leap :=
  mk_known (L := 3) Z (d := d__law_leap) (List.mem_of_getElem? (i := 3) rfl) rfl (fa_glo (by decide +kernel)) rfl rfl (C := C__law_leap) (b := b__law_leap) (ps := ["mode", "first", "second"]) ⟨rfl, rfl, rfl, by decide +kernel, rfl, by decide +kernel, by decide +kernel⟩ rfl rfl (by decide +kernel) (fun _ _ _ _ _ _ us hl => match us, hl with | [_, _, _], _ => rfl) (fun z => nomatch z) (fun z => nomatch z) (genv (L := 3) Z (C := C__law_leap) fa_int fa_free (.cons ((kn__law_height Z).mono (by decide)) .nil) .nil .nil (hisc Z) (hcls Z) rfl) (hex Z rfl) (hcl Z)
def C__law_interval : TC := ⟨["mode", "lower", "upper"], defScope s__law_interval, fun _ => true, false, false, GI, [("_law_height", 2)], [], [], ISC, [0], EX, fN⟩
theorem kn__law_interval (Z : Fac fa fn tf exB w h K mg base) : Known (Sx K) P w mg base 6 "_law_interval" 3 φ__law_interval :=
  mk_known (L := 3) Z (d := d__law_interval) (List.mem_of_getElem? (i := 4) rfl) rfl (fa_glo (by decide +kernel)) rfl rfl (C := C__law_interval) (b := b__law_interval) (ps := ["mode", "lower", "upper"]) ⟨rfl, rfl, rfl, by decide +kernel, rfl, by decide +kernel, by decide +kernel⟩ rfl rfl (by decide +kernel) (fun _ _ _ _ _ _ us hl => match us, hl with | [_, _, _], _ => rfl) (fun z => nomatch z) (fun z => nomatch z) (genv (L := 3) Z (C := C__law_interval) fa_int fa_free (.cons ((kn__law_height Z).mono (by decide)) .nil) .nil .nil (hisc Z) (hcls Z) rfl) (hex Z rfl) (hcl Z)
def C__law_without_twins : TC := ⟨["rows", "k"], defScope s__law_without_twins, fun _ => true, false, false, GI, [], [], [], ISC, [0], EX, fN⟩
theorem kn__law_without_twins (Z : Fac fa fn tf exB w h K mg base) : Known (Sx K) P w mg base 3 "_law_without_twins" 1 φ__law_without_twins :=
  mk_known (L := 0) Z (d := d__law_without_twins) (List.mem_of_getElem? (i := 5) rfl) rfl (fa_glo (by decide +kernel)) rfl rfl (C := C__law_without_twins) (b := b__law_without_twins) (ps := ["rows"]) ⟨rfl, rfl, rfl, by decide +kernel, rfl, by decide +kernel, by decide +kernel⟩ rfl rfl (by decide +kernel) (fun _ _ _ _ _ _ us hl => match us, hl with | [_], _ => rfl) (fun z => nomatch z) (fun z => nomatch z) (genv (L := 0) Z (C := C__law_without_twins) fa_int fa_free .nil .nil .nil (hisc Z) (hcls Z) rfl) (hex Z rfl) (hcl Z)
def C__law_book : TC := ⟨["cell", "n", "modes", "mode", "low", "high", "steps", "k", "leaps", "first", "pair", "sweet", "perfect", "turn"], defScope s__law_book, fun _ => true, false, false, GI, [("_law_draws", 2), ("_law_leap", 3), ("_law_interval", 3), ("_law_without_twins", 1)], [], [], ISC, [0], EX, fN⟩
theorem kn__law_book (Z : Fac fa fn tf exB w h K mg base) : Known (Sx K) P w mg base 9 "_law_book" 1 φ__law_book :=
  mk_known (L := 6) Z (d := d__law_book) (List.mem_of_getElem? (i := 6) rfl) rfl (fa_glo (by decide +kernel)) rfl rfl (C := C__law_book) (b := b__law_book) (ps := ["cell"]) ⟨rfl, rfl, rfl, by decide +kernel, rfl, by decide +kernel, by decide +kernel⟩ rfl rfl (by decide +kernel) (fun _ _ _ _ _ _ us hl => match us, hl with | [_], _ => rfl) (fun z => nomatch z) (fun z => nomatch z) (genv (L := 6) Z (C := C__law_book) fa_int fa_free (.cons ((kn__law_draws Z).mono (by decide)) (.cons ((kn__law_leap Z).mono (by decide)) (.cons ((kn__law_interval Z).mono (by decide)) (.cons ((kn__law_without_twins Z).mono (by decide)) .nil)))) .nil .nil (hisc Z) (hcls Z) rfl) (hex Z rfl) (hcl Z)
def C__law_turned : TC := ⟨["b", "n", "mode", "low", "high", "leaps", "sweet", "perfect", "turn", "rows"], defScope s__law_turned, fun _ => true, false, false, GI, [], [], [], ISC, [0], EX, fN⟩
theorem kn__law_turned (Z : Fac fa fn tf exB w h K mg base) : Known (Sx K) P w mg base 3 "_law_turned" 2 φ__law_turned :=
  mk_known (L := 0) Z (d := d__law_turned) (List.mem_of_getElem? (i := 7) rfl) rfl (fa_glo (by decide +kernel)) rfl rfl (C := C__law_turned) (b := b__law_turned) (ps := ["b", "n"]) ⟨rfl, rfl, rfl, by decide +kernel, rfl, by decide +kernel, by decide +kernel⟩ rfl rfl (by decide +kernel) (fun _ _ _ _ _ _ us hl => match us, hl with | [_, _], _ => rfl) (fun z => nomatch z) (fun z => nomatch z) (genv (L := 0) Z (C := C__law_turned) fa_int fa_free .nil .nil .nil (hisc Z) (hcls Z) rfl) (hex Z rfl) (hcl Z)
def C_is_number : TC := ⟨["value"], defScope s_is_number, fun _ => true, false, false, GI, [], [], [], ISC, [0], EX, fN⟩
theorem kn_is_number (Z : Fac fa fn tf exB w h K mg base) : Known (Sx K) P w mg base 3 "is_number" 1 φ_is_number :=
  mk_known (L := 0) Z (d := d_is_number) (List.mem_of_getElem? (i := 8) rfl) rfl (fa_glo (by decide +kernel)) rfl rfl (C := C_is_number) (b := b_is_number) (ps := ["value"]) ⟨rfl, rfl, rfl, by decide +kernel, rfl, by decide +kernel, by decide +kernel⟩ rfl rfl (by decide +kernel) (fun _ _ _ _ _ _ us hl => match us, hl with | [_], _ => rfl) (fun z => nomatch z) (fun z => nomatch z) (genv (L := 0) Z (C := C_is_number) fa_int fa_free .nil .nil .nil (hisc Z) (hcls Z) rfl) (hex Z rfl) (hcl Z)
def C_is_mode : TC := ⟨["mode", "number", "at"], defScope s_is_mode, fun _ => true, true, false, GI, [("is_number", 1)], [], [], ISC, [0], EX, fN⟩
theorem kn_is_mode (Z : Fac fa fn tf exB w h K mg base) : Known (Sx K) P w mg base 6 "is_mode" 1 φ_is_mode :=
  mk_known (L := 3) Z (d := d_is_mode) (List.mem_of_getElem? (i := 9) rfl) rfl (fa_glo (by decide +kernel)) rfl rfl (C := C_is_mode) (b := b_is_mode) (ps := ["mode"]) ⟨rfl, rfl, rfl, by decide +kernel, rfl, by decide +kernel, by decide +kernel⟩ rfl rfl (by decide +kernel) (fun _ _ _ _ _ _ us hl => match us, hl with | [_], _ => rfl) (fun _ => by decide +kernel) (fun z => nomatch z) (genv (L := 3) Z (C := C_is_mode) fa_int fa_free (.cons ((kn_is_number Z).mono (by decide)) .nil) .nil .nil (hisc Z) (hcls Z) rfl) (hex Z rfl) (hcl Z)
def C_rises : TC := ⟨["rows", "at"], defScope s_rises, fun _ => true, true, false, GI, [], [], [], ISC, [0], EX, fN⟩
theorem kn_rises (Z : Fac fa fn tf exB w h K mg base) : Known (Sx K) P w mg base 3 "rises" 1 φ_rises :=
  mk_known (L := 0) Z (d := d_rises) (List.mem_of_getElem? (i := 10) rfl) rfl (fa_glo (by decide +kernel)) rfl rfl (C := C_rises) (b := b_rises) (ps := ["rows"]) ⟨rfl, rfl, rfl, by decide +kernel, rfl, by decide +kernel, by decide +kernel⟩ rfl rfl (by decide +kernel) (fun _ _ _ _ _ _ us hl => match us, hl with | [_], _ => rfl) (fun _ => by decide +kernel) (fun z => nomatch z) (genv (L := 0) Z (C := C_rises) fa_int fa_free .nil .nil .nil (hisc Z) (hcls Z) rfl) (hex Z rfl) (hcl Z)
def C_is_pair : TC := ⟨["pair"], defScope s_is_pair, fun _ => true, false, false, GI, [("is_number", 1)], [], [], ISC, [0], EX, fN⟩
theorem kn_is_pair (Z : Fac fa fn tf exB w h K mg base) : Known (Sx K) P w mg base 6 "is_pair" 1 φ_is_pair :=
  mk_known (L := 3) Z (d := d_is_pair) (List.mem_of_getElem? (i := 11) rfl) rfl (fa_glo (by decide +kernel)) rfl rfl (C := C_is_pair) (b := b_is_pair) (ps := ["pair"]) ⟨rfl, rfl, rfl, by decide +kernel, rfl, by decide +kernel, by decide +kernel⟩ rfl rfl (by decide +kernel) (fun _ _ _ _ _ _ us hl => match us, hl with | [_], _ => rfl) (fun z => nomatch z) (fun z => nomatch z) (genv (L := 3) Z (C := C_is_pair) fa_int fa_free (.cons ((kn_is_number Z).mono (by decide)) .nil) .nil .nil (hisc Z) (hcls Z) rfl) (hex Z rfl) (hcl Z)
def C_is_leaps : TC := ⟨["leaps", "pair"], defScope s_is_leaps, fun _ => true, true, false, GI, [("rises", 1), ("is_pair", 1)], [], [], ISC, [0], EX, fN⟩
theorem kn_is_leaps (Z : Fac fa fn tf exB w h K mg base) : Known (Sx K) P w mg base 9 "is_leaps" 1 φ_is_leaps :=
  mk_known (L := 6) Z (d := d_is_leaps) (List.mem_of_getElem? (i := 12) rfl) rfl (fa_glo (by decide +kernel)) rfl rfl (C := C_is_leaps) (b := b_is_leaps) (ps := ["leaps"]) ⟨rfl, rfl, rfl, by decide +kernel, rfl, by decide +kernel, by decide +kernel⟩ rfl rfl (by decide +kernel) (fun _ _ _ _ _ _ us hl => match us, hl with | [_], _ => rfl) (fun _ => by decide +kernel) (fun z => nomatch z) (genv (L := 6) Z (C := C_is_leaps) fa_int fa_free (.cons ((kn_rises Z).mono (by decide)) (.cons ((kn_is_pair Z).mono (by decide)) .nil)) .nil .nil (hisc Z) (hcls Z) rfl) (hex Z rfl) (hcl Z)
def C_is_intervals : TC := ⟨["rows", "pair"], defScope s_is_intervals, fun _ => true, true, false, GI, [("rises", 1), ("is_pair", 1)], [], [], ISC, [0], EX, fN⟩
theorem kn_is_intervals (Z : Fac fa fn tf exB w h K mg base) : Known (Sx K) P w mg base 9 "is_intervals" 1 φ_is_intervals :=
  mk_known (L := 6) Z (d := d_is_intervals) (List.mem_of_getElem? (i := 13) rfl) rfl (fa_glo (by decide +kernel)) rfl rfl (C := C_is_intervals) (b := b_is_intervals) (ps := ["rows"]) ⟨rfl, rfl, rfl, by decide +kernel, rfl, by decide +kernel, by decide +kernel⟩ rfl rfl (by decide +kernel) (fun _ _ _ _ _ _ us hl => match us, hl with | [_], _ => rfl) (fun _ => by decide +kernel) (fun z => nomatch z) (genv (L := 6) Z (C := C_is_intervals) fa_int fa_free (.cons ((kn_rises Z).mono (by decide)) (.cons ((kn_is_pair Z).mono (by decide)) .nil)) .nil .nil (hisc Z) (hcls Z) rfl) (hex Z rfl) (hcl Z)
def C_Book_init : TC := ⟨["self", "mode", "low", "high", "leaps", "sweet", "perfect", "turn", "pair"], defScope s_Book_init, fun _ => true, true, false, GI, [("is_mode", 1), ("is_number", 1), ("is_leaps", 1), ("is_intervals", 1)], [], [], ISC, [0], EX, fN⟩
theorem kn_Book_init (Z : Fac fa fn tf exB w h K mg base) : KnownI (Sx K) P w mg base 12 "Book" 0 3 ["leaps", "sweet", "perfect", "turn"] [] φ_Book_init :=
  mk_knownI (L := 9) Z (d := d_Book_init) (List.mem_of_getElem? (i := 14) rfl) (cn := "Book") (c := 0) (n1 := 3) (ks := ["leaps", "sweet", "perfect", "turn"]) (dd := []) (dv := []) (by decide +kernel) rfl (fa_mkr (by decide +kernel)) (fa_gloC (by decide +kernel)) (C := C_Book_init) (ps := ["self", "mode", "low", "high", "leaps", "sweet", "perfect", "turn"]) ⟨rfl, rfl, rfl, by decide +kernel, rfl, by decide +kernel, by decide +kernel⟩ rfl rfl (by decide +kernel) rfl (fun _ _ => Reps.nil)
    (fun fd F => kb_of F 4 ["leaps", "sweet", "perfect", "turn"] [] (by simp [He.DefD.kws, d_Book_init]) (fun q hq => (by cases hq)) fun D doc pm an cdv ct us mv ws h1 h2 h3 => match us, mv, ws, h1, h2, h3 with | [_, _, _, _], [], [_, _, _, _], _, _, _ => rfl) (fun _ => by decide +kernel) rfl (genv (L := 9) Z (C := C_Book_init) fa_int fa_free (.cons ((kn_is_mode Z).mono (by decide)) (.cons ((kn_is_number Z).mono (by decide)) (.cons ((kn_is_leaps Z).mono (by decide)) (.cons ((kn_is_intervals Z).mono (by decide)) .nil)))) .nil .nil (hisc Z) (hcls Z) rfl) (hex Z rfl) (hcl Z)
def C__law_made : TC := ⟨["b"], defScope s__law_made, fun _ => true, false, false, GI, [], [], [("Book", 0, 3, ["leaps", "sweet", "perfect", "turn"])], ISC, [0], EX, fN⟩
theorem kn__law_made (Z : Fac fa fn tf exB w h K mg base) : Known (Sx K) P w mg base 15 "_law_made" 1 φ__law_made :=
  mk_known (L := 12) Z (d := d__law_made) (List.mem_of_getElem? (i := 15) rfl) rfl (fa_glo (by decide +kernel)) rfl rfl (C := C__law_made) (b := b__law_made) (ps := ["b"]) ⟨rfl, rfl, rfl, by decide +kernel, rfl, by decide +kernel, by decide +kernel⟩ rfl rfl (by decide +kernel) (fun _ _ _ _ _ _ us hl => match us, hl with | [_], _ => rfl) (fun z => nomatch z) (fun z => nomatch z) (genv (L := 12) Z (C := C__law_made) fa_int fa_free .nil .nil (.cons ((kn_Book_init Z).mono (by decide)) .nil) (hisc Z) (hcls Z) rfl) (hex Z rfl) (hcl Z)
def C_Book_notes : TC := ⟨["self"], defScope s_Book_notes, fun _ => true, false, false, GI, [], [], [], ISC, [0], EX, fN⟩
theorem kn_Book_notes (Z : Fac fa fn tf exB w h K mg base) : KnownM (Sx K) P w mg base 3 0 "notes" 1 φ_Book_notes :=
  mk_knownM (L := 0) Z (d := d_Book_notes) (List.mem_of_getElem? (i := 16) rfl) (cn := "Book") (by decide +kernel) rfl (fa_meth (by decide +kernel)) (by decide +kernel) rfl (C := C_Book_notes) (b := b_Book_notes) (ps := ["self"]) ⟨rfl, rfl, rfl, by decide +kernel, rfl, by decide +kernel, by decide +kernel⟩ rfl rfl (by decide +kernel) (fun _ _ _ _ _ _ us hl => match us, hl with | [_], _ => rfl) (fun z => nomatch z) rfl (genv (L := 0) Z (C := C_Book_notes) fa_int fa_free .nil .nil .nil (hisc Z) (hcls Z) rfl) (hex Z rfl) (hcl Z)
def C_law : TC := ⟨["script", "handed", "good", "book", "told"], defScope s_law, fun _ => true, false, false, GI, [("_law_cell", 2), ("_law_book", 1), ("_law_turned", 2), ("_law_made", 1)], [(0, "notes", 1)], [], ISC, [0], EX, fN⟩
theorem law_at {w : World} {h : Heap} {K : PySem.W.Frag} {mg : Str → Option Value} {fA : Addr} (X : K.In h) (Gm : h.Ns mainGlobals mg) (c : He.SaysX fa fn [] tf exB w h K) (hmg : mg "law" = some (.ref fA))
    (math : ∀ ns : List Int, ns.length ≤ 63 → (∀ z ∈ ns, Builtin.Int.intBits z ≤ 1048576) → φ_law [.raw (ns.map D.int)] = .ok (.bl true) ∧ φ_law [.lst (ns.map D.int)] = .ok (.bl true)) :
    LamX.LawAtS PySem.Challenge.rw_cantusmill_k00_what_makes_a_book w K (L2.CX (PySem.Challenge.rw_cantusmill_k00_what_makes_a_book).prog w) 18 63 "script" mg fA h :=
  mk_law (L := 15) (l := PySem.Challenge.rw_cantusmill_k00_what_makes_a_book) X Gm c (d := d_law) (List.mem_of_getElem? (i := 17) rfl) rfl (fa_glo (by decide +kernel)) hmg rfl (C := C_law) (b := b_law) ⟨rfl, rfl, rfl, by decide +kernel, rfl, by decide +kernel, by decide +kernel⟩ rfl rfl (by decide +kernel) (fun _ _ _ _ _ _ us hl => match us, hl with | [_], _ => rfl) (fun z => nomatch z) rfl (exB_sp c.more).2 (fun base Z => genv (L := 15) Z (C := C_law) fa_int fa_free (.cons ((kn__law_cell Z).mono (by decide)) (.cons ((kn__law_book Z).mono (by decide)) (.cons ((kn__law_turned Z).mono (by decide)) (.cons ((kn__law_made Z).mono (by decide)) .nil)))) (.cons ((kn_Book_notes Z).mono (by decide)) (cls0 Z) .nil) .nil (hisc Z) (hcls Z) rfl) (fun base Z => hex Z rfl) (fun base Z => hcl Z) math
end
end K00
namespace K00
open PySem PySem.Spec PyProof.Rows L2 GxR PD
def loose : List Str := (["_wall", "CantusError", "BadBook", "MOST_RANGE", "MOST_STEPS", "is_number", "is_mode", "is_pair", "rises", "is_leaps", "is_intervals", "Book", "_law_cell", "_law_draws", "_law_height", "_law_leap", "_law_interval", "_law_without_twins", "_law_book", "_law_made", "_law_turned"] : List Str)
abbrev Rw : PySem.W.OpenRow := PySem.W.OpenLaw.row PySem.Challenge.rw_cantusmill_k00_what_makes_a_book
abbrev hk : PySem.W.Hook := hookW 6 fa fn [] tf exB
def ob (s : PySem.W.SharedT) : He.AlX := obsW 6 fa fn [] tf exB (HandSHeadRun.getT s)
theorem ob_eq (s : PySem.W.SharedT) : ob s = hk.obs s.abs := obsW_eq (HandSHeadRun.getT_eq s)
open PySem.W PySem.Calls in
theorem runA (w : World) : ∀ os : OsState, (HandSHeadRun.endF (HandSHeadRun.stepQ (HandSHeadRun.denQ HandSHeadRun.tabQ) Rw.prog w) 9000 Rw.prog w os).map (fun s => HandSHeadRun.looksF Rw.prog (boot_heap w.params) s.abs) = some true := by
  intro os
  kernel_rfl
open PySem.W PySem.Calls in
theorem runB (w : World) : ∀ os : OsState, (HandSHeadRun.endF (HandSHeadRun.stepQ (HandSHeadRun.denQ HandSHeadRun.tabQ) Rw.prog w) 9000 Rw.prog w os).map (fun s => HandSHeadRun.seenQ (PySem.W.view Rw.prog [24]) loose (importedModules Rw.prog.main.body) (fun s => xlAt (PySem.W.view Rw.prog [24]) [] s && recOk Rw.toRowW.records s) s.abs) = some (openGood (PySem.W.view Rw.prog [24]) loose) := by
  intro os
  kernel_rfl
open PySem.W PySem.Calls in
theorem runC (w : World) : ∀ os : OsState, (HandSHeadRun.endF (HandSHeadRun.stepQ (HandSHeadRun.denQ HandSHeadRun.tabQ) Rw.prog w) 9000 Rw.prog w os).map (fun s => (ob s).1) = some (hk.val w).1 := by
  intro os
  kernel_rfl
open PySem.W PySem.Calls in
theorem runD (w : World) : ∀ os : OsState, (HandSHeadRun.endF (HandSHeadRun.stepQ (HandSHeadRun.denQ HandSHeadRun.tabQ) Rw.prog w) 9000 Rw.prog w os).map (fun s => (ob s).2) = some (hk.val w).2 := by
  intro os
  kernel_rfl
theorem run (w : World) : HandSHeadRun.RunEq Rw (PySem.W.view Rw.prog [24]) hk ob 9000 loose w := fun os => run_of (runA w os) (runB w os) (runC w os) (runD w os)
end K00
namespace K00
open PySem PySem.Spec PyProof.Rows L2 GxR PD
theorem e_number (i : Int) : φ_is_number [.int i] = .ok (.bl true) := by
  simp (config := { implicitDefEqProofs := false }) [φ_is_number, b_is_number, runDef, startE, slx]
theorem e_lheight {m : List Int} (hm : m.length = 7) (n : Int) : φ__law_height [.tup (m.map .int), .int n] = .ok (.int (hgt m n)) := by
  have h0 : 0 ≤ n % 7 := Int.emod_nonneg _ (by decide)
  have h1 : n % 7 < m.length := by rw [hm]; exact Int.emod_lt_of_pos _ (by decide)
  simp (config := { implicitDefEqProofs := false }) [φ__law_height, b__law_height, runDef, startE, slx, d_mulL, d_fdiv, d_mod, ix_tupI h0 h1, hgt]
theorem e_lleap {m : List Int} (hm : m.length = 7) (a b : Int) : φ__law_leap [.tup (m.map .int), .int a, .int b] = .ok (dP (lpP m a b)) := by
  simp (config := { implicitDefEqProofs := false }) [φ__law_leap, b__law_leap, Φ__law_leap, fsOf, runDef, startE, slx, e_lheight hm, tupK_ok, dP, lpP]
theorem e_linterval {m : List Int} (hm : m.length = 7) (a b : Int) : φ__law_interval [.tup (m.map .int), .int a, .int b] = .ok (dP (ivP m a b)) := by
  simp (config := { implicitDefEqProofs := false }) [φ__law_interval, b__law_interval, Φ__law_interval, fsOf, runDef, startE, slx, e_lheight hm, tupK_ok, dP, ivP, d_mod]
def dI (cell count : Int) (n : Nat) : Nat → En → Prop := fun k ρ => ∃ (acc : List Int) (rest : Int) (s4 s5 : Sl), ρ = [.pl (.int cell), .pl (.int count), .ow (.lst (acc.map .int)), .pl (.int rest), s4, s5] ∧ acc.length = k ∧ k ≤ n ∧ (∀ x ∈ acc, 0 ≤ x) ∧ (1000000000000000000 ≤ cell → 0 ≤ rest)
theorem e_drawA {cell count rest x m : Int} {acc : List Int} {s5 : Sl} (hm : (cell * 48271 + x * 69621 + 1) % 2147483647 = m) (hc : (1000000000000000000 : Int) ≤ cell) (hlt : acc.length < sizeLine) :
    exS Φ__law_draws fN l0__law_draws [.pl (.int cell), .pl (.int count), .ow (.lst (acc.map .int)), .pl (.int rest), .pl (.int x), s5] = .nx [.pl (.int cell), .pl (.int count), .ow (.lst ((acc ++ [rest % 1009]).map .int)), .pl (.int (rest / 1009)), .pl (.int x), .pl (.int m)] := by
  simp (config := { implicitDefEqProofs := false }) [l0__law_draws, slx, d_mulL, d_mulR, d_fdiv, d_mod, powD, hc, hlt, hm]
theorem e_drawB {cell count rest x m : Int} {acc : List Int} {s5 : Sl} (hm : (cell * 48271 + x * 69621 + 1) % 2147483647 = m) (h1 : 0 ≤ m) (h2 : m < 2147483647) (hc : ¬ (1000000000000000000 : Int) ≤ cell) (hlt : acc.length < sizeLine) :
    exS Φ__law_draws fN l0__law_draws [.pl (.int cell), .pl (.int count), .ow (.lst (acc.map .int)), .pl (.int rest), .pl (.int x), s5] = .nx [.pl (.int cell), .pl (.int count), .ow (.lst ((acc ++ [(m * m + m * 40692) % 2147483399 / 7]).map .int)), .pl (.int rest), .pl (.int x), .pl (.int m)] := by
  have h3 : -18446744073709551616 < m := by omega
  have h4 : m < 18446744073709551616 := by omega
  simp (config := { implicitDefEqProofs := false }) [l0__law_draws, slx, d_mulL, d_mulR, d_fdiv, d_mod, powD, hc, hlt, hm, h3, h4]
theorem e_draws (cell : Int) {count : Int} (hn : 0 ≤ count) (hc : count ≤ 1000) : ∃ ns : List Int, (ns.length : Int) = count ∧ (∀ x ∈ ns, 0 ≤ x) ∧ φ__law_draws [.int cell, .int count] = .ok (.lst (ns.map .int)) := by
  obtain ⟨ρ', e, acc, rest, s4, s5, rfl, hl, _, ha, _⟩ := forL_at (t := .one 4) (F := D.int) (g := exS Φ__law_draws fN l0__law_draws) (xs := rangeI 0 count.toNat) (I := dI cell count count.toNat)
    (ρ := [.pl (.int cell), .pl (.int count), .ow (.lst []), .pl (.int cell), .un, .un]) (fun i x ρ hx hI => by
      obtain ⟨acc, rest, s4, s5, rfl, hl, hk, ha, hr⟩ := hI
      have hi := (get_rangeI hx).2
      have hlt : acc.length < sizeLine := by rw [sizeLine_eq]; omega
      have h1 : 0 ≤ (cell * 48271 + x * 69621 + 1) % 2147483647 := Int.emod_nonneg _ (by decide)
      have h2 : (cell * 48271 + x * 69621 + 1) % 2147483647 < 2147483647 := Int.emod_lt_of_pos _ (by decide)
      by_cases hc : (1000000000000000000 : Int) ≤ cell
      · refine ⟨_, _, rfl, .inl (e_drawA rfl hc hlt), acc ++ [rest % 1009], rest / 1009, _, _, rfl, by simp (config := { implicitDefEqProofs := false }) [hl], by omega, ?_, fun _ => Int.ediv_nonneg (hr hc) (by decide)⟩
        intro x hx
        rcases List.mem_append.mp hx with hx | hx
        · exact ha x hx
        · rw [List.mem_singleton.mp hx]; exact Int.emod_nonneg _ (by decide)
      · refine ⟨_, _, rfl, .inl (e_drawB rfl h1 h2 hc hlt), acc ++ [_], rest, _, _, rfl, by simp (config := { implicitDefEqProofs := false }) [hl], by omega, ?_, fun h => absurd h hc⟩
        intro x hx
        rcases List.mem_append.mp hx with hx | hx
        · exact ha x hx
        · rw [List.mem_singleton.mp hx]; exact Int.ediv_nonneg (Int.emod_nonneg _ (by decide)) (by decide)) ⟨[], cell, .un, .un, rfl, rfl, Nat.zero_le _, fun _ h => absurd h (by simp), fun h => by omega⟩
  refine ⟨acc, by rw [hl, len_rangeI]; omega, ha, ?_⟩
  unfold φ__law_draws b__law_draws
  simp (config := { implicitDefEqProofs := false }) [runDef, startE, slx, slI, lstK_ok, ownV, rng1 (show -(2 ^ 62) ≤ count ∧ count < 2 ^ 62 by omega)]
  rw [e]
  simp (config := { implicitDefEqProofs := false }) [slx]
theorem e_twins {ps : List (Int × Int)} (h : ps.length ≤ 10000) : φ__law_without_twins [.lst (ps.map dP)] = .ok (.tup ((twinP (sortP ps)).map dP)) := by
  have hl : (sortP ps).length ≤ 10000 := by rw [sortP_len]; exact h
  have hw := twinP_len (ps := sortP ps)
  unfold φ__law_without_twins b__law_without_twins runDef
  rw [go_asg (.lst ((sortP ps).map dP)) (by simp (config := { implicitDefEqProofs := false }) [slx, startE, outE]) (by simp (config := { implicitDefEqProofs := false }) [startE, sorted_P (show ps.length ≤ 16777216 by omega)])
    (go_ret (d := .tup ((twinP (sortP ps)).map dP)) (by simp (config := { implicitDefEqProofs := false }) [slx, startE, outE]) ?_)]
  · rfl
  generalize sortP ps = qs at hl hw
  have e : lcL [1] (.one 1) (evC Φ__law_without_twins (.or (.cmp .eq (.var 1) (.int (0))) (.cmp .ne (.ix (.var 0) (.var 1)) (.ix (.var 0) (.bin .sub (.var 1) (.int (1))))))) (ev Φ__law_without_twins (.ix (.var 0) (.var 1))) [.pl (.lst (qs.map dP)), .un] ((rangeI 0 qs.length).map D.int) = .ok ((twinP qs).map dP) := by
    unfold twinP
    rw [List.map_map]
    refine lcL_map (R := fun k => [.pl (.lst (qs.map dP)), .pl (.int k)]) (c := keepP qs) fun k hk => ⟨rfl, ?_, fun _ => ?_⟩
    · have hk := mem_rangeI.mp hk
      rw [vC_of rfl]
      by_cases h0 : k = 0
      · simp (config := { implicitDefEqProofs := false }) [h0, eqI, keepP]
      · simp (config := { implicitDefEqProofs := false }) [h0, eqI, keepP, ix_lstP (show 0 ≤ k by omega) (show k < qs.length by omega), ix_lstP (show 0 ≤ k - 1 by omega) (show k - 1 < qs.length by omega), eq_P]
    · have hk := mem_rangeI.mp hk
      simp (config := { implicitDefEqProofs := false }) [ix_lstP (show 0 ≤ k by omega) (show k < qs.length by omega)]
  simp (config := { implicitDefEqProofs := false }) [startE, rng1 (show -(2 ^ 62) ≤ (qs.length : Int) ∧ (qs.length : Int) < 2 ^ 62 by omega)]
  rw [e]
  simp (config := { implicitDefEqProofs := false }) [sizeLine_eq, show (twinP qs).length ≤ 16777216 by omega]
def iL (f : List (Int × Int) → Sl → Sl → En) (w : Nat) (P : Int × Int → Prop) : Nat → En → Prop := fun k ρ => ∃ (ps : List (Int × Int)) (s7 s9 : Sl), ρ = f ps s7 s9 ∧ ps.length ≤ w * k ∧ ∀ p ∈ ps, P p
theorem e_bkA {m : List Int} (hm : m ∈ modes) {c n d lo hi : Sl} {ks : List Int} (hf : ∀ k ∈ ks, k ∈ stepsL) (hfl : ks.length ≤ 8) : ∃ ρ', forL (.one 9) (exS Φ__law_book fN l0__law_book) [c, n, d, .pl (.tup (m.map .int)), lo, hi, .pl (.lst (ks.map .int)), .un, .pl (.lst []), .un, .un, .un, .un, .un] ((rangeI (-7) 21).map .int) = .nx ρ' ∧
    iL (fun ps s7 s9 => [c, n, d, .pl (.tup (m.map .int)), lo, hi, .pl (.lst (ks.map .int)), s7, .pl (.lst (ps.map dP)), s9, .un, .un, .un, .un]) 8 okL (rangeI (-7) 21).length ρ' := by
  have hm7 := (by decide : ∀ m ∈ modes, m.length = 7) _ hm
  refine forL_at (F := D.int) (fun i x ρ hx hI => ?_) ⟨[], .un, .un, rfl, by simp, by simp⟩
  obtain ⟨ps, s7, s9, rfl, hl, hP⟩ := hI
  obtain ⟨hxe, hx2⟩ := get_rangeI hx
  have hx' : x ∈ rangeI (-7) 21 := List.mem_of_getElem? hx
  have e : lcL [7] (.one 7) (evC Φ__law_book .nil) (ev Φ__law_book (.call 1 (.cons (.var 3) (.cons (.var 9) (.cons (.bin .add (.var 9) (.var 7)) .nil))))) [c, n, d, .pl (.tup (m.map .int)), lo, hi, .pl (.lst (ks.map .int)), s7, .pl (.lst (ps.map dP)), .pl (.int x), .un, .un, .un, .un] (ks.map D.int) = .ok ((ks.filter fun _ => true).map fun k => dP (lpP m x (x + k))) := by
    refine lcL_map (R := fun k => [c, n, d, .pl (.tup (m.map .int)), lo, hi, .pl (.lst (ks.map .int)), .pl (.int k), .pl (.lst (ps.map dP)), .pl (.int x), .un, .un, .un, .un]) fun k hk => ⟨rfl, rfl, fun _ => ?_⟩
    simp (config := { implicitDefEqProofs := false }) [Φ__law_book, fsOf, e_lleap hm7]
  have ee : (ks.filter fun _ => true) = ks := List.filter_eq_self.mpr fun _ _ => rfl
  rw [ee] at e
  have es : (ks.map fun k => dP (lpP m x (x + k))) = (ks.map fun k => lpP m x (x + k)).map dP := by rw [List.map_map]; rfl
  rw [es] at e
  refine ⟨_, [c, n, d, .pl (.tup (m.map .int)), lo, hi, .pl (.lst (ks.map .int)), s7, .pl (.lst ((ps ++ ks.map fun k => lpP m x (x + k)).map dP)), .pl (.int x), .un, .un, .un, .un], rfl, .inl ?_, ps ++ ks.map fun k => lpP m x (x + k), s7, _, rfl, by simp (config := { implicitDefEqProofs := false }); omega, fun p hp => ?_⟩
  · have hz : ks.length ≤ sizeLine := by rw [sizeLine_eq]; omega
    have hw : ps.length + ks.length ≤ 16777216 := by omega
    unfold l0__law_book
    refine go_asg _ (by simp (config := { implicitDefEqProofs := false }) [slx, outE]) ?_ rfl
    simp (config := { implicitDefEqProofs := false }) [e, hz]
    rw [lst_plus (by simp (config := { implicitDefEqProofs := false }); exact hw)]
  · rcases List.mem_append.mp hp with hp | hp
    · exact hP p hp
    · obtain ⟨k, hk, rfl⟩ := List.mem_map.mp hp
      exact okL_lp m hm x hx' k (hf k hk)
def fivesL : List Int := [0, 2, 4, 5, 3]
theorem e_bkB {m : List Int} (hm7 : m.length = 7) {ns : List Int} (hn : (ns.length : Int) = 24) {c d lo hi k6 k7 l8 s9 s10 : Sl} : ∃ ρ', forL (.one 9) (exS Φ__law_book fN l1__law_book) [c, .pl (.lst (ns.map .int)), d, .pl (.tup (m.map .int)), lo, hi, k6, k7, l8, s9, s10, .pl (.lst []), .un, .un] ((rangeI 0 7).map .int) = .nx ρ' ∧
    iL (fun ps s7 s9 => [c, .pl (.lst (ns.map .int)), d, .pl (.tup (m.map .int)), lo, hi, k6, s7, l8, s9, s10, .pl (.lst (ps.map dP)), .un, .un]) 5 (fun p => 0 ≤ p.1 ∧ p.1 ≤ 6 ∧ 0 ≤ p.2 ∧ p.2 ≤ 11) (rangeI 0 7).length ρ' := by
  have hix : ∀ i : Int, 0 ≤ i → i < 24 → ixD (.lst (ns.map .int)) (.int i) = .ok (.int (atZ ns i)) := fun i h0 h1 => ix_lstI h0 (by omega)
  refine forL_at (F := D.int) (fun i x ρ hx hI => ?_) ⟨[], k7, s9, rfl, by simp, by simp⟩
  obtain ⟨ps, s7, s9, rfl, hl, hP⟩ := hI
  obtain ⟨hxe, hx2⟩ := get_rangeI hx
  have e : lcL [7] (.one 7) (evC Φ__law_book (.or (.cmp .gt (.bin .mod (.ix (.var 1) (.bin .add (.int (13)) (.var 7))) (.int (4))) (.int (0))) (.cmp .eq (.var 7) (.int (0))))) (ev Φ__law_book (.call 2 (.cons (.var 3) (.cons (.var 9) (.cons (.bin .add (.var 9) (.var 7)) .nil))))) [c, .pl (.lst (ns.map .int)), d, .pl (.tup (m.map .int)), lo, hi, k6, s7, l8, .pl (.int x), s10, .pl (.lst (ps.map dP)), .un, .un] (fivesL.map D.int) = .ok ((fivesL.filter fun k => decide (0 < atZ ns (13 + k) % 4) || decide (k = 0)).map fun k => dP (ivP m x (x + k))) := by
    refine lcL_map (R := fun k => [c, .pl (.lst (ns.map .int)), d, .pl (.tup (m.map .int)), lo, hi, k6, .pl (.int k), l8, .pl (.int x), s10, .pl (.lst (ps.map dP)), .un, .un]) fun k hk => ⟨rfl, ?_, fun _ => ?_⟩
    · have hk := (by decide : ∀ k ∈ fivesL, 0 ≤ k ∧ k ≤ 5) k hk
      rw [vC_of rfl]
      simp (config := { implicitDefEqProofs := false }) [hix (13 + k) (by omega) (by omega), d_mod]
      by_cases h1 : 0 < atZ ns (13 + k) % 4 <;> simp (config := { implicitDefEqProofs := false }) [h1]
    · simp (config := { implicitDefEqProofs := false }) [Φ__law_book, fsOf, e_linterval hm7]
  have ec : ∀ ρ : En, ev Φ__law_book (.tup (.cons (.int (0)) (.cons (.int (2)) (.cons (.int (4)) (.cons (.int (5)) (.cons (.int (3)) .nil)))))) ρ = .ok (.tup (fivesL.map .int)) := fun ρ => by simp (config := { implicitDefEqProofs := false }) [tupK_ok, fivesL]
  have hfl : (fivesL.filter fun k => decide (0 < atZ ns (13 + k) % 4) || decide (k = 0)).length ≤ 5 := List.length_filter_le _ _
  generalize (fivesL.filter fun k => decide (0 < atZ ns (13 + k) % 4) || decide (k = 0)) = ks at e hfl
  have es : (ks.map fun k => dP (ivP m x (x + k))) = (ks.map fun k => ivP m x (x + k)).map dP := by rw [List.map_map]; rfl
  rw [es] at e
  refine ⟨_, [c, .pl (.lst (ns.map .int)), d, .pl (.tup (m.map .int)), lo, hi, k6, s7, l8, .pl (.int x), s10, .pl (.lst ((ps ++ ks.map fun k => ivP m x (x + k)).map dP)), .un, .un], rfl, .inl ?_, ps ++ ks.map fun k => ivP m x (x + k), s7, _, rfl, by simp (config := { implicitDefEqProofs := false }); omega, fun p hp => ?_⟩
  · have hz : ks.length ≤ sizeLine := by rw [sizeLine_eq]; omega
    have hw : ps.length + ks.length ≤ 16777216 := by omega
    unfold l1__law_book
    refine go_asg _ (by simp (config := { implicitDefEqProofs := false }) [slx, outE]) ?_ rfl
    simp (config := { implicitDefEqProofs := false }) only [v_bin, PD.v_var, v_lc, vI_seq, ec]
    simp (config := { implicitDefEqProofs := false }) [e, hz]
    rw [lst_plus (by simp (config := { implicitDefEqProofs := false }); exact hw)]
  · rcases List.mem_append.mp hp with hp | hp
    · exact hP p hp
    · obtain ⟨k, hk, rfl⟩ := List.mem_map.mp hp
      exact ivP_ok m x _
--BOOK
theorem e_steps {ns : List Int} (hn : (ns.length : Int) = 24) {c d s3 s4 s5 s6 s7 s8 s9 s10 s11 s12 s13 : Sl} : ∃ ks : List Int, (∀ k ∈ ks, k ∈ stepsL) ∧ ks.length ≤ 8 ∧
    ev Φ__law_book (.lc .seq [7] (.one 7) (.tup (.cons (.int (1)) (.cons (.int (2)) (.cons (.int (3)) (.cons (.int (4)) (.cons (.neg (.int (1))) (.cons (.neg (.int (2))) (.cons (.neg (.int (3))) (.cons (.neg (.int (4))) .nil))))))))) (.cmp .lt (.bin .mod (.ix (.var 1) (.bin .add (.int (3)) (.bin .mod (.var 7) (.int (8))))) (.int (3))) (.ite (.cmp .eq (.bi .abs (.cons (.var 7) .nil)) (.int (1))) (.int (3)) (.int (2)))) (.var 7)) [c, .pl (.lst (ns.map .int)), d, s3, s4, s5, s6, s7, s8, s9, s10, s11, s12, s13] = .ok (.lst (ks.map .int)) := by
  have hix : ∀ i : Int, 0 ≤ i → i < 24 → ixD (.lst (ns.map .int)) (.int i) = .ok (.int (atZ ns i)) := fun i h0 h1 => ix_lstI h0 (by omega)
  have ec : ∀ ρ : En, ev Φ__law_book (.tup (.cons (.int (1)) (.cons (.int (2)) (.cons (.int (3)) (.cons (.int (4)) (.cons (.neg (.int (1))) (.cons (.neg (.int (2))) (.cons (.neg (.int (3))) (.cons (.neg (.int (4))) .nil))))))))) ρ = .ok (.tup (stepsL.map .int)) := fun ρ => by simp (config := { implicitDefEqProofs := false }) [tupK_ok, stepsL]
  have e : lcL [7] (.one 7) (evC Φ__law_book (.cmp .lt (.bin .mod (.ix (.var 1) (.bin .add (.int (3)) (.bin .mod (.var 7) (.int (8))))) (.int (3))) (.ite (.cmp .eq (.bi .abs (.cons (.var 7) .nil)) (.int (1))) (.int (3)) (.int (2))))) (ev Φ__law_book (.var 7)) [c, .pl (.lst (ns.map .int)), d, s3, s4, s5, s6, s7, s8, s9, s10, s11, s12, s13] (stepsL.map D.int) = .ok ((stepsL.filter fun k => decide (atZ ns (3 + k % 8) % 3 < (if (if k < 0 then -k else k) = 1 then 3 else 2))).map D.int) := by
    refine lcL_map (R := fun k => [c, .pl (.lst (ns.map .int)), d, s3, s4, s5, s6, .pl (.int k), s8, s9, s10, s11, s12, s13]) fun k hk => ⟨rfl, ?_, fun _ => ?_⟩
    · have h0 := Int.emod_nonneg k (b := 8) (by decide)
      have h1 := Int.emod_lt_of_pos k (b := 8) (by decide)
      rw [vC_of rfl]
      simp (config := { implicitDefEqProofs := false }) [d_mod, hix (3 + k % 8) (by omega) (by omega)]
      by_cases h : (if k < 0 then -k else k) = 1 <;> simp (config := { implicitDefEqProofs := false }) [h]
    · simp (config := { implicitDefEqProofs := false })
  refine ⟨stepsL.filter fun k => decide (atZ ns (3 + k % 8) % 3 < (if (if k < 0 then -k else k) = 1 then 3 else 2)), fun k h => (List.mem_filter.mp h).1, List.length_filter_le _ _, ?_⟩
  simp (config := { implicitDefEqProofs := false }) only [v_lc, vI_seq, ec, Res.bind_ok, it_tup, e]
  have hz : ((stepsL.filter fun k => decide (atZ ns (3 + k % 8) % 3 < (if (if k < 0 then -k else k) = 1 then 3 else 2))).map D.int).length ≤ sizeLine := by
    rw [List.length_map, sizeLine_eq]; exact Nat.le_trans (List.length_filter_le _ _) (by decide)
  rw [if_pos hz]
theorem e_book (cell : Int) : ∃ b : Bk, b.Ok ∧ φ__law_book [.int cell] = .ok b.d := by
  obtain ⟨ns, hn, hp, en⟩ := e_draws cell (count := 24) (by decide) (by decide)
  have hix : ∀ i : Int, 0 ≤ i → i < 24 → ixD (.lst (ns.map .int)) (.int i) = .ok (.int (atZ ns i)) := fun i h0 h1 => ix_lstI h0 (by omega)
  have e5 : ∀ i j : Int, 0 < j → 0 ≤ i % j ∧ i % j < j := fun i j h => ⟨Int.emod_nonneg _ (by omega), Int.emod_lt_of_pos _ h⟩
  obtain ⟨m, hm, em⟩ := e_mode (e5 (atZ ns 0) 5 (by decide)).1 (e5 (atZ ns 0) 5 (by decide)).2
  obtain ⟨t, ht, et⟩ := e_turn (e5 (atZ ns 22) 4 (by decide)).1 (e5 (atZ ns 22) 4 (by decide)).2
  have hm7 := (by decide : ∀ m ∈ modes, m.length = 7) _ hm
  obtain ⟨low, hlow⟩ : ∃ low, atZ ns 1 % 5 - 3 = low := ⟨_, rfl⟩
  obtain ⟨high, hhigh⟩ : ∃ high, low + atZ ns 2 % 3 + 2 = high := ⟨_, rfl⟩
  have g1 := e5 (atZ ns 1) 5 (by decide)
  have g2 := e5 (atZ ns 2) 3 (by decide)
  obtain ⟨ks, hf, hfl, es⟩ := e_steps hn (c := .pl (.int cell)) (d := .pl modesD) (s3 := .pl (.tup (m.map .int))) (s4 := .pl (.int low)) (s5 := .pl (.int high)) (s6 := .un) (s7 := .un) (s8 := .un) (s9 := .un) (s10 := .un) (s11 := .un) (s12 := .un) (s13 := .un)
  obtain ⟨_, el, lp, s7, s9, rfl, hl, hL⟩ := e_bkA hm (c := .pl (.int cell)) (n := .pl (.lst (ns.map .int))) (d := .pl modesD) (lo := .pl (.int low)) (hi := .pl (.int high)) hf hfl
  have hl : lp.length ≤ 168 := by rw [len_rangeI] at hl; omega
  obtain ⟨lq, hlq, hLq, eq⟩ : ∃ lq : List (Int × Int), lq.length ≤ 168 ∧ (∀ p ∈ lq, okL p) ∧ exS Φ__law_book fN (.ifs (.cmp .eq (.bin .mod (.ix (.var 1) (.int (12))) (.int (3))) (.int (0))) (.cons (.asg 8 (.lc .seq [10] (.one 10) (.var 8) (.cmp .nin (.ix (.var 10) (.int (1))) (.tup (.cons (.int (6)) (.cons (.neg (.int (6))) (.cons (.int (1)) .nil))))) (.var 10))) .nil) .nil)
      [.pl (.int cell), .pl (.lst (ns.map .int)), .pl modesD, .pl (.tup (m.map .int)), .pl (.int low), .pl (.int high), .pl (.lst (ks.map .int)), s7, .pl (.lst (lp.map dP)), s9, .un, .un, .un, .un] = .nx [.pl (.int cell), .pl (.lst (ns.map .int)), .pl modesD, .pl (.tup (m.map .int)), .pl (.int low), .pl (.int high), .pl (.lst (ks.map .int)), s7, .pl (.lst (lq.map dP)), s9, .un, .un, .un, .un] := by
    by_cases h0 : atZ ns 12 % 3 = 0
    · have ei : ∀ ρ : En, ev Φ__law_book (.tup (.cons (.int (6)) (.cons (.neg (.int (6))) (.cons (.int (1)) .nil)))) ρ = .ok (.tup (([6, -6, 1] : List Int).map .int)) := fun ρ => by simp (config := { implicitDefEqProofs := false }) [tupK_ok]
      have e : lcL [10] (.one 10) (evC Φ__law_book (.cmp .nin (.ix (.var 10) (.int (1))) (.tup (.cons (.int (6)) (.cons (.neg (.int (6))) (.cons (.int (1)) .nil)))))) (ev Φ__law_book (.var 10)) [.pl (.int cell), .pl (.lst (ns.map .int)), .pl modesD, .pl (.tup (m.map .int)), .pl (.int low), .pl (.int high), .pl (.lst (ks.map .int)), s7, .pl (.lst (lp.map dP)), s9, .un, .un, .un, .un] (lp.map dP) = .ok ((lp.filter fun p => !decide (p.2 ∈ ([6, -6, 1] : List Int))).map dP) := by
        refine lcL_map (R := fun p => [.pl (.int cell), .pl (.lst (ns.map .int)), .pl modesD, .pl (.tup (m.map .int)), .pl (.int low), .pl (.int high), .pl (.lst (ks.map .int)), s7, .pl (.lst (lp.map dP)), s9, .pl (dP p), .un, .un, .un]) fun p hp => ⟨rfl, ?_, fun _ => ?_⟩
        · rw [vC_of rfl]
          simp (config := { implicitDefEqProofs := false }) only [v_cmp, v_ix, PD.v_var, v_int, sl_consS, sl_cons0, val_pl, Res.bind_ok, ix_P1, ei, c_nin, in_I, nb_ok, bl_ok, as_bl]
        · simp (config := { implicitDefEqProofs := false })
      refine ⟨lp.filter fun p => !decide (p.2 ∈ ([6, -6, 1] : List Int)), Nat.le_trans (List.length_filter_le _ _) hl, fun p hp => hL p (List.mem_filter.mp hp).1, ?_⟩
      have hz : (lp.filter fun p => !decide (p.2 ∈ ([6, -6, 1] : List Int))).length ≤ sizeLine := by
        rw [sizeLine_eq]; exact Nat.le_trans (Nat.le_trans (List.length_filter_le _ _) hl) (by decide)
      generalize (lp.filter fun p => !decide (p.2 ∈ ([6, -6, 1] : List Int))) = lq at e hz
      simp (config := { implicitDefEqProofs := false }) [hix, d_mod, h0, slx, outE, e, hz]
    · refine ⟨lp, hl, hL, ?_⟩
      simp (config := { implicitDefEqProofs := false }) [hix, d_mod, h0, slx, outE]
  obtain ⟨_, ew, sw, s7', s9', rfl, hw, hW⟩ := e_bkB hm7 hn (c := .pl (.int cell)) (d := .pl modesD) (lo := .pl (.int low)) (hi := .pl (.int high)) (k6 := .pl (.lst (ks.map .int))) (k7 := s7) (l8 := .pl (.lst (lq.map dP))) (s9 := s9) (s10 := .un)
  have hw : sw.length ≤ 35 := by rw [len_rangeI] at hw; omega
  have hsl : (twinP (sortP sw)).length ≤ 35 := Nat.le_trans twinP_len (by rw [sortP_len]; exact hw)
  have hsr := twinP_rises (sortP_sorted sw)
  have hsm : ∀ p ∈ twinP (sortP sw), 0 ≤ p.1 ∧ p.1 ≤ 6 ∧ 0 ≤ p.2 ∧ p.2 ≤ 11 := fun p hp => hW p (sortP_mem.mp (twinP_mem hp))
  have etw := e_twins (ps := sw) (by omega)
  have etl := e_twins (ps := lq) (by omega)
  generalize twinP (sortP sw) = ss at hsl hsr hsm etw
  have hll : (twinP (sortP lq)).length ≤ 168 := Nat.le_trans twinP_len (by rw [sortP_len]; exact hlq)
  have hlr := twinP_rises (sortP_sorted lq)
  have hlm : ∀ p ∈ twinP (sortP lq), okL p := fun p hp => hLq p (sortP_mem.mp (twinP_mem hp))
  generalize twinP (sortP lq) = ll at hll hlr hlm etl
  let c : Int × Int → Bool := fun p => decide (p.1 = 0) || (decide (p.1 = 4) && decide (atZ ns 20 % 2 = 0)) || decide (atZ ns 21 % 5 = 0)
  have ep : lcL [10] (.one 10) (evC Φ__law_book (.or (.cmp .eq (.ix (.var 10) (.int (0))) (.int (0))) (.or (.and (.cmp .eq (.ix (.var 10) (.int (0))) (.int (4))) (.cmp .eq (.bin .mod (.ix (.var 1) (.int (20))) (.int (2))) (.int (0)))) (.cmp .eq (.bin .mod (.ix (.var 1) (.int (21))) (.int (5))) (.int (0)))))) (ev Φ__law_book (.var 10)) [.pl (.int cell), .pl (.lst (ns.map .int)), .pl modesD, .pl (.tup (m.map .int)), .pl (.int low), .pl (.int high), .pl (.lst (ks.map .int)), s7', .pl (.lst (lq.map dP)), s9', .un, .pl (.tup (ss.map dP)), .un, .un] (ss.map dP) = .ok ((ss.filter c).map dP) := by
    refine lcL_map (R := fun p => [.pl (.int cell), .pl (.lst (ns.map .int)), .pl modesD, .pl (.tup (m.map .int)), .pl (.int low), .pl (.int high), .pl (.lst (ks.map .int)), s7', .pl (.lst (lq.map dP)), s9', .pl (dP p), .pl (.tup (ss.map dP)), .un, .un]) fun p hp => ⟨rfl, ?_, fun _ => ?_⟩
    · rw [vC_of rfl]
      simp (config := { implicitDefEqProofs := false }) [ix_P0, hix, d_mod]
      by_cases h1 : p.1 = 0
      · simp (config := { implicitDefEqProofs := false }) [h1, c]
      · by_cases h2 : p.1 = 4
        · by_cases h3 : atZ ns 20 % 2 = 0 <;> simp (config := { implicitDefEqProofs := false }) [h1, h2, h3, c]
        · simp (config := { implicitDefEqProofs := false }) [h1, h2, c]
    · simp (config := { implicitDefEqProofs := false })
  have hps : (ss.filter c).Sublist ss := List.filter_sublist
  have hpl : (ss.filter c).length ≤ 35 := Nat.le_trans hps.length_le hsl
  generalize ss.filter c = pf at ep hps hpl
  have hz : pf.length ≤ sizeLine := by rw [sizeLine_eq]; omega
  refine ⟨⟨m, low, high, ll, ss, pf, t⟩, ⟨hm, (by dsimp only; omega), (by dsimp only; omega), hlr, hlm, (by dsimp only; omega), hsr, hsm, (by dsimp only; omega), hsr.sublist hps, fun p hp => hps.subset hp, (by dsimp only; omega), ht⟩, ?_⟩
  unfold φ__law_book b__law_book runDef
  have fin : ∀ o, exS Φ__law_book fN b__law_book (startE 14 [.int cell]) = .rt o → outR (exS Φ__law_book fN b__law_book (startE 14 [.int cell])) = .ok o := fun o h => by rw [h]; rfl
  refine fin _ ?_
  unfold b__law_book
  refine go_asg (.lst (ns.map .int)) (by simp (config := { implicitDefEqProofs := false }) [slx, startE, outE]) (by simp (config := { implicitDefEqProofs := false }) [startE, Φ__law_book, fsOf, en]) ?_
  refine go_asg modesD (by simp (config := { implicitDefEqProofs := false }) [slx, startE, outE]) (by simp (config := { implicitDefEqProofs := false }) [startE, tupK_ok]; rfl) ?_
  refine go_asg (.tup (m.map .int)) (by simp (config := { implicitDefEqProofs := false }) [slx, startE, outE]) (by simp (config := { implicitDefEqProofs := false }) [startE, hix, d_mod, em]) ?_
  refine go_asg (.int low) (by simp (config := { implicitDefEqProofs := false }) [slx, startE, outE]) (by simp (config := { implicitDefEqProofs := false }) [startE, hix, d_mod, hlow]) ?_
  refine go_asg (.int high) (by simp (config := { implicitDefEqProofs := false }) [slx, startE, outE]) (by simp (config := { implicitDefEqProofs := false }) [startE, hix, d_mod, hhigh]) ?_
  refine go_asg (.lst (ks.map .int)) (by simp (config := { implicitDefEqProofs := false }) [slx, startE, outE]) es ?_
  refine go_asg (.lst []) (by simp (config := { implicitDefEqProofs := false }) [slx, startE, outE]) (by simp (config := { implicitDefEqProofs := false }) [startE, lstK_ok]) ?_
  refine go_for (by simp (config := { implicitDefEqProofs := false }) [slx, slI, startE, outE]) (by simp (config := { implicitDefEqProofs := false }) [startE]; exact rng2 (by decide)) el ?_
  refine go eq ?_
  refine go_asg (.lst []) (by simp (config := { implicitDefEqProofs := false }) [slx, outE]) (by simp (config := { implicitDefEqProofs := false }) [lstK_ok]) ?_
  refine go_for (by simp (config := { implicitDefEqProofs := false }) [slx, slI, outE]) (by simp (config := { implicitDefEqProofs := false }); exact rng1 (by decide)) ew ?_
  refine go_asg (.tup (ss.map dP)) (by simp (config := { implicitDefEqProofs := false }) [slx, outE]) (by simp (config := { implicitDefEqProofs := false }) [Φ__law_book, fsOf, etw]) ?_
  refine go_asg (.tup (pf.map dP)) (by simp (config := { implicitDefEqProofs := false }) [slx, outE]) (by simp (config := { implicitDefEqProofs := false }) [ep, hz]) ?_
  refine go_asg (oI t) (by simp (config := { implicitDefEqProofs := false }) [slx, outE]) (by simp (config := { implicitDefEqProofs := false }) [tupK_ok, hix, d_mod, et]) ?_
  refine go_ret (by simp (config := { implicitDefEqProofs := false }) [slx, outE]) ?_
  simp (config := { implicitDefEqProofs := false }) [Φ__law_book, fsOf, etl, tupK_ok]
  rfl
theorem e_ismode : ∀ m ∈ modes, φ_is_mode [.tup (m.map .int)] = .ok (.bl true) := by
  intro m hm
  simp only [modes, List.mem_cons, List.not_mem_nil, or_false] at hm
  rcases hm with rfl | rfl | rfl | rfl | rfl <;> kernel_rfl
theorem e_pair (p : Int × Int) : φ_is_pair [dP p] = .ok (.bl true) := by
  unfold φ_is_pair b_is_pair runDef
  rw [go_ret (d := .bl true) (by simp (config := { implicitDefEqProofs := false }) [slx, startE, outE]) ?_]
  · rfl
  simp (config := { implicitDefEqProofs := false }) [startE, Φ_is_pair, fsOf, dP, e_number]
  simp (config := { implicitDefEqProofs := false }) [show ixD (.tup [.int p.1, .int p.2]) (.int 0) = .ok (.int p.1) from ix_P0 p, show ixD (.tup [.int p.1, .int p.2]) (.int 1) = .ok (.int p.2) from ix_P1 p, e_number]
theorem e_rises {ps : List (Int × Int)} (h : ps.Pairwise ltP) (hl : ps.length ≤ 10000) : φ_rises [.tup (ps.map dP)] = .ok (.bl true) := by
  unfold φ_rises b_rises runDef
  rw [go_ret (d := .bl true) (by simp (config := { implicitDefEqProofs := false }) [slx, startE, outE]) ?_]
  · rfl
  have r := rng1 (j := (ps.length : Int) - 1) ⟨by omega, by omega⟩
  have e : genL false [1] (.one 1) (ev Φ_rises (.cmp .lt (.ix (.var 0) (.var 1)) (.ix (.var 0) (.bin .add (.var 1) (.int (1)))))) [.pl (.tup (ps.map dP)), .un] ((rangeI 0 ((ps.length : Int) - 1).toNat).map D.int) = .ok ((rangeI 0 ((ps.length : Int) - 1).toNat).all fun k => decide (ltP (ps.getD k.toNat (0, 0)) (ps.getD (k + 1).toNat (0, 0)))) := by
    refine genL_all (R := fun k => [.pl (.tup (ps.map dP)), .pl (.int k)]) fun k hk => ⟨rfl, ?_⟩
    have hk := mem_rangeI.mp hk
    simp (config := { implicitDefEqProofs := false }) only [v_cmp, v_ix, v_bin, PD.v_var, v_int, sl_consS, sl_cons0, val_pl, Res.bind_ok, b_add, d_add, ix_tupP (show 0 ≤ k by omega) (show k < ps.length by omega), ix_tupP (show 0 ≤ k + 1 by omega) (show k + 1 < ps.length by omega), c_lt, lt_P, bl_ok]
  have a : ((rangeI 0 ((ps.length : Int) - 1).toNat).all fun k => decide (ltP (ps.getD k.toNat (0, 0)) (ps.getD (k + 1).toNat (0, 0)))) = true := by
    rw [List.all_eq_true]
    intro k hk
    have hk := mem_rangeI.mp hk
    rw [decide_eq_true_eq, show (k + 1).toNat = k.toNat + 1 by omega]
    exact rises_get h (by omega)
  rw [a] at e
  simp (config := { implicitDefEqProofs := false }) only [v_gen, vI_rng, vs_cons, vs_nil, v_bin, v_bi, PD.v_var, v_int, sl_cons0, val_pl, Res.bind_ok, f_len, l_tup, List.length_map, b_sub, d_sub, startE, List.map_cons, List.map_nil, List.length_cons, List.length_nil, List.cons_append, List.nil_append, Nat.reduceSub, Nat.reduceAdd, List.replicate_succ, List.replicate_zero, r, e, noE_ok']
theorem e_pairs {Φ : Fs} {j : Nat} (hΦ : Φ.f j = φ_is_pair) {ps : List (Int × Int)} : genL false [1] (.one 1) (ev Φ (.call j (.cons (.var 1) .nil))) [.pl (.tup (ps.map dP)), .un] (ps.map dP) = .ok true := by
  have e : genL false [1] (.one 1) (ev Φ (.call j (.cons (.var 1) .nil))) [.pl (.tup (ps.map dP)), .un] (ps.map dP) = .ok (ps.all fun _ => true) := by
    refine genL_all (R := fun p => [.pl (.tup (ps.map dP)), .pl (dP p)]) fun p hp => ⟨rfl, ?_⟩
    simp (config := { implicitDefEqProofs := false }) [hΦ, e_pair]
  rw [e]
  congr 1
  rw [List.all_eq_true]; exact fun _ _ => rfl
theorem e_isleaps {ps : List (Int × Int)} (h : ps.Pairwise ltP) (hl : ps.length ≤ 10000) (hp : ∀ p ∈ ps, okL p) : φ_is_leaps [.tup (ps.map dP)] = .ok (.bl true) := by
  unfold φ_is_leaps b_is_leaps runDef
  have e : genL false [1] (.one 1) (ev Φ_is_leaps (.and (.chn .lt .le (.int (0)) (.bi .abs (.cons (.ix (.var 1) (.int (0))) .nil)) (.gint "MOST_STEPS" (14))) (.cmp .gt (.bin .mul (.ix (.var 1) (.int (0))) (.ix (.var 1) (.int (1)))) (.int (0))))) [.pl (.tup (ps.map dP)), .un] (ps.map dP) = .ok (ps.all fun _ => true) := by
    refine genL_all (R := fun p => [.pl (.tup (ps.map dP)), .pl (dP p)]) fun p hq => ⟨rfl, ?_⟩
    have hq := hp p hq
    unfold okL at hq
    have h1 : 0 < (if p.1 < 0 then -p.1 else p.1) := by split <;> omega
    have h2 : (if p.1 < 0 then -p.1 else p.1) ≤ 14 := by split <;> omega
    have h3 : 0 < p.1 * p.2 := by
      rcases hq with hq | hq
      · exact Int.mul_pos hq.1 hq.2.2.1
      · exact Int.mul_pos_of_neg_of_neg hq.1 hq.2.2.1
    have h4 : -18446744073709551616 < p.1 := by omega
    have h5 : p.1 < 18446744073709551616 := by omega
    simp (config := { implicitDefEqProofs := false }) [ix_P0, ix_P1, d_mulL, h1, h2, h3, h4, h5]
  have a : (ps.all fun _ : Int × Int => true) = true := by rw [List.all_eq_true]; exact fun _ _ => rfl
  rw [a] at e
  have ep := e_pairs (Φ := Φ_is_leaps) (j := 1) rfl (ps := ps)
  have er : Φ_is_leaps.f 0 [.tup (ps.map dP)] = .ok (.bl true) := e_rises h hl
  rw [go_skip (by simp (config := { implicitDefEqProofs := false }) [slx, startE, outE]) (by simp (config := { implicitDefEqProofs := false }) [startE, ep, er]) (go_ret (d := .bl true) (by simp (config := { implicitDefEqProofs := false }) [slx, startE, outE]) (by simp (config := { implicitDefEqProofs := false }) [startE, e]))]
  rfl
theorem e_isiv {ps : List (Int × Int)} (h : ps.Pairwise ltP) (hl : ps.length ≤ 10000) (hp : ∀ p ∈ ps, 0 ≤ p.1 ∧ p.1 ≤ 6 ∧ 0 ≤ p.2 ∧ p.2 ≤ 11) : φ_is_intervals [.tup (ps.map dP)] = .ok (.bl true) := by
  unfold φ_is_intervals b_is_intervals runDef
  have e : genL false [1] (.one 1) (ev Φ_is_intervals (.and (.chn .le .le (.int (0)) (.ix (.var 1) (.int (0))) (.int (6))) (.chn .le .le (.int (0)) (.ix (.var 1) (.int (1))) (.int (11))))) [.pl (.tup (ps.map dP)), .un] (ps.map dP) = .ok (ps.all fun _ => true) := by
    refine genL_all (R := fun p => [.pl (.tup (ps.map dP)), .pl (dP p)]) fun p hq => ⟨rfl, ?_⟩
    obtain ⟨h1, h2, h3, h4⟩ := hp p hq
    simp (config := { implicitDefEqProofs := false }) [ix_P0, ix_P1, h1, h2, h3, h4]
  have a : (ps.all fun _ : Int × Int => true) = true := by rw [List.all_eq_true]; exact fun _ _ => rfl
  rw [a] at e
  have ep := e_pairs (Φ := Φ_is_intervals) (j := 1) rfl (ps := ps)
  have er : Φ_is_intervals.f 0 [.tup (ps.map dP)] = .ok (.bl true) := e_rises h hl
  rw [go_skip (by simp (config := { implicitDefEqProofs := false }) [slx, startE, outE]) (by simp (config := { implicitDefEqProofs := false }) [startE, ep, er]) (go_ret (d := .bl true) (by simp (config := { implicitDefEqProofs := false }) [slx, startE, outE]) (by simp (config := { implicitDefEqProofs := false }) [startE, e]))]
  rfl
def scr (s : D) (ns : List Int) : Prop := s = .raw (ns.map .int) ∨ s = .lst (ns.map .int)
theorem e_cell {s : D} {ns : List Int} (hs : scr s ns) {k : Int} (hk : 0 ≤ k) : ∃ i, φ__law_cell [s, .int k] = .ok (.int i) := by
  have hl : lenD [s] = .ok (.int ns.length) := by rcases hs with rfl | rfl <;> simp (config := { implicitDefEqProofs := false })
  unfold φ__law_cell b__law_cell runDef
  by_cases h : k < ns.length
  · have hx : ixD s (.int k) = .ok (.int (atZ ns k)) := by
      rcases hs with rfl | rfl
      · exact ix_raw hk (by simpa using h) (by rw [List.getElem?_map, List.getElem?_eq_getElem (by omega)]; simp [atZ, List.getD_eq_getElem?_getD, List.getElem?_eq_getElem (show k.toNat < ns.length by omega)])
      · exact ix_lstI hk h
    refine ⟨atZ ns k, ?_⟩
    simp (config := { implicitDefEqProofs := false }) [slx, startE, outE, hl, hx, h]
  · refine ⟨0, ?_⟩
    simp (config := { implicitDefEqProofs := false }) [slx, startE, outE, hl, h]
section
variable {b : Bk}
theorem f0 : fldD 0 0 (.obj 0 b.fs) = .ok (.tup (b.mode.map .int)) := rfl
theorem f1 : fldD 0 1 (.obj 0 b.fs) = .ok (.int b.low) := rfl
theorem f2 : fldD 0 2 (.obj 0 b.fs) = .ok (.int b.high) := rfl
theorem f3 : fldD 0 3 (.obj 0 b.fs) = .ok (.tup (b.leaps.map dP)) := rfl
theorem f4 : fldD 0 4 (.obj 0 b.fs) = .ok (.tup (b.sweet.map dP)) := rfl
theorem f5 : fldD 0 5 (.obj 0 b.fs) = .ok (.tup (b.perfect.map dP)) := rfl
theorem f6 : fldD 0 6 (.obj 0 b.fs) = .ok (oI b.turn) := rfl
theorem i0 : ixD b.d (.int 0) = .ok (.tup (b.mode.map .int)) := rfl
theorem i1 : ixD b.d (.int 1) = .ok (.int b.low) := rfl
theorem i2 : ixD b.d (.int 2) = .ok (.int b.high) := rfl
theorem i3 : ixD b.d (.int 3) = .ok (.tup (b.leaps.map dP)) := rfl
theorem i4 : ixD b.d (.int 4) = .ok (.tup (b.sweet.map dP)) := rfl
theorem i5 : ixD b.d (.int 5) = .ok (.tup (b.perfect.map dP)) := rfl
theorem i6 : ixD b.d (.int 6) = .ok (oI b.turn) := rfl
end
end K00
/-! Typed forms of what the law's book is made with. -/
namespace K00
open PySem PySem.Spec PyProof.Rows L2 GxR PD
noncomputable def t__law_draws (c n : Int) : Res (List Int) := by
  classical
  exact if h : 0 ≤ n ∧ n ≤ 1000 then .ok (Classical.choose (e_draws c h.1 h.2)) else .bad
theorem l__law_draws (c n : Int) : Rf (eL D.int) (φ__law_draws [D.int c, D.int n]) (t__law_draws c n) := by
  unfold t__law_draws
  split
  · rename_i h; exact .of (Classical.choose_spec (e_draws c h.1 h.2)).2.2
  · exact .bd
theorem w__law_draws (c : Int) {n : Int} (h : 0 ≤ n ∧ n ≤ 1000) : ∃ ns : List Int, (ns.length : Int) = n ∧ (∀ x ∈ ns, 0 ≤ x) ∧ t__law_draws c n = .ok ns := by
  have z := Classical.choose_spec (e_draws c h.1 h.2)
  refine ⟨_, z.1, z.2.1, ?_⟩
  unfold t__law_draws
  rw [dif_pos h]
noncomputable def t__law_book (c : Int) : Res Bk := .ok (Classical.choose (e_book c))
theorem l__law_book (c : Int) : Rf (eP Bk.fs) (φ__law_book [D.int c]) (t__law_book c) := .of (Classical.choose_spec (e_book c)).2
theorem w__law_book (c : Int) : ∃ b : Bk, b.Ok ∧ t__law_book c = .ok b := ⟨_, (Classical.choose_spec (e_book c)).1, rfl⟩
def t__law_without_twins (xs : List (Int × Int)) : Res (List (Int × Int)) := if xs.length ≤ 10000 then .ok (twinP (sortP xs)) else .bad
theorem l__law_without_twins (xs : List (Int × Int)) : Rf (eT (eP (cA D.int (oA D.int)))) (φ__law_without_twins [eL (eP (cA D.int (oA D.int))) xs]) (t__law_without_twins xs) := by
  unfold t__law_without_twins
  split
  · rename_i h; exact .of (e_twins h)
  · exact .bd
noncomputable def t__law_cell (s : D) (k : Int) : Res Int := by
  classical
  exact if h : (∃ ns, scr s ns) ∧ 0 ≤ k then .ok (Classical.choose (e_cell (Classical.choose_spec h.1) h.2)) else .bad
theorem l__law_cell (s : D) (k : Int) : Rf D.int (φ__law_cell [eX s, D.int k]) (t__law_cell s k) := by
  unfold t__law_cell
  split
  · rename_i h; exact .of (Classical.choose_spec (e_cell (Classical.choose_spec h.1) h.2))
  · exact .bd
theorem w__law_cell {s : D} {ns : List Int} (h : scr s ns) {k : Int} (hk : 0 ≤ k) : ∃ i, t__law_cell s k = .ok i := by
  unfold t__law_cell
  rw [dif_pos ⟨⟨ns, h⟩, hk⟩]
  exact ⟨_, rfl⟩
end K00
namespace K00
open PySem PySem.Spec PyProof.Rows L2 GxR PD
noncomputable section
def t__law_height (a_mode : (List Int)) (a_note : Int) : Res Int :=
 (Res.bind (b2 addI (b2 mulI (.ok (12)) (b2 fdivI (.ok a_note) (.ok (7)))) (b2 atR (.ok a_mode) (b2 modI (.ok a_note) (.ok (7))))) fun x => .ok x)
theorem l__law_height (a_mode : (List Int)) (a_note : Int) : Rf D.int (φ__law_height [(eT D.int) a_mode, D.int a_note]) (t__law_height a_mode a_note) := by
  unfold φ__law_height
  refine run_def ?_
  unfold b__law_height t__law_height
  show JB _ _ _ _ [.pl ((eT D.int) a_mode), .pl (D.int a_note)] _ _
  exact jb_ret (ρ1 := [.pl ((eT D.int) a_mode), .pl (D.int a_note)]) BJ_ok rfl (L_bin O_add (L_bin O_mul (K_int (12)) (L_bin O_fdiv (V D.int a_note rfl) (K_int (7)))) (L_ixT (V (eT D.int) a_mode rfl) (L_bin O_mod (V D.int a_note rfl) (K_int (7))))) (fun _ => BJ_rt)
def t__law_leap (a_mode : (List Int)) (a_first : Int) (a_second : Int) : Res (Int × Int) :=
 (Res.bind (Res.bind (b2 subI (.ok a_second) (.ok a_first)) fun x => Res.bind (b2 subI (Res.bind (Res.bind (.ok a_mode) fun x => Res.bind (.ok a_second) fun y => .ok (x, y)) fun p => t__law_height p.1 p.2) (Res.bind (Res.bind (.ok a_mode) fun x => Res.bind (.ok a_first) fun y => .ok (x, y)) fun p => t__law_height p.1 p.2)) fun y => .ok (x, y)) fun x => .ok x)
theorem l__law_leap (a_mode : (List Int)) (a_first : Int) (a_second : Int) : Rf (eP (cA D.int (oA D.int))) (φ__law_leap [(eT D.int) a_mode, D.int a_first, D.int a_second]) (t__law_leap a_mode a_first a_second) := by
  unfold φ__law_leap
  refine run_def ?_
  unfold b__law_leap t__law_leap
  show JB _ _ _ _ [.pl ((eT D.int) a_mode), .pl (D.int a_first), .pl (D.int a_second)] _ _
  exact jb_ret (ρ1 := [.pl ((eT D.int) a_mode), .pl (D.int a_first), .pl (D.int a_second)]) BJ_ok rfl (L_tupP (fun _ => Nat.le_of_ble_eq_true rfl) (A_cons (L_bin O_sub (V D.int a_second rfl) (V D.int a_first rfl)) (A_one (L_bin O_sub (L_call (f := (cA (eT D.int) (oA D.int))) (t := fun p => t__law_height p.1 p.2) φ__law_height rfl (fun p => l__law_height p.1 p.2) (A_cons (V (eT D.int) a_mode rfl) (A_one (V D.int a_second rfl)))) (L_call (f := (cA (eT D.int) (oA D.int))) (t := fun p => t__law_height p.1 p.2) φ__law_height rfl (fun p => l__law_height p.1 p.2) (A_cons (V (eT D.int) a_mode rfl) (A_one (V D.int a_first rfl)))))))) (fun _ => BJ_rt)
def t__law_interval (a_mode : (List Int)) (a_lower : Int) (a_upper : Int) : Res (Int × Int) :=
 (Res.bind (Res.bind (b2 modI (b2 subI (.ok a_upper) (.ok a_lower)) (.ok (7))) fun x => Res.bind (b2 modI (b2 subI (Res.bind (Res.bind (.ok a_mode) fun x => Res.bind (.ok a_upper) fun y => .ok (x, y)) fun p => t__law_height p.1 p.2) (Res.bind (Res.bind (.ok a_mode) fun x => Res.bind (.ok a_lower) fun y => .ok (x, y)) fun p => t__law_height p.1 p.2)) (.ok (12))) fun y => .ok (x, y)) fun x => .ok x)
theorem l__law_interval (a_mode : (List Int)) (a_lower : Int) (a_upper : Int) : Rf (eP (cA D.int (oA D.int))) (φ__law_interval [(eT D.int) a_mode, D.int a_lower, D.int a_upper]) (t__law_interval a_mode a_lower a_upper) := by
  unfold φ__law_interval
  refine run_def ?_
  unfold b__law_interval t__law_interval
  show JB _ _ _ _ [.pl ((eT D.int) a_mode), .pl (D.int a_lower), .pl (D.int a_upper)] _ _
  exact jb_ret (ρ1 := [.pl ((eT D.int) a_mode), .pl (D.int a_lower), .pl (D.int a_upper)]) BJ_ok rfl (L_tupP (fun _ => Nat.le_of_ble_eq_true rfl) (A_cons (L_bin O_mod (L_bin O_sub (V D.int a_upper rfl) (V D.int a_lower rfl)) (K_int (7))) (A_one (L_bin O_mod (L_bin O_sub (L_call (f := (cA (eT D.int) (oA D.int))) (t := fun p => t__law_height p.1 p.2) φ__law_height rfl (fun p => l__law_height p.1 p.2) (A_cons (V (eT D.int) a_mode rfl) (A_one (V D.int a_upper rfl)))) (L_call (f := (cA (eT D.int) (oA D.int))) (t := fun p => t__law_height p.1 p.2) φ__law_height rfl (fun p => l__law_height p.1 p.2) (A_cons (V (eT D.int) a_mode rfl) (A_one (V D.int a_lower rfl))))) (K_int (12)))))) (fun _ => BJ_rt)
def t__law_turned (a_b : Bk) (a_n : Int) : Res (D × Bool) :=
 (Res.bind (.ok a_b) fun v1 =>
 (Res.bind (Res.bind (Res.bind (Res.bind (Res.bind (.ok a_b) fun x => .ok ((eP Bk.fs) x)) fun x => Res.bind (.ok true) fun y => .ok (x, y)) fun x => Res.bind (Res.bind (Res.bind (Res.bind (Res.bind (.ok v1.mode) fun x => Res.bind (Res.bind (.ok v1.low) fun x => Res.bind (Res.bind (.ok v1.low) fun x => Res.bind (Res.bind (.ok v1.leaps) fun x => Res.bind (Res.bind (.ok v1.sweet) fun x => Res.bind (Res.bind (.ok v1.perfect) fun x => Res.bind (.ok v1.turn) fun y => .ok (x, y)) fun y => .ok (x, y)) fun y => .ok (x, y)) fun y => .ok (x, y)) fun y => .ok (x, y)) fun y => .ok (x, y)) fun x => .ok ((eP (cA (eT D.int) (cA D.int (cA D.int (cA (eT (eP (cA D.int (oA D.int)))) (cA (eT (eP (cA D.int (oA D.int)))) (cA (eT (eP (cA D.int (oA D.int)))) (oA (eO D.int))))))))) x)) fun x => Res.bind (.ok true) fun y => .ok (x, y)) fun x => Res.bind (Res.bind (Res.bind (Res.bind (Res.bind (.ok v1.mode) fun x => Res.bind (Res.bind (.ok v1.low) fun x => Res.bind (Res.bind (b2 addI (.ok v1.low) (.ok (24))) fun x => Res.bind (Res.bind (.ok ()) fun x => Res.bind (Res.bind (.ok v1.sweet) fun x => Res.bind (Res.bind (.ok ()) fun x => Res.bind (.ok ()) fun y => .ok (x, y)) fun y => .ok (x, y)) fun y => .ok (x, y)) fun y => .ok (x, y)) fun y => .ok (x, y)) fun y => .ok (x, y)) fun x => .ok ((eP (cA (eT D.int) (cA D.int (cA D.int (cA (eP zA) (cA (eT (eP (cA D.int (oA D.int)))) (cA (eP zA) (oA eUn)))))))) x)) fun x => Res.bind (.ok true) fun y => .ok (x, y)) fun x => Res.bind (Res.bind (Res.bind (Res.bind (Res.bind (.ok v1.mode) fun x => Res.bind (Res.bind (.ok v1.low) fun x => Res.bind (Res.bind (.ok v1.high) fun x => Res.bind (Res.bind (.ok v1.leaps) fun x => Res.bind (Res.bind (.ok ()) fun x => Res.bind (Res.bind (.ok ()) fun x => Res.bind (.ok v1.turn) fun y => .ok (x, y)) fun y => .ok (x, y)) fun y => .ok (x, y)) fun y => .ok (x, y)) fun y => .ok (x, y)) fun y => .ok (x, y)) fun x => .ok ((eP (cA (eT D.int) (cA D.int (cA D.int (cA (eT (eP (cA D.int (oA D.int)))) (cA (eP zA) (cA (eP zA) (oA (eO D.int))))))))) x)) fun x => Res.bind (.ok true) fun y => .ok (x, y)) fun x => Res.bind (Res.bind (Res.bind (Res.bind (Res.bind (.ok v1.mode) fun x => Res.bind (Res.bind (Res.bind (.ok (99)) negI) fun x => Res.bind (Res.bind (Res.bind (.ok (99)) negI) fun x => Res.bind (Res.bind (Res.bind (Res.bind (Res.bind (.ok (14)) negI) fun x => Res.bind (Res.bind (.ok (1)) negI) fun y => .ok (x, y)) fun x => Res.bind (Res.bind (.ok (14)) fun x => Res.bind (.ok (1)) fun y => .ok (x, y)) fun y => .ok (x, y)) fun x => Res.bind (Res.bind (Res.bind (Res.bind (.ok (0)) fun x => Res.bind (.ok (0)) fun y => .ok (x, y)) fun x => Res.bind (Res.bind (.ok (6)) fun x => Res.bind (.ok (11)) fun y => .ok (x, y)) fun y => .ok (x, y)) fun x => Res.bind (Res.bind (Res.bind (.ok (0)) fun x => Res.bind (.ok (0)) fun y => .ok (x, y)) fun x => Res.bind (.ok (99)) fun y => .ok (x, y)) fun y => .ok (x, y)) fun y => .ok (x, y)) fun y => .ok (x, y)) fun y => .ok (x, y)) fun y => .ok (x, y)) fun x => .ok ((eP (cA (eT D.int) (cA D.int (cA D.int (cA (eP (cA (eP (cA D.int (oA D.int))) (oA (eP (cA D.int (oA D.int)))))) (cA (eP (cA (eP (cA D.int (oA D.int))) (oA (eP (cA D.int (oA D.int)))))) (cA (eP (oA (eP (cA D.int (oA D.int))))) (oA D.int)))))))) x)) fun x => Res.bind (.ok true) fun y => .ok (x, y)) fun x => Res.bind (Res.bind (Res.bind (Res.bind (Res.bind (.ok v1.mode) fun x => Res.bind (Res.bind (.ok v1.low) fun x => Res.bind (Res.bind (b2 addI (.ok v1.low) (.ok (25))) fun x => Res.bind (Res.bind (.ok v1.leaps) fun x => Res.bind (Res.bind (.ok v1.sweet) fun x => Res.bind (Res.bind (.ok v1.perfect) fun x => Res.bind (.ok v1.turn) fun y => .ok (x, y)) fun y => .ok (x, y)) fun y => .ok (x, y)) fun y => .ok (x, y)) fun y => .ok (x, y)) fun y => .ok (x, y)) fun x => .ok ((eP (cA (eT D.int) (cA D.int (cA D.int (cA (eT (eP (cA D.int (oA D.int)))) (cA (eT (eP (cA D.int (oA D.int)))) (cA (eT (eP (cA D.int (oA D.int)))) (oA (eO D.int))))))))) x)) fun x => Res.bind (.ok false) fun y => .ok (x, y)) fun x => Res.bind (Res.bind (Res.bind (Res.bind (Res.bind (.ok v1.mode) fun x => Res.bind (Res.bind (b2 addI (.ok v1.high) (.ok (1))) fun x => Res.bind (Res.bind (.ok v1.high) fun x => Res.bind (Res.bind (.ok v1.leaps) fun x => Res.bind (Res.bind (.ok v1.sweet) fun x => Res.bind (Res.bind (.ok v1.perfect) fun x => Res.bind (.ok v1.turn) fun y => .ok (x, y)) fun y => .ok (x, y)) fun y => .ok (x, y)) fun y => .ok (x, y)) fun y => .ok (x, y)) fun y => .ok (x, y)) fun x => .ok ((eP (cA (eT D.int) (cA D.int (cA D.int (cA (eT (eP (cA D.int (oA D.int)))) (cA (eT (eP (cA D.int (oA D.int)))) (cA (eT (eP (cA D.int (oA D.int)))) (oA (eO D.int))))))))) x)) fun x => Res.bind (.ok false) fun y => .ok (x, y)) fun x => Res.bind (Res.bind (Res.bind (Res.bind (Res.bind (.ok v1.mode) fun x => Res.bind (Res.bind (.ok (100)) fun x => Res.bind (Res.bind (.ok (100)) fun x => Res.bind (Res.bind (.ok v1.leaps) fun x => Res.bind (Res.bind (.ok v1.sweet) fun x => Res.bind (Res.bind (.ok v1.perfect) fun x => Res.bind (.ok v1.turn) fun y => .ok (x, y)) fun y => .ok (x, y)) fun y => .ok (x, y)) fun y => .ok (x, y)) fun y => .ok (x, y)) fun y => .ok (x, y)) fun x => .ok ((eP (cA (eT D.int) (cA D.int (cA D.int (cA (eT (eP (cA D.int (oA D.int)))) (cA (eT (eP (cA D.int (oA D.int)))) (cA (eT (eP (cA D.int (oA D.int)))) (oA (eO D.int))))))))) x)) fun x => Res.bind (.ok false) fun y => .ok (x, y)) fun x => Res.bind (Res.bind (Res.bind (Res.bind (Res.bind (.ok v1.mode) fun x => Res.bind (Res.bind (.ok true) fun x => Res.bind (Res.bind (b2 addI (.ok v1.high) (.ok (2))) fun x => Res.bind (Res.bind (.ok v1.leaps) fun x => Res.bind (Res.bind (.ok v1.sweet) fun x => Res.bind (Res.bind (.ok v1.perfect) fun x => Res.bind (.ok v1.turn) fun y => .ok (x, y)) fun y => .ok (x, y)) fun y => .ok (x, y)) fun y => .ok (x, y)) fun y => .ok (x, y)) fun y => .ok (x, y)) fun x => .ok ((eP (cA (eT D.int) (cA D.bl (cA D.int (cA (eT (eP (cA D.int (oA D.int)))) (cA (eT (eP (cA D.int (oA D.int)))) (cA (eT (eP (cA D.int (oA D.int)))) (oA (eO D.int))))))))) x)) fun x => Res.bind (.ok false) fun y => .ok (x, y)) fun x => Res.bind (Res.bind (Res.bind (Res.bind (Res.bind (.ok v1.mode) fun x => Res.bind (Res.bind (.ok v1.low) fun x => Res.bind (Res.bind (.ok ()) fun x => Res.bind (Res.bind (.ok v1.leaps) fun x => Res.bind (Res.bind (.ok v1.sweet) fun x => Res.bind (Res.bind (.ok v1.perfect) fun x => Res.bind (.ok v1.turn) fun y => .ok (x, y)) fun y => .ok (x, y)) fun y => .ok (x, y)) fun y => .ok (x, y)) fun y => .ok (x, y)) fun y => .ok (x, y)) fun x => .ok ((eP (cA (eT D.int) (cA D.int (cA eUn (cA (eT (eP (cA D.int (oA D.int)))) (cA (eT (eP (cA D.int (oA D.int)))) (cA (eT (eP (cA D.int (oA D.int)))) (oA (eO D.int))))))))) x)) fun x => Res.bind (.ok false) fun y => .ok (x, y)) fun x => Res.bind (Res.bind (Res.bind (Res.bind (Res.bind (cutR (.ok v1.mode) (.ok none) (Res.bind (.ok (6)) fun i => .ok (some i))) fun x => Res.bind (Res.bind (.ok v1.low) fun x => Res.bind (Res.bind (.ok v1.high) fun x => Res.bind (Res.bind (.ok v1.leaps) fun x => Res.bind (Res.bind (.ok v1.sweet) fun x => Res.bind (Res.bind (.ok v1.perfect) fun x => Res.bind (.ok v1.turn) fun y => .ok (x, y)) fun y => .ok (x, y)) fun y => .ok (x, y)) fun y => .ok (x, y)) fun y => .ok (x, y)) fun y => .ok (x, y)) fun x => .ok ((eP (cA (eT D.int) (cA D.int (cA D.int (cA (eT (eP (cA D.int (oA D.int)))) (cA (eT (eP (cA D.int (oA D.int)))) (cA (eT (eP (cA D.int (oA D.int)))) (oA (eO D.int))))))))) x)) fun x => Res.bind (.ok false) fun y => .ok (x, y)) fun x => Res.bind (Res.bind (Res.bind (Res.bind (Res.bind (b2 catR (cutR (.ok v1.mode) (.ok none) (Res.bind (.ok (6)) fun i => .ok (some i))) (Res.bind (Res.bind (.ok (12)) fun x => Res.bind (.ok []) fun y => .ok (x :: y)) szR)) fun x => Res.bind (Res.bind (.ok v1.low) fun x => Res.bind (Res.bind (.ok v1.high) fun x => Res.bind (Res.bind (.ok v1.leaps) fun x => Res.bind (Res.bind (.ok v1.sweet) fun x => Res.bind (Res.bind (.ok v1.perfect) fun x => Res.bind (.ok v1.turn) fun y => .ok (x, y)) fun y => .ok (x, y)) fun y => .ok (x, y)) fun y => .ok (x, y)) fun y => .ok (x, y)) fun y => .ok (x, y)) fun x => .ok ((eP (cA (eT D.int) (cA D.int (cA D.int (cA (eT (eP (cA D.int (oA D.int)))) (cA (eT (eP (cA D.int (oA D.int)))) (cA (eT (eP (cA D.int (oA D.int)))) (oA (eO D.int))))))))) x)) fun x => Res.bind (.ok false) fun y => .ok (x, y)) fun x => Res.bind (Res.bind (Res.bind (Res.bind (Res.bind (b2 catR (b2 catR (cutR (.ok v1.mode) (.ok none) (Res.bind (.ok (2)) fun i => .ok (some i))) (Res.bind (Res.bind (b2 atR (.ok v1.mode) (.ok (1))) fun x => Res.bind (.ok []) fun y => .ok (x :: y)) szR)) (cutR (.ok v1.mode) (Res.bind (.ok (3)) fun i => .ok (some i)) (.ok none))) fun x => Res.bind (Res.bind (.ok v1.low) fun x => Res.bind (Res.bind (.ok v1.high) fun x => Res.bind (Res.bind (.ok v1.leaps) fun x => Res.bind (Res.bind (.ok v1.sweet) fun x => Res.bind (Res.bind (.ok v1.perfect) fun x => Res.bind (.ok v1.turn) fun y => .ok (x, y)) fun y => .ok (x, y)) fun y => .ok (x, y)) fun y => .ok (x, y)) fun y => .ok (x, y)) fun y => .ok (x, y)) fun x => .ok ((eP (cA (eT D.int) (cA D.int (cA D.int (cA (eT (eP (cA D.int (oA D.int)))) (cA (eT (eP (cA D.int (oA D.int)))) (cA (eT (eP (cA D.int (oA D.int)))) (oA (eO D.int))))))))) x)) fun x => Res.bind (.ok false) fun y => .ok (x, y)) fun x => Res.bind (Res.bind (Res.bind (Res.bind (Res.bind (b2 (binD .add) (Res.bind (.ok (1)) fun x => .ok ((eP (oA D.int)) x)) (Res.bind (cutR (.ok v1.mode) (Res.bind (.ok (1)) fun i => .ok (some i)) (.ok none)) fun x => .ok ((eT D.int) x))) fun x => Res.bind (Res.bind (.ok v1.low) fun x => Res.bind (Res.bind (.ok v1.high) fun x => Res.bind (Res.bind (.ok v1.leaps) fun x => Res.bind (Res.bind (.ok v1.sweet) fun x => Res.bind (Res.bind (.ok v1.perfect) fun x => Res.bind (.ok v1.turn) fun y => .ok (x, y)) fun y => .ok (x, y)) fun y => .ok (x, y)) fun y => .ok (x, y)) fun y => .ok (x, y)) fun y => .ok (x, y)) fun x => .ok ((eP (cA eX (cA D.int (cA D.int (cA (eT (eP (cA D.int (oA D.int)))) (cA (eT (eP (cA D.int (oA D.int)))) (cA (eT (eP (cA D.int (oA D.int)))) (oA (eO D.int))))))))) x)) fun x => Res.bind (.ok false) fun y => .ok (x, y)) fun x => Res.bind (Res.bind (Res.bind (Res.bind (Res.bind (Res.bind (.ok v1.mode) sameG) fun x => Res.bind (Res.bind (.ok v1.low) fun x => Res.bind (Res.bind (.ok v1.high) fun x => Res.bind (Res.bind (.ok v1.leaps) fun x => Res.bind (Res.bind (.ok v1.sweet) fun x => Res.bind (Res.bind (.ok v1.perfect) fun x => Res.bind (.ok v1.turn) fun y => .ok (x, y)) fun y => .ok (x, y)) fun y => .ok (x, y)) fun y => .ok (x, y)) fun y => .ok (x, y)) fun y => .ok (x, y)) fun x => .ok ((eP (cA (eL D.int) (cA D.int (cA D.int (cA (eT (eP (cA D.int (oA D.int)))) (cA (eT (eP (cA D.int (oA D.int)))) (cA (eT (eP (cA D.int (oA D.int)))) (oA (eO D.int))))))))) x)) fun x => Res.bind (.ok false) fun y => .ok (x, y)) fun x => Res.bind (Res.bind (Res.bind (Res.bind (Res.bind (.ok v1.mode) fun x => Res.bind (Res.bind (.ok v1.low) fun x => Res.bind (Res.bind (.ok v1.high) fun x => Res.bind (Res.bind (Res.bind (Res.bind (.ok (1)) fun x => Res.bind (.ok (2)) fun y => .ok (x, y)) fun x => Res.bind (Res.bind (.ok (1)) fun x => Res.bind (.ok (1)) fun y => .ok (x, y)) fun y => .ok (x, y)) fun x => Res.bind (Res.bind (.ok v1.sweet) fun x => Res.bind (Res.bind (.ok v1.perfect) fun x => Res.bind (.ok v1.turn) fun y => .ok (x, y)) fun y => .ok (x, y)) fun y => .ok (x, y)) fun y => .ok (x, y)) fun y => .ok (x, y)) fun y => .ok (x, y)) fun x => .ok ((eP (cA (eT D.int) (cA D.int (cA D.int (cA (eP (cA (eP (cA D.int (oA D.int))) (oA (eP (cA D.int (oA D.int)))))) (cA (eT (eP (cA D.int (oA D.int)))) (cA (eT (eP (cA D.int (oA D.int)))) (oA (eO D.int))))))))) x)) fun x => Res.bind (.ok false) fun y => .ok (x, y)) fun x => Res.bind (Res.bind (Res.bind (Res.bind (Res.bind (.ok v1.mode) fun x => Res.bind (Res.bind (.ok v1.low) fun x => Res.bind (Res.bind (.ok v1.high) fun x => Res.bind (Res.bind (Res.bind (Res.bind (.ok (1)) fun x => Res.bind (.ok (1)) fun y => .ok (x, y)) fun x => Res.bind (Res.bind (.ok (1)) fun x => Res.bind (.ok (1)) fun y => .ok (x, y)) fun y => .ok (x, y)) fun x => Res.bind (Res.bind (.ok v1.sweet) fun x => Res.bind (Res.bind (.ok v1.perfect) fun x => Res.bind (.ok v1.turn) fun y => .ok (x, y)) fun y => .ok (x, y)) fun y => .ok (x, y)) fun y => .ok (x, y)) fun y => .ok (x, y)) fun y => .ok (x, y)) fun x => .ok ((eP (cA (eT D.int) (cA D.int (cA D.int (cA (eP (cA (eP (cA D.int (oA D.int))) (oA (eP (cA D.int (oA D.int)))))) (cA (eT (eP (cA D.int (oA D.int)))) (cA (eT (eP (cA D.int (oA D.int)))) (oA (eO D.int))))))))) x)) fun x => Res.bind (.ok false) fun y => .ok (x, y)) fun x => Res.bind (Res.bind (Res.bind (Res.bind (Res.bind (.ok v1.mode) fun x => Res.bind (Res.bind (.ok v1.low) fun x => Res.bind (Res.bind (.ok v1.high) fun x => Res.bind (Res.bind (Res.bind (.ok (1)) fun x => Res.bind (Res.bind (.ok (1)) negI) fun y => .ok (x, y)) fun x => Res.bind (Res.bind (.ok v1.sweet) fun x => Res.bind (Res.bind (.ok v1.perfect) fun x => Res.bind (.ok v1.turn) fun y => .ok (x, y)) fun y => .ok (x, y)) fun y => .ok (x, y)) fun y => .ok (x, y)) fun y => .ok (x, y)) fun y => .ok (x, y)) fun x => .ok ((eP (cA (eT D.int) (cA D.int (cA D.int (cA (eP (oA (eP (cA D.int (oA D.int))))) (cA (eT (eP (cA D.int (oA D.int)))) (cA (eT (eP (cA D.int (oA D.int)))) (oA (eO D.int))))))))) x)) fun x => Res.bind (.ok false) fun y => .ok (x, y)) fun x => Res.bind (Res.bind (Res.bind (Res.bind (Res.bind (.ok v1.mode) fun x => Res.bind (Res.bind (.ok v1.low) fun x => Res.bind (Res.bind (.ok v1.high) fun x => Res.bind (Res.bind (Res.bind (.ok (0)) fun x => Res.bind (.ok (0)) fun y => .ok (x, y)) fun x => Res.bind (Res.bind (.ok v1.sweet) fun x => Res.bind (Res.bind (.ok v1.perfect) fun x => Res.bind (.ok v1.turn) fun y => .ok (x, y)) fun y => .ok (x, y)) fun y => .ok (x, y)) fun y => .ok (x, y)) fun y => .ok (x, y)) fun y => .ok (x, y)) fun x => .ok ((eP (cA (eT D.int) (cA D.int (cA D.int (cA (eP (oA (eP (cA D.int (oA D.int))))) (cA (eT (eP (cA D.int (oA D.int)))) (cA (eT (eP (cA D.int (oA D.int)))) (oA (eO D.int))))))))) x)) fun x => Res.bind (.ok false) fun y => .ok (x, y)) fun x => Res.bind (Res.bind (Res.bind (Res.bind (Res.bind (.ok v1.mode) fun x => Res.bind (Res.bind (.ok v1.low) fun x => Res.bind (Res.bind (.ok v1.high) fun x => Res.bind (Res.bind (Res.bind (.ok (15)) fun x => Res.bind (.ok (20)) fun y => .ok (x, y)) fun x => Res.bind (Res.bind (.ok v1.sweet) fun x => Res.bind (Res.bind (.ok v1.perfect) fun x => Res.bind (.ok v1.turn) fun y => .ok (x, y)) fun y => .ok (x, y)) fun y => .ok (x, y)) fun y => .ok (x, y)) fun y => .ok (x, y)) fun y => .ok (x, y)) fun x => .ok ((eP (cA (eT D.int) (cA D.int (cA D.int (cA (eP (oA (eP (cA D.int (oA D.int))))) (cA (eT (eP (cA D.int (oA D.int)))) (cA (eT (eP (cA D.int (oA D.int)))) (oA (eO D.int))))))))) x)) fun x => Res.bind (.ok false) fun y => .ok (x, y)) fun x => Res.bind (Res.bind (Res.bind (Res.bind (Res.bind (.ok v1.mode) fun x => Res.bind (Res.bind (.ok v1.low) fun x => Res.bind (Res.bind (.ok v1.high) fun x => Res.bind (Res.bind (Res.bind (Res.bind (Res.bind (.ok (1)) fun x => Res.bind (.ok (1)) fun y => .ok (x, y)) fun x => Res.bind (.ok []) fun y => .ok (x :: y)) szR) fun x => Res.bind (Res.bind (.ok v1.sweet) fun x => Res.bind (Res.bind (.ok v1.perfect) fun x => Res.bind (.ok v1.turn) fun y => .ok (x, y)) fun y => .ok (x, y)) fun y => .ok (x, y)) fun y => .ok (x, y)) fun y => .ok (x, y)) fun y => .ok (x, y)) fun x => .ok ((eP (cA (eT D.int) (cA D.int (cA D.int (cA (eL (eP (cA D.int (oA D.int)))) (cA (eT (eP (cA D.int (oA D.int)))) (cA (eT (eP (cA D.int (oA D.int)))) (oA (eO D.int))))))))) x)) fun x => Res.bind (.ok false) fun y => .ok (x, y)) fun x => Res.bind (Res.bind (Res.bind (Res.bind (Res.bind (.ok v1.mode) fun x => Res.bind (Res.bind (.ok v1.low) fun x => Res.bind (Res.bind (.ok v1.high) fun x => Res.bind (Res.bind (.ok v1.leaps) fun x => Res.bind (Res.bind (Res.bind (.ok (7)) fun x => Res.bind (.ok (0)) fun y => .ok (x, y)) fun x => Res.bind (Res.bind (.ok ()) fun x => Res.bind (.ok v1.turn) fun y => .ok (x, y)) fun y => .ok (x, y)) fun y => .ok (x, y)) fun y => .ok (x, y)) fun y => .ok (x, y)) fun y => .ok (x, y)) fun x => .ok ((eP (cA (eT D.int) (cA D.int (cA D.int (cA (eT (eP (cA D.int (oA D.int)))) (cA (eP (oA (eP (cA D.int (oA D.int))))) (cA (eP zA) (oA (eO D.int))))))))) x)) fun x => Res.bind (.ok false) fun y => .ok (x, y)) fun x => Res.bind (Res.bind (Res.bind (Res.bind (Res.bind (.ok v1.mode) fun x => Res.bind (Res.bind (.ok v1.low) fun x => Res.bind (Res.bind (.ok v1.high) fun x => Res.bind (Res.bind (.ok v1.leaps) fun x => Res.bind (Res.bind (Res.bind (.ok (0)) fun x => Res.bind (.ok (12)) fun y => .ok (x, y)) fun x => Res.bind (Res.bind (.ok ()) fun x => Res.bind (.ok v1.turn) fun y => .ok (x, y)) fun y => .ok (x, y)) fun y => .ok (x, y)) fun y => .ok (x, y)) fun y => .ok (x, y)) fun y => .ok (x, y)) fun x => .ok ((eP (cA (eT D.int) (cA D.int (cA D.int (cA (eT (eP (cA D.int (oA D.int)))) (cA (eP (oA (eP (cA D.int (oA D.int))))) (cA (eP zA) (oA (eO D.int))))))))) x)) fun x => Res.bind (.ok false) fun y => .ok (x, y)) fun x => Res.bind (Res.bind (Res.bind (Res.bind (Res.bind (.ok v1.mode) fun x => Res.bind (Res.bind (.ok v1.low) fun x => Res.bind (Res.bind (.ok v1.high) fun x => Res.bind (Res.bind (.ok v1.leaps) fun x => Res.bind (Res.bind (Res.bind (Res.bind (.ok (2)) fun x => Res.bind (.ok (4)) fun y => .ok (x, y)) fun x => Res.bind (Res.bind (.ok (2)) fun x => Res.bind (.ok (3)) fun y => .ok (x, y)) fun y => .ok (x, y)) fun x => Res.bind (Res.bind (.ok ()) fun x => Res.bind (.ok v1.turn) fun y => .ok (x, y)) fun y => .ok (x, y)) fun y => .ok (x, y)) fun y => .ok (x, y)) fun y => .ok (x, y)) fun y => .ok (x, y)) fun x => .ok ((eP (cA (eT D.int) (cA D.int (cA D.int (cA (eT (eP (cA D.int (oA D.int)))) (cA (eP (cA (eP (cA D.int (oA D.int))) (oA (eP (cA D.int (oA D.int)))))) (cA (eP zA) (oA (eO D.int))))))))) x)) fun x => Res.bind (.ok false) fun y => .ok (x, y)) fun x => Res.bind (Res.bind (Res.bind (Res.bind (Res.bind (.ok v1.mode) fun x => Res.bind (Res.bind (.ok v1.low) fun x => Res.bind (Res.bind (.ok v1.high) fun x => Res.bind (Res.bind (.ok v1.leaps) fun x => Res.bind (Res.bind (Res.bind (.ok (0)) fun x => Res.bind (.ok (0)) fun y => .ok (x, y)) fun x => Res.bind (Res.bind (Res.bind (.ok (4)) fun x => Res.bind (.ok (7)) fun y => .ok (x, y)) fun x => Res.bind (.ok v1.turn) fun y => .ok (x, y)) fun y => .ok (x, y)) fun y => .ok (x, y)) fun y => .ok (x, y)) fun y => .ok (x, y)) fun y => .ok (x, y)) fun x => .ok ((eP (cA (eT D.int) (cA D.int (cA D.int (cA (eT (eP (cA D.int (oA D.int)))) (cA (eP (oA (eP (cA D.int (oA D.int))))) (cA (eP (oA (eP (cA D.int (oA D.int))))) (oA (eO D.int))))))))) x)) fun x => Res.bind (.ok false) fun y => .ok (x, y)) fun x => Res.bind (Res.bind (Res.bind (Res.bind (Res.bind (.ok v1.mode) fun x => Res.bind (Res.bind (.ok v1.low) fun x => Res.bind (Res.bind (.ok v1.high) fun x => Res.bind (Res.bind (.ok v1.leaps) fun x => Res.bind (Res.bind (.ok v1.sweet) fun x => Res.bind (Res.bind (.ok v1.perfect) fun x => Res.bind (.ok (1)) fun y => .ok (x, y)) fun y => .ok (x, y)) fun y => .ok (x, y)) fun y => .ok (x, y)) fun y => .ok (x, y)) fun y => .ok (x, y)) fun x => .ok ((eP (cA (eT D.int) (cA D.int (cA D.int (cA (eT (eP (cA D.int (oA D.int)))) (cA (eT (eP (cA D.int (oA D.int)))) (cA (eT (eP (cA D.int (oA D.int)))) (oA D.int)))))))) x)) fun x => Res.bind (.ok false) fun y => .ok (x, y)) fun x => Res.bind (Res.bind (Res.bind (Res.bind (Res.bind (.ok v1.mode) fun x => Res.bind (Res.bind (.ok v1.low) fun x => Res.bind (Res.bind (.ok v1.high) fun x => Res.bind (Res.bind (.ok v1.leaps) fun x => Res.bind (Res.bind (.ok v1.sweet) fun x => Res.bind (Res.bind (.ok v1.perfect) fun x => Res.bind (.ok true) fun y => .ok (x, y)) fun y => .ok (x, y)) fun y => .ok (x, y)) fun y => .ok (x, y)) fun y => .ok (x, y)) fun y => .ok (x, y)) fun x => .ok ((eP (cA (eT D.int) (cA D.int (cA D.int (cA (eT (eP (cA D.int (oA D.int)))) (cA (eT (eP (cA D.int (oA D.int)))) (cA (eT (eP (cA D.int (oA D.int)))) (oA D.bl)))))))) x)) fun x => Res.bind (.ok false) fun y => .ok (x, y)) fun x => Res.bind (Res.bind (Res.bind (Res.bind (Res.bind (.ok v1.mode) fun x => Res.bind (Res.bind (.ok v1.low) fun x => Res.bind (Res.bind (.ok v1.high) fun x => Res.bind (Res.bind (.ok v1.leaps) fun x => Res.bind (Res.bind (.ok v1.sweet) fun x => Res.bind (Res.bind (.ok v1.perfect) fun x => Res.bind (.ok ("2" : Str)) fun y => .ok (x, y)) fun y => .ok (x, y)) fun y => .ok (x, y)) fun y => .ok (x, y)) fun y => .ok (x, y)) fun y => .ok (x, y)) fun x => .ok ((eP (cA (eT D.int) (cA D.int (cA D.int (cA (eT (eP (cA D.int (oA D.int)))) (cA (eT (eP (cA D.int (oA D.int)))) (cA (eT (eP (cA D.int (oA D.int)))) (oA D.str)))))))) x)) fun x => Res.bind (.ok false) fun y => .ok (x, y)) fun x => Res.bind (.ok []) fun y => .ok (x :: y)) fun y => .ok (x :: y)) fun y => .ok (x :: y)) fun y => .ok (x :: y)) fun y => .ok (x :: y)) fun y => .ok (x :: y)) fun y => .ok (x :: y)) fun y => .ok (x :: y)) fun y => .ok (x :: y)) fun y => .ok (x :: y)) fun y => .ok (x :: y)) fun y => .ok (x :: y)) fun y => .ok (x :: y)) fun y => .ok (x :: y)) fun y => .ok (x :: y)) fun y => .ok (x :: y)) fun y => .ok (x :: y)) fun y => .ok (x :: y)) fun y => .ok (x :: y)) fun y => .ok (x :: y)) fun y => .ok (x :: y)) fun y => .ok (x :: y)) fun y => .ok (x :: y)) fun y => .ok (x :: y)) fun y => .ok (x :: y)) fun y => .ok (x :: y)) fun y => .ok (x :: y)) fun y => .ok (x :: y)) szR) fun v2 =>
 (Res.bind (b2 atR (.ok v2) (b2 modI (.ok a_n) (Res.bind (.ok v2) lenG))) fun x => .ok x)))
theorem l__law_turned (a_b : Bk) (a_n : Int) : Rf (eP (cA eX (oA D.bl))) (φ__law_turned [(eP Bk.fs) a_b, D.int a_n]) (t__law_turned a_b a_n) := by
  unfold φ__law_turned
  refine run_def ?_
  unfold b__law_turned t__law_turned
  show JB _ _ _ _ [.pl ((eP Bk.fs) a_b), .pl (D.int a_n), .un, .un, .un, .un, .un, .un, .un, .un] _ _
  refine jb_asgT (ρ1 := [.pl ((eP Bk.fs) a_b), .pl (D.int a_n), .un, .un, .un, .un, .un, .un, .un, .un]) (Rn := fun v1 => [.pl ((eP Bk.fs) a_b), .pl (D.int a_n), .pl ((eT D.int) v1.mode), .pl (D.int v1.low), .pl (D.int v1.high), .pl ((eT (eP (cA D.int (oA D.int)))) v1.leaps), .pl ((eT (eP (cA D.int (oA D.int)))) v1.sweet), .pl ((eT (eP (cA D.int (oA D.int)))) v1.perfect), .pl ((eO D.int) v1.turn), .un]) BJ_ok rfl (V (eP Bk.fs) a_b rfl) (fun _ => rfl) fun v1 => ?_
  refine jb_asg (ρ1 := [.pl ((eP Bk.fs) a_b), .pl (D.int a_n), .pl ((eT D.int) v1.mode), .pl (D.int v1.low), .pl (D.int v1.high), .pl ((eT (eP (cA D.int (oA D.int)))) v1.leaps), .pl ((eT (eP (cA D.int (oA D.int)))) v1.sweet), .pl ((eT (eP (cA D.int (oA D.int)))) v1.perfect), .pl ((eO D.int) v1.turn), .un]) BJ_ok (dem_keep rfl) (L_tupT (e := (eP (cA eX (oA D.bl)))) (H_cons (L_tupP (fun _ => Nat.le_of_ble_eq_true rfl) (A_cons (L_up (V (eP Bk.fs) a_b rfl)) (A_one (K_bl true)))) (H_cons (L_tupP (fun _ => Nat.le_of_ble_eq_true rfl) (A_cons (L_up (L_tupP (fun _ => Nat.le_of_ble_eq_true rfl) (A_cons (V (eT D.int) v1.mode rfl) (A_cons (V D.int v1.low rfl) (A_cons (V D.int v1.low rfl) (A_cons (V (eT (eP (cA D.int (oA D.int)))) v1.leaps rfl) (A_cons (V (eT (eP (cA D.int (oA D.int)))) v1.sweet rfl) (A_cons (V (eT (eP (cA D.int (oA D.int)))) v1.perfect rfl) (A_one (V (eO D.int) v1.turn rfl)))))))))) (A_one (K_bl true)))) (H_cons (L_tupP (fun _ => Nat.le_of_ble_eq_true rfl) (A_cons (L_up (L_tupP (fun _ => Nat.le_of_ble_eq_true rfl) (A_cons (V (eT D.int) v1.mode rfl) (A_cons (V D.int v1.low rfl) (A_cons (L_bin O_add (V D.int v1.low rfl) (K_int (24))) (A_cons (L_tupP (fun _ => Nat.le_of_ble_eq_true rfl) A_nil) (A_cons (V (eT (eP (cA D.int (oA D.int)))) v1.sweet rfl) (A_cons (L_tupP (fun _ => Nat.le_of_ble_eq_true rfl) A_nil) (A_one K_non))))))))) (A_one (K_bl true)))) (H_cons (L_tupP (fun _ => Nat.le_of_ble_eq_true rfl) (A_cons (L_up (L_tupP (fun _ => Nat.le_of_ble_eq_true rfl) (A_cons (V (eT D.int) v1.mode rfl) (A_cons (V D.int v1.low rfl) (A_cons (V D.int v1.high rfl) (A_cons (V (eT (eP (cA D.int (oA D.int)))) v1.leaps rfl) (A_cons (L_tupP (fun _ => Nat.le_of_ble_eq_true rfl) A_nil) (A_cons (L_tupP (fun _ => Nat.le_of_ble_eq_true rfl) A_nil) (A_one (V (eO D.int) v1.turn rfl)))))))))) (A_one (K_bl true)))) (H_cons (L_tupP (fun _ => Nat.le_of_ble_eq_true rfl) (A_cons (L_up (L_tupP (fun _ => Nat.le_of_ble_eq_true rfl) (A_cons (V (eT D.int) v1.mode rfl) (A_cons (L_neg (K_int (99))) (A_cons (L_neg (K_int (99))) (A_cons (L_tupP (fun _ => Nat.le_of_ble_eq_true rfl) (A_cons (L_tupP (fun _ => Nat.le_of_ble_eq_true rfl) (A_cons (L_neg (K_int (14))) (A_one (L_neg (K_int (1)))))) (A_one (L_tupP (fun _ => Nat.le_of_ble_eq_true rfl) (A_cons (K_int (14)) (A_one (K_int (1)))))))) (A_cons (L_tupP (fun _ => Nat.le_of_ble_eq_true rfl) (A_cons (L_tupP (fun _ => Nat.le_of_ble_eq_true rfl) (A_cons (K_int (0)) (A_one (K_int (0))))) (A_one (L_tupP (fun _ => Nat.le_of_ble_eq_true rfl) (A_cons (K_int (6)) (A_one (K_int (11)))))))) (A_cons (L_tupP (fun _ => Nat.le_of_ble_eq_true rfl) (A_one (L_tupP (fun _ => Nat.le_of_ble_eq_true rfl) (A_cons (K_int (0)) (A_one (K_int (0))))))) (A_one (K_int (99))))))))))) (A_one (K_bl true)))) (H_cons (L_tupP (fun _ => Nat.le_of_ble_eq_true rfl) (A_cons (L_up (L_tupP (fun _ => Nat.le_of_ble_eq_true rfl) (A_cons (V (eT D.int) v1.mode rfl) (A_cons (V D.int v1.low rfl) (A_cons (L_bin O_add (V D.int v1.low rfl) (K_int (25))) (A_cons (V (eT (eP (cA D.int (oA D.int)))) v1.leaps rfl) (A_cons (V (eT (eP (cA D.int (oA D.int)))) v1.sweet rfl) (A_cons (V (eT (eP (cA D.int (oA D.int)))) v1.perfect rfl) (A_one (V (eO D.int) v1.turn rfl)))))))))) (A_one (K_bl false)))) (H_cons (L_tupP (fun _ => Nat.le_of_ble_eq_true rfl) (A_cons (L_up (L_tupP (fun _ => Nat.le_of_ble_eq_true rfl) (A_cons (V (eT D.int) v1.mode rfl) (A_cons (L_bin O_add (V D.int v1.high rfl) (K_int (1))) (A_cons (V D.int v1.high rfl) (A_cons (V (eT (eP (cA D.int (oA D.int)))) v1.leaps rfl) (A_cons (V (eT (eP (cA D.int (oA D.int)))) v1.sweet rfl) (A_cons (V (eT (eP (cA D.int (oA D.int)))) v1.perfect rfl) (A_one (V (eO D.int) v1.turn rfl)))))))))) (A_one (K_bl false)))) (H_cons (L_tupP (fun _ => Nat.le_of_ble_eq_true rfl) (A_cons (L_up (L_tupP (fun _ => Nat.le_of_ble_eq_true rfl) (A_cons (V (eT D.int) v1.mode rfl) (A_cons (K_int (100)) (A_cons (K_int (100)) (A_cons (V (eT (eP (cA D.int (oA D.int)))) v1.leaps rfl) (A_cons (V (eT (eP (cA D.int (oA D.int)))) v1.sweet rfl) (A_cons (V (eT (eP (cA D.int (oA D.int)))) v1.perfect rfl) (A_one (V (eO D.int) v1.turn rfl)))))))))) (A_one (K_bl false)))) (H_cons (L_tupP (fun _ => Nat.le_of_ble_eq_true rfl) (A_cons (L_up (L_tupP (fun _ => Nat.le_of_ble_eq_true rfl) (A_cons (V (eT D.int) v1.mode rfl) (A_cons (K_bl true) (A_cons (L_bin O_add (V D.int v1.high rfl) (K_int (2))) (A_cons (V (eT (eP (cA D.int (oA D.int)))) v1.leaps rfl) (A_cons (V (eT (eP (cA D.int (oA D.int)))) v1.sweet rfl) (A_cons (V (eT (eP (cA D.int (oA D.int)))) v1.perfect rfl) (A_one (V (eO D.int) v1.turn rfl)))))))))) (A_one (K_bl false)))) (H_cons (L_tupP (fun _ => Nat.le_of_ble_eq_true rfl) (A_cons (L_up (L_tupP (fun _ => Nat.le_of_ble_eq_true rfl) (A_cons (V (eT D.int) v1.mode rfl) (A_cons (V D.int v1.low rfl) (A_cons K_non (A_cons (V (eT (eP (cA D.int (oA D.int)))) v1.leaps rfl) (A_cons (V (eT (eP (cA D.int (oA D.int)))) v1.sweet rfl) (A_cons (V (eT (eP (cA D.int (oA D.int)))) v1.perfect rfl) (A_one (V (eO D.int) v1.turn rfl)))))))))) (A_one (K_bl false)))) (H_cons (L_tupP (fun _ => Nat.le_of_ble_eq_true rfl) (A_cons (L_up (L_tupP (fun _ => Nat.le_of_ble_eq_true rfl) (A_cons (L_slT (V (eT D.int) v1.mode rfl) evO_none (evO_some rfl (K_int (6)))) (A_cons (V D.int v1.low rfl) (A_cons (V D.int v1.high rfl) (A_cons (V (eT (eP (cA D.int (oA D.int)))) v1.leaps rfl) (A_cons (V (eT (eP (cA D.int (oA D.int)))) v1.sweet rfl) (A_cons (V (eT (eP (cA D.int (oA D.int)))) v1.perfect rfl) (A_one (V (eO D.int) v1.turn rfl)))))))))) (A_one (K_bl false)))) (H_cons (L_tupP (fun _ => Nat.le_of_ble_eq_true rfl) (A_cons (L_up (L_tupP (fun _ => Nat.le_of_ble_eq_true rfl) (A_cons (L_bin O_catT (L_slT (V (eT D.int) v1.mode rfl) evO_none (evO_some rfl (K_int (6)))) (L_tupT (e := D.int) (H_cons (K_int (12)) H_nil))) (A_cons (V D.int v1.low rfl) (A_cons (V D.int v1.high rfl) (A_cons (V (eT (eP (cA D.int (oA D.int)))) v1.leaps rfl) (A_cons (V (eT (eP (cA D.int (oA D.int)))) v1.sweet rfl) (A_cons (V (eT (eP (cA D.int (oA D.int)))) v1.perfect rfl) (A_one (V (eO D.int) v1.turn rfl)))))))))) (A_one (K_bl false)))) (H_cons (L_tupP (fun _ => Nat.le_of_ble_eq_true rfl) (A_cons (L_up (L_tupP (fun _ => Nat.le_of_ble_eq_true rfl) (A_cons (L_bin O_catT (L_bin O_catT (L_slT (V (eT D.int) v1.mode rfl) evO_none (evO_some rfl (K_int (2)))) (L_tupT (e := D.int) (H_cons (L_ixT (V (eT D.int) v1.mode rfl) (K_int (1))) H_nil))) (L_slT (V (eT D.int) v1.mode rfl) (evO_some rfl (K_int (3))) evO_none)) (A_cons (V D.int v1.low rfl) (A_cons (V D.int v1.high rfl) (A_cons (V (eT (eP (cA D.int (oA D.int)))) v1.leaps rfl) (A_cons (V (eT (eP (cA D.int (oA D.int)))) v1.sweet rfl) (A_cons (V (eT (eP (cA D.int (oA D.int)))) v1.perfect rfl) (A_one (V (eO D.int) v1.turn rfl)))))))))) (A_one (K_bl false)))) (H_cons (L_tupP (fun _ => Nat.le_of_ble_eq_true rfl) (A_cons (L_up (L_tupP (fun _ => Nat.le_of_ble_eq_true rfl) (A_cons (L_bin O_X (L_up (L_tupP (fun _ => Nat.le_of_ble_eq_true rfl) (A_one (K_int (1))))) (L_up (L_slT (V (eT D.int) v1.mode rfl) (evO_some rfl (K_int (1))) evO_none))) (A_cons (V D.int v1.low rfl) (A_cons (V D.int v1.high rfl) (A_cons (V (eT (eP (cA D.int (oA D.int)))) v1.leaps rfl) (A_cons (V (eT (eP (cA D.int (oA D.int)))) v1.sweet rfl) (A_cons (V (eT (eP (cA D.int (oA D.int)))) v1.perfect rfl) (A_one (V (eO D.int) v1.turn rfl)))))))))) (A_one (K_bl false)))) (H_cons (L_tupP (fun _ => Nat.le_of_ble_eq_true rfl) (A_cons (L_up (L_tupP (fun _ => Nat.le_of_ble_eq_true rfl) (A_cons (L_bi1 B_lstT (V (eT D.int) v1.mode rfl)) (A_cons (V D.int v1.low rfl) (A_cons (V D.int v1.high rfl) (A_cons (V (eT (eP (cA D.int (oA D.int)))) v1.leaps rfl) (A_cons (V (eT (eP (cA D.int (oA D.int)))) v1.sweet rfl) (A_cons (V (eT (eP (cA D.int (oA D.int)))) v1.perfect rfl) (A_one (V (eO D.int) v1.turn rfl)))))))))) (A_one (K_bl false)))) (H_cons (L_tupP (fun _ => Nat.le_of_ble_eq_true rfl) (A_cons (L_up (L_tupP (fun _ => Nat.le_of_ble_eq_true rfl) (A_cons (V (eT D.int) v1.mode rfl) (A_cons (V D.int v1.low rfl) (A_cons (V D.int v1.high rfl) (A_cons (L_tupP (fun _ => Nat.le_of_ble_eq_true rfl) (A_cons (L_tupP (fun _ => Nat.le_of_ble_eq_true rfl) (A_cons (K_int (1)) (A_one (K_int (2))))) (A_one (L_tupP (fun _ => Nat.le_of_ble_eq_true rfl) (A_cons (K_int (1)) (A_one (K_int (1)))))))) (A_cons (V (eT (eP (cA D.int (oA D.int)))) v1.sweet rfl) (A_cons (V (eT (eP (cA D.int (oA D.int)))) v1.perfect rfl) (A_one (V (eO D.int) v1.turn rfl)))))))))) (A_one (K_bl false)))) (H_cons (L_tupP (fun _ => Nat.le_of_ble_eq_true rfl) (A_cons (L_up (L_tupP (fun _ => Nat.le_of_ble_eq_true rfl) (A_cons (V (eT D.int) v1.mode rfl) (A_cons (V D.int v1.low rfl) (A_cons (V D.int v1.high rfl) (A_cons (L_tupP (fun _ => Nat.le_of_ble_eq_true rfl) (A_cons (L_tupP (fun _ => Nat.le_of_ble_eq_true rfl) (A_cons (K_int (1)) (A_one (K_int (1))))) (A_one (L_tupP (fun _ => Nat.le_of_ble_eq_true rfl) (A_cons (K_int (1)) (A_one (K_int (1)))))))) (A_cons (V (eT (eP (cA D.int (oA D.int)))) v1.sweet rfl) (A_cons (V (eT (eP (cA D.int (oA D.int)))) v1.perfect rfl) (A_one (V (eO D.int) v1.turn rfl)))))))))) (A_one (K_bl false)))) (H_cons (L_tupP (fun _ => Nat.le_of_ble_eq_true rfl) (A_cons (L_up (L_tupP (fun _ => Nat.le_of_ble_eq_true rfl) (A_cons (V (eT D.int) v1.mode rfl) (A_cons (V D.int v1.low rfl) (A_cons (V D.int v1.high rfl) (A_cons (L_tupP (fun _ => Nat.le_of_ble_eq_true rfl) (A_one (L_tupP (fun _ => Nat.le_of_ble_eq_true rfl) (A_cons (K_int (1)) (A_one (L_neg (K_int (1)))))))) (A_cons (V (eT (eP (cA D.int (oA D.int)))) v1.sweet rfl) (A_cons (V (eT (eP (cA D.int (oA D.int)))) v1.perfect rfl) (A_one (V (eO D.int) v1.turn rfl)))))))))) (A_one (K_bl false)))) (H_cons (L_tupP (fun _ => Nat.le_of_ble_eq_true rfl) (A_cons (L_up (L_tupP (fun _ => Nat.le_of_ble_eq_true rfl) (A_cons (V (eT D.int) v1.mode rfl) (A_cons (V D.int v1.low rfl) (A_cons (V D.int v1.high rfl) (A_cons (L_tupP (fun _ => Nat.le_of_ble_eq_true rfl) (A_one (L_tupP (fun _ => Nat.le_of_ble_eq_true rfl) (A_cons (K_int (0)) (A_one (K_int (0))))))) (A_cons (V (eT (eP (cA D.int (oA D.int)))) v1.sweet rfl) (A_cons (V (eT (eP (cA D.int (oA D.int)))) v1.perfect rfl) (A_one (V (eO D.int) v1.turn rfl)))))))))) (A_one (K_bl false)))) (H_cons (L_tupP (fun _ => Nat.le_of_ble_eq_true rfl) (A_cons (L_up (L_tupP (fun _ => Nat.le_of_ble_eq_true rfl) (A_cons (V (eT D.int) v1.mode rfl) (A_cons (V D.int v1.low rfl) (A_cons (V D.int v1.high rfl) (A_cons (L_tupP (fun _ => Nat.le_of_ble_eq_true rfl) (A_one (L_tupP (fun _ => Nat.le_of_ble_eq_true rfl) (A_cons (K_int (15)) (A_one (K_int (20))))))) (A_cons (V (eT (eP (cA D.int (oA D.int)))) v1.sweet rfl) (A_cons (V (eT (eP (cA D.int (oA D.int)))) v1.perfect rfl) (A_one (V (eO D.int) v1.turn rfl)))))))))) (A_one (K_bl false)))) (H_cons (L_tupP (fun _ => Nat.le_of_ble_eq_true rfl) (A_cons (L_up (L_tupP (fun _ => Nat.le_of_ble_eq_true rfl) (A_cons (V (eT D.int) v1.mode rfl) (A_cons (V D.int v1.low rfl) (A_cons (V D.int v1.high rfl) (A_cons (L_lst (e := (eP (cA D.int (oA D.int)))) (H_cons (L_tupP (fun _ => Nat.le_of_ble_eq_true rfl) (A_cons (K_int (1)) (A_one (K_int (1))))) H_nil)) (A_cons (V (eT (eP (cA D.int (oA D.int)))) v1.sweet rfl) (A_cons (V (eT (eP (cA D.int (oA D.int)))) v1.perfect rfl) (A_one (V (eO D.int) v1.turn rfl)))))))))) (A_one (K_bl false)))) (H_cons (L_tupP (fun _ => Nat.le_of_ble_eq_true rfl) (A_cons (L_up (L_tupP (fun _ => Nat.le_of_ble_eq_true rfl) (A_cons (V (eT D.int) v1.mode rfl) (A_cons (V D.int v1.low rfl) (A_cons (V D.int v1.high rfl) (A_cons (V (eT (eP (cA D.int (oA D.int)))) v1.leaps rfl) (A_cons (L_tupP (fun _ => Nat.le_of_ble_eq_true rfl) (A_one (L_tupP (fun _ => Nat.le_of_ble_eq_true rfl) (A_cons (K_int (7)) (A_one (K_int (0))))))) (A_cons (L_tupP (fun _ => Nat.le_of_ble_eq_true rfl) A_nil) (A_one (V (eO D.int) v1.turn rfl)))))))))) (A_one (K_bl false)))) (H_cons (L_tupP (fun _ => Nat.le_of_ble_eq_true rfl) (A_cons (L_up (L_tupP (fun _ => Nat.le_of_ble_eq_true rfl) (A_cons (V (eT D.int) v1.mode rfl) (A_cons (V D.int v1.low rfl) (A_cons (V D.int v1.high rfl) (A_cons (V (eT (eP (cA D.int (oA D.int)))) v1.leaps rfl) (A_cons (L_tupP (fun _ => Nat.le_of_ble_eq_true rfl) (A_one (L_tupP (fun _ => Nat.le_of_ble_eq_true rfl) (A_cons (K_int (0)) (A_one (K_int (12))))))) (A_cons (L_tupP (fun _ => Nat.le_of_ble_eq_true rfl) A_nil) (A_one (V (eO D.int) v1.turn rfl)))))))))) (A_one (K_bl false)))) (H_cons (L_tupP (fun _ => Nat.le_of_ble_eq_true rfl) (A_cons (L_up (L_tupP (fun _ => Nat.le_of_ble_eq_true rfl) (A_cons (V (eT D.int) v1.mode rfl) (A_cons (V D.int v1.low rfl) (A_cons (V D.int v1.high rfl) (A_cons (V (eT (eP (cA D.int (oA D.int)))) v1.leaps rfl) (A_cons (L_tupP (fun _ => Nat.le_of_ble_eq_true rfl) (A_cons (L_tupP (fun _ => Nat.le_of_ble_eq_true rfl) (A_cons (K_int (2)) (A_one (K_int (4))))) (A_one (L_tupP (fun _ => Nat.le_of_ble_eq_true rfl) (A_cons (K_int (2)) (A_one (K_int (3)))))))) (A_cons (L_tupP (fun _ => Nat.le_of_ble_eq_true rfl) A_nil) (A_one (V (eO D.int) v1.turn rfl)))))))))) (A_one (K_bl false)))) (H_cons (L_tupP (fun _ => Nat.le_of_ble_eq_true rfl) (A_cons (L_up (L_tupP (fun _ => Nat.le_of_ble_eq_true rfl) (A_cons (V (eT D.int) v1.mode rfl) (A_cons (V D.int v1.low rfl) (A_cons (V D.int v1.high rfl) (A_cons (V (eT (eP (cA D.int (oA D.int)))) v1.leaps rfl) (A_cons (L_tupP (fun _ => Nat.le_of_ble_eq_true rfl) (A_one (L_tupP (fun _ => Nat.le_of_ble_eq_true rfl) (A_cons (K_int (0)) (A_one (K_int (0))))))) (A_cons (L_tupP (fun _ => Nat.le_of_ble_eq_true rfl) (A_one (L_tupP (fun _ => Nat.le_of_ble_eq_true rfl) (A_cons (K_int (4)) (A_one (K_int (7))))))) (A_one (V (eO D.int) v1.turn rfl)))))))))) (A_one (K_bl false)))) (H_cons (L_tupP (fun _ => Nat.le_of_ble_eq_true rfl) (A_cons (L_up (L_tupP (fun _ => Nat.le_of_ble_eq_true rfl) (A_cons (V (eT D.int) v1.mode rfl) (A_cons (V D.int v1.low rfl) (A_cons (V D.int v1.high rfl) (A_cons (V (eT (eP (cA D.int (oA D.int)))) v1.leaps rfl) (A_cons (V (eT (eP (cA D.int (oA D.int)))) v1.sweet rfl) (A_cons (V (eT (eP (cA D.int (oA D.int)))) v1.perfect rfl) (A_one (K_int (1))))))))))) (A_one (K_bl false)))) (H_cons (L_tupP (fun _ => Nat.le_of_ble_eq_true rfl) (A_cons (L_up (L_tupP (fun _ => Nat.le_of_ble_eq_true rfl) (A_cons (V (eT D.int) v1.mode rfl) (A_cons (V D.int v1.low rfl) (A_cons (V D.int v1.high rfl) (A_cons (V (eT (eP (cA D.int (oA D.int)))) v1.leaps rfl) (A_cons (V (eT (eP (cA D.int (oA D.int)))) v1.sweet rfl) (A_cons (V (eT (eP (cA D.int (oA D.int)))) v1.perfect rfl) (A_one (K_bl true)))))))))) (A_one (K_bl false)))) (H_cons (L_tupP (fun _ => Nat.le_of_ble_eq_true rfl) (A_cons (L_up (L_tupP (fun _ => Nat.le_of_ble_eq_true rfl) (A_cons (V (eT D.int) v1.mode rfl) (A_cons (V D.int v1.low rfl) (A_cons (V D.int v1.high rfl) (A_cons (V (eT (eP (cA D.int (oA D.int)))) v1.leaps rfl) (A_cons (V (eT (eP (cA D.int (oA D.int)))) v1.sweet rfl) (A_cons (V (eT (eP (cA D.int (oA D.int)))) v1.perfect rfl) (A_one (K_str "2")))))))))) (A_one (K_bl false)))) H_nil))))))))))))))))))))))))))))) fun v2 => ?_
  show JB _ _ _ _ [.pl ((eP Bk.fs) a_b), .pl (D.int a_n), .pl ((eT D.int) v1.mode), .pl (D.int v1.low), .pl (D.int v1.high), .pl ((eT (eP (cA D.int (oA D.int)))) v1.leaps), .pl ((eT (eP (cA D.int (oA D.int)))) v1.sweet), .pl ((eT (eP (cA D.int (oA D.int)))) v1.perfect), .pl ((eO D.int) v1.turn), .pl ((eT (eP (cA eX (oA D.bl)))) v2)] _ _
  exact jb_ret (ρ1 := [.pl ((eP Bk.fs) a_b), .pl (D.int a_n), .pl ((eT D.int) v1.mode), .pl (D.int v1.low), .pl (D.int v1.high), .pl ((eT (eP (cA D.int (oA D.int)))) v1.leaps), .pl ((eT (eP (cA D.int (oA D.int)))) v1.sweet), .pl ((eT (eP (cA D.int (oA D.int)))) v1.perfect), .pl ((eO D.int) v1.turn), .pl ((eT (eP (cA eX (oA D.bl)))) v2)]) BJ_ok rfl (L_ixT (V (eT (eP (cA eX (oA D.bl)))) v2 rfl) (L_bin O_mod (V D.int a_n rfl) (L_bi1 B_lenT (V (eT (eP (cA eX (oA D.bl)))) v2 rfl)))) (fun _ => BJ_rt)
def t_is_number (a_value : D) : Res Bool :=
 (Res.bind (andR (Res.bind (.ok a_value) fun x => isiD .int x) (andR (b2 (fun x y => cmpD .isnot (eX x) (D.bl y)) (.ok a_value) (.ok true)) (b2 (fun x y => cmpD .isnot (eX x) (D.bl y)) (.ok a_value) (.ok false)))) fun x => .ok x)
theorem l_is_number (a_value : D) : Rf D.bl (φ_is_number [eX a_value]) (t_is_number a_value) := by
  unfold φ_is_number
  refine run_def ?_
  unfold b_is_number t_is_number
  show JB _ _ _ _ [.pl (eX a_value)] _ _
  exact jb_ret (ρ1 := [.pl (eX a_value)]) BJ_ok rfl (L_and (L_isi (f := fun x => isiD .int x) S_isiX (V eX a_value rfl)) (L_and (L_cmp (f := (fun x y => cmpD .isnot (eX x) (D.bl y))) C_W (V eX a_value rfl) (K_bl true)) (L_cmp (f := (fun x y => cmpD .isnot (eX x) (D.bl y))) C_W (V eX a_value rfl) (K_bl false)))) (fun _ => BJ_rt)
def t_is_mode (a_mode : D) : Res Bool :=
 (iteR (orR (notR (Res.bind (.ok a_mode) fun x => isiD .tup x)) (orR (b2 neG (Res.bind (.ok a_mode) fun x => (bfnD .len [x]).bind (castR D.int)) (.ok (7))) (notR (Res.bind (Res.bind (.ok a_mode) fun d => (itemsD d).bind (castsR eX)) (qnR false fun x1 => (Res.bind (.ok x1) fun p => t_is_number p))))))
 (Res.bind (.ok false) fun x => .ok x)
 (Res.bind (castR (eT D.int) (eX a_mode)) fun v2 =>
 (Res.bind (andR (b2 eqG (b2 atR (.ok v2) (.ok (0))) (.ok (0))) (andR (b2 ltI (b2 atR (.ok v2) (.ok (6))) (.ok (12))) (Res.bind (Res.bind (.ok (6)) rng1R) (qnR false fun x3 => (b2 ltI (b2 atR (.ok v2) (.ok x3)) (b2 atR (.ok v2) (b2 addI (.ok x3) (.ok (1))))))))) fun x => .ok x)))
theorem l_is_mode (a_mode : D) : Rf D.bl (φ_is_mode [eX a_mode]) (t_is_mode a_mode) := by
  unfold φ_is_mode
  refine run_def ?_
  unfold b_is_mode t_is_mode
  show JB _ _ _ _ [.pl (eX a_mode), .un, .un] _ _
  refine jb_ifs (ρ1 := [.pl (eX a_mode), .un, .un]) BJ_ok rfl (L_or (L_nt (L_isi (f := fun x => isiD .tup x) S_isiX (V eX a_mode rfl))) (L_or (L_cmp (C_ne (by decide)) (L_bi1 (g := fun x => (bfnD .len [x]).bind (castR D.int)) B_XI (V eX a_mode rfl)) (K_int (7))) (L_nt (L_gen (ea := eX) (R := fun x1 => [.pl (eX a_mode), .pl (eX x1), .un]) (I_X (V eX a_mode rfl)) (fun _ => rfl) (fun x1 => (L_call (f := (oA eX)) (t := fun p => t_is_number p) φ_is_number rfl (fun p => l_is_number p) (A_one (V eX x1 rfl)))))))) ?_ ?_
  · exact jb_ret (ρ1 := [.pl (eX a_mode), .un, .un]) BJ_ok rfl (K_bl false) (fun _ => BJ_rt)
  · refine jb_nilr ?_
    refine jb_narrow (en := (eT D.int)) (i := 0) (R1 := fun v2 => [.pl ((eT D.int) v2), .un, .un]) BJ_ok rfl (fun _ => rfl) fun v2 => ?_
    show JB _ _ _ _ [.pl ((eT D.int) v2), .un, .un] _ _
    exact jb_ret (ρ1 := [.pl ((eT D.int) v2), .un, .un]) BJ_ok rfl (L_and (L_cmp (C_eq (by decide)) (L_ixT (V (eT D.int) v2 rfl) (K_int (0))) (K_int (0))) (L_and (L_cmp C_lt (L_ixT (V (eT D.int) v2 rfl) (K_int (6))) (K_int (12))) (L_gen (ea := D.int) (R := fun x3 => [.pl ((eT D.int) v2), .un, .pl (D.int x3)]) (I_r1 (K_int (6))) (fun _ => rfl) (fun x3 => (L_cmp C_lt (L_ixT (V (eT D.int) v2 rfl) (V D.int x3 rfl)) (L_ixT (V (eT D.int) v2 rfl) (L_bin O_add (V D.int x3 rfl) (K_int (1))))))))) (fun _ => BJ_rt)
def t_rises (a_rows : (List (Int × Int))) : Res Bool :=
 (Res.bind (Res.bind (Res.bind (b2 subI (Res.bind (.ok a_rows) lenG) (.ok (1))) rng1R) (qnR false fun x1 => (b2 (fun x y => cmpD .lt ((eP (cA D.int (oA D.int))) x) ((eP (cA D.int (oA D.int))) y)) (b2 atR (.ok a_rows) (.ok x1)) (b2 atR (.ok a_rows) (b2 addI (.ok x1) (.ok (1))))))) fun x => .ok x)
theorem l_rises (a_rows : (List (Int × Int))) : Rf D.bl (φ_rises [(eT (eP (cA D.int (oA D.int)))) a_rows]) (t_rises a_rows) := by
  unfold φ_rises
  refine run_def ?_
  unfold b_rises t_rises
  show JB _ _ _ _ [.pl ((eT (eP (cA D.int (oA D.int)))) a_rows), .un] _ _
  exact jb_ret (ρ1 := [.pl ((eT (eP (cA D.int (oA D.int)))) a_rows), .un]) BJ_ok rfl (L_gen (ea := D.int) (R := fun x1 => [.pl ((eT (eP (cA D.int (oA D.int)))) a_rows), .pl (D.int x1)]) (I_r1 (L_bin O_sub (L_bi1 B_lenT (V (eT (eP (cA D.int (oA D.int)))) a_rows rfl)) (K_int (1)))) (fun _ => rfl) (fun x1 => (L_cmp (f := (fun x y => cmpD .lt ((eP (cA D.int (oA D.int))) x) ((eP (cA D.int (oA D.int))) y))) C_W (L_ixT (V (eT (eP (cA D.int (oA D.int)))) a_rows rfl) (V D.int x1 rfl)) (L_ixT (V (eT (eP (cA D.int (oA D.int)))) a_rows rfl) (L_bin O_add (V D.int x1 rfl) (K_int (1))))))) (fun _ => BJ_rt)
def t_is_pair (a_pair : D) : Res Bool :=
 (Res.bind (andR (Res.bind (.ok a_pair) fun x => isiD .tup x) (andR (b2 eqG (Res.bind (.ok a_pair) fun x => (bfnD .len [x]).bind (castR D.int)) (.ok (2))) (andR (Res.bind (b2 ixD (.ok a_pair) (Res.bind (.ok (0)) fun x => .ok (D.int x))) fun p => t_is_number p) (Res.bind (b2 ixD (.ok a_pair) (Res.bind (.ok (1)) fun x => .ok (D.int x))) fun p => t_is_number p)))) fun x => .ok x)
theorem l_is_pair (a_pair : D) : Rf D.bl (φ_is_pair [eX a_pair]) (t_is_pair a_pair) := by
  unfold φ_is_pair
  refine run_def ?_
  unfold b_is_pair t_is_pair
  show JB _ _ _ _ [.pl (eX a_pair)] _ _
  exact jb_ret (ρ1 := [.pl (eX a_pair)]) BJ_ok rfl (L_and (L_isi (f := fun x => isiD .tup x) S_isiX (V eX a_pair rfl)) (L_and (L_cmp (C_eq (by decide)) (L_bi1 (g := fun x => (bfnD .len [x]).bind (castR D.int)) B_XI (V eX a_pair rfl)) (K_int (2))) (L_and (L_call (f := (oA eX)) (t := fun p => t_is_number p) φ_is_number rfl (fun p => l_is_number p) (A_one (L_ixX (V eX a_pair rfl) (L_up (K_int (0)))))) (L_call (f := (oA eX)) (t := fun p => t_is_number p) φ_is_number rfl (fun p => l_is_number p) (A_one (L_ixX (V eX a_pair rfl) (L_up (K_int (1))))))))) (fun _ => BJ_rt)
def t_is_leaps (a_leaps : D) : Res Bool :=
 (iteR (orR (notR (Res.bind (.ok a_leaps) fun x => isiD .tup x)) (orR (notR (Res.bind (Res.bind (.ok a_leaps) fun d => (itemsD d).bind (castsR eX)) (qnR false fun x1 => (Res.bind (.ok x1) fun p => t_is_pair p)))) (notR (Res.bind (Res.bind (.ok a_leaps) (castR (eT (eP (cA D.int (oA D.int)))))) fun p => t_rises p))))
 (Res.bind (.ok false) fun x => .ok x)
 (Res.bind (castR (eT (eP (cA D.int (oA D.int)))) (eX a_leaps)) fun v2 =>
 (Res.bind (Res.bind (.ok v2) (qnR false fun x3 => (andR (chnR ltI leI (.ok (0)) (Res.bind (Res.bind (.ok x3) fun p => .ok p.1) absI) (.ok (14))) (b2 gtI (b2 mulI (Res.bind (.ok x3) fun p => .ok p.1) (Res.bind (.ok x3) fun p => .ok p.2)) (.ok (0)))))) fun x => .ok x)))
theorem l_is_leaps (a_leaps : D) : Rf D.bl (φ_is_leaps [eX a_leaps]) (t_is_leaps a_leaps) := by
  unfold φ_is_leaps
  refine run_def ?_
  unfold b_is_leaps t_is_leaps
  show JB _ _ _ _ [.pl (eX a_leaps), .un] _ _
  refine jb_ifs (ρ1 := [.pl (eX a_leaps), .un]) BJ_ok rfl (L_or (L_nt (L_isi (f := fun x => isiD .tup x) S_isiX (V eX a_leaps rfl))) (L_or (L_nt (L_gen (ea := eX) (R := fun x1 => [.pl (eX a_leaps), .pl (eX x1)]) (I_X (V eX a_leaps rfl)) (fun _ => rfl) (fun x1 => (L_call (f := (oA eX)) (t := fun p => t_is_pair p) φ_is_pair rfl (fun p => l_is_pair p) (A_one (V eX x1 rfl)))))) (L_nt (L_call (f := (oA (eT (eP (cA D.int (oA D.int)))))) (t := fun p => t_rises p) φ_rises rfl (fun p => l_rises p) (A_one (L_down (V eX a_leaps rfl))))))) ?_ ?_
  · exact jb_ret (ρ1 := [.pl (eX a_leaps), .un]) BJ_ok rfl (K_bl false) (fun _ => BJ_rt)
  · refine jb_nilr ?_
    refine jb_narrow (en := (eT (eP (cA D.int (oA D.int))))) (i := 0) (R1 := fun v2 => [.pl ((eT (eP (cA D.int (oA D.int)))) v2), .un]) BJ_ok rfl (fun _ => rfl) fun v2 => ?_
    show JB _ _ _ _ [.pl ((eT (eP (cA D.int (oA D.int)))) v2), .un] _ _
    exact jb_ret (ρ1 := [.pl ((eT (eP (cA D.int (oA D.int)))) v2), .un]) BJ_ok rfl (L_gen (ea := (eP (cA D.int (oA D.int)))) (R := fun x3 => [.pl ((eT (eP (cA D.int (oA D.int)))) v2), .pl ((eP (cA D.int (oA D.int))) x3)]) (I_T (V (eT (eP (cA D.int (oA D.int)))) v2 rfl)) (fun _ => rfl) (fun x3 => (L_and (L_chn I_lt I_le (K_int (0)) (L_bi1 B_abs (L_ixP (e := D.int) (acc := fun p => p.1) (fun _ => rfl) (V (eP (cA D.int (oA D.int))) x3 rfl))) (K_gint (14))) (L_cmp C_gt (L_bin O_mul (L_ixP (e := D.int) (acc := fun p => p.1) (fun _ => rfl) (V (eP (cA D.int (oA D.int))) x3 rfl)) (L_ixP (e := D.int) (acc := fun p => p.2) (fun _ => rfl) (V (eP (cA D.int (oA D.int))) x3 rfl))) (K_int (0)))))) (fun _ => BJ_rt)
def t_is_intervals (a_rows : D) : Res Bool :=
 (iteR (orR (notR (Res.bind (.ok a_rows) fun x => isiD .tup x)) (orR (notR (Res.bind (Res.bind (.ok a_rows) fun d => (itemsD d).bind (castsR eX)) (qnR false fun x1 => (Res.bind (.ok x1) fun p => t_is_pair p)))) (notR (Res.bind (Res.bind (.ok a_rows) (castR (eT (eP (cA D.int (oA D.int)))))) fun p => t_rises p))))
 (Res.bind (.ok false) fun x => .ok x)
 (Res.bind (castR (eT (eP (cA D.int (oA D.int)))) (eX a_rows)) fun v2 =>
 (Res.bind (Res.bind (.ok v2) (qnR false fun x3 => (andR (chnR leI leI (.ok (0)) (Res.bind (.ok x3) fun p => .ok p.1) (.ok (6))) (chnR leI leI (.ok (0)) (Res.bind (.ok x3) fun p => .ok p.2) (.ok (11)))))) fun x => .ok x)))
theorem l_is_intervals (a_rows : D) : Rf D.bl (φ_is_intervals [eX a_rows]) (t_is_intervals a_rows) := by
  unfold φ_is_intervals
  refine run_def ?_
  unfold b_is_intervals t_is_intervals
  show JB _ _ _ _ [.pl (eX a_rows), .un] _ _
  refine jb_ifs (ρ1 := [.pl (eX a_rows), .un]) BJ_ok rfl (L_or (L_nt (L_isi (f := fun x => isiD .tup x) S_isiX (V eX a_rows rfl))) (L_or (L_nt (L_gen (ea := eX) (R := fun x1 => [.pl (eX a_rows), .pl (eX x1)]) (I_X (V eX a_rows rfl)) (fun _ => rfl) (fun x1 => (L_call (f := (oA eX)) (t := fun p => t_is_pair p) φ_is_pair rfl (fun p => l_is_pair p) (A_one (V eX x1 rfl)))))) (L_nt (L_call (f := (oA (eT (eP (cA D.int (oA D.int)))))) (t := fun p => t_rises p) φ_rises rfl (fun p => l_rises p) (A_one (L_down (V eX a_rows rfl))))))) ?_ ?_
  · exact jb_ret (ρ1 := [.pl (eX a_rows), .un]) BJ_ok rfl (K_bl false) (fun _ => BJ_rt)
  · refine jb_nilr ?_
    refine jb_narrow (en := (eT (eP (cA D.int (oA D.int))))) (i := 0) (R1 := fun v2 => [.pl ((eT (eP (cA D.int (oA D.int)))) v2), .un]) BJ_ok rfl (fun _ => rfl) fun v2 => ?_
    show JB _ _ _ _ [.pl ((eT (eP (cA D.int (oA D.int)))) v2), .un] _ _
    exact jb_ret (ρ1 := [.pl ((eT (eP (cA D.int (oA D.int)))) v2), .un]) BJ_ok rfl (L_gen (ea := (eP (cA D.int (oA D.int)))) (R := fun x3 => [.pl ((eT (eP (cA D.int (oA D.int)))) v2), .pl ((eP (cA D.int (oA D.int))) x3)]) (I_T (V (eT (eP (cA D.int (oA D.int)))) v2 rfl)) (fun _ => rfl) (fun x3 => (L_and (L_chn I_le I_le (K_int (0)) (L_ixP (e := D.int) (acc := fun p => p.1) (fun _ => rfl) (V (eP (cA D.int (oA D.int))) x3 rfl)) (K_int (6))) (L_chn I_le I_le (K_int (0)) (L_ixP (e := D.int) (acc := fun p => p.2) (fun _ => rfl) (V (eP (cA D.int (oA D.int))) x3 rfl)) (K_int (11)))))) (fun _ => BJ_rt)
def t_Book_init (a_mode : D) (a_low : D) (a_high : D) (a_leaps : D) (a_sweet : D) (a_perfect : D) (a_turn : D) : Res Bk :=
 (iteR (notR (Res.bind (.ok a_mode) fun p => t_is_mode p))
 (.exc 0)
 (Res.bind (castR (eT D.int) (eX a_mode)) fun v1 =>
 (iteR (orR (notR (Res.bind (.ok a_low) fun p => t_is_number p)) (orR (notR (Res.bind (.ok a_high) fun p => t_is_number p)) (orR (notR (chnR leI leI (Res.bind (.ok a_low) (castR D.int)) (Res.bind (.ok a_high) (castR D.int)) (Res.bind (b2 (binD .add) (.ok a_low) (Res.bind (.ok (24)) fun x => .ok (D.int x))) (castR D.int)))) (b2 gtI (Res.bind (Res.bind (.ok a_low) (castR D.int)) absI) (.ok (99))))))
 (.exc 0)
 (Res.bind (castR D.int (eX a_low)) fun v2 =>
 (Res.bind (castR D.int (eX a_high)) fun v3 =>
 (iteR (notR (Res.bind (.ok a_leaps) fun p => t_is_leaps p))
 (.exc 0)
 (Res.bind (castR (eT (eP (cA D.int (oA D.int)))) (eX a_leaps)) fun v4 =>
 (iteR (orR (notR (Res.bind (.ok a_sweet) fun p => t_is_intervals p)) (orR (notR (Res.bind (.ok a_perfect) fun p => t_is_intervals p)) (notR (Res.bind (Res.bind (.ok a_perfect) fun d => (itemsD d).bind (castsR eX)) (qnR false fun x5 => (b2 (fun x y => cmpD .isin (eX x) (eX y)) (.ok x5) (.ok a_sweet)))))))
 (.exc 0)
 (Res.bind (castR (eT (eP (cA D.int (oA D.int)))) (eX a_sweet)) fun v6 =>
 (Res.bind (castR (eT (eP (cA D.int (oA D.int)))) (eX a_perfect)) fun v7 =>
 (iteR (andR (b2 (fun x y => cmpD .isnot (eX x) (eUn y)) (.ok a_turn) (.ok ())) (orR (notR (Res.bind (.ok a_turn) fun p => t_is_number p)) (b2 ltI (Res.bind (.ok a_turn) (castR D.int)) (.ok (2)))))
 (.exc 0)
 (Res.bind (castR (eO D.int) (eX a_turn)) fun v8 =>
 (Res.bind (.ok v1) fun v9 =>
 (Res.bind (.ok v2) fun v10 =>
 (Res.bind (.ok v3) fun v11 =>
 (Res.bind (.ok v4) fun v12 =>
 (Res.bind (.ok v6) fun v13 =>
 (Res.bind (.ok v7) fun v14 =>
 (Res.bind (.ok v8) fun v15 =>
 (.ok (Bk.mk (v9) (v10) (v11) (v12) (v13) (v14) (v15))))))))))))))))))))))
theorem l_Book_init (a_mode : D) (a_low : D) (a_high : D) (a_leaps : D) (a_sweet : D) (a_perfect : D) (a_turn : D) : Rf Bk.fs (φ_Book_init [eX a_mode, eX a_low, eX a_high, eX a_leaps, eX a_sweet, eX a_perfect, eX a_turn]) (t_Book_init a_mode a_low a_high a_leaps a_sweet a_perfect a_turn) := by
  unfold φ_Book_init
  refine run_init ?_
  unfold b_Book_init t_Book_init
  show JB _ _ _ _ [.mk (.obj 0 []), .pl (eX a_mode), .pl (eX a_low), .pl (eX a_high), .pl (eX a_leaps), .pl (eX a_sweet), .pl (eX a_perfect), .pl (eX a_turn), .un] _ _
  refine jb_ifs (ρ1 := [.mk (.obj 0 []), .pl (eX a_mode), .pl (eX a_low), .pl (eX a_high), .pl (eX a_leaps), .pl (eX a_sweet), .pl (eX a_perfect), .pl (eX a_turn), .un]) IJ_ok rfl (L_nt (L_call (f := (oA eX)) (t := fun p => t_is_mode p) φ_is_mode rfl (fun p => l_is_mode p) (A_one (V eX a_mode rfl)))) ?_ ?_
  · exact jb_raise IJ_ok
  · refine jb_nilr ?_
    refine jb_narrow (en := (eT D.int)) (i := 1) (R1 := fun v1 => [.mk (.obj 0 []), .pl ((eT D.int) v1), .pl (eX a_low), .pl (eX a_high), .pl (eX a_leaps), .pl (eX a_sweet), .pl (eX a_perfect), .pl (eX a_turn), .un]) IJ_ok rfl (fun _ => rfl) fun v1 => ?_
    show JB _ _ _ _ [.mk (.obj 0 []), .pl ((eT D.int) v1), .pl (eX a_low), .pl (eX a_high), .pl (eX a_leaps), .pl (eX a_sweet), .pl (eX a_perfect), .pl (eX a_turn), .un] _ _
    refine jb_ifs (ρ1 := [.mk (.obj 0 []), .pl ((eT D.int) v1), .pl (eX a_low), .pl (eX a_high), .pl (eX a_leaps), .pl (eX a_sweet), .pl (eX a_perfect), .pl (eX a_turn), .un]) IJ_ok rfl (L_or (L_nt (L_call (f := (oA eX)) (t := fun p => t_is_number p) φ_is_number rfl (fun p => l_is_number p) (A_one (V eX a_low rfl)))) (L_or (L_nt (L_call (f := (oA eX)) (t := fun p => t_is_number p) φ_is_number rfl (fun p => l_is_number p) (A_one (V eX a_high rfl)))) (L_or (L_nt (L_chn I_le I_le (L_down (V eX a_low rfl)) (L_down (V eX a_high rfl)) (L_down (L_bin O_X (V eX a_low rfl) (L_up (K_gint (24))))))) (L_cmp C_gt (L_bi1 B_abs (L_down (V eX a_low rfl))) (K_int (99)))))) ?_ ?_
    · exact jb_raise IJ_ok
    · refine jb_nilr ?_
      refine jb_narrow (en := D.int) (i := 2) (R1 := fun v2 => [.mk (.obj 0 []), .pl ((eT D.int) v1), .pl (D.int v2), .pl (eX a_high), .pl (eX a_leaps), .pl (eX a_sweet), .pl (eX a_perfect), .pl (eX a_turn), .un]) IJ_ok rfl (fun _ => rfl) fun v2 => ?_
      show JB _ _ _ _ [.mk (.obj 0 []), .pl ((eT D.int) v1), .pl (D.int v2), .pl (eX a_high), .pl (eX a_leaps), .pl (eX a_sweet), .pl (eX a_perfect), .pl (eX a_turn), .un] _ _
      refine jb_narrow (en := D.int) (i := 3) (R1 := fun v3 => [.mk (.obj 0 []), .pl ((eT D.int) v1), .pl (D.int v2), .pl (D.int v3), .pl (eX a_leaps), .pl (eX a_sweet), .pl (eX a_perfect), .pl (eX a_turn), .un]) IJ_ok rfl (fun _ => rfl) fun v3 => ?_
      show JB _ _ _ _ [.mk (.obj 0 []), .pl ((eT D.int) v1), .pl (D.int v2), .pl (D.int v3), .pl (eX a_leaps), .pl (eX a_sweet), .pl (eX a_perfect), .pl (eX a_turn), .un] _ _
      refine jb_ifs (ρ1 := [.mk (.obj 0 []), .pl ((eT D.int) v1), .pl (D.int v2), .pl (D.int v3), .pl (eX a_leaps), .pl (eX a_sweet), .pl (eX a_perfect), .pl (eX a_turn), .un]) IJ_ok rfl (L_nt (L_call (f := (oA eX)) (t := fun p => t_is_leaps p) φ_is_leaps rfl (fun p => l_is_leaps p) (A_one (V eX a_leaps rfl)))) ?_ ?_
      · exact jb_raise IJ_ok
      · refine jb_nilr ?_
        refine jb_narrow (en := (eT (eP (cA D.int (oA D.int))))) (i := 4) (R1 := fun v4 => [.mk (.obj 0 []), .pl ((eT D.int) v1), .pl (D.int v2), .pl (D.int v3), .pl ((eT (eP (cA D.int (oA D.int)))) v4), .pl (eX a_sweet), .pl (eX a_perfect), .pl (eX a_turn), .un]) IJ_ok rfl (fun _ => rfl) fun v4 => ?_
        show JB _ _ _ _ [.mk (.obj 0 []), .pl ((eT D.int) v1), .pl (D.int v2), .pl (D.int v3), .pl ((eT (eP (cA D.int (oA D.int)))) v4), .pl (eX a_sweet), .pl (eX a_perfect), .pl (eX a_turn), .un] _ _
        refine jb_ifs (ρ1 := [.mk (.obj 0 []), .pl ((eT D.int) v1), .pl (D.int v2), .pl (D.int v3), .pl ((eT (eP (cA D.int (oA D.int)))) v4), .pl (eX a_sweet), .pl (eX a_perfect), .pl (eX a_turn), .un]) IJ_ok rfl (L_or (L_nt (L_call (f := (oA eX)) (t := fun p => t_is_intervals p) φ_is_intervals rfl (fun p => l_is_intervals p) (A_one (V eX a_sweet rfl)))) (L_or (L_nt (L_call (f := (oA eX)) (t := fun p => t_is_intervals p) φ_is_intervals rfl (fun p => l_is_intervals p) (A_one (V eX a_perfect rfl)))) (L_nt (L_gen (ea := eX) (R := fun x5 => [.mk (.obj 0 []), .pl ((eT D.int) v1), .pl (D.int v2), .pl (D.int v3), .pl ((eT (eP (cA D.int (oA D.int)))) v4), .pl (eX a_sweet), .pl (eX a_perfect), .pl (eX a_turn), .pl (eX x5)]) (I_X (V eX a_perfect rfl)) (fun _ => rfl) (fun x5 => (L_cmp (f := (fun x y => cmpD .isin (eX x) (eX y))) C_W (V eX x5 rfl) (V eX a_sweet rfl))))))) ?_ ?_
        · exact jb_raise IJ_ok
        · refine jb_nilr ?_
          refine jb_narrow (en := (eT (eP (cA D.int (oA D.int))))) (i := 5) (R1 := fun v6 => [.mk (.obj 0 []), .pl ((eT D.int) v1), .pl (D.int v2), .pl (D.int v3), .pl ((eT (eP (cA D.int (oA D.int)))) v4), .pl ((eT (eP (cA D.int (oA D.int)))) v6), .pl (eX a_perfect), .pl (eX a_turn), .un]) IJ_ok rfl (fun _ => rfl) fun v6 => ?_
          show JB _ _ _ _ [.mk (.obj 0 []), .pl ((eT D.int) v1), .pl (D.int v2), .pl (D.int v3), .pl ((eT (eP (cA D.int (oA D.int)))) v4), .pl ((eT (eP (cA D.int (oA D.int)))) v6), .pl (eX a_perfect), .pl (eX a_turn), .un] _ _
          refine jb_narrow (en := (eT (eP (cA D.int (oA D.int))))) (i := 6) (R1 := fun v7 => [.mk (.obj 0 []), .pl ((eT D.int) v1), .pl (D.int v2), .pl (D.int v3), .pl ((eT (eP (cA D.int (oA D.int)))) v4), .pl ((eT (eP (cA D.int (oA D.int)))) v6), .pl ((eT (eP (cA D.int (oA D.int)))) v7), .pl (eX a_turn), .un]) IJ_ok rfl (fun _ => rfl) fun v7 => ?_
          show JB _ _ _ _ [.mk (.obj 0 []), .pl ((eT D.int) v1), .pl (D.int v2), .pl (D.int v3), .pl ((eT (eP (cA D.int (oA D.int)))) v4), .pl ((eT (eP (cA D.int (oA D.int)))) v6), .pl ((eT (eP (cA D.int (oA D.int)))) v7), .pl (eX a_turn), .un] _ _
          refine jb_ifs (ρ1 := [.mk (.obj 0 []), .pl ((eT D.int) v1), .pl (D.int v2), .pl (D.int v3), .pl ((eT (eP (cA D.int (oA D.int)))) v4), .pl ((eT (eP (cA D.int (oA D.int)))) v6), .pl ((eT (eP (cA D.int (oA D.int)))) v7), .pl (eX a_turn), .un]) IJ_ok rfl (L_and (L_cmp (f := (fun x y => cmpD .isnot (eX x) (eUn y))) C_W (V eX a_turn rfl) K_non) (L_or (L_nt (L_call (f := (oA eX)) (t := fun p => t_is_number p) φ_is_number rfl (fun p => l_is_number p) (A_one (V eX a_turn rfl)))) (L_cmp C_lt (L_down (V eX a_turn rfl)) (K_int (2))))) ?_ ?_
          · exact jb_raise IJ_ok
          · refine jb_nilr ?_
            refine jb_narrow (en := (eO D.int)) (i := 7) (R1 := fun v8 => [.mk (.obj 0 []), .pl ((eT D.int) v1), .pl (D.int v2), .pl (D.int v3), .pl ((eT (eP (cA D.int (oA D.int)))) v4), .pl ((eT (eP (cA D.int (oA D.int)))) v6), .pl ((eT (eP (cA D.int (oA D.int)))) v7), .pl ((eO D.int) v8), .un]) IJ_ok rfl (fun _ => rfl) fun v8 => ?_
            show JB _ _ _ _ [.mk (.obj 0 []), .pl ((eT D.int) v1), .pl (D.int v2), .pl (D.int v3), .pl ((eT (eP (cA D.int (oA D.int)))) v4), .pl ((eT (eP (cA D.int (oA D.int)))) v6), .pl ((eT (eP (cA D.int (oA D.int)))) v7), .pl ((eO D.int) v8), .un] _ _
            refine jb_fld (ρ1 := [.mk (.obj 0 []), .pl ((eT D.int) v1), .pl (D.int v2), .pl (D.int v3), .pl ((eT (eP (cA D.int (oA D.int)))) v4), .pl ((eT (eP (cA D.int (oA D.int)))) v6), .pl ((eT (eP (cA D.int (oA D.int)))) v7), .pl ((eO D.int) v8), .un]) IJ_ok rfl rfl rfl (V (eT D.int) v1 rfl) fun v9 => ?_
            show JB _ _ _ _ [.mk (.obj 0 [(eT D.int) v9]), .pl ((eT D.int) v1), .pl (D.int v2), .pl (D.int v3), .pl ((eT (eP (cA D.int (oA D.int)))) v4), .pl ((eT (eP (cA D.int (oA D.int)))) v6), .pl ((eT (eP (cA D.int (oA D.int)))) v7), .pl ((eO D.int) v8), .un] _ _
            refine jb_fld (ρ1 := [.mk (.obj 0 [(eT D.int) v9]), .pl ((eT D.int) v1), .pl (D.int v2), .pl (D.int v3), .pl ((eT (eP (cA D.int (oA D.int)))) v4), .pl ((eT (eP (cA D.int (oA D.int)))) v6), .pl ((eT (eP (cA D.int (oA D.int)))) v7), .pl ((eO D.int) v8), .un]) IJ_ok rfl rfl rfl (V D.int v2 rfl) fun v10 => ?_
            show JB _ _ _ _ [.mk (.obj 0 [(eT D.int) v9, D.int v10]), .pl ((eT D.int) v1), .pl (D.int v2), .pl (D.int v3), .pl ((eT (eP (cA D.int (oA D.int)))) v4), .pl ((eT (eP (cA D.int (oA D.int)))) v6), .pl ((eT (eP (cA D.int (oA D.int)))) v7), .pl ((eO D.int) v8), .un] _ _
            refine jb_fld (ρ1 := [.mk (.obj 0 [(eT D.int) v9, D.int v10]), .pl ((eT D.int) v1), .pl (D.int v2), .pl (D.int v3), .pl ((eT (eP (cA D.int (oA D.int)))) v4), .pl ((eT (eP (cA D.int (oA D.int)))) v6), .pl ((eT (eP (cA D.int (oA D.int)))) v7), .pl ((eO D.int) v8), .un]) IJ_ok rfl rfl rfl (V D.int v3 rfl) fun v11 => ?_
            show JB _ _ _ _ [.mk (.obj 0 [(eT D.int) v9, D.int v10, D.int v11]), .pl ((eT D.int) v1), .pl (D.int v2), .pl (D.int v3), .pl ((eT (eP (cA D.int (oA D.int)))) v4), .pl ((eT (eP (cA D.int (oA D.int)))) v6), .pl ((eT (eP (cA D.int (oA D.int)))) v7), .pl ((eO D.int) v8), .un] _ _
            refine jb_fld (ρ1 := [.mk (.obj 0 [(eT D.int) v9, D.int v10, D.int v11]), .pl ((eT D.int) v1), .pl (D.int v2), .pl (D.int v3), .pl ((eT (eP (cA D.int (oA D.int)))) v4), .pl ((eT (eP (cA D.int (oA D.int)))) v6), .pl ((eT (eP (cA D.int (oA D.int)))) v7), .pl ((eO D.int) v8), .un]) IJ_ok rfl rfl rfl (V (eT (eP (cA D.int (oA D.int)))) v4 rfl) fun v12 => ?_
            show JB _ _ _ _ [.mk (.obj 0 [(eT D.int) v9, D.int v10, D.int v11, (eT (eP (cA D.int (oA D.int)))) v12]), .pl ((eT D.int) v1), .pl (D.int v2), .pl (D.int v3), .pl ((eT (eP (cA D.int (oA D.int)))) v4), .pl ((eT (eP (cA D.int (oA D.int)))) v6), .pl ((eT (eP (cA D.int (oA D.int)))) v7), .pl ((eO D.int) v8), .un] _ _
            refine jb_fld (ρ1 := [.mk (.obj 0 [(eT D.int) v9, D.int v10, D.int v11, (eT (eP (cA D.int (oA D.int)))) v12]), .pl ((eT D.int) v1), .pl (D.int v2), .pl (D.int v3), .pl ((eT (eP (cA D.int (oA D.int)))) v4), .pl ((eT (eP (cA D.int (oA D.int)))) v6), .pl ((eT (eP (cA D.int (oA D.int)))) v7), .pl ((eO D.int) v8), .un]) IJ_ok rfl rfl rfl (V (eT (eP (cA D.int (oA D.int)))) v6 rfl) fun v13 => ?_
            show JB _ _ _ _ [.mk (.obj 0 [(eT D.int) v9, D.int v10, D.int v11, (eT (eP (cA D.int (oA D.int)))) v12, (eT (eP (cA D.int (oA D.int)))) v13]), .pl ((eT D.int) v1), .pl (D.int v2), .pl (D.int v3), .pl ((eT (eP (cA D.int (oA D.int)))) v4), .pl ((eT (eP (cA D.int (oA D.int)))) v6), .pl ((eT (eP (cA D.int (oA D.int)))) v7), .pl ((eO D.int) v8), .un] _ _
            refine jb_fld (ρ1 := [.mk (.obj 0 [(eT D.int) v9, D.int v10, D.int v11, (eT (eP (cA D.int (oA D.int)))) v12, (eT (eP (cA D.int (oA D.int)))) v13]), .pl ((eT D.int) v1), .pl (D.int v2), .pl (D.int v3), .pl ((eT (eP (cA D.int (oA D.int)))) v4), .pl ((eT (eP (cA D.int (oA D.int)))) v6), .pl ((eT (eP (cA D.int (oA D.int)))) v7), .pl ((eO D.int) v8), .un]) IJ_ok rfl rfl rfl (V (eT (eP (cA D.int (oA D.int)))) v7 rfl) fun v14 => ?_
            show JB _ _ _ _ [.mk (.obj 0 [(eT D.int) v9, D.int v10, D.int v11, (eT (eP (cA D.int (oA D.int)))) v12, (eT (eP (cA D.int (oA D.int)))) v13, (eT (eP (cA D.int (oA D.int)))) v14]), .pl ((eT D.int) v1), .pl (D.int v2), .pl (D.int v3), .pl ((eT (eP (cA D.int (oA D.int)))) v4), .pl ((eT (eP (cA D.int (oA D.int)))) v6), .pl ((eT (eP (cA D.int (oA D.int)))) v7), .pl ((eO D.int) v8), .un] _ _
            refine jb_fld (ρ1 := [.mk (.obj 0 [(eT D.int) v9, D.int v10, D.int v11, (eT (eP (cA D.int (oA D.int)))) v12, (eT (eP (cA D.int (oA D.int)))) v13, (eT (eP (cA D.int (oA D.int)))) v14]), .pl ((eT D.int) v1), .pl (D.int v2), .pl (D.int v3), .pl ((eT (eP (cA D.int (oA D.int)))) v4), .pl ((eT (eP (cA D.int (oA D.int)))) v6), .pl ((eT (eP (cA D.int (oA D.int)))) v7), .pl ((eO D.int) v8), .un]) IJ_ok rfl rfl rfl (V (eO D.int) v8 rfl) fun v15 => ?_
            show JB _ _ _ _ [.mk (.obj 0 [(eT D.int) v9, D.int v10, D.int v11, (eT (eP (cA D.int (oA D.int)))) v12, (eT (eP (cA D.int (oA D.int)))) v13, (eT (eP (cA D.int (oA D.int)))) v14, (eO D.int) v15]), .pl ((eT D.int) v1), .pl (D.int v2), .pl (D.int v3), .pl ((eT (eP (cA D.int (oA D.int)))) v4), .pl ((eT (eP (cA D.int (oA D.int)))) v6), .pl ((eT (eP (cA D.int (oA D.int)))) v7), .pl ((eO D.int) v8), .un] _ _
            exact jb_nil (Rf.of rfl)
def t__law_made (a_b : D) : Res Bk :=
 (Res.bind (b2 (fun x y => t_Book_init (x.1) (x.2.1) (x.2.2) (y.1) (y.2.1) (y.2.2.1) (y.2.2.2)) (Res.bind (b2 ixD (.ok a_b) (Res.bind (.ok (0)) fun x => .ok (D.int x))) fun x => Res.bind (Res.bind (b2 ixD (.ok a_b) (Res.bind (.ok (1)) fun x => .ok (D.int x))) fun x => Res.bind (b2 ixD (.ok a_b) (Res.bind (.ok (2)) fun x => .ok (D.int x))) fun y => .ok (x, y)) fun y => .ok (x, y)) (Res.bind (b2 ixD (.ok a_b) (Res.bind (.ok (3)) fun x => .ok (D.int x))) fun x => Res.bind (Res.bind (b2 ixD (.ok a_b) (Res.bind (.ok (4)) fun x => .ok (D.int x))) fun x => Res.bind (Res.bind (b2 ixD (.ok a_b) (Res.bind (.ok (5)) fun x => .ok (D.int x))) fun x => Res.bind (b2 ixD (.ok a_b) (Res.bind (.ok (6)) fun x => .ok (D.int x))) fun y => .ok (x, y)) fun y => .ok (x, y)) fun y => .ok (x, y))) fun x => .ok x)
theorem l__law_made (a_b : D) : Rf (eC 0 Bk.fs) (φ__law_made [eX a_b]) (t__law_made a_b) := by
  unfold φ__law_made
  refine run_def ?_
  unfold b__law_made t__law_made
  show JB _ _ _ _ [.pl (eX a_b)] _ _
  exact jb_ret (ρ1 := [.pl (eX a_b)]) BJ_ok rfl (L_make (f := (cA eX (cA eX (oA eX)))) (g := (cA eX (cA eX (cA eX (oA eX))))) (fl := Bk.fs) (t := fun x y => t_Book_init (x.1) (x.2.1) (x.2.2) (y.1) (y.2.1) (y.2.2.1) (y.2.2.2)) φ_Book_init [] rfl rfl (fun x y => l_Book_init (x.1) (x.2.1) (x.2.2) (y.1) (y.2.1) (y.2.2.1) (y.2.2.2)) (A_cons (L_ixX (V eX a_b rfl) (L_up (K_int (0)))) (A_cons (L_ixX (V eX a_b rfl) (L_up (K_int (1)))) (A_one (L_ixX (V eX a_b rfl) (L_up (K_int (2))))))) (A_cons (L_ixX (V eX a_b rfl) (L_up (K_int (3)))) (A_cons (L_ixX (V eX a_b rfl) (L_up (K_int (4)))) (A_cons (L_ixX (V eX a_b rfl) (L_up (K_int (5)))) (A_one (L_ixX (V eX a_b rfl) (L_up (K_int (6))))))))) (fun _ => BJ_rt)
def t_Book_notes (a_self : Bk) : Res (List Int) :=
 (Res.bind (Res.bind (b2 rng2R (Res.bind (.ok a_self) fun p => .ok p.low) (b2 addI (Res.bind (.ok a_self) fun p => .ok p.high) (.ok (1)))) szR) fun x => .ok x)
theorem l_Book_notes (a_self : Bk) : Rf (eT D.int) (φ_Book_notes [(eC 0 Bk.fs) a_self]) (t_Book_notes a_self) := by
  unfold φ_Book_notes
  refine run_def ?_
  unfold b_Book_notes t_Book_notes
  show JB _ _ _ _ [.pl ((eC 0 Bk.fs) a_self)] _ _
  exact jb_ret (ρ1 := [.pl ((eC 0 Bk.fs) a_self)]) BJ_ok rfl (L_tupR (L_fld (e := D.int) (acc := fun p => p.low) (fun _ => rfl) (V (eC 0 Bk.fs) a_self rfl)) (L_bin O_add (L_fld (e := D.int) (acc := fun p => p.high) (fun _ => rfl) (V (eC 0 Bk.fs) a_self rfl)) (K_int (1)))) (fun _ => BJ_rt)
def t_law (a_script : D) : Res Bool :=
 (Res.bind (Res.bind (Res.bind (Res.bind (Res.bind (Res.bind (.ok a_script) fun x => Res.bind (.ok (0)) fun y => .ok (x, y)) fun p => t__law_cell p.1 p.2) fun p => t__law_book p) fun x => Res.bind (Res.bind (Res.bind (Res.bind (.ok a_script) fun x => Res.bind (.ok (1)) fun y => .ok (x, y)) fun p => t__law_cell p.1 p.2) absI) fun y => .ok (x, y)) fun p => t__law_turned p.1 p.2) fun v1 =>
 (tryR 1 ((Res.bind (Res.bind (.ok v1.1) fun p => t__law_made p) fun v2 =>
 (.ok (.inl v2))) : Res (Bk ⊕ Bool)) (fun s3 =>
 (Res.bind (Res.bind (Res.bind (.ok s3) fun p => .ok p.mode) fun x => Res.bind (Res.bind (Res.bind (.ok s3) fun p => .ok p.low) fun x => Res.bind (Res.bind (Res.bind (.ok s3) fun p => .ok p.high) fun x => Res.bind (Res.bind (Res.bind (.ok s3) fun p => .ok p.leaps) fun x => Res.bind (Res.bind (Res.bind (.ok s3) fun p => .ok p.sweet) fun x => Res.bind (Res.bind (Res.bind (.ok s3) fun p => .ok p.perfect) fun x => Res.bind (Res.bind (.ok s3) fun p => .ok p.turn) fun y => .ok (x, y)) fun y => .ok (x, y)) fun y => .ok (x, y)) fun y => .ok (x, y)) fun y => .ok (x, y)) fun y => .ok (x, y)) fun v4 =>
 (Res.bind (andR (.ok v1.2) (andR (b2 (fun x y => cmpD .eq ((eP (cA (eT D.int) (cA D.int (cA D.int (cA (eT (eP (cA D.int (oA D.int)))) (cA (eT (eP (cA D.int (oA D.int)))) (cA (eT (eP (cA D.int (oA D.int)))) (oA (eO D.int))))))))) x) (eX y)) (.ok v4) (.ok v1.1)) (b2 eqG (b2 (fun x p => nxR (t_Book_notes x)) (.ok s3) (.ok ())) (Res.bind (b2 rng2R (Res.bind (b2 ixD (.ok v1.1) (Res.bind (.ok (1)) fun x => .ok (D.int x))) (castR D.int)) (Res.bind (b2 (binD .add) (b2 ixD (.ok v1.1) (Res.bind (.ok (2)) fun x => .ok (D.int x))) (Res.bind (.ok (1)) fun x => .ok (D.int x))) (castR D.int))) szR)))) fun x => .ok x))) (fun _ => .bad) fun c => if c = 0 then (Res.bind (notR (.ok v1.2)) fun x => .ok x) else .exc c))
theorem l_law (a_script : D) : Rf D.bl (φ_law [eX a_script]) (t_law a_script) := by
  unfold φ_law
  refine run_def ?_
  unfold b_law t_law
  show JB _ _ _ _ [.pl (eX a_script), .un, .un, .un, .un] _ _
  refine jb_asgT (ρ1 := [.pl (eX a_script), .un, .un, .un, .un]) (Rn := fun v1 => [.pl (eX a_script), .pl (eX v1.1), .pl (D.bl v1.2), .un, .un]) BJ_ok rfl (L_call (f := (cA (eP Bk.fs) (oA D.int))) (t := fun p => t__law_turned p.1 p.2) φ__law_turned rfl (fun p => l__law_turned p.1 p.2) (A_cons (L_call (f := (oA D.int)) (t := fun p => t__law_book p) φ__law_book rfl (fun p => l__law_book p) (A_one (L_call (f := (cA eX (oA D.int))) (t := fun p => t__law_cell p.1 p.2) φ__law_cell rfl (fun p => l__law_cell p.1 p.2) (A_cons (V eX a_script rfl) (A_one (K_int (0))))))) (A_one (L_bi1 B_abs (L_call (f := (cA eX (oA D.int))) (t := fun p => t__law_cell p.1 p.2) φ__law_cell rfl (fun p => l__law_cell p.1 p.2) (A_cons (V eX a_script rfl) (A_one (K_int (1))))))))) (fun _ => rfl) fun v1 => ?_
  refine jb_tr (E := (fun (s : Bk) (ρ : En) => ρ = [.pl (eX a_script), .pl (eX v1.1), .pl (D.bl v1.2), .pl ((eC 0 Bk.fs) s), .un])) (er := D.bl) (ρw := [.pl (eX a_script), .pl (eX v1.1), .pl (D.bl v1.2), .un, .un]) BJ_ok rfl ?_ (fun _ => (JOk.bad BJ_ok _)) ?_ ?_
  · refine jb_asg (ρ1 := [.pl (eX a_script), .pl (eX v1.1), .pl (D.bl v1.2), .un, .un]) SJ_ok rfl (L_call (f := (oA eX)) (t := fun p => t__law_made p) φ__law_made rfl (fun p => l__law_made p) (A_one (V eX v1.1 rfl))) fun v2 => ?_
    show JB _ _ _ _ [.pl (eX a_script), .pl (eX v1.1), .pl (D.bl v1.2), .pl ((eC 0 Bk.fs) v2), .un] _ _
    exact jb_nil (SJ_nx rfl)
  · rintro s3 _ rfl
    refine jb_asg (ρ1 := [.pl (eX a_script), .pl (eX v1.1), .pl (D.bl v1.2), .pl ((eC 0 Bk.fs) s3), .un]) BJ_ok rfl (L_tupP (fun _ => Nat.le_of_ble_eq_true rfl) (A_cons (L_fld (e := (eT D.int)) (acc := fun p => p.mode) (fun _ => rfl) (V (eC 0 Bk.fs) s3 rfl)) (A_cons (L_fld (e := D.int) (acc := fun p => p.low) (fun _ => rfl) (V (eC 0 Bk.fs) s3 rfl)) (A_cons (L_fld (e := D.int) (acc := fun p => p.high) (fun _ => rfl) (V (eC 0 Bk.fs) s3 rfl)) (A_cons (L_fld (e := (eT (eP (cA D.int (oA D.int))))) (acc := fun p => p.leaps) (fun _ => rfl) (V (eC 0 Bk.fs) s3 rfl)) (A_cons (L_fld (e := (eT (eP (cA D.int (oA D.int))))) (acc := fun p => p.sweet) (fun _ => rfl) (V (eC 0 Bk.fs) s3 rfl)) (A_cons (L_fld (e := (eT (eP (cA D.int (oA D.int))))) (acc := fun p => p.perfect) (fun _ => rfl) (V (eC 0 Bk.fs) s3 rfl)) (A_one (L_fld (e := (eO D.int)) (acc := fun p => p.turn) (fun _ => rfl) (V (eC 0 Bk.fs) s3 rfl)))))))))) fun v4 => ?_
    show JB _ _ _ _ [.pl (eX a_script), .pl (eX v1.1), .pl (D.bl v1.2), .pl ((eC 0 Bk.fs) s3), .pl ((eP (cA (eT D.int) (cA D.int (cA D.int (cA (eT (eP (cA D.int (oA D.int)))) (cA (eT (eP (cA D.int (oA D.int)))) (cA (eT (eP (cA D.int (oA D.int)))) (oA (eO D.int))))))))) v4)] _ _
    exact jb_ret (ρ1 := [.pl (eX a_script), .pl (eX v1.1), .pl (D.bl v1.2), .pl ((eC 0 Bk.fs) s3), .pl ((eP (cA (eT D.int) (cA D.int (cA D.int (cA (eT (eP (cA D.int (oA D.int)))) (cA (eT (eP (cA D.int (oA D.int)))) (cA (eT (eP (cA D.int (oA D.int)))) (oA (eO D.int))))))))) v4)]) BJ_ok rfl (L_and (V D.bl v1.2 rfl) (L_and (L_cmp (f := (fun x y => cmpD .eq ((eP (cA (eT D.int) (cA D.int (cA D.int (cA (eT (eP (cA D.int (oA D.int)))) (cA (eT (eP (cA D.int (oA D.int)))) (cA (eT (eP (cA D.int (oA D.int)))) (oA (eO D.int))))))))) x) (eX y))) C_W (V (eP (cA (eT D.int) (cA D.int (cA D.int (cA (eT (eP (cA D.int (oA D.int)))) (cA (eT (eP (cA D.int (oA D.int)))) (cA (eT (eP (cA D.int (oA D.int)))) (oA (eO D.int))))))))) v4 rfl) (V eX v1.1 rfl)) (L_cmp (C_eq (by decide)) (L_meth (eo := (eC 0 Bk.fs)) (f := zA) (t := fun x p => t_Book_notes x) φ_Book_notes rfl (fun x => isC_eC x) (fun x p => l_Book_notes x) (V (eC 0 Bk.fs) s3 rfl) A_nil) (L_tupR (L_down (L_ixX (V eX v1.1 rfl) (L_up (K_int (1))))) (L_down (L_bin O_X (L_ixX (V eX v1.1 rfl) (L_up (K_int (2)))) (L_up (K_int (1))))))))) (fun _ => BJ_rt)
  · refine hb_cons ?_ ?_
    · show JB _ _ _ _ [.pl (eX a_script), .pl (eX v1.1), .pl (D.bl v1.2), .un, .un] (Hb.sm _) _
      unfold Hb.sm
      exact jb_ret (ρ1 := [.pl (eX a_script), .pl (eX v1.1), .pl (D.bl v1.2), .un, .un]) BJ_ok rfl (L_nt (V D.bl v1.2 rfl)) (fun _ => BJ_rt)
    exact hb_nil BJ_ok
end
end K00
namespace K00
open PySem PySem.Spec PyProof.Rows L2 GxR PD
section
variable {b : Bk}
theorem ite_no {α : Type} {c : Res Bool} {a d o : Res α} (hc : c = .ok false) (h : d = o) : iteR c a d = o := by rw [hc]; exact h
theorem ite_yes {α : Type} {c : Res Bool} {a d o : Res α} (hc : c = .ok true) (h : a = o) : iteR c a d = o := by rw [hc]; exact h
abbrev eP2 : Int × Int → D := eP (cA D.int (oA D.int))
theorem isTupX {α : Type} {e : α → D} (xs : List α) : isiD .tup (eT e xs) = .ok true := by simp [isiD, D.isObj, isTy, eT]
theorem lenXX {α : Type} {e : α → D} (xs : List α) : (bfnD .len [eT e xs]).bind (castR D.int) = .ok (xs.length : Int) := by rw [show bfnD .len [eT e xs] = .ok (D.int (xs.length : Int)) from (B_lenT xs).get, Res.bind_ok, castR_e]
theorem itemsXX {α : Type} {e : α → D} (xs : List α) : (itemsD (eT e xs)).bind (castsR eX) = .ok (xs.map e) := by
  show castsR eX (xs.map e) = _
  have := castsR_e (e := eX) (xs := xs.map e)
  rwa [show (xs.map e).map eX = xs.map e from List.map_id' _] at this
theorem ni (i : Int) : t_is_number (.int i) = .ok true := by unfold t_is_number; rfl
theorem nb (v : Bool) : t_is_number (.bl v) = .ok false := by unfold t_is_number; cases v <;> rfl
theorem nn : t_is_number .non = .ok false := by unfold t_is_number; rfl
theorem nst (x : Str) : t_is_number (.str x) = .ok false := by unfold t_is_number; rfl
/-! modes -/
theorem mode_ok {m : List Int} (hm : m ∈ modes) : t_is_mode (eT D.int m) = .ok true := by
  simp only [modes, List.mem_cons, List.not_mem_nil, or_false] at hm
  rcases hm with e | e | e | e | e <;> subst e <;> (unfold t_is_mode; rfl)
theorem mode_6 {m : List Int} (hm : m ∈ modes) : t_is_mode (eT D.int (m.take 6)) = .ok false := by
  simp only [modes, List.mem_cons, List.not_mem_nil, or_false] at hm
  rcases hm with e | e | e | e | e <;> subst e <;> (unfold t_is_mode; rfl)
theorem mode_12 {m : List Int} (hm : m ∈ modes) : t_is_mode (eT D.int (m.take 6 ++ [12])) = .ok false := by
  simp only [modes, List.mem_cons, List.not_mem_nil, or_false] at hm
  rcases hm with e | e | e | e | e <;> subst e <;> (unfold t_is_mode; rfl)
theorem mode_tw {m : List Int} (hm : m ∈ modes) : t_is_mode (eT D.int (m.take 2 ++ [atZ m 1] ++ m.drop 3)) = .ok false := by
  simp only [modes, List.mem_cons, List.not_mem_nil, or_false] at hm
  rcases hm with e | e | e | e | e <;> subst e <;> (unfold t_is_mode; rfl)
theorem mode_1 {m : List Int} (hm : m ∈ modes) : t_is_mode (.tup (.int 1 :: (m.drop 1).map D.int)) = .ok false := by
  simp only [modes, List.mem_cons, List.not_mem_nil, or_false] at hm
  rcases hm with e | e | e | e | e <;> subst e <;> (unfold t_is_mode; rfl)
theorem mode_l {ds : List D} : t_is_mode (.lst ds) = .ok false := by unfold t_is_mode; rfl
/-! rows of pairs -/
theorem pair_ok (p : Int × Int) : t_is_pair (eP2 p) = .ok true := by
  have i0 : ixD (eP2 p) (D.int 0) = .ok (D.int p.1) := rfl
  have i1 : ixD (eP2 p) (D.int 1) = .ok (D.int p.2) := rfl
  have e1 : isiD .tup (eP2 p) = .ok true := rfl
  have e2 : (bfnD .len [eP2 p]).bind (castR D.int) = .ok 2 := rfl
  unfold t_is_pair
  simp (config := { implicitDefEqProofs := false }) only [Res.bind_ok, b2_ok, i0, i1, e1, e2, ni, eqG_eq]
  rfl
theorem lt_p (p q : Int × Int) : cmpD .lt (eP2 p) (eP2 q) = .ok (decide (ltP p q)) := lt_P p q
theorem rises_ok {ps : List (Int × Int)} (h : ps.Pairwise ltP) (hl : ps.length ≤ 1000) : t_rises ps = .ok true := by
  unfold t_rises
  rw [Res.bind_ok, lenG_eq, b2_ok, subI_eq]
  by_cases z : ps = []
  · rw [z]; rfl
  have hp := List.length_pos_iff.mpr z
  rw [Res.bind_ok, rng1R_ok (n := (ps.length : Int) - 1) (by omega), Res.bind_ok, qnR_allT fun x hx => ?_]
  · rfl
  have hx := mem_rangeI.mp hx
  have g1 : x.toNat < ps.length := by omega
  have g2 : (x + 1).toNat < ps.length := by omega
  rw [b2_ok, b2_ok, addI_eq, b2_ok, show atR ps x = .ok ps[x.toNat] from atR_nat (by omega) (by omega) (List.getElem?_eq_getElem g1), show atR ps (x + 1) = .ok ps[(x + 1).toNat] from atR_nat (by omega) (by omega) (List.getElem?_eq_getElem g2), b2_ok, lt_p]
  exact congrArg Res.ok (decide_eq_true (List.pairwise_iff_getElem.mp h _ _ g1 g2 (by omega)))
theorem pairs_ok (ps : List (Int × Int)) : qnR false (fun x1 => (Res.bind (.ok x1) fun p => t_is_pair p)) (ps.map eP2) = .ok true := by
  rw [qnR_map]
  exact qnR_allT fun p _ => by rw [Res.bind_ok]; exact pair_ok p
theorem pairs_ok2 (ps : List (Int × Int)) : qnR false (fun p => t_is_pair p) (ps.map eP2) = .ok true := pairs_ok ps
theorem leaps_ok {ps : List (Int × Int)} (h : ps.Pairwise ltP) (hl : ps.length ≤ 1000) (hp : ∀ p ∈ ps, (0 < p.1 ∧ p.1 ≤ 14 ∧ 0 < p.2 ∧ p.2 ≤ 100) ∨ (p.1 < 0 ∧ -14 ≤ p.1 ∧ p.2 < 0 ∧ -100 ≤ p.2)) : t_is_leaps (eT eP2 ps) = .ok true := by
  unfold t_is_leaps
  have c2 : castR (eT eP2) (eT eP2 ps) = .ok ps := castR_e
  refine ite_no ?_ ?_
  · simp (config := { implicitDefEqProofs := false }) only [Res.bind_ok, isTupX, itemsXX, pairs_ok2, c2, rises_ok h hl, notR_ok, orR_ok]
    rfl
  refine bnd castR_e ?_
  rw [Res.bind_ok, qnR_allT fun p hp' => ?_]
  · rfl
  have := hp p hp'
  rw [Res.bind_ok, Res.bind_ok, absI_eq, Res.bind_ok, chnR_ok, ltI_eq, Res.bind_ok, leI_eq, b2_ok, mulI_L (x := p.1) (y := p.2) (by omega), b2_ok, gtI_eq, decide_eq_true (show (0 : Int) < ab p.1 by unfold ab; split <;> omega), if_pos rfl, decide_eq_true (show ab p.1 ≤ 14 by unfold ab; split <;> omega), andR_ok]
  refine congrArg Res.ok ?_
  rw [Bool.true_and]
  refine decide_eq_true ?_
  rcases this with z | z
  · exact Int.mul_pos z.1 z.2.2.1
  · exact Int.mul_pos_of_neg_of_neg z.1 z.2.2.1
theorem ivs_ok {ps : List (Int × Int)} (h : ps.Pairwise ltP) (hl : ps.length ≤ 1000) (hp : ∀ p ∈ ps, 0 ≤ p.1 ∧ p.1 ≤ 6 ∧ 0 ≤ p.2 ∧ p.2 ≤ 11) : t_is_intervals (eT eP2 ps) = .ok true := by
  unfold t_is_intervals
  have c2 : castR (eT eP2) (eT eP2 ps) = .ok ps := castR_e
  refine ite_no ?_ ?_
  · simp (config := { implicitDefEqProofs := false }) only [Res.bind_ok, isTupX, itemsXX, pairs_ok2, c2, rises_ok h hl, notR_ok, orR_ok]
    rfl
  refine bnd castR_e ?_
  rw [Res.bind_ok, qnR_allT fun p hp' => ?_]
  · rfl
  obtain ⟨h1, h2, h3, h4⟩ := hp p hp'
  rw [Res.bind_ok, Res.bind_ok, chnR_ok, chnR_ok]
  simp (config := { implicitDefEqProofs := false }) only [leI_eq, Res.bind_ok]
  rw [decide_eq_true h1, decide_eq_true h2, decide_eq_true h3, decide_eq_true h4]; rfl
theorem in_p (p : Int × Int) (ss : List (Int × Int)) : cmpD .isin (eX (eP2 p)) (eX (eT eP2 ss)) = .ok (decide (p ∈ ss)) := by
  have := (C_inT (e := eP2) (by decide) p ss).get
  exact this.trans (congrArg Res.ok (decide_eq_decide.mpr Iff.rfl))
theorem sub_ok (pf ss : List (Int × Int)) : (Res.bind (Res.bind (.ok (eT eP2 pf)) fun d => (itemsD d).bind (castsR eX)) (qnR false fun x5 => (b2 (fun x y => cmpD .isin (eX x) (eX y)) (.ok x5) (.ok (eT eP2 ss))))) = .ok (pf.all fun p => decide (p ∈ ss)) := by
  rw [Res.bind_ok, itemsXX, Res.bind_ok, qnR_map]
  exact qnR_all fun p _ => by rw [b2_ok]; exact in_p p ss
/-! books made -/
/-- a book as a thing handed in -/
def eBk (k : Bk) : D := .tup [eT D.int k.mode, .int k.low, .int k.high, eT eP2 k.leaps, eT eP2 k.sweet, eT eP2 k.perfect, eO D.int k.turn]
structure Gd7 (k : Bk) : Prop where
  mode : k.mode ∈ modes
  rng : k.low ≤ k.high ∧ k.high ≤ k.low + 24 ∧ -99 ≤ k.low ∧ k.low ≤ 99
  leaps : k.leaps.Pairwise ltP
  leapn : k.leaps.length ≤ 1000
  leap : ∀ p ∈ k.leaps, (0 < p.1 ∧ p.1 ≤ 14 ∧ 0 < p.2 ∧ p.2 ≤ 100) ∨ (p.1 < 0 ∧ -14 ≤ p.1 ∧ p.2 < 0 ∧ -100 ≤ p.2)
  sweets : k.sweet.Pairwise ltP
  sweetn : k.sweet.length ≤ 1000
  sweet : ∀ p ∈ k.sweet, 0 ≤ p.1 ∧ p.1 ≤ 6 ∧ 0 ≤ p.2 ∧ p.2 ≤ 11
  perfects : k.perfect.Pairwise ltP
  perfectn : k.perfect.length ≤ 1000
  perfect : ∀ p ∈ k.perfect, p ∈ k.sweet
  turn : k.turn = none ∨ ∃ i, k.turn = some i ∧ 2 ≤ i
theorem made_eq (a1 a2 a3 a4 a5 a6 a7 : D) : t__law_made (.tup [a1, a2, a3, a4, a5, a6, a7]) = t_Book_init a1 a2 a3 a4 a5 a6 a7 := by
  unfold t__law_made
  show Res.bind (t_Book_init a1 a2 a3 a4 a5 a6 a7) (fun x => .ok x) = _
  exact bind_okid
/-- the check of the range -/
theorem rng_c (lo hi : Int) : orR (notR (Res.bind (.ok (D.int lo)) fun p => t_is_number p)) (orR (notR (Res.bind (.ok (D.int hi)) fun p => t_is_number p)) (orR (notR (chnR leI leI (Res.bind (.ok (D.int lo)) (castR D.int)) (Res.bind (.ok (D.int hi)) (castR D.int)) (Res.bind (b2 (binD .add) (.ok (D.int lo)) (Res.bind (.ok (24)) fun x => .ok (D.int x))) (castR D.int)))) (b2 gtI (Res.bind (Res.bind (.ok (D.int lo)) (castR D.int)) absI) (.ok (99))))) = .ok (!(decide (lo ≤ hi ∧ hi ≤ lo + 24 ∧ -99 ≤ lo ∧ lo ≤ 99))) := by
  have ca : ∀ i : Int, castR D.int (.int i) = .ok i := fun i => castR_e (e := D.int)
  have ad : binD .add (.int lo) (.int 24) = .ok (.int (lo + 24)) := rfl
  simp (config := { implicitDefEqProofs := false }) only [Res.bind_ok, ni, ca, b2_ok, ad, notR_ok, chnR_ok, leI_eq, absI_eq, gtI_eq, orR_ok, Bool.not_true, Bool.false_or]
  have ea : ab lo = if lo < 0 then -lo else lo := rfl
  by_cases h1 : lo ≤ hi
  · rw [decide_eq_true h1, if_pos rfl, notR_ok, orR_ok]
    refine congrArg Res.ok ?_
    by_cases h2 : hi ≤ lo + 24
    · rw [decide_eq_true h2]
      by_cases h3 : -99 ≤ lo ∧ lo ≤ 99
      · rw [decide_eq_true (show lo ≤ hi ∧ hi ≤ lo + 24 ∧ -99 ≤ lo ∧ lo ≤ 99 from ⟨h1, h2, h3⟩), decide_eq_false (show ¬ 99 < ab lo by unfold ab; split <;> omega)]; rfl
      · rw [decide_eq_false (show ¬ (lo ≤ hi ∧ hi ≤ lo + 24 ∧ -99 ≤ lo ∧ lo ≤ 99) by omega), decide_eq_true (show 99 < ab lo by unfold ab; split <;> omega)]; rfl
    · rw [decide_eq_false h2, decide_eq_false (show ¬ (lo ≤ hi ∧ hi ≤ lo + 24 ∧ -99 ≤ lo ∧ lo ≤ 99) by omega)]; rfl
  · rw [decide_eq_false h1, if_neg (by simp), notR_ok, orR_ok, decide_eq_false (show ¬ (lo ≤ hi ∧ hi ≤ lo + 24 ∧ -99 ≤ lo ∧ lo ≤ 99) by omega)]; rfl
theorem x_mode {a1 a2 a3 a4 a5 a6 a7 : D} (h : t_is_mode a1 = .ok false) : t_Book_init a1 a2 a3 a4 a5 a6 a7 = .exc 0 := by
  unfold t_Book_init
  exact ite_yes (by rw [Res.bind_ok, h]; rfl) rfl
section
variable {m : List Int} (hm : m ∈ modes) {lo hi : Int} {a4 a5 a6 a7 : D}
include hm
theorem x_rng (h : ¬ (lo ≤ hi ∧ hi ≤ lo + 24 ∧ -99 ≤ lo ∧ lo ≤ 99)) : t_Book_init (eT D.int m) (.int lo) (.int hi) a4 a5 a6 a7 = .exc 0 := by
  unfold t_Book_init
  refine ite_no (by rw [Res.bind_ok, mode_ok hm]; rfl) ?_
  refine bnd castR_e ?_
  exact ite_yes (by rw [rng_c, decide_eq_false h]; rfl) rfl
theorem x_low {a2 a3 : D} (h : t_is_number a2 = .ok false) : t_Book_init (eT D.int m) a2 a3 a4 a5 a6 a7 = .exc 0 := by
  unfold t_Book_init
  refine ite_no (by rw [Res.bind_ok, mode_ok hm]; rfl) ?_
  refine bnd castR_e ?_
  exact ite_yes (by rw [Res.bind_ok, h]; rfl) rfl
theorem x_high {a3 : D} (h : t_is_number a3 = .ok false) : t_Book_init (eT D.int m) (.int lo) a3 a4 a5 a6 a7 = .exc 0 := by
  unfold t_Book_init
  refine ite_no (by rw [Res.bind_ok, mode_ok hm]; rfl) ?_
  refine bnd castR_e ?_
  exact ite_yes (by rw [Res.bind_ok, ni, Res.bind_ok, h]; rfl) rfl
variable (hr : lo ≤ hi ∧ hi ≤ lo + 24 ∧ -99 ≤ lo ∧ lo ≤ 99)
include hr
theorem x_leaps (h : t_is_leaps a4 = .ok false) : t_Book_init (eT D.int m) (.int lo) (.int hi) a4 a5 a6 a7 = .exc 0 := by
  unfold t_Book_init
  refine ite_no (by rw [Res.bind_ok, mode_ok hm]; rfl) ?_
  refine bnd castR_e ?_
  refine ite_no (by rw [rng_c, decide_eq_true hr]; rfl) ?_
  refine bnd castR_e ?_
  refine bnd castR_e ?_
  exact ite_yes (by rw [Res.bind_ok, h]; rfl) rfl
variable {ls : List (Int × Int)} (hl : t_is_leaps (eT eP2 ls) = .ok true)
include hl
theorem x_sweet (h : t_is_intervals a5 = .ok false) : t_Book_init (eT D.int m) (.int lo) (.int hi) (eT eP2 ls) a5 a6 a7 = .exc 0 := by
  unfold t_Book_init
  refine ite_no (by rw [Res.bind_ok, mode_ok hm]; rfl) ?_
  refine bnd castR_e ?_
  refine ite_no (by rw [rng_c, decide_eq_true hr]; rfl) ?_
  refine bnd castR_e ?_
  refine bnd castR_e ?_
  refine ite_no (by rw [Res.bind_ok, hl]; rfl) ?_
  refine bnd castR_e ?_
  exact ite_yes (by rw [Res.bind_ok, h]; rfl) rfl
variable {ss pf : List (Int × Int)} (hs : t_is_intervals (eT eP2 ss) = .ok true) (hp : t_is_intervals (eT eP2 pf) = .ok true)
include hs hp
theorem x_perf (h : (pf.all fun p => decide (p ∈ ss)) = false) : t_Book_init (eT D.int m) (.int lo) (.int hi) (eT eP2 ls) (eT eP2 ss) (eT eP2 pf) a7 = .exc 0 := by
  unfold t_Book_init
  refine ite_no (by rw [Res.bind_ok, mode_ok hm]; rfl) ?_
  refine bnd castR_e ?_
  refine ite_no (by rw [rng_c, decide_eq_true hr]; rfl) ?_
  refine bnd castR_e ?_
  refine bnd castR_e ?_
  refine ite_no (by rw [Res.bind_ok, hl]; rfl) ?_
  refine bnd castR_e ?_
  refine ite_yes ?_ rfl
  rw [sub_ok, h, Res.bind_ok, hs, Res.bind_ok, hp]; rfl
variable (hq : (pf.all fun p => decide (p ∈ ss)) = true)
include hq
theorem go_turn {o : Res Bk} (h : iteR (andR (b2 (fun x y => cmpD .isnot (eX x) (eUn y)) (.ok a7) (.ok ())) (orR (notR (Res.bind (.ok a7) fun p => t_is_number p)) (b2 ltI (Res.bind (.ok a7) (castR D.int)) (.ok (2)))))
 (.exc 0) (Res.bind (castR (eO D.int) (eX a7)) fun v8 => .ok (Bk.mk m lo hi ls ss pf v8)) = o) : t_Book_init (eT D.int m) (.int lo) (.int hi) (eT eP2 ls) (eT eP2 ss) (eT eP2 pf) a7 = o := by
  unfold t_Book_init
  refine ite_no (by rw [Res.bind_ok, mode_ok hm]; rfl) ?_
  refine bnd castR_e ?_
  refine ite_no (by rw [rng_c, decide_eq_true hr]; rfl) ?_
  refine bnd castR_e ?_
  refine bnd castR_e ?_
  refine ite_no (by rw [Res.bind_ok, hl]; rfl) ?_
  refine bnd castR_e ?_
  refine ite_no ?_ ?_
  · rw [sub_ok, hq, Res.bind_ok, hs, Res.bind_ok, hp]; rfl
  refine bnd castR_e ?_
  refine bnd castR_e ?_
  exact h
end
theorem isnot_i (i : Int) : cmpD .isnot (eX (.int i)) (eUn ()) = .ok true := rfl
theorem isnot_b (v : Bool) : cmpD .isnot (eX (.bl v)) (eUn ()) = .ok true := rfl
theorem isnot_s (x : Str) : cmpD .isnot (eX (.str x)) (eUn ()) = .ok true := rfl
theorem isnot_n : cmpD .isnot (eX .non) (eUn ()) = .ok false := rfl
theorem made_good {k : Bk} (h : Gd7 k) : t__law_made (eBk k) = .ok k := by
  obtain ⟨md, lo, hi, ls, ss, pf, tu⟩ := k
  unfold eBk
  rw [made_eq]
  refine go_turn h.mode h.rng (leaps_ok h.leaps h.leapn h.leap) (ivs_ok h.sweets h.sweetn h.sweet) (ivs_ok h.perfects h.perfectn fun p hp => h.sweet p (h.perfect p hp)) (List.all_eq_true.mpr fun p hp => decide_eq_true (h.perfect p hp)) ?_
  have c8 : castR (eO D.int) (eX (eO D.int tu)) = .ok tu := castR_e
  refine ite_no ?_ (by rw [show castR (eO D.int) (eX (eO D.int (Bk.mk md lo hi ls ss pf tu).turn)) = .ok tu from c8]; rfl)
  rcases h.turn with z | ⟨i, z, hi2⟩
  · have z : tu = none := z
    subst z
    rfl
  · have z : tu = some i := z
    subst z
    show andR (b2 (fun x y => cmpD .isnot (eX x) (eUn y)) (.ok (.int i)) (.ok ())) (orR (notR (Res.bind (.ok (.int i)) fun p => t_is_number p)) (b2 ltI (Res.bind (.ok (.int i)) (castR D.int)) (.ok (2)))) = _
    rw [b2_ok, isnot_i, Res.bind_ok, ni, Res.bind_ok, castR_e, b2_ok, ltI_eq, decide_eq_false (by omega)]; rfl
/-! the rows of the law -/
def r7 (a1 a2 a3 a4 a5 a6 a7 : D) : D := .tup [a1, a2, a3, a4, a5, a6, a7]
def d2 (x y : Int) : D := .tup [.int x, .int y]
def RW (b : Bk) : List (D × Bool) :=
  let md := eT D.int b.mode
  let lo := D.int b.low
  let hi := D.int b.high
  let ls := eT eP2 b.leaps
  let sw := eT eP2 b.sweet
  let pf := eT eP2 b.perfect
  let tu := eO D.int b.turn
  [(r7 md lo hi ls sw pf tu, true), (r7 md lo lo ls sw pf tu, true), (r7 md lo (.int (b.low + 24)) (.tup []) sw (.tup []) .non, true), (r7 md lo hi ls (.tup []) (.tup []) tu, true),
   (r7 md (.int (-99)) (.int (-99)) (.tup [d2 (-14) (-1), d2 14 1]) (.tup [d2 0 0, d2 6 11]) (.tup [d2 0 0]) (.int 99), true),
   (r7 md lo (.int (b.low + 25)) ls sw pf tu, false), (r7 md (.int (b.high + 1)) hi ls sw pf tu, false), (r7 md (.int 100) (.int 100) ls sw pf tu, false), (r7 md (.bl true) (.int (b.high + 2)) ls sw pf tu, false), (r7 md lo .non ls sw pf tu, false),
   (r7 (eT D.int (b.mode.take 6)) lo hi ls sw pf tu, false), (r7 (eT D.int (b.mode.take 6 ++ [12])) lo hi ls sw pf tu, false), (r7 (eT D.int (b.mode.take 2 ++ [atZ b.mode 1] ++ b.mode.drop 3)) lo hi ls sw pf tu, false),
   (r7 (.tup (.int 1 :: (b.mode.drop 1).map D.int)) lo hi ls sw pf tu, false), (r7 (.lst (b.mode.map D.int)) lo hi ls sw pf tu, false),
   (r7 md lo hi (.tup [d2 1 2, d2 1 1]) sw pf tu, false), (r7 md lo hi (.tup [d2 1 1, d2 1 1]) sw pf tu, false), (r7 md lo hi (.tup [d2 1 (-1)]) sw pf tu, false), (r7 md lo hi (.tup [d2 0 0]) sw pf tu, false), (r7 md lo hi (.tup [d2 15 20]) sw pf tu, false), (r7 md lo hi (.lst [d2 1 1]) sw pf tu, false),
   (r7 md lo hi ls (.tup [d2 7 0]) (.tup []) tu, false), (r7 md lo hi ls (.tup [d2 0 12]) (.tup []) tu, false), (r7 md lo hi ls (.tup [d2 2 4, d2 2 3]) (.tup []) tu, false), (r7 md lo hi ls (.tup [d2 0 0]) (.tup [d2 4 7]) tu, false),
   (r7 md lo hi ls sw pf (.int 1), false), (r7 md lo hi ls sw pf (.bl true), false), (r7 md lo hi ls sw pf (.str ("2" : Str)), false)]
theorem w__law_turned (hb : b.Ok) (n : Int) : t__law_turned b n = b2 atR (.ok (RW b)) (.ok (n % 28)) := by
  have ml := hb.len
  unfold t__law_turned
  refine bnd rfl ?_
  have c6 : PD.cutD b.mode none (some 6) = b.mode.take 6 := cut_to (by decide)
  have c2 : PD.cutD b.mode none (some 2) = b.mode.take 2 := cut_to (by decide)
  have c3 : PD.cutD b.mode (some 3) none = b.mode.drop 3 := by rw [cut_from (by decide)]; rfl
  have c1 : PD.cutD b.mode (some 1) none = b.mode.drop 1 := by rw [cut_from (by decide)]; rfl
  have a1 : atR b.mode 1 = .ok (atZ b.mode 1) := atR_I (by decide) (by omega)
  have z1 : binD .add (eP (oA D.int) 1) (eT D.int (b.mode.drop 1)) = .ok (.tup (.int 1 :: (b.mode.drop 1).map D.int)) := by
    have e0 : binD .add (eP (oA D.int) 1) (eT D.int (b.mode.drop 1)) = if [D.int 1].length + ((b.mode.drop 1).map D.int).length ≤ sizeLine then .ok (.tup ([D.int 1] ++ (b.mode.drop 1).map D.int)) else .bad := rfl
    rw [e0, if_pos (by rw [sizeLine_eq, List.length_map, List.length_drop, List.length_singleton]; omega)]; rfl
  have k1 : catR (b.mode.take 6) [12] = .ok (b.mode.take 6 ++ [12]) := catR_ok (by rw [List.length_take, List.length_singleton]; omega)
  have k2 : catR (b.mode.take 2) [atZ b.mode 1] = .ok (b.mode.take 2 ++ [atZ b.mode 1]) := catR_ok (by rw [List.length_take, List.length_singleton]; omega)
  have k3 : catR (b.mode.take 2 ++ [atZ b.mode 1]) (b.mode.drop 3) = .ok (b.mode.take 2 ++ [atZ b.mode 1] ++ b.mode.drop 3) := catR_ok (by simp only [List.length_append, List.length_take, List.length_drop, List.length_singleton]; omega)
  refine bnd (x := RW b) ?_ ?_
  · simp (config := { implicitDefEqProofs := false }) only [Res.bind_ok, negI_eq, addI_eq, b2_ok, cutR_ok, c6, c2, c3, c1, a1, z1, k1, k2, k3, szR_1, sameG_eq]
    exact szR_ok (xs := RW b) (by unfold RW; simp only [List.length_cons, List.length_nil]; omega)
  · rw [Res.bind_ok, lenG_eq, show ((RW b).length : Int) = 28 from rfl, b2_ok, modI_eq (by decide), bind_okid]
theorem lv {ds : List D} (h : t_is_leaps (.tup ds) = .ok false) : t_is_leaps (.tup ds) = .ok false := h
theorem lv1 : t_is_leaps (.tup [d2 1 2, d2 1 1]) = .ok false := by unfold t_is_leaps; rfl
theorem lv2 : t_is_leaps (.tup [d2 1 1, d2 1 1]) = .ok false := by unfold t_is_leaps; rfl
theorem lv3 : t_is_leaps (.tup [d2 1 (-1)]) = .ok false := by unfold t_is_leaps; rfl
theorem lv4 : t_is_leaps (.tup [d2 0 0]) = .ok false := by unfold t_is_leaps; rfl
theorem lv5 : t_is_leaps (.tup [d2 15 20]) = .ok false := by unfold t_is_leaps; rfl
theorem lv6 : t_is_leaps (.lst [d2 1 1]) = .ok false := by unfold t_is_leaps; rfl
theorem sv1 : t_is_intervals (.tup [d2 7 0]) = .ok false := by unfold t_is_intervals; rfl
theorem sv2 : t_is_intervals (.tup [d2 0 12]) = .ok false := by unfold t_is_intervals; rfl
theorem sv3 : t_is_intervals (.tup [d2 2 4, d2 2 3]) = .ok false := by unfold t_is_intervals; rfl
theorem gd_b (hb : b.Ok) : Gd7 b := by
  have h1 := hb.low
  have h2 := hb.high
  have h3 := hb.leapn
  have h4 := hb.sweetn
  have h5 := hb.perfectn
  refine ⟨hb.mode, by omega, hb.leaps, by omega, fun p hp => ?_, hb.sweets, by omega, hb.sweet, hb.perfects, by omega, hb.perfect, ?_⟩
  · have := hb.leap p hp; omega
  · rcases hb.turn with z | ⟨i, z, h, _⟩
    · exact .inl z
    · exact .inr ⟨i, z, h⟩
/-- what the rows of the law tell -/
theorem row_law (hb : b.Ok) {q : D × Bool} (hq : q ∈ RW b) : (q.2 = false ∧ t__law_made q.1 = .exc 0) ∨ (q.2 = true ∧ ∃ k : Bk, Gd7 k ∧ q.1 = eBk k) := by
  have g := gd_b hb
  have h1 := hb.low
  have h2 := hb.high
  have hl := leaps_ok g.leaps g.leapn g.leap
  have hs := ivs_ok g.sweets g.sweetn g.sweet
  have hp := ivs_ok g.perfects g.perfectn fun p hp => g.sweet p (g.perfect p hp)
  have hsub : (b.perfect.all fun p => decide (p ∈ b.sweet)) = true := List.all_eq_true.mpr fun p hp => decide_eq_true (g.perfect p hp)
  have hr := g.rng
  have nil_iv : t_is_intervals (.tup []) = .ok true := by unfold t_is_intervals; rfl
  simp only [RW, List.mem_cons, List.not_mem_nil, or_false] at hq
  rcases hq with e | e | e | e | e | e | e | e | e | e | e | e | e | e | e | e | e | e | e | e | e | e | e | e | e | e | e | e <;> subst e
  · exact .inr ⟨rfl, b, g, rfl⟩
  · exact .inr ⟨rfl, ⟨b.mode, b.low, b.low, b.leaps, b.sweet, b.perfect, b.turn⟩, { g with rng := by dsimp only; omega }, rfl⟩
  · exact .inr ⟨rfl, ⟨b.mode, b.low, b.low + 24, [], b.sweet, [], none⟩, { g with rng := by dsimp only; omega, leaps := List.Pairwise.nil, leapn := by simp, leap := fun p hp => by simp at hp, perfects := List.Pairwise.nil, perfectn := by simp, perfect := fun p hp => by simp at hp, turn := .inl rfl }, rfl⟩
  · exact .inr ⟨rfl, ⟨b.mode, b.low, b.high, b.leaps, [], [], b.turn⟩, { g with sweets := List.Pairwise.nil, sweetn := by simp, sweet := fun p hp => by simp at hp, perfects := List.Pairwise.nil, perfectn := by simp, perfect := fun p hp => by simp at hp }, rfl⟩
  · refine .inr ⟨rfl, ⟨b.mode, -99, -99, [(-14, -1), (14, 1)], [(0, 0), (6, 11)], [(0, 0)], some 99⟩, ⟨g.mode, by dsimp only; decide, by dsimp only; decide, by dsimp only; decide, fun p hp => ?_, by dsimp only; decide, by dsimp only; decide, fun p hp => ?_, by dsimp only; decide, by dsimp only; decide, fun p hp => ?_, .inr ⟨99, rfl, by decide⟩⟩, rfl⟩
    · simp only [List.mem_cons, List.not_mem_nil, or_false] at hp
      rcases hp with e | e <;> subst e <;> decide
    · simp only [List.mem_cons, List.not_mem_nil, or_false] at hp
      rcases hp with e | e <;> subst e <;> decide
    · simp only [List.mem_cons, List.not_mem_nil, or_false] at hp
      subst hp
      simp
  · exact .inl ⟨rfl, (made_eq ..).trans (x_rng hb.mode (by omega))⟩
  · exact .inl ⟨rfl, (made_eq ..).trans (x_rng hb.mode (by omega))⟩
  · exact .inl ⟨rfl, (made_eq ..).trans (x_rng hb.mode (by omega))⟩
  · exact .inl ⟨rfl, (made_eq ..).trans (x_low hb.mode (nb true))⟩
  · exact .inl ⟨rfl, (made_eq ..).trans (x_high hb.mode nn)⟩
  · exact .inl ⟨rfl, (made_eq ..).trans (x_mode (mode_6 hb.mode))⟩
  · exact .inl ⟨rfl, (made_eq ..).trans (x_mode (mode_12 hb.mode))⟩
  · exact .inl ⟨rfl, (made_eq ..).trans (x_mode (mode_tw hb.mode))⟩
  · exact .inl ⟨rfl, (made_eq ..).trans (x_mode (mode_1 hb.mode))⟩
  · exact .inl ⟨rfl, (made_eq ..).trans (x_mode mode_l)⟩
  · exact .inl ⟨rfl, (made_eq ..).trans (x_leaps hb.mode hr lv1)⟩
  · exact .inl ⟨rfl, (made_eq ..).trans (x_leaps hb.mode hr lv2)⟩
  · exact .inl ⟨rfl, (made_eq ..).trans (x_leaps hb.mode hr lv3)⟩
  · exact .inl ⟨rfl, (made_eq ..).trans (x_leaps hb.mode hr lv4)⟩
  · exact .inl ⟨rfl, (made_eq ..).trans (x_leaps hb.mode hr lv5)⟩
  · exact .inl ⟨rfl, (made_eq ..).trans (x_leaps hb.mode hr lv6)⟩
  · exact .inl ⟨rfl, (made_eq ..).trans (x_sweet hb.mode hr hl sv1)⟩
  · exact .inl ⟨rfl, (made_eq ..).trans (x_sweet hb.mode hr hl sv2)⟩
  · exact .inl ⟨rfl, (made_eq ..).trans (x_sweet hb.mode hr hl sv3)⟩
  · exact .inl ⟨rfl, (made_eq ..).trans (x_perf hb.mode hr hl (ss := [(0, 0)]) (pf := [(4, 7)]) (ivs_ok (by decide) (by decide) fun p hp => by simp only [List.mem_cons, List.not_mem_nil, or_false] at hp; subst hp; decide) (ivs_ok (by decide) (by decide) fun p hp => by simp only [List.mem_cons, List.not_mem_nil, or_false] at hp; subst hp; decide) (by decide))⟩
  · exact .inl ⟨rfl, (made_eq ..).trans (go_turn hb.mode hr hl hs hp hsub (ite_yes (by rw [b2_ok, isnot_i, Res.bind_ok, ni, Res.bind_ok, show castR D.int (.int 1) = .ok 1 from castR_e (e := D.int), b2_ok, ltI_eq]; rfl) rfl))⟩
  · exact .inl ⟨rfl, (made_eq ..).trans (go_turn hb.mode hr hl hs hp hsub (ite_yes (by rw [b2_ok, isnot_b, Res.bind_ok, nb]; rfl) rfl))⟩
  · exact .inl ⟨rfl, (made_eq ..).trans (go_turn hb.mode hr hl hs hp hsub (ite_yes (by rw [b2_ok, isnot_s, Res.bind_ok, nst]; rfl) rfl))⟩
set_option synthInstance.maxSize 2000 in
set_option synthInstance.maxHeartbeats 1000000 in
theorem w_law {s : D} {ns : List Int} (hs : scr s ns) : t_law s = .ok true := by
  obtain ⟨c0, ec0⟩ := w__law_cell hs (k := 0) (by decide)
  obtain ⟨c1, ec1⟩ := w__law_cell hs (k := 1) (by decide)
  obtain ⟨b, hb, eb⟩ := w__law_book c0
  unfold t_law
  have m0 := Int.emod_nonneg (ab c1) (b := 28) (by decide)
  have m1 := Int.emod_lt_of_pos (ab c1) (b := 28) (by decide)
  obtain ⟨m, hm⟩ : ∃ m, ab c1 % 28 = m := ⟨_, rfl⟩
  have hlt : m.toNat < (RW b).length := by rw [show (RW b).length = 28 from rfl]; omega
  obtain ⟨q, hq⟩ : ∃ q, (RW b)[m.toNat]? = some q := ⟨_, List.getElem?_eq_getElem hlt⟩
  have mq := List.mem_of_getElem? hq
  refine bnd (x := q) ?_ ?_
  · simp (config := { implicitDefEqProofs := false }) only [Res.bind_ok, ec0, ec1, eb, absI_eq]
    rw [w__law_turned hb, hm, b2_ok]
    exact atR_nat (by omega) (by rw [show (RW b).length = 28 from rfl]; omega) hq
  rcases row_law hb mq with ⟨h1, h2⟩ | ⟨h1, k, g, h2⟩
  · rw [Res.bind_ok, h2]
    show tryR 1 (.exc 0) _ _ _ = _
    rw [tryR_e, if_pos (by decide)]
    simp (config := { implicitDefEqProofs := false }) only [if_true, notR_ok, Res.bind_ok, h1]
    rfl
  · have mk := made_good g
    rw [← h2] at mk
    rw [Res.bind_ok, mk]
    show Res.bind (andR (.ok q.2) (andR (b2 (fun x y => cmpD .eq ((eP (cA (eT D.int) (cA D.int (cA D.int (cA (eT (eP (cA D.int (oA D.int)))) (cA (eT (eP (cA D.int (oA D.int)))) (cA (eT (eP (cA D.int (oA D.int)))) (oA (eO D.int))))))))) x) (eX y)) (.ok (k.mode, k.low, k.high, k.leaps, k.sweet, k.perfect, k.turn)) (.ok q.1)) (b2 eqG (b2 (fun x p => nxR (t_Book_notes x)) (.ok k) (.ok ())) (Res.bind (b2 rng2R (Res.bind (b2 ixD (.ok q.1) (Res.bind (.ok (1)) fun x => .ok (D.int x))) (castR D.int)) (Res.bind (b2 (binD .add) (b2 ixD (.ok q.1) (Res.bind (.ok (2)) fun x => .ok (D.int x))) (Res.bind (.ok (1)) fun x => .ok (D.int x))) (castR D.int))) szR)))) (fun x => .ok x) = _
    have i1 : ixD q.1 (.int 1) = .ok (.int k.low) := by rw [h2]; rfl
    have i2 : ixD q.1 (.int 2) = .ok (.int k.high) := by rw [h2]; rfl
    have hr := g.rng
    have ad : binD .add (.int k.high) (.int 1) = .ok (.int (k.high + 1)) := rfl
    have ca : ∀ i : Int, castR D.int (.int i) = .ok i := fun i => castR_e (e := D.int)
    have en : t_Book_notes k = .ok (rangeI k.low (k.high + 1 - k.low).toNat) := by
      unfold t_Book_notes
      rw [Res.bind_ok, Res.bind_ok, b2_ok, addI_eq, b2_ok, rng2R_ok (i := k.low) (n := k.high + 1) (by omega) (by omega), Res.bind_ok, szR_ok (by rw [len_rangeI]; omega), Res.bind_ok]
    have ce : cmpD .eq ((eP (cA (eT D.int) (cA D.int (cA D.int (cA (eT (eP (cA D.int (oA D.int)))) (cA (eT (eP (cA D.int (oA D.int)))) (cA (eT (eP (cA D.int (oA D.int)))) (oA (eO D.int))))))))) (k.mode, k.low, k.high, k.leaps, k.sweet, k.perfect, k.turn)) (eX q.1) = .ok true := by
      rw [h2]
      have := (C_eq (e := eP (cA (eT D.int) (cA D.int (cA D.int (cA (eT (eP (cA D.int (oA D.int)))) (cA (eT (eP (cA D.int (oA D.int)))) (cA (eT (eP (cA D.int (oA D.int)))) (oA (eO D.int))))))))) (by decide) (k.mode, k.low, k.high, k.leaps, k.sweet, k.perfect, k.turn) (k.mode, k.low, k.high, k.leaps, k.sweet, k.perfect, k.turn)).get
      rw [decide_eq_true rfl] at this
      exact this
    simp (config := { implicitDefEqProofs := false }) only [h1, b2_ok, ce, en, nxR_ok, Res.bind_ok, i1, i2, ca, ad]
    rw [rng2R_ok (i := k.low) (n := k.high + 1) (by omega) (by omega), Res.bind_ok, szR_ok (by rw [len_rangeI]; omega), b2_ok, eqG_eq, decide_eq_true rfl]
    rfl
theorem math : ∀ ns : List Int, ns.length ≤ 63 → (∀ z ∈ ns, Builtin.Int.intBits z ≤ 1048576) → φ_law [.raw (ns.map D.int)] = .ok (.bl true) ∧ φ_law [.lst (ns.map D.int)] = .ok (.bl true) :=
  fun ns _ _ => ⟨(l_law _).eq (w_law (.inl rfl)), (l_law _).eq (w_law (.inr rfl))⟩
end
end K00
open PySem PySem.W PySem.Calls PyProof.Rows
theorem PySem.Challenge.cw_cantusmill_k00_what_makes_a_book_holds : PySem.Challenge.rw_cantusmill_k00_what_makes_a_book.Holds := by
  w_on; o_law
  refine HandSHeadRun.head_any (r := OpenLaw.row PySem.Challenge.rw_cantusmill_k00_what_makes_a_book) (q := view (OpenLaw.row PySem.Challenge.rw_cantusmill_k00_what_makes_a_book).prog [24]) (H := K00.hk) (ob := K00.ob) (M := 9000) (loose := K00.loose) (d := HandSHeadRun.topDef (OpenLaw.row PySem.Challenge.rw_cantusmill_k00_what_makes_a_book).prog 24) (kwd := []) K00.ob_eq
    (by kernel_rfl) (fun s => by kernel_rfl) K00.run (by kernel_rfl) (by kernel_rfl) (by kernel_rfl) (by rfl) (by first | assumption | decide +kernel) (by decide +kernel) ⟨rfl, rfl, rfl, rfl, rfl, by decide +kernel⟩ ?hw ?hc
  case hw => w_witness2
  case hc =>
    refine LamX.walk_ofTsE (l := PySem.Challenge.rw_cantusmill_k00_what_makes_a_book) (n := 63) (k := 18) (x := "script") (CX := fun w => L2.CX (PySem.Challenge.rw_cantusmill_k00_what_makes_a_book).prog w) rfl (by decide) (by kernel_rfl) ⟨rfl, by decide, by decide⟩ ?F (fun w H s e s' => PD.cx_none H s e s')
    intro w mg fa h Y G hmg0
    obtain ⟨K, KX, c⟩ := Y
    have hmg : mg ("law" : PySem.Str) = some (.ref fa) := by
      have e : (HandSHeadRun.topDef (OpenLaw.row PySem.Challenge.rw_cantusmill_k00_what_makes_a_book).prog 24).name = ("law" : PySem.Str) := by kernel_rfl
      rw [← e]
      exact hmg0
    exact ⟨K, KX, K00.law_at KX G c hmg K00.math⟩
