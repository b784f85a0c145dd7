import PyProof.Rows.All
import Wide.All
import OpenK.AllK
import Wide.FinOn
import HandS.ForMost
import HandS.Wide
import HandS.TupAny
import HandS.Style
import HandS.IsInst
import HandS.Flow
import HandS.Deep
import HandS.Text
import HandS.Zip
import HandS.Rev
import HandS.More
import PyProof.ReprRoads
import PyProof.TableCode
import PyProof.ReprLen
import PySem.Challenge.RW_turnpaper_k04_functions_told
set_option Elab.async false
set_option linter.all false
set_option maxRecDepth 100000
/-! TPa: plain data, the store, worlds. -/
namespace TP
open PySem L2

/-- plain data; ref k: the k-th thing of the store -/
inductive D where
  | non | bl (b : Bool) | int (i : Int) | str (x : Str) | tup (xs : List D) | lst (xs : List D) | fro (xs : List D) | kt (xs : List D) | ref (k : Nat)
  deriving Inhabited

/-- a thing of the store, which may be changed -/
inductive MO where
  | lst (xs : List D)
  | dK (kvs : List (Key × D))
  | dT (kvs : List (List Key × D))
  | ins (c : Addr) (fs : List (Str × D))
abbrev Store := List MO

section
variable (K : PySem.W.Frag) (A : List Addr) (G : Hp)
mutual
inductive Rep : V → D → Prop
  | non : Rep .non .non
  | bl (b : Bool) : Rep (.bl b) (.bl b)
  | int (i : Int) : Rep (.int i) (.int i)
  | str (x : Str) : Rep (.str x) (.str x)
  | tup {a : Addr} {vs : List V} {ds : List D} : G a = some (.tup vs) → RepL vs ds → Rep (.ref a) (.tup ds)
  | kt {a : Addr} {vs : List V} {ds : List D} : SqT K G a vs → RepL vs ds → Rep (.ref a) (.kt ds)
  | lst {a : Addr} {vs : List V} {ds : List D} : G a = some (.lst vs) → RepL vs ds → Rep (.ref a) (.lst ds)
  | fro {a : Addr} {vs : List V} {ds : List D} : SqL K G a vs → RepL vs ds → Rep (.ref a) (.fro ds)
  | ref {a : Addr} {k : Nat} : A[k]? = some a → Rep (.ref a) (.ref k)
inductive RepL : List V → List D → Prop
  | nil : RepL [] []
  | cons {v : V} {vs : List V} {d : D} {ds : List D} : Rep v d → RepL vs ds → RepL (v :: vs) (d :: ds)
end
end

theorem sqT_mono {K : PySem.W.Frag} {G G' : Hp} {a : Addr} {xs : List V} (e : Same G G') (h : SqT K G a xs) : SqT K G' a xs := by
  rcases h with (h | ⟨o, h⟩) | h
  · exact .inl (.inl (e _ _ h))
  · exact .inl (.inr ⟨o, e _ _ h⟩)
  · exact .inr h

section
variable {K : PySem.W.Frag} {A A' : List Addr} {G G' : Hp}
theorem pre_get {α : Type} {l l' : List α} (h : l <+: l') {k : Nat} {a : α} (e : l[k]? = some a) : l'[k]? = some a := by
  obtain ⟨t, rfl⟩ := h
  rw [List.getElem?_append_left (List.getElem?_eq_some_iff.mp e).1]
  exact e
mutual
theorem Rep.mono (hA : A <+: A') (hG : Same G G') : ∀ (d : D) (v : V), Rep K A G v d → Rep K A' G' v d
  | .non, _, h => by cases h; exact .non
  | .bl b, _, h => by cases h; exact .bl b
  | .int i, _, h => by cases h; exact .int i
  | .str x, _, h => by cases h; exact .str x
  | .tup ds, _, h => by
    cases h with
    | tup hs hr => exact .tup (hG _ _ hs) (RepL.mono hA hG ds _ hr)
  | .kt ds, _, h => by
    cases h with
    | kt hs hr => exact .kt (sqT_mono hG hs) (RepL.mono hA hG ds _ hr)
  | .lst ds, _, h => by
    cases h with
    | lst hs hr => exact .lst (hG _ _ hs) (RepL.mono hA hG ds _ hr)
  | .fro ds, _, h => by
    cases h with
    | fro hs hr => exact .fro (hG.seq hs) (RepL.mono hA hG ds _ hr)
  | .ref k, _, h => by
    cases h with
    | ref e => exact .ref (pre_get hA e)
theorem RepL.mono (hA : A <+: A') (hG : Same G G') : ∀ (ds : List D) (vs : List V), RepL K A G vs ds → RepL K A' G' vs ds
  | [], _, h => by cases h; exact .nil
  | d :: ds, _, h => by
    cases h with
    | cons h1 h2 => exact .cons (Rep.mono hA hG d _ h1) (RepL.mono hA hG ds _ h2)
end

theorem RepL.length : ∀ {vs : List V} {ds : List D}, RepL K A G vs ds → vs.length = ds.length
  | [], [], _ => rfl
  | _ :: vs, _ :: ds, h => by
    cases h with
    | cons _ h2 => rw [List.length_cons, List.length_cons, RepL.length h2]
theorem RepL.get : ∀ {vs : List V} {ds : List D} {i : Nat} {d : D}, RepL K A G vs ds → ds[i]? = some d → ∃ v, vs[i]? = some v ∧ Rep K A G v d
  | [], [], _, _, _, e => by simp at e
  | _ :: _, _ :: _, 0, _, h, e => by
    cases h with
    | cons h1 _ => simp at e; subst e; exact ⟨_, rfl, h1⟩
  | _ :: _, _ :: _, i + 1, _, h, e => by
    cases h with
    | cons _ h2 =>
      obtain ⟨v, a, b⟩ := RepL.get (i := i) h2 (by simpa using e)
      exact ⟨v, by simpa using a, b⟩
theorem RepL.get' : ∀ {vs : List V} {ds : List D} {i : Nat} {v : V}, RepL K A G vs ds → vs[i]? = some v → ∃ d, ds[i]? = some d ∧ Rep K A G v d
  | [], [], _, _, _, e => by simp at e
  | _ :: _, _ :: _, 0, _, h, e => by
    cases h with
    | cons h1 _ => simp at e; subst e; exact ⟨_, rfl, h1⟩
  | _ :: _, _ :: _, i + 1, _, h, e => by
    cases h with
    | cons _ h2 =>
      obtain ⟨v, a, b⟩ := RepL.get' (i := i) h2 (by simpa using e)
      exact ⟨v, by simpa using a, b⟩
theorem RepL.append : ∀ {vs ws : List V} {ds es : List D}, RepL K A G vs ds → RepL K A G ws es → RepL K A G (vs ++ ws) (ds ++ es)
  | [], _, [], _, _, s => s
  | _ :: vs, _, _ :: ds, _, .cons r t, s => .cons r (RepL.append t s)
theorem RepL.take : ∀ {vs : List V} {ds : List D} (n : Nat), RepL K A G vs ds → RepL K A G (vs.take n) (ds.take n)
  | _, _, 0, _ => .nil
  | [], [], _ + 1, _ => .nil
  | _ :: _, _ :: _, n + 1, .cons r t => .cons r (RepL.take n t)
theorem RepL.drop : ∀ {vs : List V} {ds : List D} (n : Nat), RepL K A G vs ds → RepL K A G (vs.drop n) (ds.drop n)
  | _, _, 0, r => r
  | [], [], _ + 1, _ => .nil
  | _ :: _, _ :: _, n + 1, .cons _ t => RepL.drop n t
theorem RepL.set {v : V} {d : D} (r : Rep K A G v d) : ∀ {vs : List V} {ds : List D} (i : Nat), RepL K A G vs ds → RepL K A G (vs.set i v) (ds.set i d)
  | [], [], _, _ => .nil
  | _ :: _, _ :: _, 0, .cons _ t => .cons r t
  | _ :: _, _ :: _, i + 1, .cons q t => .cons q (RepL.set r i t)
theorem RepL.dropLast {vs : List V} {ds : List D} (h : RepL K A G vs ds) : RepL K A G vs.dropLast ds.dropLast := by
  rw [List.dropLast_eq_take, List.dropLast_eq_take, h.length]
  exact h.take _
theorem RepL.one {v : V} {d : D} (h : Rep K A G v d) : RepL K A G [v] [d] := .cons h .nil
theorem RepL.reverse : ∀ {vs : List V} {ds : List D}, RepL K A G vs ds → RepL K A G vs.reverse ds.reverse
  | [], [], _ => .nil
  | _ :: vs, _ :: ds, .cons r t => by
    rw [List.reverse_cons, List.reverse_cons]
    exact (RepL.reverse t).append (.one r)
theorem RepL.nil_iff {vs : List V} {ds : List D} (h : RepL K A G vs ds) : vs = [] ↔ ds = [] := by
  cases h <;> simp
end

/-- a world: the addresses of the store's things, the frozen heap, the store, the heap -/
structure Wd where
  A : List Addr
  G : Hp
  M : Store
  H : Hp

/-- values of a dict, pairwise -/
inductive RepKV {κ : Type} (R : V → D → Prop) : List (κ × V) → List (κ × D) → Prop
  | nil : RepKV R [] []
  | cons {k : κ} {v : V} {d : D} {vs : List (κ × V)} {ds : List (κ × D)} : R v d → RepKV R vs ds → RepKV R ((k, v) :: vs) ((k, d) :: ds)
theorem RepKV.imp {κ : Type} {R R' : V → D → Prop} (f : ∀ v d, R v d → R' v d) : ∀ {vs : List (κ × V)} {ds : List (κ × D)}, RepKV R vs ds → RepKV R' vs ds
  | _, _, .nil => .nil
  | _, _, .cons r t => .cons (f _ _ r) (RepKV.imp f t)

section
variable (K : PySem.W.Frag)
/-- what stands at the address of a thing of the store -/
def MoR (w : Wd) (a : Addr) : MO → Prop
  | .lst ds => ∃ vs, w.H a = some (.lst vs) ∧ RepL K w.A w.G vs ds
  | .dK kvs => ∃ vs, w.H a = some (.dK vs) ∧ RepKV (Rep K w.A w.G) vs kvs
  | .dT kvs => ∃ vs, w.H a = some (.dT vs) ∧ RepKV (Rep K w.A w.G) vs kvs
  | .ins c fs => ∃ vs dx, w.H a = some (.ins c dx vs) ∧ RepKV (Rep K w.A w.G) vs fs
structure Wd.Ok (w : Wd) : Prop where
  sub : Same w.G w.H
  nd : w.A.Nodup
  len : w.A.length = w.M.length
  out : ∀ a ∈ w.A, w.G a = none
  mos : ∀ (k : Nat) (o : MO), w.M[k]? = some o → ∃ a, w.A[k]? = some a ∧ MoR K w a o
/-- from one world to a later one: what is frozen stays, the store's addresses stay, what is owned by someone (neither frozen nor of the store) stays -/
structure Step (w w' : Wd) : Prop where
  ok : w'.Ok K
  pre : w.A <+: w'.A
  fro : Same w.G w'.G
  keep : ∀ p o, w.H p = some o → w.G p = none → p ∉ w.A → w'.H p = some o ∧ w'.G p = none ∧ p ∉ w'.A
end
section
variable {K : PySem.W.Frag} {w w1 w2 : Wd}
theorem Step.refl (h : w.Ok K) : Step K w w := ⟨h, List.prefix_refl _, Same.refl _, fun _ _ a b c => ⟨a, b, c⟩⟩
theorem Step.trans (a : Step K w w1) (b : Step K w1 w2) : Step K w w2 :=
  ⟨b.ok, a.pre.trans b.pre, a.fro.trans b.fro, fun p o h1 h2 h3 => let ⟨x, y, z⟩ := a.keep p o h1 h2 h3; b.keep p o x y z⟩
theorem Step.rep (s : Step K w w1) {v : V} {d : D} (h : Rep K w.A w.G v d) : Rep K w1.A w1.G v d := Rep.mono s.pre s.fro d v h
theorem Step.repL (s : Step K w w1) {vs : List V} {ds : List D} (h : RepL K w.A w.G vs ds) : RepL K w1.A w1.G vs ds := RepL.mono s.pre s.fro ds vs h

/-- a new thing, frozen at once -/
theorem Wd.Ok.fresh (h : w.Ok K) {p : Addr} (hp : w.H p = none) (o : HO) : Step K w ⟨w.A, upd w.G p o, w.M, upd w.H p o⟩ := by
  have hG : w.G p = none := h.sub.free hp
  have sG : Same w.G (upd w.G p o) := fun b u e => by rw [upd_ne (ne_of_none e hG)]; exact e
  have npA : p ∉ w.A := fun hm => by
    obtain ⟨k, hk, e⟩ := List.mem_iff_getElem.mp hm
    have hk' : k < w.M.length := by rw [← h.len]; exact hk
    obtain ⟨a, ea, r⟩ := h.mos k w.M[k] (List.getElem?_eq_getElem hk')
    have e2 : a = p := by
      rw [List.getElem?_eq_getElem hk] at ea
      exact (Option.some.inj ea).symm.trans e
    subst e2
    cases q : w.M[k] with
    | lst ds => rw [q] at r; obtain ⟨_, z, _⟩ := r; rw [hp] at z; cases z
    | dK ds => rw [q] at r; obtain ⟨_, z, _⟩ := r; rw [hp] at z; cases z
    | dT ds => rw [q] at r; obtain ⟨_, z, _⟩ := r; rw [hp] at z; cases z
    | ins c fs => rw [q] at r; obtain ⟨_, _, z, _⟩ := r; rw [hp] at z; cases z
  refine ⟨⟨fun b u e => ?_, h.nd, h.len, fun a ha => ?_, fun k m e => ?_⟩, List.prefix_refl _, sG, fun q u h1 h2 h3 => ⟨?_, ?_, h3⟩⟩
  · show upd w.H p o b = some u
    by_cases hb : b = p
    · subst hb
      have e' : upd w.G b o b = some u := e
      rw [upd_same] at e' ⊢; exact e'
    · have e' : upd w.G p o b = some u := e
      rw [upd_ne hb] at e' ⊢; exact h.sub b u e'
  · show upd w.G p o a = none
    rw [upd_ne (fun z : a = p => npA (z ▸ ha))]
    exact h.out a ha
  · obtain ⟨a, ea, r⟩ := h.mos k m e
    refine ⟨a, ea, ?_⟩
    have rr : ∀ v d, Rep K w.A w.G v d → Rep K w.A (upd w.G p o) v d := fun v d => Rep.mono (List.prefix_refl _) sG d v
    cases m with
    | lst ds =>
      obtain ⟨vs, z, q⟩ := r
      exact ⟨vs, by show upd w.H p o a = _; rw [upd_ne (ne_of_none z hp)]; exact z, RepL.mono (List.prefix_refl _) sG _ _ q⟩
    | dK ds =>
      obtain ⟨vs, z, q⟩ := r
      exact ⟨vs, by show upd w.H p o a = _; rw [upd_ne (ne_of_none z hp)]; exact z, q.imp rr⟩
    | dT ds =>
      obtain ⟨vs, z, q⟩ := r
      exact ⟨vs, by show upd w.H p o a = _; rw [upd_ne (ne_of_none z hp)]; exact z, q.imp rr⟩
    | ins c fs =>
      obtain ⟨vs, dx, z, q⟩ := r
      exact ⟨vs, dx, by show upd w.H p o a = _; rw [upd_ne (ne_of_none z hp)]; exact z, q.imp rr⟩
  · show upd w.H p o q = some u
    rw [upd_ne (ne_of_none h1 hp)]; exact h1
  · show upd w.G p o q = none
    rw [upd_ne (ne_of_none h1 hp)]; exact h2
end
end TP
/-! TPb: slots, answers, the readings of expressions and statements. -/
namespace TP
open PySem L2

/-- a name's value: none known; plain data; a list that nobody else has -/
inductive Slot where
  | un | val (d : D) | own (ds : List D)
  deriving Inhabited
abbrev EnvD := List Slot
def Slot.d : Slot → D
  | .un => .non
  | .val d => d
  | .own ds => .lst ds

inductive R (α : Type) where
  | ok (a : α) (M : Store) | exc (c : Nat) (d : D) (M : Store) | bad
def R.bind {α β : Type} (r : R α) (f : α → Store → R β) : R β := match r with
  | .ok a M => f a M
  | .exc c d M => .exc c d M
  | .bad => .bad
def R.map {α β : Type} (f : α → β) (r : R α) : R β := match r with
  | .ok a M => .ok (f a) M
  | .exc c d M => .exc c d M
  | .bad => .bad
def R.of {α : Type} (o : Option α) (M : Store) : R α := match o with
  | some a => .ok a M
  | none => .bad

abbrev Wish := Nat → D → Wd → Prop

section
variable (K : PySem.W.Frag) (E : Wish)
def After {α : Type} (w : Wd) (r : R α) (P : α → Wd → Prop) : Prop := match r with
  | .ok a M => ∀ w', Step K w w' → w'.M = M → P a w'
  | .exc c d M => ∀ w', Step K w w' → w'.M = M → E c d w'
  | .bad => False
/-- the names' values -/
structure SR (w : Wd) (ρ : EnvD) (σ : St) : Prop where
  len : ρ.length = σ.length
  val : ∀ (i : Nat) (d : D), ρ[i]? = some (.val d) → ∃ v, σ[i]? = some (some v) ∧ Rep K w.A w.G v d
  own : ∀ (i : Nat) (ds : List D), ρ[i]? = some (.own ds) → ∃ p vs, σ[i]? = some (some (.ref p)) ∧ w.H p = some (.lst vs) ∧ w.G p = none ∧ p ∉ w.A ∧ RepL K w.A w.G vs ds
  dis : ∀ (i j : Nat) (ds es : List D) (p : Addr), ρ[i]? = some (.own ds) → ρ[j]? = some (.own es) → σ[i]? = some (some (.ref p)) → σ[j]? = some (some (.ref p)) → i = j
/-- what may be read -/
def RepB (w : Wd) (v : V) (d : D) : Prop := Rep K w.A w.G v d ∨ ∃ p vs ds, v = .ref p ∧ d = .lst ds ∧ w.H p = some (.lst vs) ∧ w.G p = none ∧ p ∉ w.A ∧ RepL K w.A w.G vs ds
/-- an expression's value: plain data, or a new list of one's own -/
def RepX (w w' : Wd) (v : V) : Slot → Prop
  | .un => False
  | .val d => Rep K w'.A w'.G v d
  | .own ds => ∃ p vs, v = .ref p ∧ w.H p = none ∧ w'.H p = some (.lst vs) ∧ w'.G p = none ∧ p ∉ w'.A ∧ RepL K w'.A w'.G vs ds
abbrev FE := EnvD → Store → R Slot
abbrev FD := EnvD → Store → R D
abbrev FL := EnvD → Store → R (List D)
abbrev FB := EnvD → Store → R Bool
def tE (f : FE) : TE := fun σ H Q => ∃ ρ w, w.H = H ∧ w.Ok K ∧ SR K w ρ σ ∧ After K E w (f ρ w.M) fun s w' => ∀ v, RepX K w w' v s → Q v w'.H
def tF (f : FD) : TE := fun σ H Q => ∃ ρ w, w.H = H ∧ w.Ok K ∧ SR K w ρ σ ∧ After K E w (f ρ w.M) fun d w' => ∀ v, Rep K w'.A w'.G v d → Q v w'.H
def tR (f : FD) : TE := fun σ H Q => ∃ ρ w, w.H = H ∧ w.Ok K ∧ SR K w ρ σ ∧ After K E w (f ρ w.M) fun d w' => ∀ v, RepB K w' v d → Q v w'.H
def tAF (f : FL) : TA := fun σ H Q => ∃ ρ w, w.H = H ∧ w.Ok K ∧ SR K w ρ σ ∧ After K E w (f ρ w.M) fun ds w' => ∀ vs, RepL K w'.A w'.G vs ds → Q vs w'.H
inductive RepBL (w : Wd) : List V → List D → Prop
  | nil : RepBL w [] []
  | cons {v : V} {vs : List V} {d : D} {ds : List D} : RepB K w v d → RepBL w vs ds → RepBL w (v :: vs) (d :: ds)
def tAR (f : FL) : TA := fun σ H Q => ∃ ρ w, w.H = H ∧ w.Ok K ∧ SR K w ρ σ ∧ After K E w (f ρ w.M) fun ds w' => ∀ vs, RepBL K w' vs ds → Q vs w'.H
def tT (f : FB) : TT := fun σ H Q => ∃ ρ w, w.H = H ∧ w.Ok K ∧ SR K w ρ σ ∧ After K E w (f ρ w.M) fun b w' => Q b w'.H
end

section
variable {K : PySem.W.Frag} {E : Wish}
theorem After.bind {α β : Type} {w : Wd} {r : R α} {f : α → Store → R β} {P : β → Wd → Prop} (h : After K E w (r.bind f) P) : After K E w r fun a w' => After K E w' (f a w'.M) P := by
  cases r with
  | bad => exact h
  | exc c d M => exact h
  | ok a M =>
    intro w1 s1 e1
    have h' : After K E w (f a M) P := h
    rw [e1]
    cases q : f a M with
    | bad => rw [q] at h'; exact h'
    | exc c d M2 => rw [q] at h'; exact fun w2 s2 e2 => h' w2 (s1.trans s2) e2
    | ok b M2 => rw [q] at h'; exact fun w2 s2 e2 => h' w2 (s1.trans s2) e2
theorem After.imp {α : Type} {w : Wd} {r : R α} {P P' : α → Wd → Prop} (h : After K E w r P) (f : ∀ a w', Step K w w' → P a w' → P' a w') : After K E w r P' := by
  cases r with
  | bad => exact h
  | exc c d M => exact h
  | ok a M => exact fun w1 s1 e1 => f a w1 s1 (h w1 s1 e1)
theorem After.map {α β : Type} {w : Wd} {r : R α} {g : α → β} {P : β → Wd → Prop} (h : After K E w (r.map g) P) : After K E w r fun a w' => P (g a) w' := by
  cases r with
  | bad => exact h
  | exc c d M => exact h
  | ok a M => exact h
theorem After.of {α : Type} {w w' : Wd} {o : Option α} {P : α → Wd → Prop} (h : After K E w (R.of o w.M) P) (hs : Step K w w') (hM : w'.M = w.M) : ∃ a, o = some a ∧ P a w' := by
  cases o with
  | none => exact h.elim
  | some a => exact ⟨a, rfl, h w' hs hM⟩
/-- from an earlier world -/
theorem After.later {α : Type} {w w1 : Wd} {r : R α} {P : α → Wd → Prop} (h : After K E w r P) (s : Step K w w1) : After K E w1 r P := by
  cases r with
  | bad => exact h
  | exc c d M => exact fun w2 s2 e2 => h w2 (s.trans s2) e2
  | ok a M => exact fun w2 s2 e2 => h w2 (s.trans s2) e2
theorem SR.step {w w' : Wd} {ρ : EnvD} {σ : St} (h : SR K w ρ σ) (s : Step K w w') : SR K w' ρ σ :=
  ⟨h.len, fun i d e => let ⟨v, a, b⟩ := h.val i d e; ⟨v, a, s.rep b⟩,
   fun i ds e => let ⟨p, vs, a, b, c, d, f⟩ := h.own i ds e; let ⟨b', c', d'⟩ := s.keep p _ b c d; ⟨p, vs, a, b', c', d', s.repL f⟩, h.dis⟩
theorem RepB.step {w w' : Wd} {v : V} {d : D} (h : RepB K w v d) (s : Step K w w') : RepB K w' v d := by
  rcases h with h | ⟨p, vs, ds, e1, e2, b, c, d, f⟩
  · exact .inl (s.rep h)
  · obtain ⟨b', c', d'⟩ := s.keep p _ b c d
    exact .inr ⟨p, vs, ds, e1, e2, b', c', d', s.repL f⟩
theorem RepBL.step {w w' : Wd} (s : Step K w w') : ∀ {vs : List V} {ds : List D}, RepBL K w vs ds → RepBL K w' vs ds
  | _, _, .nil => .nil
  | _, _, .cons r t => .cons (r.step s) (RepBL.step s t)
theorem RepBL.of {w : Wd} : ∀ {vs : List V} {ds : List D}, RepL K w.A w.G vs ds → RepBL K w vs ds
  | [], [], _ => .nil
  | _ :: _, _ :: _, .cons r t => .cons (.inl r) (RepBL.of t)
/-- a list of one's own is frozen -/
theorem Wd.Ok.freeze {w : Wd} (h : w.Ok K) {p : Addr} {o : HO} (hp : w.H p = some o) (hG : w.G p = none) (hA : p ∉ w.A) : (⟨w.A, upd w.G p o, w.M, w.H⟩ : Wd).Ok K := by
  have sG : Same w.G (upd w.G p o) := fun b u e => by rw [upd_ne (ne_of_none e hG)]; exact e
  have rr : ∀ v d, Rep K w.A w.G v d → Rep K w.A (upd w.G p o) v d := fun v d => Rep.mono (List.prefix_refl _) sG d v
  refine ⟨fun b u e => ?_, h.nd, h.len, fun a ha => ?_, fun k m e => ?_⟩
  · have e' : upd w.G p o b = some u := e
    by_cases hb : b = p
    · subst hb
      rw [upd_same] at e'
      exact hp.trans e'
    · rw [upd_ne hb] at e'; exact h.sub b u e'
  · show upd w.G p o a = none
    rw [upd_ne (fun z : a = p => hA (z ▸ ha))]
    exact h.out a ha
  · obtain ⟨a, ea, r⟩ := h.mos k m e
    refine ⟨a, ea, ?_⟩
    cases m with
    | lst ds => obtain ⟨vs, z, q⟩ := r; exact ⟨vs, z, RepL.mono (List.prefix_refl _) sG _ _ q⟩
    | dK ds => obtain ⟨vs, z, q⟩ := r; exact ⟨vs, z, q.imp rr⟩
    | dT ds => obtain ⟨vs, z, q⟩ := r; exact ⟨vs, z, q.imp rr⟩
    | ins c fs => obtain ⟨vs, dx, z, q⟩ := r; exact ⟨vs, dx, z, q.imp rr⟩
theorem upd_fro {G : Hp} {p : Addr} {o : HO} (h : G p = none) : Same G (upd G p o) := fun b u e => by rw [upd_ne (ne_of_none e h)]; exact e
/-- a value of an expression, frozen -/
theorem RepX.freeze {w w' : Wd} {v : V} {s : Slot} (st : Step K w w') (h : RepX K w w' v s) : ∃ G', Step K w ⟨w'.A, G', w'.M, w'.H⟩ ∧ Rep K w'.A G' v s.d := by
  cases s with
  | un => exact h.elim
  | val d => exact ⟨w'.G, st, h⟩
  | own ds =>
    obtain ⟨p, vs, rfl, h0, hH, hG, hA, r⟩ := h
    refine ⟨upd w'.G p (.lst vs), ⟨st.ok.freeze hH hG hA, st.pre, st.fro.trans (upd_fro hG), fun q o h1 h2 h3 => ?_⟩, .lst upd_same (RepL.mono (List.prefix_refl _) (upd_fro hG) _ _ r)⟩
    obtain ⟨a, b, c⟩ := st.keep q o h1 h2 h3
    exact ⟨a, by show upd w'.G p (.lst vs) q = none; rw [upd_ne (ne_of_none h1 h0)]; exact b, c⟩
theorem RepX.b {w w' : Wd} {v : V} {s : Slot} (h : RepX K w w' v s) : RepB K w' v s.d := by
  cases s with
  | un => exact h.elim
  | val d => exact .inl h
  | own ds => obtain ⟨p, vs, e, _, hH, hG, hA, r⟩ := h; exact .inr ⟨p, vs, ds, e, rfl, hH, hG, hA, r⟩

/-- what is free now was free -/
theorem Wd.Ok.some_at {w : Wd} (h : w.Ok K) {p : Addr} (hp : p ∈ w.A) : ∃ o, w.H p = some o := by
  obtain ⟨k, hk, e⟩ := List.mem_iff_getElem.mp hp
  have hk' : k < w.M.length := by rw [← h.len]; exact hk
  obtain ⟨a, ea, r⟩ := h.mos k w.M[k] (List.getElem?_eq_getElem hk')
  have e2 : a = p := by
    rw [List.getElem?_eq_getElem hk] at ea
    exact (Option.some.inj ea).symm.trans e
  subst e2
  cases q : w.M[k] with
  | lst ds => rw [q] at r; obtain ⟨_, z, _⟩ := r; exact ⟨_, z⟩
  | dK ds => rw [q] at r; obtain ⟨_, z, _⟩ := r; exact ⟨_, z⟩
  | dT ds => rw [q] at r; obtain ⟨_, z, _⟩ := r; exact ⟨_, z⟩
  | ins c fs => rw [q] at r; obtain ⟨_, _, z, _⟩ := r; exact ⟨_, z⟩
theorem Step.free {w w' : Wd} (s : Step K w w') {p : Addr} (h : w'.H p = none) : w.H p = none := by
  cases q : w.H p with
  | none => rfl
  | some o =>
    exfalso
    cases qG : w.G p with
    | some u =>
      have := s.ok.sub p u (s.fro p u qG)
      rw [h] at this; cases this
    | none =>
      by_cases hA : p ∈ w.A
      · obtain ⟨o', z⟩ := s.ok.some_at (s.pre.subset hA)
        rw [h] at z; cases z
      · have := (s.keep p o q qG hA).1
        rw [h] at this; cases this
theorem RepX.back {w w1 w2 : Wd} {v : V} {s : Slot} (st : Step K w w1) (h : RepX K w1 w2 v s) : RepX K w w2 v s := by
  cases s with
  | un => exact h
  | val d => exact h
  | own ds => obtain ⟨p, vs, e, h0, r⟩ := h; exact ⟨p, vs, e, st.free h0, r⟩

/-! ### weaker readings -/
section
variable {X : Cx} {e : Expr}
theorem PE.wk {t t' : TE} (h : PE X e t) (f : ∀ σ H Q, t' σ H Q → t σ H Q) : PE X e t' := ⟨fun pins s σ H Q I q => h.run pins s σ H Q I (f σ H Q q)⟩
theorem PT.wk {t t' : TT} (h : PT X e t) (f : ∀ σ H Q, t' σ H Q → t σ H Q) : PT X e t' := ⟨fun pins s σ H Q I q => h.run pins s σ H Q I (f σ H Q q)⟩
theorem PW.wk {t t' : TT} (h : PW X e t) (f : ∀ σ H Q, t' σ H Q → t σ H Q) : PW X e t' := ⟨fun wh pins s σ H Q I q => h.run wh pins s σ H Q I (f σ H Q q)⟩
theorem PA.wk {es : List Expr} {t t' : TA} (h : PA X es t) (f : ∀ σ H Q, t' σ H Q → t σ H Q) : PA X es t' := ⟨fun pos pins s σ H Q I q => h.run pos pins s σ H Q I (f σ H Q q)⟩
theorem PSs.wk {sts : List Stmt} {t t' : TS} (h : PSs X sts t) (f : ∀ D σ H, t' D σ H → t D σ H) : PSs X sts t' := ⟨fun pins s σ H D I q => h.run pins s σ H D I (f D σ H q)⟩
theorem PS.wk {st : Stmt} {t t' : TS} (h : PS X st t) (f : ∀ D σ H, t' D σ H → t D σ H) : PS X st t' := ⟨fun pins s σ H D I q => h.run pins s σ H D I (f D σ H q)⟩
def dEF (f : FE) : FD := fun ρ M => (f ρ M).map Slot.d
def dFE (f : FD) : FE := fun ρ M => (f ρ M).map Slot.val
/-- frozen -/
theorem c_EF {f : FE} (h : PE X e (tE K E f)) : PE X e (tF K E (dEF f)) := PE.wk h fun σ H Q ⟨ρ, w, e1, ok, sr, a⟩ => ⟨ρ, w, e1, ok, sr, by
  have a2 := a.map
  cases q : f ρ w.M with
  | bad => rw [q] at a2; exact a2
  | exc c d M => rw [q] at a2; exact a2
  | ok s M =>
    rw [q] at a2
    intro w' st eM v r
    obtain ⟨G', st', r'⟩ := r.freeze st
    exact a2 _ st' eM v r'⟩
theorem c_EB {f : FE} (h : PE X e (tE K E f)) : PE X e (tR K E (dEF f)) := PE.wk h fun σ H Q ⟨ρ, w, e1, ok, sr, a⟩ => ⟨ρ, w, e1, ok, sr, a.map.imp fun s w' _ z v r => z v r.b⟩
theorem c_FE {f : FD} (h : PE X e (tF K E f)) : PE X e (tE K E (dFE f)) := PE.wk h fun σ H Q ⟨ρ, w, e1, ok, sr, a⟩ => ⟨ρ, w, e1, ok, sr, a.map⟩
theorem c_FB {f : FD} (h : PE X e (tF K E f)) : PE X e (tR K E f) := PE.wk h fun σ H Q ⟨ρ, w, e1, ok, sr, a⟩ => ⟨ρ, w, e1, ok, sr, a.imp fun s w' _ z v r => z v (.inl r)⟩
/-! ### names, constants -/
def dVar (i : Nat) : FD := fun ρ M => match ρ[i]? with
  | some (.val d) => .ok d M
  | _ => .bad
def dVarB (i : Nat) : FD := fun ρ M => match ρ[i]? with
  | some (.val d) => .ok d M
  | some (.own ds) => .ok (.lst ds) M
  | _ => .bad
def dC (d : D) : FD := fun _ M => .ok d M
theorem x_var {i : Nat} (h : PE X e (tVar i)) : PE X e (tF K E (dVar i)) := PE.wk h fun σ H Q ⟨ρ, w, e1, ok, sr, a⟩ => by
  subst e1
  unfold dVar at a
  split at a
  · rename_i d e2
    obtain ⟨v, h1, h2⟩ := sr.val i d e2
    exact ⟨v, h1, a w (Step.refl ok) rfl v h2⟩
  · exact a.elim
theorem x_varB {i : Nat} (h : PE X e (tVar i)) : PE X e (tR K E (dVarB i)) := PE.wk h fun σ H Q ⟨ρ, w, e1, ok, sr, a⟩ => by
  subst e1
  unfold dVarB at a
  split at a
  · rename_i d e2
    obtain ⟨v, h1, h2⟩ := sr.val i d e2
    exact ⟨v, h1, a w (Step.refl ok) rfl v (.inl h2)⟩
  · rename_i ds e2
    obtain ⟨p, vs, h1, h2, h3, h4, h5⟩ := sr.own i ds e2
    exact ⟨_, h1, a w (Step.refl ok) rfl _ (.inr ⟨p, vs, ds, rfl, rfl, h2, h3, h4, h5⟩)⟩
  · exact a.elim
theorem x_c {v : V} {d : D} (h : PE X e (tC v)) (r : ∀ A G, Rep K A G v d) : PE X e (tF K E (dC d)) := PE.wk h fun σ H Q ⟨ρ, w, e1, ok, sr, a⟩ => by
  subst e1
  exact a w (Step.refl ok) rfl v (r _ _)
end
end
end TP
/-! TPc: expressions. -/
namespace TP
open PySem L2
/-! ### views -/
/-- a list that may be changed or read -/
def lstOf (M : Store) : D → Option (List D)
  | .lst ds => some ds
  | .ref k => match M[k]? with
    | some (.lst ds) => some ds
    | _ => none
  | _ => none
/-- a list that may be read -/
def seqOf (M : Store) : D → Option (List D)
  | .fro ds => some ds
  | x => lstOf M x
section
variable {K : PySem.W.Frag} {E : Wish}
theorem lstOf_ref {M : Store} {k : Nat} {ds : List D} (h : lstOf M (.ref k) = some ds) : M[k]? = some (.lst ds) := by
  unfold lstOf at h
  simp only at h
  split at h
  · rename_i es e2
    cases h
    exact e2
  · cases h
theorem lst_at {w : Wd} (ok : w.Ok K) {v : V} {x : D} {ds : List D} (r : RepB K w v x) (h : lstOf w.M x = some ds) : ∃ p vs, v = .ref p ∧ w.H p = some (.lst vs) ∧ RepL K w.A w.G vs ds := by
  rcases r with r | ⟨p, vs, es, rfl, rfl, h1, _, _, h4⟩
  · cases r with
    | lst e rl => cases h; exact ⟨_, _, rfl, ok.sub _ _ e, rl⟩
    | @ref a k e =>
      obtain ⟨a', e3, vs, h1, h2⟩ := ok.mos k _ (lstOf_ref h)
      rw [e] at e3
      cases e3
      exact ⟨_, vs, rfl, h1, h2⟩
    | _ => cases h
  · cases h; exact ⟨p, vs, rfl, h1, h4⟩
theorem seq_at {w : Wd} (ok : w.Ok K) {v : V} {x : D} {ds : List D} (r : RepB K w v x) (h : seqOf w.M x = some ds) : ∃ p vs, v = .ref p ∧ SqL K w.H p vs ∧ RepL K w.A w.G vs ds := by
  by_cases hf : ∃ es, x = .fro es
  · obtain ⟨es, rfl⟩ := hf
    rcases r with r | ⟨p, vs, es', rfl, e, _⟩
    · cases r with
      | fro hs rl => cases h; exact ⟨_, _, rfl, ok.sub.seq hs, rl⟩
    · cases e
  · have h' : lstOf w.M x = some ds := by
      cases x <;> first | exact h | exact absurd ⟨_, rfl⟩ hf
    obtain ⟨p, vs, e, h1, h2⟩ := lst_at ok r h'
    exact ⟨p, vs, e, .inl (.inl h1), h2⟩
theorem tup_at {w : Wd} (ok : w.Ok K) {v : V} {ds : List D} (r : RepB K w v (.tup ds)) : ∃ p vs, v = .ref p ∧ SqT K w.H p vs ∧ RepL K w.A w.G vs ds := by
  rcases r with r | ⟨p, vs, es', rfl, e, _⟩
  · cases r with
    | tup hs rl => exact ⟨_, _, rfl, .inl (.inl (ok.sub _ _ hs)), rl⟩
  · cases e
theorem tupH_at {w : Wd} (ok : w.Ok K) {v : V} {ds : List D} (r : RepB K w v (.tup ds)) : ∃ p vs, v = .ref p ∧ w.H p = some (.tup vs) ∧ RepL K w.A w.G vs ds := by
  rcases r with r | ⟨p, vs, es', rfl, e, _⟩
  · cases r with
    | tup hs rl => exact ⟨_, _, rfl, ok.sub _ _ hs, rl⟩
  · cases e
theorem kt_at {w : Wd} (ok : w.Ok K) {v : V} {ds : List D} (r : RepB K w v (.kt ds)) : ∃ p vs, v = .ref p ∧ SqT K w.H p vs ∧ RepL K w.A w.G vs ds := by
  rcases r with r | ⟨p, vs, es', rfl, e, _⟩
  · cases r with
    | kt hs rl => exact ⟨_, _, rfl, sqT_mono ok.sub hs, rl⟩
  · cases e
theorem int_at {w : Wd} {v : V} {i : Int} (r : RepB K w v (.int i)) : v = .int i := by
  rcases r with r | ⟨p, vs, es', rfl, e, _⟩
  · cases r; rfl
  · cases e
theorem bl_at {w : Wd} {v : V} {i : Bool} (r : RepB K w v (.bl i)) : v = .bl i := by
  rcases r with r | ⟨p, vs, es', rfl, e, _⟩
  · cases r; rfl
  · cases e
theorem str_at {w : Wd} {v : V} {i : Str} (r : RepB K w v (.str i)) : v = .str i := by
  rcases r with r | ⟨p, vs, es', rfl, e, _⟩
  · cases r; rfl
  · cases e
theorem non_at {w : Wd} {v : V} (r : RepB K w v .non) : v = .non := by
  rcases r with r | ⟨p, vs, es', rfl, e, _⟩
  · cases r; rfl
  · cases e
/-! ### what a built-in thing does, by plain data -/
def Prim1 (K : PySem.W.Frag) (r : V → Hp → VK → Prop) (g : Store → D → Option Slot) : Prop := ∀ (w : Wd) (vx : V) (x : D) (s : Slot) (Q : VK), w.Ok K → RepB K w vx x → g w.M x = some s →
  (∀ v w', Step K w w' → w'.M = w.M → RepX K w w' v s → Q v w'.H) → r vx w.H Q
def Prim2 (K : PySem.W.Frag) (r : R2) (g : Store → D → D → Option Slot) : Prop := ∀ (w : Wd) (vx vy : V) (x y : D) (s : Slot) (Q : VK), w.Ok K → RepB K w vx x → RepB K w vy y → g w.M x y = some s →
  (∀ v w', Step K w w' → w'.M = w.M → RepX K w w' v s → Q v w'.H) → r vx vy w.H Q
def PrimN (K : PySem.W.Frag) (r : List V → Hp → VK → Prop) (g : Store → List D → Option Slot) : Prop := ∀ (w : Wd) (vs : List V) (ds : List D) (s : Slot) (Q : VK), w.Ok K → RepBL K w vs ds → g w.M ds = some s →
  (∀ v w', Step K w w' → w'.M = w.M → RepX K w w' v s → Q v w'.H) → r vs w.H Q
def PrimM (K : PySem.W.Frag) (r : V → List V → Hp → VK → Prop) (g : Store → D → List D → Option Slot) : Prop := ∀ (w : Wd) (vx : V) (x : D) (vs : List V) (ds : List D) (s : Slot) (Q : VK), w.Ok K → RepB K w vx x → RepBL K w vs ds → g w.M x ds = some s →
  (∀ v w', Step K w w' → w'.M = w.M → RepX K w w' v s → Q v w'.H) → r vx vs w.H Q
def dOp1 (g : Store → D → Option Slot) (fa : FD) : FE := fun ρ M => (fa ρ M).bind fun x M => R.of (g M x) M
def dOp2 (g : Store → D → D → Option Slot) (fa fb : FD) : FE := fun ρ M => (fa ρ M).bind fun x M => (fb ρ M).bind fun y M => R.of (g M x y) M
def dPr (g : Store → List D → Option Slot) (fs : FL) : FE := fun ρ M => (fs ρ M).bind fun ds M => R.of (g M ds) M
section
variable {X : Cx} {e : Expr}
theorem fin_of {w w2 : Wd} {o : Option Slot} {Q : VK} (s : Step K w w2) (a : After K E w2 (R.of o w2.M) fun s w' => ∀ v, RepX K w w' v s → Q v w'.H) :
    ∃ s, o = some s ∧ ∀ v w', Step K w2 w' → w'.M = w2.M → RepX K w2 w' v s → Q v w'.H := by
  cases o with
  | none => exact a.elim
  | some x => exact ⟨x, rfl, fun v w' s3 e3 rv => a w' s3 e3 v (rv.back s)⟩
theorem x_op2 {r : R2} {g : Store → D → D → Option Slot} {fa fb : FD} (h : PE X e (tOp r (tR K E fa) (tR K E fb))) (p : Prim2 K r g) : PE X e (tE K E (dOp2 g fa fb)) := PE.wk h fun σ H Q ⟨ρ, w, e1, ok, sr, a⟩ =>
  ⟨ρ, w, e1, ok, sr, a.bind.imp fun x w1 s1 a1 vx rx => ⟨ρ, w1, rfl, s1.ok, sr.step s1, a1.bind.imp fun y w2 s2 a2 vy ry => by
    obtain ⟨s, es, k⟩ := fin_of (s1.trans s2) a2
    exact p w2 vx vy x y s Q s2.ok (rx.step s2) ry es k⟩⟩
theorem x_op1 {r : V → Hp → VK → Prop} {g : Store → D → Option Slot} {fa : FD} (h : PE X e (tUn r (tR K E fa))) (p : Prim1 K r g) : PE X e (tE K E (dOp1 g fa)) := PE.wk h fun σ H Q ⟨ρ, w, e1, ok, sr, a⟩ =>
  ⟨ρ, w, e1, ok, sr, a.bind.imp fun x w1 s1 a1 vx rx => by
    obtain ⟨s, es, k⟩ := fin_of s1 a1
    exact p w1 vx x s Q s1.ok rx es k⟩
theorem x_prim {r : List V → Hp → VK → Prop} {g : Store → List D → Option Slot} {fs : FL} (h : PE X e (tCB r (tAR K E fs))) (p : PrimN K r g) : PE X e (tE K E (dPr g fs)) := PE.wk h fun σ H Q ⟨ρ, w, e1, ok, sr, a⟩ =>
  ⟨ρ, w, e1, ok, sr, a.bind.imp fun x w1 s1 a1 vx rx => by
    obtain ⟨s, es, k⟩ := fin_of s1 a1
    exact p w1 vx x s Q s1.ok rx es k⟩
/-! ### lists of arguments -/
def dNil : FL := fun _ M => .ok [] M
def dCons (f : FD) (fs : FL) : FL := fun ρ M => (f ρ M).bind fun d M => (fs ρ M).bind fun ds M => .ok (d :: ds) M
variable {es : List Expr}
theorem xa_nil (h : PA X [] tNil) : PA X [] (tAF K E dNil) := PA.wk h fun σ H Q ⟨ρ, w, e1, ok, sr, a⟩ => by
  subst e1
  exact a w (Step.refl ok) rfl [] .nil
theorem xr_nil (h : PA X [] tNil) : PA X [] (tAR K E dNil) := PA.wk h fun σ H Q ⟨ρ, w, e1, ok, sr, a⟩ => by
  subst e1
  exact a w (Step.refl ok) rfl [] .nil
theorem xa_cons {f : FD} {fs : FL} (h : PA X es (tCons (tF K E f) (tAF K E fs))) : PA X es (tAF K E (dCons f fs)) := PA.wk h fun σ H Q ⟨ρ, w, e1, ok, sr, a⟩ =>
  ⟨ρ, w, e1, ok, sr, a.bind.imp fun d w1 s1 a1 v rv => ⟨ρ, w1, rfl, s1.ok, sr.step s1, a1.bind.imp fun ds w2 s2 a2 vs rvs => a2 w2 (Step.refl s2.ok) rfl _ (.cons (s2.rep rv) rvs)⟩⟩
theorem xr_cons {f : FD} {fs : FL} (h : PA X es (tCons (tR K E f) (tAR K E fs))) : PA X es (tAR K E (dCons f fs)) := PA.wk h fun σ H Q ⟨ρ, w, e1, ok, sr, a⟩ =>
  ⟨ρ, w, e1, ok, sr, a.bind.imp fun d w1 s1 a1 v rv => ⟨ρ, w1, rfl, s1.ok, sr.step s1, a1.bind.imp fun ds w2 s2 a2 vs rvs => a2 w2 (Step.refl s2.ok) rfl _ (.cons (rv.step s2) rvs)⟩⟩
theorem sizeOf_le {n : Nat} (h : decide (n ≤ sizeLine) = true) : n ≤ sizeLine := of_decide_eq_true h
/-- a tuple of written items -/
def dTup (fs : FL) : FD := fun ρ M => (fs ρ M).bind fun ds M => if ds.length ≤ sizeLine then .ok (.tup ds) M else .bad
def dLst (fs : FL) : FE := fun ρ M => (fs ρ M).bind fun ds M => if ds.length ≤ sizeLine then .ok (.own ds) M else .bad
theorem x_tup {fs : FL} (h : PE X e (tTup (tAF K E fs))) : PE X e (tF K E (dTup fs)) := PE.wk h fun σ H Q ⟨ρ, w, e1, ok, sr, a⟩ =>
  ⟨ρ, w, e1, ok, sr, a.bind.imp fun ds w1 s1 a1 vs rvs => by
    split at a1
    · rename_i hl
      refine ⟨by rw [rvs.length]; exact hl, fun p hp => ?_⟩
      have st := s1.ok.fresh hp (.tup vs)
      exact a1 _ st rfl _ (.tup upd_same (st.repL rvs))
    · exact a1.elim⟩
/-- a new thing that is not frozen: a list of one's own -/
theorem Wd.Ok.fresh0 {w : Wd} (h : w.Ok K) {p : Addr} (hp : w.H p = none) (o : HO) : Step K w ⟨w.A, w.G, w.M, upd w.H p o⟩ := by
  have hG : w.G p = none := h.sub.free hp
  refine ⟨⟨fun b u e => ?_, h.nd, h.len, h.out, fun k m e => ?_⟩, List.prefix_refl _, Same.refl _, fun q u h1 h2 h3 => ⟨?_, h2, h3⟩⟩
  · show upd w.H p o b = some u
    rw [upd_ne (ne_of_none e hG)]
    exact h.sub b u e
  · obtain ⟨a, ea, r⟩ := h.mos k m e
    refine ⟨a, ea, ?_⟩
    cases m with
    | lst ds => obtain ⟨vs, z, q⟩ := r; exact ⟨vs, by show upd w.H p o a = _; rw [upd_ne (ne_of_none z hp)]; exact z, q⟩
    | dK ds => obtain ⟨vs, z, q⟩ := r; exact ⟨vs, by show upd w.H p o a = _; rw [upd_ne (ne_of_none z hp)]; exact z, q⟩
    | dT ds => obtain ⟨vs, z, q⟩ := r; exact ⟨vs, by show upd w.H p o a = _; rw [upd_ne (ne_of_none z hp)]; exact z, q⟩
    | ins c fs => obtain ⟨vs, dx, z, q⟩ := r; exact ⟨vs, dx, by show upd w.H p o a = _; rw [upd_ne (ne_of_none z hp)]; exact z, q⟩
  · show upd w.H p o q = some u
    rw [upd_ne (ne_of_none h1 hp)]; exact h1
theorem Wd.Ok.notA {w : Wd} (h : w.Ok K) {p : Addr} (hp : w.H p = none) : p ∉ w.A := fun hm => by
  obtain ⟨o, z⟩ := h.some_at hm
  rw [hp] at z; cases z
/-- a new list, as a value of its own -/
theorem own_new {w w1 : Wd} (s1 : Step K w w1) {p : Addr} (hp : w1.H p = none) {vs : List V} {ds : List D} (r : RepL K w1.A w1.G vs ds) :
    RepX K w ⟨w1.A, w1.G, w1.M, upd w1.H p (.lst vs)⟩ (.ref p) (.own ds) :=
  ⟨p, vs, rfl, s1.free hp, upd_same, s1.ok.sub.free hp, s1.ok.notA hp, r⟩
theorem x_lst {fs : FL} (h : PE X e (tLst (tAF K E fs))) : PE X e (tE K E (dLst fs)) := PE.wk h fun σ H Q ⟨ρ, w, e1, ok, sr, a⟩ =>
  ⟨ρ, w, e1, ok, sr, a.bind.imp fun ds w1 s1 a1 vs rvs => by
    split at a1
    · rename_i hl
      refine ⟨by rw [rvs.length]; exact hl, fun p hp => ?_⟩
      exact a1 _ (s1.ok.fresh0 hp (.lst vs)) rfl _ (own_new s1 hp rvs)
    · exact a1.elim⟩
/-! ### tests -/
/-- truth -/
def truD (M : Store) : D → Option Bool
  | .non => some false
  | .bl b => some b
  | .int i => some (i != 0)
  | .str y => if y.length ≤ sizeLine then some ((y.length : Int) != 0) else none
  | .tup ds => some (!ds.isEmpty)
  | .ref k => match M[k]? with
    | some (.lst ds) => some (!ds.isEmpty)
    | some (.dK ds) => some (!ds.isEmpty)
    | _ => none
  | .lst ds => some (!ds.isEmpty)
  | .fro ds => some (!ds.isEmpty)
  | .kt ds => some (!ds.isEmpty)
theorem RepL.emp {A : List Addr} {G : Hp} {vs : List V} {ds : List D} (h : RepL K A G vs ds) : ds.isEmpty = vs.isEmpty := by cases h <;> rfl
theorem RepKV.emp {κ : Type} {R : V → D → Prop} {vs : List (κ × V)} {ds : List (κ × D)} (h : RepKV R vs ds) : ds.isEmpty = vs.isEmpty := by cases h <;> rfl
theorem tru_at {w : Wd} (ok : w.Ok K) {v : V} {x : D} {b : Bool} (r : RepB K w v x) (h : truD w.M x = some b) : TruV K v w.H b := by
  cases x with
  | non => cases non_at r; exact (Option.some.inj h).symm
  | bl c => cases bl_at r; exact (Option.some.inj h).symm
  | int i => cases int_at r; exact (Option.some.inj h).symm
  | str y =>
    cases str_at r
    simp only [truD] at h
    split at h
    · rename_i hl; exact ⟨hl, (Option.some.inj h).symm⟩
    · cases h
  | tup ds =>
    obtain ⟨p, vs, rfl, hs, rl⟩ := tup_at ok r
    exact .inr (.inl ⟨vs, hs, by rw [← rl.emp]; exact (Option.some.inj h).symm⟩)
  | lst ds =>
    obtain ⟨p, vs, rfl, hs, rl⟩ := lst_at (ds := ds) ok r rfl
    exact .inl ⟨vs, .inl (.inl hs), by rw [← rl.emp]; exact (Option.some.inj h).symm⟩
  | fro ds =>
    obtain ⟨p, vs, rfl, hs, rl⟩ := seq_at (ds := ds) ok r rfl
    exact .inl ⟨vs, hs, by rw [← rl.emp]; exact (Option.some.inj h).symm⟩
  | kt ds =>
    obtain ⟨p, vs, rfl, hs, rl⟩ := kt_at ok r
    exact .inr (.inl ⟨vs, hs, by rw [← rl.emp]; exact (Option.some.inj h).symm⟩)
  | ref k =>
    simp only [truD] at h
    rcases r with r | ⟨p, vs, es', rfl, e, _⟩
    · cases r with
      | @ref a k ek =>
        split at h
        · rename_i ds e2
          obtain ⟨a', e3, vs, h1, h2⟩ := ok.mos k _ e2
          rw [ek] at e3; cases e3
          exact .inl ⟨vs, .inl (.inl h1), by rw [← h2.emp]; exact (Option.some.inj h).symm⟩
        · rename_i ds e2
          obtain ⟨a', e3, vs, h1, h2⟩ := ok.mos k _ e2
          rw [ek] at e3; cases e3
          exact .inr (.inr ⟨vs, h1, by rw [← h2.emp]; exact (Option.some.inj h).symm⟩)
        · cases h
    · cases e
def dTru (f : FD) : FB := fun ρ M => (f ρ M).bind fun x M => R.of (truD M x) M
theorem x_truth {f : FD} (h : PT X e (fun σ H Q => tR K E f σ H fun x H' => ∃ k, TruV K x H' k ∧ Q k H')) : PT X e (tT K E (dTru f)) := PT.wk h fun σ H Q ⟨ρ, w, e1, ok, sr, a⟩ =>
  ⟨ρ, w, e1, ok, sr, a.bind.imp fun x w1 s1 a1 v rv => by
    obtain ⟨b, eb, k⟩ := a1.of (Step.refl s1.ok) rfl
    exact ⟨b, tru_at s1.ok rv eb, k⟩⟩
/-- a test that is a bool expression (a comparison) -/
def boD : D → Option Bool
  | .bl b => some b
  | _ => none
def dBo (f : FE) : FB := fun ρ M => (f ρ M).bind fun x M => R.of (boD x.d) M
theorem x_test {t : TE} {f : FE} (h : PT X e (tTest t)) (ht : ∀ σ H Q, tE K E f σ H Q → t σ H Q) : PT X e (tT K E (dBo f)) := PT.wk h fun σ H Q ⟨ρ, w, e1, ok, sr, a⟩ =>
  ht _ _ _ ⟨ρ, w, e1, ok, sr, a.bind.imp fun x w1 s1 a1 v rv => by
    obtain ⟨b, eb, k⟩ := a1.of (Step.refl s1.ok) rfl
    cases x with
    | un => cases eb
    | own ds => cases eb
    | val d =>
      cases d with
      | bl c => cases eb; cases rv; exact ⟨_, rfl, k⟩
      | _ => cases eb⟩
def dNot (f : FB) : FB := fun ρ M => (f ρ M).map fun b => !b
theorem x_not {f : FB} (h : PT X e (tNot (tT K E f))) : PT X e (tT K E (dNot f)) := PT.wk h fun σ H Q ⟨ρ, w, e1, ok, sr, a⟩ => ⟨ρ, w, e1, ok, sr, a.map⟩
def dAnd (f g : FB) : FB := fun ρ M => (f ρ M).bind fun b M => if b then g ρ M else .ok false M
def dOr (f g : FB) : FB := fun ρ M => (f ρ M).bind fun b M => if b then .ok true M else g ρ M
theorem x_and {f g : FB} (h : PW X e (tAnd (tT K E f) (tT K E g))) : PW X e (tT K E (dAnd f g)) := PW.wk h fun σ H Q ⟨ρ, w, e1, ok, sr, a⟩ =>
  ⟨ρ, w, e1, ok, sr, a.bind.imp fun b w1 s1 a1 => by
    cases b with
    | true => exact iteT ⟨ρ, w1, rfl, s1.ok, sr.step s1, a1⟩
    | false => exact iteF (a1 w1 (Step.refl s1.ok) rfl)⟩
theorem x_or {f g : FB} (h : PW X e (tOr (tT K E f) (tT K E g))) : PW X e (tT K E (dOr f g)) := PW.wk h fun σ H Q ⟨ρ, w, e1, ok, sr, a⟩ =>
  ⟨ρ, w, e1, ok, sr, a.bind.imp fun b w1 s1 a1 => by
    cases b with
    | true => exact iteT (a1 w1 (Step.refl s1.ok) rfl)
    | false => exact iteF ⟨ρ, w1, rfl, s1.ok, sr.step s1, a1⟩⟩
/-- a if c else b -/
def dIf (c : FB) (f g : FE) : FE := fun ρ M => (c ρ M).bind fun b M => if b then f ρ M else g ρ M
theorem tE_back {f : FE} {w w1 : Wd} {ρ : EnvD} {σ : St} {Q : VK} (s1 : Step K w w1) (sr : SR K w ρ σ) (a : After K E w1 (f ρ w1.M) fun s w' => ∀ v, RepX K w w' v s → Q v w'.H) : tE K E f σ w1.H Q :=
  ⟨ρ, w1, rfl, s1.ok, sr.step s1, a.imp fun s w' _ z v rv => z v (rv.back s1)⟩
theorem x_if {c : FB} {f g : FE} (h : PE X e (tIf (tT K E c) (tE K E f) (tE K E g))) : PE X e (tE K E (dIf c f g)) := PE.wk h fun σ H Q ⟨ρ, w, e1, ok, sr, a⟩ =>
  ⟨ρ, w, e1, ok, sr, a.bind.imp fun b w1 s1 a1 => by
    cases b with
    | true => exact iteT (tE_back s1 sr a1)
    | false => exact iteF (tE_back s1 sr a1)⟩
/-- and, or as values of bools -/
def dAndV (f g : FE) : FE := fun ρ M => (f ρ M).bind fun x M => match x with
  | .val (.bl true) => g ρ M
  | .val (.bl false) => .ok (.val (.bl false)) M
  | _ => .bad
def dOrV (f g : FE) : FE := fun ρ M => (f ρ M).bind fun x M => match x with
  | .val (.bl true) => .ok (.val (.bl true)) M
  | .val (.bl false) => g ρ M
  | _ => .bad
def dNotV (f : FE) : FE := fun ρ M => (f ρ M).bind fun x M => match x with
  | .val (.bl b) => .ok (.val (.bl (!b))) M
  | _ => .bad
theorem x_andV {f g : FE} (h : PE X e (tAndV (tE K E f) (tE K E g))) : PE X e (tE K E (dAndV f g)) := PE.wk h fun σ H Q ⟨ρ, w, e1, ok, sr, a⟩ =>
  ⟨ρ, w, e1, ok, sr, a.bind.imp fun x w1 s1 a1 v rv => by
    split at a1
    · cases rv; exact ⟨true, rfl, iteT (tE_back s1 sr a1)⟩
    · cases rv; exact ⟨false, rfl, iteF (a1 w1 (Step.refl s1.ok) rfl _ (.bl _))⟩
    · exact a1.elim⟩
theorem x_orV {f g : FE} (h : PE X e (tOrV (tE K E f) (tE K E g))) : PE X e (tE K E (dOrV f g)) := PE.wk h fun σ H Q ⟨ρ, w, e1, ok, sr, a⟩ =>
  ⟨ρ, w, e1, ok, sr, a.bind.imp fun x w1 s1 a1 v rv => by
    split at a1
    · cases rv; exact ⟨true, rfl, iteT (a1 w1 (Step.refl s1.ok) rfl _ (.bl _))⟩
    · cases rv; exact ⟨false, rfl, iteF (tE_back s1 sr a1)⟩
    · exact a1.elim⟩
theorem x_notV {f : FE} (h : PE X e (tNotV (tE K E f))) : PE X e (tE K E (dNotV f)) := PE.wk h fun σ H Q ⟨ρ, w, e1, ok, sr, a⟩ =>
  ⟨ρ, w, e1, ok, sr, a.bind.imp fun x w1 s1 a1 v rv => by
    split at a1
    · cases rv; exact ⟨_, rfl, a1 w1 (Step.refl s1.ok) rfl _ (.bl _)⟩
    · exact a1.elim⟩
end
end
end TP
/-! TPd: methods, slices, calls, what is walked, targets, comprehensions. -/
namespace TP
open PySem L2
section
variable {K : PySem.W.Frag} {E : Wish} {X : Cx} {e : Expr}
/-! ### methods of built-in types -/
def tyD (M : Store) : D → Option String
  | .str _ => some "str"
  | .int _ => some "int"
  | .lst _ => some "list"
  | .fro _ => some "list"
  | .ref k => match M[k]? with
    | some (.lst _) => some "list"
    | some (.dK _) => some "dict"
    | some (.dT _) => some "dict"
    | _ => none
  | _ => none
theorem ty_at {w : Wd} (ok : w.Ok K) {v : V} {x : D} {T : String} (r : RepB K w v x) (h : tyD w.M x = some T) : tyV K T v w.H := by
  cases x with
  | str y => cases str_at r; exact (Option.some.inj h).symm
  | int y => cases int_at r; exact (Option.some.inj h).symm
  | lst ds =>
    obtain ⟨p, vs, rfl, hs, rl⟩ := lst_at (ds := ds) ok r rfl
    exact .inl ⟨(Option.some.inj h).symm, vs, .inl (.inl hs)⟩
  | fro ds =>
    obtain ⟨p, vs, rfl, hs, rl⟩ := seq_at (ds := ds) ok r rfl
    exact .inl ⟨(Option.some.inj h).symm, vs, hs⟩
  | ref k =>
    simp only [tyD] at h
    rcases r with r | ⟨p, vs, es', rfl, e, _⟩
    · cases r with
      | @ref a k ek =>
        split at h
        · rename_i ds e2
          obtain ⟨a', e3, vs, h1, h2⟩ := ok.mos k _ e2
          rw [ek] at e3; cases e3
          exact .inl ⟨(Option.some.inj h).symm, vs, .inl (.inl h1)⟩
        · rename_i ds e2
          obtain ⟨a', e3, vs, h1, h2⟩ := ok.mos k _ e2
          rw [ek] at e3; cases e3
          exact .inr (.inr (.inl ⟨(Option.some.inj h).symm, .inl ⟨vs, h1⟩⟩))
        · rename_i ds e2
          obtain ⟨a', e3, vs, h1, h2⟩ := ok.mos k _ e2
          rw [ek] at e3; cases e3
          exact .inr (.inr (.inl ⟨(Option.some.inj h).symm, .inr ⟨vs, h1⟩⟩))
        · cases h
    · cases e
  | non => cases h
  | bl b => cases h
  | tup ds => cases h
  | kt ds => cases h
def dMeth (T : String) (g : Store → D → List D → Option Slot) (fo : FD) (fs : FL) : FE := fun ρ M => (fo ρ M).bind fun x M => if tyD M x = some T then (fs ρ M).bind fun ds M => R.of (g M x ds) M else .bad
theorem x_meth {T : String} {r : V → List V → Hp → VK → Prop} {g : Store → D → List D → Option Slot} {fo : FD} {fs : FL} (h : PE X e (tBM K T r (tR K E fo) (tAR K E fs))) (p : PrimM K r g) : PE X e (tE K E (dMeth T g fo fs)) := PE.wk h fun σ H Q ⟨ρ, w, e1, ok, sr, a⟩ =>
  ⟨ρ, w, e1, ok, sr, a.bind.imp fun x w1 s1 a1 vx rx => by
    split at a1
    · rename_i ht
      refine ⟨ty_at s1.ok rx ht, ρ, w1, rfl, s1.ok, sr.step s1, a1.bind.imp fun ds w2 s2 a2 vs rvs => ?_⟩
      obtain ⟨s, es, k⟩ := fin_of (s1.trans s2) a2
      exact p w2 vx x vs ds s Q s2.ok (rx.step s2) rvs es k
    · exact a1.elim⟩
def dMeth0 (T : String) (g : Store → D → List D → Option Slot) (fo : FD) : FE := fun ρ M => (fo ρ M).bind fun x M => if tyD M x = some T then R.of (g M x []) M else .bad
theorem x_meth0 {T : String} {r : V → List V → Hp → VK → Prop} {g : Store → D → List D → Option Slot} {fo : FD} (h : PE X e (tBM0 K T r (tR K E fo))) (p : PrimM K r g) : PE X e (tE K E (dMeth0 T g fo)) := PE.wk h fun σ H Q ⟨ρ, w, e1, ok, sr, a⟩ =>
  ⟨ρ, w, e1, ok, sr, a.bind.imp fun x w1 s1 a1 vx rx => by
    split at a1
    · rename_i ht
      obtain ⟨s, es, k⟩ := fin_of s1 a1
      exact ⟨ty_at s1.ok rx ht, p w1 vx x [] [] s Q s1.ok rx .nil es k⟩
    · exact a1.elim⟩
/-! ### slices -/
abbrev FO := EnvD → Store → R (Option Int)
def tO (K : PySem.W.Frag) (E : Wish) (f : FO) : TO := fun σ H Q => ∃ ρ w, w.H = H ∧ w.Ok K ∧ SR K w ρ σ ∧ After K E w (f ρ w.M) fun o w' => Q o w'.H
def dNo : FO := fun _ M => .ok none M
def dSo (f : FD) : FO := fun ρ M => (f ρ M).bind fun x M => match x with
  | .int i => .ok (some i) M
  | _ => .bad
theorem PO.wk {o : Option Expr} {t t' : TO} (h : PO X o t) (f : ∀ σ H Q, t' σ H Q → t σ H Q) : PO X o t' := ⟨fun pins s σ H Q I q => h.run pins s σ H Q I (f σ H Q q)⟩
theorem x_no : PO X none (tO K E dNo) := PO.wk po_none fun σ H Q ⟨ρ, w, e1, ok, sr, a⟩ => by
  subst e1
  exact a w (Step.refl ok) rfl
theorem x_so {f : FD} (h : PE X e (tR K E f)) : PO X (some e) (tO K E (dSo f)) := PO.wk (po_some h) fun σ H Q ⟨ρ, w, e1, ok, sr, a⟩ =>
  ⟨ρ, w, e1, ok, sr, a.bind.imp fun x w1 s1 a1 v rv => by
    split at a1
    · exact ⟨_, int_at rv, a1 w1 (Step.refl s1.ok) rfl⟩
    · exact a1.elim⟩
def PrimS (K : PySem.W.Frag) (r : V → Option Int → Option Int → Hp → VK → Prop) (g : Store → D → Option Int → Option Int → Option Slot) : Prop := ∀ (w : Wd) (vx : V) (x : D) (lo hi : Option Int) (s : Slot) (Q : VK), w.Ok K → RepB K w vx x → g w.M x lo hi = some s →
  (∀ v w', Step K w w' → w'.M = w.M → RepX K w w' v s → Q v w'.H) → r vx lo hi w.H Q
def dSl (g : Store → D → Option Int → Option Int → Option Slot) (f : FD) (lo hi : FO) : FE := fun ρ M => (f ρ M).bind fun x M => (lo ρ M).bind fun l M => (hi ρ M).bind fun u M => R.of (g M x l u) M
theorem x_sl {r : V → Option Int → Option Int → Hp → VK → Prop} {g : Store → D → Option Int → Option Int → Option Slot} {f : FD} {lo hi : FO} (h : PE X e (tSl r (tR K E f) (tO K E lo) (tO K E hi))) (p : PrimS K r g) : PE X e (tE K E (dSl g f lo hi)) := PE.wk h fun σ H Q ⟨ρ, w, e1, ok, sr, a⟩ =>
  ⟨ρ, w, e1, ok, sr, a.bind.imp fun x w1 s1 a1 vx rx => ⟨ρ, w1, rfl, s1.ok, sr.step s1, a1.bind.imp fun l w2 s2 a2 => ⟨ρ, w2, rfl, s2.ok, (sr.step s1).step s2, a2.bind.imp fun u w3 s3 a3 => by
    obtain ⟨s, es, k⟩ := fin_of ((s1.trans s2).trans s3) a3
    exact p w3 vx x l u s Q s3.ok ((rx.step s2).step s3) es k⟩⟩⟩
/-! ### calls of defs of the text -/
abbrev Fn := List D → Store → R Slot
/-- n: how many arguments; We: from the wish about an exception's class and dict to ours -/
def spD (K : PySem.W.Frag) (We : XK → Wish) (n : Nat) (m : Fn) : Sp := fun vs H Q EX => vs.length = n ∧ ∃ ds w, w.H = H ∧ w.Ok K ∧ RepL K w.A w.G vs ds ∧ After K (We EX) w (m ds w.M) fun s w' => ∀ v, RepX K w w' v s → Q v w'.H
def dCall (n : Nat) (m : Fn) (fs : FL) : FE := fun ρ M => (fs ρ M).bind fun ds M => if ds.length = n then m ds M else .bad
theorem x_call {We : XK → Wish} {n : Nat} {m : Fn} {EX : XK} {fs : FL} (hE : We EX = E) (h : PE X e (tCall (spD K We n m) [] EX (tAF K E fs))) : PE X e (tE K E (dCall n m fs)) := PE.wk h fun σ H Q ⟨ρ, w, e1, ok, sr, a⟩ =>
  ⟨ρ, w, e1, ok, sr, a.bind.imp fun ds w1 s1 a1 vs rvs => by
    split at a1
    · rename_i hn
      refine ⟨by rw [List.append_nil, rvs.length]; exact hn, ds, w1, rfl, s1.ok, by rw [List.append_nil]; exact rvs, ?_⟩
      rw [hE]
      exact a1.imp fun s w' _ z v rv => z v (rv.back s1)
    · exact a1.elim⟩
theorem x_call0 {We : XK → Wish} {m : Fn} {EX : XK} (hE : We EX = E) (h : PE X e (tCall (spD K We 0 m) [] EX tNil)) : PE X e (tE K E (dCall 0 m dNil)) := PE.wk h fun σ H Q ⟨ρ, w, e1, ok, sr, a⟩ => by
  subst e1
  refine ⟨rfl, [], w, rfl, ok, .nil, ?_⟩
  rw [hE]
  exact a
/-! ### what is walked -/
def Le (w w' : Wd) : Prop := w.A <+: w'.A ∧ Same w.G w'.G
theorem Le.refl (w : Wd) : Le w w := ⟨List.prefix_refl _, Same.refl _⟩
theorem Le.trans {w w1 w2 : Wd} (a : Le w w1) (b : Le w1 w2) : Le w w2 := ⟨a.1.trans b.1, a.2.trans b.2⟩
theorem Step.le {w w' : Wd} (s : Step K w w') : Le w w' := ⟨s.pre, s.fro⟩
theorem Le.rep {w w' : Wd} (s : Le w w') {v : V} {d : D} (h : Rep K w.A w.G v d) : Rep K w'.A w'.G v d := Rep.mono s.1 s.2 d v h
theorem Le.repL {w w' : Wd} (s : Le w w') {v : List V} {d : List D} (h : RepL K w.A w.G v d) : RepL K w'.A w'.G v d := RepL.mono s.1 s.2 d v h
/-- the iterator yields these things, whatever comes between, as long as what is frozen stays -/
def IterOk (K : PySem.W.Frag) (w : Wd) (J : It) (ds : List D) : Prop := ∀ w2, Le w w2 → w2.Ok K → ∀ i, (∀ d, ds[i]? = some d → J.go i w2.H ∧ ∀ x H', J.yld i w2.H x H' → ∃ w3, Step K w2 w3 ∧ w3.M = w2.M ∧ w3.H = H' ∧ Rep K w3.A w3.G x d) ∧ (ds.length ≤ i → J.stop i w2.H)
def tI (K : PySem.W.Frag) (E : Wish) (f : FL) : TI := fun σ H Q => ∃ ρ w, w.H = H ∧ w.Ok K ∧ SR K w ρ σ ∧ After K E w (f ρ w.M) fun ds w' => ∀ J, IterOk K w' J ds → Q J w'.H
theorem PI.wk {tg : Expr} {t t' : TI} (h : PI X tg e t) (f : ∀ σ H Q, t' σ H Q → t σ H Q) : PI X tg e t' := ⟨fun pins s σ H Q I q => h.run pins s σ H Q I (f σ H Q q)⟩
theorem PI.or {tg : Expr} {t t' : TI} (h : PI X tg e t) (h' : PI X tg e t') : PI X tg e (fun σ H Q => t σ H Q ∨ t' σ H Q) := ⟨fun pins s σ H Q I q => q.elim (h.run pins s σ H Q I) (h'.run pins s σ H Q I)⟩
/-- the items of a thing that is walked -/
def itemsD : D → Option (List D)
  | .lst ds => some ds
  | .fro ds => some ds
  | .tup ds => some ds
  | .kt ds => some ds
  | .str x => some (x.cps.toList.map fun c => .str ⟨#[c]⟩)
  | _ => none
def dIt (f : FD) : FL := fun ρ M => (f ρ M).bind fun x M => R.of (itemsD x) M
theorem it_list {w : Wd} {a : Addr} {vs : List V} {ds : List D} (hs : SqL K w.G a vs) (rl : RepL K w.A w.G vs ds) : IterOk K w (Itl K a) ds := fun w2 le ok2 i => by
  have h2 : SqL K w2.H a vs := ok2.sub.seq (le.2.seq hs)
  have r2 := le.repL rl
  refine ⟨fun d ed => ?_, fun hl => ⟨vs, h2, by rw [rl.length]; exact hl⟩⟩
  obtain ⟨v, ev, rv⟩ := r2.get ed
  refine ⟨⟨vs, v, h2, ev⟩, fun x H' y => ?_⟩
  obtain ⟨eH, y⟩ := y
  have := y vs h2
  rw [ev] at this
  cases this
  exact ⟨w2, Step.refl ok2, rfl, eH.symm, rv⟩
theorem it_tup {w : Wd} {a : Addr} {vs : List V} {ds : List D} (hs : SqT K w.G a vs) (rl : RepL K w.A w.G vs ds) : IterOk K w (Itt K a) ds := fun w2 le ok2 i => by
  have h2 : SqT K w2.H a vs := sqT_mono ok2.sub (sqT_mono le.2 hs)
  have r2 := le.repL rl
  refine ⟨fun d ed => ?_, fun hl => ⟨vs, h2, by rw [rl.length]; exact hl⟩⟩
  obtain ⟨v, ev, rv⟩ := r2.get ed
  refine ⟨⟨vs, v, h2, ev⟩, fun x H' y => ?_⟩
  obtain ⟨eH, y⟩ := y
  have := y vs h2
  rw [ev] at this
  cases this
  exact ⟨w2, Step.refl ok2, rfl, eH.symm, rv⟩
theorem it_str {w : Wd} (x : Str) : IterOk K w (Its x) (x.cps.toList.map fun c => .str ⟨#[c]⟩) := fun w2 le ok2 i => by
  refine ⟨fun d ed => ?_, fun hl => show x.cps.size ≤ i by simpa using hl⟩
  rw [List.getElem?_map] at ed
  cases q : x.cps.toList[i]? with
  | none => rw [q] at ed; cases ed
  | some c =>
    rw [q] at ed
    cases ed
    have q' : x.cps[i]? = some c := by simpa using q
    refine ⟨?_, fun v H' y => ?_⟩
    · have := (List.getElem?_eq_some_iff.mp q).1
      show i < x.cps.size
      simpa using this
    · obtain ⟨eH, c', ec, ev⟩ := y
      rw [q'] at ec
      cases ec
      subst ev
      exact ⟨w2, Step.refl ok2, rfl, eH.symm, .str _⟩
/-- lo, lo + 1, .. -/
def rngL (lo : Int) (n : Nat) : List D := (List.range n).map fun (i : Nat) => .int (lo + i)
theorem rngL_len (lo : Int) (n : Nat) : (rngL lo n).length = n := by simp [rngL]
theorem it_range {w : Wd} (lo : Int) (n : Nat) : IterOk K w (Itr lo n) (rngL lo n) := fun w2 le ok2 i => by
  refine ⟨fun d ed => ?_, fun hl => show n ≤ i by rw [rngL_len] at hl; exact hl⟩
  unfold rngL at ed
  rw [List.getElem?_map] at ed
  by_cases hi : i < n
  · rw [List.getElem?_range hi] at ed
    cases ed
    refine ⟨hi, fun v H' y => ?_⟩
    obtain ⟨eH, ev⟩ := y
    subst ev
    exact ⟨w2, Step.refl ok2, rfl, eH.symm, .int _⟩
  · rw [List.getElem?_eq_none (by simpa using hi)] at ed
    cases ed
theorem x_it {tg : Expr} {f : FD} (h : PI X tg e (fun σ H Q => iList K (tF K E f) σ H Q ∨ (iTup K (tF K E f) σ H Q ∨ iStr (tF K E f) σ H Q))) : PI X tg e (tI K E (dIt f)) := PI.wk h fun σ H Q ⟨ρ, w, e1, ok, sr, a⟩ => by
  have a1 := a.bind
  cases q : f ρ w.M with
  | bad => rw [q] at a1; exact a1.elim
  | exc c d M => rw [q] at a1; exact .inl ⟨ρ, w, e1, ok, sr, by rw [q]; exact a1⟩
  | ok x M =>
    rw [q] at a1
    cases x with
    | lst ds =>
      refine .inl ⟨ρ, w, e1, ok, sr, ?_⟩
      rw [q]
      intro w1 s1 eM v rv
      cases rv with
      | lst hs rl => exact ⟨_, rfl, ⟨_, .inl (.inl (s1.ok.sub _ _ hs))⟩, a1 w1 s1 eM w1 (Step.refl s1.ok) rfl _ (it_list (.inl (.inl hs)) rl)⟩
    | fro ds =>
      refine .inl ⟨ρ, w, e1, ok, sr, ?_⟩
      rw [q]
      intro w1 s1 eM v rv
      cases rv with
      | fro hs rl => exact ⟨_, rfl, ⟨_, s1.ok.sub.seq hs⟩, a1 w1 s1 eM w1 (Step.refl s1.ok) rfl _ (it_list hs rl)⟩
    | tup ds =>
      refine .inr (.inl ⟨ρ, w, e1, ok, sr, ?_⟩)
      rw [q]
      intro w1 s1 eM v rv
      cases rv with
      | tup hs rl => exact ⟨_, rfl, ⟨_, .inl (.inl (s1.ok.sub _ _ hs))⟩, a1 w1 s1 eM w1 (Step.refl s1.ok) rfl _ (it_tup (.inl (.inl hs)) rl)⟩
    | kt ds =>
      refine .inr (.inl ⟨ρ, w, e1, ok, sr, ?_⟩)
      rw [q]
      intro w1 s1 eM v rv
      cases rv with
      | kt hs rl => exact ⟨_, rfl, ⟨_, sqT_mono s1.ok.sub hs⟩, a1 w1 s1 eM w1 (Step.refl s1.ok) rfl _ (it_tup hs rl)⟩
    | str y =>
      refine .inr (.inr ⟨ρ, w, e1, ok, sr, ?_⟩)
      rw [q]
      intro w1 s1 eM v rv
      cases rv
      exact ⟨_, rfl, a1 w1 s1 eM w1 (Step.refl s1.ok) rfl _ (it_str y)⟩
    | non => exact (show After K E w (dIt f ρ w.M) _ from a) |> fun z => by rw [show dIt f ρ w.M = .bad by simp only [dIt, q, R.bind, itemsD, R.of]] at z; exact z.elim
    | bl b => exact (show After K E w (dIt f ρ w.M) _ from a) |> fun z => by rw [show dIt f ρ w.M = .bad by simp only [dIt, q, R.bind, itemsD, R.of]] at z; exact z.elim
    | int b => exact (show After K E w (dIt f ρ w.M) _ from a) |> fun z => by rw [show dIt f ρ w.M = .bad by simp only [dIt, q, R.bind, itemsD, R.of]] at z; exact z.elim
    | ref b => exact (show After K E w (dIt f ρ w.M) _ from a) |> fun z => by rw [show dIt f ρ w.M = .bad by simp only [dIt, q, R.bind, itemsD, R.of]] at z; exact z.elim
theorem RepBL.one {w : Wd} {vs : List V} {d : D} (h : RepBL K w vs [d]) : ∃ v, vs = [v] ∧ RepB K w v d := by
  cases h with
  | cons h1 h2 => cases h2; exact ⟨_, rfl, h1⟩
theorem RepBL.two {w : Wd} {vs : List V} {d d' : D} (h : RepBL K w vs [d, d']) : ∃ v v', vs = [v, v'] ∧ RepB K w v d ∧ RepB K w v' d' := by
  cases h with
  | cons h1 h2 =>
    cases h2 with
    | cons h2 h3 => cases h3; exact ⟨_, _, rfl, h1, h2⟩
/-- range(n), range(m, n) -/
def rng1D : List D → Option (List D)
  | [.int j] => if -(2 ^ 62) ≤ j ∧ j < 2 ^ 62 then some (rngL 0 j.toNat) else none
  | _ => none
def rng2D : List D → Option (List D)
  | [.int i, .int j] => if -(2 ^ 62) ≤ i ∧ i < 2 ^ 62 ∧ -(2 ^ 62) ≤ j ∧ j < 2 ^ 62 then some (rngL i (j - i).toNat) else none
  | _ => none
def dRng1 (fs : FL) : FL := fun ρ M => (fs ρ M).bind fun ds M => R.of (rng1D ds) M
def dRng2 (fs : FL) : FL := fun ρ M => (fs ρ M).bind fun ds M => R.of (rng2D ds) M
theorem x_rng1 {tg : Expr} {fs : FL} (h : PI X tg e (iRng1 (tAR K E fs))) : PI X tg e (tI K E (dRng1 fs)) := PI.wk h fun σ H Q ⟨ρ, w, e1, ok, sr, a⟩ =>
  ⟨ρ, w, e1, ok, sr, a.bind.imp fun ds w1 s1 a1 vs rvs => by
    obtain ⟨items, ei, k⟩ := a1.of (Step.refl s1.ok) rfl
    unfold rng1D at ei
    split at ei
    · rename_i j
      split at ei
      · rename_i hj
        cases ei
        obtain ⟨v, rfl, rv⟩ := rvs.one
        cases int_at rv
        exact ⟨j, rfl, hj.1, hj.2, k _ (it_range 0 j.toNat)⟩
      · cases ei
    · cases ei⟩
theorem x_rng2 {tg : Expr} {fs : FL} (h : PI X tg e (iRng2 (tAR K E fs))) : PI X tg e (tI K E (dRng2 fs)) := PI.wk h fun σ H Q ⟨ρ, w, e1, ok, sr, a⟩ =>
  ⟨ρ, w, e1, ok, sr, a.bind.imp fun ds w1 s1 a1 vs rvs => by
    obtain ⟨items, ei, k⟩ := a1.of (Step.refl s1.ok) rfl
    unfold rng2D at ei
    split at ei
    · rename_i i j
      split at ei
      · rename_i hj
        cases ei
        obtain ⟨v, v', rfl, rv, rv'⟩ := rvs.two
        cases int_at rv
        cases int_at rv'
        exact ⟨i, j, rfl, ⟨hj.1, hj.2.1, hj.2.2.1, hj.2.2.2⟩, k _ (it_range i _)⟩
      · cases ei
    · cases ei⟩
/-! ### targets -/
/-- b: how a thing is bound to names; is: the names' places -/
def OwnSub (ρ ρ' : EnvD) (σ σ' : St) : Prop := ∀ (j : Nat) (ds : List D), ρ'[j]? = some (.own ds) → ρ[j]? = some (.own ds) ∧ σ'[j]? = σ[j]?
theorem OwnSub.refl (ρ : EnvD) (σ : St) : OwnSub ρ ρ σ σ := fun _ _ h => ⟨h, rfl⟩
theorem OwnSub.trans {ρ ρ1 ρ2 : EnvD} {σ σ1 σ2 : St} (a : OwnSub ρ ρ1 σ σ1) (b : OwnSub ρ1 ρ2 σ1 σ2) : OwnSub ρ ρ2 σ σ2 := fun j ds h => by
  obtain ⟨h1, e1⟩ := b j ds h
  obtain ⟨h2, e2⟩ := a j ds h1
  exact ⟨h2, e1.trans e2⟩
theorem OwnSub.set (ρ : EnvD) (σ : St) (i : Nat) {s : Slot} (hs : ∀ ds, s ≠ .own ds) (v : Option V) : OwnSub ρ (ρ.set i s) σ (σ.set i v) := fun j ds h => by
  by_cases hj : i = j
  · subst hj
    have hi : i < ρ.length := by have := (List.getElem?_eq_some_iff.mp h).1; rwa [List.length_set] at this
    rw [List.getElem?_set_self hi] at h
    exact absurd (Option.some.inj h) (hs ds)
  · rw [List.getElem?_set_ne hj] at h ⊢
    exact ⟨h, rfl⟩
def tG (K : PySem.W.Frag) (b : D → EnvD → Option EnvD) (is : List Nat) : TG := fun v σ H Q => ∃ ρ w d ρ', w.H = H ∧ w.Ok K ∧ SR K w ρ σ ∧ Rep K w.A w.G v d ∧ b d ρ = some ρ' ∧ ∀ σ', SR K w ρ' σ' → OwnSub ρ ρ' σ σ' → (∀ j, j ∉ is → σ'[j]? = σ[j]?) → σ'.length = σ.length → Q σ' H
theorem PG.wk {tg : Expr} {t t' : TG} (h : PG X tg t) (f : ∀ v σ H Q, t' v σ H Q → t v σ H Q) : PG X tg t' := ⟨fun pins s σ H v u Q I r q => h.run pins s σ H v u Q I r (f v σ H Q q)⟩
theorem SR.set {w : Wd} {ρ : EnvD} {σ : St} (sr : SR K w ρ σ) (i : Nat) {v : V} {d : D} (r : Rep K w.A w.G v d) : SR K w (ρ.set i (.val d)) (σ.set i (some v)) := by
  refine ⟨by rw [List.length_set, List.length_set]; exact sr.len, fun j x h => ?_, fun j ds h => ?_, fun j k ds es p h1 h2 h3 h4 => ?_⟩
  · by_cases hj : i = j
    · subst hj
      have hi : i < ρ.length := by have := (List.getElem?_eq_some_iff.mp h).1; rwa [List.length_set] at this
      rw [List.getElem?_set_self hi] at h
      cases h
      exact ⟨v, List.getElem?_set_self (by rw [← sr.len]; exact hi), r⟩
    · rw [List.getElem?_set_ne hj] at h ⊢
      exact sr.val j x h
  · by_cases hj : i = j
    · subst hj
      have hi : i < ρ.length := by have := (List.getElem?_eq_some_iff.mp h).1; rwa [List.length_set] at this
      rw [List.getElem?_set_self hi] at h
      cases h
    · rw [List.getElem?_set_ne hj] at h ⊢
      exact sr.own j ds h
  · have nj : i ≠ j := fun hj => by
      subst hj
      have hi : i < ρ.length := by have := (List.getElem?_eq_some_iff.mp h1).1; rwa [List.length_set] at this
      rw [List.getElem?_set_self hi] at h1
      cases h1
    have nk : i ≠ k := fun hj => by
      subst hj
      have hi : i < ρ.length := by have := (List.getElem?_eq_some_iff.mp h2).1; rwa [List.length_set] at this
      rw [List.getElem?_set_self hi] at h2
      cases h2
    rw [List.getElem?_set_ne nj] at h1 h3
    rw [List.getElem?_set_ne nk] at h2 h4
    exact sr.dis j k ds es p h1 h2 h3 h4
def bName (i : Nat) : D → EnvD → Option EnvD := fun d ρ => some (ρ.set i (.val d))
theorem x_gname {tg : Expr} {i : Nat} (h : PG X tg (gName i)) : PG X tg (tG K (bName i) [i]) := PG.wk h fun v σ H Q ⟨ρ, w, d, ρ', e1, ok, sr, r, eb, k⟩ => by
  cases eb
  exact k _ (sr.set i r) (OwnSub.set ρ σ i (fun _ z => by cases z) _) (fun j hj => List.getElem?_set_ne (by simpa using fun z => hj (by simp [z]))) (by rw [List.length_set])
/-- several names -/
def bNames : List Nat → List D → EnvD → Option EnvD
  | [], [], ρ => some ρ
  | i :: is, d :: ds, ρ => bNames is ds (ρ.set i (.val d))
  | _, _, _ => none
def bTup (is : List Nat) : D → EnvD → Option EnvD := fun d ρ => match d with
  | .tup ds => bNames is ds ρ
  | _ => none
def gNames : List Nat → TGs
  | [] => gNil
  | i :: is => gCons (gName i) (gNames is)
theorem gNames_ok {w : Wd} {Q : St → Hp → Prop} (ok : w.Ok K) : ∀ (is : List Nat) (ds : List D) (vs : List V) (ρ ρ' : EnvD) (σ : St), SR K w ρ σ → RepL K w.A w.G vs ds → bNames is ds ρ = some ρ' →
    (∀ σ', SR K w ρ' σ' → OwnSub ρ ρ' σ σ' → (∀ j, j ∉ is → σ'[j]? = σ[j]?) → σ'.length = σ.length → Q σ' w.H) → gNames is vs σ w.H Q
  | [], [], _, ρ, ρ', σ, sr, rl, eb, k => by
    cases rl
    cases eb
    exact ⟨rfl, k σ sr (OwnSub.refl _ _) (fun _ _ => rfl) rfl⟩
  | i :: is, d :: ds, _, ρ, ρ', σ, sr, rl, eb, k => by
    cases rl with
    | cons r rl =>
      refine ⟨_, _, rfl, ?_⟩
      exact gNames_ok ok is ds _ _ ρ' _ (sr.set i r) rl eb fun σ' sr' os h1 h2 => k σ' sr' ((OwnSub.set ρ σ i (fun _ z => by cases z) _).trans os) (fun j hj => by
        rw [h1 j (fun z => hj (List.mem_cons_of_mem _ z)), List.getElem?_set_ne (fun z => hj (by rw [z]; exact List.mem_cons_self))]) (by rw [h2, List.length_set])
  | [], _ :: _, _, _, _, _, _, _, eb, _ => by cases eb
  | _ :: _, [], _, _, _, _, _, _, eb, _ => by cases eb
theorem bNames_len : ∀ {is : List Nat} {ds : List D} {ρ ρ' : EnvD}, bNames is ds ρ = some ρ' → is.length = ds.length
  | [], [], _, _, _ => rfl
  | _ :: is, _ :: ds, _, _, h => by rw [List.length_cons, List.length_cons, bNames_len (is := is) (ds := ds) h]
  | [], _ :: _, _, _, h => by cases h
  | _ :: _, [], _, _, h => by cases h
theorem x_gtup {tg : Expr} {is : List Nat} {n : Nat} (hn : n = is.length) (h : PG X tg (gTup K n (gNames is))) : PG X tg (tG K (bTup is) is) := PG.wk h fun v σ H Q ⟨ρ, w, d, ρ', e1, ok, sr, r, eb, k⟩ => by
  subst e1
  unfold bTup at eb
  split at eb
  · cases r with
    | tup hs rl =>
      refine ⟨_, _, rfl, .inl (.inl (ok.sub _ _ hs)), by rw [rl.length, ← bNames_len eb, hn], ?_⟩
      exact gNames_ok ok is _ _ ρ ρ' σ sr rl eb k
  · cases eb
/-! ### comprehensions -/
def wipeD (ρ : EnvD) : List Nat → EnvD
  | [] => ρ
  | v :: vs => (wipeD ρ vs).set v .un
theorem SR.wipe1 {w : Wd} {ρ : EnvD} {σ : St} (sr : SR K w ρ σ) (i : Nat) : SR K w (ρ.set i .un) (σ.set i none) := by
  have no : ∀ {j : Nat} {s : Slot}, s ≠ .un → (ρ.set i .un)[j]? = some s → i ≠ j := fun {j s} hs h hj => by
    subst hj
    have hi : i < ρ.length := by have := (List.getElem?_eq_some_iff.mp h).1; rwa [List.length_set] at this
    rw [List.getElem?_set_self hi] at h
    exact hs (Option.some.inj h).symm
  refine ⟨by rw [List.length_set, List.length_set]; exact sr.len, fun j x h => ?_, fun j ds h => ?_, fun j k ds es p h1 h2 h3 h4 => ?_⟩
  · have nj := no (fun z => by cases z) h
    rw [List.getElem?_set_ne nj] at h ⊢
    exact sr.val j x h
  · have nj := no (fun z => by cases z) h
    rw [List.getElem?_set_ne nj] at h ⊢
    exact sr.own j ds h
  · have nj := no (fun z => by cases z) h1
    have nk := no (fun z => by cases z) h2
    rw [List.getElem?_set_ne nj] at h1 h3
    rw [List.getElem?_set_ne nk] at h2 h4
    exact sr.dis j k ds es p h1 h2 h3 h4
theorem SR.wipe {w : Wd} {ρ : EnvD} {σ : St} (sr : SR K w ρ σ) : ∀ vs : List Nat, SR K w (wipeD ρ vs) (wipe σ vs)
  | [] => sr
  | v :: vs => (SR.wipe sr vs).wipe1 v
theorem wipe_get (τ : St) (vs : List Nat) (j : Nat) : (wipe τ vs)[j]? = if j ∈ vs then (if j < τ.length then some none else none) else τ[j]? := by
  induction vs with
  | nil => simp [wipe]
  | cons v vs ih =>
    unfold wipe
    by_cases hv : v = j
    · subst hv
      rw [if_pos List.mem_cons_self, List.getElem?_set, if_pos rfl, wipe_length]
    · rw [List.getElem?_set_ne hv, ih]
      by_cases hm : j ∈ vs
      · rw [if_pos hm, if_pos (List.mem_cons_of_mem _ hm)]
      · rw [if_neg hm, if_neg (by simp [hm, Ne.symm hv])]
theorem wipe_same {σ σ' : St} (hl : σ'.length = σ.length) (vs : List Nat) (h : ∀ j, j ∉ vs → σ'[j]? = σ[j]?) : wipe σ' vs = wipe σ vs := by
  apply List.ext_getElem?
  intro j
  rw [wipe_get, wipe_get, hl]
  by_cases hm : j ∈ vs
  · rw [if_pos hm, if_pos hm]
  · rw [if_neg hm, if_neg hm, h j hm]
theorem wipe_wipe (σ : St) (vs : List Nat) : wipe (wipe σ vs) vs = wipe σ vs := by
  refine wipe_same (wipe_length σ vs) vs fun j hj => ?_
  rw [wipe_get, if_neg hj]
abbrev E00 : Wish := fun _ _ _ => False
/-- the turns of a comprehension -/
def lcGo (b : D → EnvD → Option EnvD) (c : FB) (f : FD) (ρ0 : EnvD) : List D → List D → Store → R (List D)
  | [], acc, M => .ok acc M
  | d :: ds, acc, M => match b d ρ0 with
    | none => .bad
    | some ρ1 => match c ρ1 M with
      | .ok true M1 => match f ρ1 M1 with
        | .ok y M2 => if acc.length < sizeLine then lcGo b c f ρ0 ds (acc ++ [y]) M2 else .bad
        | _ => .bad
      | .ok false M1 => lcGo b c f ρ0 ds acc M1
      | _ => .bad
theorem lcGo_exc {b : D → EnvD → Option EnvD} {c : FB} {f : FD} {ρ0 : EnvD} {k : Nat} {x : D} {M' : Store} : ∀ (ds acc : List D) (M : Store), lcGo b c f ρ0 ds acc M ≠ .exc k x M'
  | [], _, _ => fun h => by cases h
  | d :: ds, acc, M => fun h => by
    unfold lcGo at h
    split at h
    · cases h
    · split at h
      · split at h
        · split at h
          · exact lcGo_exc ds _ _ h
          · cases h
        · cases h
      · exact lcGo_exc ds _ _ h
      · cases h
def dLc (fi : FL) (b : D → EnvD → Option EnvD) (c : FB) (f : FD) (vs : List Nat) : FE := fun ρ M => (fi ρ M).bind fun items M => (lcGo b c f (wipeD ρ vs) items [] M).map Slot.own
/-- what is wanted of the rest of the turns -/
def LcRest (K : PySem.W.Frag) (w0 : Wd) (D : Addr) (Q : VK) (r : R (List TP.D)) : Prop := match r with
  | .ok res M => ∀ w' vres, Step K w0 w' → w'.M = M → w'.H D = some (.lst vres) → w'.G D = none → D ∉ w'.A → RepL K w'.A w'.G vres res → Q (.ref D) w'.H
  | _ => False
theorem setOwn_ok {w : Wd} (h : w.Ok K) {p : Addr} {o o' : HO} (hp : w.H p = some o') (hG : w.G p = none) (hA : p ∉ w.A) : (⟨w.A, w.G, w.M, upd w.H p o⟩ : Wd).Ok K := by
  refine ⟨fun b u e => ?_, h.nd, h.len, h.out, fun k m e => ?_⟩
  · show upd w.H p o b = some u
    rw [upd_ne (ne_of_none e hG)]
    exact h.sub b u e
  · obtain ⟨a, ea, r⟩ := h.mos k m e
    have na : a ≠ p := fun z => hA (z ▸ List.mem_of_getElem? ea)
    refine ⟨a, ea, ?_⟩
    cases m with
    | lst ds => obtain ⟨vs, z, q⟩ := r; exact ⟨vs, by show upd w.H p o a = _; rw [upd_ne na]; exact z, q⟩
    | dK ds => obtain ⟨vs, z, q⟩ := r; exact ⟨vs, by show upd w.H p o a = _; rw [upd_ne na]; exact z, q⟩
    | dT ds => obtain ⟨vs, z, q⟩ := r; exact ⟨vs, by show upd w.H p o a = _; rw [upd_ne na]; exact z, q⟩
    | ins c fs => obtain ⟨vs, dx, z, q⟩ := r; exact ⟨vs, dx, by show upd w.H p o a = _; rw [upd_ne na]; exact z, q⟩
/-- an own thing that was not there at w0 is changed -/
theorem Step.setOwn {w0 w : Wd} (s : Step K w0 w) {p : Addr} {o o' : HO} (h0 : w0.H p = none) (hp : w.H p = some o') (hG : w.G p = none) (hA : p ∉ w.A) : Step K w0 ⟨w.A, w.G, w.M, upd w.H p o⟩ :=
  ⟨setOwn_ok s.ok hp hG hA, s.pre, s.fro, fun q u h1 h2 h3 => by
    obtain ⟨a, b, c⟩ := s.keep q u h1 h2 h3
    exact ⟨by show upd w.H p o q = some u; rw [upd_ne (ne_of_none h1 h0)]; exact a, b, c⟩⟩
theorem lc_le {fi : FL} {b : D → EnvD → Option EnvD} {is : List Nat} {c : FB} {f : FD} {vs : List Nat} (hv : ∀ i ∈ is, i ∈ vs) (σ : St) (H : Hp) (Q : VK) : tE K E (dLc fi b c f vs) σ H Q → tLc (tI K E fi) (tG K b is) (tT K E00 c) (tF K E00 f) vs σ H Q := fun ⟨ρ, w, e1, ok, sr, a⟩ =>
  ⟨ρ, w, e1, ok, sr, a.bind.imp fun items w1 s1 a1 J hJ Dl hD => by
    have s0 := s1.ok.fresh0 hD (.lst [])
    have hG1 : w1.G Dl = none := s1.ok.sub.free hD
    have hA1 := s1.ok.notA hD
    have a2 : LcRest K w1 Dl Q (lcGo b c f (wipeD ρ vs) items [] w1.M) := by
      have a2 := a1.map
      revert a2
      cases q : lcGo b c f (wipeD ρ vs) items [] w1.M with
      | bad => exact fun z => z
      | exc c d M => exact absurd q (lcGo_exc _ _ _)
      | ok res M => exact fun z w' vres st eM hH hG hA rl => z w' st eM _ ⟨Dl, vres, rfl, s1.free hD, hH, hG, hA, rl⟩
    refine ⟨fun i m H => m = items.length - i ∧ i ≤ items.length ∧ ∃ w acc vacc, w.H = H ∧ Step K w1 w ∧ w.H Dl = some (.lst vacc) ∧ w.G Dl = none ∧ Dl ∉ w.A ∧ RepL K w.A w.G vacc acc ∧ LcRest K w1 Dl Q (lcGo b c f (wipeD ρ vs) (items.drop i) acc w.M),
      ⟨items.length, by simp, Nat.zero_le _, _, [], [], rfl, s0, upd_same, hG1, hA1, .nil, by simpa using a2⟩, ?_⟩
    rintro i m H ⟨rfl, hi, w2, acc, vacc, rfl, s2, hH2, hG2, hA2, rl2, rest⟩
    by_cases hlt : i < items.length
    · have ed : items[i]? = some items[i] := List.getElem?_eq_getElem hlt
      rw [List.drop_eq_getElem_cons hlt] at rest
      obtain ⟨go, yl⟩ := (hJ w2 s2.le s2.ok i).1 _ ed
      refine .inr ⟨go, fun H' => i + 1 ≤ items.length ∧ ∃ w acc vacc, w.H = H' ∧ Step K w1 w ∧ w.H Dl = some (.lst vacc) ∧ w.G Dl = none ∧ Dl ∉ w.A ∧ RepL K w.A w.G vacc acc ∧ LcRest K w1 Dl Q (lcGo b c f (wipeD ρ vs) (items.drop (i + 1)) acc w.M),
        fun H' ⟨h1, h2⟩ => ⟨_, by omega, rfl, h1, h2⟩, fun x H' hy => ?_⟩
      obtain ⟨w3, s3, eM3, rfl, rx⟩ := yl x H' hy
      unfold lcGo at rest
      cases eb : b items[i] (wipeD ρ vs) with
      | none => rw [eb] at rest; exact rest.elim
      | some ρ1 =>
        rw [eb] at rest
        simp only at rest
        have sr3 : SR K w3 (wipeD ρ vs) (wipe σ vs) := (((sr.step s1).step s2).step s3).wipe vs
        refine ⟨wipeD ρ vs, w3, items[i], ρ1, rfl, s3.ok, sr3, rx, eb, fun σ' sr' _ h1 h2 => ⟨?_, ?_⟩⟩
        · have e2 := wipe_same h2 vs (fun j hj => h1 j (fun z => hj (hv j z)))
          rw [e2]
          exact wipe_wipe σ vs
        · refine ⟨ρ1, w3, rfl, s3.ok, sr', ?_⟩
          have s13 : Step K w1 w3 := s2.trans s3
          obtain ⟨hH3, hG3, hA3⟩ := s3.keep Dl _ hH2 hG2 hA2
          rw [eM3]
          cases ec : c ρ1 w2.M with
          | bad => rw [ec] at rest; exact rest.elim
          | exc _ _ _ => rw [ec] at rest; exact rest.elim
          | ok t M1 =>
            rw [ec] at rest
            intro w4 s4 eM4
            obtain ⟨hH4, hG4, hA4⟩ := s4.keep Dl _ hH3 hG3 hA3
            cases t with
            | false =>
              refine iteF ⟨hlt, w4, acc, vacc, rfl, s13.trans s4, hH4, hG4, hA4, (s3.trans s4).repL rl2, ?_⟩
              rw [eM4]
              exact rest
            | true =>
              refine iteT ⟨ρ1, w4, rfl, s4.ok, sr'.step s4, ?_⟩
              simp only at rest
              rw [eM4]
              cases ef : f ρ1 M1 with
              | bad => rw [ef] at rest; exact rest.elim
              | exc _ _ _ => rw [ef] at rest; exact rest.elim
              | ok y M2 =>
                rw [ef] at rest
                intro w5 s5 eM5 v rv
                obtain ⟨hH5, hG5, hA5⟩ := s5.keep Dl _ hH4 hG4 hA4
                have rl5 : RepL K w5.A w5.G vacc acc := ((s3.trans s4).trans s5).repL rl2
                simp only at rest
                split at rest
                · rename_i hz
                  refine ⟨vacc, hH5, by rw [rl5.length]; exact hz, hlt, ⟨w5.A, w5.G, w5.M, upd w5.H Dl (.lst (vacc ++ [v]))⟩, acc ++ [y], vacc ++ [v], rfl, ((s13.trans s4).trans s5).setOwn hD hH5 hG5 hA5, upd_same, hG5, hA5, rl5.append (.one rv), ?_⟩
                  show LcRest K w1 Dl Q (lcGo b c f (wipeD ρ vs) (items.drop (i + 1)) (acc ++ [y]) w5.M)
                  rw [eM5]
                  exact rest
                · exact rest.elim
    · have ei : i = items.length := by omega
      subst ei
      rw [List.drop_length] at rest
      exact .inl ⟨(hJ w2 s2.le s2.ok _).2 (Nat.le_refl _), rest w2 vacc s2 rfl hH2 hG2 hA2 rl2⟩⟩
theorem x_lc {fi : FL} {b : D → EnvD → Option EnvD} {is : List Nat} {c : FB} {f : FD} {vs : List Nat} (hv : ∀ i ∈ is, i ∈ vs) (h : PE X e (tLc (tI K E fi) (tG K b is) (tT K E00 c) (tF K E00 f) vs)) : PE X e (tE K E (dLc fi b c f vs)) := PE.wk h (lc_le hv)
end
end TP
/-! TPe: statements. -/
namespace TP
open PySem L2
inductive Out where
  | next (ρ : EnvD) (M : Store) | ret (s : Slot) (M : Store) | brk (ρ : EnvD) (M : Store) | cont (ρ : EnvD) (M : Store) | exc (c : Nat) (d : D) (M : Store) | bad
abbrev FS := EnvD → Store → Out
section
variable (K : PySem.W.Frag) (E : Wish)
/-- own lists were not there at the def's entry -/
def OF (w0 : Wd) (ρ : EnvD) (σ : St) : Prop := ∀ (i : Nat) (ds : List D) (p : Addr), ρ[i]? = some (.own ds) → σ[i]? = some (some (.ref p)) → w0.H p = none
def PostS (w0 ws : Wd) (D : Ends) : Out → Prop
  | .next ρ M => ∀ w σ, Step K w0 w → Le ws w → w.M = M → SR K w ρ σ → OF w0 ρ σ → D.nx σ w.H
  | .brk ρ M => ∀ w σ, Step K w0 w → Le ws w → w.M = M → SR K w ρ σ → OF w0 ρ σ → D.bk σ w.H
  | .cont ρ M => ∀ w σ, Step K w0 w → Le ws w → w.M = M → SR K w ρ σ → OF w0 ρ σ → D.ct σ w.H
  | .ret s M => ∀ w v, Step K w0 w → w.M = M → RepX K w0 w v s → D.rt v w.H
  | .exc c d M => ∀ w, Step K w0 w → w.M = M → E c d w
  | .bad => False
def tS (g : FS) : TS := fun D σ H => ∃ ρ w w0, w.H = H ∧ Step K w0 w ∧ SR K w ρ σ ∧ OF w0 ρ σ ∧ PostS K E w0 w D (g ρ w.M)
end
section
variable {K : PySem.W.Frag} {E : Wish} {X : Cx} {st : Stmt} {sts : List Stmt}
theorem PostS.later {w0 ws w1 : Wd} {D : Ends} {o : Out} (h : PostS K E w0 ws D o) (l : Le ws w1) : PostS K E w0 w1 D o := by
  cases o with
  | next ρ M => exact fun w σ a b => h w σ a (l.trans b)
  | brk ρ M => exact fun w σ a b => h w σ a (l.trans b)
  | cont ρ M => exact fun w σ a b => h w σ a (l.trans b)
  | ret s M => exact h
  | exc c d M => exact h
  | bad => exact h
theorem OF.sub {w0 : Wd} {ρ ρ' : EnvD} {σ σ' : St} (h : OF w0 ρ σ) (o : OwnSub ρ ρ' σ σ') : OF w0 ρ' σ' := fun i ds p h1 h2 => by
  obtain ⟨a, b⟩ := o i ds h1
  rw [b] at h2
  exact h i ds p a h2
/-! ### blocks -/
def sNil : FS := fun ρ M => .next ρ M
def sSeq (g h : FS) : FS := fun ρ M => match g ρ M with
  | .next ρ M => h ρ M
  | o => o
theorem s_nil (h : PSs X [] tNext) : PSs X [] (tS K E sNil) := PSs.wk h fun D σ H ⟨ρ, w, w0, e1, s, sr, of, p⟩ => by
  subst e1
  exact p w σ s (Le.refl w) rfl sr of
theorem s_seq {g h : FS} (hh : PSs X sts (tSeq (tS K E g) (tS K E h))) : PSs X sts (tS K E (sSeq g h)) := PSs.wk hh fun D σ H ⟨ρ, w, w0, e1, s, sr, of, p⟩ => by
  refine ⟨ρ, w, w0, e1, s, sr, of, ?_⟩
  unfold sSeq at p
  cases q : g ρ w.M with
  | next ρ' M' =>
    rw [q] at p
    intro w1 σ1 s1 l1 e2 sr1 of1
    refine ⟨ρ', w1, w0, rfl, s1, sr1, of1, ?_⟩
    rw [e2]
    exact PostS.later p l1
  | ret x M' => rw [q] at p; exact p
  | brk x M' => rw [q] at p; exact p
  | cont x M' => rw [q] at p; exact p
  | exc c d M' => rw [q] at p; exact p
  | bad => rw [q] at p; exact p
theorem s_pass (h : PS X st tNext) : PS X st (tS K E sNil) := PS.wk h fun D σ H ⟨ρ, w, w0, e1, s, sr, of, p⟩ => by
  subst e1
  exact p w σ s (Le.refl w) rfl sr of
def sBreak : FS := fun ρ M => .brk ρ M
def sCont : FS := fun ρ M => .cont ρ M
theorem s_break (h : PS X st tBreak) : PS X st (tS K E sBreak) := PS.wk h fun D σ H ⟨ρ, w, w0, e1, s, sr, of, p⟩ => by
  subst e1
  exact p w σ s (Le.refl w) rfl sr of
theorem s_cont (h : PS X st tCont) : PS X st (tS K E sCont) := PS.wk h fun D σ H ⟨ρ, w, w0, e1, s, sr, of, p⟩ => by
  subst e1
  exact p w σ s (Le.refl w) rfl sr of
/-- an expression's answer, then -/
def R.out {α : Type} (r : R α) (k : α → Store → Out) : Out := match r with
  | .ok a M => k a M
  | .exc c d M => .exc c d M
  | .bad => .bad
theorem out_after {α : Type} {w0 w : Wd} {D : Ends} {r : R α} {k : α → Store → Out} (s : Step K w0 w) (p : PostS K E w0 w D (r.out k)) : After K E w r fun a w' => PostS K E w0 w' D (k a w'.M) := by
  cases r with
  | bad => exact p
  | exc c d M => exact fun w' s' e => p w' (s.trans s') e
  | ok a M =>
    intro w' s' e
    have p' : PostS K E w0 w D (k a M) := p
    rw [e]
    exact p'.later s'.le
def sExpr (f : FE) : FS := fun ρ M => (f ρ M).out fun _ M => .next ρ M
theorem s_expr {f : FE} (h : PS X st (tDrop (tE K E f))) : PS X st (tS K E (sExpr f)) := PS.wk h fun D σ H ⟨ρ, w, w0, e1, s, sr, of, p⟩ =>
  ⟨ρ, w, e1, s.ok, sr, (out_after s p).imp fun x w1 s1 p1 v rv => p1 w1 σ (s.trans s1) (Le.refl _) rfl (sr.step s1) of⟩
def sRet (f : FE) : FS := fun ρ M => (f ρ M).out fun x M => .ret x M
theorem s_ret {f : FE} (h : PS X st (tRet (tE K E f))) : PS X st (tS K E (sRet f)) := PS.wk h fun D σ H ⟨ρ, w, w0, e1, s, sr, of, p⟩ =>
  ⟨ρ, w, e1, s.ok, sr, (out_after s p).imp fun x w1 s1 p1 v rv => p1 w1 v (s.trans s1) rfl (rv.back s)⟩
def sRetN : FS := fun _ M => .ret (.val .non) M
theorem s_retN (h : PS X st tRetN) : PS X st (tS K E sRetN) := PS.wk h fun D σ H ⟨ρ, w, w0, e1, s, sr, of, p⟩ => by
  subst e1
  exact p w .non s rfl .non
/-- return x, x perhaps a list of one's own -/
def sRetV (i : Nat) : FS := fun ρ M => match ρ[i]? with
  | some (.val d) => .ret (.val d) M
  | some (.own ds) => .ret (.own ds) M
  | _ => .bad
theorem s_retV {i : Nat} (h : PS X st (tRet (tVar i))) : PS X st (tS K E (sRetV i)) := PS.wk h fun D σ H ⟨ρ, w, w0, e1, s, sr, of, p⟩ => by
  subst e1
  unfold sRetV at p
  split at p
  · rename_i d e2
    obtain ⟨v, h1, h2⟩ := sr.val i d e2
    exact ⟨v, h1, p w v s rfl h2⟩
  · rename_i ds e2
    obtain ⟨q, vs, h1, h2, h3, h4, h5⟩ := sr.own i ds e2
    exact ⟨_, h1, p w _ s rfl ⟨q, vs, rfl, of i ds q e2 h1, h2, h3, h4, h5⟩⟩
  · exact p.elim
theorem SR.setOwn {w w' : Wd} {ρ : EnvD} {σ : St} (sr : SR K w ρ σ) (st : Step K w w') (i : Nat) {v : V} {ds : List D} (r : RepX K w w' v (.own ds)) : SR K w' (ρ.set i (.own ds)) (σ.set i (some v)) := by
  obtain ⟨p, vs, rfl, h0, hH, hG, hA, rl⟩ := r
  have sr' := sr.step st
  have other : ∀ (j : Nat) (es : List D), i ≠ j → ρ[j]? = some (.own es) → σ[j]? ≠ some (some (.ref p)) := fun j es hj h1 h2 => by
    obtain ⟨q, us, a, b, _⟩ := sr.own j es h1
    rw [a] at h2
    cases h2
    rw [h0] at b
    cases b
  refine ⟨by rw [List.length_set, List.length_set]; exact sr.len, fun j x h => ?_, fun j es h => ?_, fun j k ds1 es q h1 h2 h3 h4 => ?_⟩
  · by_cases hj : i = j
    · subst hj
      have hi : i < ρ.length := by have := (List.getElem?_eq_some_iff.mp h).1; rwa [List.length_set] at this
      rw [List.getElem?_set_self hi] at h
      cases h
    · rw [List.getElem?_set_ne hj] at h ⊢
      exact sr'.val j x h
  · by_cases hj : i = j
    · subst hj
      have hi : i < ρ.length := by have := (List.getElem?_eq_some_iff.mp h).1; rwa [List.length_set] at this
      rw [List.getElem?_set_self hi] at h
      cases h
      exact ⟨p, vs, List.getElem?_set_self (by rw [← sr.len]; exact hi), hH, hG, hA, rl⟩
    · rw [List.getElem?_set_ne hj] at h ⊢
      exact sr'.own j es h
  · by_cases hj : i = j
    · by_cases hk : i = k
      · rw [← hj, ← hk]
      · subst hj
        have hi : i < ρ.length := by have := (List.getElem?_eq_some_iff.mp h1).1; rwa [List.length_set] at this
        rw [List.getElem?_set_self (by rw [← sr.len]; exact hi)] at h3
        cases h3
        rw [List.getElem?_set_ne hk] at h2 h4
        exact absurd h4 (other k es hk h2)
    · by_cases hk : i = k
      · subst hk
        have hi : i < ρ.length := by have := (List.getElem?_eq_some_iff.mp h2).1; rwa [List.length_set] at this
        rw [List.getElem?_set_self (by rw [← sr.len]; exact hi)] at h4
        cases h4
        rw [List.getElem?_set_ne hj] at h1 h3
        exact absurd h3 (other j ds1 hj h1)
      · rw [List.getElem?_set_ne hj] at h1 h3
        rw [List.getElem?_set_ne hk] at h2 h4
        exact sr'.dis j k ds1 es q h1 h2 h3 h4
theorem OF.setOwn {w0 w w' : Wd} {ρ : EnvD} {σ : St} (of : OF w0 ρ σ) (s : Step K w0 w) (i : Nat) {v : V} {ds : List D} (r : RepX K w w' v (.own ds)) : OF w0 (ρ.set i (.own ds)) (σ.set i (some v)) := fun j es p h1 h2 => by
  obtain ⟨q, vs, rfl, h0, _⟩ := r
  by_cases hj : i = j
  · subst hj
    have hi : i < σ.length := by have := (List.getElem?_eq_some_iff.mp h2).1; rwa [List.length_set] at this
    rw [List.getElem?_set_self hi] at h2
    cases h2
    exact s.free h0
  · rw [List.getElem?_set_ne hj] at h1 h2
    exact of j es p h1 h2
/-- name = value -/
def sSet (i : Nat) (f : FE) : FS := fun ρ M => (f ρ M).out fun x M => match x with
  | .un => .bad
  | x => .next (ρ.set i x) M
theorem s_set {i : Nat} {f : FE} (h : PS X st (tAsg (tE K E f) (gName i))) : PS X st (tS K E (sSet i f)) := PS.wk h fun D σ H ⟨ρ, w, w0, e1, s, sr, of, p⟩ =>
  ⟨ρ, w, e1, s.ok, sr, (out_after s p).imp fun x w1 s1 p1 v rv => by
    cases x with
    | un => exact rv.elim
    | val d => exact p1 w1 _ (s.trans s1) (Le.refl _) rfl ((sr.step s1).set i rv) (of.sub (OwnSub.set ρ σ i (fun _ z => by cases z) _))
    | own ds => exact p1 w1 _ (s.trans s1) (Le.refl _) rfl (sr.setOwn s1 i rv) (of.setOwn s i rv)⟩
/-- target = value -/
def sAsg (b : D → EnvD → Option EnvD) (f : FD) : FS := fun ρ M => (f ρ M).out fun x M => match b x ρ with
  | some ρ' => .next ρ' M
  | none => .bad
theorem s_asg {b : D → EnvD → Option EnvD} {is : List Nat} {f : FD} (h : PS X st (tAsg (tF K E f) (tG K b is))) : PS X st (tS K E (sAsg b f)) := PS.wk h fun D σ H ⟨ρ, w, w0, e1, s, sr, of, p⟩ =>
  ⟨ρ, w, e1, s.ok, sr, (out_after s p).imp fun x w1 s1 p1 v rv => by
    cases eb : b x ρ with
    | none => rw [eb] at p1; exact p1.elim
    | some ρ' =>
      rw [eb] at p1
      exact ⟨ρ, w1, x, ρ', rfl, s1.ok, sr.step s1, rv, eb, fun σ' sr' os _ _ => p1 w1 σ' (s.trans s1) (Le.refl _) rfl sr' (of.sub os)⟩⟩
/-- a, b = x, y by swapped stores: both values frozen or of their own kind -/
def sPar (i j : Nat) (fs : FL) : FS := fun ρ M => (fs ρ M).out fun ds M => match ds with
  | [x, y] => .next ((ρ.set i (.val x)).set j (.val y)) M
  | _ => .bad
theorem s_par {i j : Nat} {fs : FL} (h : PS X st (tPar i j (tAF K E fs))) : PS X st (tS K E (sPar i j fs)) := PS.wk h fun D σ H ⟨ρ, w, w0, e1, s, sr, of, p⟩ =>
  ⟨ρ, w, e1, s.ok, sr, (out_after s p).imp fun ds w1 s1 p1 vs rvs => by
    split at p1
    · cases rvs with
      | cons r1 r2 =>
        cases r2 with
        | cons r2 r3 =>
          cases r3
          refine ⟨_, _, rfl, p1 w1 _ (s.trans s1) (Le.refl _) rfl (((sr.step s1).set i r1).set j r2) (of.sub ((OwnSub.set ρ σ i (fun _ z => by cases z) _).trans (OwnSub.set _ _ j (fun _ z => by cases z) _)))⟩
    · exact p1.elim⟩
/-! ### if -/
def sIf (c : FB) (g h : FS) : FS := fun ρ M => (c ρ M).out fun b M => if b then g ρ M else h ρ M
theorem s_if {c : FB} {g h : FS} (hh : PS X st (tIfS (tT K E c) (tS K E g) (tS K E h))) : PS X st (tS K E (sIf c g h)) := PS.wk hh fun D σ H ⟨ρ, w, w0, e1, s, sr, of, p⟩ =>
  ⟨ρ, w, e1, s.ok, sr, (out_after s p).imp fun b w1 s1 p1 => by
    cases b with
    | true => exact iteT ⟨ρ, w1, w0, rfl, s.trans s1, sr.step s1, of, p1⟩
    | false => exact iteF ⟨ρ, w1, w0, rfl, s.trans s1, sr.step s1, of, p1⟩⟩
/-! ### loops -/
def forGo (b : D → EnvD → Option EnvD) (body : FS) : List D → EnvD → Store → Out
  | [], ρ, M => .next ρ M
  | d :: ds, ρ, M => match b d ρ with
    | none => .bad
    | some ρ1 => match body ρ1 M with
      | .next ρ2 M2 => forGo b body ds ρ2 M2
      | .cont ρ2 M2 => forGo b body ds ρ2 M2
      | .brk ρ2 M2 => .next ρ2 M2
      | o => o
def sFor (fi : FL) (b : D → EnvD → Option EnvD) (body : FS) : FS := fun ρ M => (fi ρ M).out fun items M => forGo b body items ρ M
theorem s_for {fi : FL} {b : D → EnvD → Option EnvD} {is : List Nat} {body : FS} (h : PS X st (tFor (tI K E fi) (tG K b is) (tS K E body))) : PS X st (tS K E (sFor fi b body)) := PS.wk h fun D σ H ⟨ρ, w, w0, e1, s, sr, of, p⟩ =>
  ⟨ρ, w, e1, s.ok, sr, (out_after s p).imp fun items w1 s1 p1 J hJ => by
    refine ⟨fun i m σ H => m = items.length - i ∧ i ≤ items.length ∧ ∃ ρ w, w.H = H ∧ Step K w0 w ∧ Le w1 w ∧ SR K w ρ σ ∧ OF w0 ρ σ ∧ PostS K E w0 w D (forGo b body (items.drop i) ρ w.M),
      ⟨items.length, by simp, Nat.zero_le _, ρ, w1, rfl, s.trans s1, Le.refl _, sr.step s1, of, by simpa using p1⟩, ?_⟩
    rintro i m σ2 H2 ⟨rfl, hi, ρ2, w2, rfl, s2, l2, sr2, of2, p2⟩
    by_cases hlt : i < items.length
    · have ed : items[i]? = some items[i] := List.getElem?_eq_getElem hlt
      rw [List.drop_eq_getElem_cons hlt] at p2
      obtain ⟨go, yl⟩ := (hJ w2 l2 s2.ok i).1 _ ed
      refine .inr ⟨go, fun σ' H' => i + 1 ≤ items.length ∧ ∃ ρ w, w.H = H' ∧ Step K w0 w ∧ Le w1 w ∧ SR K w ρ σ' ∧ OF w0 ρ σ' ∧ PostS K E w0 w D (forGo b body (items.drop (i + 1)) ρ w.M),
        fun σ' H' ⟨h1, h2⟩ => ⟨_, by omega, rfl, h1, h2⟩, fun x H' hy => ?_⟩
      obtain ⟨w3, s3, eM3, rfl, rx⟩ := yl x H' hy
      unfold forGo at p2
      cases eb : b items[i] ρ2 with
      | none => rw [eb] at p2; exact p2.elim
      | some ρ1 =>
        rw [eb] at p2
        simp only at p2
        refine ⟨ρ2, w3, items[i], ρ1, rfl, s3.ok, sr2.step s3, rx, eb, fun σ' sr' os _ _ => ?_⟩
        refine ⟨ρ1, w3, w0, rfl, s2.trans s3, sr', of2.sub os, ?_⟩
        rw [eM3]
        cases q : body ρ1 w2.M with
        | next ρ4 M4 =>
          rw [q] at p2
          intro w5 σ5 s5 l5 e5 sr5 of5
          refine ⟨hlt, ρ4, w5, rfl, s5, (l2.trans s3.le).trans l5, sr5, of5, ?_⟩
          rw [e5]
          exact PostS.later p2 (s3.le.trans l5)
        | cont ρ4 M4 =>
          rw [q] at p2
          intro w5 σ5 s5 l5 e5 sr5 of5
          refine ⟨hlt, ρ4, w5, rfl, s5, (l2.trans s3.le).trans l5, sr5, of5, ?_⟩
          rw [e5]
          exact PostS.later p2 (s3.le.trans l5)
        | brk ρ4 M4 =>
          rw [q] at p2
          intro w5 σ5 s5 l5 e5 sr5 of5
          exact p2 w5 σ5 s5 (s3.le.trans l5) e5 sr5 of5
        | ret x M4 => rw [q] at p2; exact p2
        | exc c d M4 => rw [q] at p2; exact p2
        | bad => rw [q] at p2; exact p2
    · have ei : i = items.length := by omega
      subst ei
      rw [List.drop_length] at p2
      exact .inl ⟨(hJ w2 l2 s2.ok _).2 (Nat.le_refl _), p2 w2 σ2 s2 (Le.refl _) rfl sr2 of2⟩⟩
/-- while, n turns at most -/
def whGo (c : FB) (body : FS) : Nat → EnvD → Store → Out
  | 0, _, _ => .bad
  | n + 1, ρ, M => match c ρ M with
    | .ok true M1 => match body ρ M1 with
      | .next ρ2 M2 => whGo c body n ρ2 M2
      | .cont ρ2 M2 => whGo c body n ρ2 M2
      | .brk ρ2 M2 => .next ρ2 M2
      | o => o
    | .ok false M1 => .next ρ M1
    | .exc k d M1 => .exc k d M1
    | .bad => .bad
def sWhile (n : Nat) (c : FB) (body : FS) : FS := fun ρ M => whGo c body n ρ M
theorem s_while {n : Nat} {c : FB} {body : FS} (h : PS X st (tWhile (tT K E c) (tS K E body))) : PS X st (tS K E (sWhile n c body)) := PS.wk h fun D σ H ⟨ρ, w, w0, e1, s, sr, of, p⟩ => by
  refine ⟨fun m σ H => ∃ ρ w, w.H = H ∧ Step K w0 w ∧ SR K w ρ σ ∧ OF w0 ρ σ ∧ PostS K E w0 w D (whGo c body m ρ w.M), ⟨n, ρ, w, e1, s, sr, of, p⟩, ?_⟩
  rintro m σ2 H2 ⟨ρ2, w2, rfl, s2, sr2, of2, p2⟩
  refine ⟨ρ2, w2, rfl, s2.ok, sr2, ?_⟩
  cases m with
  | zero => exact p2.elim
  | succ m =>
    unfold whGo at p2
    cases q : c ρ2 w2.M with
    | bad => rw [q] at p2; exact p2
    | exc k d M1 => rw [q] at p2; exact fun w' s' e => p2 w' (s2.trans s') e
    | ok b M1 =>
      rw [q] at p2
      intro w3 s3 e3
      cases b with
      | false => exact iteF (p2 w3 σ2 (s2.trans s3) s3.le e3 (sr2.step s3) of2)
      | true =>
        refine iteT ⟨fun σ' H' => ∃ ρ w, w.H = H' ∧ Step K w0 w ∧ SR K w ρ σ' ∧ OF w0 ρ σ' ∧ PostS K E w0 w D (whGo c body m ρ w.M), fun σ' H' z => ⟨m, Nat.lt_succ_self _, z⟩, ρ2, w3, w0, rfl, s2.trans s3, sr2.step s3, of2, ?_⟩
        rw [e3]
        simp only at p2
        cases q2 : body ρ2 M1 with
        | next ρ4 M4 =>
          rw [q2] at p2
          intro w5 σ5 s5 l5 e5 sr5 of5
          refine ⟨ρ4, w5, rfl, s5, sr5, of5, ?_⟩
          rw [e5]
          exact PostS.later p2 (s3.le.trans l5)
        | cont ρ4 M4 =>
          rw [q2] at p2
          intro w5 σ5 s5 l5 e5 sr5 of5
          refine ⟨ρ4, w5, rfl, s5, sr5, of5, ?_⟩
          rw [e5]
          exact PostS.later p2 (s3.le.trans l5)
        | brk ρ4 M4 =>
          rw [q2] at p2
          intro w5 σ5 s5 l5 e5 sr5 of5
          exact p2 w5 σ5 s5 (s3.le.trans l5) e5 sr5 of5
        | ret x M4 => rw [q2] at p2; exact p2
        | exc c d M4 => rw [q2] at p2; exact p2
        | bad => rw [q2] at p2; exact p2
/-! ### a list of one's own -/
/-- it is changed at its place -/
theorem SR.change {w0 w : Wd} {ρ : EnvD} {σ : St} (s : Step K w0 w) (sr : SR K w ρ σ) (of : OF w0 ρ σ) {i : Nat} {ds ds' : List D} {p : Addr} {vs vs' : List V} (hi : ρ[i]? = some (.own ds)) (hp : σ[i]? = some (some (.ref p))) (r : RepL K w.A w.G vs' ds') :
    Step K w0 ⟨w.A, w.G, w.M, upd w.H p (.lst vs')⟩ ∧ SR K ⟨w.A, w.G, w.M, upd w.H p (.lst vs')⟩ (ρ.set i (.own ds')) σ ∧ OF w0 (ρ.set i (.own ds')) σ := by
  obtain ⟨q, us, a, b, c, d, f⟩ := sr.own i ds hi
  rw [hp] at a
  cases a
  have hil : i < ρ.length := (List.getElem?_eq_some_iff.mp hi).1
  refine ⟨s.setOwn (of i ds p hi hp) b c d, ⟨by rw [List.length_set]; exact sr.len, fun j x h => ?_, fun j es h => ?_, fun j k es1 es2 q h1 h2 h3 h4 => ?_⟩, fun j es q h1 h2 => ?_⟩
  · have nj : i ≠ j := fun z => by subst z; rw [List.getElem?_set_self hil] at h; cases h
    rw [List.getElem?_set_ne nj] at h
    exact sr.val j x h
  · by_cases hj : i = j
    · subst hj
      rw [List.getElem?_set_self hil] at h
      cases h
      exact ⟨p, vs', hp, upd_same, c, d, r⟩
    · rw [List.getElem?_set_ne hj] at h
      obtain ⟨q, us2, a2, b2, c2, d2, f2⟩ := sr.own j es h
      refine ⟨q, us2, a2, ?_, c2, d2, f2⟩
      show upd w.H p (.lst vs') q = _
      rw [upd_ne (fun z : q = p => hj (by rw [z] at a2; exact sr.dis i j ds es p hi h hp a2))]
      exact b2
  · have f : ∀ {j : Nat} {es : List D}, (ρ.set i (.own ds'))[j]? = some (.own es) → ∃ es', ρ[j]? = some (.own es') := fun {j es} h => by
      by_cases hj : i = j
      · subst hj; exact ⟨ds, hi⟩
      · rw [List.getElem?_set_ne hj] at h; exact ⟨es, h⟩
    obtain ⟨_, z1⟩ := f h1
    obtain ⟨_, z2⟩ := f h2
    exact sr.dis j k _ _ q z1 z2 h3 h4
  · by_cases hj : i = j
    · subst hj; exact of _ ds q hi h2
    · rw [List.getElem?_set_ne hj] at h1; exact of j es q h1 h2
/-- x.append(e) -/
def sApp (i : Nat) (f : FD) : FS := fun ρ M => match ρ[i]? with
  | some (.own ds) => (f ρ M).out fun d M => if ds.length < sizeLine then .next (ρ.set i (.own (ds ++ [d]))) M else .bad
  | _ => .bad
theorem s_app {i : Nat} {f : FD} (h : PS X st (tDrop (tBM K "list" rAppend (tVar i) (tCons (tF K E f) tNil)))) : PS X st (tS K E (sApp i f)) := PS.wk h fun D σ H ⟨ρ, w, w0, e1, s, sr, of, p⟩ => by
  subst e1
  unfold sApp at p
  split at p
  · rename_i ds e2
    obtain ⟨q, vs, h1, h2, h3, h4, h5⟩ := sr.own i ds e2
    refine ⟨_, h1, .inl ⟨rfl, vs, .inl (.inl h2)⟩, ρ, w, rfl, s.ok, sr, (out_after s p).imp fun x w1 s1 p1 v rv => ?_⟩
    split at p1
    · rename_i hz
      obtain ⟨b1, c1, d1⟩ := s1.keep q _ h2 h3 h4
      have r1 := s1.repL h5
      refine ⟨q, vs, v, rfl, rfl, b1, by rw [h5.length]; exact hz, ?_⟩
      obtain ⟨a, b, c⟩ := SR.change (vs := vs) (s.trans s1) (sr.step s1) of e2 h1 (r1.append (.one rv))
      exact p1 _ σ a (Le.refl _) rfl b c
    · exact p1.elim
  · exact p.elim
/-- x.extend(e), e a list -/
def sExt (i : Nat) (f : FD) : FS := fun ρ M => match ρ[i]? with
  | some (.own ds) => (f ρ M).out fun d M => match lstOf M d with
    | some es => if ds.length + es.length ≤ sizeLine then .next (ρ.set i (.own (ds ++ es))) M else .bad
    | none => .bad
  | _ => .bad
theorem s_ext {i : Nat} {f : FD} (h : PS X st (tDrop (tBM K "list" rExtend (tVar i) (tCons (tF K E f) tNil)))) : PS X st (tS K E (sExt i f)) := PS.wk h fun D σ H ⟨ρ, w, w0, e1, s, sr, of, p⟩ => by
  subst e1
  unfold sExt at p
  split at p
  · rename_i ds e2
    obtain ⟨q, vs, h1, h2, h3, h4, h5⟩ := sr.own i ds e2
    refine ⟨_, h1, .inl ⟨rfl, vs, .inl (.inl h2)⟩, ρ, w, rfl, s.ok, sr, (out_after s p).imp fun x w1 s1 p1 v rv => ?_⟩
    cases el : lstOf w1.M x with
    | none => rw [el] at p1; exact p1.elim
    | some es =>
      rw [el] at p1
      simp only at p1
      split at p1
      · rename_i hz
        obtain ⟨b1, c1, d1⟩ := s1.keep q _ h2 h3 h4
        have r1 := s1.repL h5
        obtain ⟨q2, us, rfl, hu, ru⟩ := lst_at s1.ok (.inl rv) el
        refine ⟨q, q2, vs, us, rfl, rfl, b1, hu, by rw [h5.length, ru.length]; exact hz, ?_⟩
        obtain ⟨a, b, c⟩ := SR.change (vs := vs) (s.trans s1) (sr.step s1) of e2 h1 (r1.append ru)
        exact p1 _ σ a (Le.refl _) rfl b c
      · exact p1.elim
  · exact p.elim
/-- a list of one's own is frozen: nothing happens in the program -/
def sFz (i : Nat) (g : FS) : FS := fun ρ M => match ρ[i]? with
  | some (.own ds) => g (ρ.set i (.val (.lst ds))) M
  | _ => g ρ M
theorem fz_ok {i : Nat} {g : FS} {D : Ends} {σ : St} {H : Hp} (h : tS K E (sFz i g) D σ H) : tS K E g D σ H := by
  obtain ⟨ρ, w, w0, e1, s, sr, of, p⟩ := h
  unfold sFz at p
  split at p
  · rename_i ds e2
    obtain ⟨q, vs, h1, h2, h3, h4, h5⟩ := sr.own i ds e2
    have hil : i < ρ.length := (List.getElem?_eq_some_iff.mp e2).1
    have fG : Same w.G (upd w.G q (.lst vs)) := upd_fro h3
    have l : Le w ⟨w.A, upd w.G q (.lst vs), w.M, w.H⟩ := ⟨List.prefix_refl _, fG⟩
    refine ⟨ρ.set i (.val (.lst ds)), ⟨w.A, upd w.G q (.lst vs), w.M, w.H⟩, w0, e1, ⟨s.ok.freeze h2 h3 h4, s.pre, s.fro.trans fG, fun b o z1 z2 z3 => ?_⟩, ⟨by rw [List.length_set]; exact sr.len, fun j x h => ?_, fun j es h => ?_, fun j k es1 es2 b z1 z2 z3 z4 => ?_⟩, fun j es b z1 z2 => ?_, PostS.later p l⟩
    · obtain ⟨a, b', c⟩ := s.keep b o z1 z2 z3
      refine ⟨a, ?_, c⟩
      show upd w.G q (.lst vs) b = none
      rw [upd_ne (ne_of_none z1 (of i ds q e2 h1))]
      exact b'
    · by_cases hj : i = j
      · subst hj
        rw [List.getElem?_set_self hil] at h
        cases h
        exact ⟨_, h1, .lst upd_same (l.repL h5)⟩
      · rw [List.getElem?_set_ne hj] at h
        obtain ⟨v, a, b⟩ := sr.val j x h
        exact ⟨v, a, l.rep b⟩
    · have nj : i ≠ j := fun z => by subst z; rw [List.getElem?_set_self hil] at h; cases h
      rw [List.getElem?_set_ne nj] at h
      obtain ⟨q2, us, a, b, c, d, f⟩ := sr.own j es h
      refine ⟨q2, us, a, b, ?_, d, l.repL f⟩
      show upd w.G q (.lst vs) q2 = none
      rw [upd_ne (fun z : q2 = q => nj (by rw [z] at a; exact sr.dis i j ds es q e2 h h1 a))]
      exact c
    · have nj : i ≠ j := fun z => by subst z; rw [List.getElem?_set_self hil] at z1; cases z1
      have nk : i ≠ k := fun z => by subst z; rw [List.getElem?_set_self hil] at z2; cases z2
      rw [List.getElem?_set_ne nj] at z1
      rw [List.getElem?_set_ne nk] at z2
      exact sr.dis j k _ _ b z1 z2 z3 z4
    · have nj : i ≠ j := fun z => by subst z; rw [List.getElem?_set_self hil] at z1; cases z1
      rw [List.getElem?_set_ne nj] at z1
      exact of j es b z1 z2
  · exact ⟨ρ, w, w0, e1, s, sr, of, p⟩
theorem s_fz {i : Nat} {g : FS} (h : PS X st (tS K E g)) : PS X st (tS K E (sFz i g)) := PS.wk h fun _ _ _ z => fz_ok z
end
end TP
/-! TPf: built-in things by plain data. -/
namespace TP
open PySem L2
section
variable {K : PySem.W.Frag} {E : Wish} {X : Cx} {e : Expr}
/-! ### one answer, nothing changed -/
theorem ans {w : Wd} {Q : VK} {d : D} {v : V} (ok : w.Ok K) (k : ∀ v w', Step K w w' → w'.M = w.M → RepX K w w' v (.val d) → Q v w'.H) (r : ∀ A G, Rep K A G v d) : Q v w.H := k v w (Step.refl ok) rfl (r _ _)
/-! ### arithmetic -/
def mulOk (i j : Int) : Bool := decide (-(2 ^ 64) < i ∧ i < 2 ^ 64) || decide (-(2 ^ 64) < j ∧ j < 2 ^ 64) || decide (i.natAbs.log2 + j.natAbs.log2 < 1000000)
def addD (M : Store) (x y : D) : Option Slot := match x, y with
  | .int i, .int j => some (.val (.int (i + j)))
  | .str a, .str b => if a.length + b.length ≤ sizeLine then some (.val (.str (a ++ b))) else none
  | .tup xs, .tup ys => if xs.length + ys.length ≤ sizeLine then some (.val (.tup (xs ++ ys))) else none
  | x, y => match lstOf M x, lstOf M y with
    | some xs, some ys => if xs.length + ys.length ≤ sizeLine then some (.own (xs ++ ys)) else none
    | _, _ => none
def rAddA (K : PySem.W.Frag) : R2 := fun x y H Q => rI0 (fun i j => .int (i + j)) x y H Q ∨ (∃ i j, x = .str i ∧ y = .str j ∧ i.length + j.length ≤ sizeLine ∧ Q (.str (i ++ j)) H) ∨ rCatA K x y H Q ∨ rCat x y H Q
theorem op_addA : OpR X (binaryOp .Add) (rAddA X.K) := op_add.or (op_add_str.or (op_catA.or op_cat))
theorem p_add : Prim2 K (rAddA K) addD := by
  intro w vx vy x y s Q ok rx ry h k
  unfold addD at h
  split at h
  · cases h
    cases int_at rx
    cases int_at ry
    exact .inl ⟨_, _, rfl, rfl, ans ok k fun _ _ => .int _⟩
  · split at h
    · cases h
      cases str_at rx
      cases str_at ry
      exact .inr (.inl ⟨_, _, rfl, rfl, by assumption, ans ok k fun _ _ => .str _⟩)
    · cases h
  · split at h
    · cases h
      obtain ⟨p, vs, rfl, hs, rl⟩ := tup_at ok rx
      obtain ⟨p2, vs2, rfl, hs2, rl2⟩ := tup_at ok ry
      refine .inr (.inr (.inl ⟨p, p2, vs, vs2, rfl, rfl, hs, hs2, by rw [rl.length, rl2.length]; assumption, fun e => ?_, fun _ e => ?_, fun _ _ q hq => ?_⟩))
      · subst e
        cases rl
        rcases ry with ry | ⟨_, _, _, _, e, _⟩
        · exact k _ w (Step.refl ok) rfl ry
        · cases e
      · subst e
        cases rl2
        rw [List.append_nil] at k
        rcases rx with rx | ⟨_, _, _, _, e, _⟩
        · exact k _ w (Step.refl ok) rfl rx
        · cases e
      · have st := ok.fresh hq (.tup (vs ++ vs2))
        exact k _ _ st rfl (.tup upd_same (st.repL (rl.append rl2)))
    · cases h
  · split at h
    · rename_i e1 e2
      split at h
      · cases h
        obtain ⟨p, vs, rfl, hs, rl⟩ := lst_at ok rx e1
        obtain ⟨p2, vs2, rfl, hs2, rl2⟩ := lst_at ok ry e2
        refine .inr (.inr (.inr ⟨p, p2, vs, vs2, rfl, rfl, hs, hs2, by rw [rl.length, rl2.length]; assumption, fun q hq => ?_⟩))
        exact k _ _ (ok.fresh0 hq _) rfl (own_new (Step.refl ok) hq (rl.append rl2))
      · cases h
    · cases h
def subD (_ : Store) (x y : D) : Option Slot := match x, y with
  | .int i, .int j => some (.val (.int (i - j)))
  | _, _ => none
theorem p_sub : Prim2 K (rI0 fun i j => .int (i - j)) subD := by
  intro w vx vy x y s Q ok rx ry h k
  unfold subD at h
  split at h
  · cases h
    cases int_at rx
    cases int_at ry
    exact ⟨_, _, rfl, rfl, ans ok k fun _ _ => .int _⟩
  · cases h
def mulD (M : Store) (x y : D) : Option Slot := match x, y with
  | .int i, .int j => if mulOk i j then some (.val (.int (i * j))) else none
  | x, .int k => match lstOf M x with
    | some xs => if -(2 ^ 63) ≤ k ∧ k < 2 ^ 63 ∧ xs.length * k.toNat ≤ sizeLine then some (.own (List.replicate k.toNat xs).flatten) else none
    | none => none
  | _, _ => none
def rMulA : R2 := fun x y H Q => rI CMul (fun i j => .int (i * j)) x y H Q ∨ rI CMulW (fun i j => .int (i * j)) x y H Q ∨ rRep x y H Q
theorem op_mulA : OpR X (binaryOp .Mult) rMulA := op_mul.or (op_mulW.or op_rep)
theorem RepL.rep {A : List Addr} {G : Hp} {vs : List V} {ds : List D} (h : RepL K A G vs ds) : ∀ n : Nat, RepL K A G (List.replicate n vs).flatten (List.replicate n ds).flatten
  | 0 => .nil
  | n + 1 => by
    rw [List.replicate_succ, List.replicate_succ, List.flatten_cons, List.flatten_cons]
    exact h.append (RepL.rep h n)
theorem p_mul : Prim2 K rMulA mulD := by
  intro w vx vy x y s Q ok rx ry h k
  unfold mulD at h
  split at h
  · split at h
    · rename_i i j hm
      cases h
      cases int_at rx
      cases int_at ry
      unfold mulOk at hm
      rw [Bool.or_eq_true, Bool.or_eq_true] at hm
      rcases hm with (hm | hm) | hm
      · exact .inl ⟨_, _, rfl, rfl, .inl (of_decide_eq_true hm), ans ok k fun _ _ => .int _⟩
      · exact .inl ⟨_, _, rfl, rfl, .inr (of_decide_eq_true hm), ans ok k fun _ _ => .int _⟩
      · exact .inr (.inl ⟨_, _, rfl, rfl, (show i.natAbs.log2 + j.natAbs.log2 < 1000000 from of_decide_eq_true hm), ans ok k fun _ _ => .int _⟩)
    · cases h
  · split at h
    · rename_i e1
      split at h
      · rename_i hz
        cases h
        obtain ⟨p, vs, rfl, hs, rl⟩ := lst_at ok rx e1
        cases int_at ry
        refine .inr (.inr ⟨p, _, vs, rfl, rfl, hs, hz.1, hz.2.1, by rw [rl.length]; exact hz.2.2, fun q hq => ?_⟩)
        exact k _ _ (ok.fresh0 hq _) rfl (own_new (Step.refl ok) hq (rl.rep _))
      · cases h
    · cases h
  · cases h
/-- by a positive divisor, or a small one -/
def fdivD (_ : Store) (x y : D) : Option Slot := match x, y with
  | .int i, .int j => if 0 < j ∧ j < 1073741824 then some (.val (.int (i / j))) else if 0 < j ∧ j.natAbs.log2 < 9000 then some (.val (.int (i / j))) else if j ≠ 0 ∧ j.natAbs < 1073741824 then some (.val (.int (i.fdiv j))) else none
  | _, _ => none
def rFdivA : R2 := fun x y H Q => rI CDivW (fun i j => .int (i / j)) x y H Q ∨ rI CDivN (fun i j => .int (i.fdiv j)) x y H Q
theorem op_fdivA : OpR X (binaryOp .FloorDiv) rFdivA := op_fdivW.or op_fdivN
theorem p_fdiv : Prim2 K rFdivA fdivD := by
  intro w vx vy x y s Q ok rx ry h k
  unfold fdivD at h
  split at h
  · cases int_at rx
    cases int_at ry
    split at h
    · rename_i hc
      cases h
      exact .inl ⟨_, _, rfl, rfl, ⟨hc.1, Nat.lt_of_lt_of_le (PySem.Flt.log2_lt_of (k := 30) (by decide) (by omega)) (by decide)⟩, ans ok k fun _ _ => .int _⟩
    · split at h
      · rename_i hc
        cases h
        exact .inl ⟨_, _, rfl, rfl, hc, ans ok k fun _ _ => .int _⟩
      · split at h
        · rename_i hc
          cases h
          exact .inr ⟨_, _, rfl, rfl, hc, ans ok k fun _ _ => .int _⟩
        · cases h
  · cases h
def modD (_ : Store) (x y : D) : Option Slot := match x, y with
  | .int i, .int j => if 0 < j then some (.val (.int (i % j))) else if j ≠ 0 then some (.val (.int (i.fmod j))) else none
  | _, _ => none
def rModA : R2 := fun x y H Q => rI (fun _ j => 0 < j) (fun i j => .int (i % j)) x y H Q ∨ rI (fun _ j => j ≠ 0) (fun i j => .int (i.fmod j)) x y H Q
theorem op_modA : OpR X (binaryOp .Mod) rModA := op_mod.or op_modN
theorem p_mod : Prim2 K rModA modD := by
  intro w vx vy x y s Q ok rx ry h k
  unfold modD at h
  split at h
  · cases int_at rx
    cases int_at ry
    split at h
    · rename_i hc
      cases h
      exact .inl ⟨_, _, rfl, rfl, hc, ans ok k fun _ _ => .int _⟩
    · split at h
      · rename_i hc
        cases h
        exact .inr ⟨_, _, rfl, rfl, hc, ans ok k fun _ _ => .int _⟩
      · cases h
  · cases h
def powD (_ : Store) (x y : D) : Option Slot := match x, y with
  | .int i, .int j => if 0 ≤ j ∧ j ≤ 1000000 ∧ i.natAbs < 2 ^ 64 then some (.val (.int (i ^ j.toNat))) else none
  | _, _ => none
theorem p_pow : Prim2 K (rI CPow fun i j => .int (i ^ j.toNat)) powD := by
  intro w vx vy x y s Q ok rx ry h k
  unfold powD at h
  split at h
  · cases int_at rx
    cases int_at ry
    split at h
    · rename_i hc
      cases h
      exact ⟨_, _, rfl, rfl, hc, ans ok k fun _ _ => .int _⟩
    · cases h
  · cases h
def negD (_ : Store) (x : D) : Option Slot := match x with
  | .int i => some (.val (.int (-i)))
  | _ => none
theorem p_neg : Prim1 K (rU fun i => .int (-i)) negD := by
  intro w vx x s Q ok rx h k
  unfold negD at h
  split at h
  · cases int_at rx
    cases h
    exact ⟨_, rfl, ans ok k fun _ _ => .int _⟩
  · cases h
/-! ### order of ints -/
def cmpD (p : Int → Int → Bool) (_ : Store) (x y : D) : Option Slot := match x, y with
  | .int i, .int j => some (.val (.bl (p i j)))
  | _, _ => none
theorem p_cmp (p : Int → Int → Bool) : Prim2 K (rI0 fun i j => .bl (p i j)) (cmpD p) := by
  intro w vx vy x y s Q ok rx ry h k
  unfold cmpD at h
  split at h
  · cases int_at rx
    cases int_at ry
    cases h
    exact ⟨_, _, rfl, rfl, ans ok k fun _ _ => .bl _⟩
  · cases h
/-! ### equality -/
mutual
def eqvD : D → D → Bool
  | .non, .non => true
  | .bl a, .bl b => a == b
  | .bl a, .int j => (if a then 1 else 0) == j
  | .int i, .bl b => i == (if b then 1 else 0)
  | .int i, .int j => i == j
  | .str x, .str y => x == y
  | .lst xs, .lst ys => eqvL xs ys
  | .tup xs, .tup ys => eqvL xs ys
  | _, _ => false
def eqvL : List D → List D → Bool
  | [], [] => true
  | x :: xs, y :: ys => eqvD x y && eqvL xs ys
  | _, _ => false
end
mutual
/-- no things of the store, no strange signs -/
def goodD : D → Bool
  | .non => true
  | .bl _ => true
  | .int _ => true
  | .str x => x.cps.all (· < 0x110000)
  | .lst xs => goodL xs
  | .tup xs => goodL xs
  | .fro _ => false
  | .kt _ => false
  | .ref _ => false
def goodL : List D → Bool
  | [] => true
  | x :: xs => goodD x && goodL xs
end
mutual
def dpD : D → Nat
  | .lst xs => dpL xs + 1
  | .tup xs => dpL xs + 1
  | _ => 0
def dpL : List D → Nat
  | [] => 0
  | x :: xs => max (dpD x) (dpL xs)
end
mutual
def toPy : D → PyData
  | .non => .none
  | .bl b => .bool b
  | .int i => .int i
  | .str x => .str x
  | .lst xs => .list (toPyL xs)
  | .tup xs => .tuple (toPyL xs)
  | .fro _ => .none
  | .kt _ => .none
  | .ref _ => .none
def toPyL : List D → List PyData
  | [] => []
  | x :: xs => toPy x :: toPyL xs
end
mutual
theorem eqv_py : ∀ x y : D, goodD x = true → goodD y = true → PyData.eqv (toPy x) (toPy y) = eqvD x y
  | .non, y, _, hy => by cases y <;> first | (simp [goodD] at hy; done) | simp [toPy, PyData.eqv, eqvD]
  | .bl _, y, _, hy => by cases y <;> first | (simp [goodD] at hy; done) | simp [toPy, PyData.eqv, eqvD]
  | .int _, y, _, hy => by cases y <;> first | (simp [goodD] at hy; done) | simp [toPy, PyData.eqv, eqvD]
  | .str _, y, _, hy => by cases y <;> first | (simp [goodD] at hy; done) | simp [toPy, PyData.eqv, eqvD]
  | .lst xs, y, hx, hy => by
    cases y with
    | lst ys =>
      simp only [toPy, PyData.eqv, eqvD]
      exact eqvL_py xs ys (by simpa [goodD] using hx) (by simpa [goodD] using hy)
    | _ => first | (simp [goodD] at hy; done) | simp [toPy, PyData.eqv, eqvD]
  | .tup xs, y, hx, hy => by
    cases y with
    | tup ys =>
      simp only [toPy, PyData.eqv, eqvD]
      exact eqvL_py xs ys (by simpa [goodD] using hx) (by simpa [goodD] using hy)
    | _ => first | (simp [goodD] at hy; done) | simp [toPy, PyData.eqv, eqvD]
  | .fro _, _, hx, _ => by simp [goodD] at hx
  | .kt _, _, hx, _ => by simp [goodD] at hx
  | .ref _, _, hx, _ => by simp [goodD] at hx
theorem eqvL_py : ∀ xs ys : List D, goodL xs = true → goodL ys = true → PyData.eqvAll (toPyL xs) (toPyL ys) = eqvL xs ys
  | [], [], _, _ => by simp [toPyL, PyData.eqvAll, eqvL]
  | [], _ :: _, _, _ => by simp [toPyL, PyData.eqvAll, eqvL]
  | _ :: _, [], _, _ => by simp [toPyL, PyData.eqvAll, eqvL]
  | x :: xs, y :: ys, hx, hy => by
    simp only [goodL, Bool.and_eq_true] at hx hy
    simp only [toPyL, PyData.eqvAll, eqvL, eqv_py x y hx.1 hy.1, eqvL_py xs ys hx.2 hy.2]
end
mutual
theorem lay_py : ∀ x : D, goodD x = true → (toPy x).canLay0 = true
  | .non, _ => by simp [toPy, PyData.canLay0]
  | .bl _, _ => by simp [toPy, PyData.canLay0]
  | .int _, _ => by simp [toPy, PyData.canLay0]
  | .str x, h => by simpa [toPy, PyData.canLay0, PyData.strOk, goodD] using h
  | .lst xs, h => by simp only [toPy, PyData.canLay0]; exact layL_py xs (by simpa [goodD] using h)
  | .tup xs, h => by simp only [toPy, PyData.canLay0]; exact layL_py xs (by simpa [goodD] using h)
  | .fro _, h => by simp [goodD] at h
  | .kt _, h => by simp [goodD] at h
  | .ref _, h => by simp [goodD] at h
theorem layL_py : ∀ xs : List D, goodL xs = true → PyData.canLayAll0 (toPyL xs) = true
  | [], _ => by simp [toPyL, PyData.canLayAll0]
  | x :: xs, h => by
    simp only [goodL, Bool.and_eq_true] at h
    simp only [toPyL, PyData.canLayAll0, lay_py x h.1, layL_py xs h.2, Bool.and_self]
end
mutual
theorem dp_py : ∀ x : D, goodD x = true → (toPy x).depth = dpD x
  | .non, _ => by simp [toPy, PyData.depth, dpD]
  | .bl _, _ => by simp [toPy, PyData.depth, dpD]
  | .int _, _ => by simp [toPy, PyData.depth, dpD]
  | .str x, h => by simp [toPy, PyData.depth, dpD]
  | .lst xs, h => by simp only [toPy, PyData.depth, dpD]; rw [dpL_py xs (by simpa [goodD] using h)]
  | .tup xs, h => by simp only [toPy, PyData.depth, dpD]; rw [dpL_py xs (by simpa [goodD] using h)]
  | .fro _, h => by simp [goodD] at h
  | .kt _, h => by simp [goodD] at h
  | .ref _, h => by simp [goodD] at h
theorem dpL_py : ∀ xs : List D, goodL xs = true → PyData.depthAll (toPyL xs) = dpL xs
  | [], _ => by simp [toPyL, PyData.depthAll, dpL]
  | x :: xs, h => by
    simp only [goodL, Bool.and_eq_true] at h
    simp only [toPyL, PyData.depthAll, dpL, dp_py x h.1, dpL_py xs h.2]
end
mutual
theorem Rep.dp {A : List Addr} {G H : Hp} (sub : Same G H) : ∀ (d : D) (v : V), Rep K A G v d → goodD d = true → Dp K H v (toPy d)
  | .non, _, h, _ => by cases h; simp only [toPy]; exact .non
  | .bl b, _, h, _ => by cases h; simp only [toPy]; exact .bl b
  | .int i, _, h, _ => by cases h; simp only [toPy]; exact .int i
  | .str x, _, h, _ => by cases h; simp only [toPy]; exact .str x
  | .tup ds, _, h, g => by
    cases h with
    | tup hs hr =>
      simp only [toPy]
      exact .tup (.inl (.inl (sub _ _ hs))) (RepL.dp sub ds _ hr (by simpa [goodD] using g))
  | .lst ds, _, h, g => by
    cases h with
    | lst hs hr =>
      simp only [toPy]
      exact .lst (.inl (.inl (sub _ _ hs))) (RepL.dp sub ds _ hr (by simpa [goodD] using g))
  | .fro ds, _, h, g => by simp [goodD] at g
  | .kt ds, _, h, g => by simp [goodD] at g
  | .ref k, _, h, g => by simp [goodD] at g
theorem RepL.dp {A : List Addr} {G H : Hp} (sub : Same G H) : ∀ (ds : List D) (vs : List V), RepL K A G vs ds → goodL ds = true → DpAll K H vs (toPyL ds)
  | [], _, h, _ => by cases h; simp only [toPyL]; exact .nil
  | d :: ds, _, h, g => by
    simp only [goodL, Bool.and_eq_true] at g
    cases h with
    | cons h1 h2 =>
      simp only [toPyL]
      exact .cons (Rep.dp sub d _ h1 g.1) (RepL.dp sub ds _ h2 g.2)
end
mutual
/-- with other things for those of the store -/
def mapR (f : Nat → D) : D → D
  | .tup xs => .tup (mapRL f xs)
  | .lst xs => .lst (mapRL f xs)
  | .ref k => f k
  | .non => .non
  | .bl b => .bl b
  | .int i => .int i
  | .str x => .str x
  | .fro xs => .fro xs
  | .kt xs => .kt xs
def mapRL (f : Nat → D) : List D → List D
  | [] => []
  | x :: xs => mapR f x :: mapRL f xs
end
/-- lists of the store, as they stand, so many within one another -/
def dd : Nat → Store → D → D
  | 0, _, x => x
  | n + 1, M, x => mapR (fun k => match M[k]? with
    | some (.lst ds) => .lst (ds.map (dd n M))
    | _ => .ref k) x
def derD (M : Store) (x : D) : D := dd 3 M x
mutual
theorem mapR_good {f : Nat → D} : ∀ x : D, goodD x = true → mapR f x = x
  | .non, _ => by simp only [mapR]
  | .bl _, _ => by simp only [mapR]
  | .int _, _ => by simp only [mapR]
  | .str _, _ => by simp only [mapR]
  | .lst xs, h => by simp only [mapR]; rw [mapRL_good xs (by simpa [goodD] using h)]
  | .tup xs, h => by simp only [mapR]; rw [mapRL_good xs (by simpa [goodD] using h)]
  | .fro _, h => by simp [goodD] at h
  | .kt _, h => by simp [goodD] at h
  | .ref _, h => by simp [goodD] at h
theorem mapRL_good {f : Nat → D} : ∀ xs : List D, goodL xs = true → mapRL f xs = xs
  | [], _ => by simp only [mapRL]
  | x :: xs, h => by
    simp only [goodL, Bool.and_eq_true] at h
    simp only [mapRL, mapR_good x h.1, mapRL_good xs h.2]
end
theorem der_good (M : Store) {x : D} (h : goodD x = true) : derD M x = x := by
  unfold derD dd
  exact mapR_good x h
mutual
theorem Rep.mapR {A : List Addr} {G H : Hp} (sub : Same G H) {f : Nat → D} (hf : ∀ k v, Rep K A G v (.ref k) → goodD (f k) = true → Dp K H v (toPy (f k))) : ∀ (d : D) (v : V), Rep K A G v d → goodD (TP.mapR f d) = true → Dp K H v (toPy (TP.mapR f d))
  | .non, _, h, _ => by cases h; simp only [TP.mapR, toPy]; exact .non
  | .bl b, _, h, _ => by cases h; simp only [TP.mapR, toPy]; exact .bl b
  | .int i, _, h, _ => by cases h; simp only [TP.mapR, toPy]; exact .int i
  | .str x, _, h, _ => by cases h; simp only [TP.mapR, toPy]; exact .str x
  | .tup ds, _, h, g => by
    cases h with
    | tup hs hr =>
      simp only [TP.mapR, toPy]
      simp only [TP.mapR, goodD] at g
      exact .tup (.inl (.inl (sub _ _ hs))) (RepL.mapR sub hf ds _ hr g)
  | .lst ds, _, h, g => by
    cases h with
    | lst hs hr =>
      simp only [TP.mapR, toPy]
      simp only [TP.mapR, goodD] at g
      exact .lst (.inl (.inl (sub _ _ hs))) (RepL.mapR sub hf ds _ hr g)
  | .fro ds, _, h, g => by simp [TP.mapR, goodD] at g
  | .kt ds, _, h, g => by simp [TP.mapR, goodD] at g
  | .ref k, v, h, g => by
    simp only [TP.mapR] at g ⊢
    exact hf k v h g
theorem RepL.mapR {A : List Addr} {G H : Hp} (sub : Same G H) {f : Nat → D} (hf : ∀ k v, Rep K A G v (.ref k) → goodD (f k) = true → Dp K H v (toPy (f k))) : ∀ (ds : List D) (vs : List V), RepL K A G vs ds → goodL (mapRL f ds) = true → DpAll K H vs (toPyL (mapRL f ds))
  | [], _, h, _ => by cases h; simp only [mapRL, toPyL]; exact .nil
  | d :: ds, _, h, g => by
    simp only [mapRL, goodL, Bool.and_eq_true] at g
    cases h with
    | cons h1 h2 =>
      simp only [mapRL, toPyL]
      exact .cons (Rep.mapR sub hf d _ h1 g.1) (RepL.mapR sub hf ds _ h2 g.2)
end
theorem RepL.each {w : Wd} {g : D → D} (hg : ∀ d v, Rep K w.A w.G v d → goodD (g d) = true → Dp K w.H v (toPy (g d))) : ∀ (ds : List D) (vs : List V), RepL K w.A w.G vs ds → goodL (ds.map g) = true → DpAll K w.H vs (toPyL (ds.map g))
  | [], _, h, _ => by cases h; exact .nil
  | d :: ds, _, h, z => by
    rw [List.map_cons] at z ⊢
    simp only [goodL, Bool.and_eq_true] at z
    cases h with
    | cons h1 h2 =>
      simp only [toPyL]
      exact .cons (hg d _ h1 z.1) (RepL.each hg ds _ h2 z.2)
theorem Rep.dd {w : Wd} (ok : w.Ok K) : ∀ (n : Nat) (d : D) (v : V), Rep K w.A w.G v d → goodD (TP.dd n w.M d) = true → Dp K w.H v (toPy (TP.dd n w.M d))
  | 0, d, v, r, g => by
    unfold TP.dd at g ⊢
    exact Rep.dp ok.sub d v r g
  | n + 1, d, v, r, g => by
    unfold TP.dd at g ⊢
    refine Rep.mapR ok.sub (fun k v r g => ?_) d v r g
    cases r with
    | @ref a k ek =>
      split at g
      · rename_i ds e2
        obtain ⟨a', e3, vs, h1, h2⟩ := ok.mos k _ e2
        rw [ek] at e3; cases e3
        simp only [toPy]
        simp only [goodD] at g
        exact .lst (.inl (.inl h1)) (RepL.each (fun d v r g => Rep.dd ok n d v r g) ds _ h2 g)
      · simp [goodD] at g
theorem RepB.dp {w : Wd} (ok : w.Ok K) {v : V} {x : D} (r : RepB K w v x) (g : goodD (derD w.M x) = true) : Dp K w.H v (toPy (derD w.M x)) := by
  rcases r with r | ⟨p, vs, ds, rfl, rfl, h1, _, _, h4⟩
  · exact Rep.dd ok 3 x v r g
  · unfold derD TP.dd at g ⊢
    simp only [TP.mapR, toPy]
    simp only [TP.mapR, goodD] at g
    refine .lst (.inl (.inl h1)) (RepL.mapR ok.sub (fun k v r g => ?_) ds _ h4 g)
    have r3 := Rep.dd ok 3 (.ref k) v r
    unfold TP.dd at r3
    simp only [TP.mapR] at r3
    exact r3 g
/-- two texts -/
def strP : D → D → Option Bool
  | .str i, .str j => some (decide (i = j))
  | _, _ => none
def rEqW (K : PySem.W.Frag) : R2 := fun x y H Q => (∃ i j, x = .str i ∧ y = .str j ∧ Q (.bl (decide (i = j))) H) ∨ ∃ d e, Dp K H x d ∧ Dp K H y e ∧ d.canLay0 = true ∧ e.canLay0 = true ∧ min d.depth e.depth ≤ 190 ∧ Q (.bl (PyData.eqv d e)) H
def rNeW (K : PySem.W.Frag) : R2 := fun x y H Q => (∃ i j, x = .str i ∧ y = .str j ∧ Q (.bl (!decide (i = j))) H) ∨ ∃ d e, Dp K H x d ∧ Dp K H y e ∧ d.canLay0 = true ∧ e.canLay0 = true ∧ min d.depth e.depth ≤ 190 ∧ Q (.bl (!PyData.eqv d e)) H
theorem op_eqW (hu : X.A.units + 200 < cLine) : OpR X (compareOp .Eq) (rEqW X.K) := by
  intro pins s σ H x y v u Q I rx ry h
  rcases h with ⟨i, j, rfl, rfl, q⟩ | h
  · refine op_eq pins s σ H (.str i) (.str j) v u Q I rx ry ⟨rfl, ?_⟩
    rw [show decide (V.str i = V.str j) = decide (i = j) by rw [Bool.eq_iff_iff]; simp]
    exact q
  obtain ⟨d, e, hd, he, sd, se, hm, q⟩ := h
  obtain ⟨as, r1⟩ := Dp.reads I d x v hd rx
  obtain ⟨bs, r2⟩ := Dp.reads I e y u he ry
  exact SeqAt.compareEq_reads r1 r2 sd se (by omega) ⟨.bl _, H, I, rfl, q⟩
theorem op_neW (hu : X.A.units + 200 < cLine) : OpR X (compareOp .NotEq) (rNeW X.K) := by
  intro pins s σ H x y v u Q I rx ry h
  rcases h with ⟨i, j, rfl, rfl, q⟩ | h
  · refine op_ne pins s σ H (.str i) (.str j) v u Q I rx ry ⟨rfl, ?_⟩
    rw [show decide (V.str i = V.str j) = decide (i = j) by rw [Bool.eq_iff_iff]; simp]
    exact q
  obtain ⟨d, e, hd, he, sd, se, hm, q⟩ := h
  obtain ⟨as, r1⟩ := Dp.reads I d x v hd rx
  obtain ⟨bs, r2⟩ := Dp.reads I e y u he ry
  exact SeqAt.compareNe_reads r1 r2 sd se (by omega) ⟨.bl _, H, I, rfl, q⟩
def eqD (M : Store) (x y : D) : Option Slot := match strP x y with
  | some b => some (.val (.bl b))
  | none => if goodD (derD M x) && goodD (derD M y) && decide (min (dpD (derD M x)) (dpD (derD M y)) ≤ 190) then some (.val (.bl (eqvD (derD M x) (derD M y)))) else none
def neD (M : Store) (x y : D) : Option Slot := match strP x y with
  | some b => some (.val (.bl !b))
  | none => if goodD (derD M x) && goodD (derD M y) && decide (min (dpD (derD M x)) (dpD (derD M y)) ≤ 190) then some (.val (.bl (!eqvD (derD M x) (derD M y)))) else none
theorem strP_at {x y : D} {b : Bool} (h : strP x y = some b) : ∃ i j, x = .str i ∧ y = .str j ∧ b = decide (i = j) := by
  unfold strP at h
  split at h
  · cases h; exact ⟨_, _, rfl, rfl, rfl⟩
  · cases h
theorem p_eq : Prim2 K (rEqW K) eqD := by
  intro w vx vy x y s Q ok rx ry h k
  unfold eqD at h
  split at h
  · rename_i b hb
    obtain ⟨i, j, rfl, rfl, rfl⟩ := strP_at hb
    cases h
    cases str_at rx
    cases str_at ry
    exact .inl ⟨i, j, rfl, rfl, ans ok k fun _ _ => .bl _⟩
  split at h
  · rename_i hc
    simp only [Bool.and_eq_true, decide_eq_true_eq] at hc
    obtain ⟨⟨h1, h2⟩, h3⟩ := hc
    cases h
    refine .inr ⟨_, _, rx.dp ok h1, ry.dp ok h2, lay_py _ h1, lay_py _ h2, by rw [dp_py _ h1, dp_py _ h2]; exact h3, ?_⟩
    rw [eqv_py _ _ h1 h2]
    exact ans ok k fun _ _ => .bl _
  · cases h
theorem p_ne : Prim2 K (rNeW K) neD := by
  intro w vx vy x y s Q ok rx ry h k
  unfold neD at h
  split at h
  · rename_i b hb
    obtain ⟨i, j, rfl, rfl, rfl⟩ := strP_at hb
    cases h
    cases str_at rx
    cases str_at ry
    exact .inl ⟨i, j, rfl, rfl, ans ok k fun _ _ => .bl _⟩
  split at h
  · rename_i hc
    simp only [Bool.and_eq_true, decide_eq_true_eq] at hc
    obtain ⟨⟨h1, h2⟩, h3⟩ := hc
    cases h
    refine .inr ⟨_, _, rx.dp ok h1, ry.dp ok h2, lay_py _ h1, lay_py _ h2, by rw [dp_py _ h1, dp_py _ h2]; exact h3, ?_⟩
    rw [eqv_py _ _ h1 h2]
    exact ans ok k fun _ _ => .bl _
  · cases h
/-! ### is -/
def isD (_ : Store) (x y : D) : Option Slot := match x, y with
  | .non, .non => some (.val (.bl true))
  | _, .non => some (.val (.bl false))
  | .bl a, .bl b => some (.val (.bl (decide (a = b))))
  | _, _ => none
def isntD (_ : Store) (x y : D) : Option Slot := match x, y with
  | .non, .non => some (.val (.bl false))
  | _, .non => some (.val (.bl true))
  | .bl a, .bl b => some (.val (.bl (!decide (a = b))))
  | _, _ => none
def rIsA : R2 := fun x y H Q => (y = .non ∧ Q (.bl (decide (x = .non))) H) ∨ rIsB x y H Q
def rIsntA : R2 := fun x y H Q => (y = .non ∧ Q (.bl (!decide (x = .non))) H) ∨ rNotB x y H Q
theorem op_isA : OpR X (compareOp .Is) rIsA := op_isN.or op_isBl
theorem op_isntA : OpR X (compareOp .IsNot) rIsntA := op_notN.or op_notBl
theorem non_iff {w : Wd} {v : V} {x : D} (r : RepB K w v x) (h : x ≠ .non) : v ≠ .non := fun e => by
  subst e
  rcases r with r | ⟨p, _, _, e, _⟩
  · cases r; exact h rfl
  · cases e
theorem p_is : Prim2 K rIsA isD := by
  intro w vx vy x y s Q ok rx ry h k
  unfold isD at h
  split at h
  · cases h
    cases non_at rx
    cases non_at ry
    exact .inl ⟨rfl, ans ok k fun _ _ => .bl _⟩
  · rename_i hx
    cases h
    cases non_at ry
    refine .inl ⟨rfl, ?_⟩
    rw [decide_eq_false (non_iff rx (fun e => hx e))]
    exact ans ok k fun _ _ => .bl _
  · cases h
    cases bl_at rx
    cases bl_at ry
    exact .inr ⟨_, _, rfl, rfl, ans ok k fun _ _ => .bl _⟩
  · cases h
theorem p_isnt : Prim2 K rIsntA isntD := by
  intro w vx vy x y s Q ok rx ry h k
  unfold isntD at h
  split at h
  · cases h
    cases non_at rx
    cases non_at ry
    exact .inl ⟨rfl, ans ok k fun _ _ => .bl _⟩
  · rename_i hx
    cases h
    cases non_at ry
    refine .inl ⟨rfl, ?_⟩
    rw [decide_eq_false (non_iff rx (fun e => hx e))]
    exact ans ok k fun _ _ => .bl _
  · cases h
    cases bl_at rx
    cases bl_at ry
    exact .inr ⟨_, _, rfl, rfl, ans ok k fun _ _ => .bl _⟩
  · cases h
end
end TP
/-! TPg: more built-in things; the store; a def's entry. -/
namespace TP
open PySem PySem.Spec PyProof.Rows L2
section
variable {K : PySem.W.Frag} {E : Wish} {X : Cx} {e : Expr}
/-! ### subscripts -/
def idxD (M : Store) (x y : D) : Option Slot := match x, y with
  | .tup ds, .int i => (atI ds i).map Slot.val
  | .kt ds, .int i => (atI ds i).map Slot.val
  | .str z, .int i => if z.length ≤ sizeLine then (atI z.cps.toList i).map fun c => .val (.str ⟨#[c]⟩) else none
  | x, .int i => match seqOf M x with
    | some ds => (atI ds i).map Slot.val
    | none => none
  | _, _ => none
theorem RepL.atI {A : List Addr} {G : Hp} {vs : List V} {ds : List D} {i : Int} {d : D} (h : RepL K A G vs ds) (e : atI ds i = some d) : ∃ v, L2.atI vs i = some v ∧ Rep K A G v d := by
  unfold L2.atI at e ⊢
  rw [h.length]
  cases q : ixN ds.length i with
  | none => rw [q] at e; cases e
  | some j => rw [q] at e; exact h.get e
theorem p_idx : Prim2 K (rIx K) idxD := by
  intro w vx vy x y s Q ok rx ry h k
  unfold idxD at h
  split at h
  · rename_i ds i
    cases q : L2.atI ds i with
    | none => rw [q] at h; cases h
    | some d =>
      rw [q] at h
      cases h
      obtain ⟨p, vs, rfl, hs, rl⟩ := tup_at ok rx
      cases int_at ry
      obtain ⟨v, hv, rv⟩ := rl.atI q
      exact .inr (.inl ⟨p, vs, i, v, rfl, rfl, hs, hv, k v w (Step.refl ok) rfl rv⟩)
  · rename_i ds i
    cases q : L2.atI ds i with
    | none => rw [q] at h; cases h
    | some d =>
      rw [q] at h
      cases h
      obtain ⟨p, vs, rfl, hs, rl⟩ := kt_at ok rx
      cases int_at ry
      obtain ⟨v, hv, rv⟩ := rl.atI q
      exact .inr (.inl ⟨p, vs, i, v, rfl, rfl, hs, hv, k v w (Step.refl ok) rfl rv⟩)
  · split at h
    · rename_i z i hz
      cases q : L2.atI z.cps.toList i with
      | none => rw [q] at h; cases h
      | some c =>
        rw [q] at h
        cases h
        cases str_at rx
        cases int_at ry
        exact .inr (.inr ⟨z, i, c, rfl, rfl, hz, q, ans ok k fun _ _ => .str _⟩)
    · cases h
  · rename_i i _ _ _
    split at h
    · rename_i ds e1
      cases q : L2.atI ds i with
      | none => rw [q] at h; cases h
      | some d =>
        rw [q] at h
        cases h
        obtain ⟨p, vs, rfl, hs, rl⟩ := seq_at ok rx e1
        cases int_at ry
        obtain ⟨v, hv, rv⟩ := rl.atI q
        exact .inl ⟨p, vs, i, v, rfl, rfl, hs, hv, k v w (Step.refl ok) rfl rv⟩
    · cases h
  · cases h
theorem x_ix {fa fb : FD} (h : PE X e (tOp (rIx K) (tR K E fa) (tR K E fb))) : PE X e (tE K E (dOp2 idxD fa fb)) := x_op2 h p_idx
/-! ### slices -/
def cutD (xs : List D) (lo hi : Option Int) : List D := (xs.drop (HT.sIx xs.length 0 lo)).take (HT.sIx xs.length xs.length hi - HT.sIx xs.length 0 lo)
theorem RepL.cut {A : List Addr} {G : Hp} {vs : List V} {ds : List D} (h : RepL K A G vs ds) (lo hi : Option Int) : RepL K A G (cutV vs lo hi) (cutD ds lo hi) := by
  unfold cutV cutD
  rw [h.length]
  exact (h.drop _).take _
def slD (M : Store) (x : D) (lo hi : Option Int) : Option Slot := match x with
  | .tup ds => some (.val (.tup (cutD ds lo hi)))
  | .str z => if z.length ≤ sizeLine then some (.val (.str (cutS z lo hi))) else none
  | x => match seqOf M x with
    | some ds => some (.own (cutD ds lo hi))
    | none => none
def rSlA3 (K : PySem.W.Frag) : V → Option Int → Option Int → Hp → VK → Prop := fun x lo hi H Q => rSlA K x lo hi H Q ∨ rSlS x lo hi H Q ∨ rSlL K x lo hi H Q
theorem sl_A3 : SlR X (rSlA3 X.K) := sl_tupA.or (sl_str.or sl_list)
theorem p_sl : PrimS K (rSlA3 K) slD := by
  intro w vx x lo hi s Q ok rx h k
  unfold slD at h
  split at h
  · rename_i ds
    cases h
    obtain ⟨p, vs, rfl, hs, rl⟩ := tup_at ok rx
    refine .inl ⟨p, vs, rfl, hs, fun hw => ?_, fun _ q hq => ?_⟩
    · have e : cutD ds lo hi = ds := by
        unfold cutD
        rw [← rl.length, hw.1, hw.2, List.drop_zero, Nat.sub_zero, rl.length, List.take_length]
      rw [e] at k
      rcases rx with rx | ⟨_, _, _, _, e, _⟩
      · exact k _ w (Step.refl ok) rfl rx
      · cases e
    · have st := ok.fresh hq (.tup (cutV vs lo hi))
      exact k _ _ st rfl (.tup upd_same (st.repL (rl.cut lo hi)))
  · split at h
    · rename_i hz
      cases h
      cases str_at rx
      exact .inr (.inl ⟨_, rfl, hz, ans ok k fun _ _ => .str _⟩)
    · cases h
  · split at h
    · rename_i e1
      cases h
      obtain ⟨p, vs, rfl, hs, rl⟩ := seq_at ok rx e1
      refine .inr (.inr ⟨p, vs, rfl, hs, fun q hq => ?_⟩)
      exact k _ _ (ok.fresh0 hq _) rfl (own_new (Step.refl ok) hq (rl.cut lo hi))
    · cases h
/-! ### in -/
def flatD : D → Bool
  | .non => true
  | .bl _ => true
  | .int _ => true
  | .str _ => true
  | _ => false
def elemsD (M : Store) : D → Option (List D)
  | .tup ds => some ds
  | .kt ds => some ds
  | x => seqOf M x
theorem elems_at {w : Wd} (ok : w.Ok K) {v : V} {x : D} {ds : List D} (r : RepB K w v x) (h : elemsD w.M x = some ds) : ∃ p vs, v = .ref p ∧ (SqL K w.H p vs ∨ SqT K w.H p vs) ∧ RepL K w.A w.G vs ds := by
  by_cases hf : ∃ es, x = .tup es
  · obtain ⟨es, rfl⟩ := hf
    cases h
    obtain ⟨p, vs, e, h1, h2⟩ := tup_at ok r
    exact ⟨p, vs, e, .inr h1, h2⟩
  by_cases hk : ∃ es, x = .kt es
  · obtain ⟨es, rfl⟩ := hk
    cases h
    obtain ⟨p, vs, e, h1, h2⟩ := kt_at ok r
    exact ⟨p, vs, e, .inr h1, h2⟩
  · have h' : seqOf w.M x = some ds := by
      cases x <;> first | exact h | exact absurd ⟨_, rfl⟩ hf | exact absurd ⟨_, rfl⟩ hk
    obtain ⟨p, vs, e, h1, h2⟩ := seq_at ok r h'
    exact ⟨p, vs, e, .inl h1, h2⟩
def inStr (i j : Str) : Bool := !(Builtin.Str.occurrences j i 0 j.length 1).isEmpty
def inD (M : Store) (x y : D) : Option Slot := match x, y with
  | .str i, .str j => some (.val (.bl (inStr i j)))
  | x, y => match elemsD M y with
    | some ds => if flatD x && ds.all flatD then some (.val (.bl (ds.any fun d => eqvD d x))) else none
    | none => none
def notInD (M : Store) (x y : D) : Option Slot := match x, y with
  | .str i, .str j => some (.val (.bl (!inStr i j)))
  | x, y => match elemsD M y with
    | some ds => if flatD x && ds.all flatD then some (.val (.bl (!ds.any fun d => eqvD d x))) else none
    | none => none
def rInA (K : PySem.W.Frag) : R2 := fun x y H Q => (∃ i j, x = .str i ∧ y = .str j ∧ Q (.bl (!(Builtin.Str.occurrences j i 0 j.length 1).isEmpty)) H) ∨ rIn K false x y H Q
def rNotInA (K : PySem.W.Frag) : R2 := fun x y H Q => (∃ i j, x = .str i ∧ y = .str j ∧ Q (.bl (!(!(Builtin.Str.occurrences j i 0 j.length 1).isEmpty))) H) ∨ rIn K true x y H Q
theorem op_inA : OpR X (compareOp .In) (rInA X.K) := op_in_str.or op_in_seq
theorem op_notInA : OpR X (compareOp .NotIn) (rNotInA X.K) := op_notin_str.or op_notIn_seq
theorem flat_at {A : List Addr} {G : Hp} {v : V} {d : D} (r : Rep K A G v d) (h : flatD d = true) : flatV v = true ∧ ∀ {v' : V} {d' : D}, Rep K A G v' d' → flatD d' = true → eqV v v' = eqvD d d' := by
  cases r with
  | non => exact ⟨rfl, fun r' h' => by cases r' <;> first | (cases h'; done) | simp [eqV, eqvD]⟩
  | bl b => exact ⟨rfl, fun r' h' => by cases r' <;> first | (cases h'; done) | simp [eqV, eqvD]⟩
  | int i => exact ⟨rfl, fun r' h' => by cases r' <;> first | (cases h'; done) | simp [eqV, eqvD]⟩
  | str z => exact ⟨rfl, fun r' h' => by cases r' <;> first | (cases h'; done) | simp [eqV, eqvD]⟩
  | _ => cases h
theorem flats_at {A : List Addr} {G : Hp} {v : V} {d : D} (r : Rep K A G v d) (h : flatD d = true) : ∀ {vs : List V} {ds : List D}, RepL K A G vs ds → ds.all flatD = true → vs.all flatV = true ∧ inV v vs = ds.any fun z => eqvD z d
  | [], [], _, _ => ⟨rfl, rfl⟩
  | v1 :: vs, d1 :: ds, .cons r1 rl, hs => by
    simp only [List.all_cons, Bool.and_eq_true] at hs
    obtain ⟨a, b⟩ := flats_at r h rl hs.2
    obtain ⟨c, f⟩ := flat_at r1 hs.1
    refine ⟨by simp only [List.all_cons, c, a, Bool.and_self], ?_⟩
    unfold inV at b ⊢
    rw [List.any_cons, List.any_cons, b, f r h]
theorem flatB {w : Wd} {v : V} {x : D} (r : RepB K w v x) (h : flatD x = true) : Rep K w.A w.G v x := by
  rcases r with r | ⟨_, _, _, _, rfl, _⟩
  · exact r
  · cases h
theorem p_in : Prim2 K (rInA K) inD := by
  intro w vx vy x y s Q ok rx ry h k
  unfold inD at h
  split at h
  · cases h
    cases str_at rx
    cases str_at ry
    exact .inl ⟨_, _, rfl, rfl, ans ok k fun _ _ => .bl _⟩
  · split at h
    · rename_i ds e1
      split at h
      · rename_i hc
        simp only [Bool.and_eq_true] at hc
        cases h
        obtain ⟨p, vs, rfl, hs, rl⟩ := elems_at ok ry e1
        have r := flatB rx hc.1
        obtain ⟨a, b⟩ := flats_at r hc.1 rl hc.2
        refine .inr ⟨p, vs, rfl, hs, (flat_at r hc.1).1, a, ?_⟩
        rw [b]
        exact ans ok k fun _ _ => .bl _
      · cases h
    · cases h
theorem p_notIn : Prim2 K (rNotInA K) notInD := by
  intro w vx vy x y s Q ok rx ry h k
  unfold notInD at h
  split at h
  · cases h
    cases str_at rx
    cases str_at ry
    exact .inl ⟨_, _, rfl, rfl, ans ok k fun _ _ => .bl _⟩
  · split at h
    · rename_i ds e1
      split at h
      · rename_i hc
        simp only [Bool.and_eq_true] at hc
        cases h
        obtain ⟨p, vs, rfl, hs, rl⟩ := elems_at ok ry e1
        have r := flatB rx hc.1
        obtain ⟨a, b⟩ := flats_at r hc.1 rl hc.2
        refine .inr ⟨p, vs, rfl, hs, (flat_at r hc.1).1, a, ?_⟩
        rw [b]
        exact ans ok k fun _ _ => .bl _
      · cases h
    · cases h
/-! ### len, min, max, int, list, tuple -/
def lenD (M : Store) (ds : List D) : Option Slot := match ds with
  | [.str z] => if z.length ≤ sizeLine then some (.val (.int z.length)) else none
  | [x] => match elemsD M x with
    | some es => some (.val (.int es.length))
    | none => none
  | _ => none
def rLenA (K : PySem.W.Frag) : List V → Hp → VK → Prop := fun xs H Q => (∃ p ys, xs = [.ref p] ∧ (SqL K H p ys ∨ SqT K H p ys) ∧ Q (.int ys.length) H) ∨ ∃ z, xs = [.str z] ∧ z.length ≤ sizeLine ∧ Q (.int z.length) H
theorem call_lenA : CallR X (.builtin "len") (rLenA X.K) := call_len_seq.or call_len_str
theorem p_len : PrimN K (rLenA K) lenD := by
  intro w vs ds s Q ok rl h k
  unfold lenD at h
  split at h
  · split at h
    · rename_i hz
      cases h
      obtain ⟨v, rfl, rv⟩ := rl.one
      cases str_at rv
      exact .inr ⟨_, rfl, hz, ans ok k fun _ _ => .int _⟩
    · cases h
  · split at h
    · rename_i es e1
      cases h
      obtain ⟨v, rfl, rv⟩ := rl.one
      obtain ⟨p, us, rfl, hs, r⟩ := elems_at ok rv e1
      refine .inl ⟨p, us, rfl, hs, ?_⟩
      rw [r.length]
      exact ans ok k fun _ _ => .int _
    · cases h
  · cases h
def min2D (_ : Store) (ds : List D) : Option Slot := match ds with
  | [.int i, .int j] => some (.val (.int (if j < i then j else i)))
  | _ => none
def max2D (_ : Store) (ds : List D) : Option Slot := match ds with
  | [.int i, .int j] => some (.val (.int (if j > i then j else i)))
  | _ => none
theorem p_min2 : PrimN K (fun xs H Q => ∃ i j, xs = [.int i, .int j] ∧ Q (.int (if j < i then j else i)) H) min2D := by
  intro w vs ds s Q ok rl h k
  unfold min2D at h
  split at h
  · cases h
    obtain ⟨v, v', rfl, rv, rv'⟩ := rl.two
    cases int_at rv
    cases int_at rv'
    exact ⟨_, _, rfl, ans ok k fun _ _ => .int _⟩
  · cases h
theorem p_max2 : PrimN K (fun xs H Q => ∃ i j, xs = [.int i, .int j] ∧ Q (.int (if j > i then j else i)) H) max2D := by
  intro w vs ds s Q ok rl h k
  unfold max2D at h
  split at h
  · cases h
    obtain ⟨v, v', rfl, rv, rv'⟩ := rl.two
    cases int_at rv
    cases int_at rv'
    exact ⟨_, _, rfl, ans ok k fun _ _ => .int _⟩
  · cases h
def intD (_ : Store) (ds : List D) : Option Slot := match ds with
  | [.int i] => some (.val (.int i))
  | [.bl b] => some (.val (.int (if b then 1 else 0)))
  | _ => none
theorem p_int : PrimN K (fun xs H Q => (∃ i, xs = [.int i] ∧ Q (.int i) H) ∨ ∃ k, xs = [.bl k] ∧ Q (.int (if k then 1 else 0)) H) intD := by
  intro w vs ds s Q ok rl h k
  unfold intD at h
  split at h
  · cases h
    obtain ⟨v, rfl, rv⟩ := rl.one
    cases int_at rv
    exact .inl ⟨_, rfl, ans ok k fun _ _ => .int _⟩
  · cases h
    obtain ⟨v, rfl, rv⟩ := rl.one
    cases bl_at rv
    exact .inr ⟨_, rfl, ans ok k fun _ _ => .int _⟩
  · cases h
def absD (_ : Store) (ds : List D) : Option Slot := match ds with
  | [.int i] => some (.val (.int (if i < 0 then -i else i)))
  | _ => none
theorem p_abs : PrimN K (fun xs H Q => ∃ i, xs = [.int i] ∧ Q (.int (if i < 0 then -i else i)) H) absD := by
  intro w vs ds s Q ok rl h k
  unfold absD at h
  split at h
  · cases h
    obtain ⟨v, rfl, rv⟩ := rl.one
    cases int_at rv
    exact ⟨_, rfl, ans ok k fun _ _ => .int _⟩
  · cases h
def listD (M : Store) (ds : List D) : Option Slot := match ds with
  | [x] => (elemsD M x).map Slot.own
  | _ => none
theorem p_list : PrimN K (fun xs H Q => ∃ p ys, xs = [.ref p] ∧ (SqL K H p ys ∨ SqT K H p ys) ∧ ∀ l, H l = none → Q (.ref l) (upd H l (.lst ys))) listD := by
  intro w vs ds s Q ok rl h k
  unfold listD at h
  split at h
  · rename_i x
    cases q : elemsD w.M x with
    | none => rw [q] at h; cases h
    | some es =>
      rw [q] at h
      cases h
      obtain ⟨v, rfl, rv⟩ := rl.one
      obtain ⟨p, us, rfl, hs, r⟩ := elems_at ok rv q
      exact ⟨p, us, rfl, hs, fun l hl => k _ _ (ok.fresh0 hl _) rfl (own_new (Step.refl ok) hl r)⟩
  · cases h
def tupleD (M : Store) (ds : List D) : Option Slot := match ds with
  | [.tup es] => some (.val (.tup es))
  | [x] => (seqOf M x).map fun es => .val (.tup es)
  | _ => none
theorem p_tuple : PrimN K (fun xs H Q => ∃ p ys, xs = [.ref p] ∧ ((SqL K H p ys ∧ ∀ l, H l = none → Q (.ref l) (upd H l (.tup ys))) ∨ (SqT K H p ys ∧ Q (.ref p) H))) tupleD := by
  intro w vs ds s Q ok rl h k
  unfold tupleD at h
  split at h
  · cases h
    obtain ⟨v, rfl, rv⟩ := rl.one
    obtain ⟨p, us, rfl, hs, r⟩ := tup_at ok rv
    rcases rv with rv | ⟨_, _, _, _, e, _⟩
    · exact ⟨p, us, rfl, .inr ⟨hs, k _ w (Step.refl ok) rfl rv⟩⟩
    · cases e
  · rename_i x _
    cases q : seqOf w.M x with
    | none => rw [q] at h; cases h
    | some es =>
      rw [q] at h
      cases h
      obtain ⟨v, rfl, rv⟩ := rl.one
      obtain ⟨p, us, rfl, hs, r⟩ := seq_at ok rv q
      refine ⟨p, us, rfl, .inl ⟨hs, fun l hl => ?_⟩⟩
      have st := ok.fresh hl (.tup us)
      exact k _ _ st rfl (.tup upd_same (st.repL r))
  · cases h
/-! ### all, any, sum of lists of bools, ints -/
def blsOf : List D → Option (List Bool)
  | [] => some []
  | .bl b :: ds => (blsOf ds).map (b :: ·)
  | _ => none
def intsOf : List D → Option (List Int)
  | [] => some []
  | .int b :: ds => (intsOf ds).map (b :: ·)
  | _ => none
theorem bls_at {A : List Addr} {G : Hp} : ∀ {ds : List D} {vs : List V} {bs : List Bool}, RepL K A G vs ds → blsOf ds = some bs → vs = bs.map V.bl
  | [], _, _, r, h => by cases r; cases h; rfl
  | .bl b :: ds, _, bs, r, h => by
    cases r with
    | cons r1 r2 =>
      simp only [blsOf] at h
      cases q : blsOf ds with
      | none => rw [q] at h; cases h
      | some cs =>
        rw [q] at h
        cases h
        cases r1
        rw [bls_at r2 q]
        rfl
  | .non :: _, _, _, _, h => by cases h
  | .int _ :: _, _, _, _, h => by cases h
  | .str _ :: _, _, _, _, h => by cases h
  | .tup _ :: _, _, _, _, h => by cases h
  | .lst _ :: _, _, _, _, h => by cases h
  | .fro _ :: _, _, _, _, h => by cases h
  | .kt _ :: _, _, _, _, h => by cases h
  | .ref _ :: _, _, _, _, h => by cases h
theorem ints_at {A : List Addr} {G : Hp} : ∀ {ds : List D} {vs : List V} {bs : List Int}, RepL K A G vs ds → intsOf ds = some bs → vs = bs.map V.int
  | [], _, _, r, h => by cases r; cases h; rfl
  | .int b :: ds, _, bs, r, h => by
    cases r with
    | cons r1 r2 =>
      simp only [intsOf] at h
      cases q : intsOf ds with
      | none => rw [q] at h; cases h
      | some cs =>
        rw [q] at h
        cases h
        cases r1
        rw [ints_at r2 q]
        rfl
  | .non :: _, _, _, _, h => by cases h
  | .bl _ :: _, _, _, _, h => by cases h
  | .str _ :: _, _, _, _, h => by cases h
  | .tup _ :: _, _, _, _, h => by cases h
  | .lst _ :: _, _, _, _, h => by cases h
  | .fro _ :: _, _, _, _, h => by cases h
  | .kt _ :: _, _, _, _, h => by cases h
  | .ref _ :: _, _, _, _, h => by cases h
def allD (M : Store) (ds : List D) : Option Slot := match ds with
  | [x] => match seqOf M x with
    | some es => (blsOf es).map fun bs => .val (.bl (bs.all id))
    | none => none
  | _ => none
def anyD (M : Store) (ds : List D) : Option Slot := match ds with
  | [x] => match seqOf M x with
    | some es => (blsOf es).map fun bs => .val (.bl (bs.any id))
    | none => none
  | _ => none
def sumD (M : Store) (ds : List D) : Option Slot := match ds with
  | [x] => match seqOf M x with
    | some es => (intsOf es).map fun bs => .val (.int bs.sum)
    | none => none
  | _ => none
theorem p_all : PrimN K (rAll K) allD := by
  intro w vs ds s Q ok rl h k
  unfold allD at h
  split at h
  · split at h
    · rename_i es e1
      cases q : blsOf es with
      | none => rw [q] at h; cases h
      | some bs =>
        rw [q] at h
        cases h
        obtain ⟨v, rfl, rv⟩ := rl.one
        obtain ⟨p, us, rfl, hs, r⟩ := seq_at ok rv e1
        cases bls_at r q
        exact ⟨p, bs, rfl, hs, ans ok k fun _ _ => .bl _⟩
    · cases h
  · cases h
theorem p_any : PrimN K (rAny K) anyD := by
  intro w vs ds s Q ok rl h k
  unfold anyD at h
  split at h
  · split at h
    · rename_i es e1
      cases q : blsOf es with
      | none => rw [q] at h; cases h
      | some bs =>
        rw [q] at h
        cases h
        obtain ⟨v, rfl, rv⟩ := rl.one
        obtain ⟨p, us, rfl, hs, r⟩ := seq_at ok rv e1
        cases bls_at r q
        exact ⟨p, bs, rfl, hs, ans ok k fun _ _ => .bl _⟩
    · cases h
  · cases h
theorem p_sum : PrimN K (rSum K) sumD := by
  intro w vs ds s Q ok rl h k
  unfold sumD at h
  split at h
  · split at h
    · rename_i es e1
      cases q : intsOf es with
      | none => rw [q] at h; cases h
      | some bs =>
        rw [q] at h
        cases h
        obtain ⟨v, rfl, rv⟩ := rl.one
        obtain ⟨p, us, rfl, hs, r⟩ := seq_at ok rv e1
        cases ints_at r q
        exact ⟨p, bs, rfl, hs, ans ok k fun _ _ => .int _⟩
    · cases h
  · cases h
/-! ### texts -/
def upperD (_ : Store) (x : D) (ds : List D) : Option Slot := match x, ds with
  | .str a, [] => if a.length ≤ 5592405 then some (.val (.str (Txt.upper a))) else none
  | _, _ => none
theorem p_upper : PrimM K (fun x xs H Q => ∃ a, x = .str a ∧ xs = [] ∧ a.length ≤ 5592405 ∧ Q (.str (Txt.upper a)) H) upperD := by
  intro w vx x vs ds s Q ok rx rl h k
  unfold upperD at h
  split at h
  · split at h
    · rename_i hz
      cases h
      cases str_at rx
      cases rl
      exact ⟨_, rfl, rfl, hz, ans ok k fun _ _ => .str _⟩
    · cases h
  · cases h
def strsOf : List D → Option (List Str)
  | [] => some []
  | .str b :: ds => (strsOf ds).map (b :: ·)
  | _ => none
theorem strs_at {A : List Addr} {G : Hp} : ∀ {ds : List D} {vs : List V} {bs : List Str}, RepL K A G vs ds → strsOf ds = some bs → vs = bs.map V.str
  | [], _, _, r, h => by cases r; cases h; rfl
  | .str b :: ds, _, bs, r, h => by
    cases r with
    | cons r1 r2 =>
      simp only [strsOf] at h
      cases q : strsOf ds with
      | none => rw [q] at h; cases h
      | some cs =>
        rw [q] at h
        cases h
        cases r1
        rw [strs_at r2 q]
        rfl
  | .non :: _, _, _, _, h => by cases h
  | .bl _ :: _, _, _, _, h => by cases h
  | .int _ :: _, _, _, _, h => by cases h
  | .tup _ :: _, _, _, _, h => by cases h
  | .lst _ :: _, _, _, _, h => by cases h
  | .fro _ :: _, _, _, _, h => by cases h
  | .kt _ :: _, _, _, _, h => by cases h
  | .ref _ :: _, _, _, _, h => by cases h
def joinD (M : Store) (x : D) (ds : List D) : Option Slot := match x, ds with
  | .str a, [y] => match elemsD M y with
    | some es => match strsOf es with
      | some ys => if (ys.map (·.length)).sum + ys.length * a.length ≤ 16777216 then some (.val (.str (Txt.join a ys))) else none
      | none => none
    | none => none
  | _, _ => none
theorem p_join : PrimM K (fun x xs H Q => ∃ a p, ∃ ys : List Str, x = .str a ∧ xs = [.ref p] ∧ (SqL K H p (ys.map V.str) ∨ SqT K H p (ys.map V.str)) ∧ (ys.map (·.length)).sum + ys.length * a.length ≤ 16777216 ∧ Q (.str (Txt.join a ys)) H) joinD := by
  intro w vx x vs ds s Q ok rx rl h k
  unfold joinD at h
  split at h
  · split at h
    · rename_i es e1
      split at h
      · rename_i ys e2
        split at h
        · rename_i hz
          cases h
          cases str_at rx
          obtain ⟨v, rfl, rv⟩ := rl.one
          obtain ⟨p, us, rfl, hs, r⟩ := elems_at ok rv e1
          cases strs_at r e2
          exact ⟨_, p, ys, rfl, rfl, hs, hz, ans ok k fun _ _ => .str _⟩
        · cases h
      · cases h
    · cases h
  · cases h
/-! ### isinstance with a built-in class -/
def clsD (M : Store) : D → Option String
  | .non => some "NoneType"
  | .bl _ => some "bool"
  | .int _ => some "int"
  | .str _ => some "str"
  | .tup _ => some "tuple"
  | .lst _ => some "list"
  | .fro _ => none
  | .kt _ => some "tuple"
  | .ref k => match M[k]? with
    | some (.lst _) => some "list"
    | some (.dK _) => some "dict"
    | some (.dT _) => some "dict"
    | _ => none
theorem cls_at {w : Wd} (ok : w.Ok K) {v : V} {x : D} {T : String} (r : RepB K w v x) (h : clsD w.M x = some T) : TyX K w.H v (.type T) := by
  cases x with
  | non => cases non_at r; cases h; exact .base .non
  | bl b => cases bl_at r; cases h; exact .base (.bl b)
  | int b => cases int_at r; cases h; exact .base (.int b)
  | str b => cases str_at r; cases h; exact .base (.str b)
  | tup ds =>
    cases h
    obtain ⟨p, vs, rfl, hs, rl⟩ := tup_at ok r
    rcases hs with (hs | ⟨o, hs⟩) | ⟨o, its, n, hk, hc, _⟩
    · exact .base (.tup hs)
    · exact .fTuple hs
    · exact .kTuple hk hc
  | lst ds =>
    cases h
    obtain ⟨p, vs, rfl, hs, rl⟩ := lst_at (ds := ds) ok r rfl
    exact .base (.lst hs)
  | fro ds => cases h
  | kt ds =>
    cases h
    obtain ⟨p, vs, rfl, hs, rl⟩ := kt_at ok r
    rcases hs with (hs | ⟨o, hs⟩) | ⟨o, its, n, hk, hc, _⟩
    · exact .base (.tup hs)
    · exact .fTuple hs
    · exact .kTuple hk hc
  | ref k =>
    simp only [clsD] at h
    rcases r with r | ⟨p, vs, es', rfl, e, _⟩
    · cases r with
      | @ref a k ek =>
        split at h
        · rename_i ds e2
          obtain ⟨a', e3, vs, h1, h2⟩ := ok.mos k _ e2
          rw [ek] at e3; cases e3
          cases h
          exact .base (.lst h1)
        · rename_i ds e2
          obtain ⟨a', e3, vs, h1, h2⟩ := ok.mos k _ e2
          rw [ek] at e3; cases e3
          cases h
          exact .base (.dK h1)
        · rename_i ds e2
          obtain ⟨a', e3, vs, h1, h2⟩ := ok.mos k _ e2
          rw [ek] at e3; cases e3
          cases h
          exact .base (.dT h1)
        · cases h
    · cases e
/-- subclasses among these -/
def subTy (a b : String) : Bool := a == b || (a == "bool" && b == "int")
def kitTys : List String := ["NoneType", "bool", "int", "str", "tuple", "list", "dict"]
theorem kit_all : ∀ a ∈ kitTys, ∀ b ∈ ["bool", "int", "str", "tuple", "list", "dict"], kitB a b = some (subTy a b) := by decide +kernel
theorem cls_in {M : Store} {x : D} {T : String} (h : clsD M x = some T) : T ∈ kitTys := by
  cases x <;> simp only [clsD] at h <;> first | (cases h; done) | (cases h; decide) | skip
  split at h <;> first | (cases h; done) | (cases h; decide)
def isiD (T : String) (M : Store) (x : D) : Option Slot := (clsD M x).map fun c => .val (.bl (subTy c T))
/-- isinstance(e, T) -/
def tIsi (T : String) (K : PySem.W.Frag) (t : TE) : TE := tCB (rIsi K) (tCons t (tCons (tC (.ty T)) tNil))
theorem x_isi {T : String} (hT : T ∈ ["bool", "int", "str", "tuple", "list", "dict"]) {f : FD} (h : PE X e (tIsi T K (tR K E f))) : PE X e (tE K E (dOp1 (isiD T) f)) := PE.wk h fun σ H Q ⟨ρ, w, e1, ok, sr, a⟩ =>
  ⟨ρ, w, e1, ok, sr, a.bind.imp fun x w1 s1 a1 v rv => by
    obtain ⟨s, es, k⟩ := fin_of s1 a1
    unfold isiD at es
    cases q : clsD w1.M x with
    | none => rw [q] at es; cases es
    | some c =>
      rw [q] at es
      cases es
      exact ⟨v, .ty T, .type c, .type T, subTy c T, rfl, .ty T, cls_at s1.ok rv q, kit_ty (kit_all c (cls_in q) T hT), ans s1.ok k fun _ _ => .bl _⟩⟩
/-! ### the store -/
/-- a list of one's own comes into the store -/
def dRef (f : FE) : FE := fun ρ M => (f ρ M).bind fun x M => match x with
  | .own ds => .ok (.val (.ref M.length)) (M ++ [.lst ds])
  | _ => .bad
theorem Wd.Ok.push {w : Wd} (h : w.Ok K) {p : Addr} {o : MO} (hG : w.G p = none) (hA : p ∉ w.A) (hm : MoR K w p o) : (⟨w.A ++ [p], w.G, w.M ++ [o], w.H⟩ : Wd).Ok K := by
  have up : ∀ {a : Addr} {m : MO}, MoR K w a m → MoR K ⟨w.A ++ [p], w.G, w.M ++ [o], w.H⟩ a m := fun {a m} r => by
    have rr : ∀ v d, Rep K w.A w.G v d → Rep K (w.A ++ [p]) w.G v d := fun v d => Rep.mono (List.prefix_append _ _) (Same.refl _) d v
    cases m with
    | lst ds => obtain ⟨vs, z, q⟩ := r; exact ⟨vs, z, RepL.mono (List.prefix_append _ _) (Same.refl _) _ _ q⟩
    | dK ds => obtain ⟨vs, z, q⟩ := r; exact ⟨vs, z, q.imp rr⟩
    | dT ds => obtain ⟨vs, z, q⟩ := r; exact ⟨vs, z, q.imp rr⟩
    | ins c fs => obtain ⟨vs, dx, z, q⟩ := r; exact ⟨vs, dx, z, q.imp rr⟩
  refine ⟨h.sub, ?_, by simp [h.len], fun a ha => ?_, fun k m e => ?_⟩
  · rw [List.nodup_append]
    exact ⟨h.nd, by simp, fun a ha b hb => by simp at hb; subst hb; exact fun z => hA (z ▸ ha)⟩
  · rcases List.mem_append.mp ha with ha | ha
    · exact h.out a ha
    · simp at ha; subst ha; exact hG
  · have e : (w.M ++ [o])[k]? = some m := e
    by_cases hk : k < w.M.length
    · rw [List.getElem?_append_left hk] at e
      obtain ⟨a, ea, r⟩ := h.mos k m e
      exact ⟨a, pre_get (List.prefix_append _ _) ea, up r⟩
    · rw [List.getElem?_append_right (by omega)] at e
      have hk2 : k - w.M.length = 0 := by
        have := (List.getElem?_eq_some_iff.mp e).1
        simp at this
        omega
      rw [hk2] at e
      cases e
      refine ⟨p, ?_, up hm⟩
      show (w.A ++ [p])[k]? = some p
      have hl := h.len
      rw [List.getElem?_append_right (by omega), show k - w.A.length = 0 by omega]
      rfl
theorem x_ref {f : FE} (h : PE X e (tE K E f)) : PE X e (tE K E (dRef f)) := PE.wk h fun σ H Q ⟨ρ, w, e1, ok, sr, a⟩ =>
  ⟨ρ, w, e1, ok, sr, by
    unfold dRef at a
    cases q : f ρ w.M with
    | bad => rw [q] at a; exact a
    | exc c d M => rw [q] at a; exact a
    | ok x M =>
      rw [q] at a
      cases x with
      | un => exact a.elim
      | val d => exact a.elim
      | own ds =>
        intro w1 s1 eM v rv
        obtain ⟨p, vs, rfl, h0, hH, hG, hA, rl⟩ := rv
        have ok2 := s1.ok.push hG hA (show MoR K w1 p (.lst ds) from ⟨vs, hH, rl⟩)
        have a' : ∀ w', Step K w w' → w'.M = M ++ [.lst ds] → ∀ v, RepX K w w' v (.val (.ref M.length)) → Q v w'.H := a
        refine a' ⟨w1.A ++ [p], w1.G, w1.M ++ [.lst ds], w1.H⟩ ⟨ok2, s1.pre.trans (List.prefix_append _ _), s1.fro, fun b o z1 z2 z3 => ?_⟩ (by rw [eM]) _ (.ref ?_)
        · obtain ⟨c1, c2, c3⟩ := s1.keep b o z1 z2 z3
          exact ⟨c1, c2, fun hm => (List.mem_append.mp hm).elim c3 fun z => by simp at z; subst z; rw [h0] at z1; cases z1⟩
        · show (w1.A ++ [p])[M.length]? = some p
          have hl := s1.ok.len
          rw [eM] at hl
          rw [← hl, List.getElem?_append_right (Nat.le_refl _), Nat.sub_self]
          rfl⟩
/-- the k-th thing of the store is changed -/
theorem Wd.Ok.put {w : Wd} (h : w.Ok K) {k : Nat} {p : Addr} {o : MO} {ho : HO} (hk : w.A[k]? = some p) (hm : MoR K ⟨w.A, w.G, w.M.set k o, upd w.H p ho⟩ p o) : Step K w ⟨w.A, w.G, w.M.set k o, upd w.H p ho⟩ := by
  have hp : p ∈ w.A := List.mem_of_getElem? hk
  have hG : w.G p = none := h.out p hp
  have hkl : k < w.M.length := by rw [← h.len]; exact (List.getElem?_eq_some_iff.mp hk).1
  refine ⟨⟨fun b u e => ?_, h.nd, by simp [h.len], h.out, fun j m e => ?_⟩, List.prefix_refl _, Same.refl _, fun q u z1 z2 z3 => ⟨?_, z2, z3⟩⟩
  · show upd w.H p ho b = some u
    rw [upd_ne (ne_of_none e hG)]
    exact h.sub b u e
  · have e : (w.M.set k o)[j]? = some m := e
    by_cases hj : k = j
    · subst hj
      rw [List.getElem?_set_self hkl] at e
      cases e
      exact ⟨p, hk, hm⟩
    · rw [List.getElem?_set_ne hj] at e
      obtain ⟨a, ea, r⟩ := h.mos j m e
      have na : a ≠ p := fun z => hj ((List.getElem?_inj (List.getElem?_eq_some_iff.mp hk).1 h.nd).mp (by rw [hk]; rw [← z]; exact ea.symm))
      refine ⟨a, ea, ?_⟩
      cases m with
      | lst ds => obtain ⟨vs, z, q⟩ := r; exact ⟨vs, by show upd w.H p ho a = _; rw [upd_ne na]; exact z, q⟩
      | dK ds => obtain ⟨vs, z, q⟩ := r; exact ⟨vs, by show upd w.H p ho a = _; rw [upd_ne na]; exact z, q⟩
      | dT ds => obtain ⟨vs, z, q⟩ := r; exact ⟨vs, by show upd w.H p ho a = _; rw [upd_ne na]; exact z, q⟩
      | ins c fs => obtain ⟨vs, dx, z, q⟩ := r; exact ⟨vs, dx, by show upd w.H p ho a = _; rw [upd_ne na]; exact z, q⟩
  · show upd w.H p ho q = some u
    rw [upd_ne (fun z : q = p => z3 (z ▸ hp))]
    exact z1
/-- o[i] = e of a list of the store -/
def sPutR (f fo fi : FD) : FS := fun ρ M => (f ρ M).out fun x M => (fo ρ M).out fun o M => (fi ρ M).out fun i M => match o, i with
  | .ref k, .int j => match M[k]? with
    | some (.lst ds) => match ixN ds.length j with
      | some n => .next ρ (M.set k (.lst (ds.set n x)))
      | none => .bad
    | _ => .bad
  | _, _ => .bad
theorem ref_at {w : Wd} {v : V} {k : Nat} (r : RepB K w v (.ref k)) : ∃ a, v = .ref a ∧ w.A[k]? = some a := by
  rcases r with r | ⟨p, vs, es', rfl, e, _⟩
  · cases r with
    | ref e => exact ⟨_, rfl, e⟩
  · cases e
theorem s_putR {st : Stmt} {f fo fi : FD} (h : PS X st (tAsg (tF K E f) (gSub (tR K E fo) (tR K E fi) rSetL))) : PS X st (tS K E (sPutR f fo fi)) := PS.wk h fun D σ H ⟨ρ, w, w0, e1, s, sr, of, p⟩ =>
  ⟨ρ, w, e1, s.ok, sr, (out_after s p).imp fun x w1 s1 p1 v rv => ⟨ρ, w1, rfl, s1.ok, sr.step s1, (out_after (s.trans s1) p1).imp fun o w2 s2 p2 vo ro => ⟨ρ, w2, rfl, s2.ok, (sr.step s1).step s2, (out_after ((s.trans s1).trans s2) p2).imp fun i w3 s3 p3 vi ri => by
    split at p3
    · rename_i k j
      split at p3
      · rename_i ds e2
        split at p3
        · rename_i n en
          obtain ⟨a, rfl, ea⟩ := ref_at (ro.step s3)
          cases int_at ri
          obtain ⟨a', ea', vs, hH, rl⟩ := s3.ok.mos k _ e2
          rw [ea] at ea'
          cases ea'
          refine ⟨a, vs, j, n, rfl, rfl, hH, by rw [rl.length]; exact en, ?_⟩
          have rv3 := (s2.trans s3).rep rv
          have st3 := s3.ok.put (o := .lst (ds.set n x)) (ho := .lst (vs.set n v)) ea ⟨_, upd_same, rl.set rv3 n⟩
          have sall := ((s.trans s1).trans s2).trans s3
          exact p3 _ σ (sall.trans st3) st3.le rfl ((((sr.step s1).step s2).step s3).step st3) of
        · exact p3.elim
      · exact p3.elim
    · exact p3.elim⟩⟩⟩
/-! ### a def's entry -/
def startD (n : Nat) (ds : List D) : EnvD := ds.map Slot.val ++ List.replicate (n - ds.length) .un
theorem SR.start {w : Wd} {N : List Str} {vs : List V} {ds : List D} (rl : RepL K w.A w.G vs ds) : SR K w (startD N.length ds) (L2.start N vs) := by
  have no : ∀ (i : Nat) (es : List D), (startD N.length ds)[i]? ≠ some (.own es) := fun i es h => by
    unfold startD at h
    by_cases hi : i < (ds.map Slot.val).length
    · rw [List.getElem?_append_left hi, List.getElem?_map] at h
      cases q : ds[i]? with
      | none => rw [q] at h; cases h
      | some d => rw [q] at h; cases h
    · rw [List.getElem?_append_right (by omega), List.getElem?_replicate] at h
      split at h <;> cases h
  refine ⟨by unfold startD L2.start; simp [rl.length], fun i d h => ?_, fun i es h => absurd h (no i es), fun i j es es' p h => absurd h (no i es)⟩
  unfold startD at h
  by_cases hi : i < (ds.map Slot.val).length
  · rw [List.getElem?_append_left hi, List.getElem?_map] at h
    cases q : ds[i]? with
    | none => rw [q] at h; cases h
    | some d' =>
      rw [q] at h
      cases h
      obtain ⟨v, ev, rv⟩ := rl.get q
      refine ⟨v, ?_, rv⟩
      unfold L2.start
      rw [List.length_map] at hi
      rw [List.getElem?_append_left (by simpa [rl.length] using hi), List.getElem?_map, ev]
      rfl
  · rw [List.getElem?_append_right (by omega), List.getElem?_replicate] at h
    split at h <;> cases h
theorem OF.start (w : Wd) (n : Nat) (ds : List D) (σ : L2.St) : OF w (startD n ds) σ := fun i es p h => by
  exfalso
  unfold startD at h
  by_cases hi : i < (ds.map Slot.val).length
  · rw [List.getElem?_append_left hi, List.getElem?_map] at h
    cases q : ds[i]? with
    | none => rw [q] at h; cases h
    | some d => rw [q] at h; cases h
  · rw [List.getElem?_append_right (by omega), List.getElem?_replicate] at h
    split at h <;> cases h
def runF (n : Nat) (g : FS) : Fn := fun ds M => match g (startD n ds) M with
  | .next _ M => .ok (.val .non) M
  | .ret s M => .ok s M
  | .exc c d M => .exc c d M
  | _ => .bad
abbrev W0 : XK → Wish := fun _ => E00
/-- a def that lets no exception out -/
theorem fn_ok {P : Program} {wo : World} {mg : Str → Option Value} {base : Heap} {x qual : Str} {st : Stmt} {f : Addr} {fd : FuncData} {N ps : List Str} {k : Nat} {g : FS} (F : Fun K x qual st f fd) (S : FnScope N ps (defScope st))
    (hbody : ∀ (cdv : Value) (A : Around) (outer : List Env) (s : Shared) (H : Hp) (EX : XK), Room k (A.deeper (envOfC qual (defScope st) s.heap.objs.size f cdv)) →
      PSs (cxOf CX0 P wo K mg base N qual (defScope st) f cdv A outer s H EX).nox (defBody st) (tS K E00 g)) : FnOk P wo K mg base CX0 (k + 1) f fd ps (spD K W0 ps.length (runF N.length g)) := by
  refine F.ok S (fun vs H Q EX h => h.1) (fun cdv A outer s H vs Q EX hr h => ?_)
  refine ⟨_, hbody cdv A outer s H EX hr, ?_⟩
  obtain ⟨hl, ds, w, rfl, ok, rl, a⟩ := h
  refine ⟨startD N.length ds, w, w, rfl, Step.refl ok, SR.start rl, OF.start w _ _ _, ?_⟩
  unfold runF at a
  cases q : g (startD N.length ds) w.M with
  | next ρ M => rw [q] at a; exact fun w' σ s' _ eM _ _ => a w' s' eM .non .non
  | ret x M => rw [q] at a; exact fun w' v s' eM rv => a w' s' eM v rv
  | exc c d M => rw [q] at a; exact a
  | brk ρ M => rw [q] at a; exact a.elim
  | cont ρ M => rw [q] at a; exact a.elim
  | bad => rw [q] at a; exact a.elim
end
end TP
/-! TPh: chains, more statements, more walks. -/
namespace TP
open PySem L2
section
variable {K : PySem.W.Frag} {E : Wish} {X : Cx} {e : Expr} {st : Stmt}
def dChain (g g' : Store → D → D → Option Slot) (fa fb fc : FD) : FE := fun ρ M => (fa ρ M).bind fun x M => (fb ρ M).bind fun y M => match g M x y with
  | some (.val (.bl true)) => (fc ρ M).bind fun z M => R.of (g' M y z) M
  | some (.val (.bl false)) => .ok (.val (.bl false)) M
  | _ => .bad
theorem x_chain {r r' : R2} {g g' : Store → D → D → Option Slot} {fa fb fc : FD} (h : PE X e (tChain r r' (tR K E fa) (tR K E fb) (tR K E fc))) (p : Prim2 K r g) (p' : Prim2 K r' g') : PE X e (tE K E (dChain g g' fa fb fc)) := PE.wk h fun σ H Q ⟨ρ, w, e1, ok, sr, a⟩ =>
  ⟨ρ, w, e1, ok, sr, a.bind.imp fun x w1 s1 a1 vx rx => ⟨ρ, w1, rfl, s1.ok, sr.step s1, a1.bind.imp fun y w2 s2 a2 vy ry => by
    split at a2
    · rename_i eg
      refine p w2 vx vy x y _ _ s2.ok (rx.step s2) ry eg fun v w3 s3 e3 rv => ?_
      cases rv
      have s13 := (s1.trans s2).trans s3
      refine ⟨true, rfl, iteT ⟨ρ, w3, rfl, s3.ok, ((sr.step s1).step s2).step s3, ?_⟩⟩
      rw [e3]
      have a3 := a2.later s3
      exact a3.bind.imp fun z w4 s4 a4 vz rz => by
        obtain ⟨s, es, k⟩ := fin_of (s13.trans s4) a4
        exact p' w4 vy vz y z s Q s4.ok ((ry.step s3).step s4) rz es k
    · rename_i eg
      refine p w2 vx vy x y _ _ s2.ok (rx.step s2) ry eg fun v w3 s3 e3 rv => ?_
      cases rv
      exact ⟨false, rfl, iteF (a2 w3 s3 e3 _ (.bl _))⟩
    · exact a2.elim⟩⟩
/-- name = [comprehension] on one line -/
theorem s_setLc {i : Nat} {fi : FL} {b : D → EnvD → Option EnvD} {is : List Nat} {c : FB} {f : FD} {vs : List Nat} (hv : ∀ i ∈ is, i ∈ vs) (h : PS X st (tAsg (tLc (tI K E fi) (tG K b is) (tT K E00 c) (tF K E00 f) vs) (gName i))) : PS X st (tS K E (sSet i (dLc fi b c f vs))) :=
  s_set (PS.wk h fun D σ H z => lc_le hv σ H _ z)
/-- name op= e -/
def sAug (i : Nat) (g : Store → D → D → Option Slot) (f : FD) : FS := fun ρ M => match ρ[i]? with
  | some (.val x) => (f ρ M).out fun y M => match g M x y with
    | some (.val z) => .next (ρ.set i (.val z)) M
    | _ => .bad
  | _ => .bad
/-- what op= does by values, for plain data that is not changed in place -/
def PrimI (K : PySem.W.Frag) (r : TIp) (g : Store → D → D → Option Slot) : Prop := ∀ (w : Wd) (vx vy : V) (x y z : D) (Q : VK), w.Ok K → Rep K w.A w.G vx x → RepB K w vy y → g w.M x y = some (.val z) →
  (∀ v w', Step K w w' → w'.M = w.M → Rep K w'.A w'.G v z → Q v w'.H) → r vx vy w.H Q
theorem s_aug {i : Nat} {r : TIp} {g : Store → D → D → Option Slot} {f : FD} (h : PS X st (tAug i (tR K E f) r)) (p : PrimI K r g) : PS X st (tS K E (sAug i g f)) := PS.wk h fun D σ H ⟨ρ, w, w0, e1, s, sr, of, q⟩ => by
  subst e1
  unfold sAug at q
  split at q
  · rename_i x e2
    obtain ⟨v, h1, h2⟩ := sr.val i x e2
    refine ⟨v, h1, ρ, w, rfl, s.ok, sr, (out_after s q).imp fun y w1 s1 q1 vy ry => ?_⟩
    split at q1
    · rename_i z eg
      refine p w1 v vy x y z _ s1.ok (s1.rep h2) ry eg fun u w2 s2 e3 rz => ?_
      refine q1 w2 _ ((s.trans s1).trans s2) s2.le e3 (((sr.step s1).step s2).set i rz) (of.sub (OwnSub.set ρ σ i (fun _ z => by cases z) _))
    · exact q1.elim
  · exact q.elim
def iaddD (_ : Store) (x y : D) : Option Slot := match x, y with
  | .int i, .int j => some (.val (.int (i + j)))
  | _, _ => none
theorem p_iadd : PrimI K (ipI fun i j => i + j) iaddD := by
  intro w vx vy x y z Q ok rx ry h k
  unfold iaddD at h
  split at h
  · cases h
    cases rx
    cases int_at ry
    exact ⟨_, _, rfl, rfl, k _ w (Step.refl ok) rfl (.int _)⟩
  · cases h
/-! ### enumerate, zip, reversed -/
def enumL (ds : List D) : List D := (List.range ds.length).map fun i => .tup [.int (i : Nat), ds.getD i .non]
theorem it_enum {w : Wd} {a : Addr} {vs : List V} {ds : List D} (hs : SqL K w.G a vs) (rl : RepL K w.A w.G vs ds) : IterOk K w (Ite K a) (enumL ds) := fun w2 le ok2 i => by
  have h2 : SqL K w2.H a vs := ok2.sub.seq (le.2.seq hs)
  have r2 := le.repL rl
  refine ⟨fun d ed => ?_, fun hl => ⟨vs, h2, by rw [rl.length]; simpa [enumL] using hl⟩⟩
  unfold enumL at ed
  rw [List.getElem?_map] at ed
  by_cases hi : i < ds.length
  · rw [List.getElem?_range hi] at ed
    cases ed
    obtain ⟨v, ev, rv⟩ := r2.get (List.getElem?_eq_getElem hi)
    refine ⟨⟨vs, v, h2, ev⟩, fun x H' y => ?_⟩
    obtain ⟨T, x', rfl, hT, rfl, y⟩ := y
    have := y vs h2
    rw [ev] at this
    cases this
    have st := ok2.fresh hT (.tup [.int (i : Nat), v])
    refine ⟨_, st, rfl, rfl, .tup upd_same (.cons (.int _) (.one ?_))⟩
    rw [List.getD_eq_getElem?_getD, List.getElem?_eq_getElem hi]
    exact st.rep rv
  · rw [List.getElem?_eq_none (by simpa using hi)] at ed
    cases ed
def dEnum (fs : FL) : FL := fun ρ M => (fs ρ M).bind fun ds M => match ds with
  | [.lst es] => .ok (enumL es) M
  | [.fro es] => .ok (enumL es) M
  | _ => .bad
theorem x_enum {tg : Expr} {fs : FL} (h : PI X tg e (iEnum K (tAF K E fs))) : PI X tg e (tI K E (dEnum fs)) := PI.wk h fun σ H Q ⟨ρ, w, e1, ok, sr, a⟩ =>
  ⟨ρ, w, e1, ok, sr, a.bind.imp fun ds w1 s1 a1 vs rvs => by
    split at a1
    · cases rvs with
      | cons r1 r2 =>
        cases r2
        cases r1 with
        | lst hs rl => exact ⟨_, _, rfl, .inl (.inl (s1.ok.sub _ _ hs)), a1 w1 (Step.refl s1.ok) rfl _ (it_enum (.inl (.inl hs)) rl)⟩
    · cases rvs with
      | cons r1 r2 =>
        cases r2
        cases r1 with
        | fro hs rl => exact ⟨_, _, rfl, s1.ok.sub.seq hs, a1 w1 (Step.refl s1.ok) rfl _ (it_enum hs rl)⟩
    · exact a1.elim⟩
def zipL : List D → List D → List D
  | x :: xs, y :: ys => .tup [x, y] :: zipL xs ys
  | _, _ => []
theorem zipL_get : ∀ (xs ys : List D) (i : Nat) (d : D), (zipL xs ys)[i]? = some d → ∃ x y, xs[i]? = some x ∧ ys[i]? = some y ∧ d = .tup [x, y]
  | x :: xs, y :: ys, 0, d, h => by simp [zipL] at h; exact ⟨x, y, rfl, rfl, h.symm⟩
  | x :: xs, y :: ys, i + 1, d, h => by
    obtain ⟨a, b, h1, h2, h3⟩ := zipL_get xs ys i d (by simpa [zipL] using h)
    exact ⟨a, b, by simpa using h1, by simpa using h2, h3⟩
  | [], _, _, _, h => by simp [zipL] at h
  | _ :: _, [], _, _, h => by simp [zipL] at h
theorem zipL_len : ∀ (xs ys : List D), (zipL xs ys).length = min xs.length ys.length
  | x :: xs, y :: ys => by simp [zipL, zipL_len xs ys]
  | [], _ => by simp [zipL]
  | _ :: _, [] => by simp [zipL]
theorem it_zip {w : Wd} {a b : Addr} {vs us : List V} {ds es : List D} (hs : SqL K w.G a vs) (rl : RepL K w.A w.G vs ds) (hs' : SqL K w.G b us) (rl' : RepL K w.A w.G us es) : IterOk K w (Itz K a b) (zipL ds es) := fun w2 le ok2 i => by
  have h2 : SqL K w2.H a vs := ok2.sub.seq (le.2.seq hs)
  have h2' : SqL K w2.H b us := ok2.sub.seq (le.2.seq hs')
  refine ⟨fun d ed => ?_, fun hl => ⟨vs, us, h2, h2', by rw [zipL_len] at hl; rw [rl.length, rl'.length]; omega⟩⟩
  obtain ⟨x, y, ex, ey, rfl⟩ := zipL_get ds es i d ed
  obtain ⟨v, ev, rv⟩ := (le.repL rl).get ex
  obtain ⟨u, eu, ru⟩ := (le.repL rl').get ey
  refine ⟨⟨vs, us, v, u, h2, h2', ev, eu⟩, fun z H' hy => ?_⟩
  obtain ⟨T, x', y', rfl, hT, rfl, y1, y2⟩ := hy
  have q1 := y1 vs h2
  rw [ev] at q1
  cases q1
  have q2 := y2 us h2'
  rw [eu] at q2
  cases q2
  have st := ok2.fresh hT (.tup [v, u])
  exact ⟨_, st, rfl, rfl, .tup upd_same (.cons (st.rep rv) (.one (st.rep ru)))⟩
theorem it_zipT {w : Wd} {a b : Addr} {vs us : List V} {ds es : List D} (hs : SqT K w.G a vs) (rl : RepL K w.A w.G vs ds) (hs' : SqT K w.G b us) (rl' : RepL K w.A w.G us es) : IterOk K w (RZ.ItzT K a b) (zipL ds es) := fun w2 le ok2 i => by
  have h2 : SqT K w2.H a vs := sqT_mono ok2.sub (sqT_mono le.2 hs)
  have h2' : SqT K w2.H b us := sqT_mono ok2.sub (sqT_mono le.2 hs')
  refine ⟨fun d ed => ?_, fun hl => ⟨vs, us, h2, h2', by rw [zipL_len] at hl; rw [rl.length, rl'.length]; omega⟩⟩
  obtain ⟨x, y, ex, ey, rfl⟩ := zipL_get ds es i d ed
  obtain ⟨v, ev, rv⟩ := (le.repL rl).get ex
  obtain ⟨u, eu, ru⟩ := (le.repL rl').get ey
  refine ⟨⟨vs, us, v, u, h2, h2', ev, eu⟩, fun z H' hy => ?_⟩
  obtain ⟨T, x', y', rfl, hT, rfl, y1, y2⟩ := hy
  have q1 := y1 vs h2
  rw [ev] at q1
  cases q1
  have q2 := y2 us h2'
  rw [eu] at q2
  cases q2
  have st := ok2.fresh hT (.tup [v, u])
  exact ⟨_, st, rfl, rfl, .tup upd_same (.cons (st.rep rv) (.one (st.rep ru)))⟩
def dZip (fs : FL) : FL := fun ρ M => (fs ρ M).bind fun ds M => match ds with
  | [.lst xs, .lst ys] => .ok (zipL xs ys) M
  | [.tup xs, .tup ys] => .ok (zipL xs ys) M
  | _ => .bad
theorem x_zip {tg : Expr} {fs : FL} (h : PI X tg e (RZ.iZipA K (tAF K E fs))) : PI X tg e (tI K E (dZip fs)) := PI.wk h fun σ H Q ⟨ρ, w, e1, ok, sr, a⟩ =>
  ⟨ρ, w, e1, ok, sr, a.bind.imp fun ds w1 s1 a1 vs rvs => by
    split at a1
    · cases rvs with
      | cons r1 r2 =>
        cases r2 with
        | cons r2 r3 =>
          cases r3
          cases r1 with
          | lst hs rl =>
            cases r2 with
            | lst hs' rl' => exact ⟨_, _, _, _, rfl, .inl ⟨.inl (.inl (s1.ok.sub _ _ hs)), .inl (.inl (s1.ok.sub _ _ hs')), a1 w1 (Step.refl s1.ok) rfl _ (it_zip (.inl (.inl hs)) rl (.inl (.inl hs')) rl')⟩⟩
    · cases rvs with
      | cons r1 r2 =>
        cases r2 with
        | cons r2 r3 =>
          cases r3
          cases r1 with
          | tup hs rl =>
            cases r2 with
            | tup hs' rl' => exact ⟨_, _, _, _, rfl, .inr ⟨.inl (.inl (s1.ok.sub _ _ hs)), .inl (.inl (s1.ok.sub _ _ hs')), a1 w1 (Step.refl s1.ok) rfl _ (it_zipT (.inl (.inl hs)) rl (.inl (.inl hs')) rl')⟩⟩
    · exact a1.elim⟩
theorem it_rev {w : Wd} {a : Addr} {vs : List V} {ds : List D} (hs : SqL K w.G a vs) (rl : RepL K w.A w.G vs ds) : IterOk K w (Itv K a vs.length) ds.reverse := fun w2 le ok2 i => by
  have h2 : SqL K w2.H a vs := ok2.sub.seq (le.2.seq hs)
  refine ⟨fun d ed => ?_, fun hl => show vs.length ≤ i by rw [rl.length]; simpa using hl⟩
  have hi : i < ds.length := by have := (List.getElem?_eq_some_iff.mp ed).1; simpa using this
  rw [List.getElem?_reverse hi] at ed
  obtain ⟨v, ev, rv⟩ := (le.repL rl).get ed
  rw [← rl.length] at ev
  refine ⟨⟨by rw [rl.length]; exact hi, vs, v, h2, ev⟩, fun x H' y => ?_⟩
  obtain ⟨eH, y⟩ := y
  have q := y vs h2
  rw [ev] at q
  cases q
  exact ⟨w2, Step.refl ok2, rfl, eH.symm, rv⟩
theorem it_revT {w : Wd} {a : Addr} {vs : List V} {ds : List D} (hs : SqT K w.G a vs) (rl : RepL K w.A w.G vs ds) : IterOk K w (RT.ItvT K a vs.length) ds.reverse := fun w2 le ok2 i => by
  have h2 : SqT K w2.H a vs := sqT_mono ok2.sub (sqT_mono le.2 hs)
  refine ⟨fun d ed => ?_, fun hl => show vs.length ≤ i by rw [rl.length]; simpa using hl⟩
  have hi : i < ds.length := by have := (List.getElem?_eq_some_iff.mp ed).1; simpa using this
  rw [List.getElem?_reverse hi] at ed
  obtain ⟨v, ev, rv⟩ := (le.repL rl).get ed
  rw [← rl.length] at ev
  refine ⟨⟨by rw [rl.length]; exact hi, vs, v, h2, ev⟩, fun x H' y => ?_⟩
  obtain ⟨eH, y⟩ := y
  have q := y vs h2
  rw [ev] at q
  cases q
  exact ⟨w2, Step.refl ok2, rfl, eH.symm, rv⟩
def dRev (f : FD) : FL := fun ρ M => (f ρ M).bind fun d M => match d with
  | .lst xs => .ok xs.reverse M
  | .fro xs => .ok xs.reverse M
  | .tup xs => .ok xs.reverse M
  | _ => .bad
theorem x_rev {tg : Expr} {f : FD} (h : PI X tg e (RT.iRevA K (tF K E f))) : PI X tg e (tI K E (dRev f)) := PI.wk h fun σ H Q ⟨ρ, w, e1, ok, sr, a⟩ =>
  ⟨ρ, w, e1, ok, sr, a.bind.imp fun d w1 s1 a1 v rv => by
    split at a1
    · cases rv with
      | lst hs rl => exact ⟨_, _, rfl, .inl ⟨.inl (.inl (s1.ok.sub _ _ hs)), a1 w1 (Step.refl s1.ok) rfl _ (it_rev (.inl (.inl hs)) rl)⟩⟩
    · cases rv with
      | fro hs rl => exact ⟨_, _, rfl, .inl ⟨s1.ok.sub.seq hs, a1 w1 (Step.refl s1.ok) rfl _ (it_rev hs rl)⟩⟩
    · cases rv with
      | tup hs rl => exact ⟨_, _, rfl, .inr ⟨.inl (.inl (s1.ok.sub _ _ hs)), a1 w1 (Step.refl s1.ok) rfl _ (it_revT (.inl (.inl hs)) rl)⟩⟩
    · exact a1.elim⟩
end
/-! ### built-in names -/
theorem bt_len : bootBuiltins "len" = some (.builtin "len") := by decide +kernel
theorem bt_min : bootBuiltins "min" = some (.builtin "min") := by decide +kernel
theorem bt_max : bootBuiltins "max" = some (.builtin "max") := by decide +kernel
theorem bt_abs : bootBuiltins "abs" = some (.builtin "abs") := by decide +kernel
theorem bt_sum : bootBuiltins "sum" = some (.builtin "sum") := by decide +kernel
theorem bt_all : bootBuiltins "all" = some (.builtin "all") := by decide +kernel
theorem bt_any : bootBuiltins "any" = some (.builtin "any") := by decide +kernel
theorem bt_isinstance : bootBuiltins "isinstance" = some (.builtin "isinstance") := by decide +kernel
theorem bt_int : bootBuiltins "int" = some (.type "int") := by decide +kernel
theorem bt_str : bootBuiltins "str" = some (.type "str") := by decide +kernel
theorem bt_bool : bootBuiltins "bool" = some (.type "bool") := by decide +kernel
theorem bt_list : bootBuiltins "list" = some (.type "list") := by decide +kernel
theorem bt_tuple : bootBuiltins "tuple" = some (.type "tuple") := by decide +kernel
theorem bt_dict : bootBuiltins "dict" = some (.type "dict") := by decide +kernel
end TP
/-! TPi: what the printed proofs use besides. -/
namespace TP
open PySem L2
section
variable {K : PySem.W.Frag} {E : Wish} {X : Cx} {e : Expr}
theorem un_of {A : Around} {k : Nat} (hr : Room k A) : A.units + 200 < cLine := by have := hr.un; omega
def dYes : FB := fun _ M => .ok true M
theorem x_yes : PTs X [] (tT K E dYes) := ⟨fun pins s σ H Q I h => by
  obtain ⟨ρ, w, e1, ok, sr, a⟩ := h
  subst e1
  exact pts_nil.run pins s σ w.H Q I (a w (Step.refl ok) rfl)⟩
theorem x_test2 {r : R2} {g : Store → D → D → Option Slot} {fa fb : FD} (h : PT X e (tTest (tOp r (tR K E fa) (tR K E fb)))) (p : Prim2 K r g) : PT X e (tT K E (dBo (dOp2 g fa fb))) :=
  x_test h fun σ H Q ⟨ρ, w, e1, ok, sr, a⟩ =>
    ⟨ρ, w, e1, ok, sr, a.bind.imp fun x w1 s1 a1 vx rx => ⟨ρ, w1, rfl, s1.ok, sr.step s1, a1.bind.imp fun y w2 s2 a2 vy ry => by
      obtain ⟨s, es, k⟩ := fin_of (s1.trans s2) a2
      exact p w2 vx vy x y s Q s2.ok (rx.step s2) ry es k⟩⟩
theorem x_testC {r r' : R2} {g g' : Store → D → D → Option Slot} {fa fb fc : FD} (h : PT X e (tTest (tChain r r' (tR K E fa) (tR K E fb) (tR K E fc)))) (p : Prim2 K r g) (p' : Prim2 K r' g') : PT X e (tT K E (dBo (dChain g g' fa fb fc))) :=
  x_test h fun σ H Q ⟨ρ, w, e1, ok, sr, a⟩ =>
    ⟨ρ, w, e1, ok, sr, a.bind.imp fun x w1 s1 a1 vx rx => ⟨ρ, w1, rfl, s1.ok, sr.step s1, a1.bind.imp fun y w2 s2 a2 vy ry => by
      split at a2
      · rename_i eg
        refine p w2 vx vy x y _ _ s2.ok (rx.step s2) ry eg fun v w3 s3 e3 rv => ?_
        cases rv
        have s13 := (s1.trans s2).trans s3
        refine ⟨true, rfl, iteT ⟨ρ, w3, rfl, s3.ok, ((sr.step s1).step s2).step s3, ?_⟩⟩
        rw [e3]
        have a3 := a2.later s3
        exact a3.bind.imp fun z w4 s4 a4 vz rz => by
          obtain ⟨s, es, k⟩ := fin_of (s13.trans s4) a4
          exact p' w4 vy vz y z s Q s4.ok ((ry.step s3).step s4) rz es k
      · rename_i eg
        refine p w2 vx vy x y _ _ s2.ok (rx.step s2) ry eg fun v w3 s3 e3 rv => ?_
        cases rv
        exact ⟨false, rfl, iteF (a2 w3 s3 e3 _ (.bl _))⟩
      · exact a2.elim⟩⟩
/-- {} -/
def dNewK : FD := fun _ M => .ok (.ref M.length) (M ++ [.dK []])
theorem x_dnewK (h : PE X e tDNewK) : PE X e (tF K E dNewK) := PE.wk h fun σ H Q ⟨ρ, w, e1, ok, sr, a⟩ => by
  subst e1
  intro d hd
  have s0 := ok.fresh0 hd (.dK [])
  have hG : w.G d = none := ok.sub.free hd
  have ok2 := s0.ok.push (o := .dK []) hG (ok.notA hd) ⟨[], upd_same, .nil⟩
  have a' : ∀ w', Step K w w' → w'.M = w.M ++ [.dK []] → ∀ v, Rep K w'.A w'.G v (.ref w.M.length) → Q v w'.H := a
  refine a' ⟨w.A ++ [d], w.G, w.M ++ [.dK []], upd w.H d (.dK [])⟩ ⟨ok2, List.prefix_append _ _, Same.refl _, fun b o z1 z2 z3 => ?_⟩ rfl _ (.ref ?_)
  · refine ⟨?_, z2, fun hm => (List.mem_append.mp hm).elim z3 fun z => by simp at z; subst z; rw [hd] at z1; cases z1⟩
    show upd w.H d (.dK []) b = some o
    rw [upd_ne (ne_of_none z1 hd)]
    exact z1
  · show (w.A ++ [d])[w.M.length]? = some d
    rw [← ok.len, List.getElem?_append_right (Nat.le_refl _), Nat.sub_self]
    rfl
theorem fn_zero {P : Program} {wo : World} {mg : Str → Option Value} {base : Heap} {f : Addr} {fd : FuncData} {ps : List Str} {n : Nat} (hn : n = ps.length := by rfl) : FnOk P wo K mg base CX0 0 f fd ps (spD K W0 n (fun _ _ => .bad)) :=
  ⟨fun vs H Q EX h => h.1.trans hn, fun A outer s H args us vs Q EX _ _ _ _ h => by
    obtain ⟨_, ds, w, _, _, _, a⟩ := h
    exact a.elim⟩
end
end TP
namespace TP
open PySem L2
/-! ### the top's constants -/
/-- an object of the written part is a tuple of these -/
def valIs (K : PySem.W.Frag) : Nat → Value → D → Bool
  | _, .none, .non => true
  | _, .bool b, .bl c => b == c
  | _, .int i _, .int j => decide (i = j)
  | _, .str x _, .str y => decide (x = y)
  | n + 1, .ref a, .kt ds => match K.lookup a with
    | some o => match o.cls, o.data with
      | .type c, .seq its _ => c == "tuple" && decide (its.size ≤ 1000) && valsIs its.toList ds (valIs K n)
      | _, _ => false
    | none => false
  | _, _, _ => false
where valsIs : List Value → List D → (Value → D → Bool) → Bool
  | [], [], _ => true
  | v :: vs, d :: ds, f => f v d && valsIs vs ds f
  | _, _, _ => false
def tupIs (K : PySem.W.Frag) (n : Nat) (o : Obj) (d : D) : Bool := match d with
  | .kt ds => match o.cls, o.data with
    | .type c, .seq its _ => c == "tuple" && decide (its.size ≤ 1000) && valIs.valsIs its.toList ds (valIs K n)
    | _, _ => false
  | _ => false
section
variable {K : PySem.W.Frag} {A : List Addr} {G : Hp}
theorem valsIs_rep {f : Value → D → Bool} (hf : ∀ v d, f v d = true → ∃ x, RelV x v ∧ Rep K A G x d) : ∀ {vs : List Value} {ds : List D}, valIs.valsIs vs ds f = true → ∃ xs, Vals xs vs ∧ RepL K A G xs ds
  | [], [], _ => ⟨[], .nil, .nil⟩
  | v :: vs, d :: ds, h => by
    unfold valIs.valsIs at h
    rw [Bool.and_eq_true] at h
    obtain ⟨x, h1, h2⟩ := hf v d h.1
    obtain ⟨xs, h3, h4⟩ := valsIs_rep hf h.2
    exact ⟨x :: xs, .cons h1 h3, .cons h2 h4⟩
  | [], _ :: _, h => by cases h
  | _ :: _, [], h => by cases h
theorem valIs_rep : ∀ (n : Nat) (v : Value) (d : D), valIs K n v d = true → ∃ x, RelV x v ∧ Rep K A G x d := by
  intro n
  induction n with
  | zero =>
    intro v d h
    unfold valIs at h
    split at h
    · exact ⟨.non, rfl, .non⟩
    · rw [beq_iff_eq] at h; subst h; exact ⟨.bl _, rfl, .bl _⟩
    · have := of_decide_eq_true h; subst this; exact ⟨.int _, ⟨_, rfl⟩, .int _⟩
    · have := of_decide_eq_true h; subst this; exact ⟨.str _, ⟨_, rfl⟩, .str _⟩
    · exfalso; omega
    · cases h
  | succ n ih =>
    intro v d h
    unfold valIs at h
    split at h
    · exact ⟨.non, rfl, .non⟩
    · rw [beq_iff_eq] at h; subst h; exact ⟨.bl _, rfl, .bl _⟩
    · have := of_decide_eq_true h; subst this; exact ⟨.int _, ⟨_, rfl⟩, .int _⟩
    · have := of_decide_eq_true h; subst this; exact ⟨.str _, ⟨_, rfl⟩, .str _⟩
    · rename_i m a ds q
      cases q
      split at h
      · rename_i o ho
        split at h
        · rename_i c its k hc hd
          simp only [Bool.and_eq_true, decide_eq_true_eq, beq_iff_eq] at h
          obtain ⟨⟨e1, e2⟩, e3⟩ := h
          subst e1
          obtain ⟨xs, h3, h4⟩ := valsIs_rep ih e3
          exact ⟨.ref a, rfl, .kt (.inr ⟨o, its, k, ho, hc, hd, Nat.le_trans e2 (by decide), h3⟩) h4⟩
        · cases h
      · cases h
    · cases h
theorem tupIs_rep {n : Nat} {q : Addr} {o : Obj} {d : D} (ho : K.lookup q = some o) (h : tupIs K n o d = true) : Rep K A G (.ref q) d := by
  unfold tupIs at h
  split at h
  · split at h
    · rename_i c its k hc hd
      simp only [Bool.and_eq_true, decide_eq_true_eq, beq_iff_eq] at h
      obtain ⟨⟨e1, e2⟩, e3⟩ := h
      subst e1
      obtain ⟨xs, h3, h4⟩ := valsIs_rep (valIs_rep n) e3
      exact .kt (.inr ⟨o, its, k, ho, hc, hd, Nat.le_trans e2 (by decide), h3⟩) h4
    · cases h
  · cases h
theorem repL_ints : ∀ ns : List Int, RepL K A G (ns.map V.int) (ns.map D.int)
  | [] => .nil
  | n :: ns => .cons (.int n) (repL_ints ns)
/-- the law's own promise: what it is asked, and True -/
theorem law_sp {H : Hp} {a : Addr} {ns : List Int} {m : Fn} {EX : XK} (hS : SqL K H a (ns.map V.int)) (h : ∃ M, m [.fro (ns.map D.int)] [] = .ok (.val (.bl true)) M) : spD K W0 1 m [.ref a] H (fun v _ => v = .bl true) EX := by
  obtain ⟨M, h⟩ := h
  refine ⟨rfl, [.fro (ns.map D.int)], ⟨[], H, [], H⟩, rfl, ⟨Same.refl _, List.nodup_nil, rfl, (fun a ha => by simp at ha), (fun k o e => by simp at e)⟩, .one (.fro hS (repL_ints ns)), ?_⟩
  show After K E00 _ (m [.fro (ns.map D.int)] []) _
  rw [h]
  intro w' _ _ v rv
  cases rv
  rfl
end
end TP
/-! TPj: dicts. -/
namespace TP
open PySem L2
section
variable {K : PySem.W.Frag} {E : Wish} {X : Cx} {e : Expr} {st : Stmt}
def keyD : D → Option Key
  | .int i => some (.inl i)
  | .str x => some (.inr x)
  | _ => none
def keysD : List D → Option (List Key)
  | [] => some []
  | d :: ds => match keyD d, keysD ds with
    | some k, some ks => some (k :: ks)
    | _, _ => none
section
variable {κ : Type} [DecidableEq κ]
def lookD (kvs : List (κ × D)) (k : κ) : Option D := (kvs.find? fun kv => decide (kv.1 = k)).map (·.2)
def putD (kvs : List (κ × D)) (k : κ) (v : D) : List (κ × D) :=
  if (kvs.any fun kv => decide (kv.1 = k)) = true then kvs.map (fun kv => if kv.1 = k then (kv.1, v) else kv) else kvs ++ [(k, v)]
theorem RepKV.val {R : V → D → Prop} : ∀ {vs : List (κ × V)} {ds : List (κ × D)} (k : κ), RepKV R vs ds → (∀ d, lookD ds k = some d → ∃ v, valV vs k = some v ∧ R v d) ∧ (lookD ds k = none → valV vs k = none)
  | _, _, k, .nil => ⟨fun d h => by simp [lookD] at h, fun _ => rfl⟩
  | (k', v') :: vs, (_, d') :: ds, k, .cons r t => by
    obtain ⟨h1, h2⟩ := RepKV.val k t
    unfold lookD valV at *
    by_cases hk : k' = k
    · refine ⟨fun d h => ?_, fun h => ?_⟩
      · rw [List.find?_cons_of_pos (by simpa using hk)] at h ⊢
        cases h
        exact ⟨v', rfl, r⟩
      · rw [List.find?_cons_of_pos (by simpa using hk)] at h
        cases h
    · rw [List.find?_cons_of_neg (by simpa using hk), List.find?_cons_of_neg (by simpa using hk)]
      exact ⟨h1, h2⟩
theorem RepKV.any {R : V → D → Prop} (p : κ → Bool) : ∀ {vs : List (κ × V)} {ds : List (κ × D)}, RepKV R vs ds → (vs.any fun kv => p kv.1) = ds.any fun kv => p kv.1
  | _, _, .nil => rfl
  | (k', v') :: vs, (_, d') :: ds, .cons r t => by rw [List.any_cons, List.any_cons, RepKV.any p t]
theorem RepKV.mapV {R : V → D → Prop} {v : V} {d : D} (r : R v d) (k : κ) : ∀ {vs : List (κ × V)} {ds : List (κ × D)}, RepKV R vs ds → RepKV R (vs.map fun kv => if kv.1 = k then (kv.1, v) else kv) (ds.map fun kv => if kv.1 = k then (kv.1, d) else kv)
  | _, _, .nil => .nil
  | (k', v') :: vs, (_, d') :: ds, .cons r' t => by
    rw [List.map_cons, List.map_cons]
    by_cases hk : k' = k
    · simp only [hk, if_true]
      exact .cons r (RepKV.mapV r k t)
    · simp only [hk, if_false]
      exact .cons r' (RepKV.mapV r k t)
theorem RepKV.append {R : V → D → Prop} : ∀ {vs us : List (κ × V)} {ds es : List (κ × D)}, RepKV R vs ds → RepKV R us es → RepKV R (vs ++ us) (ds ++ es)
  | _, _, _, _, .nil, s => s
  | _, _, _, _, .cons r t, s => .cons r (RepKV.append t s)
theorem RepKV.put {R : V → D → Prop} {v : V} {d : D} (r : R v d) (k : κ) {vs : List (κ × V)} {ds : List (κ × D)} (h : RepKV R vs ds) : RepKV R (putK vs k v) (putD ds k d) := by
  unfold putK putD
  rw [h.any fun x => decide (x = k)]
  split
  · exact h.mapV r k
  · exact h.append (.cons r .nil)
theorem RepKV.len {R : V → D → Prop} : ∀ {vs : List (κ × V)} {ds : List (κ × D)}, RepKV R vs ds → vs.length = ds.length
  | _, _, .nil => rfl
  | _ :: _, _ :: _, .cons _ t => by rw [List.length_cons, List.length_cons, RepKV.len t]
end
theorem key_at {A : List Addr} {G : Hp} {v : V} {d : D} {k : Key} (r : Rep K A G v d) (h : keyD d = some k) : v = kV k := by
  cases r <;> first | (cases h; rfl) | cases h
theorem keys_at {A : List Addr} {G : Hp} : ∀ {vs : List V} {ds : List D} {ks : List Key}, RepL K A G vs ds → keysD ds = some ks → vs = ks.map kV
  | [], [], _, _, h => by cases h; rfl
  | v :: vs, d :: ds, ks, .cons r t, h => by
    unfold keysD at h
    split at h
    · rename_i k ks' h1 h2
      cases h
      rw [key_at r h1, keys_at t h2]
      rfl
    · cases h
theorem keyB {w : Wd} {v : V} {d : D} {k : Key} (r : RepB K w v d) (h : keyD d = some k) : v = kV k := by
  rcases r with r | ⟨_, _, _, _, rfl, _⟩
  · exact key_at r h
  · cases h
/-- what a dict of the store has at a key: none, where it is no dict or no key -/
def dGetO (M : Store) (x y : D) : Option (Option D) := match x with
  | .ref k => match M[k]? with
    | some (.dK kvs) => (keyD y).map (lookD kvs)
    | some (.dT kvs) => match y with
      | .tup ds => (keysD ds).map (lookD kvs)
      | _ => none
    | _ => none
  | _ => none
theorem dget_at {w : Wd} (ok : w.Ok K) {vx vy : V} {x y : D} {o : Option D} (rx : RepB K w vx x) (ry : RepB K w vy y) (h : dGetO w.M x y = some o) :
    ∃ a ov, vx = .ref a ∧ DGet w.H a vy ov ∧ (∀ d, o = some d → ∃ v, ov = some v ∧ Rep K w.A w.G v d) ∧ (o = none → ov = none) := by
  unfold dGetO at h
  split at h
  · rename_i k
    obtain ⟨a, rfl, ea⟩ := ref_at rx
    split at h
    · rename_i kvs e2
      obtain ⟨a', ea', vs, hH, rk⟩ := ok.mos k _ e2
      rw [ea] at ea'; cases ea'
      cases q : keyD y with
      | none => rw [q] at h; cases h
      | some key =>
        rw [q] at h
        cases h
        obtain ⟨h1, h2⟩ := rk.val key
        refine ⟨a, valV vs key, rfl, ?_, h1, h2⟩
        rw [keyB ry q]
        exact .inl ⟨vs, key, .inl hH, rfl, rfl⟩
    · rename_i kvs e2
      obtain ⟨a', ea', vs, hH, rk⟩ := ok.mos k _ e2
      rw [ea] at ea'; cases ea'
      split at h
      · rename_i ds
        cases q : keysD ds with
        | none => rw [q] at h; cases h
        | some ks =>
          rw [q] at h
          cases h
          obtain ⟨h1, h2⟩ := rk.val ks
          obtain ⟨b, us, rfl, hb, rl⟩ := tupH_at ok ry
          refine ⟨a, valV vs ks, rfl, .inr ⟨vs, ks, b, .inl hH, rfl, ?_, rfl⟩, h1, h2⟩
          rw [← keys_at rl q]
          exact hb
      · cases h
    · cases h
  · cases h
def dgetD (M : Store) (x y : D) : Option Slot := match dGetO M x y with
  | some (some d) => some (.val d)
  | _ => none
theorem p_dget : Prim2 K (fun x y H Q => ∃ a v, x = .ref a ∧ DGet H a y (some v) ∧ Q v H) dgetD := by
  intro w vx vy x y s Q ok rx ry h k
  unfold dgetD at h
  split at h
  · rename_i d e1
    cases h
    obtain ⟨a, ov, rfl, g, h1, _⟩ := dget_at ok rx ry e1
    obtain ⟨v, rfl, rv⟩ := h1 d rfl
    exact ⟨a, v, rfl, g, k v w (Step.refl ok) rfl rv⟩
  · cases h
theorem x_dget {fa fb : FD} (h : PE X e (tDGet (tR K E fa) (tR K E fb))) : PE X e (tE K E (dOp2 dgetD fa fb)) := x_op2 (r := fun x y H Q => ∃ a v, x = .ref a ∧ DGet H a y (some v) ∧ Q v H) h p_dget
def dinD (M : Store) (y x : D) : Option Slot := (dGetO M x y).map fun o => .val (.bl o.isSome)
def dnotInD (M : Store) (y x : D) : Option Slot := (dGetO M x y).map fun o => .val (.bl (!o.isSome))
theorem isSome_at {o : Option D} {ov : Option V} {R : V → D → Prop} (h1 : ∀ d, o = some d → ∃ v, ov = some v ∧ R v d) (h2 : o = none → ov = none) : ov.isSome = o.isSome := by
  cases o with
  | none => rw [h2 rfl]; rfl
  | some d => obtain ⟨v, e, _⟩ := h1 d rfl; rw [e]; rfl
theorem p_din : Prim2 K (fun y x H Q => ∃ a o, x = .ref a ∧ DGet H a y o ∧ Q (.bl o.isSome) H) dinD := by
  intro w vx vy x y s Q ok rx ry h k
  unfold dinD at h
  cases q : dGetO w.M y x with
  | none => rw [q] at h; cases h
  | some o =>
    rw [q] at h
    cases h
    obtain ⟨a, ov, rfl, g, h1, h2⟩ := dget_at ok ry rx q
    refine ⟨a, ov, rfl, g, ?_⟩
    rw [isSome_at h1 h2]
    exact ans ok k fun _ _ => .bl _
theorem p_dnotIn : Prim2 K (fun y x H Q => ∃ a o, x = .ref a ∧ DGet H a y o ∧ Q (.bl (!o.isSome)) H) dnotInD := by
  intro w vx vy x y s Q ok rx ry h k
  unfold dnotInD at h
  cases q : dGetO w.M y x with
  | none => rw [q] at h; cases h
  | some o =>
    rw [q] at h
    cases h
    obtain ⟨a, ov, rfl, g, h1, h2⟩ := dget_at ok ry rx q
    refine ⟨a, ov, rfl, g, ?_⟩
    rw [isSome_at h1 h2]
    exact ans ok k fun _ _ => .bl _
theorem x_din {fa fb : FD} (h : PE X e (tDIn (tR K E fa) (tR K E fb))) : PE X e (tE K E (dOp2 dinD fa fb)) := x_op2 (r := fun y x H Q => ∃ a o, x = .ref a ∧ DGet H a y o ∧ Q (.bl o.isSome) H) h p_din
theorem x_dnotIn {fa fb : FD} (h : PE X e (tDNotIn (tR K E fa) (tR K E fb))) : PE X e (tE K E (dOp2 dnotInD fa fb)) := x_op2 (r := fun y x H Q => ∃ a o, x = .ref a ∧ DGet H a y o ∧ Q (.bl (!o.isSome)) H) h p_dnotIn
/-- as tests -/
theorem xt_din {fa fb : FD} (h : PT X e (tB (tDIn (tR K E fa) (tR K E fb)))) : PT X e (tT K E (dBo (dOp2 dinD fa fb))) := x_test2 (r := fun y x H Q => ∃ a o, x = .ref a ∧ DGet H a y o ∧ Q (.bl o.isSome) H) h p_din
theorem xt_dnotIn {fa fb : FD} (h : PT X e (tB (tDNotIn (tR K E fa) (tR K E fb)))) : PT X e (tT K E (dBo (dOp2 dnotInD fa fb))) := x_test2 (r := fun y x H Q => ∃ a o, x = .ref a ∧ DGet H a y o ∧ Q (.bl (!o.isSome)) H) h p_dnotIn
/-- d.get(k, x) -/
def isDD (M : Store) (x : D) : Bool := match x with
  | .ref k => match M[k]? with
    | some (.dK _) => true
    | some (.dT _) => true
    | _ => false
  | _ => false
theorem isD_at' {w : Wd} (ok : w.Ok K) {v : V} {x : D} (r : RepB K w v x) (h : isDD w.M x = true) : ∃ a, v = .ref a ∧ IsD w.H a := by
  unfold isDD at h
  split at h
  · rename_i k
    obtain ⟨a, rfl, ea⟩ := ref_at r
    refine ⟨a, rfl, ?_⟩
    split at h
    · rename_i kvs e2
      obtain ⟨a', ea', vs, hH, rk⟩ := ok.mos k _ e2
      rw [ea] at ea'; cases ea'
      exact .inl ⟨vs, .inl hH⟩
    · rename_i kvs e2
      obtain ⟨a', ea', vs, hH, rk⟩ := ok.mos k _ e2
      rw [ea] at ea'; cases ea'
      exact .inr ⟨vs, .inl hH⟩
    · cases h
  · cases h
def dGet2 (fo fk fd : FD) : FD := fun ρ M => (fo ρ M).bind fun x M => if isDD M x then (fk ρ M).bind fun y M => (fd ρ M).bind fun z M => match dGetO M x y with
  | some o => .ok (o.getD z) M
  | none => .bad else .bad
theorem x_dget2 {fo fk fd : FD} (h : PE X e (tDGet2 (tR K E fo) (tR K E fk) (tF K E fd))) : PE X e (tF K E (dGet2 fo fk fd)) := PE.wk h fun σ H Q ⟨ρ, w, e1, ok, sr, a⟩ =>
  ⟨ρ, w, e1, ok, sr, a.bind.imp fun x w1 s1 a1 vx rx => by
    split at a1
    · rename_i hd
      obtain ⟨p, rfl, ip⟩ := isD_at' s1.ok rx hd
      refine ⟨p, rfl, ip, ρ, w1, rfl, s1.ok, sr.step s1, a1.bind.imp fun y w2 s2 a2 vy ry => ⟨ρ, w2, rfl, s2.ok, (sr.step s1).step s2, a2.bind.imp fun z w3 s3 a3 vz rz => ?_⟩⟩
      split at a3
      · rename_i o eo
        obtain ⟨p', ov, e2, g, h1, h2⟩ := dget_at s3.ok ((rx.step s2).step s3) (ry.step s3) eo
        cases e2
        refine ⟨ov, g, ?_⟩
        cases o with
        | none => rw [h2 rfl]; exact a3 w3 (Step.refl s3.ok) rfl _ rz
        | some d => obtain ⟨v, e3, rv⟩ := h1 d rfl; rw [e3]; exact a3 w3 (Step.refl s3.ok) rfl _ rv
      · exact a3.elim
    · exact a1.elim⟩
def dGet1 (fo fk : FD) : FD := fun ρ M => (fo ρ M).bind fun x M => if isDD M x then (fk ρ M).bind fun y M => match dGetO M x y with
  | some o => .ok (o.getD .non) M
  | none => .bad else .bad
theorem x_dget1 {fo fk : FD} (h : PE X e (tDGet1 (tR K E fo) (tR K E fk))) : PE X e (tF K E (dGet1 fo fk)) := PE.wk h fun σ H Q ⟨ρ, w, e1, ok, sr, a⟩ =>
  ⟨ρ, w, e1, ok, sr, a.bind.imp fun x w1 s1 a1 vx rx => by
    split at a1
    · rename_i hd
      obtain ⟨p, rfl, ip⟩ := isD_at' s1.ok rx hd
      refine ⟨p, rfl, ip, ρ, w1, rfl, s1.ok, sr.step s1, a1.bind.imp fun y w2 s2 a2 vy ry => ?_⟩
      split at a2
      · rename_i o eo
        obtain ⟨p', ov, e2, g, h1, h2⟩ := dget_at s2.ok (rx.step s2) ry eo
        cases e2
        refine ⟨ov, g, ?_⟩
        cases o with
        | none => rw [h2 rfl]; exact a2 w2 (Step.refl s2.ok) rfl _ .non
        | some d => obtain ⟨v, e3, rv⟩ := h1 d rfl; rw [e3]; exact a2 w2 (Step.refl s2.ok) rfl _ rv
      · exact a2.elim
    · exact a1.elim⟩
/-- d[k] = v -/
def dPutM (M : Store) (x y z : D) : Option Store := match x with
  | .ref k => match M[k]? with
    | some (.dK kvs) => match keyD y with
      | some key => if kvs.length < sizeLine then some (M.set k (.dK (putD kvs key z))) else none
      | none => none
    | some (.dT kvs) => match y with
      | .tup ds => match keysD ds with
        | some ks => if kvs.length < sizeLine then some (M.set k (.dT (putD kvs ks z))) else none
        | none => none
      | _ => none
    | _ => none
  | _ => none
def sPutD (f fo fi : FD) : FS := fun ρ M => (f ρ M).out fun z M => (fo ρ M).out fun x M => (fi ρ M).out fun y M => match dPutM M x y z with
  | some M' => .next ρ M'
  | none => .bad
theorem dput_at {w : Wd} (ok : w.Ok K) {vx vy vz : V} {x y z : D} {M' : Store} (rx : RepB K w vx x) (ry : RepB K w vy y) (rz : Rep K w.A w.G vz z) (h : dPutM w.M x y z = some M') :
    ∃ a w', vx = .ref a ∧ DPut w.H a vy vz w'.H ∧ Step K w w' ∧ w'.M = M' := by
  unfold dPutM at h
  split at h
  · rename_i k
    obtain ⟨a, rfl, ea⟩ := ref_at rx
    split at h
    · rename_i kvs e2
      obtain ⟨a', ea', vs, hH, rk⟩ := ok.mos k _ e2
      rw [ea] at ea'; cases ea'
      split at h
      · rename_i key q
        split at h
        · rename_i hz
          cases h
          refine ⟨a, ⟨w.A, w.G, w.M.set k (.dK (putD kvs key z)), upd w.H a (.dK (putK vs key vz))⟩, rfl, .inl ⟨vs, key, hH, keyB ry q, by rw [rk.len]; exact hz, rfl⟩, ok.put ea ⟨_, upd_same, rk.put rz key⟩, rfl⟩
        · cases h
      · cases h
    · rename_i kvs e2
      obtain ⟨a', ea', vs, hH, rk⟩ := ok.mos k _ e2
      rw [ea] at ea'; cases ea'
      split at h
      · rename_i ds
        split at h
        · rename_i ks q
          split at h
          · rename_i hz
            cases h
            obtain ⟨b, us, rfl, hb, rl⟩ := tupH_at ok ry
            refine ⟨a, ⟨w.A, w.G, w.M.set k (.dT (putD kvs ks z)), upd w.H a (.dT (putK vs ks vz))⟩, rfl, .inr ⟨vs, ks, b, hH, rfl, by rw [← keys_at rl q]; exact hb, by rw [rk.len]; exact hz, rfl⟩, ok.put ea ⟨_, upd_same, rk.put rz ks⟩, rfl⟩
          · cases h
        · cases h
      · cases h
    · cases h
  · cases h
theorem s_putD {f fo fi : FD} (h : PS X st (sDPut (tR K E fo) (tR K E fi) (tF K E f))) : PS X st (tS K E (sPutD f fo fi)) := PS.wk h fun D σ H ⟨ρ, w, w0, e1, s, sr, of, p⟩ =>
  ⟨ρ, w, e1, s.ok, sr, (out_after s p).imp fun z w1 s1 p1 vz rz => ⟨ρ, w1, rfl, s1.ok, sr.step s1, (out_after (s.trans s1) p1).imp fun x w2 s2 p2 vx rx => ⟨ρ, w2, rfl, s2.ok, (sr.step s1).step s2, (out_after ((s.trans s1).trans s2) p2).imp fun y w3 s3 p3 vy ry => by
    split at p3
    · rename_i M' em
      obtain ⟨a, w4, rfl, dp, s4, e4⟩ := dput_at s3.ok (rx.step s3) ry ((s2.trans s3).rep rz) em
      refine ⟨a, w4.H, rfl, dp, ?_⟩
      exact p3 w4 σ ((((s.trans s1).trans s2).trans s3).trans s4) s4.le e4 ((((sr.step s1).step s2).step s3).step s4) of
    · exact p3.elim⟩⟩⟩
/-- {} with tuple keys -/
def dNewT : FD := fun _ M => .ok (.ref M.length) (M ++ [.dT []])
theorem new_obj {w : Wd} (ok : w.Ok K) {d : Addr} (hd : w.H d = none) {o : HO} {m : MO} (hm : MoR K ⟨w.A, w.G, w.M, upd w.H d o⟩ d m) : Step K w ⟨w.A ++ [d], w.G, w.M ++ [m], upd w.H d o⟩ ∧ (w.A ++ [d])[w.M.length]? = some d := by
  have s0 := ok.fresh0 hd o
  have hG : w.G d = none := ok.sub.free hd
  have ok2 := s0.ok.push (o := m) hG (ok.notA hd) hm
  refine ⟨⟨ok2, List.prefix_append _ _, Same.refl _, fun b o' z1 z2 z3 => ?_⟩, ?_⟩
  · refine ⟨?_, z2, fun hm => (List.mem_append.mp hm).elim z3 fun z => by simp at z; subst z; rw [hd] at z1; cases z1⟩
    show upd w.H d o b = some o'
    rw [upd_ne (ne_of_none z1 hd)]
    exact z1
  · rw [← ok.len, List.getElem?_append_right (Nat.le_refl _), Nat.sub_self]
    rfl
theorem x_dnewT (h : PE X e tDNewT) : PE X e (tF K E dNewT) := PE.wk h fun σ H Q ⟨ρ, w, e1, ok, sr, a⟩ => by
  subst e1
  intro d hd
  obtain ⟨st, hA⟩ := new_obj (o := .dT []) (m := .dT []) ok hd ⟨[], upd_same, .nil⟩
  have a' : ∀ w', Step K w w' → w'.M = w.M ++ [.dT []] → ∀ v, Rep K w'.A w'.G v (.ref w.M.length) → Q v w'.H := a
  exact a' _ st rfl _ (.ref hA)
/-! ### a display with keys that are texts -/
def tPrs (ks : List Str) (fs : List TE) : List (TE × TE) := ks.zipWith (fun k f => (tC (.str k), f)) fs
/-- the values, in order -/
def dVals : List FD → FL
  | [] => dNil
  | f :: fs => dCons f (dVals fs)
def mergeD (ks : List Str) (ds : List D) : List (Key × D) := (ks.zip ds).foldl (fun acc kv => putD acc (Sum.inr kv.1) kv.2) []
def dDisp (ks : List Str) (fs : List FD) : FD := fun ρ M => (dVals fs ρ M).bind fun ds M => if ds.length = ks.length ∧ ks.length ≤ 15 then .ok (.ref M.length) (M ++ [.dK (mergeD ks ds)]) else .bad
theorem pairs_ok {σ : L2.St} {ρ : EnvD} : ∀ (ks : List Str) (fs : List FD) (w w0 : Wd) (Q : List (V × V) → Hp → Prop), ks.length = fs.length → Step K w0 w → SR K w ρ σ →
    After K E w (dVals fs ρ w.M) (fun ds w' => ∀ vs, RepL K w'.A w'.G vs ds → Q (ks.zipWith (fun k v => (V.str k, v)) vs) w'.H) → tPairs (tPrs ks (fs.map (tF K E))) σ w.H Q
  | [], [], w, w0, Q, _, s, sr, a => by
    have a' : ∀ w', Step K w w' → w'.M = w.M → ∀ vs, RepL K w'.A w'.G vs [] → Q ([].zipWith (fun k v => (V.str k, v)) vs) w'.H := a
    exact a' w (Step.refl s.ok) rfl [] .nil
  | k :: ks, f :: fs, w, w0, Q, hl, s, sr, a => by
    refine ⟨ρ, w, rfl, s.ok, sr, ?_⟩
    have a1 : After K E w (dCons f (dVals fs) ρ w.M) _ := a
    refine a1.bind.imp fun d w1 s1 a2 v rv => ?_
    refine pairs_ok ks fs w1 w0 _ (by simpa using hl) (s.trans s1) (sr.step s1) (a2.bind.imp fun ds w2 s2 a3 vs rvs => ?_)
    exact a3 w2 (Step.refl s2.ok) rfl (v :: vs) (.cons (s2.rep rv) rvs)
  | [], _ :: _, _, _, _, hl, _, _, _ => by cases hl
  | _ :: _, [], _, _, _, hl, _, _, _ => by cases hl
theorem merge_rep {R : V → D → Prop} : ∀ (ks : List Str) (vs : List V) (ds : List D) (av : List (Key × V)) (ad : List (Key × D)), (∀ (i : Nat) (v : V), vs[i]? = some v → ∃ d, ds[i]? = some d ∧ R v d) → vs.length = ds.length → RepKV R av ad →
    RepKV R (mergeK av ((ks.zip vs).map fun kv => ((Sum.inr kv.1 : Key), kv.2))) ((ks.zip ds).foldl (fun acc kv => putD acc (Sum.inr kv.1) kv.2) ad)
  | [], _, _, _, _, _, _, h => by simpa [mergeK] using h
  | k :: ks, [], [], av, ad, _, _, h => by simpa [mergeK] using h
  | k :: ks, v :: vs, d :: ds, av, ad, hr, hl, h => by
    obtain ⟨d', e, r⟩ := hr 0 v rfl
    cases e
    have := merge_rep ks vs ds (putK av (Sum.inr k) v) (putD ad (Sum.inr k) d) (fun i x hx => by
      obtain ⟨y, h1, h2⟩ := hr (i + 1) x (by simpa using hx)
      exact ⟨y, by simpa using h1, h2⟩) (by simpa using hl) (h.put r (Sum.inr k))
    simpa [mergeK] using this
  | k :: ks, [], _ :: _, _, _, _, hl, _ => by cases hl
  | k :: ks, _ :: _, [], _, _, _, hl, _ => by cases hl
theorem zip_pairs : ∀ (ks : List Str) (vs : List V), ks.zipWith (fun k v => (V.str k, v)) vs = ((ks.zip vs).map fun kv => ((Sum.inr kv.1 : Key), kv.2)).map fun kv => (kV kv.1, kv.2)
  | [], _ => rfl
  | _ :: _, [] => rfl
  | k :: ks, v :: vs => by rw [List.zipWith_cons_cons, zip_pairs ks vs]; rfl
theorem x_disp {ks : List Str} {fs : List FD} (hl : ks.length = fs.length) (h : PE X e (tDisp (tPrs ks (fs.map (tF K E))))) : PE X e (tF K E (dDisp ks fs)) := PE.wk h fun σ H Q ⟨ρ, w, e1, ok, sr, a⟩ => by
  subst e1
  intro p hp
  have s0 := ok.fresh0 hp (.dK [])
  have hG : w.G p = none := ok.sub.free hp
  have hA := ok.notA hp
  refine pairs_ok ks fs ⟨w.A, w.G, w.M, upd w.H p (.dK [])⟩ w _ hl s0 (sr.step s0) ?_
  have a1 := (show After K E w ((dVals fs ρ w.M).bind _) _ from a).bind
  cases q : dVals fs ρ w.M with
  | bad => rw [q] at a1; exact a1
  | exc c d M => rw [q] at a1; exact fun w' s' e => a1 w' (s0.trans s') e
  | ok ds M =>
    rw [q] at a1
    intro w1 s1 eM vs rvs
    have s01 := s0.trans s1
    obtain ⟨k1, k2, k3⟩ := s1.keep p (.dK []) upd_same hG hA
    have a2 := (show After K E w (dDisp ks fs ρ w.M) _ from a)
    have ed : dDisp ks fs ρ w.M = if ds.length = ks.length ∧ ks.length ≤ 15 then .ok (.ref M.length) (M ++ [.dK (mergeD ks ds)]) else .bad := by unfold dDisp; rw [q]; rfl
    rw [ed] at a2
    split at a2
    · rename_i hc
      refine ⟨k1, (ks.zip vs).map fun kv => ((Sum.inr kv.1 : Key), kv.2), zip_pairs ks vs, by simp; omega, ?_⟩
      have hrep : RepKV (Rep K w1.A w1.G) (mergeK [] ((ks.zip vs).map fun kv => ((Sum.inr kv.1 : Key), kv.2))) (mergeD ks ds) :=
        merge_rep ks vs ds [] [] (fun i v hv => rvs.get' hv) rvs.length .nil
      have okA := setOwn_ok (o := .dK (mergeK [] ((ks.zip vs).map fun kv => ((Sum.inr kv.1 : Key), kv.2)))) s1.ok k1 k2 k3
      have ok2 := okA.push (o := .dK (mergeD ks ds)) k2 k3 ⟨_, upd_same, hrep⟩
      have a3 : ∀ w', Step K w w' → w'.M = M ++ [.dK (mergeD ks ds)] → ∀ v, Rep K w'.A w'.G v (.ref M.length) → Q v w'.H := a2
      refine a3 ⟨w1.A ++ [p], w1.G, w1.M ++ [.dK (mergeD ks ds)], upd w1.H p (.dK (mergeK [] ((ks.zip vs).map fun kv => ((Sum.inr kv.1 : Key), kv.2))))⟩ ⟨ok2, s01.pre.trans (List.prefix_append _ _), s01.fro, fun b o z1 z2 z3 => ?_⟩ (by rw [eM]) _ (.ref ?_)
      · obtain ⟨c1, c2, c3⟩ := s01.keep b o z1 z2 z3
        refine ⟨?_, c2, fun hm => (List.mem_append.mp hm).elim c3 fun z => by simp at z; subst z; rw [hp] at z1; cases z1⟩
        show upd w1.H p _ b = some o
        rw [upd_ne (ne_of_none z1 hp)]
        exact c1
      · show (w1.A ++ [p])[M.length]? = some p
        have hl := s1.ok.len
        rw [eM] at hl
        rw [← hl, List.getElem?_append_right (Nat.le_refl _), Nat.sub_self]
        rfl
    · exact a2.elim
/-! ### a dict of the top, its keys texts -/
def tabFind (tab : List (Str × D)) (z : Str) : Option D := (tab.find? fun kv => decide (kv.1 = z)).map (·.2)
def dTab (tab : List (Str × D)) (f : FD) : FD := fun ρ M => (f ρ M).bind fun y M => match y with
  | .str z => R.of (tabFind tab z) M
  | _ => .bad
structure TabOk (K : PySem.W.Frag) (w : World) (q : Addr) (tab : List (Str × D)) : Prop where
  at_ : ∀ z d, tabFind tab z = some d → ∃ v, KDct K w q z v ∧ ∀ A G, Rep K A G v d
theorem x_tab {q : Addr} {tab : List (Str × D)} {f : FD} (T : TabOk X.K X.w q tab) (hK : X.K = K) (h : PE X e (tOp (rIxD X.K X.w) (tC (.ref q)) (tR K E f))) : PE X e (tF K E (dTab tab f)) := PE.wk h fun σ H Q ⟨ρ, w, e1, ok, sr, a⟩ => by
  subst e1
  refine ⟨ρ, w, rfl, ok, sr, a.bind.imp fun y w1 s1 a1 vy ry => ?_⟩
  split at a1
  · rename_i z
    obtain ⟨d, ed, k⟩ := a1.of (Step.refl s1.ok) rfl
    obtain ⟨v, kd, rv⟩ := T.at_ z d ed
    exact ⟨q, z, v, rfl, str_at ry, kd, k v (hK ▸ rv _ _)⟩
  · exact a1.elim
def tabIs (K : PySem.W.Frag) (q : Addr) (tab : List (Str × D)) : Bool := tab.all fun kv => match PySem.W.nsIn K q kv.1 with
  | some (some u) => valIs K 9 u kv.2
  | _ => false
theorem tab_ok {w : World} {q : Addr} {tab : List (Str × D)} {es : Array DictEntry} {n : Nat} (hl : K.lookup q = some ⟨.type "dict", none, .dict es n, #[]⟩) (hk : PySem.W.KeysLit w.params es.toList) (ht : tabIs K q tab = true) : TabOk K w q tab := by
  refine ⟨fun z d h => ?_⟩
  unfold tabFind at h
  cases q1 : tab.find? fun kv => decide (kv.1 = z) with
  | none => rw [q1] at h; cases h
  | some kv =>
    rw [q1] at h
    cases h
    have hm := List.mem_of_find?_eq_some q1
    have hz : kv.1 = z := by have := List.find?_some q1; simpa using this
    have h1 := List.all_eq_true.mp ht kv hm
    subst hz
    split at h1
    · rename_i u hu
      obtain ⟨x, rx, _⟩ := valIs_rep (K := K) (A := []) (G := fun _ => none) 9 u kv.2 h1
      refine ⟨x, ⟨es, n, u, hl, hk, hu, rx⟩, fun A G => ?_⟩
      obtain ⟨x', rx', rp⟩ := valIs_rep (K := K) (A := A) (G := G) 9 u kv.2 h1
      rw [rx.inj rx']
      exact rp
    · cases h1
end
end TP
/-! TPm: reckoning with the mirrors. -/
namespace TP
open PySem L2
@[simp] theorem R.bind_ok {α β : Type} (a : α) (M : Store) (f : α → Store → R β) : (R.ok a M).bind f = f a M := rfl
@[simp] theorem R.map_ok {α β : Type} (a : α) (M : Store) (f : α → β) : (R.ok a M).map f = .ok (f a) M := rfl
@[simp] theorem R.out_ok {α : Type} (a : α) (M : Store) (f : α → Store → Out) : (R.ok a M).out f = f a M := rfl
@[simp] theorem R.of_some {α : Type} (a : α) (M : Store) : R.of (some a) M = .ok a M := rfl
@[simp] theorem szL : sizeLine = 16777216 := sizeLine_eq
@[simp] theorem Slot.d_val (d : D) : (Slot.val d).d = d := rfl
@[simp] theorem Slot.d_own (ds : List D) : (Slot.own ds).d = .lst ds := rfl
@[simp] theorem sNil_eq (ρ : EnvD) (M : Store) : sNil ρ M = .next ρ M := rfl
@[simp] theorem dC_eq (d : D) (ρ : EnvD) (M : Store) : dC d ρ M = .ok d M := rfl
@[simp] theorem dNil_eq (ρ : EnvD) (M : Store) : dNil ρ M = .ok [] M := rfl
@[simp] theorem dYes_eq (ρ : EnvD) (M : Store) : dYes ρ M = .ok true M := rfl

/-! ### what the pieces do, for simp -/
section
variable (ρ : EnvD) (M : Store)
@[simp] theorem dVar_eq (i : Nat) : dVar i ρ M = match ρ[i]? with
  | some (.val d) => .ok d M
  | _ => .bad := rfl
@[simp] theorem dVarB_eq (i : Nat) : dVarB i ρ M = match ρ[i]? with
  | some (.val d) => .ok d M
  | some (.own ds) => .ok (.lst ds) M
  | _ => .bad := rfl
@[simp] theorem dEF_eq (f : FE) : dEF f ρ M = (f ρ M).map Slot.d := rfl
@[simp] theorem dFE_eq (f : FD) : dFE f ρ M = (f ρ M).map Slot.val := rfl
@[simp] theorem dOp1_eq (g : Store → D → Option Slot) (f : FD) : dOp1 g f ρ M = (f ρ M).bind fun x M => R.of (g M x) M := rfl
@[simp] theorem dOp2_eq (g : Store → D → D → Option Slot) (fa fb : FD) : dOp2 g fa fb ρ M = (fa ρ M).bind fun x M => (fb ρ M).bind fun y M => R.of (g M x y) M := rfl
@[simp] theorem dPr_eq (g : Store → List D → Option Slot) (fs : FL) : dPr g fs ρ M = (fs ρ M).bind fun ds M => R.of (g M ds) M := rfl
@[simp] theorem dCons_eq (f : FD) (fs : FL) : dCons f fs ρ M = (f ρ M).bind fun d M => (fs ρ M).bind fun ds M => .ok (d :: ds) M := rfl
@[simp] theorem dTup_eq (fs : FL) : dTup fs ρ M = (fs ρ M).bind fun ds M => if ds.length ≤ sizeLine then .ok (.tup ds) M else .bad := rfl
@[simp] theorem dLst_eq (fs : FL) : dLst fs ρ M = (fs ρ M).bind fun ds M => if ds.length ≤ sizeLine then .ok (.own ds) M else .bad := rfl
@[simp] theorem dTru_eq (f : FD) : dTru f ρ M = (f ρ M).bind fun x M => R.of (truD M x) M := rfl
@[simp] theorem dBo_eq (f : FE) : dBo f ρ M = (f ρ M).bind fun x M => R.of (boD x.d) M := rfl
@[simp] theorem dNot_eq (f : FB) : dNot f ρ M = (f ρ M).map fun b => !b := rfl
@[simp] theorem dAnd_eq (f g : FB) : dAnd f g ρ M = (f ρ M).bind fun b M => if b then g ρ M else .ok false M := rfl
@[simp] theorem dOr_eq (f g : FB) : dOr f g ρ M = (f ρ M).bind fun b M => if b then .ok true M else g ρ M := rfl
@[simp] theorem dIf_eq (c : FB) (f g : FE) : dIf c f g ρ M = (c ρ M).bind fun b M => if b then f ρ M else g ρ M := rfl
@[simp] theorem dAndV_eq (f g : FE) : dAndV f g ρ M = (f ρ M).bind fun x M => match x with
  | .val (.bl true) => g ρ M
  | .val (.bl false) => .ok (.val (.bl false)) M
  | _ => .bad := rfl
@[simp] theorem dOrV_eq (f g : FE) : dOrV f g ρ M = (f ρ M).bind fun x M => match x with
  | .val (.bl true) => .ok (.val (.bl true)) M
  | .val (.bl false) => g ρ M
  | _ => .bad := rfl
@[simp] theorem dNotV_eq (f : FE) : dNotV f ρ M = (f ρ M).bind fun x M => match x with
  | .val (.bl b) => .ok (.val (.bl (!b))) M
  | _ => .bad := rfl
@[simp] theorem dMeth_eq (T : String) (g : Store → D → List D → Option Slot) (fo : FD) (fs : FL) : dMeth T g fo fs ρ M = (fo ρ M).bind fun x M => if tyD M x = some T then (fs ρ M).bind fun ds M => R.of (g M x ds) M else .bad := rfl
@[simp] theorem dMeth0_eq (T : String) (g : Store → D → List D → Option Slot) (fo : FD) : dMeth0 T g fo ρ M = (fo ρ M).bind fun x M => if tyD M x = some T then R.of (g M x []) M else .bad := rfl
@[simp] theorem dNo_eq : dNo ρ M = .ok none M := rfl
@[simp] theorem dSo_eq (f : FD) : dSo f ρ M = (f ρ M).bind fun x M => match x with
  | .int i => .ok (some i) M
  | _ => .bad := rfl
@[simp] theorem dSl_eq (g : Store → D → Option Int → Option Int → Option Slot) (f : FD) (lo hi : FO) : dSl g f lo hi ρ M = (f ρ M).bind fun x M => (lo ρ M).bind fun l M => (hi ρ M).bind fun u M => R.of (g M x l u) M := rfl
@[simp] theorem dCall_eq (n : Nat) (m : Fn) (fs : FL) : dCall n m fs ρ M = (fs ρ M).bind fun ds M => if ds.length = n then m ds M else .bad := rfl
@[simp] theorem dIt_eq (f : FD) : dIt f ρ M = (f ρ M).bind fun x M => R.of (itemsD x) M := rfl
@[simp] theorem dRng1_eq (fs : FL) : dRng1 fs ρ M = (fs ρ M).bind fun ds M => R.of (rng1D ds) M := rfl
@[simp] theorem dRng2_eq (fs : FL) : dRng2 fs ρ M = (fs ρ M).bind fun ds M => R.of (rng2D ds) M := rfl
@[simp] theorem dEnum_eq (fs : FL) : dEnum fs ρ M = (fs ρ M).bind fun ds M => match ds with
  | [.lst es] => .ok (enumL es) M
  | [.fro es] => .ok (enumL es) M
  | _ => .bad := rfl
@[simp] theorem dZip_eq (fs : FL) : dZip fs ρ M = (fs ρ M).bind fun ds M => match ds with
  | [.lst xs, .lst ys] => .ok (zipL xs ys) M
  | [.tup xs, .tup ys] => .ok (zipL xs ys) M
  | _ => .bad := rfl
@[simp] theorem dRev_eq (f : FD) : dRev f ρ M = (f ρ M).bind fun d M => match d with
  | .lst xs => .ok xs.reverse M
  | .fro xs => .ok xs.reverse M
  | .tup xs => .ok xs.reverse M
  | _ => .bad := rfl
@[simp] theorem dLc_eq (fi : FL) (b : D → EnvD → Option EnvD) (c : FB) (f : FD) (vs : List Nat) : dLc fi b c f vs ρ M = (fi ρ M).bind fun items M => (lcGo b c f (wipeD ρ vs) items [] M).map Slot.own := rfl
@[simp] theorem dChain_eq (g g' : Store → D → D → Option Slot) (fa fb fc : FD) : dChain g g' fa fb fc ρ M = (fa ρ M).bind fun x M => (fb ρ M).bind fun y M => match g M x y with
  | some (.val (.bl true)) => (fc ρ M).bind fun z M => R.of (g' M y z) M
  | some (.val (.bl false)) => .ok (.val (.bl false)) M
  | _ => .bad := rfl
@[simp] theorem dRef_eq (f : FE) : dRef f ρ M = (f ρ M).bind fun x M => match x with
  | .own ds => .ok (.val (.ref M.length)) (M ++ [.lst ds])
  | _ => .bad := rfl
@[simp] theorem dNewK_eq : dNewK ρ M = .ok (.ref M.length) (M ++ [.dK []]) := rfl
@[simp] theorem bName_eq (i : Nat) (d : D) : bName i d ρ = some (ρ.set i (.val d)) := rfl
@[simp] theorem sSeq_eq (g h : FS) : sSeq g h ρ M = match g ρ M with
  | .next ρ M => h ρ M
  | o => o := rfl
@[simp] theorem sExpr_eq (f : FE) : sExpr f ρ M = (f ρ M).out fun _ M => .next ρ M := rfl
@[simp] theorem sRet_eq (f : FE) : sRet f ρ M = (f ρ M).out fun x M => .ret x M := rfl
@[simp] theorem sRetN_eq : sRetN ρ M = .ret (.val .non) M := rfl
@[simp] theorem sRetV_eq (i : Nat) : sRetV i ρ M = match ρ[i]? with
  | some (.val d) => .ret (.val d) M
  | some (.own ds) => .ret (.own ds) M
  | _ => .bad := rfl
@[simp] theorem sSet_eq (i : Nat) (f : FE) : sSet i f ρ M = (f ρ M).out fun x M => match x with
  | .un => .bad
  | x => .next (ρ.set i x) M := rfl
@[simp] theorem sAsg_eq (b : D → EnvD → Option EnvD) (f : FD) : sAsg b f ρ M = (f ρ M).out fun x M => match b x ρ with
  | some ρ' => .next ρ' M
  | none => .bad := rfl
@[simp] theorem sPar_eq (i j : Nat) (fs : FL) : sPar i j fs ρ M = (fs ρ M).out fun ds M => match ds with
  | [x, y] => .next ((ρ.set i (.val x)).set j (.val y)) M
  | _ => .bad := rfl
@[simp] theorem sIf_eq (c : FB) (g h : FS) : sIf c g h ρ M = (c ρ M).out fun b M => if b then g ρ M else h ρ M := rfl
@[simp] theorem sFor_eq (fi : FL) (b : D → EnvD → Option EnvD) (body : FS) : sFor fi b body ρ M = (fi ρ M).out fun items M => forGo b body items ρ M := rfl
@[simp] theorem sApp_eq (i : Nat) (f : FD) : sApp i f ρ M = match ρ[i]? with
  | some (.own ds) => (f ρ M).out fun d M => if ds.length < sizeLine then .next (ρ.set i (.own (ds ++ [d]))) M else .bad
  | _ => .bad := rfl
@[simp] theorem sExt_eq (i : Nat) (f : FD) : sExt i f ρ M = match ρ[i]? with
  | some (.own ds) => (f ρ M).out fun d M => match lstOf M d with
    | some es => if ds.length + es.length ≤ sizeLine then .next (ρ.set i (.own (ds ++ es))) M else .bad
    | none => .bad
  | _ => .bad := rfl
@[simp] theorem sFz_eq (i : Nat) (g : FS) : sFz i g ρ M = match ρ[i]? with
  | some (.own ds) => g (ρ.set i (.val (.lst ds))) M
  | _ => g ρ M := rfl
@[simp] theorem sAug_eq (i : Nat) (g : Store → D → D → Option Slot) (f : FD) : sAug i g f ρ M = match ρ[i]? with
  | some (.val x) => (f ρ M).out fun y M => match g M x y with
    | some (.val z) => .next (ρ.set i (.val z)) M
    | _ => .bad
  | _ => .bad := rfl
@[simp] theorem sPutR_eq (f fo fi : FD) : sPutR f fo fi ρ M = (f ρ M).out fun x M => (fo ρ M).out fun o M => (fi ρ M).out fun i M => match o, i with
  | .ref k, .int j => match M[k]? with
    | some (.lst ds) => match ixN ds.length j with
      | some n => .next ρ (M.set k (.lst (ds.set n x)))
      | none => .bad
    | _ => .bad
  | _, _ => .bad := rfl
end
/-! ### primitives -/
section
variable (M : Store)
@[simp] theorem addD_int (i j : Int) : addD M (.int i) (.int j) = some (.val (.int (i + j))) := rfl
@[simp] theorem subD_int (i j : Int) : subD M (.int i) (.int j) = some (.val (.int (i - j))) := rfl
@[simp] theorem mulD_int (i j : Int) : mulD M (.int i) (.int j) = if mulOk i j then some (.val (.int (i * j))) else none := rfl
@[simp] theorem fdivD_int (i j : Int) : fdivD M (.int i) (.int j) = if 0 < j ∧ j < 1073741824 then some (.val (.int (i / j))) else if 0 < j ∧ j.natAbs.log2 < 9000 then some (.val (.int (i / j))) else if j ≠ 0 ∧ j.natAbs < 1073741824 then some (.val (.int (i.fdiv j))) else none := rfl
@[simp] theorem modD_int (i j : Int) : modD M (.int i) (.int j) = if 0 < j then some (.val (.int (i % j))) else if j ≠ 0 then some (.val (.int (i.fmod j))) else none := rfl
@[simp] theorem powD_int (i j : Int) : powD M (.int i) (.int j) = if 0 ≤ j ∧ j ≤ 1000000 ∧ i.natAbs < 2 ^ 64 then some (.val (.int (i ^ j.toNat))) else none := rfl
@[simp] theorem negD_int (i : Int) : negD M (.int i) = some (.val (.int (-i))) := rfl
@[simp] theorem cmpD_int (p : Int → Int → Bool) (i j : Int) : cmpD p M (.int i) (.int j) = some (.val (.bl (p i j))) := rfl
@[simp] theorem boD_bl (b : Bool) : boD (.bl b) = some b := rfl
@[simp] theorem truD_bl (b : Bool) : truD M (.bl b) = some b := rfl
@[simp] theorem idxD_tup (ds : List D) (i : Int) : idxD M (.tup ds) (.int i) = (atI ds i).map Slot.val := rfl
@[simp] theorem idxD_kt (ds : List D) (i : Int) : idxD M (.kt ds) (.int i) = (atI ds i).map Slot.val := rfl
@[simp] theorem idxD_lst (ds : List D) (i : Int) : idxD M (.lst ds) (.int i) = (atI ds i).map Slot.val := rfl
@[simp] theorem idxD_str (z : Str) (i : Int) : idxD M (.str z) (.int i) = if z.length ≤ sizeLine then (atI z.cps.toList i).map fun c => .val (.str ⟨#[c]⟩) else none := rfl
@[simp] theorem lenD_lst (ds : List D) : lenD M [.lst ds] = some (.val (.int ds.length)) := rfl
@[simp] theorem lenD_fro (ds : List D) : lenD M [.fro ds] = some (.val (.int ds.length)) := rfl
@[simp] theorem lenD_tup (ds : List D) : lenD M [.tup ds] = some (.val (.int ds.length)) := rfl
@[simp] theorem lenD_str (z : Str) : lenD M [.str z] = if z.length ≤ sizeLine then some (.val (.int z.length)) else none := rfl
theorem idxD_ref {k : Nat} {ds : List D} (h : M[k]? = some (.lst ds)) (i : Int) : idxD M (.ref k) (.int i) = (atI ds i).map Slot.val := by
  simp [idxD, seqOf, lstOf, h]
end
@[simp] theorem rng1D_int (j : Int) : rng1D [.int j] = if -(2 ^ 62) ≤ j ∧ j < 2 ^ 62 then some (rngL 0 j.toNat) else none := rfl
@[simp] theorem rng2D_int (i j : Int) : rng2D [.int i, .int j] = if -(2 ^ 62) ≤ i ∧ i < 2 ^ 62 ∧ -(2 ^ 62) ≤ j ∧ j < 2 ^ 62 then some (rngL i (j - i).toNat) else none := rfl
theorem rng1_ok {j : Int} (h0 : -(2 ^ 62) ≤ j) (h1 : j < 2 ^ 62) : rng1D [.int j] = some (rngL 0 j.toNat) := by rw [rng1D_int, if_pos ⟨h0, h1⟩]
theorem rngL_get {lo : Int} {n i : Nat} {d : D} (h : (rngL lo n)[i]? = some d) : i < n ∧ d = .int (lo + i) := by
  have hi : i < n := by have := (List.getElem?_eq_some_iff.mp h).1; rwa [rngL_len] at this
  unfold rngL at h
  rw [List.getElem?_map, List.getElem?_range hi] at h
  cases h
  exact ⟨hi, rfl⟩
section
variable (M : Store)
theorem eqvD_int (i j : Int) : eqvD (.int i) (.int j) = decide (i = j) := by
  rw [Bool.eq_iff_iff]; simp [eqvD]
theorem eqvD_bl (i j : Bool) : eqvD (.bl i) (.bl j) = decide (i = j) := by
  rw [Bool.eq_iff_iff]; simp [eqvD]
theorem eqvD_str (i j : Str) : eqvD (.str i) (.str j) = decide (i = j) := by
  rw [Bool.eq_iff_iff]; simp [eqvD]
@[simp] theorem eqD_int (i j : Int) : eqD M (.int i) (.int j) = some (.val (.bl (decide (i = j)))) := by
  have h : eqD M (.int i) (.int j) = some (.val (.bl (eqvD (.int i) (.int j)))) := rfl
  rw [h, eqvD_int]
@[simp] theorem neD_int (i j : Int) : neD M (.int i) (.int j) = some (.val (.bl (!decide (i = j)))) := by
  have h : neD M (.int i) (.int j) = some (.val (.bl (!eqvD (.int i) (.int j)))) := rfl
  rw [h, eqvD_int]
@[simp] theorem eqD_bl (i j : Bool) : eqD M (.bl i) (.bl j) = some (.val (.bl (decide (i = j)))) := by
  have h : eqD M (.bl i) (.bl j) = some (.val (.bl (eqvD (.bl i) (.bl j)))) := rfl
  rw [h, eqvD_bl]
@[simp] theorem neD_bl (i j : Bool) : neD M (.bl i) (.bl j) = some (.val (.bl (!decide (i = j)))) := by
  have h : neD M (.bl i) (.bl j) = some (.val (.bl (!eqvD (.bl i) (.bl j)))) := rfl
  rw [h, eqvD_bl]
/-- signs as they are -/
def okStr (x : Str) : Bool := x.cps.all (· < 0x110000)
theorem eqS (i j : Str) : eqD M (.str i) (.str j) = some (.val (.bl (decide (i = j)))) := rfl
theorem neS (i j : Str) : neD M (.str i) (.str j) = some (.val (.bl (!decide (i = j)))) := rfl
theorem eqD_str {i j : Str} (hi : okStr i = true) (hj : okStr j = true) : eqD M (.str i) (.str j) = some (.val (.bl (decide (i = j)))) := rfl
theorem neD_str {i j : Str} (hi : okStr i = true) (hj : okStr j = true) : neD M (.str i) (.str j) = some (.val (.bl (!decide (i = j)))) := rfl
theorem strP_eqv {x y : D} {b : Bool} (h : strP x y = some b) : b = eqvD x y := by
  obtain ⟨i, j, rfl, rfl, rfl⟩ := strP_at h
  rw [eqvD_str]
theorem eqD_of {x y : D} (hx : goodD x = true) (hy : goodD y = true) (hd : dpD x ≤ 190) : eqD M x y = some (.val (.bl (eqvD x y))) := by
  unfold eqD
  split
  · rename_i b hb
    rw [strP_eqv hb]
  · rw [der_good M hx, der_good M hy, hx, hy, if_pos (by simp; omega)]
theorem neD_of {x y : D} (hx : goodD x = true) (hy : goodD y = true) (hd : dpD x ≤ 190) : neD M x y = some (.val (.bl (!eqvD x y))) := by
  unfold neD
  split
  · rename_i b hb
    rw [strP_eqv hb]
  · rw [der_good M hx, der_good M hy, hx, hy, if_pos (by simp; omega)]
end
theorem mulOk_l {i j : Int} (h : -(2 ^ 64) < i) (h' : i < 2 ^ 64) : mulOk i j = true := by
  unfold mulOk
  rw [decide_eq_true (show -(2 ^ 64) < i ∧ i < 2 ^ 64 from ⟨h, h'⟩)]
  rfl
theorem mulOk_r {i j : Int} (h : -(2 ^ 64) < j) (h' : j < 2 ^ 64) : mulOk i j = true := by
  unfold mulOk
  rw [decide_eq_true (show -(2 ^ 64) < j ∧ j < 2 ^ 64 from ⟨h, h'⟩), Bool.or_true]
  rfl
/-! ### comprehensions -/
theorem lcGo_fm {b : D → EnvD → Option EnvD} {c : FB} {f : FD} {ρ0 : EnvD} {M : Store} (p : D → Bool) (g : D → D) : ∀ (items acc : List D),
    (∀ d ∈ items, ∃ ρ1, b d ρ0 = some ρ1 ∧ c ρ1 M = .ok (p d) M ∧ (p d = true → f ρ1 M = .ok (g d) M)) → acc.length + items.length ≤ sizeLine → lcGo b c f ρ0 items acc M = .ok (acc ++ (items.filter p).map g) M
  | [], acc, _, _ => by simp [lcGo]
  | d :: ds, acc, h, hl => by
    obtain ⟨ρ1, h1, h2, h3⟩ := h d List.mem_cons_self
    unfold lcGo
    rw [h1]
    simp only
    rw [h2]
    rw [List.length_cons] at hl
    cases hp : p d with
    | false =>
      simp only
      rw [lcGo_fm p g ds acc (fun x hx => h x (List.mem_cons_of_mem _ hx)) (by omega), List.filter_cons_of_neg (by rw [hp]; decide)]
    | true =>
      simp only
      rw [h3 hp]
      simp only
      rw [if_pos (by omega), lcGo_fm p g ds (acc ++ [g d]) (fun x hx => h x (List.mem_cons_of_mem _ hx)) (by rw [List.length_append, List.length_singleton]; omega), List.filter_cons_of_pos hp, List.map_cons, List.append_assoc]
      rfl
theorem lcGo_map {b : D → EnvD → Option EnvD} {f : FD} {ρ0 : EnvD} {M : Store} (g : D → D) (items : List D) (h : ∀ d ∈ items, ∃ ρ1, b d ρ0 = some ρ1 ∧ f ρ1 M = .ok (g d) M) (hl : items.length ≤ sizeLine) : lcGo b dYes f ρ0 items [] M = .ok (items.map g) M := by
  rw [lcGo_fm (fun _ => true) g items [] (fun d hd => by obtain ⟨ρ1, h1, h2⟩ := h d hd; exact ⟨ρ1, h1, rfl, fun _ => h2⟩) (by simpa using hl)]
  rw [List.filter_eq_self.mpr (fun _ _ => rfl), List.nil_append]
/-- by an invariant over the turn, what is made so far, the store -/
theorem lcGo_inv {b : D → EnvD → Option EnvD} {f : FD} {ρ0 : EnvD} (I : Nat → List D → Store → Prop) (items : List D) (hl : items.length ≤ sizeLine)
    (step : ∀ i d acc M, items[i]? = some d → I i acc M → ∃ ρ1, b d ρ0 = some ρ1 ∧ ∃ y M', f ρ1 M = .ok y M' ∧ I (i + 1) (acc ++ [y]) M') :
    ∀ (n i : Nat) (acc : List D) (M : Store), n + i = items.length → acc.length = i → I i acc M → ∃ res M', lcGo b dYes f ρ0 (items.drop i) acc M = .ok res M' ∧ I items.length res M' ∧ res.length = items.length
  | 0, i, acc, M, e, ha, h => by
    have ei : i = items.length := by omega
    subst ei
    rw [List.drop_length]
    exact ⟨acc, M, rfl, h, ha⟩
  | n + 1, i, acc, M, e, ha, h => by
    have hi : i < items.length := by omega
    rw [List.drop_eq_getElem_cons hi]
    obtain ⟨ρ1, h1, y, M', h2, h3⟩ := step i items[i] acc M (List.getElem?_eq_getElem hi) h
    unfold lcGo
    rw [h1]
    simp only [dYes_eq]
    rw [h2]
    simp only
    rw [if_pos (by omega)]
    exact lcGo_inv I items hl step n (i + 1) (acc ++ [y]) M' (by omega) (by rw [List.length_append, ha]; rfl) h3
/-! ### loops -/
/-- a loop that goes on to its end -/
theorem forGo_inv {b : D → EnvD → Option EnvD} {body : FS} (I : Nat → EnvD → Store → Prop) (items : List D)
    (step : ∀ i d ρ M, items[i]? = some d → I i ρ M → ∃ ρ1, b d ρ = some ρ1 ∧ ((∃ ρ2 M2, body ρ1 M = .next ρ2 M2 ∧ I (i + 1) ρ2 M2) ∨ ∃ ρ2 M2, body ρ1 M = .cont ρ2 M2 ∧ I (i + 1) ρ2 M2)) :
    ∀ (n i : Nat) (ρ : EnvD) (M : Store), n + i = items.length → I i ρ M → ∃ ρ' M', forGo b body (items.drop i) ρ M = .next ρ' M' ∧ I items.length ρ' M'
  | 0, i, ρ, M, e, h => by
    have ei : i = items.length := by omega
    subst ei
    rw [List.drop_length]
    exact ⟨ρ, M, rfl, h⟩
  | n + 1, i, ρ, M, e, h => by
    have hi : i < items.length := by omega
    rw [List.drop_eq_getElem_cons hi]
    obtain ⟨ρ1, h1, h2⟩ := step i items[i] ρ M (List.getElem?_eq_getElem hi) h
    unfold forGo
    rw [h1]
    simp only
    rcases h2 with ⟨ρ2, M2, h2, h3⟩ | ⟨ρ2, M2, h2, h3⟩
    · rw [h2]
      exact forGo_inv I items step n (i + 1) ρ2 M2 (by omega) h3
    · rw [h2]
      exact forGo_inv I items step n (i + 1) ρ2 M2 (by omega) h3
theorem forGo_all {b : D → EnvD → Option EnvD} {body : FS} (I : Nat → EnvD → Store → Prop) (items : List D) {ρ : EnvD} {M : Store} (h0 : I 0 ρ M)
    (step : ∀ i d ρ M, items[i]? = some d → I i ρ M → ∃ ρ1, b d ρ = some ρ1 ∧ ∃ ρ2 M2, body ρ1 M = .next ρ2 M2 ∧ I (i + 1) ρ2 M2) : ∃ ρ' M', forGo b body items ρ M = .next ρ' M' ∧ I items.length ρ' M' := by
  have := forGo_inv (b := b) (body := body) I items (fun i d ρ M hd h => by obtain ⟨ρ1, h1, h2⟩ := step i d ρ M hd h; exact ⟨ρ1, h1, .inl h2⟩) items.length 0 ρ M rfl h0
  simpa using this
theorem size_ok {n : Nat} (h : n ≤ 1000000) : n ≤ sizeLine := Nat.le_trans h (by decide)
end TP
/-! TPn: the laws' own numbers. -/
namespace TP
open PySem L2
def cellM : FS := (sSeq (sPutR (dEF (dOp2 addD (dEF (dOp2 idxD (dVarB 1) (dC (.int 0)))) (dC (.int 1)))) (dVarB 1) (dC (.int 0))) (sSeq (sSet 2 (dFE (dEF (dOp2 idxD (dVarB 1) (dC (.int 0)))))) (sSeq (sSet 3 (dFE (dEF (dOp2 addD (dEF (dOp2 mulD (dEF (dOp2 mulD (dC (.int 31)) (dVarB 2))) (dVarB 2))) (dEF (dOp2 mulD (dC (.int 7919)) (dVarB 2))))))) (sSeq (sIf (dAnd (dBo (dOp2 (cmpD fun i j => decide (j < i)) (dEF (dPr lenD (dCons (dVarB 0) dNil))) (dC (.int 0)))) (dAnd (dBo (dOp2 (cmpD fun i j => decide (j ≤ i)) (dEF (dOp2 idxD (dVarB 0) (dEF (dOp2 modD (dVarB 2) (dEF (dPr lenD (dCons (dVarB 0) dNil))))))) (dEF (dOp2 powD (dC (.int 10)) (dC (.int 18)))))) (dBo (dOp2 (cmpD fun i j => decide (i < j)) (dEF (dOp2 fdivD (dVarB 2) (dEF (dPr lenD (dCons (dVarB 0) dNil))))) (dC (.int 60)))))) (sSeq (sSet 4 (dFE (dEF (dOp2 idxD (dVarB 0) (dEF (dOp2 modD (dVarB 2) (dEF (dPr lenD (dCons (dVarB 0) dNil))))))))) (sSeq (sFor (dRng1 (dCons (dEF (dOp2 fdivD (dVarB 2) (dEF (dPr lenD (dCons (dVarB 0) dNil))))) dNil)) (bName 5) (sSeq (sSet 4 (dFE (dEF (dOp2 fdivD (dVarB 4) (dC (.int 306783379)))))) sNil)) (sSeq (sIf (dBo (dOp2 (cmpD fun i j => decide (j < i)) (dVarB 4) (dC (.int 0)))) (sSeq (sRet (dOp2 modD (dVarB 4) (dC (.int 306783379)))) sNil) sNil) sNil))) sNil) (sSeq (sIf (dBo (dOp2 (cmpD fun i j => decide (j < i)) (dEF (dPr lenD (dCons (dVarB 0) dNil))) (dC (.int 0)))) (sSeq (sSet 3 (dFE (dEF (dOp2 addD (dVarB 3) (dEF (dOp2 mulD (dEF (dOp2 modD (dEF (dOp2 idxD (dVarB 0) (dEF (dOp2 modD (dVarB 2) (dEF (dPr lenD (dCons (dVarB 0) dNil))))))) (dC (.int 2147483629)))) (dEF (dOp2 addD (dC (.int 1)) (dEF (dOp2 fdivD (dVarB 2) (dEF (dPr lenD (dCons (dVarB 0) dNil))))))))))))) sNil) sNil) (sSeq (sRet (dOp2 fdivD (dEF (dOp2 modD (dEF (dOp2 mulD (dEF (dOp2 modD (dEF (dOp2 mulD (dVarB 3) (dC (.int 48271)))) (dC (.int 2147483647)))) (dC (.int 69621)))) (dC (.int 2147483629)))) (dC (.int 7)))) sNil))))))
theorem atI_ints {ns : List Int} {i : Int} (h0 : 0 ≤ i) (h1 : i < ns.length) : ∃ v, atI (ns.map D.int) i = some (.int v) := by
  have hi : i.toNat < ns.length := by omega
  have e : ((i.toNat : Nat) : Int) = i := by omega
  generalize i.toNat = j at hi e
  subst e
  refine ⟨ns[j], ?_⟩
  exact atI_nat (by rw [List.getElem?_map, List.getElem?_eq_getElem hi]; rfl)
set_option maxHeartbeats 2000000 in
theorem cell_gen (c : D) (ns : List Int) (hlen : ∀ M, lenD M [c] = some (.val (.int ns.length))) (hidx : ∀ M i, idxD M c (.int i) = (atI (ns.map D.int) i).map Slot.val) (j : Nat) (k : Int) (M : Store) (hns : ns.length ≤ 63) (hj : M[j]? = some (.lst [.int k])) (h0 : -1 ≤ k) (h1 : k < 2 ^ 40) :
    ∃ r : Int, 0 ≤ r ∧ runF 6 cellM [c, .ref j] M = .ok (.val (.int r)) (M.set j (.lst [.int (k + 1)])) := by
  have hjl : j < M.length := (List.getElem?_eq_some_iff.mp hj).1
  have hM : (M.set j (.lst [.int (k + 1)]))[j]? = some (.lst [.int (k + 1)]) := List.getElem?_set_self hjl
  have a0 : ∀ d : D, atI [d] 0 = some d := fun d => rfl
  have i0 : ixN 1 0 = some 0 := rfl
  have m1 : mulOk 31 (k + 1) = true := mulOk_l (by decide) (by decide)
  have m2 : mulOk (31 * (k + 1)) (k + 1) = true := mulOk_r (by omega) (by omega)
  have m3 : mulOk 7919 (k + 1) = true := mulOk_l (by decide) (by decide)
  have m4 : ∀ x, mulOk x 48271 = true := fun x => mulOk_r (by decide) (by decide)
  have m5 : ∀ x, mulOk x 69621 = true := fun x => mulOk_r (by decide) (by decide)
  have fin : ∀ b : Int, 0 ≤ b * 48271 % 2147483647 * 69621 % 2147483629 / 7 := fun b => by omega
  unfold runF cellM startD
  cases ns with
  | nil =>
    simp [hlen, hidx, idxD_ref _ hj, idxD_ref _ hM, hj, a0, i0, m1, m2, m3, m4, m5]
    exact fin _
  | cons n ns =>
    have hl : 0 < (n :: ns).length := by simp
    generalize hL : ((n :: ns).length : Nat) = L at hl hns
    generalize hA : n :: ns = all at hL hlen hidx
    have hp1 : 0 ≤ (k + 1) % (L : Int) := Int.emod_nonneg _ (by omega)
    have hp2 : (k + 1) % (L : Int) < L := Int.emod_lt_of_pos _ (by omega)
    obtain ⟨v, hv⟩ := atI_ints (ns := all) hp1 (by omega)
    have m6 : mulOk (v % 2147483629) (1 + (k + 1) / (L : Int)) = true := mulOk_l (by omega) (by omega)
    have hdiv : (L : Int) < 1073741824 := by omega
    have hq0 : 0 ≤ (k + 1) / (L : Int) := Int.ediv_nonneg (by omega) (by omega)
    have hq1 : (k + 1) / (L : Int) ≤ k + 1 := Int.ediv_le_self _ (by omega)
    simp only [List.replicate, List.map_cons, List.map_nil, List.length_cons, List.length_nil]
    by_cases hv2 : 1000000000000000000 ≤ v ∧ (k + 1) / (L : Int) < 60
    · -- its own digits
      have hr : -4611686018427387904 ≤ (k + 1) / (L : Int) ∧ (k + 1) / (L : Int) < 4611686018427387904 := ⟨by omega, by omega⟩
      obtain ⟨ρ', M', e1, ⟨x, y, e2⟩, e3⟩ := forGo_all (b := bName 5) (body := (sSeq (sSet 4 (dFE (dEF (dOp2 fdivD (dVarB 4) (dC (D.int 306783379)))))) sNil))
        (fun _ ρ N => (∃ (x : Int) (y : Slot), ρ = [Slot.val c, Slot.val (D.ref j), Slot.val (D.int (k + 1)), Slot.val (D.int (31 * (k + 1) * (k + 1) + 7919 * (k + 1))), Slot.val (D.int x), y]) ∧ N = M.set j (.lst [.int (k + 1)]))
        (rngL 0 ((k + 1) / (L : Int)).toNat) (ρ := [Slot.val c, Slot.val (D.ref j), Slot.val (D.int (k + 1)), Slot.val (D.int (31 * (k + 1) * (k + 1) + 7919 * (k + 1))), Slot.val (D.int v), .un]) (M := M.set j (.lst [.int (k + 1)])) ⟨⟨v, .un, rfl⟩, rfl⟩
        (fun i d ρ N hd ⟨⟨x, y, e⟩, eN⟩ => by
          subst e eN
          refine ⟨_, rfl, _, _, by simp; rfl, ⟨x / 306783379, .val d, by simp⟩, rfl⟩)
      subst e2 e3
      by_cases hx : 0 < x
      · refine ⟨x % 306783379, by omega, ?_⟩
        simp [hlen, hidx, idxD_ref _ hj, idxD_ref _ hM, hj, a0, i0, m1, m2, m3, m4, m5, m6, hL, hv, hdiv, hl, hv2.1, hv2.2, hr, e1, hx]
      · simp [hlen, hidx, idxD_ref _ hj, idxD_ref _ hM, hj, a0, i0, m1, m2, m3, m4, m5, m6, hL, hv, hdiv, hl, hv2.1, hv2.2, hr, e1, hx]
        exact fin _
    · have hv3 : (if 1000000000000000000 ≤ v then decide ((k + 1) / (L : Int) < 60) else false) = false := by
        split
        · exact decide_eq_false fun z => hv2 ⟨by assumption, z⟩
        · rfl
      by_cases hv4 : 1000000000000000000 ≤ v
      · have hv5 : ¬ (k + 1) / (L : Int) < 60 := fun z => hv2 ⟨hv4, z⟩
        simp [hlen, hidx, idxD_ref _ hj, idxD_ref _ hM, hj, a0, i0, m1, m2, m3, m4, m5, m6, hL, hv, hdiv, hl, hv4, hv5]
        exact fin _
      · simp [hlen, hidx, idxD_ref _ hj, idxD_ref _ hM, hj, a0, i0, m1, m2, m3, m4, m5, m6, hL, hv, hdiv, hl, hv4]
        exact fin _

theorem cell_fro (ns : List Int) (j : Nat) (k : Int) (M : Store) (hns : ns.length ≤ 63) (hj : M[j]? = some (.lst [.int k])) (h0 : -1 ≤ k) (h1 : k < 2 ^ 40) :
    ∃ r : Int, 0 ≤ r ∧ runF 6 cellM [.fro (ns.map .int), .ref j] M = .ok (.val (.int r)) (M.set j (.lst [.int (k + 1)])) :=
  cell_gen _ ns (fun M => by show some (Slot.val (D.int (List.map D.int ns).length)) = _; rw [List.length_map]) (fun M i => rfl) j k M hns hj h0 h1
theorem cell_ok (ns : List Int) (j : Nat) (k : Int) (M : Store) (hns : ns.length ≤ 63) (hj : M[j]? = some (.lst [.int k])) (h0 : -1 ≤ k) (h1 : k < 2 ^ 40) :
    ∃ r : Int, 0 ≤ r ∧ runF 6 cellM [.lst (ns.map .int), .ref j] M = .ok (.val (.int r)) (M.set j (.lst [.int (k + 1)])) :=
  cell_gen _ ns (fun M => by show some (Slot.val (D.int (List.map D.int ns).length)) = _; rw [List.length_map]) (fun M i => rfl) j k M hns hj h0 h1
end TP
/-! TPo: more for reckoning: dicts, the laws' numbers out of any row. -/
namespace TP
open PySem L2
section
variable (ρ : EnvD) (M : Store)
@[simp] theorem dTab_eq (tab : List (Str × D)) (f : FD) : dTab tab f ρ M = (f ρ M).bind fun y M => match y with
  | .str z => R.of (tabFind tab z) M
  | _ => .bad := rfl
@[simp] theorem dNewT_eq : dNewT ρ M = .ok (.ref M.length) (M ++ [.dT []]) := rfl
@[simp] theorem sPutD_eq (f fo fi : FD) : sPutD f fo fi ρ M = (f ρ M).out fun z M => (fo ρ M).out fun x M => (fi ρ M).out fun y M => match dPutM M x y z with
  | some M' => .next ρ M'
  | none => .bad := rfl
@[simp] theorem dDisp_eq (ks : List Str) (fs : List FD) : dDisp ks fs ρ M = (dVals fs ρ M).bind fun ds M => if ds.length = ks.length ∧ ks.length ≤ 15 then .ok (.ref M.length) (M ++ [.dK (mergeD ks ds)]) else .bad := rfl
end
end TP
/-! TPk: promises of defs where no repr is under way (guards), calls by them, the law's end. -/
namespace TP
open PySem L2
/-- a def's promise, wherever no repr is under way -/
structure GOk (P : Program) (wo : World) (K : PySem.W.Frag) (mg : Str → Option Value) (base : Heap) (CX : CXT) (k : Nat) (f : Addr) (fd : FuncData) (ps : List Str) (sp : Sp) : Prop where
  len : ∀ vs H Q EX, sp vs H Q EX → vs.length = ps.length
  go : ∀ (A : Around) (outer : List Env) (s : Shared) (H : Hp) (ar : Args) (us : List Value) (vs : List V) (Q : VK) (EX : XK),
    Room k A → A.guards = some [] → Env0 P wo K mg base A outer s H → BindsTo s fd ar (ps.zip us) → Vals vs us → sp vs H Q EX →
    codeAny (model P wo) A (.call (.ref f) ar) (CR CX outer P wo H s Q EX) s
section
variable {X : Cx} {CX : CXT} {k : Nat} {f C : Addr} {fd : FuncData} {ps : List Str} {sp : Sp} {EX : XK} {x m : Str} {p pos apos : Pos} {e o : Expr} {es : List Expr} {ta : TE} {t : TA}
theorem g_run {pins : List (Addr × Obj)} {σ : St} {H : Hp} {s : Shared} {Q : VK} {us : List Value} {vs : List V} (F : GOk X.prog X.w X.K X.mg X.base CX k f fd ps sp) (hr : Room k X.A) (hq : X.A.guards = some [])
    (hb : Binds X.K fd ps []) (hx : Passes CX X EX) (I : Inv X pins σ H s) (r : Vals vs us) (h : sp vs H Q EX) : wpAny (model X.prog X.w) X.A (call (.ref f) us) (EP X pins σ Q) X.xe s := by
  have hl : (us ++ []).length = ps.length := by
    rw [List.append_nil, ← r.length]
    exact F.len _ _ _ _ h
  have hb' := hb s us I.kIn hl
  rw [List.append_nil] at hb'
  refine wpAny_call (codeAny_mono (F.go X.A X.stack s H ⟨us, []⟩ us vs Q EX hr hq I.env0 hb' r h) fun z s' hz => ?_)
  match z, hz with
  | .error er, hz => exact hx pins σ H s er s' I hz
  | .ok (.ret u), hz => exact I.after hz
  | .ok .next, hz => exact False.elim hz
  | .ok .brk, hz => exact False.elim hz
  | .ok .cont, hz => exact False.elim hz
/-- f(e, ..) -/
theorem g_call (F : GOk X.prog X.w X.K X.mg X.base CX k f fd ps sp) (hr : Room k X.A) (hq : X.A.guards = some []) (hg : Gl X x) (hm : X.mg x = some (.ref f)) (hk : PySem.W.keepIn X.K (.ref f) = true) (hb : Binds X.K fd ps [])
    (hx : Passes CX X EX) (ha : PA X (e :: es) t) (hdb : (x == ("__debug__" : Str)) = false := by decide) (he : starEach (e :: es) X.env = (false, eval e X.env) :: starEach es X.env := by rfl)
    (hpl : (backTo pos (starEach es X.env)).any (·.1) = false := by rfl) : PE X (.Call (.Name x p) (e :: es) [] pos) (tCall sp [] EX t) :=
  ⟨fun pins s σ H Q I h => wpAny_Call_Name_kw (ld_glob I hg hm (PySem.W.callWith_K (h₀ := X.base) I.ok.mod.kin hk
    (thn (ha.run pos pins s σ H _ I h) fun us s1 ⟨vs, H1, I1, r, q⟩ => ⟨I1.kIn, g_run F hr hq hb hx I1 r (by have q' : sp (vs ++ []) H1 Q EX := q; rw [List.append_nil] at q'; exact q')⟩) he hpl) hdb)⟩
/-- f() -/
theorem g_call0 (F : GOk X.prog X.w X.K X.mg X.base CX k f fd ps sp) (hr : Room k X.A) (hq : X.A.guards = some []) (hg : Gl X x) (hm : X.mg x = some (.ref f)) (hk : PySem.W.keepIn X.K (.ref f) = true) (hb : Binds X.K fd ps [])
    (hx : Passes CX X EX) (hdb : (x == ("__debug__" : Str)) = false := by decide) : PE X (.Call (.Name x p) [] [] pos) (tCall sp [] EX tNil) :=
  ⟨fun pins s σ H Q I h => wpAny_Call_Name_kw (ld_glob I hg hm (PySem.W.callWith_K0 I.kIn hk (g_run (us := []) F hr hq hb hx I .nil h)) hdb)⟩
/-- o.m(e, ..) -/
theorem g_meth {pl : Sem Bool} (he : PE X o ta) (c : Cls X.K C) (hm : Meth X.K C m f) (F : GOk X.prog X.w X.K X.mg X.base CX k f fd ps sp) (hr : Room k X.A) (hq : X.A.guards = some []) (hb : Binds X.K fd ps []) (hx : Passes CX X EX)
    (ha : PA X (e :: es) t) (hst : starEach (e :: es) X.env = (false, eval e X.env) :: starEach es X.env := by rfl) (hpl : (backTo pos (starEach es X.env)).any (·.1) = false := by rfl)
    (ht : eval (.Call (.Attribute o m apos) (e :: es) [] pos) X.env = (do
      let ov ← eval o X.env
      standAt apos.atName
      let (fv, first) ← holding [ov] (getMethod ov m pl)
      callWith pos fv first (backTo pos (starEach (e :: es) X.env)) (backToKw pos (keywordEach [] X.env))) := by rfl) :
    PE X (.Call (.Attribute o m apos) (e :: es) [] pos) (tMeth C m sp [] EX ta t) := by
  constructor
  intro pins s σ H Q I h
  refine PySem.W.methodCall_KW (pl := pl) (thn (he.run pins s σ H _ I h) ?_) ht
  rintro u s1 ⟨_, H1, I1, rx, a, dx, fs, rfl, ea, l, q⟩
  obtain rfl : u = Value.ref a := rx
  refine getmeth_ok I1 ea c hm l (PySem.W.callWith_K (first := [.ref a]) (h₀ := X.base) I.ok.mod.kin hm.kp (thn (ha.run pos pins s1 σ H1 _ I1 q) ?_) hst hpl)
  rintro us s2 ⟨vs, H2, I2, r, q2⟩
  have q2' : sp (V.ref a :: (vs ++ [])) H2 Q EX := q2
  rw [List.append_nil] at q2'
  exact ⟨I2.kIn, g_run (us := .ref a :: us) (vs := .ref a :: vs) F hr hq hb hx I2 (.cons rfl r) q2'⟩
/-- o.m() -/
theorem g_meth0 {pl : Sem Bool} (he : PE X o ta) (c : Cls X.K C) (hm : Meth X.K C m f) (F : GOk X.prog X.w X.K X.mg X.base CX k f fd ps sp) (hr : Room k X.A) (hq : X.A.guards = some []) (hb : Binds X.K fd ps []) (hx : Passes CX X EX)
    (ht : eval (.Call (.Attribute o m apos) [] [] pos) X.env = (do
      let ov ← eval o X.env
      standAt apos.atName
      let (fv, first) ← holding [ov] (getMethod ov m pl)
      callWith pos fv first (backTo pos (starEach [] X.env)) (backToKw pos (keywordEach [] X.env))) := by rfl) :
    PE X (.Call (.Attribute o m apos) [] [] pos) (tMeth C m sp [] EX ta tNil) := by
  constructor
  intro pins s σ H Q I h
  refine PySem.W.methodCall_KW (pl := pl) (thn (he.run pins s σ H _ I h) ?_) ht
  rintro u s1 ⟨_, H1, I1, rx, a, dx, fs, rfl, ea, l, q⟩
  obtain rfl : u = Value.ref a := rx
  exact getmeth_ok I1 ea c hm l (PySem.W.callWith_K0 (first := [.ref a]) I1.kIn hm.kp (g_run (us := [.ref a]) (vs := [.ref a]) F hr hq hb hx I1 (.cons rfl .nil) q))
theorem make_guards {A : Around} {us : List Value} {kw : List (Str × Value)} (h : A.guards = some []) : (A.under (.builtin "type.__call__" ⟨.ref C :: us, kw⟩)).guards = some [] := by
  first | exact h | simp [Around.under, Code.guards, Code.isGuard, pushGuards, guardIds, h]
theorem g_mk {pins : List (Addr × Obj)} {σ : St} {H : Hp} {s : Shared} {Q : VK} {us : List Value} {vs : List V} (M : Mk X.K C f) (F : GOk X.prog X.w X.K X.mg X.base CX k f fd ps sp) (hr : Room (k + 1) X.A) (hq : X.A.guards = some [])
    (hb : Binds X.K fd ps []) (hx : Passes CX X EX) (I : Inv X pins σ H s) (r : Vals vs us)
    (h : ∀ y dx, H y = none → H dx = none → dx ≠ y → sp (.ref y :: vs) (upd (upd H dx (.own y)) y (.ins C dx [])) (fun v H2 => v = .non ∧ Q (.ref y) H2) EX) :
    wpAny (model X.prog X.w) X.A (call (.ref C) us) (EP X pins σ Q) X.xe s := by
  generalize hz : s.heap.objs.size = z at *
  have f0 : H z = none := I.hok.fresh (by omega)
  have f1 : H (z + 1) = none := I.hok.fresh (by omega)
  have h1 := h (z + 1) z f1 f0 (Nat.ne_of_lt (Nat.lt_succ_self z))
  have I2 := Inv.made (C := C) I
  rw [hz] at I2
  have r2 : Vals (V.ref (z + 1) :: vs) (Value.ref (z + 1) :: us) := .cons rfl r
  have hl : ((Value.ref (z + 1) :: us) ++ []).length = ps.length := by
    rw [List.append_nil, ← r2.length]
    exact F.len _ _ _ _ h1
  have hb' := hb _ (Value.ref (z + 1) :: us) I2.kIn hl
  rw [List.append_nil] at hb'
  refine wpAny_call (make_map (f := f) I.kIn M.makes M.init (beq_iff_eq.mp M.fn) ?_)
  rw [hz]
  refine codeAny_mono (F.go _ X.stack _ _ ⟨Value.ref (z + 1) :: us, []⟩ (Value.ref (z + 1) :: us) _ _ EX (hr.make C us []) (make_guards hq) (I2.env0.make C us []) hb' r2 h1) fun w s' hw => ?_
  match w, hw with
  | .error er, hw => exact hx pins σ _ _ er s' I2 hw
  | .ok .next, hw => exact False.elim hw
  | .ok .brk, hw => exact False.elim hw
  | .ok .cont, hw => exact False.elim hw
  | .ok (.ret u), hw =>
    obtain ⟨v, H', I3, rv, ev, q3⟩ := I2.after hw
    subst ev
    exact ⟨rv, V.ref (z + 1), H', I3, rfl, q3⟩
/-- C(e, ..) -/
theorem g_make (M : Mk X.K C f) (F : GOk X.prog X.w X.K X.mg X.base CX k f fd ps sp) (hr : Room (k + 1) X.A) (hq : X.A.guards = some []) (hg : Gl X x) (hm : X.mg x = some (.ref C)) (hb : Binds X.K fd ps []) (hx : Passes CX X EX)
    (ha : PA X (e :: es) t) (hdb : (x == ("__debug__" : Str)) = false := by decide) (he : starEach (e :: es) X.env = (false, eval e X.env) :: starEach es X.env := by rfl)
    (hpl : (backTo pos (starEach es X.env)).any (·.1) = false := by rfl) : PE X (.Call (.Name x p) (e :: es) [] pos) (tMake C sp [] EX t) :=
  ⟨fun pins s σ H Q I h => wpAny_Call_Name_kw (ld_glob I hg hm (PySem.W.callWith_K (h₀ := X.base) I.ok.mod.kin M.kp
    (thn (ha.run pos pins s σ H _ I h) fun us s1 ⟨vs, H1, I1, r, q⟩ => ⟨I1.kIn, g_mk M F hr hq hb hx I1 r fun y dx h1 h2 h3 => by have := q y dx h1 h2 h3; rw [List.append_nil] at this; exact this⟩) he hpl) hdb)⟩
end
section
open PySem.Spec PyProof.Rows
variable {K : PySem.W.Frag}
/-- a def by its body, wherever no repr is under way -/
theorem g_of {CX : CXT} {P : Program} {wo : World} {mg : Str → Option Value} {base : Heap} {x qual : Str} {st : Stmt} {f : Addr} {fd : FuncData} {N ps : List Str} {k : Nat} {sp : Sp} (F : Fun K x qual st f fd) (S : FnScope N ps (defScope st))
    (len : ∀ vs H Q EX, sp vs H Q EX → vs.length = ps.length)
    (hbody : ∀ (cdv : Value) (A : Around) (outer : List Env) (s : Shared) (H : Hp) (vs : List V) (Q : VK) (EX : XK), Room k (A.deeper (envOfC qual (defScope st) s.heap.objs.size f cdv)) → (A.deeper (envOfC qual (defScope st) s.heap.objs.size f cdv)).guards = some [] → sp vs H Q EX →
      ∃ t, PSs (cxOf CX P wo K mg base N qual (defScope st) f cdv A outer s H EX) (defBody st) t ∧ t { nx := fun _ H' => Q .non H', rt := Q } (L2.start N vs) H) : GOk P wo K mg base CX (k + 1) f fd ps sp := by
  obtain ⟨oc, od, kV, doc, pm, an, cdv, ct, osl, rfl, lk, hcd⟩ := F.ex
  refine ⟨len, ?_⟩
  intro A outer s H ar us vs Q EX hr hq e0 hb r hsp
  have hl := len _ _ _ _ hsp
  have kin : K.In s.heap := e0.mod.kin.keeps fun b o z => (e0.bs b o z).1
  have nl : s.heap.NoLimit := e0.mod.nolimit.keeps fun b o z => (e0.bs b o z).1
  have kinds : ∀ y ∈ ps.zip us, (defScope st).names.lookup y.1 = some .local
      ∨ ((defScope st).names.lookup y.1 = some .cell ∧ ((cellsFrom (s.heap.objs.size + 1) (defScope st).names []).lookup y.1).isSome = true) := by
    rintro ⟨n, v⟩ hy
    exact (S.par n (List.of_mem_zip hy).1).imp id fun z => ⟨z, PySem.W.cellsFrom_some _ _ _ (.inl z)⟩
  refine codeAny_call_function hr.depth (kin _ _ lk) rfl S.co S.gen rfl (PySem.W.codeRec_of kin hcd) (hb _ _ _ _ ?_)
  refine wpAny_newFunctionEnv_cells S.kind kinds ?_
  rintro env rfl s1 xc
  refine ⟨nl.keeps xc.toInCall.keep, codeAny_func ?_⟩
  obtain ⟨t, ht, hg⟩ := hbody cdv A outer s H vs Q EX (hr.deeper _) hq hsp
  refine wpAny_mono (ht.run [] s1 (L2.start N vs) H _ (inv_start S hr.hd e0 hl r xc) hg) (fun fl s' hs => ?_) fun er s' hs => hs
  match fl, hs with
  | .ret u, ⟨v, σ', H', J, rv, q⟩ => exact ⟨v, H', J.os, J.bare, J.base, J.hok, rv, q⟩
  | .next, ⟨σ', H', J, q⟩ => exact ⟨V.non, H', J.os, J.bare, J.base, J.hok, rfl, q⟩
  | .brk, ⟨_, _, _, q⟩ => exact False.elim q
  | .cont, ⟨_, _, _, q⟩ => exact False.elim q
/-- a def that lets no exception out -/
theorem g_fn {P : Program} {wo : World} {mg : Str → Option Value} {base : Heap} {x qual : Str} {st : Stmt} {f : Addr} {fd : FuncData} {N ps : List Str} {k : Nat} {g : FS} (F : Fun K x qual st f fd) (S : FnScope N ps (defScope st))
    (hbody : ∀ (cdv : Value) (A : Around) (outer : List Env) (s : Shared) (H : Hp) (EX : XK), Room k (A.deeper (envOfC qual (defScope st) s.heap.objs.size f cdv)) → (A.deeper (envOfC qual (defScope st) s.heap.objs.size f cdv)).guards = some [] →
      PSs (cxOf CX0 P wo K mg base N qual (defScope st) f cdv A outer s H EX).nox (defBody st) (tS K E00 g)) : GOk P wo K mg base CX0 (k + 1) f fd ps (spD K W0 ps.length (runF N.length g)) := by
  refine g_of F S (fun vs H Q EX h => h.1) (fun cdv A outer s H vs Q EX hr hq h => ?_)
  refine ⟨_, (hbody cdv A outer s H EX hr hq).nox, ?_⟩
  obtain ⟨hl, ds, w, rfl, ok, rl, a⟩ := h
  refine ⟨startD N.length ds, w, w, rfl, Step.refl ok, SR.start rl, OF.start w _ _ _, ?_⟩
  unfold runF at a
  cases q : g (startD N.length ds) w.M with
  | next ρ M => rw [q] at a; exact fun w' σ s' _ eM _ _ => a w' s' eM .non .non
  | ret y M => rw [q] at a; exact fun w' v s' eM rv => a w' s' eM v rv
  | exc c d M => rw [q] at a; exact a
  | brk ρ M => rw [q] at a; exact a.elim
  | cont ρ M => rw [q] at a; exact a.elim
  | bad => rw [q] at a; exact a.elim
theorem g_zero {P : Program} {wo : World} {mg : Str → Option Value} {base : Heap} {f : Addr} {fd : FuncData} {ps : List Str} {n : Nat} (hn : n = ps.length := by rfl) : GOk P wo K mg base CX0 0 f fd ps (spD K W0 n (fun _ _ => .bad)) :=
  ⟨fun vs H Q EX h => h.1.trans hn, fun A outer s H args us vs Q EX _ _ _ _ _ h => by
    obtain ⟨_, ds, w, _, _, _, a⟩ := h
    exact a.elim⟩
/-- the law's def at the heap behind the top -/
theorem g_law {P : Program} {wo : World} {mg mb : Str → Option Value} {CX : CXT} {k : Nat} {fa a : Addr} {fd : FuncData} {x : Str} {sp : Sp} {s₁ : Shared} {vs : List Value} {ns : List Int}
    (KX : K.In s₁.heap) (hns : s₁.heap.Ns mainGlobals mg) (hb : s₁.heap.Ns builtinsNs mb) (hbb : ∀ y : Str, y ≠ "__name__" → mb y = bootBuiltins y) (hlim : s₁.heap.NoLimit) (hg : s₁.gens = #[])
    (ha : s₁.heap.get? a = some { cls := .type "list", data := .seq vs.toArray }) (hi : IntsAre vs ns) (hl : ns.length ≤ sizeLine) (hr : Room k callerA)
    (F : ∀ base : Heap, K.In base → base.Ns mainGlobals mg → GOk P wo K mg base CX k fa fd [x] sp) (hbind : ∀ (s : Shared) (u : Value), BindsTo s fd ⟨[u], []⟩ [(x, u)])
    (hsp : ∀ H : Hp, Only H → SqL K H a (ns.map V.int) → sp [.ref a] H (fun v _ => v = .bl true) fun _ _ _ => False)
    (hCX : ∀ H er s', CX [] H s₁ (fun _ _ _ => False) er s' → False) :
    codeAny (model P wo) callerA (.call (.ref fa) ⟨[.ref a], []⟩) (fun z s' => z = .ok (.ret (.bool true)) ∧ OldK s₁.heap s'.heap ∧ s'.os = s₁.os ∧ AllBare s'.gens) s₁ := by
  have key : ∀ H : Hp, Only H → SqL K H a (ns.map V.int) → HOk P wo H s₁.heap → (∀ b, H b ≠ none → b = a) → (H a ≠ none → K.lookup a = none) →
      codeAny (model P wo) callerA (.call (.ref fa) ⟨[.ref a], []⟩) (fun z s' => z = .ok (.ret (.bool true)) ∧ OldK s₁.heap s'.heap ∧ s'.os = s₁.os ∧ AllBare s'.gens) s₁ := by
    intro H hO hS hok hA hK
    have free : ∀ {b : Addr}, b ≠ a → H b = none := fun {b} hb => by
      by_cases q : H b = none
      · exact q
      · exact absurd (hA b q) hb
    have keepNs : ∀ {b : Addr} {m : Str → Option Value}, s₁.heap.Ns b m → (hidT s₁.heap H).Ns b m := by
      rintro b m ⟨o, es, ep, h1, h2, h3⟩
      refine ⟨o, es, ep, hidT_get h1 (free fun hz => ?_), h2, h3⟩
      subst hz
      rw [ha] at h1
      cases h1
      cases h2
    have hKb : K.In (hidT s₁.heap H) := by
      intro b o hbo
      refine hidT_get (KX b o hbo) ?_
      by_cases q : H b = none
      · exact q
      · have hz := hA b q
        subst hz
        rw [hK q] at hbo
        cases hbo
    have M0 : Mod K mg (hidT s₁.heap H) := by
      obtain ⟨mc, l1, l2⟩ := hlim
      exact ⟨hKb, keepNs hns, ⟨mb, keepNs hb, hbb⟩, mc, keepNs l1, l2⟩
    have e0 : Env0 P wo K mg (hidT s₁.heap H) callerA [] s₁ H :=
      { frames := rfl, mod := M0, bs := fun b o z => of_hidT z, bsz := Nat.le_of_eq (hidT_size _ _), funs := trivial,
        frf := fun b z => (List.not_mem_nil (show b ∈ ([] : List Addr) from z)).elim, hok := hok, bare := .of_eq hg }
    refine codeAny_mono ((F _ hKb (keepNs hns)).go callerA [] s₁ H ⟨[.ref a], []⟩ [.ref a] [.ref a] _ _ hr rfl e0 (hbind s₁ (.ref a)) (.cons rfl .nil) (hsp H hO hS)) fun z s' h => ?_
    match z, h with
    | .error er, h => exact (hCX H er s' h).elim
    | .ok .next, h => exact False.elim h
    | .ok .brk, h => exact False.elim h
    | .ok .cont, h => exact False.elim h
    | .ok (.ret u), ⟨v, H', os, bare, un, hok', rv, (q : v = .bl true)⟩ =>
      subst q
      obtain rfl : u = Value.bool true := rv
      refine ⟨rfl, OldK.of_keep fun b o hbo => ?_, os, bare⟩
      rcases hO b with hn | ⟨ob, xs, hs⟩
      · exact un.keep b o hbo hn (fun z => (List.not_mem_nil (show b ∈ ([] : List Addr) from z)).elim) (by simp)
      · have h1 := (hok b _ hs).1
        have h2 := (hok' b _ (un.frzs b ob _ hs)).1
        rw [hbo] at h1
        cases h1
        exact h2
  have rv : Vals (ns.map V.int) vs := vals_ints hi
  by_cases hk : K.lookup a = none
  · have at_a : ∀ b, (if b = a then some (HO.frz { cls := .type "list", data := .seq vs.toArray } (.lst (ns.map V.int))) else none) ≠ none → b = a := fun b hb => by
      by_cases z : b = a
      · exact z
      · exact absurd (if_neg z) hb
    refine key (fun b => if b = a then some (.frz { cls := .type "list", data := .seq vs.toArray } (.lst (ns.map V.int))) else none) (fun b => ?_) (.inl (.inr ⟨_, if_pos rfl⟩)) (fun b u hu => ?_) at_a fun _ => hk
    · by_cases z : b = a
      · exact .inr ⟨_, _, if_pos z⟩
      · exact .inl (if_neg z)
    · have z := at_a b (fun hz => by have hu' := hz.symm.trans hu; cases hu')
      subst z
      have hu' := (if_pos rfl).symm.trans hu
      cases hu'
      exact ⟨ha, by rw [List.length_map]; exact hl, vs, _, rv, ha⟩
  · obtain ⟨o, ho⟩ := Option.ne_none_iff_exists'.mp hk
    have h1 := KX a o ho
    rw [ha] at h1
    cases h1
    refine key (fun _ => none) (fun _ => .inl rfl) (.inr ⟨_, vs.toArray, _, ho, rfl, rfl, rfl, by rw [List.size_toArray, hi.length]; exact hl, by simpa using rv⟩) (fun b u hu => ?_) (fun b z => absurd rfl z) fun z => absurd rfl z
    exact absurd hu (fun z => by cases z)
end
open PySem.Spec PyProof.Rows in
/-- the end of a law -/
theorem g_walk {l : PySem.W.OpenLaw} {n k : Nat} {q : Program} {loose : List Str} {XP : (Str → Option Value) → Heap → Prop} {YP : World → Heap → Prop} {d : DefRec} {K : Params → PySem.W.Frag} {CX : World → CXT} {sp : World → Sp} {x : Str}
    (hn : l.most = some n) (hn2 : n ≤ sizeLine) (hdf : d.params.defaults = []) (hr : Room k callerA) (hY : ∀ (w : World) (h : Heap), YP w h → (K w.params).In h)
    (F : ∀ (w : World) (mg : Str → Option Value) (fa : Addr) (h : Heap), (K w.params).In h → h.Ns mainGlobals mg → mg d.name = some (.ref fa) →
      ∃ fd : FuncData, (∀ (s : Shared) (u : Value), BindsTo s fd ⟨[u], []⟩ [(x, u)]) ∧ ∀ base : Heap, (K w.params).In base → base.Ns mainGlobals mg → GOk l.prog w (K w.params) mg base (CX w) k fa fd [x] (sp w))
    (hsp : ∀ (w : World) (H : Hp) (a : Addr) (ns : List Int), ns.length ≤ n → Only H → SqL (K w.params) H a (ns.map V.int) → sp w [.ref a] H (fun v _ => v = .bl true) fun _ _ _ => False)
    (hCX : ∀ (w : World) (H : Hp) (s : Shared) (e : Value) (s' : Shared), CX w [] H s (fun _ _ _ => False) e s' → False) :
    PySem.W.WalkO q loose XP YP l.row.toRowW d [] (fun f vs => PySem.call f vs) := by
  refine Att.attach_call hn hdf ?_
  intro w s₀ s₁ mg mb fa o pm cd doc a vs ns G Y ho hd hcd hmg hobj hints hlen hgens
  have kin := hY w _ Y
  obtain ⟨fd, hbd, hF⟩ := F w mg fa _ kin G.T.g hmg
  exact g_law kin G.T.g G.T.b G.T.builtins G.T.nolimit hgens hobj hints (Nat.le_trans hlen hn2) hr hF hbd (fun H hO hS => hsp w H a ns hlen hO hS) (fun H er s' => hCX w H s₁ er s')
end TP
/-! TPl: repr. -/
namespace TP
open PySem L2
section
variable {K : PySem.W.Frag} {E : Wish} {X : Cx} {e : Expr}
def rRepr (K : PySem.W.Frag) : List V → Hp → VK → Prop := fun xs H Q => ∃ x d, xs = [x] ∧ Dp K H x d ∧ d.canLay0 = true ∧ d.showable = true ∧ d.depth ≤ 190 ∧ d.shown.length ≤ sizeLine ∧ Q (.str d.shown) H
theorem call_repr (hu : X.A.units + 200 < cLine) (hq : X.A.guards = some []) : CallR X (.builtin "repr") (rRepr X.K) := by
  intro pins s σ H xs us Q I r h
  obtain ⟨x, d, rfl, hd, hl, hs, hdp, hz, q⟩ := h
  obtain ⟨u, rfl, ru⟩ := vals1 r
  obtain ⟨as, rd⟩ := Dp.reads I d x u hd ru
  have fin : ∀ h' t tk, (∀ b o, s.heap.get? b = some o → h'.get? b = some o) → EP X pins σ Q (.str d.shown t) { s with heap := h', toks := tk } := fun h' t tk hk => ⟨.str _, H, I.kept hk, ⟨_, rfl⟩, q⟩
  cases hd with
  | non => cases ru; exact PySem.P.repr_of_none (fin s.heap _ _ fun _ _ z => z)
  | bl b => cases ru; exact PySem.P.repr_of_bool (fin s.heap _ _ fun _ _ z => z)
  | int i =>
    obtain ⟨t, rfl⟩ := ru
    exact PySem.P.repr_of_int (by simpa [PyData.showable] using hs) (fin s.heap _ _ fun _ _ z => z)
  | str y =>
    obtain ⟨t, rfl⟩ := ru
    exact PySem.P.repr_of_str (fin s.heap _ _ fun _ _ z => z) (by simpa [PyData.shown] using hz)
  | lst h1 h2 =>
    cases ru
    exact repr_of_reads' rd hs (PyData.noDict_hsm (PyData.hasDict_of_canLay _ hl)) hq (by omega) (fun _ _ z => z) (fun h' t tk hk => fin h' t tk hk) hz
  | tup h1 h2 =>
    cases ru
    exact repr_of_reads' rd hs (PyData.noDict_hsm (PyData.hasDict_of_canLay _ hl)) hq (by omega) (fun _ _ z => z) (fun h' t tk hk => fin h' t tk hk) hz
/-- may it be shown -/
def shwD (y : D) : Bool := goodD y && (toPy y).showable && decide (dpD y ≤ 190) && decide ((toPy y).shown.length ≤ sizeLine)
def reprD (M : Store) (ds : List D) : Option Slot := match ds with
  | [x] => if shwD (derD M x) then some (.val (.str (toPy (derD M x)).shown)) else none
  | _ => none
theorem p_repr : PrimN K (rRepr K) reprD := by
  intro w vs ds s Q ok rl h k
  unfold reprD at h
  split at h
  · split at h
    · rename_i x hs
      cases h
      obtain ⟨v, rfl, rv⟩ := rl.one
      simp only [shwD, Bool.and_eq_true, decide_eq_true_eq] at hs
      obtain ⟨⟨⟨h1, h2⟩, h3⟩, h4⟩ := hs
      exact ⟨v, _, rfl, rv.dp ok h1, lay_py _ h1, h2, by rw [dp_py _ h1]; exact h3, h4, ans ok k fun _ _ => .str _⟩
    · cases h
  · cases h
end
theorem bt_repr : bootBuiltins "repr" = some (.builtin "repr") := by decide +kernel
theorem bt_sorted : bootBuiltins "sorted" = some (.builtin "sorted") := by decide +kernel
end TP
/-! TPx: the expressions of a program, plain. -/
namespace TP
open PySem L2
inductive Ex where
  | num (n : Int)
  | use (x : Str)
  | op (s : Str) (a b : Ex)
  | lt (x : Str) (a b : Ex)
  | ite (a b c : Ex)
  | times (a : Ex) (i s : Str) (b c : Ex)
  | tell (a b : Ex)
  | stop (a : Ex)
  | call (m f : Str) (as : List Ex)
namespace Ex
mutual
def toD : Ex → D
  | num n => .tup [.str "num", .int n]
  | use x => .tup [.str "use", .str x]
  | op s a b => .tup [.str "op", .str s, toD a, toD b]
  | lt x a b => .tup [.str "let", .str x, toD a, toD b]
  | ite a b c => .tup [.str "if", toD a, toD b, toD c]
  | times a i s b c => .tup [.str "times", toD a, .str i, .str s, toD b, toD c]
  | tell a b => .tup [.str "tell", toD a, toD b]
  | stop a => .tup [.str "stop", toD a]
  | call m f as => .tup [.str "call", .str m, .str f, .tup (toDs as)]
def toDs : List Ex → List D
  | [] => []
  | e :: es => toD e :: toDs es
end
def parts : Ex → List Ex
  | num _ => []
  | use _ => []
  | op _ a b => [a, b]
  | lt _ a b => [a, b]
  | ite a b c => [a, b, c]
  | times a _ _ b c => [a, b, c]
  | tell a b => [a, b]
  | stop a => [a]
  | call _ _ as => as
mutual
def dep : Ex → Nat
  | num _ => 0
  | use _ => 0
  | op _ a b => max (dep a) (dep b) + 1
  | lt _ a b => max (dep a) (dep b) + 1
  | ite a b c => max (dep a) (max (dep b) (dep c)) + 1
  | times a _ _ b c => max (dep a) (max (dep b) (dep c)) + 1
  | tell a b => max (dep a) (dep b) + 1
  | stop a => dep a + 1
  | call _ _ as => deps as + 1
def deps : List Ex → Nat
  | [] => 0
  | e :: es => max (dep e) (deps es)
end
theorem toDs_eq : ∀ es : List Ex, toDs es = es.map toD
  | [] => rfl
  | e :: es => by rw [toDs, toDs_eq es, List.map_cons]
theorem deps_mem : ∀ {es : List Ex} {e : Ex}, e ∈ es → dep e ≤ deps es
  | e' :: es, e, h => by
    rw [deps]
    rcases List.mem_cons.mp h with rfl | h
    · omega
    · have := deps_mem h; omega
theorem parts_dep {e p : Ex} (h : p ∈ parts e) : dep p < dep e := by
  cases e <;> simp only [parts, List.mem_cons, List.not_mem_nil, or_false] at h <;> simp only [dep]
  case op => rcases h with rfl | rfl <;> omega
  case lt => rcases h with rfl | rfl <;> omega
  case ite => rcases h with rfl | rfl | rfl <;> omega
  case times => rcases h with rfl | rfl | rfl <;> omega
  case tell => rcases h with rfl | rfl <;> omega
  case stop => subst h; omega
  case call => have := deps_mem h; omega
end Ex
@[simp] theorem ix0 {x : D} {xs : List D} : atI (x :: xs) 0 = some x := atI_nat (j := 0) rfl
@[simp] theorem ix1 {x y : D} {xs : List D} : atI (x :: y :: xs) 1 = some y := atI_nat (j := 1) rfl
@[simp] theorem ix2 {x y z : D} {xs : List D} : atI (x :: y :: z :: xs) 2 = some z := atI_nat (j := 2) rfl
@[simp] theorem ix3 {x y z u : D} {xs : List D} : atI (x :: y :: z :: u :: xs) 3 = some u := atI_nat (j := 3) rfl
@[simp] theorem ix4 {x y z u v : D} {xs : List D} : atI (x :: y :: z :: u :: v :: xs) 4 = some v := atI_nat (j := 4) rfl
@[simp] theorem ix5 {x y z u v a : D} {xs : List D} : atI (x :: y :: z :: u :: v :: a :: xs) 5 = some a := atI_nat (j := 5) rfl
theorem atI_mem {α : Type} {xs : List α} {i : Int} (h0 : 0 ≤ i) (h1 : i < xs.length) : ∃ v, v ∈ xs ∧ atI xs i = some v := by
  have hi : i.toNat < xs.length := by omega
  have e : ((i.toNat : Nat) : Int) = i := by omega
  generalize i.toNat = j at hi e
  subst e
  exact ⟨xs[j], List.getElem_mem hi, atI_nat (List.getElem?_eq_getElem hi)⟩
theorem atI_map {α β : Type} (f : α → β) (xs : List α) (i : Int) : atI (xs.map f) i = (atI xs i).map f := by
  unfold atI
  rw [List.length_map]
  cases ixN xs.length i with
  | none => rfl
  | some j => simp
theorem set_set {M : Store} {j : Nat} {a b : MO} : (M.set j a).set j b = M.set j b := List.set_set ..
theorem get_set {M : Store} {j : Nat} {a b : MO} (h : M[j]? = some a) : (M.set j b)[j]? = some b := List.getElem?_set_self (List.getElem?_eq_some_iff.mp h).1
theorem get_app {M M' : Store} {j : Nat} {a : MO} (h : M[j]? = some a) : (M ++ M')[j]? = some a := by
  rw [List.getElem?_append_left (List.getElem?_eq_some_iff.mp h).1]; exact h
theorem set_self {M : Store} {j : Nat} {a : MO} (h : M[j]? = some a) : M.set j a = M := by
  apply List.ext_getElem?
  intro i
  by_cases hi : j = i
  · subst hi; rw [get_set h, h]
  · rw [List.getElem?_set_ne hi]
theorem at_end (M : Store) (o : MO) : (M ++ [o])[M.length]? = some o := by
  rw [List.getElem?_append_right (Nat.le_refl _), Nat.sub_self]; rfl
theorem set_end (M : Store) (o p : MO) : (M ++ [o]).set M.length p = M ++ [p] := by
  rw [List.set_append_right _ _ (Nat.le_refl _), Nat.sub_self]; rfl
/-- of two words that are written out -/
theorem eqW {s t : Str} {b : Bool} (h : (okStr s && okStr t && (decide (s = t) == b)) = true) (M : Store) : eqD M (.str s) (.str t) = some (.val (.bl b)) := by
  simp only [Bool.and_eq_true, beq_iff_eq] at h
  rw [eqD_str M h.1.1 h.1.2, h.2]
end TP
/-! TPy: drawn expressions, plain. -/
namespace TP
open PySem L2
def signs : List Str := ["+", "-", "*", "=", "<", "/", "&"]
namespace Ex
mutual
/-- well formed: numbers, names, binders and calls as drawn -/
def Wf (nm : Str → Prop) (ah : Str → Str → Nat → Prop) : List Str → Ex → Prop
  | sc, num n => -(10 ^ 30) ≤ n ∧ n ≤ 10 ^ 30
  | sc, use x => x ∈ sc
  | sc, op s a b => s ∈ signs ∧ Wf nm ah sc a ∧ Wf nm ah sc b
  | sc, lt x a b => nm x ∧ Wf nm ah sc a ∧ Wf nm ah (x :: sc) b
  | sc, ite a b c => Wf nm ah sc a ∧ Wf nm ah sc b ∧ Wf nm ah sc c
  | sc, times a i s b c => nm i ∧ nm s ∧ i ≠ s ∧ Wf nm ah sc a ∧ Wf nm ah sc b ∧ Wf nm ah (i :: s :: sc) c
  | sc, tell a b => Wf nm ah sc a ∧ Wf nm ah sc b
  | sc, stop a => Wf nm ah sc a
  | sc, call m f as => ah m f as.length ∧ Wfs nm ah sc as
def Wfs (nm : Str → Prop) (ah : Str → Str → Nat → Prop) : List Str → List Ex → Prop
  | sc, [] => True
  | sc, e :: es => Wf nm ah sc e ∧ Wfs nm ah sc es
end
mutual
theorem Wf.mono {nm : Str → Prop} {ah ah' : Str → Str → Nat → Prop} (ha : ∀ m f n, ah m f n → ah' m f n) : ∀ (e : Ex) (sc sc' : List Str), (∀ x, x ∈ sc → x ∈ sc') → Wf nm ah sc e → Wf nm ah' sc' e
  | num n, _, _, _, h => by rw [Wf] at *; exact h
  | use x, _, _, hs, h => by rw [Wf] at *; exact hs _ h
  | op s a b, sc, sc', hs, h => by rw [Wf] at *; exact ⟨h.1, Wf.mono ha a _ _ hs h.2.1, Wf.mono ha b _ _ hs h.2.2⟩
  | lt x a b, sc, sc', hs, h => by
    rw [Wf] at *
    refine ⟨h.1, Wf.mono ha a _ _ hs h.2.1, Wf.mono ha b _ _ (fun y hy => ?_) h.2.2⟩
    rcases List.mem_cons.mp hy with rfl | hy
    · exact List.mem_cons_self
    · exact List.mem_cons_of_mem _ (hs _ hy)
  | ite a b c, sc, sc', hs, h => by rw [Wf] at *; exact ⟨Wf.mono ha a _ _ hs h.1, Wf.mono ha b _ _ hs h.2.1, Wf.mono ha c _ _ hs h.2.2⟩
  | times a i s b c, sc, sc', hs, h => by
    rw [Wf] at *
    refine ⟨h.1, h.2.1, h.2.2.1, Wf.mono ha a _ _ hs h.2.2.2.1, Wf.mono ha b _ _ hs h.2.2.2.2.1, Wf.mono ha c _ _ (fun y hy => ?_) h.2.2.2.2.2⟩
    rcases List.mem_cons.mp hy with rfl | hy
    · exact List.mem_cons_self
    · rcases List.mem_cons.mp hy with rfl | hy
      · exact List.mem_cons_of_mem _ List.mem_cons_self
      · exact List.mem_cons_of_mem _ (List.mem_cons_of_mem _ (hs _ hy))
  | tell a b, sc, sc', hs, h => by rw [Wf] at *; exact ⟨Wf.mono ha a _ _ hs h.1, Wf.mono ha b _ _ hs h.2⟩
  | stop a, sc, sc', hs, h => by rw [Wf] at *; exact Wf.mono ha a _ _ hs h
  | call m f as, sc, sc', hs, h => by rw [Wf] at *; exact ⟨ha _ _ _ h.1, Wfs.mono ha as _ _ hs h.2⟩
theorem Wfs.mono {nm : Str → Prop} {ah ah' : Str → Str → Nat → Prop} (ha : ∀ m f n, ah m f n → ah' m f n) : ∀ (es : List Ex) (sc sc' : List Str), (∀ x, x ∈ sc → x ∈ sc') → Wfs nm ah sc es → Wfs nm ah' sc' es
  | [], _, _, _, h => by rw [Wfs]; trivial
  | e :: es, sc, sc', hs, h => by rw [Wfs] at *; exact ⟨Wf.mono ha e _ _ hs h.1, Wfs.mono ha es _ _ hs h.2⟩
end
end Ex
/-! ### the names -/
def pools : List (List Str) := [["q", "z", "b", "m", "x", "k", "c", "w", "h", "v", "j", "p", "g", "y", "l", "d"],
  ["nqor", "nzor", "nbor", "nmor", "nxor", "nkor", "ncor", "nwor", "nhor", "nvor", "njor", "npor", "ngor", "nyor", "nlor", "ndor"],
  ["g", "gr", "gra", "grap", "graph", "graphi", "graphit", "graphite", "s", "sa", "san", "sand", "sandw", "sandwi", "sandwic", "sandwich"]]
def pool (n : Int) : List Str := (atI pools (n % 3)).getD []
def spotAt (n k : Int) : Int := (n / 3 + (2 * (n / 48 % 8) + 1) * k) % 16
def nameAt (n k : Int) : Str := (atI (pool n) (spotAt n k)).getD ""
def namesL (n : Int) : List Str := (List.range 16).map fun k => nameAt n (k : Nat)
theorem pool_mem (n : Int) : pool n ∈ pools ∧ atI pools (n % 3) = some (pool n) := by
  obtain ⟨p, hp, ha⟩ := atI_mem (xs := pools) (i := n % 3) (by omega) (by show _ < (3 : Int); omega)
  unfold pool
  rw [ha]
  exact ⟨hp, rfl⟩
theorem pool_len (n : Int) : (pool n).length = 16 := by
  have h : pools.all (fun p => p.length == 16) = true := by decide +kernel
  simpa using List.all_eq_true.mp h _ (pool_mem n).1
theorem nameAt_mem (n k : Int) : nameAt n k ∈ pool n ∧ atI (pool n) (spotAt n k) = some (nameAt n k) := by
  obtain ⟨p, hp, ha⟩ := atI_mem (xs := pool n) (i := spotAt n k) (by unfold spotAt; omega) (by rw [pool_len]; unfold spotAt; omega)
  unfold nameAt
  rw [ha]
  exact ⟨hp, rfl⟩
theorem pools_ok : pools.all (fun p => p.all fun x => okStr x && decide (x.length ≤ 8)) = true := by decide +kernel
theorem nameAt_ok (n k : Int) : okStr (nameAt n k) = true := by
  have := List.all_eq_true.mp (List.all_eq_true.mp pools_ok _ (pool_mem n).1) _ (nameAt_mem n k).1
  simp only [Bool.and_eq_true] at this
  exact this.1
theorem namesL_len (n : Int) : (namesL n).length = 16 := by unfold namesL; rw [List.length_map, List.length_range]
theorem namesL_ok {n : Int} {x : Str} (h : x ∈ namesL n) : okStr x = true := by
  unfold namesL at h
  obtain ⟨k, _, rfl⟩ := List.mem_map.mp h
  exact nameAt_ok _ _
theorem namesL_at {n i : Int} (h0 : 0 ≤ i) (h1 : i < 16) : atI ((namesL n).map D.str) i = some (.str (nameAt n i)) := by
  have e : ((i.toNat : Nat) : Int) = i := by omega
  have hi : i.toNat < 16 := by omega
  generalize i.toNat = j at e hi
  subst e
  refine atI_nat ?_
  unfold namesL
  rw [List.getElem?_map, List.getElem?_map, List.getElem?_range hi]
  rfl
theorem nameAt_names {n i : Int} (h0 : 0 ≤ i) (h1 : i < 16) : nameAt n i ∈ namesL n := by
  unfold namesL
  refine List.mem_map.mpr ⟨i.toNat, List.mem_range.mpr (by omega), ?_⟩
  rw [show ((i.toNat : Nat) : Int) = i by omega]
theorem lcGo_fmap {α : Type} {b : D → EnvD → Option EnvD} {c : FB} {f : FD} {ρ0 : EnvD} {M : Store} (t : α → D) (p : α → Bool) (g : α → D) : ∀ (xs : List α) (acc : List D),
    (∀ x ∈ xs, ∃ ρ1, b (t x) ρ0 = some ρ1 ∧ c ρ1 M = .ok (p x) M ∧ (p x = true → f ρ1 M = .ok (g x) M)) → acc.length + xs.length ≤ sizeLine → lcGo b c f ρ0 (xs.map t) acc M = .ok (acc ++ (xs.filter p).map g) M
  | [], acc, _, _ => by simp [lcGo]
  | x :: xs, acc, h, hl => by
    obtain ⟨ρ1, h1, h2, h3⟩ := h x List.mem_cons_self
    rw [List.map_cons]
    unfold lcGo
    rw [h1]
    simp only
    rw [h2]
    rw [List.length_cons] at hl
    cases hp : p x with
    | false =>
      simp only
      rw [lcGo_fmap t p g xs acc (fun y hy => h y (List.mem_cons_of_mem _ hy)) (by omega), List.filter_cons_of_neg (by rw [hp]; decide)]
    | true =>
      simp only
      rw [h3 hp]
      simp only
      rw [if_pos (by omega), lcGo_fmap t p g xs (acc ++ [g x]) (fun y hy => h y (List.mem_cons_of_mem _ hy)) (by rw [List.length_append, List.length_singleton]; omega), List.filter_cons_of_pos hp, List.map_cons, List.append_assoc]
      rfl
namespace Ex
mutual
/-- how many expressions -/
def cnt : Ex → Nat
  | num _ => 1
  | use _ => 1
  | op _ a b => cnt a + cnt b + 1
  | lt _ a b => cnt a + cnt b + 1
  | ite a b c => cnt a + cnt b + cnt c + 1
  | times a _ _ b c => cnt a + cnt b + cnt c + 1
  | tell a b => cnt a + cnt b + 1
  | stop a => cnt a + 1
  | call _ _ as => cnts as + 1
def cnts : List Ex → Nat
  | [] => 0
  | e :: es => cnt e + cnts es
end
theorem cnts_le {n : Nat} : ∀ {es : List Ex}, (∀ e ∈ es, cnt e ≤ n) → cnts es ≤ es.length * n
  | [], _ => by rw [cnts]; omega
  | e :: es, h => by
    have h1 := h e List.mem_cons_self
    have h2 := cnts_le (es := es) fun x hx => h x (List.mem_cons_of_mem _ hx)
    rw [cnts, List.length_cons, Nat.succ_mul]
    omega
theorem Wfs_of {nm : Str → Prop} {ah : Str → Str → Nat → Prop} {sc : List Str} : ∀ {es : List Ex}, (∀ e ∈ es, Wf nm ah sc e) → Wfs nm ah sc es
  | [], _ => by rw [Wfs]; trivial
  | e :: es, h => by rw [Wfs]; exact ⟨h e List.mem_cons_self, Wfs_of fun x hx => h x (List.mem_cons_of_mem _ hx)⟩
theorem Wfs_mem {nm : Str → Prop} {ah : Str → Str → Nat → Prop} {sc : List Str} : ∀ {es : List Ex} {e : Ex}, Wfs nm ah sc es → e ∈ es → Wf nm ah sc e
  | e' :: es, e, h, hm => by
    rw [Wfs] at h
    rcases List.mem_cons.mp hm with rfl | hm
    · exact h.1
    · exact Wfs_mem h.2 hm
theorem deps_le {n : Nat} : ∀ {es : List Ex}, (∀ e ∈ es, dep e ≤ n) → deps es ≤ n
  | [], _ => by rw [deps]; omega
  | e :: es, h => by
    have h1 := h e List.mem_cons_self
    have h2 := deps_le (es := es) fun x hx => h x (List.mem_cons_of_mem _ hx)
    rw [deps]
    omega
end Ex
theorem spot_inj {n i j : Int} (hi : 0 ≤ i) (hi2 : i < 16) (hj : 0 ≤ j) (hj2 : j < 16) (h : spotAt n i = spotAt n j) : i = j := by
  unfold spotAt at h
  have hb : n / 48 % 8 = 0 ∨ n / 48 % 8 = 1 ∨ n / 48 % 8 = 2 ∨ n / 48 % 8 = 3 ∨ n / 48 % 8 = 4 ∨ n / 48 % 8 = 5 ∨ n / 48 % 8 = 6 ∨ n / 48 % 8 = 7 := by omega
  generalize n / 3 = x at h
  rcases hb with hb | hb | hb | hb | hb | hb | hb | hb <;> rw [hb] at h <;> omega
theorem pools_nodup : pools.all (fun p => decide p.Nodup) = true := by decide +kernel
theorem atI_inj {α : Type} {xs : List α} (hn : xs.Nodup) {i j : Int} (hi : 0 ≤ i) (hi2 : i < xs.length) (hj : 0 ≤ j) (hj2 : j < xs.length) (h : atI xs i = atI xs j) : i = j := by
  have ei : ((i.toNat : Nat) : Int) = i := by omega
  have ej : ((j.toNat : Nat) : Int) = j := by omega
  have li : i.toNat < xs.length := by omega
  have lj : j.toNat < xs.length := by omega
  generalize i.toNat = a at ei li
  generalize j.toNat = b at ej lj
  subst ei ej
  rw [atI_nat (List.getElem?_eq_getElem li), atI_nat (List.getElem?_eq_getElem lj)] at h
  have := (List.getElem_inj hn).mp (Option.some.inj h)
  omega
theorem nameAt_inj {n i j : Int} (hi : 0 ≤ i) (hi2 : i < 16) (hj : 0 ≤ j) (hj2 : j < 16) (h : nameAt n i = nameAt n j) : i = j := by
  have h1 := (nameAt_mem n i).2
  have h2 := (nameAt_mem n j).2
  rw [h, ← h2] at h1
  have hn : (pool n).Nodup := by simpa using List.all_eq_true.mp pools_nodup _ (pool_mem n).1
  refine spot_inj hi hi2 hj hj2 (atI_inj hn ?_ ?_ ?_ ?_ h1) <;> (try rw [pool_len]) <;> unfold spotAt <;> omega
end TP
/-! TPz: programs, plain. -/
namespace TP
open PySem L2
structure Row where
  f : Str
  ps : List Str
  b : Ex
def Row.toD (r : Row) : D := .tup [.str r.f, .tup (r.ps.map .str), r.b.toD]
abbrev Pr := List (Str × List Row)
def rmD (m : Str × List Row) : D := .tup [.str m.1, .tup (m.2.map Row.toD)]
def pgD (P : Pr) : D := .tup (P.map rmD)
def flat : Pr → List (Str × Row)
  | [] => []
  | (m, rs) :: P => rs.map (fun r => (m, r)) ++ flat P
theorem itemsD_lst (ds : List D) : itemsD (.lst ds) = some ds := rfl
theorem itemsD_tup (ds : List D) : itemsD (.tup ds) = some ds := rfl
theorem itemsD_fro (ds : List D) : itemsD (.fro ds) = some ds := rfl
theorem itemsD_kt (ds : List D) : itemsD (.kt ds) = some ds := rfl
theorem itemsD_pg (P : Pr) : itemsD (pgD P) = some (P.map rmD) := rfl
theorem flat_append : ∀ (P Q : Pr), flat (P ++ Q) = flat P ++ flat Q
  | [], Q => rfl
  | (m, rs) :: P, Q => by rw [List.cons_append, flat, flat, flat_append P Q, List.append_assoc]
def fnD (x : Str × Row) : D := .tup [.str x.1, .str x.2.f, .tup (x.2.ps.map .str), x.2.b.toD]
theorem row_add (M : Store) (m : Str) (r : Row) : addD M (.tup [.str m]) r.toD = some (.val (fnD (m, r))) := by simp [Row.toD, addD, fnD]
/-- the functions of a row, with how many params -/
def rowP (xs : List (Str × Row)) (m f : Str) (k : Nat) : Prop := ∃ x ∈ xs, x.1 = m ∧ x.2.f = f ∧ x.2.ps.length = k
/-- one function behind others, as drawn -/
structure RowWf (n : Int) (pre : List (Str × Row)) (x : Str × Row) : Prop where
  nd : x.2.ps.Nodup
  len : x.2.ps.length ≤ 3
  ps : ∀ y ∈ x.2.ps, y ∈ namesL n
  wf : Ex.Wf (· ∈ namesL n) (rowP pre) x.2.ps x.2.b
  dep : x.2.b.dep ≤ 5
  cnt : x.2.b.cnt ≤ 7776
  m : x.1 ∈ namesL (n / 7)
  f : x.2.f ∈ namesL (n / 7)
/-- all functions, one behind the other -/
def RowsWf (n : Int) : List (Str × Row) → List (Str × Row) → Prop
  | _, [] => True
  | pre, x :: xs => RowWf n pre x ∧ RowsWf n (pre ++ [x]) xs
theorem RowsWf.snoc {n : Int} {x : Str × Row} : ∀ {xs pre : List (Str × Row)}, RowsWf n pre xs → RowWf n (pre ++ xs) x → RowsWf n pre (xs ++ [x])
  | [], pre, _, h => by
    rw [List.append_nil] at h
    exact ⟨h, True.intro⟩
  | y :: xs, pre, h, hx => by
    refine ⟨h.1, RowsWf.snoc h.2 ?_⟩
    rw [List.append_assoc]
    exact hx
theorem RowWf.mono {n : Int} {pre pre' : List (Str × Row)} {x : Str × Row} (h : RowWf n pre x) (hp : ∀ y ∈ pre, y ∈ pre') : RowWf n pre' x :=
  ⟨h.nd, h.len, h.ps, Ex.Wf.mono (fun m f k ⟨y, hy, e⟩ => ⟨y, hp y hy, e⟩) _ _ _ (fun _ z => z) h.wf, h.dep, h.cnt, h.m, h.f⟩
theorem RowsWf.mem {n : Int} {x : Str × Row} : ∀ {xs pre : List (Str × Row)}, RowsWf n pre xs → x ∈ xs → RowWf n (pre ++ xs) x
  | y :: xs, pre, h, hm => by
    rcases List.mem_cons.mp hm with rfl | hm
    · exact h.1.mono fun z hz => List.mem_append_left _ hz
    · have := RowsWf.mem h.2 hm
      rw [List.append_assoc] at this
      exact this
/-- a drawn program -/
structure PrWf (n : Int) (most : Nat) (P : Pr) : Prop where
  rows : RowsWf n [] (flat P)
  mods : (P.map (·.1)).Nodup
  names : ∀ q ∈ P, (q.2.map Row.f).Nodup ∧ q.1 ∈ namesL (n / 7)
  len : P.length ≤ 3
  each : ∀ q ∈ P, q.2.length ≤ max 1 most
  one : ∃ q Q, P = q :: Q ∧ q.2 ≠ []
theorem flat_len {k : Nat} : ∀ {P : Pr}, (∀ q ∈ P, q.2.length ≤ k) → (flat P).length ≤ P.length * k
  | [], _ => by rw [flat]; exact Nat.zero_le _
  | (m, rs) :: P, h => by
    have h1 : rs.length ≤ k := h (m, rs) List.mem_cons_self
    have h2 := flat_len (P := P) fun q hq => h q (List.mem_cons_of_mem _ hq)
    rw [flat, List.length_append, List.length_map, List.length_cons, Nat.succ_mul]
    omega
theorem set_app {M X : Store} {j : Nat} {o : MO} (h : j < M.length) : (M ++ X).set j o = M.set j o ++ X := by
  rw [List.set_append_left _ _ h]
namespace Ex
/-- where the parts stand in the tuple, but a call's -/
def spots : Ex → List Int
  | num _ => []
  | use _ => []
  | op _ _ _ => [2, 3]
  | lt _ _ _ => [2, 3]
  | ite _ _ _ => [1, 2, 3]
  | times _ _ _ _ _ => [1, 4, 5]
  | tell _ _ => [1, 2]
  | stop _ => [1]
  | call _ _ _ => []
mutual
/-- the rows of numbers of all parts -/
def rows : Ex → List (List Nat)
  | num _ => [[]]
  | use _ => [[]]
  | op _ a b => [] :: ((rows a).map (0 :: ·) ++ ((rows b).map (1 :: ·) ++ []))
  | lt _ a b => [] :: ((rows a).map (0 :: ·) ++ ((rows b).map (1 :: ·) ++ []))
  | ite a b c => [] :: ((rows a).map (0 :: ·) ++ ((rows b).map (1 :: ·) ++ ((rows c).map (2 :: ·) ++ [])))
  | times a _ _ b c => [] :: ((rows a).map (0 :: ·) ++ ((rows b).map (1 :: ·) ++ ((rows c).map (2 :: ·) ++ [])))
  | tell a b => [] :: ((rows a).map (0 :: ·) ++ ((rows b).map (1 :: ·) ++ []))
  | stop a => [] :: ((rows a).map (0 :: ·) ++ [])
  | call _ _ as => [] :: rowsL 0 as
def rowsL : Nat → List Ex → List (List Nat)
  | _, [] => []
  | k, e :: es => (rows e).map (k :: ·) ++ rowsL (k + 1) es
end
theorem rows_eq (e : Ex) : rows e = [] :: rowsL 0 e.parts := by
  cases e <;> simp [rows, rowsL, parts]
/-- the expression at a row -/
def sub : Ex → List Nat → Option Ex
  | e, [] => some e
  | e, i :: r => match e.parts[i]? with
    | some p => sub p r
    | none => none
theorem rowsL_sub : ∀ {es : List Ex} {k : Nat} {r : List Nat}, r ∈ rowsL k es → ∃ (i : Nat) (p : Ex) (r' : List Nat), r = (k + i) :: r' ∧ es[i]? = some p ∧ r' ∈ rows p
  | e :: es, k, r, h => by
    rw [rowsL] at h
    rcases List.mem_append.mp h with h | h
    · obtain ⟨r', hr, rfl⟩ := List.mem_map.mp h
      exact ⟨0, e, r', rfl, rfl, hr⟩
    · obtain ⟨i, p, r', rfl, h1, h2⟩ := rowsL_sub h
      exact ⟨i + 1, p, r', by rw [Nat.add_assoc, Nat.add_comm 1], by simpa using h1, h2⟩
theorem rows_sub : ∀ (n : Nat) {e : Ex} {r : List Nat}, e.dep ≤ n → r ∈ rows e → ∃ p, sub e r = some p
  | n, e, r, hn, h => by
    rw [rows_eq] at h
    rcases List.mem_cons.mp h with rfl | h
    · exact ⟨e, by rw [sub]⟩
    · obtain ⟨i, p, r', rfl, h1, h2⟩ := rowsL_sub h
      have hd := parts_dep (List.mem_of_getElem? h1)
      obtain ⟨m, rfl⟩ : ∃ m, n = m + 1 := ⟨n - 1, by omega⟩
      obtain ⟨q, hq⟩ := rows_sub m (by omega) h2
      refine ⟨q, ?_⟩
      rw [sub, Nat.zero_add, h1]
      exact hq
theorem sub_dep : ∀ {r : List Nat} {e p : Ex}, sub e r = some p → p.dep ≤ e.dep
  | [], e, p, h => by rw [sub] at h; cases h; exact Nat.le_refl _
  | i :: r, e, p, h => by
    rw [sub] at h
    split at h
    · rename_i q hq
      have := parts_dep (List.mem_of_getElem? hq)
      have := sub_dep h
      omega
    · cases h
theorem rowsL_len : ∀ (es : List Ex) (k : Nat), (∀ e ∈ es, (rows e).length = cnt e) → (rowsL k es).length = cnts es
  | [], k, _ => by rw [rowsL, cnts]; rfl
  | e :: es, k, h => by
    rw [rowsL, cnts, List.length_append, List.length_map, h e List.mem_cons_self, rowsL_len es (k + 1) fun x hx => h x (List.mem_cons_of_mem _ hx)]
theorem cnt_eq (e : Ex) : cnt e = 1 + cnts e.parts := by
  cases e <;> simp only [cnt, cnts, parts] <;> omega
theorem rows_len : ∀ (n : Nat) {e : Ex}, e.dep ≤ n → (rows e).length = cnt e
  | n, e, hn => by
    rw [rows_eq, List.length_cons, cnt_eq, rowsL_len e.parts 0 fun p hp => ?_, Nat.add_comm]
    have hd := parts_dep hp
    obtain ⟨m, rfl⟩ : ∃ m, n = m + 1 := ⟨n - 1, by omega⟩
    exact rows_len m (by omega)
theorem cnts_mem : ∀ {es : List Ex} {e : Ex}, e ∈ es → cnt e ≤ cnts es
  | e' :: es, e, h => by
    rw [cnts]
    rcases List.mem_cons.mp h with rfl | h
    · omega
    · have := cnts_mem h; omega
theorem parts_cnt {e p : Ex} (h : p ∈ e.parts) : cnt p < cnt e := by
  rw [cnt_eq e]
  have := cnts_mem h
  omega
theorem parts_len {e : Ex} : e.parts.length ≤ cnt e := by
  rw [cnt_eq]
  have : ∀ es : List Ex, es.length ≤ cnts es := fun es => by
    induction es with
    | nil => simp
    | cons e es ih =>
      rw [cnts, List.length_cons]
      have : 1 ≤ cnt e := by rw [cnt_eq]; omega
      omega
  have := this e.parts
  omega
end Ex
def rowD (r : List Nat) : D := .tup (r.map fun i => .int (i : Nat))
def enumF : Nat → List D → List D
  | _, [] => []
  | k, d :: ds => .tup [.int (k : Nat), d] :: enumF (k + 1) ds
theorem enumF_eq : ∀ (ds : List D) (k : Nat), ((List.range ds.length).map fun i => D.tup [.int ((k + i : Nat) : Int), ds.getD i .non]) = enumF k ds
  | [], k => rfl
  | d :: ds, k => by
    rw [List.length_cons, List.range_succ_eq_map, List.map_cons, enumF, ← enumF_eq ds (k + 1), List.map_map]
    congr 1
    apply List.map_congr_left
    intro i _
    show D.tup [.int ((k + (i + 1) : Nat) : Int), (d :: ds).getD (i + 1) .non] = _
    rw [show k + (i + 1) = k + 1 + i by omega]
    rfl
theorem enumL_eq (ds : List D) : enumL ds = enumF 0 ds := by
  rw [← enumF_eq]
  unfold enumL
  apply List.map_congr_left
  intro i _
  rw [Nat.zero_add]
theorem lcGo_mp {α : Type} {b : D → EnvD → Option EnvD} {f : FD} {ρ0 : EnvD} {M : Store} (t : α → D) (g : α → D) (xs : List α) (h : ∀ x ∈ xs, ∃ ρ1, b (t x) ρ0 = some ρ1 ∧ f ρ1 M = .ok (g x) M) (hl : xs.length ≤ 1000000) :
    lcGo b dYes f ρ0 (xs.map t) [] M = .ok (xs.map g) M := by
  have := lcGo_fmap (b := b) (c := dYes) (f := f) (ρ0 := ρ0) (M := M) t (fun _ => true) g xs [] (fun x hx => by
    obtain ⟨ρ1, h1, h2⟩ := h x hx
    exact ⟨ρ1, h1, rfl, fun _ => h2⟩) (by rw [szL, List.length_nil]; omega)
  rw [this, List.filter_eq_self.mpr (fun _ _ => rfl), List.nil_append]
namespace Ex
theorem rowsL_lens : ∀ {es : List Ex} {k n : Nat} {r : List Nat}, (∀ e ∈ es, ∀ r ∈ rows e, r.length ≤ n) → r ∈ rowsL k es → r.length ≤ n + 1
  | es, k, n, r, h, hr => by
    obtain ⟨i, p, r', rfl, h1, h2⟩ := rowsL_sub hr
    rw [List.length_cons]
    have := h p (List.mem_of_getElem? h1) r' h2
    omega
theorem rows_lens : ∀ (n : Nat) {e : Ex} {r : List Nat}, e.dep ≤ n → r ∈ rows e → r.length ≤ n
  | n, e, r, hn, h => by
    rw [rows_eq] at h
    rcases List.mem_cons.mp h with rfl | h
    · exact Nat.zero_le _
    · obtain ⟨i, p, r', rfl, h1, h2⟩ := rowsL_sub h
      have hd := parts_dep (List.mem_of_getElem? h1)
      obtain ⟨m, rfl⟩ : ∃ m, n = m + 1 := ⟨n - 1, by omega⟩
      have := rows_lens m (by omega) h2
      rw [List.length_cons]
      omega
end Ex
section
variable {κ : Type} [DecidableEq κ]
theorem look_cons (p : κ × D) (kvs : List (κ × D)) (k : κ) : lookD (p :: kvs) k = if p.1 = k then some p.2 else lookD kvs k := by
  unfold lookD
  rw [List.find?_cons]
  by_cases h : p.1 = k
  · rw [decide_eq_true h, if_pos h]; rfl
  · rw [decide_eq_false h, if_neg h]
theorem look_map : ∀ (kvs : List (κ × D)) (k k' : κ) (v : D), lookD (kvs.map fun kv => if kv.1 = k then (kv.1, v) else kv) k' = if k = k' ∧ (kvs.any fun kv => decide (kv.1 = k)) = true then some v else lookD kvs k'
  | [], k, k', v => by simp [lookD]
  | p :: kvs, k, k', v => by
    rw [List.map_cons, look_cons, look_cons, look_map kvs k k' v, List.any_cons]
    by_cases h1 : p.1 = k
    · by_cases h2 : k = k'
      · simp [h1, h2]
      · simp [h1, h2]
    · by_cases h2 : k = k'
      · subst h2
        simp only [if_neg h1, decide_eq_false h1, Bool.false_or]
      · simp [h1, h2]
theorem look_none : ∀ (kvs : List (κ × D)) (k : κ), ¬ (kvs.any fun kv => decide (kv.1 = k)) = true → lookD kvs k = none
  | [], _, _ => rfl
  | p :: kvs, k, h => by
    rw [List.any_cons, Bool.or_eq_true, not_or] at h
    rw [look_cons, if_neg (by simpa using h.1), look_none kvs k h.2]
theorem look_app : ∀ (a b : List (κ × D)) (k : κ), lookD (a ++ b) k = (lookD a k).or (lookD b k)
  | [], b, k => rfl
  | p :: a, b, k => by
    rw [List.cons_append, look_cons, look_cons, look_app a b k]
    split <;> rfl
theorem look_put (kvs : List (κ × D)) (k k' : κ) (v : D) : lookD (putD kvs k v) k' = if k = k' then some v else lookD kvs k' := by
  unfold putD
  split
  · rename_i h
    rw [look_map]
    simp only [h, and_true]
  · rename_i h
    rw [look_app, look_cons]
    by_cases hk : k = k'
    · subst hk
      rw [look_none kvs k h]
      simp
    · simp only [if_neg hk]
      show (lookD kvs k').or none = _
      rw [Option.or_none]
end
theorem mem_flat : ∀ {P : Pr} {q : Str × List Row} {r : Row}, q ∈ P → r ∈ q.2 → (q.1, r) ∈ flat P
  | (m, rs) :: P, q, r, hq, hr => by
    rw [flat]
    rcases List.mem_cons.mp hq with rfl | hq
    · exact List.mem_append_left _ (List.mem_map.mpr ⟨r, hr, rfl⟩)
    · exact List.mem_append_right _ (mem_flat hq hr)
end TP
/-! TPw: words that are written out. -/
namespace TP
open PySem L2
theorem neW {s t : Str} {b : Bool} (h : (okStr s && okStr t && (decide (s = t) == b)) = true) (M : Store) : neD M (.str s) (.str t) = some (.val (.bl !b)) := by
  simp only [Bool.and_eq_true, beq_iff_eq] at h
  rw [neD_str M h.1.1 h.1.2, h.2]
@[simp] theorem ew0 (M : Store) : eqD M (.str "num") (.str "num") = some (.val (.bl true)) := eqW (by decide +kernel) M
@[simp] theorem nw0 (M : Store) : neD M (.str "num") (.str "num") = some (.val (.bl (!true))) := neW (by decide +kernel) M
@[simp] theorem ew1 (M : Store) : eqD M (.str "num") (.str "use") = some (.val (.bl false)) := eqW (by decide +kernel) M
@[simp] theorem nw1 (M : Store) : neD M (.str "num") (.str "use") = some (.val (.bl (!false))) := neW (by decide +kernel) M
@[simp] theorem ew2 (M : Store) : eqD M (.str "num") (.str "op") = some (.val (.bl false)) := eqW (by decide +kernel) M
@[simp] theorem nw2 (M : Store) : neD M (.str "num") (.str "op") = some (.val (.bl (!false))) := neW (by decide +kernel) M
@[simp] theorem ew3 (M : Store) : eqD M (.str "num") (.str "let") = some (.val (.bl false)) := eqW (by decide +kernel) M
@[simp] theorem nw3 (M : Store) : neD M (.str "num") (.str "let") = some (.val (.bl (!false))) := neW (by decide +kernel) M
@[simp] theorem ew4 (M : Store) : eqD M (.str "num") (.str "if") = some (.val (.bl false)) := eqW (by decide +kernel) M
@[simp] theorem nw4 (M : Store) : neD M (.str "num") (.str "if") = some (.val (.bl (!false))) := neW (by decide +kernel) M
@[simp] theorem ew5 (M : Store) : eqD M (.str "num") (.str "times") = some (.val (.bl false)) := eqW (by decide +kernel) M
@[simp] theorem nw5 (M : Store) : neD M (.str "num") (.str "times") = some (.val (.bl (!false))) := neW (by decide +kernel) M
@[simp] theorem ew6 (M : Store) : eqD M (.str "num") (.str "tell") = some (.val (.bl false)) := eqW (by decide +kernel) M
@[simp] theorem nw6 (M : Store) : neD M (.str "num") (.str "tell") = some (.val (.bl (!false))) := neW (by decide +kernel) M
@[simp] theorem ew7 (M : Store) : eqD M (.str "num") (.str "stop") = some (.val (.bl false)) := eqW (by decide +kernel) M
@[simp] theorem nw7 (M : Store) : neD M (.str "num") (.str "stop") = some (.val (.bl (!false))) := neW (by decide +kernel) M
@[simp] theorem ew8 (M : Store) : eqD M (.str "num") (.str "call") = some (.val (.bl false)) := eqW (by decide +kernel) M
@[simp] theorem nw8 (M : Store) : neD M (.str "num") (.str "call") = some (.val (.bl (!false))) := neW (by decide +kernel) M
@[simp] theorem ew9 (M : Store) : eqD M (.str "use") (.str "num") = some (.val (.bl false)) := eqW (by decide +kernel) M
@[simp] theorem nw9 (M : Store) : neD M (.str "use") (.str "num") = some (.val (.bl (!false))) := neW (by decide +kernel) M
@[simp] theorem ew10 (M : Store) : eqD M (.str "use") (.str "use") = some (.val (.bl true)) := eqW (by decide +kernel) M
@[simp] theorem nw10 (M : Store) : neD M (.str "use") (.str "use") = some (.val (.bl (!true))) := neW (by decide +kernel) M
@[simp] theorem ew11 (M : Store) : eqD M (.str "use") (.str "op") = some (.val (.bl false)) := eqW (by decide +kernel) M
@[simp] theorem nw11 (M : Store) : neD M (.str "use") (.str "op") = some (.val (.bl (!false))) := neW (by decide +kernel) M
@[simp] theorem ew12 (M : Store) : eqD M (.str "use") (.str "let") = some (.val (.bl false)) := eqW (by decide +kernel) M
@[simp] theorem nw12 (M : Store) : neD M (.str "use") (.str "let") = some (.val (.bl (!false))) := neW (by decide +kernel) M
@[simp] theorem ew13 (M : Store) : eqD M (.str "use") (.str "if") = some (.val (.bl false)) := eqW (by decide +kernel) M
@[simp] theorem nw13 (M : Store) : neD M (.str "use") (.str "if") = some (.val (.bl (!false))) := neW (by decide +kernel) M
@[simp] theorem ew14 (M : Store) : eqD M (.str "use") (.str "times") = some (.val (.bl false)) := eqW (by decide +kernel) M
@[simp] theorem nw14 (M : Store) : neD M (.str "use") (.str "times") = some (.val (.bl (!false))) := neW (by decide +kernel) M
@[simp] theorem ew15 (M : Store) : eqD M (.str "use") (.str "tell") = some (.val (.bl false)) := eqW (by decide +kernel) M
@[simp] theorem nw15 (M : Store) : neD M (.str "use") (.str "tell") = some (.val (.bl (!false))) := neW (by decide +kernel) M
@[simp] theorem ew16 (M : Store) : eqD M (.str "use") (.str "stop") = some (.val (.bl false)) := eqW (by decide +kernel) M
@[simp] theorem nw16 (M : Store) : neD M (.str "use") (.str "stop") = some (.val (.bl (!false))) := neW (by decide +kernel) M
@[simp] theorem ew17 (M : Store) : eqD M (.str "use") (.str "call") = some (.val (.bl false)) := eqW (by decide +kernel) M
@[simp] theorem nw17 (M : Store) : neD M (.str "use") (.str "call") = some (.val (.bl (!false))) := neW (by decide +kernel) M
@[simp] theorem ew18 (M : Store) : eqD M (.str "op") (.str "num") = some (.val (.bl false)) := eqW (by decide +kernel) M
@[simp] theorem nw18 (M : Store) : neD M (.str "op") (.str "num") = some (.val (.bl (!false))) := neW (by decide +kernel) M
@[simp] theorem ew19 (M : Store) : eqD M (.str "op") (.str "use") = some (.val (.bl false)) := eqW (by decide +kernel) M
@[simp] theorem nw19 (M : Store) : neD M (.str "op") (.str "use") = some (.val (.bl (!false))) := neW (by decide +kernel) M
@[simp] theorem ew20 (M : Store) : eqD M (.str "op") (.str "op") = some (.val (.bl true)) := eqW (by decide +kernel) M
@[simp] theorem nw20 (M : Store) : neD M (.str "op") (.str "op") = some (.val (.bl (!true))) := neW (by decide +kernel) M
@[simp] theorem ew21 (M : Store) : eqD M (.str "op") (.str "let") = some (.val (.bl false)) := eqW (by decide +kernel) M
@[simp] theorem nw21 (M : Store) : neD M (.str "op") (.str "let") = some (.val (.bl (!false))) := neW (by decide +kernel) M
@[simp] theorem ew22 (M : Store) : eqD M (.str "op") (.str "if") = some (.val (.bl false)) := eqW (by decide +kernel) M
@[simp] theorem nw22 (M : Store) : neD M (.str "op") (.str "if") = some (.val (.bl (!false))) := neW (by decide +kernel) M
@[simp] theorem ew23 (M : Store) : eqD M (.str "op") (.str "times") = some (.val (.bl false)) := eqW (by decide +kernel) M
@[simp] theorem nw23 (M : Store) : neD M (.str "op") (.str "times") = some (.val (.bl (!false))) := neW (by decide +kernel) M
@[simp] theorem ew24 (M : Store) : eqD M (.str "op") (.str "tell") = some (.val (.bl false)) := eqW (by decide +kernel) M
@[simp] theorem nw24 (M : Store) : neD M (.str "op") (.str "tell") = some (.val (.bl (!false))) := neW (by decide +kernel) M
@[simp] theorem ew25 (M : Store) : eqD M (.str "op") (.str "stop") = some (.val (.bl false)) := eqW (by decide +kernel) M
@[simp] theorem nw25 (M : Store) : neD M (.str "op") (.str "stop") = some (.val (.bl (!false))) := neW (by decide +kernel) M
@[simp] theorem ew26 (M : Store) : eqD M (.str "op") (.str "call") = some (.val (.bl false)) := eqW (by decide +kernel) M
@[simp] theorem nw26 (M : Store) : neD M (.str "op") (.str "call") = some (.val (.bl (!false))) := neW (by decide +kernel) M
@[simp] theorem ew27 (M : Store) : eqD M (.str "let") (.str "num") = some (.val (.bl false)) := eqW (by decide +kernel) M
@[simp] theorem nw27 (M : Store) : neD M (.str "let") (.str "num") = some (.val (.bl (!false))) := neW (by decide +kernel) M
@[simp] theorem ew28 (M : Store) : eqD M (.str "let") (.str "use") = some (.val (.bl false)) := eqW (by decide +kernel) M
@[simp] theorem nw28 (M : Store) : neD M (.str "let") (.str "use") = some (.val (.bl (!false))) := neW (by decide +kernel) M
@[simp] theorem ew29 (M : Store) : eqD M (.str "let") (.str "op") = some (.val (.bl false)) := eqW (by decide +kernel) M
@[simp] theorem nw29 (M : Store) : neD M (.str "let") (.str "op") = some (.val (.bl (!false))) := neW (by decide +kernel) M
@[simp] theorem ew30 (M : Store) : eqD M (.str "let") (.str "let") = some (.val (.bl true)) := eqW (by decide +kernel) M
@[simp] theorem nw30 (M : Store) : neD M (.str "let") (.str "let") = some (.val (.bl (!true))) := neW (by decide +kernel) M
@[simp] theorem ew31 (M : Store) : eqD M (.str "let") (.str "if") = some (.val (.bl false)) := eqW (by decide +kernel) M
@[simp] theorem nw31 (M : Store) : neD M (.str "let") (.str "if") = some (.val (.bl (!false))) := neW (by decide +kernel) M
@[simp] theorem ew32 (M : Store) : eqD M (.str "let") (.str "times") = some (.val (.bl false)) := eqW (by decide +kernel) M
@[simp] theorem nw32 (M : Store) : neD M (.str "let") (.str "times") = some (.val (.bl (!false))) := neW (by decide +kernel) M
@[simp] theorem ew33 (M : Store) : eqD M (.str "let") (.str "tell") = some (.val (.bl false)) := eqW (by decide +kernel) M
@[simp] theorem nw33 (M : Store) : neD M (.str "let") (.str "tell") = some (.val (.bl (!false))) := neW (by decide +kernel) M
@[simp] theorem ew34 (M : Store) : eqD M (.str "let") (.str "stop") = some (.val (.bl false)) := eqW (by decide +kernel) M
@[simp] theorem nw34 (M : Store) : neD M (.str "let") (.str "stop") = some (.val (.bl (!false))) := neW (by decide +kernel) M
@[simp] theorem ew35 (M : Store) : eqD M (.str "let") (.str "call") = some (.val (.bl false)) := eqW (by decide +kernel) M
@[simp] theorem nw35 (M : Store) : neD M (.str "let") (.str "call") = some (.val (.bl (!false))) := neW (by decide +kernel) M
@[simp] theorem ew36 (M : Store) : eqD M (.str "if") (.str "num") = some (.val (.bl false)) := eqW (by decide +kernel) M
@[simp] theorem nw36 (M : Store) : neD M (.str "if") (.str "num") = some (.val (.bl (!false))) := neW (by decide +kernel) M
@[simp] theorem ew37 (M : Store) : eqD M (.str "if") (.str "use") = some (.val (.bl false)) := eqW (by decide +kernel) M
@[simp] theorem nw37 (M : Store) : neD M (.str "if") (.str "use") = some (.val (.bl (!false))) := neW (by decide +kernel) M
@[simp] theorem ew38 (M : Store) : eqD M (.str "if") (.str "op") = some (.val (.bl false)) := eqW (by decide +kernel) M
@[simp] theorem nw38 (M : Store) : neD M (.str "if") (.str "op") = some (.val (.bl (!false))) := neW (by decide +kernel) M
@[simp] theorem ew39 (M : Store) : eqD M (.str "if") (.str "let") = some (.val (.bl false)) := eqW (by decide +kernel) M
@[simp] theorem nw39 (M : Store) : neD M (.str "if") (.str "let") = some (.val (.bl (!false))) := neW (by decide +kernel) M
@[simp] theorem ew40 (M : Store) : eqD M (.str "if") (.str "if") = some (.val (.bl true)) := eqW (by decide +kernel) M
@[simp] theorem nw40 (M : Store) : neD M (.str "if") (.str "if") = some (.val (.bl (!true))) := neW (by decide +kernel) M
@[simp] theorem ew41 (M : Store) : eqD M (.str "if") (.str "times") = some (.val (.bl false)) := eqW (by decide +kernel) M
@[simp] theorem nw41 (M : Store) : neD M (.str "if") (.str "times") = some (.val (.bl (!false))) := neW (by decide +kernel) M
@[simp] theorem ew42 (M : Store) : eqD M (.str "if") (.str "tell") = some (.val (.bl false)) := eqW (by decide +kernel) M
@[simp] theorem nw42 (M : Store) : neD M (.str "if") (.str "tell") = some (.val (.bl (!false))) := neW (by decide +kernel) M
@[simp] theorem ew43 (M : Store) : eqD M (.str "if") (.str "stop") = some (.val (.bl false)) := eqW (by decide +kernel) M
@[simp] theorem nw43 (M : Store) : neD M (.str "if") (.str "stop") = some (.val (.bl (!false))) := neW (by decide +kernel) M
@[simp] theorem ew44 (M : Store) : eqD M (.str "if") (.str "call") = some (.val (.bl false)) := eqW (by decide +kernel) M
@[simp] theorem nw44 (M : Store) : neD M (.str "if") (.str "call") = some (.val (.bl (!false))) := neW (by decide +kernel) M
@[simp] theorem ew45 (M : Store) : eqD M (.str "times") (.str "num") = some (.val (.bl false)) := eqW (by decide +kernel) M
@[simp] theorem nw45 (M : Store) : neD M (.str "times") (.str "num") = some (.val (.bl (!false))) := neW (by decide +kernel) M
@[simp] theorem ew46 (M : Store) : eqD M (.str "times") (.str "use") = some (.val (.bl false)) := eqW (by decide +kernel) M
@[simp] theorem nw46 (M : Store) : neD M (.str "times") (.str "use") = some (.val (.bl (!false))) := neW (by decide +kernel) M
@[simp] theorem ew47 (M : Store) : eqD M (.str "times") (.str "op") = some (.val (.bl false)) := eqW (by decide +kernel) M
@[simp] theorem nw47 (M : Store) : neD M (.str "times") (.str "op") = some (.val (.bl (!false))) := neW (by decide +kernel) M
@[simp] theorem ew48 (M : Store) : eqD M (.str "times") (.str "let") = some (.val (.bl false)) := eqW (by decide +kernel) M
@[simp] theorem nw48 (M : Store) : neD M (.str "times") (.str "let") = some (.val (.bl (!false))) := neW (by decide +kernel) M
@[simp] theorem ew49 (M : Store) : eqD M (.str "times") (.str "if") = some (.val (.bl false)) := eqW (by decide +kernel) M
@[simp] theorem nw49 (M : Store) : neD M (.str "times") (.str "if") = some (.val (.bl (!false))) := neW (by decide +kernel) M
@[simp] theorem ew50 (M : Store) : eqD M (.str "times") (.str "times") = some (.val (.bl true)) := eqW (by decide +kernel) M
@[simp] theorem nw50 (M : Store) : neD M (.str "times") (.str "times") = some (.val (.bl (!true))) := neW (by decide +kernel) M
@[simp] theorem ew51 (M : Store) : eqD M (.str "times") (.str "tell") = some (.val (.bl false)) := eqW (by decide +kernel) M
@[simp] theorem nw51 (M : Store) : neD M (.str "times") (.str "tell") = some (.val (.bl (!false))) := neW (by decide +kernel) M
@[simp] theorem ew52 (M : Store) : eqD M (.str "times") (.str "stop") = some (.val (.bl false)) := eqW (by decide +kernel) M
@[simp] theorem nw52 (M : Store) : neD M (.str "times") (.str "stop") = some (.val (.bl (!false))) := neW (by decide +kernel) M
@[simp] theorem ew53 (M : Store) : eqD M (.str "times") (.str "call") = some (.val (.bl false)) := eqW (by decide +kernel) M
@[simp] theorem nw53 (M : Store) : neD M (.str "times") (.str "call") = some (.val (.bl (!false))) := neW (by decide +kernel) M
@[simp] theorem ew54 (M : Store) : eqD M (.str "tell") (.str "num") = some (.val (.bl false)) := eqW (by decide +kernel) M
@[simp] theorem nw54 (M : Store) : neD M (.str "tell") (.str "num") = some (.val (.bl (!false))) := neW (by decide +kernel) M
@[simp] theorem ew55 (M : Store) : eqD M (.str "tell") (.str "use") = some (.val (.bl false)) := eqW (by decide +kernel) M
@[simp] theorem nw55 (M : Store) : neD M (.str "tell") (.str "use") = some (.val (.bl (!false))) := neW (by decide +kernel) M
@[simp] theorem ew56 (M : Store) : eqD M (.str "tell") (.str "op") = some (.val (.bl false)) := eqW (by decide +kernel) M
@[simp] theorem nw56 (M : Store) : neD M (.str "tell") (.str "op") = some (.val (.bl (!false))) := neW (by decide +kernel) M
@[simp] theorem ew57 (M : Store) : eqD M (.str "tell") (.str "let") = some (.val (.bl false)) := eqW (by decide +kernel) M
@[simp] theorem nw57 (M : Store) : neD M (.str "tell") (.str "let") = some (.val (.bl (!false))) := neW (by decide +kernel) M
@[simp] theorem ew58 (M : Store) : eqD M (.str "tell") (.str "if") = some (.val (.bl false)) := eqW (by decide +kernel) M
@[simp] theorem nw58 (M : Store) : neD M (.str "tell") (.str "if") = some (.val (.bl (!false))) := neW (by decide +kernel) M
@[simp] theorem ew59 (M : Store) : eqD M (.str "tell") (.str "times") = some (.val (.bl false)) := eqW (by decide +kernel) M
@[simp] theorem nw59 (M : Store) : neD M (.str "tell") (.str "times") = some (.val (.bl (!false))) := neW (by decide +kernel) M
@[simp] theorem ew60 (M : Store) : eqD M (.str "tell") (.str "tell") = some (.val (.bl true)) := eqW (by decide +kernel) M
@[simp] theorem nw60 (M : Store) : neD M (.str "tell") (.str "tell") = some (.val (.bl (!true))) := neW (by decide +kernel) M
@[simp] theorem ew61 (M : Store) : eqD M (.str "tell") (.str "stop") = some (.val (.bl false)) := eqW (by decide +kernel) M
@[simp] theorem nw61 (M : Store) : neD M (.str "tell") (.str "stop") = some (.val (.bl (!false))) := neW (by decide +kernel) M
@[simp] theorem ew62 (M : Store) : eqD M (.str "tell") (.str "call") = some (.val (.bl false)) := eqW (by decide +kernel) M
@[simp] theorem nw62 (M : Store) : neD M (.str "tell") (.str "call") = some (.val (.bl (!false))) := neW (by decide +kernel) M
@[simp] theorem ew63 (M : Store) : eqD M (.str "stop") (.str "num") = some (.val (.bl false)) := eqW (by decide +kernel) M
@[simp] theorem nw63 (M : Store) : neD M (.str "stop") (.str "num") = some (.val (.bl (!false))) := neW (by decide +kernel) M
@[simp] theorem ew64 (M : Store) : eqD M (.str "stop") (.str "use") = some (.val (.bl false)) := eqW (by decide +kernel) M
@[simp] theorem nw64 (M : Store) : neD M (.str "stop") (.str "use") = some (.val (.bl (!false))) := neW (by decide +kernel) M
@[simp] theorem ew65 (M : Store) : eqD M (.str "stop") (.str "op") = some (.val (.bl false)) := eqW (by decide +kernel) M
@[simp] theorem nw65 (M : Store) : neD M (.str "stop") (.str "op") = some (.val (.bl (!false))) := neW (by decide +kernel) M
@[simp] theorem ew66 (M : Store) : eqD M (.str "stop") (.str "let") = some (.val (.bl false)) := eqW (by decide +kernel) M
@[simp] theorem nw66 (M : Store) : neD M (.str "stop") (.str "let") = some (.val (.bl (!false))) := neW (by decide +kernel) M
@[simp] theorem ew67 (M : Store) : eqD M (.str "stop") (.str "if") = some (.val (.bl false)) := eqW (by decide +kernel) M
@[simp] theorem nw67 (M : Store) : neD M (.str "stop") (.str "if") = some (.val (.bl (!false))) := neW (by decide +kernel) M
@[simp] theorem ew68 (M : Store) : eqD M (.str "stop") (.str "times") = some (.val (.bl false)) := eqW (by decide +kernel) M
@[simp] theorem nw68 (M : Store) : neD M (.str "stop") (.str "times") = some (.val (.bl (!false))) := neW (by decide +kernel) M
@[simp] theorem ew69 (M : Store) : eqD M (.str "stop") (.str "tell") = some (.val (.bl false)) := eqW (by decide +kernel) M
@[simp] theorem nw69 (M : Store) : neD M (.str "stop") (.str "tell") = some (.val (.bl (!false))) := neW (by decide +kernel) M
@[simp] theorem ew70 (M : Store) : eqD M (.str "stop") (.str "stop") = some (.val (.bl true)) := eqW (by decide +kernel) M
@[simp] theorem nw70 (M : Store) : neD M (.str "stop") (.str "stop") = some (.val (.bl (!true))) := neW (by decide +kernel) M
@[simp] theorem ew71 (M : Store) : eqD M (.str "stop") (.str "call") = some (.val (.bl false)) := eqW (by decide +kernel) M
@[simp] theorem nw71 (M : Store) : neD M (.str "stop") (.str "call") = some (.val (.bl (!false))) := neW (by decide +kernel) M
@[simp] theorem ew72 (M : Store) : eqD M (.str "call") (.str "num") = some (.val (.bl false)) := eqW (by decide +kernel) M
@[simp] theorem nw72 (M : Store) : neD M (.str "call") (.str "num") = some (.val (.bl (!false))) := neW (by decide +kernel) M
@[simp] theorem ew73 (M : Store) : eqD M (.str "call") (.str "use") = some (.val (.bl false)) := eqW (by decide +kernel) M
@[simp] theorem nw73 (M : Store) : neD M (.str "call") (.str "use") = some (.val (.bl (!false))) := neW (by decide +kernel) M
@[simp] theorem ew74 (M : Store) : eqD M (.str "call") (.str "op") = some (.val (.bl false)) := eqW (by decide +kernel) M
@[simp] theorem nw74 (M : Store) : neD M (.str "call") (.str "op") = some (.val (.bl (!false))) := neW (by decide +kernel) M
@[simp] theorem ew75 (M : Store) : eqD M (.str "call") (.str "let") = some (.val (.bl false)) := eqW (by decide +kernel) M
@[simp] theorem nw75 (M : Store) : neD M (.str "call") (.str "let") = some (.val (.bl (!false))) := neW (by decide +kernel) M
@[simp] theorem ew76 (M : Store) : eqD M (.str "call") (.str "if") = some (.val (.bl false)) := eqW (by decide +kernel) M
@[simp] theorem nw76 (M : Store) : neD M (.str "call") (.str "if") = some (.val (.bl (!false))) := neW (by decide +kernel) M
@[simp] theorem ew77 (M : Store) : eqD M (.str "call") (.str "times") = some (.val (.bl false)) := eqW (by decide +kernel) M
@[simp] theorem nw77 (M : Store) : neD M (.str "call") (.str "times") = some (.val (.bl (!false))) := neW (by decide +kernel) M
@[simp] theorem ew78 (M : Store) : eqD M (.str "call") (.str "tell") = some (.val (.bl false)) := eqW (by decide +kernel) M
@[simp] theorem nw78 (M : Store) : neD M (.str "call") (.str "tell") = some (.val (.bl (!false))) := neW (by decide +kernel) M
@[simp] theorem ew79 (M : Store) : eqD M (.str "call") (.str "stop") = some (.val (.bl false)) := eqW (by decide +kernel) M
@[simp] theorem nw79 (M : Store) : neD M (.str "call") (.str "stop") = some (.val (.bl (!false))) := neW (by decide +kernel) M
@[simp] theorem ew80 (M : Store) : eqD M (.str "call") (.str "call") = some (.val (.bl true)) := eqW (by decide +kernel) M
@[simp] theorem nw80 (M : Store) : neD M (.str "call") (.str "call") = some (.val (.bl (!true))) := neW (by decide +kernel) M
end TP
/-! TPs: how long texts of data are (repr). -/
namespace TP
open PySem L2
mutual
/-- at least as long as it is shown -/
def bigD : D → Nat
  | .non => 4
  | .bl _ => 5
  | .int i => (Str.ofString (toString i)).length
  | .str x => (reprText x).length
  | .lst xs => bigL xs + 3
  | .tup xs => bigL xs + 3
  | .fro _ => 4
  | .kt _ => 4
  | .ref _ => 4
def bigL : List D → Nat
  | [] => 0
  | x :: xs => bigD x + 2 + bigL xs
end
mutual
theorem shown_big : ∀ d : D, (toPy d).shown.length ≤ bigD d
  | .non => by simp only [toPy, bigD]; decide
  | .bl b => by simp only [toPy, bigD]; cases b <;> decide
  | .int i => by simp only [toPy, bigD, PyData.shown]; exact Nat.le_refl _
  | .str x => by simp only [toPy, bigD, PyData.shown]; exact Nat.le_refl _
  | .lst xs => by
    simp only [toPy, bigD, PyData.shown]
    have h1 := listText_len_le (PyData.shownAll (toPyL xs))
    have h2 := shownL_big xs
    omega
  | .tup xs => by
    simp only [toPy, bigD, PyData.shown]
    have h1 := tupleText_len_le (PyData.shownAll (toPyL xs))
    have h2 := shownL_big xs
    omega
  | .fro _ => by simp only [toPy, bigD]; decide
  | .kt _ => by simp only [toPy, bigD]; decide
  | .ref _ => by simp only [toPy, bigD]; decide
theorem shownL_big : ∀ xs : List D, ((PyData.shownAll (toPyL xs)).map (·.length)).sum + 2 * (PyData.shownAll (toPyL xs)).length ≤ bigL xs
  | [] => by simp [toPyL, PyData.shownAll, bigL]
  | x :: xs => by
    have h1 := shown_big x
    have h2 := shownL_big xs
    simp only [toPyL, PyData.shownAll, bigL, List.map_cons, List.sum_cons, List.length_cons]
    omega
end
/-- may be shown: at most so long, so deep -/
structure Fit (n k : Nat) (d : D) : Prop where
  good : goodD d = true
  show_ : (toPy d).showable = true
  dp : dpD d ≤ k
  big : bigD d ≤ n
theorem Fit.mono {n k n' k' : Nat} {d : D} (h : Fit n k d) (hn : n ≤ n') (hk : k ≤ k') : Fit n' k' d := ⟨h.good, h.show_, Nat.le_trans h.dp hk, Nat.le_trans h.big hn⟩
theorem Fit.repr {n k : Nat} {d : D} (h : Fit n k d) (hn : n ≤ 16777216) (hk : k ≤ 190) (M : Store) : reprD M [d] = some (.val (.str (toPy d).shown)) := by
  show (if shwD (derD M d) then some (Slot.val (D.str (toPy (derD M d)).shown)) else none) = _
  rw [der_good M h.good]
  have hs : shwD d = true := by
    unfold shwD
    simp only [Bool.and_eq_true, decide_eq_true_eq]
    refine ⟨⟨⟨h.good, h.show_⟩, Nat.le_trans h.dp hk⟩, ?_⟩
    rw [szL]
    exact Nat.le_trans (shown_big d) (Nat.le_trans h.big hn)
  rw [hs]
  rfl
structure FitL (n k : Nat) (ds : List D) : Prop where
  good : goodL ds = true
  show_ : PyData.showableAll (toPyL ds) = true
  dp : dpL ds ≤ k
  big : bigL ds ≤ n
theorem FitL.nil {k : Nat} : FitL 0 k [] := ⟨rfl, rfl, Nat.zero_le _, Nat.le_refl _⟩
theorem FitL.cons {n m k : Nat} {d : D} {ds : List D} (h : Fit n k d) (hs : FitL m k ds) : FitL (n + 2 + m) k (d :: ds) := by
  refine ⟨?_, ?_, ?_, ?_⟩
  · rw [goodL, h.good, hs.good]; rfl
  · simp only [toPyL, PyData.showableAll, h.show_, hs.show_]; rfl
  · have h1 := h.dp
    have h2 := hs.dp
    rw [dpL]; omega
  · have h1 := h.big
    have h2 := hs.big
    rw [bigL]; omega
theorem FitL.each {n k : Nat} : ∀ {ds : List D}, (∀ d ∈ ds, Fit n k d) → FitL (ds.length * (n + 2)) k ds
  | [], _ => ⟨rfl, rfl, Nat.zero_le _, by rw [List.length_nil, Nat.zero_mul]; exact Nat.le_refl _⟩
  | d :: ds, h => by
    have h1 := FitL.cons (h d List.mem_cons_self) (FitL.each fun x hx => h x (List.mem_cons_of_mem _ hx))
    rw [List.length_cons, Nat.succ_mul, Nat.add_comm]
    exact h1
theorem FitL.upto {n k c m : Nat} {ds : List D} (h : ∀ d ∈ ds, Fit n k d) (hl : ds.length ≤ c) (hm : c * (n + 2) ≤ m) : FitL m k ds := by
  have h1 := FitL.each h
  exact ⟨h1.good, h1.show_, h1.dp, Nat.le_trans h1.big (Nat.le_trans (Nat.mul_le_mul_right _ hl) hm)⟩
theorem FitL.mono {n k n' k' : Nat} {d : List D} (h : FitL n k d) (hn : n ≤ n') (hk : k ≤ k') : FitL n' k' d := ⟨h.good, h.show_, Nat.le_trans h.dp hk, Nat.le_trans h.big hn⟩
theorem FitL.tup {n k : Nat} {ds : List D} (h : FitL n k ds) : Fit (n + 3) (k + 1) (.tup ds) := by
  refine ⟨?_, ?_, ?_, ?_⟩
  · rw [goodD]; exact h.good
  · simp only [toPy, PyData.showable]; exact h.show_
  · have := h.dp; rw [dpD]; omega
  · have := h.big; rw [bigD]; omega
theorem FitL.lst {n k : Nat} {ds : List D} (h : FitL n k ds) : Fit (n + 3) (k + 1) (.lst ds) := by
  refine ⟨?_, ?_, ?_, ?_⟩
  · rw [goodD]; exact h.good
  · simp only [toPy, PyData.showable]; exact h.show_
  · have := h.dp; rw [dpD]; omega
  · have := h.big; rw [bigD]; omega
theorem Fit.non {k : Nat} : Fit 4 k .non := ⟨rfl, rfl, Nat.zero_le _, Nat.le_refl _⟩
theorem Fit.bl {k : Nat} {b : Bool} : Fit 5 k (.bl b) := ⟨rfl, rfl, Nat.zero_le _, Nat.le_refl _⟩
theorem Fit.int {k j : Nat} {i : Int} (hj : 0 < j) (hj2 : j ≤ 500) (h : i.natAbs < 10 ^ j) : Fit (j + 1) k (.int i) := by
  refine ⟨rfl, ?_, Nat.zero_le _, ?_⟩
  · simp only [toPy, PyData.showable, decide_eq_true_eq]
    have h1 : i.natAbs < 2 ^ 1920 := Nat.lt_of_lt_of_le h (Nat.le_trans (Nat.pow_le_pow_right (by decide) hj2) (by decide +kernel))
    by_cases h0 : i.natAbs = 0
    · rw [h0]; decide
    · exact (Nat.log2_lt h0).mpr h1
  · have := int_text_length_le10 hj h
    rw [bigD]
    have e : (Str.ofString (toString i)).length = (toString i).length := PySem.ofString_length _
    omega
/-- a name or a word -/
def nmB (n : Nat) (x : Str) : Bool := okStr x && decide ((reprText x).length ≤ n)
theorem Fit.str {n k : Nat} {x : Str} (h : nmB n x = true) : Fit n k (.str x) := by
  unfold nmB at h
  rw [Bool.and_eq_true, decide_eq_true_eq] at h
  exact ⟨h.1, rfl, Nat.zero_le _, h.2⟩
namespace Ex
mutual
/-- all its names are some, all its numbers are some -/
def Al (p : Str → Prop) (q : Int → Prop) : Ex → Prop
  | num n => q n
  | use x => p x
  | op s a b => p s ∧ Al p q a ∧ Al p q b
  | lt x a b => p x ∧ Al p q a ∧ Al p q b
  | ite a b c => Al p q a ∧ Al p q b ∧ Al p q c
  | times a i s b c => p i ∧ p s ∧ Al p q a ∧ Al p q b ∧ Al p q c
  | tell a b => Al p q a ∧ Al p q b
  | stop a => Al p q a
  | call m f as => p m ∧ p f ∧ Als p q as
def Als (p : Str → Prop) (q : Int → Prop) : List Ex → Prop
  | [] => True
  | e :: es => Al p q e ∧ Als p q es
end
mutual
theorem Wf.al {nm : Str → Prop} {ah : Str → Str → Nat → Prop} {p : Str → Prop} {q : Int → Prop} (h1 : ∀ x, nm x → p x) (h2 : ∀ m f k, ah m f k → p m ∧ p f) (h3 : ∀ s ∈ signs, p s) (h4 : ∀ n, -(10 ^ 30) ≤ n → n ≤ 10 ^ 30 → q n) : ∀ (e : Ex) (sc : List Str), (∀ x ∈ sc, p x) → Wf nm ah sc e → Al p q e
  | num n, sc, hs, h => by rw [Wf] at h; rw [Al]; exact h4 n h.1 h.2
  | use x, sc, hs, h => by rw [Wf] at h; rw [Al]; exact hs x h
  | op s a b, sc, hs, h => by rw [Wf] at h; rw [Al]; exact ⟨h3 s h.1, Wf.al h1 h2 h3 h4 a sc hs h.2.1, Wf.al h1 h2 h3 h4 b sc hs h.2.2⟩
  | lt x a b, sc, hs, h => by
    rw [Wf] at h; rw [Al]
    exact ⟨h1 x h.1, Wf.al h1 h2 h3 h4 a sc hs h.2.1, Wf.al h1 h2 h3 h4 b _ (fun y hy => by rcases List.mem_cons.mp hy with rfl | hy; exact h1 _ h.1; exact hs y hy) h.2.2⟩
  | ite a b c, sc, hs, h => by rw [Wf] at h; rw [Al]; exact ⟨Wf.al h1 h2 h3 h4 a sc hs h.1, Wf.al h1 h2 h3 h4 b sc hs h.2.1, Wf.al h1 h2 h3 h4 c sc hs h.2.2⟩
  | times a i s b c, sc, hs, h => by
    rw [Wf] at h; rw [Al]
    exact ⟨h1 i h.1, h1 s h.2.1, Wf.al h1 h2 h3 h4 a sc hs h.2.2.2.1, Wf.al h1 h2 h3 h4 b sc hs h.2.2.2.2.1, Wf.al h1 h2 h3 h4 c _ (fun y hy => by
      rcases List.mem_cons.mp hy with rfl | hy
      · exact h1 _ h.1
      · rcases List.mem_cons.mp hy with rfl | hy
        · exact h1 _ h.2.1
        · exact hs y hy) h.2.2.2.2.2⟩
  | tell a b, sc, hs, h => by rw [Wf] at h; rw [Al]; exact ⟨Wf.al h1 h2 h3 h4 a sc hs h.1, Wf.al h1 h2 h3 h4 b sc hs h.2⟩
  | stop a, sc, hs, h => by rw [Wf] at h; rw [Al]; exact Wf.al h1 h2 h3 h4 a sc hs h
  | call m f as, sc, hs, h => by rw [Wf] at h; rw [Al]; exact ⟨(h2 _ _ _ h.1).1, (h2 _ _ _ h.1).2, Wfs.al h1 h2 h3 h4 as sc hs h.2⟩
theorem Wfs.al {nm : Str → Prop} {ah : Str → Str → Nat → Prop} {p : Str → Prop} {q : Int → Prop} (h1 : ∀ x, nm x → p x) (h2 : ∀ m f k, ah m f k → p m ∧ p f) (h3 : ∀ s ∈ signs, p s) (h4 : ∀ n, -(10 ^ 30) ≤ n → n ≤ 10 ^ 30 → q n) : ∀ (es : List Ex) (sc : List Str), (∀ x ∈ sc, p x) → Wfs nm ah sc es → Als p q es
  | [], _, _, _ => by rw [Als]; trivial
  | e :: es, sc, hs, h => by rw [Wfs] at h; rw [Als]; exact ⟨Wf.al h1 h2 h3 h4 e sc hs h.1, Wfs.al h1 h2 h3 h4 es sc hs h.2⟩
end
theorem wNum : nmB 12 "num" = true := by decide +kernel
theorem wUse : nmB 12 "use" = true := by decide +kernel
theorem wOp : nmB 12 "op" = true := by decide +kernel
theorem wLet : nmB 12 "let" = true := by decide +kernel
theorem wIf : nmB 12 "if" = true := by decide +kernel
theorem wTimes : nmB 12 "times" = true := by decide +kernel
theorem wTell : nmB 12 "tell" = true := by decide +kernel
theorem wStop : nmB 12 "stop" = true := by decide +kernel
theorem wCall : nmB 12 "call" = true := by decide +kernel
theorem cnt_pos (e : Ex) : 1 ≤ cnt e := by rw [cnt_eq]; omega
mutual
theorem fit : ∀ (e : Ex), Al (fun x => nmB 12 x = true) (fun n => n.natAbs < 10 ^ 31) e → Fit (80 * cnt e - 2) (2 * dep e + 2) e.toD
  | num n, h => by
    rw [Al] at h; rw [toD, cnt, dep]
    exact ((FitL.cons (.str wNum) (.cons (.int (by decide) (by decide) h) .nil)).tup (k := 0)).mono (by decide) (by decide)
  | use x, h => by
    rw [Al] at h; rw [toD, cnt, dep]
    exact ((FitL.cons (.str wUse) (.cons (.str h) .nil)).tup (k := 0)).mono (by decide) (by decide)
  | op s a b, h => by
    rw [Al] at h; rw [toD, cnt, dep]
    have pa := cnt_pos a
    have pb := cnt_pos b
    have ha := (fit a h.2.1).mono (Nat.le_refl _) (show _ ≤ 2 * max (dep a) (dep b) + 2 by omega)
    have hb := (fit b h.2.2).mono (Nat.le_refl _) (show _ ≤ 2 * max (dep a) (dep b) + 2 by omega)
    exact (FitL.cons (.str wOp) (.cons (.str h.1) (.cons ha (.cons hb .nil)))).tup.mono (by omega) (by omega)
  | lt s a b, h => by
    rw [Al] at h; rw [toD, cnt, dep]
    have pa := cnt_pos a
    have pb := cnt_pos b
    have ha := (fit a h.2.1).mono (Nat.le_refl _) (show _ ≤ 2 * max (dep a) (dep b) + 2 by omega)
    have hb := (fit b h.2.2).mono (Nat.le_refl _) (show _ ≤ 2 * max (dep a) (dep b) + 2 by omega)
    exact (FitL.cons (.str wLet) (.cons (.str h.1) (.cons ha (.cons hb .nil)))).tup.mono (by omega) (by omega)
  | ite a b c, h => by
    rw [Al] at h; rw [toD, cnt, dep]
    have pa := cnt_pos a
    have pb := cnt_pos b
    have pc := cnt_pos c
    have ha := (fit a h.1).mono (Nat.le_refl _) (show _ ≤ 2 * max (dep a) (max (dep b) (dep c)) + 2 by omega)
    have hb := (fit b h.2.1).mono (Nat.le_refl _) (show _ ≤ 2 * max (dep a) (max (dep b) (dep c)) + 2 by omega)
    have hc := (fit c h.2.2).mono (Nat.le_refl _) (show _ ≤ 2 * max (dep a) (max (dep b) (dep c)) + 2 by omega)
    exact (FitL.cons (.str wIf) (.cons ha (.cons hb (.cons hc .nil)))).tup.mono (by omega) (by omega)
  | times a i s b c, h => by
    rw [Al] at h; rw [toD, cnt, dep]
    have pa := cnt_pos a
    have pb := cnt_pos b
    have pc := cnt_pos c
    have ha := (fit a h.2.2.1).mono (Nat.le_refl _) (show _ ≤ 2 * max (dep a) (max (dep b) (dep c)) + 2 by omega)
    have hb := (fit b h.2.2.2.1).mono (Nat.le_refl _) (show _ ≤ 2 * max (dep a) (max (dep b) (dep c)) + 2 by omega)
    have hc := (fit c h.2.2.2.2).mono (Nat.le_refl _) (show _ ≤ 2 * max (dep a) (max (dep b) (dep c)) + 2 by omega)
    exact (FitL.cons (.str wTimes) (.cons ha (.cons (.str h.1) (.cons (.str h.2.1) (.cons hb (.cons hc .nil)))))).tup.mono (by omega) (by omega)
  | tell a b, h => by
    rw [Al] at h; rw [toD, cnt, dep]
    have pa := cnt_pos a
    have pb := cnt_pos b
    have ha := (fit a h.1).mono (Nat.le_refl _) (show _ ≤ 2 * max (dep a) (dep b) + 2 by omega)
    have hb := (fit b h.2).mono (Nat.le_refl _) (show _ ≤ 2 * max (dep a) (dep b) + 2 by omega)
    exact (FitL.cons (.str wTell) (.cons ha (.cons hb .nil))).tup.mono (by omega) (by omega)
  | stop a, h => by
    rw [Al] at h; rw [toD, cnt, dep]
    have pa := cnt_pos a
    have ha := fit a h
    exact (FitL.cons (.str wStop) (.cons ha .nil)).tup.mono (by omega) (by omega)
  | call m f as, h => by
    rw [Al] at h; rw [toD, cnt, dep]
    have ha := (fits as h.2.2).tup
    exact (FitL.cons (.str wCall) (.cons (.str h.1) (.cons (.str h.2.1) (.cons ha .nil)))).tup.mono (by omega) (by omega)
theorem fits : ∀ (es : List Ex), Als (fun x => nmB 12 x = true) (fun n => n.natAbs < 10 ^ 31) es → FitL (80 * cnts es) (2 * deps es + 2) (toDs es)
  | [], _ => by rw [toDs, cnts, deps]; exact FitL.nil
  | e :: es, h => by
    rw [Als] at h; rw [toDs, cnts, deps]
    have h1 := (fit e h.1).mono (Nat.le_refl _) (show _ ≤ 2 * max (dep e) (deps es) + 2 by omega)
    have h2 := (fits es h.2).mono (Nat.le_refl _) (show _ ≤ 2 * max (dep e) (deps es) + 2 by omega)
    have hp := cnt_pos e
    exact (FitL.cons h1 h2).mono (by omega) (Nat.le_refl _)
end
end Ex
/-! ### drawn programs -/
theorem pools_nm : pools.all (fun p => p.all (nmB 12)) = true := by decide +kernel
theorem namesL_nm {n : Int} {x : Str} (h : x ∈ namesL n) : nmB 12 x = true := by
  unfold namesL at h
  obtain ⟨k, _, rfl⟩ := List.mem_map.mp h
  exact List.all_eq_true.mp (List.all_eq_true.mp pools_nm _ (pool_mem n).1) _ (nameAt_mem n k).1
theorem signs_nm : ∀ s ∈ signs, nmB 12 s = true := by decide +kernel
theorem RowWf.al {n : Int} {pre : List (Str × Row)} {x : Str × Row} (h : RowWf n pre x) (hp : ∀ y ∈ pre, y.1 ∈ namesL (n / 7) ∧ y.2.f ∈ namesL (n / 7)) : Ex.Al (fun x => nmB 12 x = true) (fun n => n.natAbs < 10 ^ 31) x.2.b :=
  Ex.Wf.al (fun _ => namesL_nm) (fun m f k ⟨y, hy, e1, e2, _⟩ => by subst e1 e2; exact ⟨namesL_nm (hp y hy).1, namesL_nm (hp y hy).2⟩) signs_nm (fun n h1 h2 => by omega) x.2.b x.2.ps (fun y hy => namesL_nm (h.ps y hy)) h.wf
theorem strs_fit {k : Nat} {xs : List Str} (h : ∀ x ∈ xs, nmB 12 x = true) : FitL (xs.length * 14) k (xs.map D.str) := by
  have := FitL.each (n := 12) (k := k) (ds := xs.map D.str) fun d hd => by
    obtain ⟨x, hx, rfl⟩ := List.mem_map.mp hd
    exact .str (h x hx)
  rw [List.length_map] at this
  exact this
/-- a function that may be shown -/
structure RowFit (x : Str × Row) : Prop where
  row : Fit 622300 13 x.2.toD
  fn : Fit 622320 13 (fnD x)
  body : Fit 622080 12 x.2.b.toD
theorem rowFit {x : Str × Row} (hm : nmB 12 x.1 = true) (hf : nmB 12 x.2.f = true) (hp : ∀ y ∈ x.2.ps, nmB 12 y = true) (hl : x.2.ps.length ≤ 5) (hd : x.2.b.dep ≤ 5) (hc : x.2.b.cnt ≤ 7776) (ha : Ex.Al (fun x => nmB 12 x = true) (fun n => n.natAbs < 10 ^ 31) x.2.b) : RowFit x := by
  have hb : Fit 622078 12 x.2.b.toD := (Ex.fit x.2.b ha).mono (by omega) (by omega)
  have hps : Fit 73 12 (.tup (x.2.ps.map D.str)) := ((strs_fit (k := 0) hp).tup).mono (by omega) (by omega)
  exact ⟨(FitL.cons (.str hf) (.cons hps (.cons hb .nil))).tup.mono (by omega) (by omega), (FitL.cons (.str hm) (.cons (.str hf) (.cons hps (.cons hb .nil)))).tup.mono (by omega) (by omega), hb.mono (by omega) (by omega)⟩
theorem RowsWf.names {n : Int} : ∀ {xs pre : List (Str × Row)}, RowsWf n pre xs → ∀ x ∈ xs, x.1 ∈ namesL (n / 7) ∧ x.2.f ∈ namesL (n / 7)
  | y :: xs, pre, h, x, hx => by
    rcases List.mem_cons.mp hx with rfl | hx
    · exact ⟨h.1.m, h.1.f⟩
    · exact RowsWf.names h.2 x hx
theorem RowsWf.fit {n : Int} {xs : List (Str × Row)} (h : RowsWf n [] xs) : ∀ x ∈ xs, RowFit x := fun x hx => by
  have hr := h.mem hx
  rw [List.nil_append] at hr
  have hn := h.names x hx
  exact rowFit (namesL_nm hn.1) (namesL_nm hn.2) (fun y hy => namesL_nm (hr.ps y hy)) (by have := hr.len; omega) hr.dep hr.cnt (hr.al h.names)
/-- a program that may be shown: at most n functions in all, each within so much -/
theorem rooms_fit {n k : Nat} : ∀ {P : Pr}, (∀ q ∈ P, nmB 12 q.1 = true ∧ ∀ r ∈ q.2, Fit n k r.toD) → FitL ((flat P).length * (n + 2) + P.length * 24) (k + 2) (P.map rmD)
  | [], _ => ⟨rfl, rfl, Nat.zero_le _, Nat.zero_le _⟩
  | (m, rs) :: P, h => by
    have h1 := h (m, rs) List.mem_cons_self
    have h2 : FitL (rs.length * (n + 2)) k (rs.map Row.toD) := by
      have := FitL.each (n := n) (k := k) (ds := rs.map Row.toD) fun d hd => by
        obtain ⟨r, hr, rfl⟩ := List.mem_map.mp hd
        exact h1.2 r hr
      rw [List.length_map] at this
      exact this
    have h3 : Fit (rs.length * (n + 2) + 22) (k + 2) (rmD (m, rs)) := (FitL.cons (.str h1.1) (.cons h2.tup .nil)).tup.mono (by omega) (by omega)
    have h4 := rooms_fit (P := P) fun q hq => h q (List.mem_cons_of_mem _ hq)
    rw [List.map_cons, flat, List.length_append, List.length_map, List.length_cons, Nat.add_mul]
    exact (FitL.cons h3 h4).mono (by omega) (Nat.le_refl _)
theorem pg_fit {n k j : Nat} {P : Pr} (hl : (flat P).length ≤ k) (hP : P.length ≤ 8) (h : ∀ q ∈ P, nmB 12 q.1 = true ∧ ∀ r ∈ q.2, Fit n j r.toD) : Fit (k * (n + 2) + 200) (j + 3) (pgD P) := by
  have h1 := (rooms_fit h).tup
  have h2 : (flat P).length * (n + 2) ≤ k * (n + 2) := Nat.mul_le_mul_right _ hl
  exact h1.mono (by omega) (Nat.le_refl _)
end TP
set_option maxHeartbeats 4000000
namespace K04
open PySem L2 TP
def topS (i : Nat) : Stmt := PySem.Challenge.pw_turnpaper_k04_functions_told.main.body.getD i (.Pass ⟨0, 0, 0, 0⟩)
abbrev f_functions : Nat := 0
abbrev s_functions : Stmt := topS 1
theorem sc_functions : FnScope ["program", "found", "m", "rows", "row"] ["program"] (defScope s_functions) := ⟨rfl, rfl, rfl, by decide +kernel, rfl, by decide +kernel, by decide +kernel⟩
abbrev f_function : Nat := 1
abbrev s_function : Stmt := topS 2
theorem sc_function : FnScope ["program", "m", "f", "row"] ["program", "m", "f"] (defScope s_function) := ⟨rfl, rfl, rfl, by decide +kernel, rfl, by decide +kernel, by decide +kernel⟩
abbrev f_with_body : Nat := 2
abbrev s_with_body : Stmt := topS 3
theorem sc_with_body : FnScope ["program", "m", "f", "body", "found", "name", "rows", "row"] ["program", "m", "f", "body"] (defScope s_with_body) := ⟨rfl, rfl, rfl, by decide +kernel, rfl, by decide +kernel, by decide +kernel⟩
abbrev f__law_cell : Nat := 3
abbrev s__law_cell : Stmt := topS 5
theorem sc__law_cell : FnScope ["_law_cells", "_law_spot", "_law_k", "_law_base", "_law_own", "_law_turn"] ["_law_cells", "_law_spot"] (defScope s__law_cell) := ⟨rfl, rfl, rfl, by decide +kernel, rfl, by decide +kernel, by decide +kernel⟩
abbrev f__law_names : Nat := 4
abbrev s__law_names : Stmt := topS 6
theorem sc__law_names : FnScope ["_law_n", "_law_letters", "_law_some", "_law_k", "_law_sign"] ["_law_n"] (defScope s__law_names) := ⟨rfl, rfl, rfl, by decide +kernel, rfl, by decide +kernel, by decide +kernel⟩
abbrev f__law_number : Nat := 5
abbrev s__law_number : Stmt := topS 7
theorem sc__law_number : FnScope ["_law_n"] ["_law_n"] (defScope s__law_number) := ⟨rfl, rfl, rfl, by decide +kernel, rfl, by decide +kernel, by decide +kernel⟩
abbrev f__law_leaf : Nat := 6
abbrev s__law_leaf : Stmt := topS 8
theorem sc__law_leaf : FnScope ["_law_at", "_law_scope", "_law_n"] ["_law_at", "_law_scope", "_law_n"] (defScope s__law_leaf) := ⟨rfl, rfl, rfl, by decide +kernel, rfl, by decide +kernel, by decide +kernel⟩
abbrev f__law_op : Nat := 7
abbrev s__law_op : Stmt := topS 9
theorem sc__law_op : FnScope ["_law_cells", "_law_spot", "_law_at", "_law_scope", "_law_deep", "_law_n", "_law_sign", "_law_one"] ["_law_cells", "_law_spot", "_law_at", "_law_scope", "_law_deep", "_law_n"] (defScope s__law_op) := ⟨rfl, rfl, rfl, by decide +kernel, rfl, by decide +kernel, by decide +kernel⟩
abbrev f__law_times : Nat := 8
abbrev s__law_times : Stmt := topS 10
theorem sc__law_times : FnScope ["_law_cells", "_law_spot", "_law_at", "_law_scope", "_law_deep", "_law_n", "_law_names_here", "_law_second", "_law_many", "_law_one", "_law_inner", "_law_other", "_law_first", "_law_behind", "_law_name"] ["_law_cells", "_law_spot", "_law_at", "_law_scope", "_law_deep", "_law_n"] (defScope s__law_times) := ⟨rfl, rfl, rfl, by decide +kernel, rfl, by decide +kernel, by decide +kernel⟩
abbrev f__law_call : Nat := 9
abbrev s__law_call : Stmt := topS 11
theorem sc__law_call : FnScope ["_law_cells", "_law_spot", "_law_at", "_law_scope", "_law_deep", "_law_n", "_law_some", "_law_m", "_law_f", "_law_many", "_law_calm", "_law_row", "_law_k"] ["_law_cells", "_law_spot", "_law_at", "_law_scope", "_law_deep", "_law_n"] (defScope s__law_call) := ⟨rfl, rfl, rfl, by decide +kernel, rfl, by decide +kernel, by decide +kernel⟩
abbrev f__law_expression : Nat := 10
abbrev s__law_expression : Stmt := topS 12
theorem sc__law_expression : FnScope ["_law_cells", "_law_spot", "_law_at", "_law_scope", "_law_deep", "_law_n", "_law_way", "_law_more", "_law_name", "_law_one", "_law_inner", "_law_other", "_law_k"] ["_law_cells", "_law_spot", "_law_at", "_law_scope", "_law_deep"] (defScope s__law_expression) := ⟨rfl, rfl, rfl, by decide +kernel, rfl, by decide +kernel, by decide +kernel⟩
abbrev f__law_program : Nat := 11
abbrev s__law_program : Stmt := topS 13
theorem sc__law_program : FnScope ["_law_cells", "_law_spot", "_law_most", "_law_n", "_law_ahead", "_law_modules", "_law_k", "_law_names_here", "_law_rooms", "_law_room", "_law_j", "_law_more", "_law_params", "_law_at", "_law_body", "_law_name", "_law_i"] ["_law_cells", "_law_spot", "_law_most"] (defScope s__law_program) := ⟨rfl, rfl, rfl, by decide +kernel, rfl, by decide +kernel, by decide +kernel⟩
abbrev f__law_due : Nat := 12
abbrev s__law_due : Stmt := topS 14
theorem sc__law_due : FnScope ["_law_program_here", "_law_found", "_law_m", "_law_rows", "_law_f", "_law_params", "_law_body"] ["_law_program_here"] (defScope s__law_due) := ⟨rfl, rfl, rfl, by decide +kernel, rfl, by decide +kernel, by decide +kernel⟩
abbrev f__law_changed : Nat := 13
abbrev s__law_changed : Stmt := topS 15
theorem sc__law_changed : FnScope ["_law_program_here", "_law_m", "_law_f", "_law_body", "_law_found", "_law_name", "_law_rows", "_law_some", "_law_one", "_law_params", "_law_old"] ["_law_program_here", "_law_m", "_law_f", "_law_body"] (defScope s__law_changed) := ⟨rfl, rfl, rfl, by decide +kernel, rfl, by decide +kernel, by decide +kernel⟩
abbrev f_law : Nat := 14
abbrev s_law : Stmt := topS 16
theorem sc_law : FnScope ["_law_script", "_law_turn", "_law_cells", "_law_spot", "_law_program_here", "_law_due_here", "_law_again", "_law_names_here", "_law_m", "_law_other", "_law_told", "_law_f", "_law_params", "_law_body", "_law_some", "_law_rows", "_law_row"] ["_law_script"] (defScope s_law) := ⟨rfl, rfl, rfl, by decide +kernel, rfl, by decide +kernel, by decide +kernel⟩
def el_functions_0 (Φ : Nat → Fn) : FD := (dEF (dOp2 addD (dTup (dCons (dVar 2) dNil)) (dVarB 4)))
theorem el_functions_0_eq (Φ : Nat → Fn) (ρ : EnvD) (M : Store) : el_functions_0 Φ ρ M = (dEF (dOp2 addD (dTup (dCons (dVar 2) dNil)) (dVarB 4))) ρ M := rfl
def lp_functions_0 (Φ : Nat → Fn) : FS := (sSeq (sExt 1 (dEF (dLc (dIt (dVar 3)) (bName 4) dYes (el_functions_0 Φ) [4]))) sNil)
theorem lp_functions_0_eq (Φ : Nat → Fn) (ρ : EnvD) (M : Store) : lp_functions_0 Φ ρ M = (sSeq (sExt 1 (dEF (dLc (dIt (dVar 3)) (bName 4) dYes (el_functions_0 Φ) [4]))) sNil) ρ M := rfl
def m_functions (Φ : Nat → Fn) : FS := (sSeq (sSet 1 (dLst dNil)) (sSeq (sFor (dIt (dVar 0)) (bTup [2, 3]) (lp_functions_0 Φ)) (sSeq (sRetV 1) sNil)))
def lp_function_0 (Φ : Nat → Fn) : FS := (sSeq (sIf (dAnd (dBo (dOp2 eqD (dEF (dOp2 idxD (dVarB 3) (dC (.int 0)))) (dVarB 1))) (dBo (dOp2 eqD (dEF (dOp2 idxD (dVarB 3) (dC (.int 1)))) (dVarB 2)))) (sSeq (sRet (dSl slD (dVarB 3) (dSo (dC (.int 2))) dNo)) sNil) sNil) sNil)
theorem lp_function_0_eq (Φ : Nat → Fn) (ρ : EnvD) (M : Store) : lp_function_0 Φ ρ M = (sSeq (sIf (dAnd (dBo (dOp2 eqD (dEF (dOp2 idxD (dVarB 3) (dC (.int 0)))) (dVarB 1))) (dBo (dOp2 eqD (dEF (dOp2 idxD (dVarB 3) (dC (.int 1)))) (dVarB 2)))) (sSeq (sRet (dSl slD (dVarB 3) (dSo (dC (.int 2))) dNo)) sNil) sNil) sNil) ρ M := rfl
def m_function (Φ : Nat → Fn) : FS := (sSeq (sFor (dIt (dEF (dCall 1 (Φ f_functions) (dCons (dVar 0) dNil)))) (bName 3) (lp_function_0 Φ)) (sSeq (sRet (dFE (dC .non))) sNil))
def el_with_body_0 (Φ : Nat → Fn) : FD := (dEF (dIf (dBo (dOp2 eqD (dEF (dOp2 idxD (dVarB 7) (dC (.int 0)))) (dVarB 2))) (dOp2 addD (dEF (dSl slD (dVarB 7) dNo (dSo (dC (.int 2))))) (dTup (dCons (dVar 3) dNil))) (dFE (dVar 7))))
theorem el_with_body_0_eq (Φ : Nat → Fn) (ρ : EnvD) (M : Store) : el_with_body_0 Φ ρ M = (dEF (dIf (dBo (dOp2 eqD (dEF (dOp2 idxD (dVarB 7) (dC (.int 0)))) (dVarB 2))) (dOp2 addD (dEF (dSl slD (dVarB 7) dNo (dSo (dC (.int 2))))) (dTup (dCons (dVar 3) dNil))) (dFE (dVar 7)))) ρ M := rfl
def lp_with_body_0 (Φ : Nat → Fn) : FS := (sSeq (sIf (dBo (dOp2 eqD (dVarB 5) (dVarB 1))) (sSeq (sSet 6 (dFE (dEF (dPr tupleD (dCons (dEF (dLc (dIt (dVar 6)) (bName 7) dYes (el_with_body_0 Φ) [7])) dNil))))) sNil) sNil) (sSeq (sApp 4 (dTup (dCons (dVar 5) (dCons (dVar 6) dNil)))) sNil))
theorem lp_with_body_0_eq (Φ : Nat → Fn) (ρ : EnvD) (M : Store) : lp_with_body_0 Φ ρ M = (sSeq (sIf (dBo (dOp2 eqD (dVarB 5) (dVarB 1))) (sSeq (sSet 6 (dFE (dEF (dPr tupleD (dCons (dEF (dLc (dIt (dVar 6)) (bName 7) dYes (el_with_body_0 Φ) [7])) dNil))))) sNil) sNil) (sSeq (sApp 4 (dTup (dCons (dVar 5) (dCons (dVar 6) dNil)))) sNil)) ρ M := rfl
def m_with_body (Φ : Nat → Fn) : FS := (sSeq (sSet 4 (dLst dNil)) (sSeq (sFor (dIt (dVar 0)) (bTup [5, 6]) (lp_with_body_0 Φ)) (sSeq (sRet (dPr tupleD (dCons (dVarB 4) dNil))) sNil)))
def lp__law_cell_0 (Φ : Nat → Fn) : FS := (sSeq (sSet 4 (dFE (dEF (dOp2 fdivD (dVarB 4) (dC (.int 306783379)))))) sNil)
theorem lp__law_cell_0_eq (Φ : Nat → Fn) (ρ : EnvD) (M : Store) : lp__law_cell_0 Φ ρ M = (sSeq (sSet 4 (dFE (dEF (dOp2 fdivD (dVarB 4) (dC (.int 306783379)))))) sNil) ρ M := rfl
def m__law_cell (Φ : Nat → Fn) : FS := (sSeq (sPutR (dEF (dOp2 addD (dEF (dOp2 idxD (dVarB 1) (dC (.int 0)))) (dC (.int 1)))) (dVarB 1) (dC (.int 0))) (sSeq (sSet 2 (dFE (dEF (dOp2 idxD (dVarB 1) (dC (.int 0)))))) (sSeq (sSet 3 (dFE (dEF (dOp2 addD (dEF (dOp2 mulD (dEF (dOp2 mulD (dC (.int 31)) (dVarB 2))) (dVarB 2))) (dEF (dOp2 mulD (dC (.int 7919)) (dVarB 2))))))) (sSeq (sIf (dAnd (dBo (dOp2 (cmpD fun i j => decide (j < i)) (dEF (dPr lenD (dCons (dVarB 0) dNil))) (dC (.int 0)))) (dAnd (dBo (dOp2 (cmpD fun i j => decide (j ≤ i)) (dEF (dOp2 idxD (dVarB 0) (dEF (dOp2 modD (dVarB 2) (dEF (dPr lenD (dCons (dVarB 0) dNil))))))) (dEF (dOp2 powD (dC (.int 10)) (dC (.int 18)))))) (dBo (dOp2 (cmpD fun i j => decide (i < j)) (dEF (dOp2 fdivD (dVarB 2) (dEF (dPr lenD (dCons (dVarB 0) dNil))))) (dC (.int 60)))))) (sSeq (sSet 4 (dFE (dEF (dOp2 idxD (dVarB 0) (dEF (dOp2 modD (dVarB 2) (dEF (dPr lenD (dCons (dVarB 0) dNil))))))))) (sSeq (sFor (dRng1 (dCons (dEF (dOp2 fdivD (dVarB 2) (dEF (dPr lenD (dCons (dVarB 0) dNil))))) dNil)) (bName 5) (lp__law_cell_0 Φ)) (sSeq (sIf (dBo (dOp2 (cmpD fun i j => decide (j < i)) (dVarB 4) (dC (.int 0)))) (sSeq (sRet (dOp2 modD (dVarB 4) (dC (.int 306783379)))) sNil) sNil) sNil))) sNil) (sSeq (sIf (dBo (dOp2 (cmpD fun i j => decide (j < i)) (dEF (dPr lenD (dCons (dVarB 0) dNil))) (dC (.int 0)))) (sSeq (sSet 3 (dFE (dEF (dOp2 addD (dVarB 3) (dEF (dOp2 mulD (dEF (dOp2 modD (dEF (dOp2 idxD (dVarB 0) (dEF (dOp2 modD (dVarB 2) (dEF (dPr lenD (dCons (dVarB 0) dNil))))))) (dC (.int 2147483629)))) (dEF (dOp2 addD (dC (.int 1)) (dEF (dOp2 fdivD (dVarB 2) (dEF (dPr lenD (dCons (dVarB 0) dNil))))))))))))) sNil) sNil) (sSeq (sRet (dOp2 fdivD (dEF (dOp2 modD (dEF (dOp2 mulD (dEF (dOp2 modD (dEF (dOp2 mulD (dVarB 3) (dC (.int 48271)))) (dC (.int 2147483647)))) (dC (.int 69621)))) (dC (.int 2147483629)))) (dC (.int 7)))) sNil))))))
def el__law_names_0 (Φ : Nat → Fn) : FD := (dEF (dOp2 addD (dEF (dOp2 addD (dC (.str "n")) (dVarB 4))) (dC (.str "or"))))
theorem el__law_names_0_eq (Φ : Nat → Fn) (ρ : EnvD) (M : Store) : el__law_names_0 Φ ρ M = (dEF (dOp2 addD (dEF (dOp2 addD (dC (.str "n")) (dVarB 4))) (dC (.str "or")))) ρ M := rfl
def el__law_names_1 (Φ : Nat → Fn) : FD := (dVar 4)
theorem el__law_names_1_eq (Φ : Nat → Fn) (ρ : EnvD) (M : Store) : el__law_names_1 Φ ρ M = (dVar 4) ρ M := rfl
def el__law_names_2 (Φ : Nat → Fn) : FD := (dEF (dSl slD (dC (.str "graphite")) dNo (dSo (dEF (dOp2 addD (dVarB 3) (dC (.int 1)))))))
theorem el__law_names_2_eq (Φ : Nat → Fn) (ρ : EnvD) (M : Store) : el__law_names_2 Φ ρ M = (dEF (dSl slD (dC (.str "graphite")) dNo (dSo (dEF (dOp2 addD (dVarB 3) (dC (.int 1))))))) ρ M := rfl
def el__law_names_3 (Φ : Nat → Fn) : FD := (dEF (dSl slD (dC (.str "sandwich")) dNo (dSo (dEF (dOp2 addD (dVarB 3) (dC (.int 1)))))))
theorem el__law_names_3_eq (Φ : Nat → Fn) (ρ : EnvD) (M : Store) : el__law_names_3 Φ ρ M = (dEF (dSl slD (dC (.str "sandwich")) dNo (dSo (dEF (dOp2 addD (dVarB 3) (dC (.int 1))))))) ρ M := rfl
def el__law_names_4 (Φ : Nat → Fn) : FD := (dEF (dOp2 idxD (dVarB 2) (dEF (dOp2 modD (dEF (dOp2 addD (dEF (dOp2 fdivD (dVarB 0) (dC (.int 3)))) (dEF (dOp2 mulD (dEF (dOp2 addD (dEF (dOp2 mulD (dC (.int 2)) (dEF (dOp2 modD (dEF (dOp2 fdivD (dVarB 0) (dC (.int 48)))) (dC (.int 8)))))) (dC (.int 1)))) (dVarB 3))))) (dC (.int 16))))))
theorem el__law_names_4_eq (Φ : Nat → Fn) (ρ : EnvD) (M : Store) : el__law_names_4 Φ ρ M = (dEF (dOp2 idxD (dVarB 2) (dEF (dOp2 modD (dEF (dOp2 addD (dEF (dOp2 fdivD (dVarB 0) (dC (.int 3)))) (dEF (dOp2 mulD (dEF (dOp2 addD (dEF (dOp2 mulD (dC (.int 2)) (dEF (dOp2 modD (dEF (dOp2 fdivD (dVarB 0) (dC (.int 48)))) (dC (.int 8)))))) (dC (.int 1)))) (dVarB 3))))) (dC (.int 16)))))) ρ M := rfl
def m__law_names (Φ : Nat → Fn) : FS := (sSeq (sSet 1 (dFE (dC (.str "qzbmxkcwhvjpgyld")))) (sSeq (sSet 2 (dLst (dCons (dEF (dLc (dIt (dVar 1)) (bName 4) dYes (el__law_names_1 Φ) [4])) (dCons (dEF (dLc (dIt (dVar 1)) (bName 4) dYes (el__law_names_0 Φ) [4])) dNil)))) (sSeq (sApp 2 (dEF (dOp2 addD (dEF (dLc (dRng1 (dCons (dC (.int 8)) dNil)) (bName 3) dYes (el__law_names_2 Φ) [3])) (dEF (dLc (dRng1 (dCons (dC (.int 8)) dNil)) (bName 3) dYes (el__law_names_3 Φ) [3]))))) (sSeq (sSet 2 (dOp2 idxD (dVarB 2) (dEF (dOp2 modD (dVarB 0) (dC (.int 3)))))) (sSeq (sRet (dLc (dRng1 (dCons (dC (.int 16)) dNil)) (bName 3) dYes (el__law_names_4 Φ) [3])) sNil)))))
def m__law_number (Φ : Nat → Fn) : FS := (sSeq (sRet (dOp2 idxD (dEF (dLst (dCons (dEF (dOp2 modD (dEF (dOp2 fdivD (dVarB 0) (dC (.int 12)))) (dC (.int 5)))) (dCons (dEF (dOp2 subD (dEF (dOp2 modD (dEF (dOp2 fdivD (dVarB 0) (dC (.int 12)))) (dC (.int 5)))) (dC (.int 2)))) (dCons (dEF (dOp2 modD (dEF (dOp2 fdivD (dVarB 0) (dC (.int 12)))) (dC (.int 100)))) (dCons (dEF (dOp2 idxD (dEF (dLst (dCons (dEF (dOp2 powD (dC (.int 10)) (dC (.int 30)))) (dCons (dEF (dOp1 negD (dEF (dOp2 powD (dC (.int 10)) (dC (.int 30)))))) (dCons (dC (.int 1001)) (dCons (dC (.int 0)) dNil)))))) (dEF (dOp2 modD (dEF (dOp2 fdivD (dVarB 0) (dC (.int 12)))) (dC (.int 4)))))) dNil)))))) (dEF (dOp2 fdivD (dEF (dOp2 modD (dVarB 0) (dC (.int 12)))) (dC (.int 3)))))) sNil)
def m__law_leaf (Φ : Nat → Fn) : FS := (sSeq (sIf (dAnd (dBo (dOp2 neD (dVarB 1) (dEF (dLst dNil)))) (dBo (dOp2 (cmpD fun i j => decide (j < i)) (dEF (dOp2 modD (dVarB 2) (dC (.int 4)))) (dC (.int 0))))) (sSeq (sRet (dFE (dTup (dCons (dC (.str "use")) (dCons (dEF (dOp2 idxD (dVarB 1) (dEF (dOp2 modD (dEF (dOp2 fdivD (dVarB 2) (dC (.int 4)))) (dEF (dPr lenD (dCons (dVarB 1) dNil))))))) dNil))))) sNil) sNil) (sSeq (sRet (dFE (dTup (dCons (dC (.str "num")) (dCons (dEF (dCall 1 (Φ f__law_number) (dCons (dEF (dOp2 fdivD (dVarB 2) (dC (.int 4)))) dNil))) dNil))))) sNil))
def m__law_op (Φ : Nat → Fn) : FS := (sSeq (sSet 6 (dFE (dEF (dOp2 idxD (dC (.str "+-*=</&")) (dEF (dOp2 modD (dVarB 5) (dEF (dOp2 idxD (dEF (dLst (dCons (dC (.int 7)) (dCons (dC (.int 5)) dNil)))) (dEF (dPr intD (dCons (dEF (dOp2 dgetD (dVarB 2) (dC (.str "quiet")))) dNil))))))))))) (sSeq (sSet 7 (dFE (dEF (dCall 5 (Φ f__law_expression) (dCons (dVar 0) (dCons (dVar 1) (dCons (dVar 2) (dCons (dVar 3) (dCons (dEF (dOp2 subD (dVarB 4) (dC (.int 1)))) dNil))))))))) (sSeq (sIf (dBo (dOp2 eqD (dVarB 6) (dC (.str "*")))) (sSeq (sRet (dFE (dTup (dCons (dC (.str "op")) (dCons (dVar 6) (dCons (dVar 7) (dCons (dTup (dCons (dC (.str "num")) (dCons (dEF (dOp2 subD (dEF (dOp2 modD (dEF (dOp2 fdivD (dVarB 5) (dC (.int 7)))) (dC (.int 1000)))) (dC (.int 3)))) dNil))) dNil))))))) sNil) sNil) (sSeq (sRet (dFE (dTup (dCons (dC (.str "op")) (dCons (dVar 6) (dCons (dVar 7) (dCons (dEF (dCall 5 (Φ f__law_expression) (dCons (dVar 0) (dCons (dVar 1) (dCons (dVar 2) (dCons (dVar 3) (dCons (dEF (dOp2 subD (dVarB 4) (dC (.int 1)))) dNil))))))) dNil))))))) sNil))))
def el__law_times_0 (Φ : Nat → Fn) : FD := (dVar 14)
theorem el__law_times_0_eq (Φ : Nat → Fn) (ρ : EnvD) (M : Store) : el__law_times_0 Φ ρ M = (dVar 14) ρ M := rfl
def cd__law_times_0 (Φ : Nat → Fn) : FB := (dBo (dOp2 notInD (dVarB 14) (dTup (dCons (dEF (dOp2 idxD (dVarB 6) (dVarB 12))) (dCons (dEF (dOp2 idxD (dVarB 6) (dVarB 7))) dNil)))))
theorem cd__law_times_0_eq (Φ : Nat → Fn) (ρ : EnvD) (M : Store) : cd__law_times_0 Φ ρ M = (dBo (dOp2 notInD (dVarB 14) (dTup (dCons (dEF (dOp2 idxD (dVarB 6) (dVarB 12))) (dCons (dEF (dOp2 idxD (dVarB 6) (dVarB 7))) dNil))))) ρ M := rfl
def m__law_times (Φ : Nat → Fn) : FS := (sSeq (sSet 6 (dFE (dEF (dOp2 dgetD (dVarB 2) (dC (.str "names")))))) (sSeq (sAsg (bTup [12, 13]) (dTup (dCons (dEF (dOp2 modD (dEF (dOp2 fdivD (dVarB 5) (dC (.int 7)))) (dC (.int 5)))) (dCons (dEF (dOp2 modD (dEF (dOp2 fdivD (dVarB 5) (dC (.int 35)))) (dC (.int 4)))) dNil)))) (sSeq (sSet 7 (dFE (dEF (dOp2 modD (dEF (dOp2 addD (dEF (dOp2 addD (dVarB 12) (dC (.int 1)))) (dVarB 13))) (dC (.int 5)))))) (sSeq (sSet 8 (dFE (dTup (dCons (dC (.str "num")) (dCons (dEF (dOp2 modD (dVarB 5) (dC (.int 4)))) dNil))))) (sSeq (sIf (dAnd (dNot (dTru (dEF (dOp2 dgetD (dVarB 2) (dC (.str "quiet")))))) (dBo (dOp2 eqD (dEF (dOp2 modD (dEF (dOp2 fdivD (dVarB 5) (dC (.int 140)))) (dC (.int 3)))) (dC (.int 1))))) (sSeq (sSet 8 (dFE (dTup (dCons (dC (.str "op")) (dCons (dC (.str "&")) (dCons (dEF (dCall 5 (Φ f__law_expression) (dCons (dVar 0) (dCons (dVar 1) (dCons (dVar 2) (dCons (dVar 3) (dCons (dEF (dOp2 subD (dVarB 4) (dC (.int 2)))) dNil))))))) (dCons (dTup (dCons (dC (.str "num")) (dCons (dC (.int 4)) dNil))) dNil))))))) sNil) (sSeq (sIf (dAnd (dNot (dTru (dEF (dOp2 dgetD (dVarB 2) (dC (.str "quiet")))))) (dBo (dOp2 eqD (dEF (dOp2 modD (dEF (dOp2 fdivD (dVarB 5) (dC (.int 140)))) (dC (.int 12)))) (dC (.int 2))))) (sSeq (sSet 8 (dFE (dTup (dCons (dC (.str "num")) (dCons (dEF (dOp2 addD (dC (.int 1000)) (dEF (dOp2 modD (dEF (dOp2 fdivD (dVarB 5) (dC (.int 1680)))) (dC (.int 3)))))) dNil))))) sNil) sNil) sNil)) (sSeq (sSet 9 (dFE (dEF (dCall 5 (Φ f__law_expression) (dCons (dVar 0) (dCons (dVar 1) (dCons (dVar 2) (dCons (dVar 3) (dCons (dEF (dOp2 subD (dVarB 4) (dC (.int 1)))) dNil))))))))) (sSeq (sSet 10 (dFE (dEF (dOp2 addD (dEF (dLc (dIt (dVar 3)) (bName 14) (cd__law_times_0 Φ) (el__law_times_0 Φ) [14])) (dEF (dLst (dCons (dEF (dOp2 idxD (dVarB 6) (dVarB 12))) (dCons (dEF (dOp2 idxD (dVarB 6) (dVarB 7))) dNil)))))))) (sSeq (sSet 11 (dFE (dEF (dCall 5 (Φ f__law_expression) (dCons (dVar 0) (dCons (dVar 1) (dCons (dVar 2) (dCons (dVar 10) (dCons (dEF (dOp2 subD (dVarB 4) (dC (.int 1)))) dNil))))))))) (sSeq (sRet (dFE (dTup (dCons (dC (.str "times")) (dCons (dVar 8) (dCons (dEF (dOp2 idxD (dVarB 6) (dVarB 12))) (dCons (dEF (dOp2 idxD (dVarB 6) (dVarB 7))) (dCons (dVar 9) (dCons (dVar 11) dNil))))))))) sNil)))))))))
def el__law_call_0 (Φ : Nat → Fn) : FD := (dVar 11)
theorem el__law_call_0_eq (Φ : Nat → Fn) (ρ : EnvD) (M : Store) : el__law_call_0 Φ ρ M = (dVar 11) ρ M := rfl
def cd__law_call_0 (Φ : Nat → Fn) : FB := (dOr (dTru (dEF (dOp2 idxD (dVarB 11) (dC (.int 3))))) (dNot (dTru (dEF (dOp2 dgetD (dVarB 2) (dC (.str "quiet")))))))
theorem cd__law_call_0_eq (Φ : Nat → Fn) (ρ : EnvD) (M : Store) : cd__law_call_0 Φ ρ M = (dOr (dTru (dEF (dOp2 idxD (dVarB 11) (dC (.int 3))))) (dNot (dTru (dEF (dOp2 dgetD (dVarB 2) (dC (.str "quiet"))))))) ρ M := rfl
def el__law_call_1 (Φ : Nat → Fn) : FD := (dEF (dCall 5 (Φ f__law_expression) (dCons (dVar 0) (dCons (dVar 1) (dCons (dVar 2) (dCons (dVar 3) (dCons (dEF (dOp2 subD (dVarB 4) (dC (.int 1)))) dNil)))))))
theorem el__law_call_1_eq (Φ : Nat → Fn) (ρ : EnvD) (M : Store) : el__law_call_1 Φ ρ M = (dEF (dCall 5 (Φ f__law_expression) (dCons (dVar 0) (dCons (dVar 1) (dCons (dVar 2) (dCons (dVar 3) (dCons (dEF (dOp2 subD (dVarB 4) (dC (.int 1)))) dNil))))))) ρ M := rfl
def m__law_call (Φ : Nat → Fn) : FS := (sSeq (sSet 6 (dLc (dIt (dEF (dOp2 dgetD (dVarB 2) (dC (.str "ahead"))))) (bName 11) (cd__law_call_0 Φ) (el__law_call_0 Φ) [11])) (sSeq (sIf (dBo (dOp2 eqD (dVarB 6) (dEF (dLst dNil)))) (sSeq (sRet (dCall 3 (Φ f__law_leaf) (dCons (dVar 2) (dCons (dVar 3) (dCons (dVar 5) dNil))))) sNil) sNil) (sSeq (sAsg (bTup [7, 8, 9, 10]) (dEF (dOp2 idxD (dVarB 6) (dEF (dOp2 modD (dVarB 5) (dEF (dPr lenD (dCons (dVarB 6) dNil)))))))) (sSeq (sRet (dFE (dTup (dCons (dC (.str "call")) (dCons (dVar 7) (dCons (dVar 8) (dCons (dEF (dPr tupleD (dCons (dEF (dLc (dRng1 (dCons (dVarB 9) dNil)) (bName 12) dYes (el__law_call_1 Φ) [12])) dNil))) dNil))))))) sNil))))
def el__law_expression_0 (Φ : Nat → Fn) : FD := (dVar 11)
theorem el__law_expression_0_eq (Φ : Nat → Fn) (ρ : EnvD) (M : Store) : el__law_expression_0 Φ ρ M = (dVar 11) ρ M := rfl
def cd__law_expression_0 (Φ : Nat → Fn) : FB := (dBo (dOp2 neD (dVarB 11) (dVarB 8)))
theorem cd__law_expression_0_eq (Φ : Nat → Fn) (ρ : EnvD) (M : Store) : cd__law_expression_0 Φ ρ M = (dBo (dOp2 neD (dVarB 11) (dVarB 8))) ρ M := rfl
def el__law_expression_1 (Φ : Nat → Fn) : FD := (dEF (dCall 5 (Φ f__law_expression) (dCons (dVar 0) (dCons (dVar 1) (dCons (dVar 2) (dCons (dVar 3) (dCons (dEF (dOp2 subD (dVarB 4) (dC (.int 1)))) dNil)))))))
theorem el__law_expression_1_eq (Φ : Nat → Fn) (ρ : EnvD) (M : Store) : el__law_expression_1 Φ ρ M = (dEF (dCall 5 (Φ f__law_expression) (dCons (dVar 0) (dCons (dVar 1) (dCons (dVar 2) (dCons (dVar 3) (dCons (dEF (dOp2 subD (dVarB 4) (dC (.int 1)))) dNil))))))) ρ M := rfl
def m__law_expression (Φ : Nat → Fn) : FS := (sSeq (sSet 5 (dFE (dEF (dCall 2 (Φ f__law_cell) (dCons (dVar 0) (dCons (dVar 1) dNil)))))) (sSeq (sPar 6 7 (dCons (dEF (dOp2 modD (dVarB 5) (dC (.int 16)))) (dCons (dEF (dOp2 fdivD (dVarB 5) (dC (.int 16)))) dNil))) (sSeq (sIf (dOr (dBo (dOp2 (cmpD fun i j => decide (i < j)) (dVarB 4) (dC (.int 2)))) (dBo (dOp2 (cmpD fun i j => decide (i < j)) (dVarB 6) (dC (.int 3))))) (sSeq (sRet (dCall 3 (Φ f__law_leaf) (dCons (dVar 2) (dCons (dVar 3) (dCons (dVar 7) dNil))))) sNil) sNil) (sSeq (sIf (dBo (dOp2 (cmpD fun i j => decide (i < j)) (dVarB 6) (dC (.int 5)))) (sSeq (sRet (dCall 6 (Φ f__law_call) (dCons (dVar 0) (dCons (dVar 1) (dCons (dVar 2) (dCons (dVar 3) (dCons (dVar 4) (dCons (dVar 7) dNil)))))))) sNil) sNil) (sSeq (sIf (dBo (dOp2 eqD (dVarB 6) (dC (.int 5)))) (sSeq (sRet (dCall 6 (Φ f__law_times) (dCons (dVar 0) (dCons (dVar 1) (dCons (dVar 2) (dCons (dVar 3) (dCons (dVar 4) (dCons (dVar 7) dNil)))))))) sNil) sNil) (sSeq (sIf (dBo (dOp2 (cmpD fun i j => decide (i < j)) (dVarB 6) (dC (.int 9)))) (sSeq (sSet 8 (dFE (dEF (dOp2 idxD (dEF (dOp2 dgetD (dVarB 2) (dC (.str "names")))) (dEF (dOp2 modD (dVarB 7) (dC (.int 5)))))))) (sSeq (sSet 9 (dFE (dEF (dCall 5 (Φ f__law_expression) (dCons (dVar 0) (dCons (dVar 1) (dCons (dVar 2) (dCons (dVar 3) (dCons (dEF (dOp2 subD (dVarB 4) (dC (.int 1)))) dNil))))))))) (sSeq (sSet 10 (dFE (dEF (dOp2 addD (dEF (dLc (dIt (dVar 3)) (bName 11) (cd__law_expression_0 Φ) (el__law_expression_0 Φ) [11])) (dEF (dLst (dCons (dVar 8) dNil))))))) (sSeq (sRet (dFE (dTup (dCons (dC (.str "let")) (dCons (dVar 8) (dCons (dVar 9) (dCons (dEF (dCall 5 (Φ f__law_expression) (dCons (dVar 0) (dCons (dVar 1) (dCons (dVar 2) (dCons (dVar 10) (dCons (dEF (dOp2 subD (dVarB 4) (dC (.int 1)))) dNil))))))) dNil))))))) sNil)))) sNil) (sSeq (sIf (dBo (dOp2 eqD (dVarB 6) (dC (.int 9)))) (sSeq (sRet (dOp2 addD (dTup (dCons (dC (.str "if")) dNil)) (dEF (dPr tupleD (dCons (dEF (dLc (dRng1 (dCons (dC (.int 3)) dNil)) (bName 12) dYes (el__law_expression_1 Φ) [12])) dNil))))) sNil) sNil) (sSeq (sIf (dAnd (dBo (dOp2 (cmpD fun i j => decide (i < j)) (dVarB 6) (dC (.int 12)))) (dNot (dTru (dEF (dOp2 dgetD (dVarB 2) (dC (.str "quiet"))))))) (sSeq (sSet 9 (dFE (dEF (dCall 5 (Φ f__law_expression) (dCons (dVar 0) (dCons (dVar 1) (dCons (dVar 2) (dCons (dVar 3) (dCons (dEF (dOp2 subD (dVarB 4) (dC (.int 1)))) dNil))))))))) (sSeq (sRet (dFE (dTup (dCons (dC (.str "tell")) (dCons (dVar 9) (dCons (dEF (dCall 5 (Φ f__law_expression) (dCons (dVar 0) (dCons (dVar 1) (dCons (dVar 2) (dCons (dVar 3) (dCons (dEF (dOp2 subD (dVarB 4) (dC (.int 1)))) dNil))))))) dNil)))))) sNil)) sNil) (sSeq (sIf (dAnd (dBo (dOp2 eqD (dVarB 6) (dC (.int 12)))) (dAnd (dNot (dTru (dEF (dOp2 dgetD (dVarB 2) (dC (.str "quiet")))))) (dBo (dOp2 eqD (dEF (dOp2 modD (dVarB 7) (dC (.int 4)))) (dC (.int 1)))))) (sSeq (sRet (dFE (dTup (dCons (dC (.str "stop")) (dCons (dEF (dCall 5 (Φ f__law_expression) (dCons (dVar 0) (dCons (dVar 1) (dCons (dVar 2) (dCons (dVar 3) (dCons (dEF (dOp2 subD (dVarB 4) (dC (.int 1)))) dNil))))))) dNil))))) sNil) sNil) (sSeq (sRet (dCall 6 (Φ f__law_op) (dCons (dVar 0) (dCons (dVar 1) (dCons (dVar 2) (dCons (dVar 3) (dCons (dVar 4) (dCons (dVar 7) dNil)))))))) sNil))))))))))
def el__law_program_0 (Φ : Nat → Fn) : FD := (dEF (dOp2 idxD (dVarB 7) (dEF (dOp2 modD (dEF (dOp2 addD (dVarB 11) (dEF (dOp2 mulD (dC (.int 3)) (dVarB 16))))) (dC (.int 5))))))
theorem el__law_program_0_eq (Φ : Nat → Fn) (ρ : EnvD) (M : Store) : el__law_program_0 Φ ρ M = (dEF (dOp2 idxD (dVarB 7) (dEF (dOp2 modD (dEF (dOp2 addD (dVarB 11) (dEF (dOp2 mulD (dC (.int 3)) (dVarB 16))))) (dC (.int 5)))))) ρ M := rfl
def lp__law_program_0 (Φ : Nat → Fn) : FS := (sSeq (sSet 11 (dFE (dEF (dCall 2 (Φ f__law_cell) (dCons (dVar 0) (dCons (dVar 1) dNil)))))) (sSeq (sSet 12 (dLc (dRng1 (dCons (dEF (dOp2 modD (dEF (dOp2 fdivD (dVarB 11) (dC (.int 5)))) (dC (.int 4)))) dNil)) (bName 16) dYes (el__law_program_0 Φ) [16])) (sSeq (sSet 13 (dFE (dDisp ["names", "ahead", "quiet"] [(dVar 7), (dVar 4), (dEF (dOp2 eqD (dEF (dOp2 modD (dEF (dOp2 fdivD (dVarB 11) (dC (.int 20)))) (dC (.int 3)))) (dC (.int 0))))]))) (sSeq (sFz 12 (sSet 14 (dFE (dEF (dCall 5 (Φ f__law_expression) (dCons (dVar 0) (dCons (dVar 1) (dCons (dVar 13) (dCons (dVar 12) (dCons (dEF (dOp2 addD (dC (.int 2)) (dEF (dOp2 modD (dEF (dOp2 fdivD (dVarB 11) (dC (.int 60)))) (dC (.int 4)))))) dNil)))))))))) (sSeq (sSet 15 (dFE (dEF (dOp2 idxD (dVarB 8) (dEF (dOp2 modD (dEF (dOp2 addD (dEF (dOp2 addD (dEF (dOp2 modD (dEF (dOp2 fdivD (dVarB 11) (dC (.int 240)))) (dC (.int 3)))) (dC (.int 5)))) (dEF (dOp2 mulD (dC (.int 3)) (dVarB 10))))) (dC (.int 16)))))))) (sSeq (sApp 9 (dTup (dCons (dVar 15) (dCons (dEF (dPr tupleD (dCons (dVarB 12) dNil))) (dCons (dVar 14) dNil))))) (sSeq (sSet 4 (dFE (dEF (dOp2 addD (dVarB 4) (dEF (dLst (dCons (dTup (dCons (dEF (dOp2 idxD (dVarB 8) (dVarB 6))) (dCons (dVar 15) (dCons (dEF (dPr lenD (dCons (dVarB 12) dNil))) (dCons (dEF (dOp2 dgetD (dVarB 13) (dC (.str "quiet")))) dNil))))) dNil))))))) sNil)))))))
theorem lp__law_program_0_eq (Φ : Nat → Fn) (ρ : EnvD) (M : Store) : lp__law_program_0 Φ ρ M = (sSeq (sSet 11 (dFE (dEF (dCall 2 (Φ f__law_cell) (dCons (dVar 0) (dCons (dVar 1) dNil)))))) (sSeq (sSet 12 (dLc (dRng1 (dCons (dEF (dOp2 modD (dEF (dOp2 fdivD (dVarB 11) (dC (.int 5)))) (dC (.int 4)))) dNil)) (bName 16) dYes (el__law_program_0 Φ) [16])) (sSeq (sSet 13 (dFE (dDisp ["names", "ahead", "quiet"] [(dVar 7), (dVar 4), (dEF (dOp2 eqD (dEF (dOp2 modD (dEF (dOp2 fdivD (dVarB 11) (dC (.int 20)))) (dC (.int 3)))) (dC (.int 0))))]))) (sSeq (sFz 12 (sSet 14 (dFE (dEF (dCall 5 (Φ f__law_expression) (dCons (dVar 0) (dCons (dVar 1) (dCons (dVar 13) (dCons (dVar 12) (dCons (dEF (dOp2 addD (dC (.int 2)) (dEF (dOp2 modD (dEF (dOp2 fdivD (dVarB 11) (dC (.int 60)))) (dC (.int 4)))))) dNil)))))))))) (sSeq (sSet 15 (dFE (dEF (dOp2 idxD (dVarB 8) (dEF (dOp2 modD (dEF (dOp2 addD (dEF (dOp2 addD (dEF (dOp2 modD (dEF (dOp2 fdivD (dVarB 11) (dC (.int 240)))) (dC (.int 3)))) (dC (.int 5)))) (dEF (dOp2 mulD (dC (.int 3)) (dVarB 10))))) (dC (.int 16)))))))) (sSeq (sApp 9 (dTup (dCons (dVar 15) (dCons (dEF (dPr tupleD (dCons (dVarB 12) dNil))) (dCons (dVar 14) dNil))))) (sSeq (sSet 4 (dFE (dEF (dOp2 addD (dVarB 4) (dEF (dLst (dCons (dTup (dCons (dEF (dOp2 idxD (dVarB 8) (dVarB 6))) (dCons (dVar 15) (dCons (dEF (dPr lenD (dCons (dVarB 12) dNil))) (dCons (dEF (dOp2 dgetD (dVarB 13) (dC (.str "quiet")))) dNil))))) dNil))))))) sNil))))))) ρ M := rfl
def lp__law_program_1 (Φ : Nat → Fn) : FS := (sSeq (sSet 9 (dLst dNil)) (sSeq (sFor (dRng1 (dCons (dEF (dPr max2D (dCons (dEF (dPr intD (dCons (dEF (dOp2 eqD (dVarB 6) (dC (.int 0)))) dNil))) (dCons (dEF (dOp2 modD (dEF (dOp2 fdivD (dEF (dCall 2 (Φ f__law_cell) (dCons (dVar 0) (dCons (dVar 1) dNil)))) (dC (.int 5)))) (dEF (dOp2 addD (dVarB 2) (dC (.int 1)))))) dNil)))) dNil)) (bName 10) (lp__law_program_0 Φ)) (sSeq (sApp 5 (dTup (dCons (dEF (dOp2 idxD (dVarB 8) (dVarB 6))) (dCons (dEF (dPr tupleD (dCons (dVarB 9) dNil))) dNil)))) sNil)))
theorem lp__law_program_1_eq (Φ : Nat → Fn) (ρ : EnvD) (M : Store) : lp__law_program_1 Φ ρ M = (sSeq (sSet 9 (dLst dNil)) (sSeq (sFor (dRng1 (dCons (dEF (dPr max2D (dCons (dEF (dPr intD (dCons (dEF (dOp2 eqD (dVarB 6) (dC (.int 0)))) dNil))) (dCons (dEF (dOp2 modD (dEF (dOp2 fdivD (dEF (dCall 2 (Φ f__law_cell) (dCons (dVar 0) (dCons (dVar 1) dNil)))) (dC (.int 5)))) (dEF (dOp2 addD (dVarB 2) (dC (.int 1)))))) dNil)))) dNil)) (bName 10) (lp__law_program_0 Φ)) (sSeq (sApp 5 (dTup (dCons (dEF (dOp2 idxD (dVarB 8) (dVarB 6))) (dCons (dEF (dPr tupleD (dCons (dVarB 9) dNil))) dNil)))) sNil))) ρ M := rfl
def m__law_program (Φ : Nat → Fn) : FS := (sSeq (sSet 3 (dFE (dEF (dCall 2 (Φ f__law_cell) (dCons (dVar 0) (dCons (dVar 1) dNil)))))) (sSeq (sAsg (bTup [7, 8]) (dTup (dCons (dEF (dCall 1 (Φ f__law_names) (dCons (dVar 3) dNil))) (dCons (dEF (dCall 1 (Φ f__law_names) (dCons (dEF (dOp2 fdivD (dVarB 3) (dC (.int 7)))) dNil))) dNil)))) (sSeq (sSet 4 (dFE (dEF (dLst dNil)))) (sSeq (sSet 5 (dLst dNil)) (sSeq (sFor (dRng1 (dCons (dEF (dOp2 addD (dC (.int 1)) (dEF (dOp2 modD (dEF (dOp2 fdivD (dVarB 3) (dC (.int 384)))) (dC (.int 3)))))) dNil)) (bName 6) (lp__law_program_1 Φ)) (sSeq (sRet (dPr tupleD (dCons (dVarB 5) dNil))) sNil))))))
def lp__law_due_0 (Φ : Nat → Fn) : FS := (sSeq (sApp 1 (dTup (dCons (dVar 2) (dCons (dVar 4) (dCons (dVar 5) (dCons (dVar 6) dNil)))))) sNil)
theorem lp__law_due_0_eq (Φ : Nat → Fn) (ρ : EnvD) (M : Store) : lp__law_due_0 Φ ρ M = (sSeq (sApp 1 (dTup (dCons (dVar 2) (dCons (dVar 4) (dCons (dVar 5) (dCons (dVar 6) dNil)))))) sNil) ρ M := rfl
def lp__law_due_1 (Φ : Nat → Fn) : FS := (sSeq (sFor (dIt (dVar 3)) (bTup [4, 5, 6]) (lp__law_due_0 Φ)) sNil)
theorem lp__law_due_1_eq (Φ : Nat → Fn) (ρ : EnvD) (M : Store) : lp__law_due_1 Φ ρ M = (sSeq (sFor (dIt (dVar 3)) (bTup [4, 5, 6]) (lp__law_due_0 Φ)) sNil) ρ M := rfl
def m__law_due (Φ : Nat → Fn) : FS := (sSeq (sSet 1 (dLst dNil)) (sSeq (sFor (dIt (dVar 0)) (bTup [2, 3]) (lp__law_due_1 Φ)) (sSeq (sRetV 1) sNil)))
def lp__law_changed_0 (Φ : Nat → Fn) : FS := (sSeq (sApp 7 (dTup (dCons (dVar 8) (dCons (dVar 9) (dCons (dEF (dIf (dBo (dOp2 eqD (dTup (dCons (dVar 5) (dCons (dVar 8) dNil))) (dTup (dCons (dVar 1) (dCons (dVar 2) dNil))))) (dFE (dVar 3)) (dFE (dVar 10)))) dNil))))) sNil)
theorem lp__law_changed_0_eq (Φ : Nat → Fn) (ρ : EnvD) (M : Store) : lp__law_changed_0 Φ ρ M = (sSeq (sApp 7 (dTup (dCons (dVar 8) (dCons (dVar 9) (dCons (dEF (dIf (dBo (dOp2 eqD (dTup (dCons (dVar 5) (dCons (dVar 8) dNil))) (dTup (dCons (dVar 1) (dCons (dVar 2) dNil))))) (dFE (dVar 3)) (dFE (dVar 10)))) dNil))))) sNil) ρ M := rfl
def lp__law_changed_1 (Φ : Nat → Fn) : FS := (sSeq (sSet 7 (dLst dNil)) (sSeq (sFor (dIt (dVar 6)) (bTup [8, 9, 10]) (lp__law_changed_0 Φ)) (sSeq (sApp 4 (dTup (dCons (dVar 5) (dCons (dEF (dPr tupleD (dCons (dVarB 7) dNil))) dNil)))) sNil)))
theorem lp__law_changed_1_eq (Φ : Nat → Fn) (ρ : EnvD) (M : Store) : lp__law_changed_1 Φ ρ M = (sSeq (sSet 7 (dLst dNil)) (sSeq (sFor (dIt (dVar 6)) (bTup [8, 9, 10]) (lp__law_changed_0 Φ)) (sSeq (sApp 4 (dTup (dCons (dVar 5) (dCons (dEF (dPr tupleD (dCons (dVarB 7) dNil))) dNil)))) sNil))) ρ M := rfl
def m__law_changed (Φ : Nat → Fn) : FS := (sSeq (sSet 4 (dLst dNil)) (sSeq (sFor (dIt (dVar 0)) (bTup [5, 6]) (lp__law_changed_1 Φ)) (sSeq (sRet (dPr tupleD (dCons (dVarB 4) dNil))) sNil)))
def lp_law_0 (Φ : Nat → Fn) : FS := (sSeq (sSet 10 (dCall 1 (Φ f_functions) (dCons (dVar 4) dNil))) (sSeq (sIf (dOr (dNot (dTru (dEF (dOp1 (isiD "list") (dVarB 10))))) (dBo (dOp2 neD (dEF (dPr reprD (dCons (dVarB 10) dNil))) (dEF (dPr reprD (dCons (dVarB 5) dNil)))))) (sSeq (sRet (dFE (dC (.bl false)))) sNil) sNil) (sSeq (sApp 10 (dC .non)) sNil)))
theorem lp_law_0_eq (Φ : Nat → Fn) (ρ : EnvD) (M : Store) : lp_law_0 Φ ρ M = (sSeq (sSet 10 (dCall 1 (Φ f_functions) (dCons (dVar 4) dNil))) (sSeq (sIf (dOr (dNot (dTru (dEF (dOp1 (isiD "list") (dVarB 10))))) (dBo (dOp2 neD (dEF (dPr reprD (dCons (dVarB 10) dNil))) (dEF (dPr reprD (dCons (dVarB 5) dNil)))))) (sSeq (sRet (dFE (dC (.bl false)))) sNil) sNil) (sSeq (sApp 10 (dC .non)) sNil))) ρ M := rfl
def el_law_0 (Φ : Nat → Fn) : FD := (dVar 8)
theorem el_law_0_eq (Φ : Nat → Fn) (ρ : EnvD) (M : Store) : el_law_0 Φ ρ M = (dVar 8) ρ M := rfl
def el_law_1 (Φ : Nat → Fn) : FD := (dEF (dOp2 idxD (dVarB 16) (dC (.int 1))))
theorem el_law_1_eq (Φ : Nat → Fn) (ρ : EnvD) (M : Store) : el_law_1 Φ ρ M = (dEF (dOp2 idxD (dVarB 16) (dC (.int 1)))) ρ M := rfl
def el_law_2 (Φ : Nat → Fn) : FD := (dEF (dSl slD (dVarB 16) (dSo (dC (.int 2))) dNo))
theorem el_law_2_eq (Φ : Nat → Fn) (ρ : EnvD) (M : Store) : el_law_2 Φ ρ M = (dEF (dSl slD (dVarB 16) (dSo (dC (.int 2))) dNo)) ρ M := rfl
def cd_law_0 (Φ : Nat → Fn) : FB := (dBo (dOp2 eqD (dEF (dSl slD (dVarB 16) dNo (dSo (dC (.int 2))))) (dTup (dCons (dVar 8) (dCons (dVar 11) dNil)))))
theorem cd_law_0_eq (Φ : Nat → Fn) (ρ : EnvD) (M : Store) : cd_law_0 Φ ρ M = (dBo (dOp2 eqD (dEF (dSl slD (dVarB 16) dNo (dSo (dC (.int 2))))) (dTup (dCons (dVar 8) (dCons (dVar 11) dNil))))) ρ M := rfl
def lp_law_1 (Φ : Nat → Fn) : FS := (sSeq (sSet 14 (dFE (dEF (dOp2 addD (dEF (dLc (dIt (dVar 5)) (bName 16) (cd_law_0 Φ) (el_law_2 Φ) [16])) (dEF (dLst (dCons (dC .non) dNil))))))) (sSeq (sIf (dBo (dOp2 neD (dEF (dPr reprD (dCons (dEF (dCall 3 (Φ f_function) (dCons (dVar 4) (dCons (dVar 8) (dCons (dVar 11) dNil))))) dNil))) (dEF (dPr reprD (dCons (dEF (dOp2 idxD (dVarB 14) (dC (.int 0)))) dNil))))) (sSeq (sRet (dFE (dC (.bl false)))) sNil) sNil) sNil))
theorem lp_law_1_eq (Φ : Nat → Fn) (ρ : EnvD) (M : Store) : lp_law_1 Φ ρ M = (sSeq (sSet 14 (dFE (dEF (dOp2 addD (dEF (dLc (dIt (dVar 5)) (bName 16) (cd_law_0 Φ) (el_law_2 Φ) [16])) (dEF (dLst (dCons (dC .non) dNil))))))) (sSeq (sIf (dBo (dOp2 neD (dEF (dPr reprD (dCons (dEF (dCall 3 (Φ f_function) (dCons (dVar 4) (dCons (dVar 8) (dCons (dVar 11) dNil))))) dNil))) (dEF (dPr reprD (dCons (dEF (dOp2 idxD (dVarB 14) (dC (.int 0)))) dNil))))) (sSeq (sRet (dFE (dC (.bl false)))) sNil) sNil) sNil)) ρ M := rfl
def lp_law_2 (Φ : Nat → Fn) : FS := (sSeq (sFor (dIt (dEF (dOp2 addD (dEF (dLc (dIt (dVar 5)) (bName 16) dYes (el_law_1 Φ) [16])) (dEF (dLst (dCons (dC (.str "zzz")) dNil)))))) (bName 11) (lp_law_1 Φ)) sNil)
theorem lp_law_2_eq (Φ : Nat → Fn) (ρ : EnvD) (M : Store) : lp_law_2 Φ ρ M = (sSeq (sFor (dIt (dEF (dOp2 addD (dEF (dLc (dIt (dVar 5)) (bName 16) dYes (el_law_1 Φ) [16])) (dEF (dLst (dCons (dC (.str "zzz")) dNil)))))) (bName 11) (lp_law_1 Φ)) sNil) ρ M := rfl
def lp_law_3 (Φ : Nat → Fn) : FS := (sSeq (sIf (dBo (dOp2 neD (dEF (dPr reprD (dCons (dEF (dCall 4 (Φ f_with_body) (dCons (dVar 4) (dCons (dVar 8) (dCons (dVar 11) (dCons (dVar 9) dNil)))))) dNil))) (dEF (dPr reprD (dCons (dEF (dCall 4 (Φ f__law_changed) (dCons (dVar 4) (dCons (dVar 8) (dCons (dVar 11) (dCons (dVar 9) dNil)))))) dNil))))) (sSeq (sRet (dFE (dC (.bl false)))) sNil) sNil) sNil)
theorem lp_law_3_eq (Φ : Nat → Fn) (ρ : EnvD) (M : Store) : lp_law_3 Φ ρ M = (sSeq (sIf (dBo (dOp2 neD (dEF (dPr reprD (dCons (dEF (dCall 4 (Φ f_with_body) (dCons (dVar 4) (dCons (dVar 8) (dCons (dVar 11) (dCons (dVar 9) dNil)))))) dNil))) (dEF (dPr reprD (dCons (dEF (dCall 4 (Φ f__law_changed) (dCons (dVar 4) (dCons (dVar 8) (dCons (dVar 11) (dCons (dVar 9) dNil)))))) dNil))))) (sSeq (sRet (dFE (dC (.bl false)))) sNil) sNil) sNil) ρ M := rfl
def lp_law_4 (Φ : Nat → Fn) : FS := (sSeq (sSet 4 (dFE (dEF (dCall 3 (Φ f__law_program) (dCons (dVar 2) (dCons (dVar 3) (dCons (dC (.int 4)) dNil))))))) (sSeq (sSet 5 (dFE (dEF (dCall 1 (Φ f__law_due) (dCons (dVar 4) dNil))))) (sSeq (sFor (dRng1 (dCons (dC (.int 2)) dNil)) (bName 6) (lp_law_0 Φ)) (sSeq (sSet 7 (dFE (dEF (dOp2 addD (dEF (dLc (dIt (dVar 4)) (bTup [8, 15]) dYes (el_law_0 Φ) [8, 15])) (dEF (dLst (dCons (dC (.str "zzz")) dNil))))))) (sSeq (sFor (dIt (dVar 7)) (bName 8) (lp_law_2 Φ)) (sSeq (sAsg (bTup [8, 11, 12, 13]) (dEF (dOp2 idxD (dVarB 5) (dEF (dOp2 modD (dEF (dCall 2 (Φ f__law_cell) (dCons (dVar 2) (dCons (dVar 3) dNil)))) (dEF (dPr lenD (dCons (dVarB 5) dNil)))))))) (sSeq (sFor (dIt (dTup (dCons (dTup (dCons (dC (.str "num")) (dCons (dVar 1) dNil))) (dCons (dVar 13) (dCons (dTup (dCons (dC (.str "stop")) (dCons (dVar 13) dNil))) dNil))))) (bName 9) (lp_law_3 Φ)) sNil)))))))
theorem lp_law_4_eq (Φ : Nat → Fn) (ρ : EnvD) (M : Store) : lp_law_4 Φ ρ M = (sSeq (sSet 4 (dFE (dEF (dCall 3 (Φ f__law_program) (dCons (dVar 2) (dCons (dVar 3) (dCons (dC (.int 4)) dNil))))))) (sSeq (sSet 5 (dFE (dEF (dCall 1 (Φ f__law_due) (dCons (dVar 4) dNil))))) (sSeq (sFor (dRng1 (dCons (dC (.int 2)) dNil)) (bName 6) (lp_law_0 Φ)) (sSeq (sSet 7 (dFE (dEF (dOp2 addD (dEF (dLc (dIt (dVar 4)) (bTup [8, 15]) dYes (el_law_0 Φ) [8, 15])) (dEF (dLst (dCons (dC (.str "zzz")) dNil))))))) (sSeq (sFor (dIt (dVar 7)) (bName 8) (lp_law_2 Φ)) (sSeq (sAsg (bTup [8, 11, 12, 13]) (dEF (dOp2 idxD (dVarB 5) (dEF (dOp2 modD (dEF (dCall 2 (Φ f__law_cell) (dCons (dVar 2) (dCons (dVar 3) dNil)))) (dEF (dPr lenD (dCons (dVarB 5) dNil)))))))) (sSeq (sFor (dIt (dTup (dCons (dTup (dCons (dC (.str "num")) (dCons (dVar 1) dNil))) (dCons (dVar 13) (dCons (dTup (dCons (dC (.str "stop")) (dCons (dVar 13) dNil))) dNil))))) (bName 9) (lp_law_3 Φ)) sNil))))))) ρ M := rfl
def m_law (Φ : Nat → Fn) : FS := (sSeq (sPar 2 3 (dCons (dEF (dPr listD (dCons (dVarB 0) dNil))) (dCons (dEF (dRef (dLst (dCons (dEF (dOp1 negD (dC (.int 1)))) dNil)))) dNil))) (sSeq (sFor (dRng1 (dCons (dEF (dOp2 addD (dC (.int 1)) (dEF (dPr min2D (dCons (dC (.int 11)) (dCons (dEF (dPr lenD (dCons (dVarB 0) dNil))) dNil)))))) dNil)) (bName 1) (lp_law_4 Φ)) (sSeq (sRet (dAndV (dOp2 eqD (dEF (dCall 1 (Φ f_functions) (dCons (dTup dNil) dNil))) (dEF (dLst dNil))) (dOp2 isD (dEF (dCall 3 (Φ f_function) (dCons (dTup dNil) (dCons (dC (.str "a")) (dCons (dC (.str "a")) dNil))))) (dC .non)))) sNil)))
/-- what the defs do, k calls within one another at most -/
def semS (Φ : Nat → Fn) (i : Nat) : Fn := match i with
    | 0 => runF 5 (m_functions Φ)
    | 1 => runF 4 (m_function Φ)
    | 2 => runF 8 (m_with_body Φ)
    | 3 => runF 6 (m__law_cell Φ)
    | 4 => runF 5 (m__law_names Φ)
    | 5 => runF 1 (m__law_number Φ)
    | 6 => runF 3 (m__law_leaf Φ)
    | 7 => runF 8 (m__law_op Φ)
    | 8 => runF 15 (m__law_times Φ)
    | 9 => runF 13 (m__law_call Φ)
    | 10 => runF 13 (m__law_expression Φ)
    | 11 => runF 17 (m__law_program Φ)
    | 12 => runF 7 (m__law_due Φ)
    | 13 => runF 11 (m__law_changed Φ)
    | 14 => runF 17 (m_law Φ)
    | _ => fun _ _ => .bad
def sem : Nat → Nat → Fn
  | 0 => fun _ _ _ => .bad
  | k + 1 => semS (sem k)
theorem e_functions (k : Nat) : sem (k + 1) f_functions = runF 5 (m_functions (sem k)) := rfl
theorem e_function (k : Nat) : sem (k + 1) f_function = runF 4 (m_function (sem k)) := rfl
theorem e_with_body (k : Nat) : sem (k + 1) f_with_body = runF 8 (m_with_body (sem k)) := rfl
theorem e__law_cell (k : Nat) : sem (k + 1) f__law_cell = runF 6 (m__law_cell (sem k)) := rfl
theorem e__law_names (k : Nat) : sem (k + 1) f__law_names = runF 5 (m__law_names (sem k)) := rfl
theorem e__law_number (k : Nat) : sem (k + 1) f__law_number = runF 1 (m__law_number (sem k)) := rfl
theorem e__law_leaf (k : Nat) : sem (k + 1) f__law_leaf = runF 3 (m__law_leaf (sem k)) := rfl
theorem e__law_op (k : Nat) : sem (k + 1) f__law_op = runF 8 (m__law_op (sem k)) := rfl
theorem e__law_times (k : Nat) : sem (k + 1) f__law_times = runF 15 (m__law_times (sem k)) := rfl
theorem e__law_call (k : Nat) : sem (k + 1) f__law_call = runF 13 (m__law_call (sem k)) := rfl
theorem e__law_expression (k : Nat) : sem (k + 1) f__law_expression = runF 13 (m__law_expression (sem k)) := rfl
theorem e__law_program (k : Nat) : sem (k + 1) f__law_program = runF 17 (m__law_program (sem k)) := rfl
theorem e__law_due (k : Nat) : sem (k + 1) f__law_due = runF 7 (m__law_due (sem k)) := rfl
theorem e__law_changed (k : Nat) : sem (k + 1) f__law_changed = runF 11 (m__law_changed (sem k)) := rfl
theorem e_law (k : Nat) : sem (k + 1) f_law = runF 17 (m_law (sem k)) := rfl
/-- what the top has left -/
structure Top (w : World) (K : PySem.W.Frag) (mg : Str → Option Value) where
  a_functions : Addr
  d_functions : FuncData
  F_functions : Fun K "functions" "functions" s_functions a_functions d_functions
  b_functions : Binds K d_functions ["program"] []
  m_functions : mg "functions" = some (.ref a_functions)
  a_function : Addr
  d_function : FuncData
  F_function : Fun K "function" "function" s_function a_function d_function
  b_function : Binds K d_function ["program", "m", "f"] []
  m_function : mg "function" = some (.ref a_function)
  a_with_body : Addr
  d_with_body : FuncData
  F_with_body : Fun K "with_body" "with_body" s_with_body a_with_body d_with_body
  b_with_body : Binds K d_with_body ["program", "m", "f", "body"] []
  m_with_body : mg "with_body" = some (.ref a_with_body)
  a__law_cell : Addr
  d__law_cell : FuncData
  F__law_cell : Fun K "_law_cell" "_law_cell" s__law_cell a__law_cell d__law_cell
  b__law_cell : Binds K d__law_cell ["_law_cells", "_law_spot"] []
  m__law_cell : mg "_law_cell" = some (.ref a__law_cell)
  a__law_names : Addr
  d__law_names : FuncData
  F__law_names : Fun K "_law_names" "_law_names" s__law_names a__law_names d__law_names
  b__law_names : Binds K d__law_names ["_law_n"] []
  m__law_names : mg "_law_names" = some (.ref a__law_names)
  a__law_number : Addr
  d__law_number : FuncData
  F__law_number : Fun K "_law_number" "_law_number" s__law_number a__law_number d__law_number
  b__law_number : Binds K d__law_number ["_law_n"] []
  m__law_number : mg "_law_number" = some (.ref a__law_number)
  a__law_leaf : Addr
  d__law_leaf : FuncData
  F__law_leaf : Fun K "_law_leaf" "_law_leaf" s__law_leaf a__law_leaf d__law_leaf
  b__law_leaf : Binds K d__law_leaf ["_law_at", "_law_scope", "_law_n"] []
  m__law_leaf : mg "_law_leaf" = some (.ref a__law_leaf)
  a__law_op : Addr
  d__law_op : FuncData
  F__law_op : Fun K "_law_op" "_law_op" s__law_op a__law_op d__law_op
  b__law_op : Binds K d__law_op ["_law_cells", "_law_spot", "_law_at", "_law_scope", "_law_deep", "_law_n"] []
  m__law_op : mg "_law_op" = some (.ref a__law_op)
  a__law_times : Addr
  d__law_times : FuncData
  F__law_times : Fun K "_law_times" "_law_times" s__law_times a__law_times d__law_times
  b__law_times : Binds K d__law_times ["_law_cells", "_law_spot", "_law_at", "_law_scope", "_law_deep", "_law_n"] []
  m__law_times : mg "_law_times" = some (.ref a__law_times)
  a__law_call : Addr
  d__law_call : FuncData
  F__law_call : Fun K "_law_call" "_law_call" s__law_call a__law_call d__law_call
  b__law_call : Binds K d__law_call ["_law_cells", "_law_spot", "_law_at", "_law_scope", "_law_deep", "_law_n"] []
  m__law_call : mg "_law_call" = some (.ref a__law_call)
  a__law_expression : Addr
  d__law_expression : FuncData
  F__law_expression : Fun K "_law_expression" "_law_expression" s__law_expression a__law_expression d__law_expression
  b__law_expression : Binds K d__law_expression ["_law_cells", "_law_spot", "_law_at", "_law_scope", "_law_deep"] []
  m__law_expression : mg "_law_expression" = some (.ref a__law_expression)
  a__law_program : Addr
  d__law_program : FuncData
  F__law_program : Fun K "_law_program" "_law_program" s__law_program a__law_program d__law_program
  b__law_program : Binds K d__law_program ["_law_cells", "_law_spot", "_law_most"] []
  m__law_program : mg "_law_program" = some (.ref a__law_program)
  a__law_due : Addr
  d__law_due : FuncData
  F__law_due : Fun K "_law_due" "_law_due" s__law_due a__law_due d__law_due
  b__law_due : Binds K d__law_due ["_law_program_here"] []
  m__law_due : mg "_law_due" = some (.ref a__law_due)
  a__law_changed : Addr
  d__law_changed : FuncData
  F__law_changed : Fun K "_law_changed" "_law_changed" s__law_changed a__law_changed d__law_changed
  b__law_changed : Binds K d__law_changed ["_law_program_here", "_law_m", "_law_f", "_law_body"] []
  m__law_changed : mg "_law_changed" = some (.ref a__law_changed)
  a_law : Addr
  d_law : FuncData
  F_law : Fun K "law" "law" s_law a_law d_law
  b_law : Binds K d_law ["_law_script"] []
  m_law : mg "law" = some (.ref a_law)
  bb_law : ∀ (s : Shared) (v : Value), BindsTo s d_law ⟨[v], []⟩ [("_law_script", v)]
  z_tuple : mg "tuple" = none
  z_len : mg "len" = none
  z_range : mg "range" = none
  z_int : mg "int" = none
  z_max : mg "max" = none
  z_list : mg "list" = none
  z_min : mg "min" = none
  z_repr : mg "repr" = none
  z_isinstance : mg "isinstance" = none
section
variable {P : Program} {w : World} {K : PySem.W.Frag} {mg : Str → Option Value} {base : Heap}
structure Oks (P : Program) (w : World) (base : Heap) (T : Top w K mg) (k : Nat) : Prop where
  i_functions : GOk P w K mg base CX0 k T.a_functions T.d_functions ["program"] (spD K W0 1 (sem k f_functions))
  i_function : GOk P w K mg base CX0 k T.a_function T.d_function ["program", "m", "f"] (spD K W0 3 (sem k f_function))
  i_with_body : GOk P w K mg base CX0 k T.a_with_body T.d_with_body ["program", "m", "f", "body"] (spD K W0 4 (sem k f_with_body))
  i__law_cell : GOk P w K mg base CX0 k T.a__law_cell T.d__law_cell ["_law_cells", "_law_spot"] (spD K W0 2 (sem k f__law_cell))
  i__law_names : GOk P w K mg base CX0 k T.a__law_names T.d__law_names ["_law_n"] (spD K W0 1 (sem k f__law_names))
  i__law_number : GOk P w K mg base CX0 k T.a__law_number T.d__law_number ["_law_n"] (spD K W0 1 (sem k f__law_number))
  i__law_leaf : GOk P w K mg base CX0 k T.a__law_leaf T.d__law_leaf ["_law_at", "_law_scope", "_law_n"] (spD K W0 3 (sem k f__law_leaf))
  i__law_op : GOk P w K mg base CX0 k T.a__law_op T.d__law_op ["_law_cells", "_law_spot", "_law_at", "_law_scope", "_law_deep", "_law_n"] (spD K W0 6 (sem k f__law_op))
  i__law_times : GOk P w K mg base CX0 k T.a__law_times T.d__law_times ["_law_cells", "_law_spot", "_law_at", "_law_scope", "_law_deep", "_law_n"] (spD K W0 6 (sem k f__law_times))
  i__law_call : GOk P w K mg base CX0 k T.a__law_call T.d__law_call ["_law_cells", "_law_spot", "_law_at", "_law_scope", "_law_deep", "_law_n"] (spD K W0 6 (sem k f__law_call))
  i__law_expression : GOk P w K mg base CX0 k T.a__law_expression T.d__law_expression ["_law_cells", "_law_spot", "_law_at", "_law_scope", "_law_deep"] (spD K W0 5 (sem k f__law_expression))
  i__law_program : GOk P w K mg base CX0 k T.a__law_program T.d__law_program ["_law_cells", "_law_spot", "_law_most"] (spD K W0 3 (sem k f__law_program))
  i__law_due : GOk P w K mg base CX0 k T.a__law_due T.d__law_due ["_law_program_here"] (spD K W0 1 (sem k f__law_due))
  i__law_changed : GOk P w K mg base CX0 k T.a__law_changed T.d__law_changed ["_law_program_here", "_law_m", "_law_f", "_law_body"] (spD K W0 4 (sem k f__law_changed))
  i_law : GOk P w K mg base CX0 k T.a_law T.d_law ["_law_script"] (spD K W0 1 (sem k f_law))
theorem ok_functions (T : Top w K mg) {k : Nat} (ih : Oks P w base T k) : GOk P w K mg base CX0 (k + 1) T.a_functions T.d_functions ["program"] (spD K W0 1 (sem (k + 1) f_functions)) := by
  rw [e_functions]
  refine g_fn (N := ["program", "found", "m", "rows", "row"]) (ps := ["program"]) (g := m_functions (sem k)) T.F_functions sc_functions (fun cdv A outer s H EX hr hq => ?_)
  exact (s_seq (pss_cons (s_set (ps_set (i := 1) sc_functions.nd rfl (by first | exact Or.inl rfl | exact Or.inr rfl) (x_lst (pe_lst (xa_nil pa_nil))))) (s_seq (pss_cons (s_for (ps_for PassesOwn.never rfl (x_it (PI.or (pi_list (x_var (pv 0))) (PI.or (pi_tup (x_var (pv 0))) (pi_str (x_var (pv 0)))))) (x_gtup (is := [2, 3]) rfl (pg_tup rfl (pgs_cons (pg_name (i := 2) sc_functions.nd rfl (by first | exact Or.inl rfl | exact Or.inr rfl)) (pgs_cons (pg_name (i := 3) sc_functions.nd rfl (by first | exact Or.inl rfl | exact Or.inr rfl)) pgs_nil)))) (s_seq (pss_cons (s_ext (ps_expr (pe_bm PySem.F.plainAttrs_list PySem.F.slot_list_extend PySem.F.type_list_extend mt_extend (pv 1) (pa_cons (c_EF (x_lc (by decide) (pe_lc (own := [("row", 4)]) rfl sc_functions.nd (x_it (PI.or (pi_list (x_var (pv 3))) (PI.or (pi_tup (x_var (pv 3))) (pi_str (x_var (pv 3)))))) (blkOk_by (N := ["program", "found", "m", "rows", "row"]) (sc := defScope s_functions) (by decide +kernel)) (fun _ _ _ _ _ => (x_gname (pg_name (i := 4) sc_functions.nd rfl (by first | exact Or.inl rfl | exact Or.inr rfl)))) (fun _ _ _ _ _ => x_yes) (fun _ _ _ _ _ => (c_EF (x_op2 (pe_op op_addA (c_FB (x_tup (pe_tup (xa_cons (pa_cons (x_var (pv 2)) (xa_nil pa_nil)))))) (x_varB (pv 4))) p_add)))))) pa_nil)))) (s_nil pss_nil))))) (s_seq (pss_cons (s_retV (ps_ret (pv 1))) (s_nil pss_nil)))))))
theorem ok_function (T : Top w K mg) {k : Nat} (ih : Oks P w base T k) : GOk P w K mg base CX0 (k + 1) T.a_function T.d_function ["program", "m", "f"] (spD K W0 3 (sem (k + 1) f_function)) := by
  rw [e_function]
  refine g_fn (N := ["program", "m", "f", "row"]) (ps := ["program", "m", "f"]) (g := m_function (sem k)) T.F_function sc_function (fun cdv A outer s H EX hr hq => ?_)
  exact (s_seq (pss_cons (s_for (ps_for PassesOwn.never rfl (x_it (PI.or (pi_list (c_EF (x_call rfl (g_call ih.i_functions hr hq (by rfl) T.m_functions T.F_functions.kp T.b_functions pass0 (xa_cons (pa_cons (x_var (pv 0)) (xa_nil pa_nil))))))) (PI.or (pi_tup (c_EF (x_call rfl (g_call ih.i_functions hr hq (by rfl) T.m_functions T.F_functions.kp T.b_functions pass0 (xa_cons (pa_cons (x_var (pv 0)) (xa_nil pa_nil))))))) (pi_str (c_EF (x_call rfl (g_call ih.i_functions hr hq (by rfl) T.m_functions T.F_functions.kp T.b_functions pass0 (xa_cons (pa_cons (x_var (pv 0)) (xa_nil pa_nil)))))))))) (x_gname (pg_name (i := 3) sc_function.nd rfl (by first | exact Or.inl rfl | exact Or.inr rfl))) (s_seq (pss_cons (s_if (ps_if (PW.pt (x_and (pw_and (x_test2 (pt_cmpR (op_eqW (un_of hr)) (c_EB (x_ix (pe_ix ix_seq (x_varB (pv 3)) (c_FB (x_c pe_int fun _ _ => .int _)) (fun _ _ => rfl)))) (x_varB (pv 1)) rfl) p_eq) (pw_and1 (x_test2 (pt_cmpR (op_eqW (un_of hr)) (c_EB (x_ix (pe_ix ix_seq (x_varB (pv 3)) (c_FB (x_c pe_int fun _ _ => .int _)) (fun _ _ => rfl)))) (x_varB (pv 2)) rfl) p_eq))))) (s_seq (pss_cons (s_ret (ps_ret (x_sl (pe_slice sl_A3 (x_varB (pv 3)) (x_so (c_FB (x_c pe_int fun _ _ => .int _))) x_no) p_sl))) (s_nil pss_nil))) (s_nil pss_nil))) (s_nil pss_nil))))) (s_seq (pss_cons (s_ret (ps_ret (c_FE (x_c pe_non fun _ _ => .non)))) (s_nil pss_nil)))))
theorem ok_with_body (T : Top w K mg) {k : Nat} (ih : Oks P w base T k) : GOk P w K mg base CX0 (k + 1) T.a_with_body T.d_with_body ["program", "m", "f", "body"] (spD K W0 4 (sem (k + 1) f_with_body)) := by
  rw [e_with_body]
  refine g_fn (N := ["program", "m", "f", "body", "found", "name", "rows", "row"]) (ps := ["program", "m", "f", "body"]) (g := m_with_body (sem k)) T.F_with_body sc_with_body (fun cdv A outer s H EX hr hq => ?_)
  exact (s_seq (pss_cons (s_set (ps_set (i := 4) sc_with_body.nd rfl (by first | exact Or.inl rfl | exact Or.inr rfl) (x_lst (pe_lst (xa_nil pa_nil))))) (s_seq (pss_cons (s_for (ps_for PassesOwn.never rfl (x_it (PI.or (pi_list (x_var (pv 0))) (PI.or (pi_tup (x_var (pv 0))) (pi_str (x_var (pv 0)))))) (x_gtup (is := [5, 6]) rfl (pg_tup rfl (pgs_cons (pg_name (i := 5) sc_with_body.nd rfl (by first | exact Or.inl rfl | exact Or.inr rfl)) (pgs_cons (pg_name (i := 6) sc_with_body.nd rfl (by first | exact Or.inl rfl | exact Or.inr rfl)) pgs_nil)))) (s_seq (pss_cons (s_if (ps_if (x_test2 (pt_cmpR (op_eqW (un_of hr)) (x_varB (pv 5)) (x_varB (pv 1)) rfl) p_eq) (s_seq (pss_cons (s_set (ps_set (i := 6) sc_with_body.nd rfl (by first | exact Or.inl rfl | exact Or.inr rfl) (c_FE (c_EF (x_prim (pe_callTy call_tuple_of (by rfl) T.z_tuple bt_tuple (xr_cons (pa_cons (c_EB (x_lc (by decide) (pe_lc (own := [("row", 7)]) rfl sc_with_body.nd (x_it (PI.or (pi_list (x_var (pv 6))) (PI.or (pi_tup (x_var (pv 6))) (pi_str (x_var (pv 6)))))) (blkOk_by (N := ["program", "m", "f", "body", "found", "name", "rows", "row"]) (sc := defScope s_with_body) (by decide +kernel)) (fun _ _ _ _ _ => (x_gname (pg_name (i := 7) sc_with_body.nd rfl (by first | exact Or.inl rfl | exact Or.inr rfl)))) (fun _ _ _ _ _ => x_yes) (fun _ _ _ _ _ => (c_EF (x_if (pe_ifExp (x_test2 (pt_cmpR (op_eqW (un_of hr)) (c_EB (x_ix (pe_ix ix_seq (x_varB (pv 7)) (c_FB (x_c pe_int fun _ _ => .int _)) (fun _ _ => rfl)))) (x_varB (pv 2)) rfl) p_eq) (x_op2 (pe_op op_addA (c_EB (x_sl (pe_slice sl_A3 (x_varB (pv 7)) x_no (x_so (c_FB (x_c pe_int fun _ _ => .int _)))) p_sl)) (c_FB (x_tup (pe_tup (xa_cons (pa_cons (x_var (pv 3)) (xa_nil pa_nil))))))) p_add) (c_FE (x_var (pv 7)))))))))) (xr_nil pa_nil)))) p_tuple))))) (s_nil pss_nil))) (s_nil pss_nil))) (s_seq (pss_cons (s_app (ps_expr (pe_bm PySem.F.plainAttrs_list PySem.F.slot_list_append PySem.F.type_list_append mt_append (pv 4) (pa_cons (x_tup (pe_tup (xa_cons (pa_cons (x_var (pv 5)) (xa_cons (pa_cons (x_var (pv 6)) (xa_nil pa_nil))))))) pa_nil)))) (s_nil pss_nil))))))) (s_seq (pss_cons (s_ret (ps_ret (x_prim (pe_callTy call_tuple_of (by rfl) T.z_tuple bt_tuple (xr_cons (pa_cons (x_varB (pv 4)) (xr_nil pa_nil)))) p_tuple))) (s_nil pss_nil)))))))
theorem ok__law_cell (T : Top w K mg) {k : Nat} (ih : Oks P w base T k) : GOk P w K mg base CX0 (k + 1) T.a__law_cell T.d__law_cell ["_law_cells", "_law_spot"] (spD K W0 2 (sem (k + 1) f__law_cell)) := by
  rw [e__law_cell]
  refine g_fn (N := ["_law_cells", "_law_spot", "_law_k", "_law_base", "_law_own", "_law_turn"]) (ps := ["_law_cells", "_law_spot"]) (g := m__law_cell (sem k)) T.F__law_cell sc__law_cell (fun cdv A outer s H EX hr hq => ?_)
  exact (s_seq (pss_cons (s_putR (ps_asg (c_EF (x_op2 (pe_op op_addA (c_EB (x_ix (pe_ix ix_seq (x_varB (pv 1)) (c_FB (x_c pe_int fun _ _ => .int _)) (fun _ _ => rfl)))) (c_FB (x_c pe_int fun _ _ => .int _))) p_add)) (pg_sub (x_varB (pv 1)) (c_FB (x_c pe_int fun _ _ => .int _)) set_list))) (s_seq (pss_cons (s_set (ps_set (i := 2) sc__law_cell.nd rfl (by first | exact Or.inl rfl | exact Or.inr rfl) (c_FE (c_EF (x_ix (pe_ix ix_seq (x_varB (pv 1)) (c_FB (x_c pe_int fun _ _ => .int _)) (fun _ _ => rfl))))))) (s_seq (pss_cons (s_set (ps_set (i := 3) sc__law_cell.nd rfl (by first | exact Or.inl rfl | exact Or.inr rfl) (c_FE (c_EF (x_op2 (pe_op op_addA (c_EB (x_op2 (pe_op op_mulA (c_EB (x_op2 (pe_op op_mulA (c_FB (x_c pe_int fun _ _ => .int _)) (x_varB (pv 2))) p_mul)) (x_varB (pv 2))) p_mul)) (c_EB (x_op2 (pe_op op_mulA (c_FB (x_c pe_int fun _ _ => .int _)) (x_varB (pv 2))) p_mul))) p_add))))) (s_seq (pss_cons (s_if (ps_if (PW.pt (x_and (pw_and (x_test2 (pt_cmpR op_gt (c_EB (x_prim (pe_callB call_lenA (by rfl) T.z_len bt_len (xr_cons (pa_cons (x_varB (pv 0)) (xr_nil pa_nil)))) p_len)) (c_FB (x_c pe_int fun _ _ => .int _)) rfl) (p_cmp fun i j => decide (j < i))) (x_and (pw_and (x_test2 (pt_cmpR op_ge (c_EB (x_ix (pe_ix ix_seq (x_varB (pv 0)) (c_EB (x_op2 (pe_op op_modA (x_varB (pv 2)) (c_EB (x_prim (pe_callB call_lenA (by rfl) T.z_len bt_len (xr_cons (pa_cons (x_varB (pv 0)) (xr_nil pa_nil)))) p_len))) p_mod)) (fun _ _ => rfl)))) (c_EB (x_op2 (pe_op op_pow (c_FB (x_c pe_int fun _ _ => .int _)) (c_FB (x_c pe_int fun _ _ => .int _))) p_pow)) rfl) (p_cmp fun i j => decide (j ≤ i))) (pw_and1 (x_test2 (pt_cmpR op_lt (c_EB (x_op2 (pe_op op_fdivA (x_varB (pv 2)) (c_EB (x_prim (pe_callB call_lenA (by rfl) T.z_len bt_len (xr_cons (pa_cons (x_varB (pv 0)) (xr_nil pa_nil)))) p_len))) p_fdiv)) (c_FB (x_c pe_int fun _ _ => .int _)) rfl) (p_cmp fun i j => decide (i < j))))))))) (s_seq (pss_cons (s_set (ps_set (i := 4) sc__law_cell.nd rfl (by first | exact Or.inl rfl | exact Or.inr rfl) (c_FE (c_EF (x_ix (pe_ix ix_seq (x_varB (pv 0)) (c_EB (x_op2 (pe_op op_modA (x_varB (pv 2)) (c_EB (x_prim (pe_callB call_lenA (by rfl) T.z_len bt_len (xr_cons (pa_cons (x_varB (pv 0)) (xr_nil pa_nil)))) p_len))) p_mod)) (fun _ _ => rfl))))))) (s_seq (pss_cons (s_for (ps_for PassesOwn.never rfl (x_rng1 (pi_range1 (by rfl) T.z_range (xr_cons (pa_cons (c_EB (x_op2 (pe_op op_fdivA (x_varB (pv 2)) (c_EB (x_prim (pe_callB call_lenA (by rfl) T.z_len bt_len (xr_cons (pa_cons (x_varB (pv 0)) (xr_nil pa_nil)))) p_len))) p_fdiv)) (xr_nil pa_nil))))) (x_gname (pg_name (i := 5) sc__law_cell.nd rfl (by first | exact Or.inl rfl | exact Or.inr rfl))) (s_seq (pss_cons (s_set (ps_set (i := 4) sc__law_cell.nd rfl (by first | exact Or.inl rfl | exact Or.inr rfl) (c_FE (c_EF (x_op2 (pe_op op_fdivA (x_varB (pv 4)) (c_FB (x_c pe_int fun _ _ => .int _))) p_fdiv))))) (s_nil pss_nil))))) (s_seq (pss_cons (s_if (ps_if (x_test2 (pt_cmpR op_gt (x_varB (pv 4)) (c_FB (x_c pe_int fun _ _ => .int _)) rfl) (p_cmp fun i j => decide (j < i))) (s_seq (pss_cons (s_ret (ps_ret (x_op2 (pe_op op_modA (x_varB (pv 4)) (c_FB (x_c pe_int fun _ _ => .int _))) p_mod))) (s_nil pss_nil))) (s_nil pss_nil))) (s_nil pss_nil))))))) (s_nil pss_nil))) (s_seq (pss_cons (s_if (ps_if (x_test2 (pt_cmpR op_gt (c_EB (x_prim (pe_callB call_lenA (by rfl) T.z_len bt_len (xr_cons (pa_cons (x_varB (pv 0)) (xr_nil pa_nil)))) p_len)) (c_FB (x_c pe_int fun _ _ => .int _)) rfl) (p_cmp fun i j => decide (j < i))) (s_seq (pss_cons (s_set (ps_set (i := 3) sc__law_cell.nd rfl (by first | exact Or.inl rfl | exact Or.inr rfl) (c_FE (c_EF (x_op2 (pe_op op_addA (x_varB (pv 3)) (c_EB (x_op2 (pe_op op_mulA (c_EB (x_op2 (pe_op op_modA (c_EB (x_ix (pe_ix ix_seq (x_varB (pv 0)) (c_EB (x_op2 (pe_op op_modA (x_varB (pv 2)) (c_EB (x_prim (pe_callB call_lenA (by rfl) T.z_len bt_len (xr_cons (pa_cons (x_varB (pv 0)) (xr_nil pa_nil)))) p_len))) p_mod)) (fun _ _ => rfl)))) (c_FB (x_c pe_int fun _ _ => .int _))) p_mod)) (c_EB (x_op2 (pe_op op_addA (c_FB (x_c pe_int fun _ _ => .int _)) (c_EB (x_op2 (pe_op op_fdivA (x_varB (pv 2)) (c_EB (x_prim (pe_callB call_lenA (by rfl) T.z_len bt_len (xr_cons (pa_cons (x_varB (pv 0)) (xr_nil pa_nil)))) p_len))) p_fdiv))) p_add))) p_mul))) p_add))))) (s_nil pss_nil))) (s_nil pss_nil))) (s_seq (pss_cons (s_ret (ps_ret (x_op2 (pe_op op_fdivA (c_EB (x_op2 (pe_op op_modA (c_EB (x_op2 (pe_op op_mulA (c_EB (x_op2 (pe_op op_modA (c_EB (x_op2 (pe_op op_mulA (x_varB (pv 3)) (c_FB (x_c pe_int fun _ _ => .int _))) p_mul)) (c_FB (x_c pe_int fun _ _ => .int _))) p_mod)) (c_FB (x_c pe_int fun _ _ => .int _))) p_mul)) (c_FB (x_c pe_int fun _ _ => .int _))) p_mod)) (c_FB (x_c pe_int fun _ _ => .int _))) p_fdiv))) (s_nil pss_nil)))))))))))))
theorem ok__law_names (T : Top w K mg) {k : Nat} (ih : Oks P w base T k) : GOk P w K mg base CX0 (k + 1) T.a__law_names T.d__law_names ["_law_n"] (spD K W0 1 (sem (k + 1) f__law_names)) := by
  rw [e__law_names]
  refine g_fn (N := ["_law_n", "_law_letters", "_law_some", "_law_k", "_law_sign"]) (ps := ["_law_n"]) (g := m__law_names (sem k)) T.F__law_names sc__law_names (fun cdv A outer s H EX hr hq => ?_)
  exact (s_seq (pss_cons (s_set (ps_set (i := 1) sc__law_names.nd rfl (by first | exact Or.inl rfl | exact Or.inr rfl) (c_FE (x_c pe_str fun _ _ => .str _)))) (s_seq (pss_cons (s_set (ps_set (i := 2) sc__law_names.nd rfl (by first | exact Or.inl rfl | exact Or.inr rfl) (x_lst (pe_lst (xa_cons (pa_cons (c_EF (x_lc (by decide) (pe_lc (own := [("_law_sign", 4)]) rfl sc__law_names.nd (x_it (PI.or (pi_list (x_var (pv 1))) (PI.or (pi_tup (x_var (pv 1))) (pi_str (x_var (pv 1)))))) (blkOk_by (N := ["_law_n", "_law_letters", "_law_some", "_law_k", "_law_sign"]) (sc := defScope s__law_names) (by decide +kernel)) (fun _ _ _ _ _ => (x_gname (pg_name (i := 4) sc__law_names.nd rfl (by first | exact Or.inl rfl | exact Or.inr rfl)))) (fun _ _ _ _ _ => x_yes) (fun _ _ _ _ _ => (x_var (pv 4)))))) (xa_cons (pa_cons (c_EF (x_lc (by decide) (pe_lc (own := [("_law_sign", 4)]) rfl sc__law_names.nd (x_it (PI.or (pi_list (x_var (pv 1))) (PI.or (pi_tup (x_var (pv 1))) (pi_str (x_var (pv 1)))))) (blkOk_by (N := ["_law_n", "_law_letters", "_law_some", "_law_k", "_law_sign"]) (sc := defScope s__law_names) (by decide +kernel)) (fun _ _ _ _ _ => (x_gname (pg_name (i := 4) sc__law_names.nd rfl (by first | exact Or.inl rfl | exact Or.inr rfl)))) (fun _ _ _ _ _ => x_yes) (fun _ _ _ _ _ => (c_EF (x_op2 (pe_op op_addA (c_EB (x_op2 (pe_op op_addA (c_FB (x_c pe_str fun _ _ => .str _)) (x_varB (pv 4))) p_add)) (c_FB (x_c pe_str fun _ _ => .str _))) p_add)))))) (xa_nil pa_nil))))))))) (s_seq (pss_cons (s_app (ps_expr (pe_bm PySem.F.plainAttrs_list PySem.F.slot_list_append PySem.F.type_list_append mt_append (pv 2) (pa_cons (c_EF (x_op2 (pe_op op_addA (c_EB (x_lc (by decide) (pe_lc (own := [("_law_k", 3)]) rfl sc__law_names.nd (x_rng1 (pi_range1 (by rfl) T.z_range (xr_cons (pa_cons (c_FB (x_c pe_int fun _ _ => .int _)) (xr_nil pa_nil))))) (blkOk_by (N := ["_law_n", "_law_letters", "_law_some", "_law_k", "_law_sign"]) (sc := defScope s__law_names) (by decide +kernel)) (fun _ _ _ _ _ => (x_gname (pg_name (i := 3) sc__law_names.nd rfl (by first | exact Or.inl rfl | exact Or.inr rfl)))) (fun _ _ _ _ _ => x_yes) (fun _ _ _ _ _ => (c_EF (x_sl (pe_slice sl_A3 (c_FB (x_c pe_str fun _ _ => .str _)) x_no (x_so (c_EB (x_op2 (pe_op op_addA (x_varB (pv 3)) (c_FB (x_c pe_int fun _ _ => .int _))) p_add)))) p_sl)))))) (c_EB (x_lc (by decide) (pe_lc (own := [("_law_k", 3)]) rfl sc__law_names.nd (x_rng1 (pi_range1 (by rfl) T.z_range (xr_cons (pa_cons (c_FB (x_c pe_int fun _ _ => .int _)) (xr_nil pa_nil))))) (blkOk_by (N := ["_law_n", "_law_letters", "_law_some", "_law_k", "_law_sign"]) (sc := defScope s__law_names) (by decide +kernel)) (fun _ _ _ _ _ => (x_gname (pg_name (i := 3) sc__law_names.nd rfl (by first | exact Or.inl rfl | exact Or.inr rfl)))) (fun _ _ _ _ _ => x_yes) (fun _ _ _ _ _ => (c_EF (x_sl (pe_slice sl_A3 (c_FB (x_c pe_str fun _ _ => .str _)) x_no (x_so (c_EB (x_op2 (pe_op op_addA (x_varB (pv 3)) (c_FB (x_c pe_int fun _ _ => .int _))) p_add)))) p_sl))))))) p_add)) pa_nil)))) (s_seq (pss_cons (s_set (ps_set (i := 2) sc__law_names.nd rfl (by first | exact Or.inl rfl | exact Or.inr rfl) (x_ix (pe_ix ix_seq (x_varB (pv 2)) (c_EB (x_op2 (pe_op op_modA (x_varB (pv 0)) (c_FB (x_c pe_int fun _ _ => .int _))) p_mod)) (fun _ _ => rfl))))) (s_seq (pss_cons (s_ret (ps_ret (x_lc (by decide) (pe_lc (own := [("_law_k", 3)]) rfl sc__law_names.nd (x_rng1 (pi_range1 (by rfl) T.z_range (xr_cons (pa_cons (c_FB (x_c pe_int fun _ _ => .int _)) (xr_nil pa_nil))))) (blkOk_by (N := ["_law_n", "_law_letters", "_law_some", "_law_k", "_law_sign"]) (sc := defScope s__law_names) (by decide +kernel)) (fun _ _ _ _ _ => (x_gname (pg_name (i := 3) sc__law_names.nd rfl (by first | exact Or.inl rfl | exact Or.inr rfl)))) (fun _ _ _ _ _ => x_yes) (fun _ _ _ _ _ => (c_EF (x_ix (pe_ix ix_seq (x_varB (pv 2)) (c_EB (x_op2 (pe_op op_modA (c_EB (x_op2 (pe_op op_addA (c_EB (x_op2 (pe_op op_fdivA (x_varB (pv 0)) (c_FB (x_c pe_int fun _ _ => .int _))) p_fdiv)) (c_EB (x_op2 (pe_op op_mulA (c_EB (x_op2 (pe_op op_addA (c_EB (x_op2 (pe_op op_mulA (c_FB (x_c pe_int fun _ _ => .int _)) (c_EB (x_op2 (pe_op op_modA (c_EB (x_op2 (pe_op op_fdivA (x_varB (pv 0)) (c_FB (x_c pe_int fun _ _ => .int _))) p_fdiv)) (c_FB (x_c pe_int fun _ _ => .int _))) p_mod))) p_mul)) (c_FB (x_c pe_int fun _ _ => .int _))) p_add)) (x_varB (pv 3))) p_mul))) p_add)) (c_FB (x_c pe_int fun _ _ => .int _))) p_mod)) (fun _ _ => rfl))))))))) (s_nil pss_nil)))))))))))
theorem ok__law_number (T : Top w K mg) {k : Nat} (ih : Oks P w base T k) : GOk P w K mg base CX0 (k + 1) T.a__law_number T.d__law_number ["_law_n"] (spD K W0 1 (sem (k + 1) f__law_number)) := by
  rw [e__law_number]
  refine g_fn (N := ["_law_n"]) (ps := ["_law_n"]) (g := m__law_number (sem k)) T.F__law_number sc__law_number (fun cdv A outer s H EX hr hq => ?_)
  exact (s_seq (pss_cons (s_ret (ps_ret (x_ix (pe_ix ix_seq (c_EB (x_lst (pe_lst (xa_cons (pa_cons (c_EF (x_op2 (pe_op op_modA (c_EB (x_op2 (pe_op op_fdivA (x_varB (pv 0)) (c_FB (x_c pe_int fun _ _ => .int _))) p_fdiv)) (c_FB (x_c pe_int fun _ _ => .int _))) p_mod)) (xa_cons (pa_cons (c_EF (x_op2 (pe_op op_sub (c_EB (x_op2 (pe_op op_modA (c_EB (x_op2 (pe_op op_fdivA (x_varB (pv 0)) (c_FB (x_c pe_int fun _ _ => .int _))) p_fdiv)) (c_FB (x_c pe_int fun _ _ => .int _))) p_mod)) (c_FB (x_c pe_int fun _ _ => .int _))) p_sub)) (xa_cons (pa_cons (c_EF (x_op2 (pe_op op_modA (c_EB (x_op2 (pe_op op_fdivA (x_varB (pv 0)) (c_FB (x_c pe_int fun _ _ => .int _))) p_fdiv)) (c_FB (x_c pe_int fun _ _ => .int _))) p_mod)) (xa_cons (pa_cons (c_EF (x_ix (pe_ix ix_seq (c_EB (x_lst (pe_lst (xa_cons (pa_cons (c_EF (x_op2 (pe_op op_pow (c_FB (x_c pe_int fun _ _ => .int _)) (c_FB (x_c pe_int fun _ _ => .int _))) p_pow)) (xa_cons (pa_cons (c_EF (x_op1 (pe_un un_neg (c_EB (x_op2 (pe_op op_pow (c_FB (x_c pe_int fun _ _ => .int _)) (c_FB (x_c pe_int fun _ _ => .int _))) p_pow))) p_neg)) (xa_cons (pa_cons (x_c pe_int fun _ _ => .int _) (xa_cons (pa_cons (x_c pe_int fun _ _ => .int _) (xa_nil pa_nil)))))))))))) (c_EB (x_op2 (pe_op op_modA (c_EB (x_op2 (pe_op op_fdivA (x_varB (pv 0)) (c_FB (x_c pe_int fun _ _ => .int _))) p_fdiv)) (c_FB (x_c pe_int fun _ _ => .int _))) p_mod)) (fun _ _ => rfl)))) (xa_nil pa_nil)))))))))))) (c_EB (x_op2 (pe_op op_fdivA (c_EB (x_op2 (pe_op op_modA (x_varB (pv 0)) (c_FB (x_c pe_int fun _ _ => .int _))) p_mod)) (c_FB (x_c pe_int fun _ _ => .int _))) p_fdiv)) (fun _ _ => rfl))))) (s_nil pss_nil)))
theorem ok__law_leaf (T : Top w K mg) {k : Nat} (ih : Oks P w base T k) : GOk P w K mg base CX0 (k + 1) T.a__law_leaf T.d__law_leaf ["_law_at", "_law_scope", "_law_n"] (spD K W0 3 (sem (k + 1) f__law_leaf)) := by
  rw [e__law_leaf]
  refine g_fn (N := ["_law_at", "_law_scope", "_law_n"]) (ps := ["_law_at", "_law_scope", "_law_n"]) (g := m__law_leaf (sem k)) T.F__law_leaf sc__law_leaf (fun cdv A outer s H EX hr hq => ?_)
  exact (s_seq (pss_cons (s_if (ps_if (PW.pt (x_and (pw_and (x_test2 (pt_cmpR (op_neW (un_of hr)) (x_varB (pv 1)) (c_EB (x_lst (pe_lst (xa_nil pa_nil)))) rfl) p_ne) (pw_and1 (x_test2 (pt_cmpR op_gt (c_EB (x_op2 (pe_op op_modA (x_varB (pv 2)) (c_FB (x_c pe_int fun _ _ => .int _))) p_mod)) (c_FB (x_c pe_int fun _ _ => .int _)) rfl) (p_cmp fun i j => decide (j < i))))))) (s_seq (pss_cons (s_ret (ps_ret (c_FE (x_tup (pe_tup (xa_cons (pa_cons (x_c pe_str fun _ _ => .str _) (xa_cons (pa_cons (c_EF (x_ix (pe_ix ix_seq (x_varB (pv 1)) (c_EB (x_op2 (pe_op op_modA (c_EB (x_op2 (pe_op op_fdivA (x_varB (pv 2)) (c_FB (x_c pe_int fun _ _ => .int _))) p_fdiv)) (c_EB (x_prim (pe_callB call_lenA (by rfl) T.z_len bt_len (xr_cons (pa_cons (x_varB (pv 1)) (xr_nil pa_nil)))) p_len))) p_mod)) (fun _ _ => rfl)))) (xa_nil pa_nil)))))))))) (s_nil pss_nil))) (s_nil pss_nil))) (s_seq (pss_cons (s_ret (ps_ret (c_FE (x_tup (pe_tup (xa_cons (pa_cons (x_c pe_str fun _ _ => .str _) (xa_cons (pa_cons (c_EF (x_call rfl (g_call ih.i__law_number hr hq (by rfl) T.m__law_number T.F__law_number.kp T.b__law_number pass0 (xa_cons (pa_cons (c_EF (x_op2 (pe_op op_fdivA (x_varB (pv 2)) (c_FB (x_c pe_int fun _ _ => .int _))) p_fdiv)) (xa_nil pa_nil)))))) (xa_nil pa_nil)))))))))) (s_nil pss_nil)))))
theorem ok__law_op (T : Top w K mg) {k : Nat} (ih : Oks P w base T k) : GOk P w K mg base CX0 (k + 1) T.a__law_op T.d__law_op ["_law_cells", "_law_spot", "_law_at", "_law_scope", "_law_deep", "_law_n"] (spD K W0 6 (sem (k + 1) f__law_op)) := by
  rw [e__law_op]
  refine g_fn (N := ["_law_cells", "_law_spot", "_law_at", "_law_scope", "_law_deep", "_law_n", "_law_sign", "_law_one"]) (ps := ["_law_cells", "_law_spot", "_law_at", "_law_scope", "_law_deep", "_law_n"]) (g := m__law_op (sem k)) T.F__law_op sc__law_op (fun cdv A outer s H EX hr hq => ?_)
  exact (s_seq (pss_cons (s_set (ps_set (i := 6) sc__law_op.nd rfl (by first | exact Or.inl rfl | exact Or.inr rfl) (c_FE (c_EF (x_ix (pe_ix ix_seq (c_FB (x_c pe_str fun _ _ => .str _)) (c_EB (x_op2 (pe_op op_modA (x_varB (pv 5)) (c_EB (x_ix (pe_ix ix_seq (c_EB (x_lst (pe_lst (xa_cons (pa_cons (x_c pe_int fun _ _ => .int _) (xa_cons (pa_cons (x_c pe_int fun _ _ => .int _) (xa_nil pa_nil)))))))) (c_EB (x_prim (pe_callTy call_int1 (by rfl) T.z_int bt_int (xr_cons (pa_cons (c_EB (x_dget (pe_dget (hu_of hr) (x_varB (pv 2)) (c_FB (x_c pe_str fun _ _ => .str _)) (fun _ _ => rfl)))) (xr_nil pa_nil)))) p_int)) (fun _ _ => rfl))))) p_mod)) (fun _ _ => rfl))))))) (s_seq (pss_cons (s_set (ps_set (i := 7) sc__law_op.nd rfl (by first | exact Or.inl rfl | exact Or.inr rfl) (c_FE (c_EF (x_call rfl (g_call ih.i__law_expression hr hq (by rfl) T.m__law_expression T.F__law_expression.kp T.b__law_expression pass0 (xa_cons (pa_cons (x_var (pv 0)) (xa_cons (pa_cons (x_var (pv 1)) (xa_cons (pa_cons (x_var (pv 2)) (xa_cons (pa_cons (x_var (pv 3)) (xa_cons (pa_cons (c_EF (x_op2 (pe_op op_sub (x_varB (pv 4)) (c_FB (x_c pe_int fun _ _ => .int _))) p_sub)) (xa_nil pa_nil))))))))))))))))) (s_seq (pss_cons (s_if (ps_if (x_test2 (pt_cmpR (op_eqW (un_of hr)) (x_varB (pv 6)) (c_FB (x_c pe_str fun _ _ => .str _)) rfl) p_eq) (s_seq (pss_cons (s_ret (ps_ret (c_FE (x_tup (pe_tup (xa_cons (pa_cons (x_c pe_str fun _ _ => .str _) (xa_cons (pa_cons (x_var (pv 6)) (xa_cons (pa_cons (x_var (pv 7)) (xa_cons (pa_cons (x_tup (pe_tup (xa_cons (pa_cons (x_c pe_str fun _ _ => .str _) (xa_cons (pa_cons (c_EF (x_op2 (pe_op op_sub (c_EB (x_op2 (pe_op op_modA (c_EB (x_op2 (pe_op op_fdivA (x_varB (pv 5)) (c_FB (x_c pe_int fun _ _ => .int _))) p_fdiv)) (c_FB (x_c pe_int fun _ _ => .int _))) p_mod)) (c_FB (x_c pe_int fun _ _ => .int _))) p_sub)) (xa_nil pa_nil))))))) (xa_nil pa_nil)))))))))))))) (s_nil pss_nil))) (s_nil pss_nil))) (s_seq (pss_cons (s_ret (ps_ret (c_FE (x_tup (pe_tup (xa_cons (pa_cons (x_c pe_str fun _ _ => .str _) (xa_cons (pa_cons (x_var (pv 6)) (xa_cons (pa_cons (x_var (pv 7)) (xa_cons (pa_cons (c_EF (x_call rfl (g_call ih.i__law_expression hr hq (by rfl) T.m__law_expression T.F__law_expression.kp T.b__law_expression pass0 (xa_cons (pa_cons (x_var (pv 0)) (xa_cons (pa_cons (x_var (pv 1)) (xa_cons (pa_cons (x_var (pv 2)) (xa_cons (pa_cons (x_var (pv 3)) (xa_cons (pa_cons (c_EF (x_op2 (pe_op op_sub (x_varB (pv 4)) (c_FB (x_c pe_int fun _ _ => .int _))) p_sub)) (xa_nil pa_nil)))))))))))))) (xa_nil pa_nil)))))))))))))) (s_nil pss_nil)))))))))
theorem ok__law_times (T : Top w K mg) {k : Nat} (ih : Oks P w base T k) : GOk P w K mg base CX0 (k + 1) T.a__law_times T.d__law_times ["_law_cells", "_law_spot", "_law_at", "_law_scope", "_law_deep", "_law_n"] (spD K W0 6 (sem (k + 1) f__law_times)) := by
  rw [e__law_times]
  refine g_fn (N := ["_law_cells", "_law_spot", "_law_at", "_law_scope", "_law_deep", "_law_n", "_law_names_here", "_law_second", "_law_many", "_law_one", "_law_inner", "_law_other", "_law_first", "_law_behind", "_law_name"]) (ps := ["_law_cells", "_law_spot", "_law_at", "_law_scope", "_law_deep", "_law_n"]) (g := m__law_times (sem k)) T.F__law_times sc__law_times (fun cdv A outer s H EX hr hq => ?_)
  exact (s_seq (pss_cons (s_set (ps_set (i := 6) sc__law_times.nd rfl (by first | exact Or.inl rfl | exact Or.inr rfl) (c_FE (c_EF (x_dget (pe_dget (hu_of hr) (x_varB (pv 2)) (c_FB (x_c pe_str fun _ _ => .str _)) (fun _ _ => rfl))))))) (s_seq (pss_cons (s_asg (ps_asg (x_tup (pe_tup (xa_cons (pa_cons (c_EF (x_op2 (pe_op op_modA (c_EB (x_op2 (pe_op op_fdivA (x_varB (pv 5)) (c_FB (x_c pe_int fun _ _ => .int _))) p_fdiv)) (c_FB (x_c pe_int fun _ _ => .int _))) p_mod)) (xa_cons (pa_cons (c_EF (x_op2 (pe_op op_modA (c_EB (x_op2 (pe_op op_fdivA (x_varB (pv 5)) (c_FB (x_c pe_int fun _ _ => .int _))) p_fdiv)) (c_FB (x_c pe_int fun _ _ => .int _))) p_mod)) (xa_nil pa_nil))))))) (x_gtup (is := [12, 13]) rfl (pg_tup rfl (pgs_cons (pg_name (i := 12) sc__law_times.nd rfl (by first | exact Or.inl rfl | exact Or.inr rfl)) (pgs_cons (pg_name (i := 13) sc__law_times.nd rfl (by first | exact Or.inl rfl | exact Or.inr rfl)) pgs_nil)))))) (s_seq (pss_cons (s_set (ps_set (i := 7) sc__law_times.nd rfl (by first | exact Or.inl rfl | exact Or.inr rfl) (c_FE (c_EF (x_op2 (pe_op op_modA (c_EB (x_op2 (pe_op op_addA (c_EB (x_op2 (pe_op op_addA (x_varB (pv 12)) (c_FB (x_c pe_int fun _ _ => .int _))) p_add)) (x_varB (pv 13))) p_add)) (c_FB (x_c pe_int fun _ _ => .int _))) p_mod))))) (s_seq (pss_cons (s_set (ps_set (i := 8) sc__law_times.nd rfl (by first | exact Or.inl rfl | exact Or.inr rfl) (c_FE (x_tup (pe_tup (xa_cons (pa_cons (x_c pe_str fun _ _ => .str _) (xa_cons (pa_cons (c_EF (x_op2 (pe_op op_modA (x_varB (pv 5)) (c_FB (x_c pe_int fun _ _ => .int _))) p_mod)) (xa_nil pa_nil)))))))))) (s_seq (pss_cons (s_if (ps_if (PW.pt (x_and (pw_and (x_not (pt_not (x_truth (pt_truth (c_EB (x_dget (pe_dget (hu_of hr) (x_varB (pv 2)) (c_FB (x_c pe_str fun _ _ => .str _)) (fun _ _ => rfl)))) (fun _ => rfl))))) (pw_and1 (x_test2 (pt_cmpR (op_eqW (un_of hr)) (c_EB (x_op2 (pe_op op_modA (c_EB (x_op2 (pe_op op_fdivA (x_varB (pv 5)) (c_FB (x_c pe_int fun _ _ => .int _))) p_fdiv)) (c_FB (x_c pe_int fun _ _ => .int _))) p_mod)) (c_FB (x_c pe_int fun _ _ => .int _)) rfl) p_eq))))) (s_seq (pss_cons (s_set (ps_set (i := 8) sc__law_times.nd rfl (by first | exact Or.inl rfl | exact Or.inr rfl) (c_FE (x_tup (pe_tup (xa_cons (pa_cons (x_c pe_str fun _ _ => .str _) (xa_cons (pa_cons (x_c pe_str fun _ _ => .str _) (xa_cons (pa_cons (c_EF (x_call rfl (g_call ih.i__law_expression hr hq (by rfl) T.m__law_expression T.F__law_expression.kp T.b__law_expression pass0 (xa_cons (pa_cons (x_var (pv 0)) (xa_cons (pa_cons (x_var (pv 1)) (xa_cons (pa_cons (x_var (pv 2)) (xa_cons (pa_cons (x_var (pv 3)) (xa_cons (pa_cons (c_EF (x_op2 (pe_op op_sub (x_varB (pv 4)) (c_FB (x_c pe_int fun _ _ => .int _))) p_sub)) (xa_nil pa_nil)))))))))))))) (xa_cons (pa_cons (x_tup (pe_tup (xa_cons (pa_cons (x_c pe_str fun _ _ => .str _) (xa_cons (pa_cons (x_c pe_int fun _ _ => .int _) (xa_nil pa_nil))))))) (xa_nil pa_nil)))))))))))))) (s_nil pss_nil))) (s_seq (pss_cons (s_if (ps_if (PW.pt (x_and (pw_and (x_not (pt_not (x_truth (pt_truth (c_EB (x_dget (pe_dget (hu_of hr) (x_varB (pv 2)) (c_FB (x_c pe_str fun _ _ => .str _)) (fun _ _ => rfl)))) (fun _ => rfl))))) (pw_and1 (x_test2 (pt_cmpR (op_eqW (un_of hr)) (c_EB (x_op2 (pe_op op_modA (c_EB (x_op2 (pe_op op_fdivA (x_varB (pv 5)) (c_FB (x_c pe_int fun _ _ => .int _))) p_fdiv)) (c_FB (x_c pe_int fun _ _ => .int _))) p_mod)) (c_FB (x_c pe_int fun _ _ => .int _)) rfl) p_eq))))) (s_seq (pss_cons (s_set (ps_set (i := 8) sc__law_times.nd rfl (by first | exact Or.inl rfl | exact Or.inr rfl) (c_FE (x_tup (pe_tup (xa_cons (pa_cons (x_c pe_str fun _ _ => .str _) (xa_cons (pa_cons (c_EF (x_op2 (pe_op op_addA (c_FB (x_c pe_int fun _ _ => .int _)) (c_EB (x_op2 (pe_op op_modA (c_EB (x_op2 (pe_op op_fdivA (x_varB (pv 5)) (c_FB (x_c pe_int fun _ _ => .int _))) p_fdiv)) (c_FB (x_c pe_int fun _ _ => .int _))) p_mod))) p_add)) (xa_nil pa_nil)))))))))) (s_nil pss_nil))) (s_nil pss_nil))) (s_nil pss_nil))))) (s_seq (pss_cons (s_set (ps_set (i := 9) sc__law_times.nd rfl (by first | exact Or.inl rfl | exact Or.inr rfl) (c_FE (c_EF (x_call rfl (g_call ih.i__law_expression hr hq (by rfl) T.m__law_expression T.F__law_expression.kp T.b__law_expression pass0 (xa_cons (pa_cons (x_var (pv 0)) (xa_cons (pa_cons (x_var (pv 1)) (xa_cons (pa_cons (x_var (pv 2)) (xa_cons (pa_cons (x_var (pv 3)) (xa_cons (pa_cons (c_EF (x_op2 (pe_op op_sub (x_varB (pv 4)) (c_FB (x_c pe_int fun _ _ => .int _))) p_sub)) (xa_nil pa_nil))))))))))))))))) (s_seq (pss_cons (s_set (ps_set (i := 10) sc__law_times.nd rfl (by first | exact Or.inl rfl | exact Or.inr rfl) (c_FE (c_EF (x_op2 (pe_op op_addA (c_EB (x_lc (by decide) (pe_lc (own := [("_law_name", 14)]) rfl sc__law_times.nd (x_it (PI.or (pi_list (x_var (pv 3))) (PI.or (pi_tup (x_var (pv 3))) (pi_str (x_var (pv 3)))))) (blkOk_by (N := ["_law_cells", "_law_spot", "_law_at", "_law_scope", "_law_deep", "_law_n", "_law_names_here", "_law_second", "_law_many", "_law_one", "_law_inner", "_law_other", "_law_first", "_law_behind", "_law_name"]) (sc := defScope s__law_times) (by decide +kernel)) (fun _ _ _ _ _ => (x_gname (pg_name (i := 14) sc__law_times.nd rfl (by first | exact Or.inl rfl | exact Or.inr rfl)))) (fun _ _ _ _ _ => (pts_one (x_test2 (pt_cmpR op_notInA (x_varB (pv 14)) (c_FB (x_tup (pe_tup (xa_cons (pa_cons (c_EF (x_ix (pe_ix ix_seq (x_varB (pv 6)) (x_varB (pv 12)) (fun _ _ => rfl)))) (xa_cons (pa_cons (c_EF (x_ix (pe_ix ix_seq (x_varB (pv 6)) (x_varB (pv 7)) (fun _ _ => rfl)))) (xa_nil pa_nil)))))))) rfl) p_notIn))) (fun _ _ _ _ _ => (x_var (pv 14)))))) (c_EB (x_lst (pe_lst (xa_cons (pa_cons (c_EF (x_ix (pe_ix ix_seq (x_varB (pv 6)) (x_varB (pv 12)) (fun _ _ => rfl)))) (xa_cons (pa_cons (c_EF (x_ix (pe_ix ix_seq (x_varB (pv 6)) (x_varB (pv 7)) (fun _ _ => rfl)))) (xa_nil pa_nil))))))))) p_add))))) (s_seq (pss_cons (s_set (ps_set (i := 11) sc__law_times.nd rfl (by first | exact Or.inl rfl | exact Or.inr rfl) (c_FE (c_EF (x_call rfl (g_call ih.i__law_expression hr hq (by rfl) T.m__law_expression T.F__law_expression.kp T.b__law_expression pass0 (xa_cons (pa_cons (x_var (pv 0)) (xa_cons (pa_cons (x_var (pv 1)) (xa_cons (pa_cons (x_var (pv 2)) (xa_cons (pa_cons (x_var (pv 10)) (xa_cons (pa_cons (c_EF (x_op2 (pe_op op_sub (x_varB (pv 4)) (c_FB (x_c pe_int fun _ _ => .int _))) p_sub)) (xa_nil pa_nil))))))))))))))))) (s_seq (pss_cons (s_ret (ps_ret (c_FE (x_tup (pe_tup (xa_cons (pa_cons (x_c pe_str fun _ _ => .str _) (xa_cons (pa_cons (x_var (pv 8)) (xa_cons (pa_cons (c_EF (x_ix (pe_ix ix_seq (x_varB (pv 6)) (x_varB (pv 12)) (fun _ _ => rfl)))) (xa_cons (pa_cons (c_EF (x_ix (pe_ix ix_seq (x_varB (pv 6)) (x_varB (pv 7)) (fun _ _ => rfl)))) (xa_cons (pa_cons (x_var (pv 9)) (xa_cons (pa_cons (x_var (pv 11)) (xa_nil pa_nil)))))))))))))))))) (s_nil pss_nil)))))))))))))))))))
theorem ok__law_call (T : Top w K mg) {k : Nat} (ih : Oks P w base T k) : GOk P w K mg base CX0 (k + 1) T.a__law_call T.d__law_call ["_law_cells", "_law_spot", "_law_at", "_law_scope", "_law_deep", "_law_n"] (spD K W0 6 (sem (k + 1) f__law_call)) := by
  rw [e__law_call]
  refine g_fn (N := ["_law_cells", "_law_spot", "_law_at", "_law_scope", "_law_deep", "_law_n", "_law_some", "_law_m", "_law_f", "_law_many", "_law_calm", "_law_row", "_law_k"]) (ps := ["_law_cells", "_law_spot", "_law_at", "_law_scope", "_law_deep", "_law_n"]) (g := m__law_call (sem k)) T.F__law_call sc__law_call (fun cdv A outer s H EX hr hq => ?_)
  exact (s_seq (pss_cons (s_setLc (by decide) (ps_setLc (i := 6) (own := [("_law_row", 11)]) rfl sc__law_call.nd rfl rfl (sw_true rfl rfl rfl (by decide +kernel)) (x_it (PI.or (pi_list (c_EF (x_dget (pe_dget (hu_of hr) (x_varB (pv 2)) (c_FB (x_c pe_str fun _ _ => .str _)) (fun _ _ => rfl))))) (PI.or (pi_tup (c_EF (x_dget (pe_dget (hu_of hr) (x_varB (pv 2)) (c_FB (x_c pe_str fun _ _ => .str _)) (fun _ _ => rfl))))) (pi_str (c_EF (x_dget (pe_dget (hu_of hr) (x_varB (pv 2)) (c_FB (x_c pe_str fun _ _ => .str _)) (fun _ _ => rfl)))))))) (blkOk_by (N := ["_law_cells", "_law_spot", "_law_at", "_law_scope", "_law_deep", "_law_n", "_law_some", "_law_m", "_law_f", "_law_many", "_law_calm", "_law_row", "_law_k"]) (sc := defScope s__law_call) (by decide +kernel)) (fun _ _ _ _ _ => (x_gname (pg_name (i := 11) sc__law_call.nd rfl (by first | exact Or.inl rfl | exact Or.inr rfl)))) (fun _ _ _ _ _ => (pts_one (PW.pt (x_or (pw_or (x_truth (pt_truth (c_EB (x_ix (pe_ix ix_seq (x_varB (pv 11)) (c_FB (x_c pe_int fun _ _ => .int _)) (fun _ _ => rfl)))) (fun _ => rfl))) (pw_or1 (x_not (pt_not (x_truth (pt_truth (c_EB (x_dget (pe_dget (hu_of hr) (x_varB (pv 2)) (c_FB (x_c pe_str fun _ _ => .str _)) (fun _ _ => rfl)))) (fun _ => rfl))))))))))) (fun _ _ _ _ _ => (x_var (pv 11))))) (s_seq (pss_cons (s_if (ps_if (x_test2 (pt_cmpR (op_eqW (un_of hr)) (x_varB (pv 6)) (c_EB (x_lst (pe_lst (xa_nil pa_nil)))) rfl) p_eq) (s_seq (pss_cons (s_ret (ps_ret (x_call rfl (g_call ih.i__law_leaf hr hq (by rfl) T.m__law_leaf T.F__law_leaf.kp T.b__law_leaf pass0 (xa_cons (pa_cons (x_var (pv 2)) (xa_cons (pa_cons (x_var (pv 3)) (xa_cons (pa_cons (x_var (pv 5)) (xa_nil pa_nil))))))))))) (s_nil pss_nil))) (s_nil pss_nil))) (s_seq (pss_cons (s_asg (ps_asg (c_EF (x_ix (pe_ix ix_seq (x_varB (pv 6)) (c_EB (x_op2 (pe_op op_modA (x_varB (pv 5)) (c_EB (x_prim (pe_callB call_lenA (by rfl) T.z_len bt_len (xr_cons (pa_cons (x_varB (pv 6)) (xr_nil pa_nil)))) p_len))) p_mod)) (fun _ _ => rfl)))) (x_gtup (is := [7, 8, 9, 10]) rfl (pg_tup rfl (pgs_cons (pg_name (i := 7) sc__law_call.nd rfl (by first | exact Or.inl rfl | exact Or.inr rfl)) (pgs_cons (pg_name (i := 8) sc__law_call.nd rfl (by first | exact Or.inl rfl | exact Or.inr rfl)) (pgs_cons (pg_name (i := 9) sc__law_call.nd rfl (by first | exact Or.inl rfl | exact Or.inr rfl)) (pgs_cons (pg_name (i := 10) sc__law_call.nd rfl (by first | exact Or.inl rfl | exact Or.inr rfl)) pgs_nil)))))))) (s_seq (pss_cons (s_ret (ps_ret (c_FE (x_tup (pe_tup (xa_cons (pa_cons (x_c pe_str fun _ _ => .str _) (xa_cons (pa_cons (x_var (pv 7)) (xa_cons (pa_cons (x_var (pv 8)) (xa_cons (pa_cons (c_EF (x_prim (pe_callTy call_tuple_of (by rfl) T.z_tuple bt_tuple (xr_cons (pa_cons (c_EB (x_lc (by decide) (pe_lc (own := [("_law_k", 12)]) rfl sc__law_call.nd (x_rng1 (pi_range1 (by rfl) T.z_range (xr_cons (pa_cons (x_varB (pv 9)) (xr_nil pa_nil))))) (blkOk_by (N := ["_law_cells", "_law_spot", "_law_at", "_law_scope", "_law_deep", "_law_n", "_law_some", "_law_m", "_law_f", "_law_many", "_law_calm", "_law_row", "_law_k"]) (sc := defScope s__law_call) (by decide +kernel)) (fun _ _ _ _ _ => (x_gname (pg_name (i := 12) sc__law_call.nd rfl (by first | exact Or.inl rfl | exact Or.inr rfl)))) (fun _ _ _ _ _ => x_yes) (fun _ _ _ _ _ => (c_EF (x_call rfl (g_call ih.i__law_expression hr hq (by rfl) T.m__law_expression T.F__law_expression.kp T.b__law_expression pass0 (xa_cons (pa_cons (x_var (pv 0)) (xa_cons (pa_cons (x_var (pv 1)) (xa_cons (pa_cons (x_var (pv 2)) (xa_cons (pa_cons (x_var (pv 3)) (xa_cons (pa_cons (c_EF (x_op2 (pe_op op_sub (x_varB (pv 4)) (c_FB (x_c pe_int fun _ _ => .int _))) p_sub)) (xa_nil pa_nil)))))))))))))))))) (xr_nil pa_nil)))) p_tuple)) (xa_nil pa_nil)))))))))))))) (s_nil pss_nil)))))))))
theorem ok__law_expression (T : Top w K mg) {k : Nat} (ih : Oks P w base T k) : GOk P w K mg base CX0 (k + 1) T.a__law_expression T.d__law_expression ["_law_cells", "_law_spot", "_law_at", "_law_scope", "_law_deep"] (spD K W0 5 (sem (k + 1) f__law_expression)) := by
  rw [e__law_expression]
  refine g_fn (N := ["_law_cells", "_law_spot", "_law_at", "_law_scope", "_law_deep", "_law_n", "_law_way", "_law_more", "_law_name", "_law_one", "_law_inner", "_law_other", "_law_k"]) (ps := ["_law_cells", "_law_spot", "_law_at", "_law_scope", "_law_deep"]) (g := m__law_expression (sem k)) T.F__law_expression sc__law_expression (fun cdv A outer s H EX hr hq => ?_)
  exact (s_seq (pss_cons (s_set (ps_set (i := 5) sc__law_expression.nd rfl (by first | exact Or.inl rfl | exact Or.inr rfl) (c_FE (c_EF (x_call rfl (g_call ih.i__law_cell hr hq (by rfl) T.m__law_cell T.F__law_cell.kp T.b__law_cell pass0 (xa_cons (pa_cons (x_var (pv 0)) (xa_cons (pa_cons (x_var (pv 1)) (xa_nil pa_nil))))))))))) (s_seq (pss_cons (s_par (ps_par (i := 6) (j := 7) rfl sc__law_expression.nd rfl rfl (by decide) rfl rfl (xa_cons (pa_cons (c_EF (x_op2 (pe_op op_modA (x_varB (pv 5)) (c_FB (x_c pe_int fun _ _ => .int _))) p_mod)) (xa_cons (pa_cons (c_EF (x_op2 (pe_op op_fdivA (x_varB (pv 5)) (c_FB (x_c pe_int fun _ _ => .int _))) p_fdiv)) (xa_nil pa_nil))))) rfl)) (s_seq (pss_cons (s_if (ps_if (PW.pt (x_or (pw_or (x_test2 (pt_cmpR op_lt (x_varB (pv 4)) (c_FB (x_c pe_int fun _ _ => .int _)) rfl) (p_cmp fun i j => decide (i < j))) (pw_or1 (x_test2 (pt_cmpR op_lt (x_varB (pv 6)) (c_FB (x_c pe_int fun _ _ => .int _)) rfl) (p_cmp fun i j => decide (i < j))))))) (s_seq (pss_cons (s_ret (ps_ret (x_call rfl (g_call ih.i__law_leaf hr hq (by rfl) T.m__law_leaf T.F__law_leaf.kp T.b__law_leaf pass0 (xa_cons (pa_cons (x_var (pv 2)) (xa_cons (pa_cons (x_var (pv 3)) (xa_cons (pa_cons (x_var (pv 7)) (xa_nil pa_nil))))))))))) (s_nil pss_nil))) (s_nil pss_nil))) (s_seq (pss_cons (s_if (ps_if (x_test2 (pt_cmpR op_lt (x_varB (pv 6)) (c_FB (x_c pe_int fun _ _ => .int _)) rfl) (p_cmp fun i j => decide (i < j))) (s_seq (pss_cons (s_ret (ps_ret (x_call rfl (g_call ih.i__law_call hr hq (by rfl) T.m__law_call T.F__law_call.kp T.b__law_call pass0 (xa_cons (pa_cons (x_var (pv 0)) (xa_cons (pa_cons (x_var (pv 1)) (xa_cons (pa_cons (x_var (pv 2)) (xa_cons (pa_cons (x_var (pv 3)) (xa_cons (pa_cons (x_var (pv 4)) (xa_cons (pa_cons (x_var (pv 7)) (xa_nil pa_nil))))))))))))))))) (s_nil pss_nil))) (s_nil pss_nil))) (s_seq (pss_cons (s_if (ps_if (x_test2 (pt_cmpR (op_eqW (un_of hr)) (x_varB (pv 6)) (c_FB (x_c pe_int fun _ _ => .int _)) rfl) p_eq) (s_seq (pss_cons (s_ret (ps_ret (x_call rfl (g_call ih.i__law_times hr hq (by rfl) T.m__law_times T.F__law_times.kp T.b__law_times pass0 (xa_cons (pa_cons (x_var (pv 0)) (xa_cons (pa_cons (x_var (pv 1)) (xa_cons (pa_cons (x_var (pv 2)) (xa_cons (pa_cons (x_var (pv 3)) (xa_cons (pa_cons (x_var (pv 4)) (xa_cons (pa_cons (x_var (pv 7)) (xa_nil pa_nil))))))))))))))))) (s_nil pss_nil))) (s_nil pss_nil))) (s_seq (pss_cons (s_if (ps_if (x_test2 (pt_cmpR op_lt (x_varB (pv 6)) (c_FB (x_c pe_int fun _ _ => .int _)) rfl) (p_cmp fun i j => decide (i < j))) (s_seq (pss_cons (s_set (ps_set (i := 8) sc__law_expression.nd rfl (by first | exact Or.inl rfl | exact Or.inr rfl) (c_FE (c_EF (x_ix (pe_ix ix_seq (c_EB (x_dget (pe_dget (hu_of hr) (x_varB (pv 2)) (c_FB (x_c pe_str fun _ _ => .str _)) (fun _ _ => rfl)))) (c_EB (x_op2 (pe_op op_modA (x_varB (pv 7)) (c_FB (x_c pe_int fun _ _ => .int _))) p_mod)) (fun _ _ => rfl))))))) (s_seq (pss_cons (s_set (ps_set (i := 9) sc__law_expression.nd rfl (by first | exact Or.inl rfl | exact Or.inr rfl) (c_FE (c_EF (x_call rfl (g_call ih.i__law_expression hr hq (by rfl) T.m__law_expression T.F__law_expression.kp T.b__law_expression pass0 (xa_cons (pa_cons (x_var (pv 0)) (xa_cons (pa_cons (x_var (pv 1)) (xa_cons (pa_cons (x_var (pv 2)) (xa_cons (pa_cons (x_var (pv 3)) (xa_cons (pa_cons (c_EF (x_op2 (pe_op op_sub (x_varB (pv 4)) (c_FB (x_c pe_int fun _ _ => .int _))) p_sub)) (xa_nil pa_nil))))))))))))))))) (s_seq (pss_cons (s_set (ps_set (i := 10) sc__law_expression.nd rfl (by first | exact Or.inl rfl | exact Or.inr rfl) (c_FE (c_EF (x_op2 (pe_op op_addA (c_EB (x_lc (by decide) (pe_lc (own := [("_law_other", 11)]) rfl sc__law_expression.nd (x_it (PI.or (pi_list (x_var (pv 3))) (PI.or (pi_tup (x_var (pv 3))) (pi_str (x_var (pv 3)))))) (blkOk_by (N := ["_law_cells", "_law_spot", "_law_at", "_law_scope", "_law_deep", "_law_n", "_law_way", "_law_more", "_law_name", "_law_one", "_law_inner", "_law_other", "_law_k"]) (sc := defScope s__law_expression) (by decide +kernel)) (fun _ _ _ _ _ => (x_gname (pg_name (i := 11) sc__law_expression.nd rfl (by first | exact Or.inl rfl | exact Or.inr rfl)))) (fun _ _ _ _ _ => (pts_one (x_test2 (pt_cmpR (op_neW (un_of hr)) (x_varB (pv 11)) (x_varB (pv 8)) rfl) p_ne))) (fun _ _ _ _ _ => (x_var (pv 11)))))) (c_EB (x_lst (pe_lst (xa_cons (pa_cons (x_var (pv 8)) (xa_nil pa_nil))))))) p_add))))) (s_seq (pss_cons (s_ret (ps_ret (c_FE (x_tup (pe_tup (xa_cons (pa_cons (x_c pe_str fun _ _ => .str _) (xa_cons (pa_cons (x_var (pv 8)) (xa_cons (pa_cons (x_var (pv 9)) (xa_cons (pa_cons (c_EF (x_call rfl (g_call ih.i__law_expression hr hq (by rfl) T.m__law_expression T.F__law_expression.kp T.b__law_expression pass0 (xa_cons (pa_cons (x_var (pv 0)) (xa_cons (pa_cons (x_var (pv 1)) (xa_cons (pa_cons (x_var (pv 2)) (xa_cons (pa_cons (x_var (pv 10)) (xa_cons (pa_cons (c_EF (x_op2 (pe_op op_sub (x_varB (pv 4)) (c_FB (x_c pe_int fun _ _ => .int _))) p_sub)) (xa_nil pa_nil)))))))))))))) (xa_nil pa_nil)))))))))))))) (s_nil pss_nil))))))))) (s_nil pss_nil))) (s_seq (pss_cons (s_if (ps_if (x_test2 (pt_cmpR (op_eqW (un_of hr)) (x_varB (pv 6)) (c_FB (x_c pe_int fun _ _ => .int _)) rfl) p_eq) (s_seq (pss_cons (s_ret (ps_ret (x_op2 (pe_op op_addA (c_FB (x_tup (pe_tup (xa_cons (pa_cons (x_c pe_str fun _ _ => .str _) (xa_nil pa_nil)))))) (c_EB (x_prim (pe_callTy call_tuple_of (by rfl) T.z_tuple bt_tuple (xr_cons (pa_cons (c_EB (x_lc (by decide) (pe_lc (own := [("_law_k", 12)]) rfl sc__law_expression.nd (x_rng1 (pi_range1 (by rfl) T.z_range (xr_cons (pa_cons (c_FB (x_c pe_int fun _ _ => .int _)) (xr_nil pa_nil))))) (blkOk_by (N := ["_law_cells", "_law_spot", "_law_at", "_law_scope", "_law_deep", "_law_n", "_law_way", "_law_more", "_law_name", "_law_one", "_law_inner", "_law_other", "_law_k"]) (sc := defScope s__law_expression) (by decide +kernel)) (fun _ _ _ _ _ => (x_gname (pg_name (i := 12) sc__law_expression.nd rfl (by first | exact Or.inl rfl | exact Or.inr rfl)))) (fun _ _ _ _ _ => x_yes) (fun _ _ _ _ _ => (c_EF (x_call rfl (g_call ih.i__law_expression hr hq (by rfl) T.m__law_expression T.F__law_expression.kp T.b__law_expression pass0 (xa_cons (pa_cons (x_var (pv 0)) (xa_cons (pa_cons (x_var (pv 1)) (xa_cons (pa_cons (x_var (pv 2)) (xa_cons (pa_cons (x_var (pv 3)) (xa_cons (pa_cons (c_EF (x_op2 (pe_op op_sub (x_varB (pv 4)) (c_FB (x_c pe_int fun _ _ => .int _))) p_sub)) (xa_nil pa_nil)))))))))))))))))) (xr_nil pa_nil)))) p_tuple))) p_add))) (s_nil pss_nil))) (s_nil pss_nil))) (s_seq (pss_cons (s_if (ps_if (PW.pt (x_and (pw_and (x_test2 (pt_cmpR op_lt (x_varB (pv 6)) (c_FB (x_c pe_int fun _ _ => .int _)) rfl) (p_cmp fun i j => decide (i < j))) (pw_and1 (x_not (pt_not (x_truth (pt_truth (c_EB (x_dget (pe_dget (hu_of hr) (x_varB (pv 2)) (c_FB (x_c pe_str fun _ _ => .str _)) (fun _ _ => rfl)))) (fun _ => rfl))))))))) (s_seq (pss_cons (s_set (ps_set (i := 9) sc__law_expression.nd rfl (by first | exact Or.inl rfl | exact Or.inr rfl) (c_FE (c_EF (x_call rfl (g_call ih.i__law_expression hr hq (by rfl) T.m__law_expression T.F__law_expression.kp T.b__law_expression pass0 (xa_cons (pa_cons (x_var (pv 0)) (xa_cons (pa_cons (x_var (pv 1)) (xa_cons (pa_cons (x_var (pv 2)) (xa_cons (pa_cons (x_var (pv 3)) (xa_cons (pa_cons (c_EF (x_op2 (pe_op op_sub (x_varB (pv 4)) (c_FB (x_c pe_int fun _ _ => .int _))) p_sub)) (xa_nil pa_nil))))))))))))))))) (s_seq (pss_cons (s_ret (ps_ret (c_FE (x_tup (pe_tup (xa_cons (pa_cons (x_c pe_str fun _ _ => .str _) (xa_cons (pa_cons (x_var (pv 9)) (xa_cons (pa_cons (c_EF (x_call rfl (g_call ih.i__law_expression hr hq (by rfl) T.m__law_expression T.F__law_expression.kp T.b__law_expression pass0 (xa_cons (pa_cons (x_var (pv 0)) (xa_cons (pa_cons (x_var (pv 1)) (xa_cons (pa_cons (x_var (pv 2)) (xa_cons (pa_cons (x_var (pv 3)) (xa_cons (pa_cons (c_EF (x_op2 (pe_op op_sub (x_varB (pv 4)) (c_FB (x_c pe_int fun _ _ => .int _))) p_sub)) (xa_nil pa_nil)))))))))))))) (xa_nil pa_nil)))))))))))) (s_nil pss_nil))))) (s_nil pss_nil))) (s_seq (pss_cons (s_if (ps_if (PW.pt (x_and (pw_and (x_test2 (pt_cmpR (op_eqW (un_of hr)) (x_varB (pv 6)) (c_FB (x_c pe_int fun _ _ => .int _)) rfl) p_eq) (x_and (pw_and (x_not (pt_not (x_truth (pt_truth (c_EB (x_dget (pe_dget (hu_of hr) (x_varB (pv 2)) (c_FB (x_c pe_str fun _ _ => .str _)) (fun _ _ => rfl)))) (fun _ => rfl))))) (pw_and1 (x_test2 (pt_cmpR (op_eqW (un_of hr)) (c_EB (x_op2 (pe_op op_modA (x_varB (pv 7)) (c_FB (x_c pe_int fun _ _ => .int _))) p_mod)) (c_FB (x_c pe_int fun _ _ => .int _)) rfl) p_eq))))))) (s_seq (pss_cons (s_ret (ps_ret (c_FE (x_tup (pe_tup (xa_cons (pa_cons (x_c pe_str fun _ _ => .str _) (xa_cons (pa_cons (c_EF (x_call rfl (g_call ih.i__law_expression hr hq (by rfl) T.m__law_expression T.F__law_expression.kp T.b__law_expression pass0 (xa_cons (pa_cons (x_var (pv 0)) (xa_cons (pa_cons (x_var (pv 1)) (xa_cons (pa_cons (x_var (pv 2)) (xa_cons (pa_cons (x_var (pv 3)) (xa_cons (pa_cons (c_EF (x_op2 (pe_op op_sub (x_varB (pv 4)) (c_FB (x_c pe_int fun _ _ => .int _))) p_sub)) (xa_nil pa_nil)))))))))))))) (xa_nil pa_nil)))))))))) (s_nil pss_nil))) (s_nil pss_nil))) (s_seq (pss_cons (s_ret (ps_ret (x_call rfl (g_call ih.i__law_op hr hq (by rfl) T.m__law_op T.F__law_op.kp T.b__law_op pass0 (xa_cons (pa_cons (x_var (pv 0)) (xa_cons (pa_cons (x_var (pv 1)) (xa_cons (pa_cons (x_var (pv 2)) (xa_cons (pa_cons (x_var (pv 3)) (xa_cons (pa_cons (x_var (pv 4)) (xa_cons (pa_cons (x_var (pv 7)) (xa_nil pa_nil))))))))))))))))) (s_nil pss_nil)))))))))))))))))))))
theorem ok__law_program (T : Top w K mg) {k : Nat} (ih : Oks P w base T k) : GOk P w K mg base CX0 (k + 1) T.a__law_program T.d__law_program ["_law_cells", "_law_spot", "_law_most"] (spD K W0 3 (sem (k + 1) f__law_program)) := by
  rw [e__law_program]
  refine g_fn (N := ["_law_cells", "_law_spot", "_law_most", "_law_n", "_law_ahead", "_law_modules", "_law_k", "_law_names_here", "_law_rooms", "_law_room", "_law_j", "_law_more", "_law_params", "_law_at", "_law_body", "_law_name", "_law_i"]) (ps := ["_law_cells", "_law_spot", "_law_most"]) (g := m__law_program (sem k)) T.F__law_program sc__law_program (fun cdv A outer s H EX hr hq => ?_)
  exact (s_seq (pss_cons (s_set (ps_set (i := 3) sc__law_program.nd rfl (by first | exact Or.inl rfl | exact Or.inr rfl) (c_FE (c_EF (x_call rfl (g_call ih.i__law_cell hr hq (by rfl) T.m__law_cell T.F__law_cell.kp T.b__law_cell pass0 (xa_cons (pa_cons (x_var (pv 0)) (xa_cons (pa_cons (x_var (pv 1)) (xa_nil pa_nil))))))))))) (s_seq (pss_cons (s_asg (ps_asg (x_tup (pe_tup (xa_cons (pa_cons (c_EF (x_call rfl (g_call ih.i__law_names hr hq (by rfl) T.m__law_names T.F__law_names.kp T.b__law_names pass0 (xa_cons (pa_cons (x_var (pv 3)) (xa_nil pa_nil)))))) (xa_cons (pa_cons (c_EF (x_call rfl (g_call ih.i__law_names hr hq (by rfl) T.m__law_names T.F__law_names.kp T.b__law_names pass0 (xa_cons (pa_cons (c_EF (x_op2 (pe_op op_fdivA (x_varB (pv 3)) (c_FB (x_c pe_int fun _ _ => .int _))) p_fdiv)) (xa_nil pa_nil)))))) (xa_nil pa_nil))))))) (x_gtup (is := [7, 8]) rfl (pg_tup rfl (pgs_cons (pg_name (i := 7) sc__law_program.nd rfl (by first | exact Or.inl rfl | exact Or.inr rfl)) (pgs_cons (pg_name (i := 8) sc__law_program.nd rfl (by first | exact Or.inl rfl | exact Or.inr rfl)) pgs_nil)))))) (s_seq (pss_cons (s_set (ps_set (i := 4) sc__law_program.nd rfl (by first | exact Or.inl rfl | exact Or.inr rfl) (c_FE (c_EF (x_lst (pe_lst (xa_nil pa_nil))))))) (s_seq (pss_cons (s_set (ps_set (i := 5) sc__law_program.nd rfl (by first | exact Or.inl rfl | exact Or.inr rfl) (x_lst (pe_lst (xa_nil pa_nil))))) (s_seq (pss_cons (s_for (ps_for PassesOwn.never rfl (x_rng1 (pi_range1 (by rfl) T.z_range (xr_cons (pa_cons (c_EB (x_op2 (pe_op op_addA (c_FB (x_c pe_int fun _ _ => .int _)) (c_EB (x_op2 (pe_op op_modA (c_EB (x_op2 (pe_op op_fdivA (x_varB (pv 3)) (c_FB (x_c pe_int fun _ _ => .int _))) p_fdiv)) (c_FB (x_c pe_int fun _ _ => .int _))) p_mod))) p_add)) (xr_nil pa_nil))))) (x_gname (pg_name (i := 6) sc__law_program.nd rfl (by first | exact Or.inl rfl | exact Or.inr rfl))) (s_seq (pss_cons (s_set (ps_set (i := 9) sc__law_program.nd rfl (by first | exact Or.inl rfl | exact Or.inr rfl) (x_lst (pe_lst (xa_nil pa_nil))))) (s_seq (pss_cons (s_for (ps_for PassesOwn.never rfl (x_rng1 (pi_range1 (by rfl) T.z_range (xr_cons (pa_cons (c_EB (x_prim (pe_callB (call_max2 rfl) (by rfl) T.z_max bt_max (xr_cons (pa_cons (c_EB (x_prim (pe_callTy call_int1 (by rfl) T.z_int bt_int (xr_cons (pa_cons (c_EB (x_op2 (pe_cmpR (op_eqW (un_of hr)) (x_varB (pv 6)) (c_FB (x_c pe_int fun _ _ => .int _)) rfl) p_eq)) (xr_nil pa_nil)))) p_int)) (xr_cons (pa_cons (c_EB (x_op2 (pe_op op_modA (c_EB (x_op2 (pe_op op_fdivA (c_EB (x_call rfl (g_call ih.i__law_cell hr hq (by rfl) T.m__law_cell T.F__law_cell.kp T.b__law_cell pass0 (xa_cons (pa_cons (x_var (pv 0)) (xa_cons (pa_cons (x_var (pv 1)) (xa_nil pa_nil)))))))) (c_FB (x_c pe_int fun _ _ => .int _))) p_fdiv)) (c_EB (x_op2 (pe_op op_addA (x_varB (pv 2)) (c_FB (x_c pe_int fun _ _ => .int _))) p_add))) p_mod)) (xr_nil pa_nil)))))) p_max2)) (xr_nil pa_nil))))) (x_gname (pg_name (i := 10) sc__law_program.nd rfl (by first | exact Or.inl rfl | exact Or.inr rfl))) (s_seq (pss_cons (s_set (ps_set (i := 11) sc__law_program.nd rfl (by first | exact Or.inl rfl | exact Or.inr rfl) (c_FE (c_EF (x_call rfl (g_call ih.i__law_cell hr hq (by rfl) T.m__law_cell T.F__law_cell.kp T.b__law_cell pass0 (xa_cons (pa_cons (x_var (pv 0)) (xa_cons (pa_cons (x_var (pv 1)) (xa_nil pa_nil))))))))))) (s_seq (pss_cons (s_setLc (by decide) (ps_setLc (i := 12) (own := [("_law_i", 16)]) rfl sc__law_program.nd rfl rfl (sw_true rfl rfl rfl (by decide +kernel)) (x_rng1 (pi_range1 (by rfl) T.z_range (xr_cons (pa_cons (c_EB (x_op2 (pe_op op_modA (c_EB (x_op2 (pe_op op_fdivA (x_varB (pv 11)) (c_FB (x_c pe_int fun _ _ => .int _))) p_fdiv)) (c_FB (x_c pe_int fun _ _ => .int _))) p_mod)) (xr_nil pa_nil))))) (blkOk_by (N := ["_law_cells", "_law_spot", "_law_most", "_law_n", "_law_ahead", "_law_modules", "_law_k", "_law_names_here", "_law_rooms", "_law_room", "_law_j", "_law_more", "_law_params", "_law_at", "_law_body", "_law_name", "_law_i"]) (sc := defScope s__law_program) (by decide +kernel)) (fun _ _ _ _ _ => (x_gname (pg_name (i := 16) sc__law_program.nd rfl (by first | exact Or.inl rfl | exact Or.inr rfl)))) (fun _ _ _ _ _ => x_yes) (fun _ _ _ _ _ => (c_EF (x_ix (pe_ix ix_seq (x_varB (pv 7)) (c_EB (x_op2 (pe_op op_modA (c_EB (x_op2 (pe_op op_addA (x_varB (pv 11)) (c_EB (x_op2 (pe_op op_mulA (c_FB (x_c pe_int fun _ _ => .int _)) (x_varB (pv 16))) p_mul))) p_add)) (c_FB (x_c pe_int fun _ _ => .int _))) p_mod)) (fun _ _ => rfl))))))) (s_seq (pss_cons (s_set (ps_set (i := 13) sc__law_program.nd rfl (by first | exact Or.inl rfl | exact Or.inr rfl) (c_FE (x_disp (ks := ["names", "ahead", "quiet"]) (fs := [(dVar 7), (dVar 4), (dEF (dOp2 eqD (dEF (dOp2 modD (dEF (dOp2 fdivD (dVarB 11) (dC (.int 20)))) (dC (.int 3)))) (dC (.int 0))))]) rfl (pe_disp (pps_cons pe_str (x_var (pv 7)) (pps_cons pe_str (x_var (pv 4)) (pps_cons pe_str (c_EF (x_op2 (pe_cmpR (op_eqW (un_of hr)) (c_EB (x_op2 (pe_op op_modA (c_EB (x_op2 (pe_op op_fdivA (x_varB (pv 11)) (c_FB (x_c pe_int fun _ _ => .int _))) p_fdiv)) (c_FB (x_c pe_int fun _ _ => .int _))) p_mod)) (c_FB (x_c pe_int fun _ _ => .int _)) rfl) p_eq)) pps_nil))) rfl rfl (by simp) (by decide)))))) (s_seq (pss_cons (s_fz (s_set (ps_set (i := 14) sc__law_program.nd rfl (by first | exact Or.inl rfl | exact Or.inr rfl) (c_FE (c_EF (x_call rfl (g_call ih.i__law_expression hr hq (by rfl) T.m__law_expression T.F__law_expression.kp T.b__law_expression pass0 (xa_cons (pa_cons (x_var (pv 0)) (xa_cons (pa_cons (x_var (pv 1)) (xa_cons (pa_cons (x_var (pv 13)) (xa_cons (pa_cons (x_var (pv 12)) (xa_cons (pa_cons (c_EF (x_op2 (pe_op op_addA (c_FB (x_c pe_int fun _ _ => .int _)) (c_EB (x_op2 (pe_op op_modA (c_EB (x_op2 (pe_op op_fdivA (x_varB (pv 11)) (c_FB (x_c pe_int fun _ _ => .int _))) p_fdiv)) (c_FB (x_c pe_int fun _ _ => .int _))) p_mod))) p_add)) (xa_nil pa_nil)))))))))))))))))) (s_seq (pss_cons (s_set (ps_set (i := 15) sc__law_program.nd rfl (by first | exact Or.inl rfl | exact Or.inr rfl) (c_FE (c_EF (x_ix (pe_ix ix_seq (x_varB (pv 8)) (c_EB (x_op2 (pe_op op_modA (c_EB (x_op2 (pe_op op_addA (c_EB (x_op2 (pe_op op_addA (c_EB (x_op2 (pe_op op_modA (c_EB (x_op2 (pe_op op_fdivA (x_varB (pv 11)) (c_FB (x_c pe_int fun _ _ => .int _))) p_fdiv)) (c_FB (x_c pe_int fun _ _ => .int _))) p_mod)) (c_FB (x_c pe_int fun _ _ => .int _))) p_add)) (c_EB (x_op2 (pe_op op_mulA (c_FB (x_c pe_int fun _ _ => .int _)) (x_varB (pv 10))) p_mul))) p_add)) (c_FB (x_c pe_int fun _ _ => .int _))) p_mod)) (fun _ _ => rfl))))))) (s_seq (pss_cons (s_app (ps_expr (pe_bm PySem.F.plainAttrs_list PySem.F.slot_list_append PySem.F.type_list_append mt_append (pv 9) (pa_cons (x_tup (pe_tup (xa_cons (pa_cons (x_var (pv 15)) (xa_cons (pa_cons (c_EF (x_prim (pe_callTy call_tuple_of (by rfl) T.z_tuple bt_tuple (xr_cons (pa_cons (x_varB (pv 12)) (xr_nil pa_nil)))) p_tuple)) (xa_cons (pa_cons (x_var (pv 14)) (xa_nil pa_nil))))))))) pa_nil)))) (s_seq (pss_cons (s_set (ps_set (i := 4) sc__law_program.nd rfl (by first | exact Or.inl rfl | exact Or.inr rfl) (c_FE (c_EF (x_op2 (pe_op op_addA (x_varB (pv 4)) (c_EB (x_lst (pe_lst (xa_cons (pa_cons (x_tup (pe_tup (xa_cons (pa_cons (c_EF (x_ix (pe_ix ix_seq (x_varB (pv 8)) (x_varB (pv 6)) (fun _ _ => rfl)))) (xa_cons (pa_cons (x_var (pv 15)) (xa_cons (pa_cons (c_EF (x_prim (pe_callB call_lenA (by rfl) T.z_len bt_len (xr_cons (pa_cons (x_varB (pv 12)) (xr_nil pa_nil)))) p_len)) (xa_cons (pa_cons (c_EF (x_dget (pe_dget (hu_of hr) (x_varB (pv 13)) (c_FB (x_c pe_str fun _ _ => .str _)) (fun _ _ => rfl)))) (xa_nil pa_nil))))))))))) (xa_nil pa_nil))))))) p_add))))) (s_nil pss_nil))))))))))))))))) (s_seq (pss_cons (s_app (ps_expr (pe_bm PySem.F.plainAttrs_list PySem.F.slot_list_append PySem.F.type_list_append mt_append (pv 5) (pa_cons (x_tup (pe_tup (xa_cons (pa_cons (c_EF (x_ix (pe_ix ix_seq (x_varB (pv 8)) (x_varB (pv 6)) (fun _ _ => rfl)))) (xa_cons (pa_cons (c_EF (x_prim (pe_callTy call_tuple_of (by rfl) T.z_tuple bt_tuple (xr_cons (pa_cons (x_varB (pv 9)) (xr_nil pa_nil)))) p_tuple)) (xa_nil pa_nil))))))) pa_nil)))) (s_nil pss_nil))))))))) (s_seq (pss_cons (s_ret (ps_ret (x_prim (pe_callTy call_tuple_of (by rfl) T.z_tuple bt_tuple (xr_cons (pa_cons (x_varB (pv 5)) (xr_nil pa_nil)))) p_tuple))) (s_nil pss_nil)))))))))))))
theorem ok__law_due (T : Top w K mg) {k : Nat} (ih : Oks P w base T k) : GOk P w K mg base CX0 (k + 1) T.a__law_due T.d__law_due ["_law_program_here"] (spD K W0 1 (sem (k + 1) f__law_due)) := by
  rw [e__law_due]
  refine g_fn (N := ["_law_program_here", "_law_found", "_law_m", "_law_rows", "_law_f", "_law_params", "_law_body"]) (ps := ["_law_program_here"]) (g := m__law_due (sem k)) T.F__law_due sc__law_due (fun cdv A outer s H EX hr hq => ?_)
  exact (s_seq (pss_cons (s_set (ps_set (i := 1) sc__law_due.nd rfl (by first | exact Or.inl rfl | exact Or.inr rfl) (x_lst (pe_lst (xa_nil pa_nil))))) (s_seq (pss_cons (s_for (ps_for PassesOwn.never rfl (x_it (PI.or (pi_list (x_var (pv 0))) (PI.or (pi_tup (x_var (pv 0))) (pi_str (x_var (pv 0)))))) (x_gtup (is := [2, 3]) rfl (pg_tup rfl (pgs_cons (pg_name (i := 2) sc__law_due.nd rfl (by first | exact Or.inl rfl | exact Or.inr rfl)) (pgs_cons (pg_name (i := 3) sc__law_due.nd rfl (by first | exact Or.inl rfl | exact Or.inr rfl)) pgs_nil)))) (s_seq (pss_cons (s_for (ps_for PassesOwn.never rfl (x_it (PI.or (pi_list (x_var (pv 3))) (PI.or (pi_tup (x_var (pv 3))) (pi_str (x_var (pv 3)))))) (x_gtup (is := [4, 5, 6]) rfl (pg_tup rfl (pgs_cons (pg_name (i := 4) sc__law_due.nd rfl (by first | exact Or.inl rfl | exact Or.inr rfl)) (pgs_cons (pg_name (i := 5) sc__law_due.nd rfl (by first | exact Or.inl rfl | exact Or.inr rfl)) (pgs_cons (pg_name (i := 6) sc__law_due.nd rfl (by first | exact Or.inl rfl | exact Or.inr rfl)) pgs_nil))))) (s_seq (pss_cons (s_app (ps_expr (pe_bm PySem.F.plainAttrs_list PySem.F.slot_list_append PySem.F.type_list_append mt_append (pv 1) (pa_cons (x_tup (pe_tup (xa_cons (pa_cons (x_var (pv 2)) (xa_cons (pa_cons (x_var (pv 4)) (xa_cons (pa_cons (x_var (pv 5)) (xa_cons (pa_cons (x_var (pv 6)) (xa_nil pa_nil))))))))))) pa_nil)))) (s_nil pss_nil))))) (s_nil pss_nil))))) (s_seq (pss_cons (s_retV (ps_ret (pv 1))) (s_nil pss_nil)))))))
theorem ok__law_changed (T : Top w K mg) {k : Nat} (ih : Oks P w base T k) : GOk P w K mg base CX0 (k + 1) T.a__law_changed T.d__law_changed ["_law_program_here", "_law_m", "_law_f", "_law_body"] (spD K W0 4 (sem (k + 1) f__law_changed)) := by
  rw [e__law_changed]
  refine g_fn (N := ["_law_program_here", "_law_m", "_law_f", "_law_body", "_law_found", "_law_name", "_law_rows", "_law_some", "_law_one", "_law_params", "_law_old"]) (ps := ["_law_program_here", "_law_m", "_law_f", "_law_body"]) (g := m__law_changed (sem k)) T.F__law_changed sc__law_changed (fun cdv A outer s H EX hr hq => ?_)
  exact (s_seq (pss_cons (s_set (ps_set (i := 4) sc__law_changed.nd rfl (by first | exact Or.inl rfl | exact Or.inr rfl) (x_lst (pe_lst (xa_nil pa_nil))))) (s_seq (pss_cons (s_for (ps_for PassesOwn.never rfl (x_it (PI.or (pi_list (x_var (pv 0))) (PI.or (pi_tup (x_var (pv 0))) (pi_str (x_var (pv 0)))))) (x_gtup (is := [5, 6]) rfl (pg_tup rfl (pgs_cons (pg_name (i := 5) sc__law_changed.nd rfl (by first | exact Or.inl rfl | exact Or.inr rfl)) (pgs_cons (pg_name (i := 6) sc__law_changed.nd rfl (by first | exact Or.inl rfl | exact Or.inr rfl)) pgs_nil)))) (s_seq (pss_cons (s_set (ps_set (i := 7) sc__law_changed.nd rfl (by first | exact Or.inl rfl | exact Or.inr rfl) (x_lst (pe_lst (xa_nil pa_nil))))) (s_seq (pss_cons (s_for (ps_for PassesOwn.never rfl (x_it (PI.or (pi_list (x_var (pv 6))) (PI.or (pi_tup (x_var (pv 6))) (pi_str (x_var (pv 6)))))) (x_gtup (is := [8, 9, 10]) rfl (pg_tup rfl (pgs_cons (pg_name (i := 8) sc__law_changed.nd rfl (by first | exact Or.inl rfl | exact Or.inr rfl)) (pgs_cons (pg_name (i := 9) sc__law_changed.nd rfl (by first | exact Or.inl rfl | exact Or.inr rfl)) (pgs_cons (pg_name (i := 10) sc__law_changed.nd rfl (by first | exact Or.inl rfl | exact Or.inr rfl)) pgs_nil))))) (s_seq (pss_cons (s_app (ps_expr (pe_bm PySem.F.plainAttrs_list PySem.F.slot_list_append PySem.F.type_list_append mt_append (pv 7) (pa_cons (x_tup (pe_tup (xa_cons (pa_cons (x_var (pv 8)) (xa_cons (pa_cons (x_var (pv 9)) (xa_cons (pa_cons (c_EF (x_if (pe_ifExp (x_test2 (pt_cmpR (op_eqW (un_of hr)) (c_FB (x_tup (pe_tup (xa_cons (pa_cons (x_var (pv 5)) (xa_cons (pa_cons (x_var (pv 8)) (xa_nil pa_nil)))))))) (c_FB (x_tup (pe_tup (xa_cons (pa_cons (x_var (pv 1)) (xa_cons (pa_cons (x_var (pv 2)) (xa_nil pa_nil)))))))) rfl) p_eq) (c_FE (x_var (pv 3))) (c_FE (x_var (pv 10)))))) (xa_nil pa_nil))))))))) pa_nil)))) (s_nil pss_nil))))) (s_seq (pss_cons (s_app (ps_expr (pe_bm PySem.F.plainAttrs_list PySem.F.slot_list_append PySem.F.type_list_append mt_append (pv 4) (pa_cons (x_tup (pe_tup (xa_cons (pa_cons (x_var (pv 5)) (xa_cons (pa_cons (c_EF (x_prim (pe_callTy call_tuple_of (by rfl) T.z_tuple bt_tuple (xr_cons (pa_cons (x_varB (pv 7)) (xr_nil pa_nil)))) p_tuple)) (xa_nil pa_nil))))))) pa_nil)))) (s_nil pss_nil))))))))) (s_seq (pss_cons (s_ret (ps_ret (x_prim (pe_callTy call_tuple_of (by rfl) T.z_tuple bt_tuple (xr_cons (pa_cons (x_varB (pv 4)) (xr_nil pa_nil)))) p_tuple))) (s_nil pss_nil)))))))
theorem ok_law (T : Top w K mg) {k : Nat} (ih : Oks P w base T k) : GOk P w K mg base CX0 (k + 1) T.a_law T.d_law ["_law_script"] (spD K W0 1 (sem (k + 1) f_law)) := by
  rw [e_law]
  refine g_fn (N := ["_law_script", "_law_turn", "_law_cells", "_law_spot", "_law_program_here", "_law_due_here", "_law_again", "_law_names_here", "_law_m", "_law_other", "_law_told", "_law_f", "_law_params", "_law_body", "_law_some", "_law_rows", "_law_row"]) (ps := ["_law_script"]) (g := m_law (sem k)) T.F_law sc_law (fun cdv A outer s H EX hr hq => ?_)
  exact (s_seq (pss_cons (s_par (ps_par (i := 2) (j := 3) rfl sc_law.nd rfl rfl (by decide) rfl rfl (xa_cons (pa_cons (c_EF (x_prim (pe_callTy call_list_of (by rfl) T.z_list bt_list (xr_cons (pa_cons (x_varB (pv 0)) (xr_nil pa_nil)))) p_list)) (xa_cons (pa_cons (c_EF (x_ref (x_lst (pe_lst (xa_cons (pa_cons (c_EF (x_op1 (pe_un un_neg (c_FB (x_c pe_int fun _ _ => .int _))) p_neg)) (xa_nil pa_nil))))))) (xa_nil pa_nil))))) rfl)) (s_seq (pss_cons (s_for (ps_for PassesOwn.never rfl (x_rng1 (pi_range1 (by rfl) T.z_range (xr_cons (pa_cons (c_EB (x_op2 (pe_op op_addA (c_FB (x_c pe_int fun _ _ => .int _)) (c_EB (x_prim (pe_callB (call_min2 rfl) (by rfl) T.z_min bt_min (xr_cons (pa_cons (c_FB (x_c pe_int fun _ _ => .int _)) (xr_cons (pa_cons (c_EB (x_prim (pe_callB call_lenA (by rfl) T.z_len bt_len (xr_cons (pa_cons (x_varB (pv 0)) (xr_nil pa_nil)))) p_len)) (xr_nil pa_nil)))))) p_min2))) p_add)) (xr_nil pa_nil))))) (x_gname (pg_name (i := 1) sc_law.nd rfl (by first | exact Or.inl rfl | exact Or.inr rfl))) (s_seq (pss_cons (s_set (ps_set (i := 4) sc_law.nd rfl (by first | exact Or.inl rfl | exact Or.inr rfl) (c_FE (c_EF (x_call rfl (g_call ih.i__law_program hr hq (by rfl) T.m__law_program T.F__law_program.kp T.b__law_program pass0 (xa_cons (pa_cons (x_var (pv 2)) (xa_cons (pa_cons (x_var (pv 3)) (xa_cons (pa_cons (x_c pe_int fun _ _ => .int _) (xa_nil pa_nil))))))))))))) (s_seq (pss_cons (s_set (ps_set (i := 5) sc_law.nd rfl (by first | exact Or.inl rfl | exact Or.inr rfl) (c_FE (c_EF (x_call rfl (g_call ih.i__law_due hr hq (by rfl) T.m__law_due T.F__law_due.kp T.b__law_due pass0 (xa_cons (pa_cons (x_var (pv 4)) (xa_nil pa_nil))))))))) (s_seq (pss_cons (s_for (ps_for PassesOwn.never rfl (x_rng1 (pi_range1 (by rfl) T.z_range (xr_cons (pa_cons (c_FB (x_c pe_int fun _ _ => .int _)) (xr_nil pa_nil))))) (x_gname (pg_name (i := 6) sc_law.nd rfl (by first | exact Or.inl rfl | exact Or.inr rfl))) (s_seq (pss_cons (s_set (ps_set (i := 10) sc_law.nd rfl (by first | exact Or.inl rfl | exact Or.inr rfl) (x_call rfl (g_call ih.i_functions hr hq (by rfl) T.m_functions T.F_functions.kp T.b_functions pass0 (xa_cons (pa_cons (x_var (pv 4)) (xa_nil pa_nil))))))) (s_seq (pss_cons (s_if (ps_if (PW.pt (x_or (pw_or (x_not (pt_not (x_truth (pt_truth (c_EB (x_isi (by decide) (pe_callB call_isi (by rfl) T.z_isinstance bt_isinstance (pa_cons (x_varB (pv 10)) (pa_cons (pe_bltn (by rfl) T.z_list bt_list rfl) pa_nil))))) (fun _ => rfl))))) (pw_or1 (x_test2 (pt_cmpR (op_neW (un_of hr)) (c_EB (x_prim (pe_callB (call_repr (un_of hr) hq) (by rfl) T.z_repr bt_repr (xr_cons (pa_cons (x_varB (pv 10)) (xr_nil pa_nil)))) p_repr)) (c_EB (x_prim (pe_callB (call_repr (un_of hr) hq) (by rfl) T.z_repr bt_repr (xr_cons (pa_cons (x_varB (pv 5)) (xr_nil pa_nil)))) p_repr)) rfl) p_ne))))) (s_seq (pss_cons (s_ret (ps_ret (c_FE (x_c pe_bl fun _ _ => .bl _)))) (s_nil pss_nil))) (s_nil pss_nil))) (s_seq (pss_cons (s_app (ps_expr (pe_bm PySem.F.plainAttrs_list PySem.F.slot_list_append PySem.F.type_list_append mt_append (pv 10) (pa_cons (x_c pe_non fun _ _ => .non) pa_nil)))) (s_nil pss_nil))))))))) (s_seq (pss_cons (s_set (ps_set (i := 7) sc_law.nd rfl (by first | exact Or.inl rfl | exact Or.inr rfl) (c_FE (c_EF (x_op2 (pe_op op_addA (c_EB (x_lc (by decide) (pe_lc (own := [("_law_m", 8), ("_law_rows", 15)]) rfl sc_law.nd (x_it (PI.or (pi_list (x_var (pv 4))) (PI.or (pi_tup (x_var (pv 4))) (pi_str (x_var (pv 4)))))) (blkOk_by (N := ["_law_script", "_law_turn", "_law_cells", "_law_spot", "_law_program_here", "_law_due_here", "_law_again", "_law_names_here", "_law_m", "_law_other", "_law_told", "_law_f", "_law_params", "_law_body", "_law_some", "_law_rows", "_law_row"]) (sc := defScope s_law) (by decide +kernel)) (fun _ _ _ _ _ => (x_gtup (is := [8, 15]) rfl (pg_tup rfl (pgs_cons (pg_name (i := 8) sc_law.nd rfl (by first | exact Or.inl rfl | exact Or.inr rfl)) (pgs_cons (pg_name (i := 15) sc_law.nd rfl (by first | exact Or.inl rfl | exact Or.inr rfl)) pgs_nil))))) (fun _ _ _ _ _ => x_yes) (fun _ _ _ _ _ => (x_var (pv 8)))))) (c_EB (x_lst (pe_lst (xa_cons (pa_cons (x_c pe_str fun _ _ => .str _) (xa_nil pa_nil))))))) p_add))))) (s_seq (pss_cons (s_for (ps_for PassesOwn.never rfl (x_it (PI.or (pi_list (x_var (pv 7))) (PI.or (pi_tup (x_var (pv 7))) (pi_str (x_var (pv 7)))))) (x_gname (pg_name (i := 8) sc_law.nd rfl (by first | exact Or.inl rfl | exact Or.inr rfl))) (s_seq (pss_cons (s_for (ps_for PassesOwn.never rfl (x_it (PI.or (pi_list (c_EF (x_op2 (pe_op op_addA (c_EB (x_lc (by decide) (pe_lc (own := [("_law_row", 16)]) rfl sc_law.nd (x_it (PI.or (pi_list (x_var (pv 5))) (PI.or (pi_tup (x_var (pv 5))) (pi_str (x_var (pv 5)))))) (blkOk_by (N := ["_law_script", "_law_turn", "_law_cells", "_law_spot", "_law_program_here", "_law_due_here", "_law_again", "_law_names_here", "_law_m", "_law_other", "_law_told", "_law_f", "_law_params", "_law_body", "_law_some", "_law_rows", "_law_row"]) (sc := defScope s_law) (by decide +kernel)) (fun _ _ _ _ _ => (x_gname (pg_name (i := 16) sc_law.nd rfl (by first | exact Or.inl rfl | exact Or.inr rfl)))) (fun _ _ _ _ _ => x_yes) (fun _ _ _ _ _ => (c_EF (x_ix (pe_ix ix_seq (x_varB (pv 16)) (c_FB (x_c pe_int fun _ _ => .int _)) (fun _ _ => rfl)))))))) (c_EB (x_lst (pe_lst (xa_cons (pa_cons (x_c pe_str fun _ _ => .str _) (xa_nil pa_nil))))))) p_add))) (PI.or (pi_tup (c_EF (x_op2 (pe_op op_addA (c_EB (x_lc (by decide) (pe_lc (own := [("_law_row", 16)]) rfl sc_law.nd (x_it (PI.or (pi_list (x_var (pv 5))) (PI.or (pi_tup (x_var (pv 5))) (pi_str (x_var (pv 5)))))) (blkOk_by (N := ["_law_script", "_law_turn", "_law_cells", "_law_spot", "_law_program_here", "_law_due_here", "_law_again", "_law_names_here", "_law_m", "_law_other", "_law_told", "_law_f", "_law_params", "_law_body", "_law_some", "_law_rows", "_law_row"]) (sc := defScope s_law) (by decide +kernel)) (fun _ _ _ _ _ => (x_gname (pg_name (i := 16) sc_law.nd rfl (by first | exact Or.inl rfl | exact Or.inr rfl)))) (fun _ _ _ _ _ => x_yes) (fun _ _ _ _ _ => (c_EF (x_ix (pe_ix ix_seq (x_varB (pv 16)) (c_FB (x_c pe_int fun _ _ => .int _)) (fun _ _ => rfl)))))))) (c_EB (x_lst (pe_lst (xa_cons (pa_cons (x_c pe_str fun _ _ => .str _) (xa_nil pa_nil))))))) p_add))) (pi_str (c_EF (x_op2 (pe_op op_addA (c_EB (x_lc (by decide) (pe_lc (own := [("_law_row", 16)]) rfl sc_law.nd (x_it (PI.or (pi_list (x_var (pv 5))) (PI.or (pi_tup (x_var (pv 5))) (pi_str (x_var (pv 5)))))) (blkOk_by (N := ["_law_script", "_law_turn", "_law_cells", "_law_spot", "_law_program_here", "_law_due_here", "_law_again", "_law_names_here", "_law_m", "_law_other", "_law_told", "_law_f", "_law_params", "_law_body", "_law_some", "_law_rows", "_law_row"]) (sc := defScope s_law) (by decide +kernel)) (fun _ _ _ _ _ => (x_gname (pg_name (i := 16) sc_law.nd rfl (by first | exact Or.inl rfl | exact Or.inr rfl)))) (fun _ _ _ _ _ => x_yes) (fun _ _ _ _ _ => (c_EF (x_ix (pe_ix ix_seq (x_varB (pv 16)) (c_FB (x_c pe_int fun _ _ => .int _)) (fun _ _ => rfl)))))))) (c_EB (x_lst (pe_lst (xa_cons (pa_cons (x_c pe_str fun _ _ => .str _) (xa_nil pa_nil))))))) p_add)))))) (x_gname (pg_name (i := 11) sc_law.nd rfl (by first | exact Or.inl rfl | exact Or.inr rfl))) (s_seq (pss_cons (s_set (ps_set (i := 14) sc_law.nd rfl (by first | exact Or.inl rfl | exact Or.inr rfl) (c_FE (c_EF (x_op2 (pe_op op_addA (c_EB (x_lc (by decide) (pe_lc (own := [("_law_row", 16)]) rfl sc_law.nd (x_it (PI.or (pi_list (x_var (pv 5))) (PI.or (pi_tup (x_var (pv 5))) (pi_str (x_var (pv 5)))))) (blkOk_by (N := ["_law_script", "_law_turn", "_law_cells", "_law_spot", "_law_program_here", "_law_due_here", "_law_again", "_law_names_here", "_law_m", "_law_other", "_law_told", "_law_f", "_law_params", "_law_body", "_law_some", "_law_rows", "_law_row"]) (sc := defScope s_law) (by decide +kernel)) (fun _ _ _ _ _ => (x_gname (pg_name (i := 16) sc_law.nd rfl (by first | exact Or.inl rfl | exact Or.inr rfl)))) (fun _ _ _ _ _ => (pts_one (x_test2 (pt_cmpR (op_eqW (un_of hr)) (c_EB (x_sl (pe_slice sl_A3 (x_varB (pv 16)) x_no (x_so (c_FB (x_c pe_int fun _ _ => .int _)))) p_sl)) (c_FB (x_tup (pe_tup (xa_cons (pa_cons (x_var (pv 8)) (xa_cons (pa_cons (x_var (pv 11)) (xa_nil pa_nil)))))))) rfl) p_eq))) (fun _ _ _ _ _ => (c_EF (x_sl (pe_slice sl_A3 (x_varB (pv 16)) (x_so (c_FB (x_c pe_int fun _ _ => .int _))) x_no) p_sl)))))) (c_EB (x_lst (pe_lst (xa_cons (pa_cons (x_c pe_non fun _ _ => .non) (xa_nil pa_nil))))))) p_add))))) (s_seq (pss_cons (s_if (ps_if (x_test2 (pt_cmpR (op_neW (un_of hr)) (c_EB (x_prim (pe_callB (call_repr (un_of hr) hq) (by rfl) T.z_repr bt_repr (xr_cons (pa_cons (c_EB (x_call rfl (g_call ih.i_function hr hq (by rfl) T.m_function T.F_function.kp T.b_function pass0 (xa_cons (pa_cons (x_var (pv 4)) (xa_cons (pa_cons (x_var (pv 8)) (xa_cons (pa_cons (x_var (pv 11)) (xa_nil pa_nil)))))))))) (xr_nil pa_nil)))) p_repr)) (c_EB (x_prim (pe_callB (call_repr (un_of hr) hq) (by rfl) T.z_repr bt_repr (xr_cons (pa_cons (c_EB (x_ix (pe_ix ix_seq (x_varB (pv 14)) (c_FB (x_c pe_int fun _ _ => .int _)) (fun _ _ => rfl)))) (xr_nil pa_nil)))) p_repr)) rfl) p_ne) (s_seq (pss_cons (s_ret (ps_ret (c_FE (x_c pe_bl fun _ _ => .bl _)))) (s_nil pss_nil))) (s_nil pss_nil))) (s_nil pss_nil))))))) (s_nil pss_nil))))) (s_seq (pss_cons (s_asg (ps_asg (c_EF (x_ix (pe_ix ix_seq (x_varB (pv 5)) (c_EB (x_op2 (pe_op op_modA (c_EB (x_call rfl (g_call ih.i__law_cell hr hq (by rfl) T.m__law_cell T.F__law_cell.kp T.b__law_cell pass0 (xa_cons (pa_cons (x_var (pv 2)) (xa_cons (pa_cons (x_var (pv 3)) (xa_nil pa_nil)))))))) (c_EB (x_prim (pe_callB call_lenA (by rfl) T.z_len bt_len (xr_cons (pa_cons (x_varB (pv 5)) (xr_nil pa_nil)))) p_len))) p_mod)) (fun _ _ => rfl)))) (x_gtup (is := [8, 11, 12, 13]) rfl (pg_tup rfl (pgs_cons (pg_name (i := 8) sc_law.nd rfl (by first | exact Or.inl rfl | exact Or.inr rfl)) (pgs_cons (pg_name (i := 11) sc_law.nd rfl (by first | exact Or.inl rfl | exact Or.inr rfl)) (pgs_cons (pg_name (i := 12) sc_law.nd rfl (by first | exact Or.inl rfl | exact Or.inr rfl)) (pgs_cons (pg_name (i := 13) sc_law.nd rfl (by first | exact Or.inl rfl | exact Or.inr rfl)) pgs_nil)))))))) (s_seq (pss_cons (s_for (ps_for PassesOwn.never rfl (x_it (PI.or (pi_list (x_tup (pe_tup (xa_cons (pa_cons (x_tup (pe_tup (xa_cons (pa_cons (x_c pe_str fun _ _ => .str _) (xa_cons (pa_cons (x_var (pv 1)) (xa_nil pa_nil))))))) (xa_cons (pa_cons (x_var (pv 13)) (xa_cons (pa_cons (x_tup (pe_tup (xa_cons (pa_cons (x_c pe_str fun _ _ => .str _) (xa_cons (pa_cons (x_var (pv 13)) (xa_nil pa_nil))))))) (xa_nil pa_nil)))))))))) (PI.or (pi_tup (x_tup (pe_tup (xa_cons (pa_cons (x_tup (pe_tup (xa_cons (pa_cons (x_c pe_str fun _ _ => .str _) (xa_cons (pa_cons (x_var (pv 1)) (xa_nil pa_nil))))))) (xa_cons (pa_cons (x_var (pv 13)) (xa_cons (pa_cons (x_tup (pe_tup (xa_cons (pa_cons (x_c pe_str fun _ _ => .str _) (xa_cons (pa_cons (x_var (pv 13)) (xa_nil pa_nil))))))) (xa_nil pa_nil)))))))))) (pi_str (x_tup (pe_tup (xa_cons (pa_cons (x_tup (pe_tup (xa_cons (pa_cons (x_c pe_str fun _ _ => .str _) (xa_cons (pa_cons (x_var (pv 1)) (xa_nil pa_nil))))))) (xa_cons (pa_cons (x_var (pv 13)) (xa_cons (pa_cons (x_tup (pe_tup (xa_cons (pa_cons (x_c pe_str fun _ _ => .str _) (xa_cons (pa_cons (x_var (pv 13)) (xa_nil pa_nil))))))) (xa_nil pa_nil))))))))))))) (x_gname (pg_name (i := 9) sc_law.nd rfl (by first | exact Or.inl rfl | exact Or.inr rfl))) (s_seq (pss_cons (s_if (ps_if (x_test2 (pt_cmpR (op_neW (un_of hr)) (c_EB (x_prim (pe_callB (call_repr (un_of hr) hq) (by rfl) T.z_repr bt_repr (xr_cons (pa_cons (c_EB (x_call rfl (g_call ih.i_with_body hr hq (by rfl) T.m_with_body T.F_with_body.kp T.b_with_body pass0 (xa_cons (pa_cons (x_var (pv 4)) (xa_cons (pa_cons (x_var (pv 8)) (xa_cons (pa_cons (x_var (pv 11)) (xa_cons (pa_cons (x_var (pv 9)) (xa_nil pa_nil)))))))))))) (xr_nil pa_nil)))) p_repr)) (c_EB (x_prim (pe_callB (call_repr (un_of hr) hq) (by rfl) T.z_repr bt_repr (xr_cons (pa_cons (c_EB (x_call rfl (g_call ih.i__law_changed hr hq (by rfl) T.m__law_changed T.F__law_changed.kp T.b__law_changed pass0 (xa_cons (pa_cons (x_var (pv 4)) (xa_cons (pa_cons (x_var (pv 8)) (xa_cons (pa_cons (x_var (pv 11)) (xa_cons (pa_cons (x_var (pv 9)) (xa_nil pa_nil)))))))))))) (xr_nil pa_nil)))) p_repr)) rfl) p_ne) (s_seq (pss_cons (s_ret (ps_ret (c_FE (x_c pe_bl fun _ _ => .bl _)))) (s_nil pss_nil))) (s_nil pss_nil))) (s_nil pss_nil))))) (s_nil pss_nil))))))))))))))))) (s_seq (pss_cons (s_ret (ps_ret (x_andV (pe_and (x_op2 (pe_cmpR (op_eqW (un_of hr)) (c_EB (x_call rfl (g_call ih.i_functions hr hq (by rfl) T.m_functions T.F_functions.kp T.b_functions pass0 (xa_cons (pa_cons (x_tup (pe_tup (xa_nil pa_nil))) (xa_nil pa_nil)))))) (c_EB (x_lst (pe_lst (xa_nil pa_nil)))) rfl) p_eq) (pe_one (x_op2 (pe_cmpR op_isA (c_EB (x_call rfl (g_call ih.i_function hr hq (by rfl) T.m_function T.F_function.kp T.b_function pass0 (xa_cons (pa_cons (x_tup (pe_tup (xa_nil pa_nil))) (xa_cons (pa_cons (x_c pe_str fun _ _ => .str _) (xa_cons (pa_cons (x_c pe_str fun _ _ => .str _) (xa_nil pa_nil)))))))))) (c_FB (x_c pe_non fun _ _ => .non)) rfl) p_is)))))) (s_nil pss_nil)))))))
theorem oks (T : Top w K mg) : ∀ k, Oks P w base T k
  | 0 => ⟨g_zero, g_zero, g_zero, g_zero, g_zero, g_zero, g_zero, g_zero, g_zero, g_zero, g_zero, g_zero, g_zero, g_zero, g_zero⟩
  | k + 1 => have ih := oks T k; ⟨ok_functions T ih, ok_function T ih, ok_with_body T ih, ok__law_cell T ih, ok__law_names T ih, ok__law_number T ih, ok__law_leaf T ih, ok__law_op T ih, ok__law_times T ih, ok__law_call T ih, ok__law_expression T ih, ok__law_program T ih, ok__law_due T ih, ok__law_changed T ih, ok_law T ih⟩
end
noncomputable def top_mk {w : World} {K : PySem.W.Frag} {h : Heap} {mg : Str → Option Value} (X : K.In h) (G : h.Ns mainGlobals mg) {f0 : Addr} {od0 an0 : Option Addr} {sl0 : Array (Option Value)} {oc0 kV0 dc0 pm0 cd0 ct0 : Value} {f1 : Addr} {od1 an1 : Option Addr} {sl1 : Array (Option Value)} {oc1 kV1 dc1 pm1 cd1 ct1 : Value} {f2 : Addr} {od2 an2 : Option Addr} {sl2 : Array (Option Value)} {oc2 kV2 dc2 pm2 cd2 ct2 : Value} {f3 : Addr} {od3 an3 : Option Addr} {sl3 : Array (Option Value)} {oc3 kV3 dc3 pm3 cd3 ct3 : Value} {f4 : Addr} {od4 an4 : Option Addr} {sl4 : Array (Option Value)} {oc4 kV4 dc4 pm4 cd4 ct4 : Value} {f5 : Addr} {od5 an5 : Option Addr} {sl5 : Array (Option Value)} {oc5 kV5 dc5 pm5 cd5 ct5 : Value} {f6 : Addr} {od6 an6 : Option Addr} {sl6 : Array (Option Value)} {oc6 kV6 dc6 pm6 cd6 ct6 : Value} {f7 : Addr} {od7 an7 : Option Addr} {sl7 : Array (Option Value)} {oc7 kV7 dc7 pm7 cd7 ct7 : Value} {f8 : Addr} {od8 an8 : Option Addr} {sl8 : Array (Option Value)} {oc8 kV8 dc8 pm8 cd8 ct8 : Value} {f9 : Addr} {od9 an9 : Option Addr} {sl9 : Array (Option Value)} {oc9 kV9 dc9 pm9 cd9 ct9 : Value} {f10 : Addr} {od10 an10 : Option Addr} {sl10 : Array (Option Value)} {oc10 kV10 dc10 pm10 cd10 ct10 : Value} {f11 : Addr} {od11 an11 : Option Addr} {sl11 : Array (Option Value)} {oc11 kV11 dc11 pm11 cd11 ct11 : Value} {f12 : Addr} {od12 an12 : Option Addr} {sl12 : Array (Option Value)} {oc12 kV12 dc12 pm12 cd12 ct12 : Value} {f13 : Addr} {od13 an13 : Option Addr} {sl13 : Array (Option Value)} {oc13 kV13 dc13 pm13 cd13 ct13 : Value} {f14 : Addr} {od14 an14 : Option Addr} {sl14 : Array (Option Value)} {oc14 kV14 dc14 pm14 cd14 ct14 : Value} (a0 : PySem.W.nsIn K mainGlobals "functions" = some (some (.ref f0))) (l0 : K.lookup f0 = some ⟨oc0, od0, .func (PySem.W.fnOf "functions" "functions" (defArgs s_functions) (defBody s_functions) (defScope s_functions) .none kV0 dc0 pm0 an0 cd0 ct0), sl0⟩) (c0 : PySem.W.codeIn K cd0 "functions" = true) (k0 : PySem.W.keepIn K (.ref f0) = true) (a1 : PySem.W.nsIn K mainGlobals "function" = some (some (.ref f1))) (l1 : K.lookup f1 = some ⟨oc1, od1, .func (PySem.W.fnOf "function" "function" (defArgs s_function) (defBody s_function) (defScope s_function) .none kV1 dc1 pm1 an1 cd1 ct1), sl1⟩) (c1 : PySem.W.codeIn K cd1 "function" = true) (k1 : PySem.W.keepIn K (.ref f1) = true) (a2 : PySem.W.nsIn K mainGlobals "with_body" = some (some (.ref f2))) (l2 : K.lookup f2 = some ⟨oc2, od2, .func (PySem.W.fnOf "with_body" "with_body" (defArgs s_with_body) (defBody s_with_body) (defScope s_with_body) .none kV2 dc2 pm2 an2 cd2 ct2), sl2⟩) (c2 : PySem.W.codeIn K cd2 "with_body" = true) (k2 : PySem.W.keepIn K (.ref f2) = true) (a3 : PySem.W.nsIn K mainGlobals "_law_cell" = some (some (.ref f3))) (l3 : K.lookup f3 = some ⟨oc3, od3, .func (PySem.W.fnOf "_law_cell" "_law_cell" (defArgs s__law_cell) (defBody s__law_cell) (defScope s__law_cell) .none kV3 dc3 pm3 an3 cd3 ct3), sl3⟩) (c3 : PySem.W.codeIn K cd3 "_law_cell" = true) (k3 : PySem.W.keepIn K (.ref f3) = true) (a4 : PySem.W.nsIn K mainGlobals "_law_names" = some (some (.ref f4))) (l4 : K.lookup f4 = some ⟨oc4, od4, .func (PySem.W.fnOf "_law_names" "_law_names" (defArgs s__law_names) (defBody s__law_names) (defScope s__law_names) .none kV4 dc4 pm4 an4 cd4 ct4), sl4⟩) (c4 : PySem.W.codeIn K cd4 "_law_names" = true) (k4 : PySem.W.keepIn K (.ref f4) = true) (a5 : PySem.W.nsIn K mainGlobals "_law_number" = some (some (.ref f5))) (l5 : K.lookup f5 = some ⟨oc5, od5, .func (PySem.W.fnOf "_law_number" "_law_number" (defArgs s__law_number) (defBody s__law_number) (defScope s__law_number) .none kV5 dc5 pm5 an5 cd5 ct5), sl5⟩) (c5 : PySem.W.codeIn K cd5 "_law_number" = true) (k5 : PySem.W.keepIn K (.ref f5) = true) (a6 : PySem.W.nsIn K mainGlobals "_law_leaf" = some (some (.ref f6))) (l6 : K.lookup f6 = some ⟨oc6, od6, .func (PySem.W.fnOf "_law_leaf" "_law_leaf" (defArgs s__law_leaf) (defBody s__law_leaf) (defScope s__law_leaf) .none kV6 dc6 pm6 an6 cd6 ct6), sl6⟩) (c6 : PySem.W.codeIn K cd6 "_law_leaf" = true) (k6 : PySem.W.keepIn K (.ref f6) = true) (a7 : PySem.W.nsIn K mainGlobals "_law_op" = some (some (.ref f7))) (l7 : K.lookup f7 = some ⟨oc7, od7, .func (PySem.W.fnOf "_law_op" "_law_op" (defArgs s__law_op) (defBody s__law_op) (defScope s__law_op) .none kV7 dc7 pm7 an7 cd7 ct7), sl7⟩) (c7 : PySem.W.codeIn K cd7 "_law_op" = true) (k7 : PySem.W.keepIn K (.ref f7) = true) (a8 : PySem.W.nsIn K mainGlobals "_law_times" = some (some (.ref f8))) (l8 : K.lookup f8 = some ⟨oc8, od8, .func (PySem.W.fnOf "_law_times" "_law_times" (defArgs s__law_times) (defBody s__law_times) (defScope s__law_times) .none kV8 dc8 pm8 an8 cd8 ct8), sl8⟩) (c8 : PySem.W.codeIn K cd8 "_law_times" = true) (k8 : PySem.W.keepIn K (.ref f8) = true) (a9 : PySem.W.nsIn K mainGlobals "_law_call" = some (some (.ref f9))) (l9 : K.lookup f9 = some ⟨oc9, od9, .func (PySem.W.fnOf "_law_call" "_law_call" (defArgs s__law_call) (defBody s__law_call) (defScope s__law_call) .none kV9 dc9 pm9 an9 cd9 ct9), sl9⟩) (c9 : PySem.W.codeIn K cd9 "_law_call" = true) (k9 : PySem.W.keepIn K (.ref f9) = true) (a10 : PySem.W.nsIn K mainGlobals "_law_expression" = some (some (.ref f10))) (l10 : K.lookup f10 = some ⟨oc10, od10, .func (PySem.W.fnOf "_law_expression" "_law_expression" (defArgs s__law_expression) (defBody s__law_expression) (defScope s__law_expression) .none kV10 dc10 pm10 an10 cd10 ct10), sl10⟩) (c10 : PySem.W.codeIn K cd10 "_law_expression" = true) (k10 : PySem.W.keepIn K (.ref f10) = true) (a11 : PySem.W.nsIn K mainGlobals "_law_program" = some (some (.ref f11))) (l11 : K.lookup f11 = some ⟨oc11, od11, .func (PySem.W.fnOf "_law_program" "_law_program" (defArgs s__law_program) (defBody s__law_program) (defScope s__law_program) .none kV11 dc11 pm11 an11 cd11 ct11), sl11⟩) (c11 : PySem.W.codeIn K cd11 "_law_program" = true) (k11 : PySem.W.keepIn K (.ref f11) = true) (a12 : PySem.W.nsIn K mainGlobals "_law_due" = some (some (.ref f12))) (l12 : K.lookup f12 = some ⟨oc12, od12, .func (PySem.W.fnOf "_law_due" "_law_due" (defArgs s__law_due) (defBody s__law_due) (defScope s__law_due) .none kV12 dc12 pm12 an12 cd12 ct12), sl12⟩) (c12 : PySem.W.codeIn K cd12 "_law_due" = true) (k12 : PySem.W.keepIn K (.ref f12) = true) (a13 : PySem.W.nsIn K mainGlobals "_law_changed" = some (some (.ref f13))) (l13 : K.lookup f13 = some ⟨oc13, od13, .func (PySem.W.fnOf "_law_changed" "_law_changed" (defArgs s__law_changed) (defBody s__law_changed) (defScope s__law_changed) .none kV13 dc13 pm13 an13 cd13 ct13), sl13⟩) (c13 : PySem.W.codeIn K cd13 "_law_changed" = true) (k13 : PySem.W.keepIn K (.ref f13) = true) (a14 : PySem.W.nsIn K mainGlobals "law" = some (some (.ref f14))) (l14 : K.lookup f14 = some ⟨oc14, od14, .func (PySem.W.fnOf "law" "law" (defArgs s_law) (defBody s_law) (defScope s_law) .none kV14 dc14 pm14 an14 cd14 ct14), sl14⟩) (c14 : PySem.W.codeIn K cd14 "law" = true) (k14 : PySem.W.keepIn K (.ref f14) = true) (z_tuple : PySem.W.nsIn K mainGlobals "tuple" = some none) (z_len : PySem.W.nsIn K mainGlobals "len" = some none) (z_range : PySem.W.nsIn K mainGlobals "range" = some none) (z_int : PySem.W.nsIn K mainGlobals "int" = some none) (z_max : PySem.W.nsIn K mainGlobals "max" = some none) (z_list : PySem.W.nsIn K mainGlobals "list" = some none) (z_min : PySem.W.nsIn K mainGlobals "min" = some none) (z_repr : PySem.W.nsIn K mainGlobals "repr" = some none) (z_isinstance : PySem.W.nsIn K mainGlobals "isinstance" = some none) : Top w K mg where
  a_functions := f0
  d_functions := PySem.W.fnOf "functions" "functions" (defArgs s_functions) (defBody s_functions) (defScope s_functions) .none kV0 dc0 pm0 an0 cd0 ct0
  F_functions := fun_mk (st := s_functions) l0 c0 k0
  b_functions := (fun_mk (st := s_functions) l0 c0 k0).binds (ps := ["program"]) fun _ _ _ _ _ _ us hl => match us, hl with | [_], _ => rfl
  m_functions := PySem.W.mg_of X G a0
  a_function := f1
  d_function := PySem.W.fnOf "function" "function" (defArgs s_function) (defBody s_function) (defScope s_function) .none kV1 dc1 pm1 an1 cd1 ct1
  F_function := fun_mk (st := s_function) l1 c1 k1
  b_function := (fun_mk (st := s_function) l1 c1 k1).binds (ps := ["program", "m", "f"]) fun _ _ _ _ _ _ us hl => match us, hl with | [_, _, _], _ => rfl
  m_function := PySem.W.mg_of X G a1
  a_with_body := f2
  d_with_body := PySem.W.fnOf "with_body" "with_body" (defArgs s_with_body) (defBody s_with_body) (defScope s_with_body) .none kV2 dc2 pm2 an2 cd2 ct2
  F_with_body := fun_mk (st := s_with_body) l2 c2 k2
  b_with_body := (fun_mk (st := s_with_body) l2 c2 k2).binds (ps := ["program", "m", "f", "body"]) fun _ _ _ _ _ _ us hl => match us, hl with | [_, _, _, _], _ => rfl
  m_with_body := PySem.W.mg_of X G a2
  a__law_cell := f3
  d__law_cell := PySem.W.fnOf "_law_cell" "_law_cell" (defArgs s__law_cell) (defBody s__law_cell) (defScope s__law_cell) .none kV3 dc3 pm3 an3 cd3 ct3
  F__law_cell := fun_mk (st := s__law_cell) l3 c3 k3
  b__law_cell := (fun_mk (st := s__law_cell) l3 c3 k3).binds (ps := ["_law_cells", "_law_spot"]) fun _ _ _ _ _ _ us hl => match us, hl with | [_, _], _ => rfl
  m__law_cell := PySem.W.mg_of X G a3
  a__law_names := f4
  d__law_names := PySem.W.fnOf "_law_names" "_law_names" (defArgs s__law_names) (defBody s__law_names) (defScope s__law_names) .none kV4 dc4 pm4 an4 cd4 ct4
  F__law_names := fun_mk (st := s__law_names) l4 c4 k4
  b__law_names := (fun_mk (st := s__law_names) l4 c4 k4).binds (ps := ["_law_n"]) fun _ _ _ _ _ _ us hl => match us, hl with | [_], _ => rfl
  m__law_names := PySem.W.mg_of X G a4
  a__law_number := f5
  d__law_number := PySem.W.fnOf "_law_number" "_law_number" (defArgs s__law_number) (defBody s__law_number) (defScope s__law_number) .none kV5 dc5 pm5 an5 cd5 ct5
  F__law_number := fun_mk (st := s__law_number) l5 c5 k5
  b__law_number := (fun_mk (st := s__law_number) l5 c5 k5).binds (ps := ["_law_n"]) fun _ _ _ _ _ _ us hl => match us, hl with | [_], _ => rfl
  m__law_number := PySem.W.mg_of X G a5
  a__law_leaf := f6
  d__law_leaf := PySem.W.fnOf "_law_leaf" "_law_leaf" (defArgs s__law_leaf) (defBody s__law_leaf) (defScope s__law_leaf) .none kV6 dc6 pm6 an6 cd6 ct6
  F__law_leaf := fun_mk (st := s__law_leaf) l6 c6 k6
  b__law_leaf := (fun_mk (st := s__law_leaf) l6 c6 k6).binds (ps := ["_law_at", "_law_scope", "_law_n"]) fun _ _ _ _ _ _ us hl => match us, hl with | [_, _, _], _ => rfl
  m__law_leaf := PySem.W.mg_of X G a6
  a__law_op := f7
  d__law_op := PySem.W.fnOf "_law_op" "_law_op" (defArgs s__law_op) (defBody s__law_op) (defScope s__law_op) .none kV7 dc7 pm7 an7 cd7 ct7
  F__law_op := fun_mk (st := s__law_op) l7 c7 k7
  b__law_op := (fun_mk (st := s__law_op) l7 c7 k7).binds (ps := ["_law_cells", "_law_spot", "_law_at", "_law_scope", "_law_deep", "_law_n"]) fun _ _ _ _ _ _ us hl => match us, hl with | [_, _, _, _, _, _], _ => rfl
  m__law_op := PySem.W.mg_of X G a7
  a__law_times := f8
  d__law_times := PySem.W.fnOf "_law_times" "_law_times" (defArgs s__law_times) (defBody s__law_times) (defScope s__law_times) .none kV8 dc8 pm8 an8 cd8 ct8
  F__law_times := fun_mk (st := s__law_times) l8 c8 k8
  b__law_times := (fun_mk (st := s__law_times) l8 c8 k8).binds (ps := ["_law_cells", "_law_spot", "_law_at", "_law_scope", "_law_deep", "_law_n"]) fun _ _ _ _ _ _ us hl => match us, hl with | [_, _, _, _, _, _], _ => rfl
  m__law_times := PySem.W.mg_of X G a8
  a__law_call := f9
  d__law_call := PySem.W.fnOf "_law_call" "_law_call" (defArgs s__law_call) (defBody s__law_call) (defScope s__law_call) .none kV9 dc9 pm9 an9 cd9 ct9
  F__law_call := fun_mk (st := s__law_call) l9 c9 k9
  b__law_call := (fun_mk (st := s__law_call) l9 c9 k9).binds (ps := ["_law_cells", "_law_spot", "_law_at", "_law_scope", "_law_deep", "_law_n"]) fun _ _ _ _ _ _ us hl => match us, hl with | [_, _, _, _, _, _], _ => rfl
  m__law_call := PySem.W.mg_of X G a9
  a__law_expression := f10
  d__law_expression := PySem.W.fnOf "_law_expression" "_law_expression" (defArgs s__law_expression) (defBody s__law_expression) (defScope s__law_expression) .none kV10 dc10 pm10 an10 cd10 ct10
  F__law_expression := fun_mk (st := s__law_expression) l10 c10 k10
  b__law_expression := (fun_mk (st := s__law_expression) l10 c10 k10).binds (ps := ["_law_cells", "_law_spot", "_law_at", "_law_scope", "_law_deep"]) fun _ _ _ _ _ _ us hl => match us, hl with | [_, _, _, _, _], _ => rfl
  m__law_expression := PySem.W.mg_of X G a10
  a__law_program := f11
  d__law_program := PySem.W.fnOf "_law_program" "_law_program" (defArgs s__law_program) (defBody s__law_program) (defScope s__law_program) .none kV11 dc11 pm11 an11 cd11 ct11
  F__law_program := fun_mk (st := s__law_program) l11 c11 k11
  b__law_program := (fun_mk (st := s__law_program) l11 c11 k11).binds (ps := ["_law_cells", "_law_spot", "_law_most"]) fun _ _ _ _ _ _ us hl => match us, hl with | [_, _, _], _ => rfl
  m__law_program := PySem.W.mg_of X G a11
  a__law_due := f12
  d__law_due := PySem.W.fnOf "_law_due" "_law_due" (defArgs s__law_due) (defBody s__law_due) (defScope s__law_due) .none kV12 dc12 pm12 an12 cd12 ct12
  F__law_due := fun_mk (st := s__law_due) l12 c12 k12
  b__law_due := (fun_mk (st := s__law_due) l12 c12 k12).binds (ps := ["_law_program_here"]) fun _ _ _ _ _ _ us hl => match us, hl with | [_], _ => rfl
  m__law_due := PySem.W.mg_of X G a12
  a__law_changed := f13
  d__law_changed := PySem.W.fnOf "_law_changed" "_law_changed" (defArgs s__law_changed) (defBody s__law_changed) (defScope s__law_changed) .none kV13 dc13 pm13 an13 cd13 ct13
  F__law_changed := fun_mk (st := s__law_changed) l13 c13 k13
  b__law_changed := (fun_mk (st := s__law_changed) l13 c13 k13).binds (ps := ["_law_program_here", "_law_m", "_law_f", "_law_body"]) fun _ _ _ _ _ _ us hl => match us, hl with | [_, _, _, _], _ => rfl
  m__law_changed := PySem.W.mg_of X G a13
  a_law := f14
  d_law := PySem.W.fnOf "law" "law" (defArgs s_law) (defBody s_law) (defScope s_law) .none kV14 dc14 pm14 an14 cd14 ct14
  F_law := fun_mk (st := s_law) l14 c14 k14
  b_law := (fun_mk (st := s_law) l14 c14 k14).binds (ps := ["_law_script"]) fun _ _ _ _ _ _ us hl => match us, hl with | [_], _ => rfl
  m_law := PySem.W.mg_of X G a14
  bb_law := fun s v => .of_eq rfl
  z_tuple := PySem.W.mg_none_of X G z_tuple
  z_len := PySem.W.mg_none_of X G z_len
  z_range := PySem.W.mg_none_of X G z_range
  z_int := PySem.W.mg_none_of X G z_int
  z_max := PySem.W.mg_none_of X G z_max
  z_list := PySem.W.mg_none_of X G z_list
  z_min := PySem.W.mg_none_of X G z_min
  z_repr := PySem.W.mg_none_of X G z_repr
  z_isinstance := PySem.W.mg_none_of X G z_isinstance
theorem law_fin {l : PySem.W.OpenLaw} {w : World} {K : PySem.W.Frag} {h : Heap} {mg : Str → Option Value} {fa : Addr} (X : K.In h) (G : h.Ns mainGlobals mg) (hfa : mg "law" = some (.ref fa)) {f0 : Addr} {od0 an0 : Option Addr} {sl0 : Array (Option Value)} {oc0 kV0 dc0 pm0 cd0 ct0 : Value} {f1 : Addr} {od1 an1 : Option Addr} {sl1 : Array (Option Value)} {oc1 kV1 dc1 pm1 cd1 ct1 : Value} {f2 : Addr} {od2 an2 : Option Addr} {sl2 : Array (Option Value)} {oc2 kV2 dc2 pm2 cd2 ct2 : Value} {f3 : Addr} {od3 an3 : Option Addr} {sl3 : Array (Option Value)} {oc3 kV3 dc3 pm3 cd3 ct3 : Value} {f4 : Addr} {od4 an4 : Option Addr} {sl4 : Array (Option Value)} {oc4 kV4 dc4 pm4 cd4 ct4 : Value} {f5 : Addr} {od5 an5 : Option Addr} {sl5 : Array (Option Value)} {oc5 kV5 dc5 pm5 cd5 ct5 : Value} {f6 : Addr} {od6 an6 : Option Addr} {sl6 : Array (Option Value)} {oc6 kV6 dc6 pm6 cd6 ct6 : Value} {f7 : Addr} {od7 an7 : Option Addr} {sl7 : Array (Option Value)} {oc7 kV7 dc7 pm7 cd7 ct7 : Value} {f8 : Addr} {od8 an8 : Option Addr} {sl8 : Array (Option Value)} {oc8 kV8 dc8 pm8 cd8 ct8 : Value} {f9 : Addr} {od9 an9 : Option Addr} {sl9 : Array (Option Value)} {oc9 kV9 dc9 pm9 cd9 ct9 : Value} {f10 : Addr} {od10 an10 : Option Addr} {sl10 : Array (Option Value)} {oc10 kV10 dc10 pm10 cd10 ct10 : Value} {f11 : Addr} {od11 an11 : Option Addr} {sl11 : Array (Option Value)} {oc11 kV11 dc11 pm11 cd11 ct11 : Value} {f12 : Addr} {od12 an12 : Option Addr} {sl12 : Array (Option Value)} {oc12 kV12 dc12 pm12 cd12 ct12 : Value} {f13 : Addr} {od13 an13 : Option Addr} {sl13 : Array (Option Value)} {oc13 kV13 dc13 pm13 cd13 ct13 : Value} {f14 : Addr} {od14 an14 : Option Addr} {sl14 : Array (Option Value)} {oc14 kV14 dc14 pm14 cd14 ct14 : Value} (a0 : PySem.W.nsIn K mainGlobals "functions" = some (some (.ref f0))) (l0 : K.lookup f0 = some ⟨oc0, od0, .func (PySem.W.fnOf "functions" "functions" (defArgs s_functions) (defBody s_functions) (defScope s_functions) .none kV0 dc0 pm0 an0 cd0 ct0), sl0⟩) (c0 : PySem.W.codeIn K cd0 "functions" = true) (k0 : PySem.W.keepIn K (.ref f0) = true) (a1 : PySem.W.nsIn K mainGlobals "function" = some (some (.ref f1))) (l1 : K.lookup f1 = some ⟨oc1, od1, .func (PySem.W.fnOf "function" "function" (defArgs s_function) (defBody s_function) (defScope s_function) .none kV1 dc1 pm1 an1 cd1 ct1), sl1⟩) (c1 : PySem.W.codeIn K cd1 "function" = true) (k1 : PySem.W.keepIn K (.ref f1) = true) (a2 : PySem.W.nsIn K mainGlobals "with_body" = some (some (.ref f2))) (l2 : K.lookup f2 = some ⟨oc2, od2, .func (PySem.W.fnOf "with_body" "with_body" (defArgs s_with_body) (defBody s_with_body) (defScope s_with_body) .none kV2 dc2 pm2 an2 cd2 ct2), sl2⟩) (c2 : PySem.W.codeIn K cd2 "with_body" = true) (k2 : PySem.W.keepIn K (.ref f2) = true) (a3 : PySem.W.nsIn K mainGlobals "_law_cell" = some (some (.ref f3))) (l3 : K.lookup f3 = some ⟨oc3, od3, .func (PySem.W.fnOf "_law_cell" "_law_cell" (defArgs s__law_cell) (defBody s__law_cell) (defScope s__law_cell) .none kV3 dc3 pm3 an3 cd3 ct3), sl3⟩) (c3 : PySem.W.codeIn K cd3 "_law_cell" = true) (k3 : PySem.W.keepIn K (.ref f3) = true) (a4 : PySem.W.nsIn K mainGlobals "_law_names" = some (some (.ref f4))) (l4 : K.lookup f4 = some ⟨oc4, od4, .func (PySem.W.fnOf "_law_names" "_law_names" (defArgs s__law_names) (defBody s__law_names) (defScope s__law_names) .none kV4 dc4 pm4 an4 cd4 ct4), sl4⟩) (c4 : PySem.W.codeIn K cd4 "_law_names" = true) (k4 : PySem.W.keepIn K (.ref f4) = true) (a5 : PySem.W.nsIn K mainGlobals "_law_number" = some (some (.ref f5))) (l5 : K.lookup f5 = some ⟨oc5, od5, .func (PySem.W.fnOf "_law_number" "_law_number" (defArgs s__law_number) (defBody s__law_number) (defScope s__law_number) .none kV5 dc5 pm5 an5 cd5 ct5), sl5⟩) (c5 : PySem.W.codeIn K cd5 "_law_number" = true) (k5 : PySem.W.keepIn K (.ref f5) = true) (a6 : PySem.W.nsIn K mainGlobals "_law_leaf" = some (some (.ref f6))) (l6 : K.lookup f6 = some ⟨oc6, od6, .func (PySem.W.fnOf "_law_leaf" "_law_leaf" (defArgs s__law_leaf) (defBody s__law_leaf) (defScope s__law_leaf) .none kV6 dc6 pm6 an6 cd6 ct6), sl6⟩) (c6 : PySem.W.codeIn K cd6 "_law_leaf" = true) (k6 : PySem.W.keepIn K (.ref f6) = true) (a7 : PySem.W.nsIn K mainGlobals "_law_op" = some (some (.ref f7))) (l7 : K.lookup f7 = some ⟨oc7, od7, .func (PySem.W.fnOf "_law_op" "_law_op" (defArgs s__law_op) (defBody s__law_op) (defScope s__law_op) .none kV7 dc7 pm7 an7 cd7 ct7), sl7⟩) (c7 : PySem.W.codeIn K cd7 "_law_op" = true) (k7 : PySem.W.keepIn K (.ref f7) = true) (a8 : PySem.W.nsIn K mainGlobals "_law_times" = some (some (.ref f8))) (l8 : K.lookup f8 = some ⟨oc8, od8, .func (PySem.W.fnOf "_law_times" "_law_times" (defArgs s__law_times) (defBody s__law_times) (defScope s__law_times) .none kV8 dc8 pm8 an8 cd8 ct8), sl8⟩) (c8 : PySem.W.codeIn K cd8 "_law_times" = true) (k8 : PySem.W.keepIn K (.ref f8) = true) (a9 : PySem.W.nsIn K mainGlobals "_law_call" = some (some (.ref f9))) (l9 : K.lookup f9 = some ⟨oc9, od9, .func (PySem.W.fnOf "_law_call" "_law_call" (defArgs s__law_call) (defBody s__law_call) (defScope s__law_call) .none kV9 dc9 pm9 an9 cd9 ct9), sl9⟩) (c9 : PySem.W.codeIn K cd9 "_law_call" = true) (k9 : PySem.W.keepIn K (.ref f9) = true) (a10 : PySem.W.nsIn K mainGlobals "_law_expression" = some (some (.ref f10))) (l10 : K.lookup f10 = some ⟨oc10, od10, .func (PySem.W.fnOf "_law_expression" "_law_expression" (defArgs s__law_expression) (defBody s__law_expression) (defScope s__law_expression) .none kV10 dc10 pm10 an10 cd10 ct10), sl10⟩) (c10 : PySem.W.codeIn K cd10 "_law_expression" = true) (k10 : PySem.W.keepIn K (.ref f10) = true) (a11 : PySem.W.nsIn K mainGlobals "_law_program" = some (some (.ref f11))) (l11 : K.lookup f11 = some ⟨oc11, od11, .func (PySem.W.fnOf "_law_program" "_law_program" (defArgs s__law_program) (defBody s__law_program) (defScope s__law_program) .none kV11 dc11 pm11 an11 cd11 ct11), sl11⟩) (c11 : PySem.W.codeIn K cd11 "_law_program" = true) (k11 : PySem.W.keepIn K (.ref f11) = true) (a12 : PySem.W.nsIn K mainGlobals "_law_due" = some (some (.ref f12))) (l12 : K.lookup f12 = some ⟨oc12, od12, .func (PySem.W.fnOf "_law_due" "_law_due" (defArgs s__law_due) (defBody s__law_due) (defScope s__law_due) .none kV12 dc12 pm12 an12 cd12 ct12), sl12⟩) (c12 : PySem.W.codeIn K cd12 "_law_due" = true) (k12 : PySem.W.keepIn K (.ref f12) = true) (a13 : PySem.W.nsIn K mainGlobals "_law_changed" = some (some (.ref f13))) (l13 : K.lookup f13 = some ⟨oc13, od13, .func (PySem.W.fnOf "_law_changed" "_law_changed" (defArgs s__law_changed) (defBody s__law_changed) (defScope s__law_changed) .none kV13 dc13 pm13 an13 cd13 ct13), sl13⟩) (c13 : PySem.W.codeIn K cd13 "_law_changed" = true) (k13 : PySem.W.keepIn K (.ref f13) = true) (a14 : PySem.W.nsIn K mainGlobals "law" = some (some (.ref f14))) (l14 : K.lookup f14 = some ⟨oc14, od14, .func (PySem.W.fnOf "law" "law" (defArgs s_law) (defBody s_law) (defScope s_law) .none kV14 dc14 pm14 an14 cd14 ct14), sl14⟩) (c14 : PySem.W.codeIn K cd14 "law" = true) (k14 : PySem.W.keepIn K (.ref f14) = true) (z_tuple : PySem.W.nsIn K mainGlobals "tuple" = some none) (z_len : PySem.W.nsIn K mainGlobals "len" = some none) (z_range : PySem.W.nsIn K mainGlobals "range" = some none) (z_int : PySem.W.nsIn K mainGlobals "int" = some none) (z_max : PySem.W.nsIn K mainGlobals "max" = some none) (z_list : PySem.W.nsIn K mainGlobals "list" = some none) (z_min : PySem.W.nsIn K mainGlobals "min" = some none) (z_repr : PySem.W.nsIn K mainGlobals "repr" = some none) (z_isinstance : PySem.W.nsIn K mainGlobals "isinstance" = some none) :
    ∃ fd : FuncData, (∀ (s : Shared) (v : Value), BindsTo s fd ⟨[v], []⟩ [("_law_script", v)]) ∧ ∀ base : Heap, K.In base → base.Ns mainGlobals mg → GOk l.prog w K mg base CX0 60 fa fd ["_law_script"] (spD K W0 1 (sem 60 f_law)) := by
  have T : Top w K mg := top_mk X G (a0 := a0) (l0 := l0) (c0 := c0) (k0 := k0) (a1 := a1) (l1 := l1) (c1 := c1) (k1 := k1) (a2 := a2) (l2 := l2) (c2 := c2) (k2 := k2) (a3 := a3) (l3 := l3) (c3 := c3) (k3 := k3) (a4 := a4) (l4 := l4) (c4 := c4) (k4 := k4) (a5 := a5) (l5 := l5) (c5 := c5) (k5 := k5) (a6 := a6) (l6 := l6) (c6 := c6) (k6 := k6) (a7 := a7) (l7 := l7) (c7 := c7) (k7 := k7) (a8 := a8) (l8 := l8) (c8 := c8) (k8 := k8) (a9 := a9) (l9 := l9) (c9 := c9) (k9 := k9) (a10 := a10) (l10 := l10) (c10 := c10) (k10 := k10) (a11 := a11) (l11 := l11) (c11 := c11) (k11 := k11) (a12 := a12) (l12 := l12) (c12 := c12) (k12 := k12) (a13 := a13) (l13 := l13) (c13 := c13) (k13 := k13) (a14 := a14) (l14 := l14) (c14 := c14) (k14 := k14) (z_tuple := z_tuple) (z_len := z_len) (z_range := z_range) (z_int := z_int) (z_max := z_max) (z_list := z_list) (z_min := z_min) (z_repr := z_repr) (z_isinstance := z_isinstance)
  have e : fa = T.a_law := PySem.Value.ref.inj (Option.some.inj (hfa.symm.trans T.m_law))
  subst e
  exact ⟨T.d_law, T.bb_law, fun base _ _ => (oks T 60).i_law⟩
end K04
namespace K04
open PySem L2 TP
set_option maxHeartbeats 2000000
theorem rows_ok (Φ : Nat → Fn) (m : Str) (a b c : Slot) (M : Store) : ∀ (rs : List Row) (acc : List D), acc.length + rs.length ≤ 1000 →
    lcGo (bName 4) dYes (el_functions_0 Φ) [a, b, .val (.str m), c, .un] (rs.map Row.toD) acc M = .ok (acc ++ (rs.map fun r => fnD (m, r))) M := by
  intro rs
  induction rs with
  | nil => intro acc _; simp [lcGo]
  | cons r rs ih =>
    intro acc hl
    rw [List.length_cons] at hl
    rw [List.map_cons]
    unfold lcGo
    simp [el_functions_0_eq, row_add]
    rw [if_pos (by omega), ih _ (by simp; omega), List.append_assoc]
    rfl
theorem functions_ok (k : Nat) (P : Pr) (M : Store) (hl : (flat P).length ≤ 1000) : sem (k + 1) f_functions [pgD P] M = .ok (.own ((flat P).map fnD)) M := by
  rw [e_functions]
  have key : ∀ (Q : Pr) (a c d : Slot) (acc : List D), acc.length + (flat Q).length ≤ 1000 → ∃ c' d', forGo (bTup [2, 3]) (lp_functions_0 (sem k)) (Q.map rmD) [a, .own acc, c, d, .un] M = .next [a, .own (acc ++ (flat Q).map fnD), c', d', .un] M := by
    intro Q
    induction Q with
    | nil => intro a c d acc _; exact ⟨c, d, by simp [forGo, flat]⟩
    | cons q Q ih =>
      intro a c d acc hl
      obtain ⟨m, rs⟩ := q
      simp only [flat, List.length_append, List.length_map] at hl
      obtain ⟨c', d', h⟩ := ih a (.val (.str m)) (.val (.tup (rs.map Row.toD))) (acc ++ rs.map fun r => fnD (m, r)) (by simp; omega)
      refine ⟨c', d', ?_⟩
      have hr := rows_ok (sem k) m a (.own acc) (.val (.tup (rs.map Row.toD))) M rs [] (by simp; omega)
      rw [List.map_cons]
      unfold forGo
      simp [lp_functions_0_eq, rmD, bTup, bNames, itemsD, wipeD, hr, lstOf]
      rw [if_pos (by omega)]
      simp only
      rw [h]
      simp [flat]
  obtain ⟨c', d', h⟩ := key P (.val (pgD P)) .un .un [] (by simpa using hl)
  simp [runF, m_functions, startD]
  simp [pgD, itemsD]
  rw [← pgD, h]
  simp
end K04
namespace K04
open PySem L2 TP
set_option maxHeartbeats 2000000
/-- is it the function -/
def isF (m f : Str) (x : Str × Row) : Bool := decide (x.1 = m) && decide (x.2.f = f)
def pbD (x : Str × Row) : D := .tup [.tup (x.2.ps.map .str), x.2.b.toD]
theorem sl2 {a b c d : D} (M : Store) : slD M (.tup [a, b, c, d]) (some 2) none = some (.val (.tup [c, d])) := rfl
theorem sl02 {a b c d : D} (M : Store) : slD M (.tup [a, b, c, d]) none (some 2) = some (.val (.tup [a, b])) := rfl
theorem function_ok (k : Nat) (P : Pr) (m f : Str) (M : Store) (hl : (flat P).length ≤ 1000) : sem (k + 2) f_function [pgD P, .str m, .str f] M = .ok (.val (match (flat P).find? (isF m f) with | some x => pbD x | none => .non)) M := by
  have key : ∀ (xs : List (Str × Row)) (s3 : Slot), forGo (bName 3) (lp_function_0 (sem (k + 1))) (xs.map fnD) [.val (pgD P), .val (.str m), .val (.str f), s3] M
      = match xs.find? (isF m f) with | some x => .ret (.val (pbD x)) M | none => .next [.val (pgD P), .val (.str m), .val (.str f), (match xs.getLast? with | some x => .val (fnD x) | none => s3)] M := by
    intro xs
    induction xs with
    | nil => intro s3; simp [forGo]
    | cons x xs ih =>
      intro s3
      rw [List.map_cons]
      unfold forGo
      rw [List.find?_cons]
      cases hx : isF m f x with
      | true =>
        unfold isF at hx
        rw [Bool.and_eq_true, decide_eq_true_eq, decide_eq_true_eq] at hx
        simp [lp_function_0_eq, fnD, eqS, hx.1, hx.2, sl2, pbD]
      | false =>
        have h0 := ih (.val (fnD x))
        have hl : (match (x :: xs).getLast? with | some y => Slot.val (fnD y) | none => s3) = (match xs.getLast? with | some y => Slot.val (fnD y) | none => .val (fnD x)) := by
          cases xs with
          | nil => rfl
          | cons y ys => rw [List.getLast?_cons_cons]; cases hq : (y :: ys).getLast? with
            | none => simp at hq
            | some z => rfl
        rw [hl, ← h0]
        unfold isF at hx
        by_cases h1 : x.1 = m
        · have h2 : ¬ x.2.f = f := fun h2 => by simp [h1, h2] at hx
          simp [lp_function_0_eq, fnD, eqS, h1, h2]
        · simp [lp_function_0_eq, fnD, eqS, h1]
  rw [e_function]
  have h0 := functions_ok k P M hl
  have h1 := key (flat P) .un
  generalize hI : (flat P).map fnD = I at *
  cases hf : (flat P).find? (isF m f) with
  | some x =>
    rw [hf] at h1
    simp [runF, m_function, startD, h0, itemsD, h1]
  | none =>
    rw [hf] at h1
    simp [runF, m_function, startD, h0, itemsD, h1]
/-- with another body -/
def withB (P : Pr) (m f : Str) (b : Ex) : Pr := P.map fun q => if q.1 = m then (q.1, q.2.map fun r => if r.f = f then ⟨r.f, r.ps, b⟩ else r) else q
theorem withB_row (Φ : Nat → Fn) (s0 s1 s4 s5 s6 : Slot) (f : Str) (b : Ex) (M : Store) (rs : List Row) (hl : rs.length ≤ 1000) :
    lcGo (bName 7) dYes (el_with_body_0 Φ) [s0, s1, .val (.str f), .val b.toD, s4, s5, s6, .un] (rs.map Row.toD) [] M = .ok ((rs.map fun r => if r.f = f then (⟨r.f, r.ps, b⟩ : Row) else r).map Row.toD) M := by
  rw [lcGo_mp Row.toD (fun r => Row.toD (if r.f = f then ⟨r.f, r.ps, b⟩ else r)) rs (fun r hr => ⟨_, rfl, ?_⟩) (by omega), List.map_map]
  · rfl
  · have hs : ∀ a b c : D, slD M (.tup [a, b, c]) none (some 2) = some (.val (.tup [a, b])) := fun _ _ _ => rfl
    by_cases h : r.f = f
    · rw [if_pos h]
      simp [el_with_body_0_eq, Row.toD, eqS, h, hs, addD]
    · rw [if_neg h]
      simp [el_with_body_0_eq, Row.toD, eqS, h]
theorem with_body_ok (k : Nat) (P : Pr) (m f : Str) (b : Ex) (M : Store) (hP : P.length ≤ 1000) (hl : ∀ q ∈ P, q.2.length ≤ 1000) : sem (k + 1) f_with_body [pgD P, .str m, .str f, b.toD] M = .ok (.val (pgD (withB P m f b))) M := by
  have key : ∀ (Q : Pr) (acc : List D) (s5 s6 s7 : Slot), (∀ q ∈ Q, q.2.length ≤ 1000) → acc.length + Q.length ≤ 1000 → ∃ s5' s6' s7', forGo (bTup [5, 6]) (lp_with_body_0 (sem k)) (Q.map rmD) [.val (pgD P), .val (.str m), .val (.str f), .val b.toD, .own acc, s5, s6, .un] M
      = .next [.val (pgD P), .val (.str m), .val (.str f), .val b.toD, .own (acc ++ (withB Q m f b).map rmD), s5', s6', s7'] M ∧ s7' = .un := by
    intro Q
    induction Q with
    | nil => intro acc s5 s6 s7 _ _; exact ⟨s5, s6, .un, by simp [forGo, withB], rfl⟩
    | cons q Q ih =>
      intro acc s5 s6 s7 hq hl
      obtain ⟨n, rs⟩ := q
      rw [List.length_cons] at hl
      have hr := withB_row (sem k) (.val (pgD P)) (.val (.str m)) (.own acc) (.val (.str n)) (.val (.tup (rs.map Row.toD))) f b M rs (hq (n, rs) List.mem_cons_self)
      have hal : acc.length < 16777216 := by omega
      rw [List.map_cons]
      unfold forGo
      by_cases h : n = m
      · obtain ⟨u5, u6, u7, h2, h3⟩ := ih (acc ++ [rmD (n, rs.map fun r => if r.f = f then ⟨r.f, r.ps, b⟩ else r)]) (.val (.str n)) (.val (.tup ((rs.map fun r => if r.f = f then (⟨r.f, r.ps, b⟩ : Row) else r).map Row.toD))) .un (fun q' h' => hq q' (List.mem_cons_of_mem _ h')) (by simp; omega)
        refine ⟨u5, u6, u7, ?_, h3⟩
        generalize hz : (rs.map fun r => if r.f = f then (⟨r.f, r.ps, b⟩ : Row) else r) = rs' at *
        simp [lp_with_body_0_eq, rmD, bTup, bNames, eqS, h, itemsD, wipeD, hal]
        rw [h] at hr h2
        rw [hr]
        simp [tupleD, seqOf, lstOf, hal]
        rw [rmD] at h2
        rw [h2]
        simp [withB, hz, rmD]
      · obtain ⟨u5, u6, u7, h2, h3⟩ := ih (acc ++ [rmD (n, rs)]) (.val (.str n)) (.val (.tup (rs.map Row.toD))) .un (fun q' h' => hq q' (List.mem_cons_of_mem _ h')) (by simp; omega)
        refine ⟨u5, u6, u7, ?_, h3⟩
        simp [lp_with_body_0_eq, rmD, bTup, bNames, eqS, h, hal]
        rw [rmD] at h2
        rw [h2]
        simp [withB, h, rmD]
  obtain ⟨s5, s6, s7, h, _⟩ := key P [] .un .un .un hl (by simpa using hP)
  rw [e_with_body]
  have hi : itemsD (pgD P) = some (P.map rmD) := rfl
  simp [runF, m_with_body, startD, hi, h, tupleD, seqOf, lstOf]
  rfl
end K04
namespace K04
open PySem L2 TP
set_option maxHeartbeats 2000000
theorem names_pre (Φ : Nat → Fn) (n : Int) (M : Store) : m__law_names Φ (startD 5 [.int n]) M = (sSeq (sSet 2 (dOp2 idxD (dVarB 2) (dEF (dOp2 TP.modD (dVarB 0) (dC (.int 3)))))) (sSeq (sRet (dLc (dRng1 (dCons (dC (.int 16)) dNil)) (bName 3) dYes (el__law_names_4 Φ) [3])) sNil)) [.val (.int n), .val (.str "qzbmxkcwhvjpgyld"), .own (pools.map fun l => .lst (l.map .str)), .un, .un] M := by kernel_rfl
theorem names_ok (K : Nat) (n : Int) (M : Store) : sem (K + 1) f__law_names [.int n] M = .ok (.own ((namesL n).map .str)) M := by
  rw [e__law_names]
  unfold runF
  rw [names_pre]
  have h1 : atI (pools.map fun l => D.lst (l.map .str)) (n % 3) = some (.lst ((pool n).map .str)) := by
    rw [atI_map, (pool_mem n).2]; rfl
  have h2 : lcGo (bName 3) dYes (el__law_names_4 (sem K)) [.val (.int n), .val (.str "qzbmxkcwhvjpgyld"), .val (.lst ((pool n).map .str)), .un, .un] (rngL 0 16) [] M = .ok ((rngL 0 16).map fun d => match d with | .int k => .str (nameAt n k) | _ => .non) M := by
    refine lcGo_map _ _ (fun d hd => ?_) (by rw [rngL_len, szL]; omega)
    obtain ⟨i, hi⟩ := List.getElem?_of_mem hd
    obtain ⟨hi1, rfl⟩ := rngL_get hi
    have h3 : atI ((pool n).map D.str) (spotAt n (0 + (i : Int))) = some (.str (nameAt n (0 + (i : Int)))) := by
      rw [atI_map, (nameAt_mem n _).2]; rfl
    unfold spotAt at h3
    have m1 : ∀ x, mulOk 2 x = true := fun x => mulOk_l (by decide) (by decide)
    have m2 : mulOk (2 * (n / 48 % 8) + 1) (0 + (i : Int)) = true := mulOk_l (by omega) (by omega)
    refine ⟨_, rfl, ?_⟩
    rw [Int.zero_add] at h3 m2 ⊢
    simp [el__law_names_4_eq, m1, m2, h3]
  have h4 : ((rngL 0 16).map fun d => match d with | .int k => D.str (nameAt n k) | _ => .non) = (namesL n).map .str := by
    unfold namesL rngL
    rw [List.map_map, List.map_map]
    apply List.map_congr_left
    intro k _
    show D.str (nameAt n (0 + (k : Int))) = D.str (nameAt n (k : Int))
    rw [Int.zero_add]
  rw [h4] at h2
  have h5 : rng1D [.int 16] = some (rngL 0 16) := rfl
  simp [-rng1D_int, h1, h5, wipeD, h2]
theorem number_ok (K : Nat) (n : Int) (M : Store) : ∃ r : Int, sem (K + 1) f__law_number [.int n] M = .ok (.val (.int r)) M ∧ -(10 ^ 30) ≤ r ∧ r ≤ 10 ^ 30 := by
  rw [e__law_number]
  obtain ⟨a, ha, haa⟩ := atI_mem (xs := [(10 : Int) ^ 30, -(10 ^ 30), 1001, 0]) (i := n / 12 % 4) (by omega) (by show _ < (4 : Int); omega)
  obtain ⟨r, hr, hra⟩ := atI_mem (xs := [n / 12 % 5, n / 12 % 5 - 2, n / 12 % 100, a]) (i := n % 12 / 3) (by omega) (by show _ < (4 : Int); omega)
  have h1 := atI_map D.int [(10 : Int) ^ 30, -(10 ^ 30), 1001, 0] (n / 12 % 4)
  have h2 := atI_map D.int [n / 12 % 5, n / 12 % 5 - 2, n / 12 % 100, a] (n % 12 / 3)
  rw [haa] at h1
  rw [hra] at h2
  simp at h1 h2
  refine ⟨r, ?_, ?_⟩
  · simp [runF, m__law_number, startD, h1, h2]
  · simp only [List.mem_cons, List.not_mem_nil, or_false] at ha hr
    rcases hr with rfl | rfl | rfl | rfl
    · omega
    · omega
    · omega
    · rcases ha with rfl | rfl | rfl | rfl <;> omega
theorem goodStrs1 : ∀ (sc : List Str), (∀ x ∈ sc, okStr x = true) → goodL (sc.map .str) = true ∧ dpL (sc.map .str) = 0
  | [], _ => ⟨rfl, rfl⟩
  | s :: sc, h => by
    obtain ⟨h1, h2⟩ := goodStrs1 sc fun x hx => h x (List.mem_cons_of_mem _ hx)
    have h3 : goodD (.str s) = true := h s List.mem_cons_self
    have h4 : dpD (.str s) = 0 := rfl
    rw [List.map_cons, goodL, dpL, h1, h2, h3, h4]
    exact ⟨rfl, rfl⟩
theorem goodStrs {sc : List Str} (h : ∀ x ∈ sc, okStr x = true) : goodD (.lst (sc.map .str)) = true ∧ dpD (.lst (sc.map .str)) ≤ 190 := by
  obtain ⟨h1, h2⟩ := goodStrs1 sc h
  rw [goodD, dpD, h1, h2]
  exact ⟨rfl, by decide⟩
theorem leaf_ok (K : Nat) (at_ : D) (sc : List Str) (hsc : ∀ x ∈ sc, okStr x = true) (n : Int) (M : Store) (nm : Str → Prop) (ah : Str → Str → Nat → Prop) : ∃ e : Ex, sem (K + 2) f__law_leaf [at_, .lst (sc.map .str), .int n] M = .ok (.val e.toD) M ∧ Ex.Wf nm ah sc e ∧ e.dep = 0 ∧ e.cnt = 1 := by
  obtain ⟨r, hr, hr0, hr1⟩ := number_ok K (n / 4) M
  rw [e__law_leaf]
  cases sc with
  | nil =>
    refine ⟨.num r, ?_, by rw [Ex.Wf]; exact ⟨hr0, hr1⟩, by rw [Ex.dep], by rw [Ex.cnt]⟩
    have hne : ∀ M, neD M (.lst []) (.lst []) = some (.val (.bl false)) := fun M => rfl
    simp [runF, m__law_leaf, startD, hne, hr, Ex.toD]
  | cons s ss =>
    have hg := goodStrs hsc
    have hne : ∀ M, neD M (.lst ((s :: ss).map .str)) (.lst []) = some (.val (.bl true)) := fun M => by
      rw [neD_of M hg.1 (by decide +kernel) hg.2]
      rfl
    by_cases hn : 0 < n % 4
    · have hl : (0 : Int) < ((s :: ss).length : Int) := by simp
      obtain ⟨x, hx, hxa⟩ := atI_mem (xs := s :: ss) (i := n / 4 % ((s :: ss).length : Int)) (Int.emod_nonneg _ (by omega)) (Int.emod_lt_of_pos _ hl)
      have h2 := atI_map D.str (s :: ss) (n / 4 % ((s :: ss).length : Int))
      rw [hxa] at h2
      refine ⟨.use x, ?_, by rw [Ex.Wf]; exact hx, by rw [Ex.dep], by rw [Ex.cnt]⟩
      have hl' : 0 < (s :: ss).length := by simp
      generalize hL : s :: ss = L at *
      simp [runF, m__law_leaf, startD, hne, hn, hl', h2, Ex.toD]
    · refine ⟨.num r, ?_, by rw [Ex.Wf]; exact ⟨hr0, hr1⟩, by rw [Ex.dep], by rw [Ex.cnt]⟩
      generalize hL : s :: ss = L at *
      simp [runF, m__law_leaf, startD, hne, hn, hr, Ex.toD]
def CellsD (c : D) : Prop := ∃ ns : List Int, ns.length ≤ 63 ∧ (c = .fro (ns.map .int) ∨ c = .lst (ns.map .int))
theorem cell1 (K : Nat) {c : D} (hc : CellsD c) {j : Nat} {k : Int} {M : Store} (hj : M[j]? = some (.lst [.int k])) (h0 : -1 ≤ k) (h1 : k < 2 ^ 40) :
    ∃ r : Int, 0 ≤ r ∧ sem (K + 1) f__law_cell [c, .ref j] M = .ok (.val (.int r)) (M.set j (.lst [.int (k + 1)])) := by
  obtain ⟨ns, hl, rfl | rfl⟩ := hc
  · exact cell_fro ns j k M hl hj h0 h1
  · exact cell_ok ns j k M hl hj h0 h1
end K04
namespace K04
open PySem L2 TP
set_option maxHeartbeats 4000000
/-- a row of what is ahead -/
structure Ah where
  m : Str
  f : Str
  k : Nat
  q : Bool
def Ah.toD (r : Ah) : D := .tup [.str r.m, .str r.f, .int r.k, .bl r.q]
def AhOk (ah : List Ah) : Prop := ah.length ≤ 1000 ∧ ∀ r ∈ ah, okStr r.m = true ∧ okStr r.f = true ∧ r.k ≤ 5
def ahP (ah : List Ah) (m f : Str) (k : Nat) : Prop := ∃ r ∈ ah, r.m = m ∧ r.f = f ∧ r.k = k
def AtOk (M : Store) (a : Nat) (n : Int) (ah : List Ah) (q : Bool) : Prop := ∃ kvs : List (Key × D), M[a]? = some (.dK kvs) ∧ lookD kvs (.inr "names") = some (.lst ((namesL n).map .str)) ∧ lookD kvs (.inr "ahead") = some (.lst (ah.map Ah.toD)) ∧ lookD kvs (.inr "quiet") = some (.bl q)
theorem AtOk.set {M : Store} {a j : Nat} {n : Int} {ah : List Ah} {q : Bool} {o : MO} (h : AtOk M a n ah q) (hj : j ≠ a) : AtOk (M.set j o) a n ah q := by
  obtain ⟨kvs, h1, h2⟩ := h
  exact ⟨kvs, by rw [List.getElem?_set_ne hj]; exact h1, h2⟩
theorem at_names {M : Store} {a : Nat} {n : Int} {ah : List Ah} {q : Bool} (h : AtOk M a n ah q) : dgetD M (.ref a) (.str "names") = some (.val (.lst ((namesL n).map .str))) := by
  obtain ⟨kvs, h1, h2, h3, h4⟩ := h
  simp [dgetD, dGetO, h1, keyD, h2]
theorem at_ahead {M : Store} {a : Nat} {n : Int} {ah : List Ah} {q : Bool} (h : AtOk M a n ah q) : dgetD M (.ref a) (.str "ahead") = some (.val (.lst (ah.map Ah.toD))) := by
  obtain ⟨kvs, h1, h2, h3, h4⟩ := h
  simp [dgetD, dGetO, h1, keyD, h3]
theorem at_quiet {M : Store} {a : Nat} {n : Int} {ah : List Ah} {q : Bool} (h : AtOk M a n ah q) : dgetD M (.ref a) (.str "quiet") = some (.val (.bl q)) := by
  obtain ⟨kvs, h1, h2, h3, h4⟩ := h
  simp [dgetD, dGetO, h1, keyD, h4]
/-- what is drawn with d left, by K levels -/
def ExprOk (K d : Nat) : Prop := ∀ (cs : D) (j a : Nat) (c : Int) (M : Store) (n : Int) (ah : List Ah) (q : Bool) (sc : List Str) (dI : Int), dI = d → CellsD cs → j ≠ a → M[j]? = some (.lst [.int c]) → -1 ≤ c → c + 8 ^ d < 2 ^ 39 → AtOk M a n ah q → AhOk ah → (∀ x ∈ sc, x ∈ namesL n) → sc.length + 2 * d ≤ 100 →
  ∃ (e : Ex) (c' : Int), sem K f__law_expression [cs, .ref j, .ref a, .lst (sc.map .str), .int dI] M = .ok (.val e.toD) (M.set j (.lst [.int c'])) ∧ Ex.Wf (· ∈ namesL n) (ahP ah) sc e ∧ e.dep ≤ d ∧ e.cnt ≤ 6 ^ d ∧ c < c' ∧ c' ≤ c + 8 ^ d
def PartOk (f K d : Nat) : Prop := ∀ (cs : D) (j a : Nat) (c : Int) (M : Store) (n : Int) (ah : List Ah) (q : Bool) (sc : List Str) (m : Int) (dI : Int), dI = d + 2 → CellsD cs → j ≠ a → M[j]? = some (.lst [.int c]) → -1 ≤ c → c + 8 ^ (d + 2) < 2 ^ 39 + 1 → AtOk M a n ah q → AhOk ah → (∀ x ∈ sc, x ∈ namesL n) → sc.length + 2 * (d + 2) ≤ 100 →
  ∃ (e : Ex) (c' : Int), sem K f [cs, .ref j, .ref a, .lst (sc.map .str), .int dI, .int m] M = .ok (.val e.toD) (M.set j (.lst [.int c'])) ∧ Ex.Wf (· ∈ namesL n) (ahP ah) sc e ∧ e.dep ≤ d + 2 ∧ e.cnt ≤ 6 ^ (d + 2) ∧ c ≤ c' ∧ c' + 1 ≤ c + 8 ^ (d + 2)
theorem pow8 (d : Nat) : (8 : Int) ^ (d + 1) = 8 * 8 ^ d := by rw [Int.pow_succ, Int.mul_comm]
theorem pow6 (d : Nat) : (6 : Nat) ^ (d + 2) = 6 * 6 ^ (d + 1) ∧ 6 ^ (d + 1) = 6 * 6 ^ d ∧ 1 ≤ 6 ^ d := ⟨by rw [Nat.pow_succ, Nat.mul_comm], by rw [Nat.pow_succ, Nat.mul_comm], by have := @Nat.pow_le_pow_left 1 6 (by decide) d; rwa [Nat.one_pow] at this⟩
theorem pow8pos : ∀ d : Nat, (1 : Int) ≤ 8 ^ d
  | 0 => by decide
  | d + 1 => by rw [pow8]; have := pow8pos d; omega
theorem sign_at (n : Int) (q : Bool) : ∃ s ∈ signs, ∃ ch : Nat, atI (Str.ofString "+-*=</&").cps.toList (n % (if q = true then 5 else 7)) = some ch ∧ (⟨#[ch]⟩ : Str) = s ∧ okStr s = true := by
  have h0 : 0 ≤ n % (if q then 5 else 7) ∧ n % (if q then 5 else 7) < 7 := by cases q <;> simp <;> omega
  obtain ⟨s, hs, ha⟩ := atI_mem (xs := signs) (i := n % (if q then 5 else 7)) h0.1 h0.2
  have h1 : signs.all (fun s => decide ((⟨#[s.cps.toList.headD 0]⟩ : Str) = s) && okStr s) = true := by decide +kernel
  have h2 := List.all_eq_true.mp h1 s hs
  simp only [Bool.and_eq_true, decide_eq_true_eq] at h2
  refine ⟨s, hs, s.cps.toList.headD 0, ?_, h2.1, h2.2⟩
  have h3 : (Str.ofString "+-*=</&").cps.toList = signs.map fun s => s.cps.toList.headD 0 := by decide +kernel
  rw [h3, atI_map, ha]
  rfl
theorem op_ok {K d : Nat} (ih : ExprOk K (d + 1)) : PartOk f__law_op (K + 1) d := by
  intro cs j a c M n ah q sc m dI hd hcs hja hj h0 h1 hat hah hsc hl
  rw [e__law_op]
  have hp : (8 : Int) ^ (d + 2) = 8 * 8 ^ (d + 1) := pow8 (d + 1)
  have hp1 := pow8pos (d + 1)
  have h6 := pow6 d
  obtain ⟨s, hs, ch, hsa, hse, hso⟩ := sign_at m q
  obtain ⟨e1, c1, r1, w1, d1, n1, l1, u1⟩ := ih cs j a c M n ah q sc (dI - 1) (by omega) hcs hja hj h0 (by omega) hat hah hsc (by omega)
  obtain ⟨e2, c2, r2, w2, d2, n2, l2, u2⟩ := ih cs j a c1 (M.set j (.lst [.int c1])) n ah q sc (dI - 1) (by omega) hcs hja (get_set hj) (by omega) (by omega) (hat.set hja) hah hsc (by omega)
  rw [set_set] at r2
  have hi : intD M [.bl q] = some (.val (.int (if q = true then 1 else 0))) := by cases q <;> rfl
  have hx : atI [D.int 7, D.int 5] (if q = true then 1 else 0) = some (.int (if q = true then 5 else 7)) := by cases q <;> rfl
  have hpos : (0 : Int) < (if q = true then 5 else 7) := by cases q <;> decide
  have hlen : (Str.ofString "+-*=</&").length ≤ 16777216 := by decide +kernel
  generalize (if q = true then (5 : Int) else 7) = md at hx hpos hsa
  by_cases hstar : s = "*"
  · have he : ∀ M, eqD M (.str s) (.str "*") = some (.val (.bl true)) := fun M => by rw [eqD_str M hso (by decide +kernel), decide_eq_true hstar]
    refine ⟨.op s e1 (.num (m / 7 % 1000 - 3)), c1, ?_, ?_, ?_, by rw [Ex.cnt, Ex.cnt]; omega, by omega, by omega⟩
    · simp [runF, m__law_op, startD, at_quiet hat, hi, hx, hpos, hlen, hsa, hse, r1, he, Ex.toD]
    · rw [Ex.Wf, Ex.Wf]
      exact ⟨hs, w1, by omega, by omega⟩
    · rw [Ex.dep, Ex.dep]; omega
  · have he : ∀ M, eqD M (.str s) (.str "*") = some (.val (.bl false)) := fun M => by rw [eqD_str M hso (by decide +kernel), decide_eq_false hstar]
    refine ⟨.op s e1 e2, c2, ?_, ?_, ?_, by rw [Ex.cnt]; omega, by omega, by omega⟩
    · simp [runF, m__law_op, startD, at_quiet hat, hi, hx, hpos, hlen, hsa, hse, r1, r2, he, Ex.toD]
    · rw [Ex.Wf]
      exact ⟨hs, w1, w2⟩
    · rw [Ex.dep]; omega
/-- k of them, one behind the other -/
theorem draws {K d : Nat} (ih : ExprOk K (d + 1)) {el : FD} {b : D → EnvD → Option EnvD} {ρ0 : EnvD} {cs : D} {j a : Nat} {c : Int} {M : Store} {n : Int} {ah : List Ah} {q : Bool} {sc : List Str} {dI : Int} (hd : dI = d + 2) (hcs : CellsD cs) (hja : j ≠ a) (hj : M[j]? = some (.lst [.int c])) (h0 : -1 ≤ c) (h1 : c + 5 * 8 ^ (d + 1) < 2 ^ 39) (hat : AtOk M a n ah q) (hah : AhOk ah) (hsc : ∀ x ∈ sc, x ∈ namesL n) (hl : sc.length + 2 * (d + 2) ≤ 100)
    (hel : ∀ x N, ∃ ρ1, b x ρ0 = some ρ1 ∧ el ρ1 N = (sem K f__law_expression [cs, .ref j, .ref a, .lst (sc.map .str), .int (dI - 1)] N).map Slot.d) (k : Nat) (hk : k ≤ 5) :
    ∃ (es : List Ex) (c' : Int), lcGo b dYes el ρ0 (rngL 0 k) [] M = .ok (es.map Ex.toD) (M.set j (.lst [.int c'])) ∧ es.length = k ∧ (∀ e ∈ es, Ex.Wf (· ∈ namesL n) (ahP ah) sc e ∧ e.dep ≤ d + 1 ∧ e.cnt ≤ 6 ^ (d + 1)) ∧ c ≤ c' ∧ c' ≤ c + 5 * 8 ^ (d + 1) := by
  have hB := pow8pos (d + 1)
  obtain ⟨res, M', h, ⟨es, c', e1, e2, e3, e4, e5, e6⟩, hlen⟩ := lcGo_inv (b := b) (f := el) (ρ0 := ρ0)
    (fun i acc N => ∃ (es : List Ex) (c' : Int), acc = es.map Ex.toD ∧ es.length = i ∧ N = M.set j (.lst [.int c']) ∧ (∀ e ∈ es, Ex.Wf (· ∈ namesL n) (ahP ah) sc e ∧ e.dep ≤ d + 1 ∧ e.cnt ≤ 6 ^ (d + 1)) ∧ c ≤ c' ∧ c' ≤ c + i * 8 ^ (d + 1)) (rngL 0 k) (by rw [rngL_len, szL]; omega)
    (fun i x acc N hx ⟨es, c', e1, e2, e3, e4, e5, e6⟩ => by
      obtain ⟨hi, rfl⟩ := rngL_get hx
      subst e1 e3
      have hi5 : (i : Int) * 8 ^ (d + 1) ≤ 4 * 8 ^ (d + 1) := Int.mul_le_mul_of_nonneg_right (by omega) (by omega)
      obtain ⟨e, c2, r, w, dd, nn, l, u⟩ := ih cs j a c' (M.set j (.lst [.int c'])) n ah q sc (dI - 1) (by omega) hcs hja (get_set hj) (by omega) (by omega) (hat.set hja) hah hsc (by omega)
      rw [set_set] at r
      obtain ⟨ρ1, hb, he⟩ := hel (.int (0 + (i : Int))) (M.set j (.lst [.int c']))
      rw [r] at he
      refine ⟨ρ1, hb, e.toD, _, he, es ++ [e], c2, by simp, by simp [e2], rfl, ?_, by omega, ?_⟩
      · intro y hy
        rcases List.mem_append.mp hy with hy | hy
        · exact e4 y hy
        · rw [List.mem_singleton] at hy; subst hy; exact ⟨w, dd, nn⟩
      · have : ((i + 1 : Nat) : Int) * 8 ^ (d + 1) = (i : Int) * 8 ^ (d + 1) + 8 ^ (d + 1) := by
          rw [Int.natCast_add, Int.add_mul]; simp
        omega) k 0 [] M (by rw [rngL_len]; rfl) rfl ⟨[], c, rfl, rfl, (set_self hj).symm, by simp, by omega, by simp⟩
  rw [rngL_len] at e2 e6
  subst e1 e3
  have hk5 : (k : Int) * 8 ^ (d + 1) ≤ 5 * 8 ^ (d + 1) := Int.mul_le_mul_of_nonneg_right (by omega) (by omega)
  exact ⟨es, c', by simpa using h, e2, e4, e5, by omega⟩
theorem goodAh1 : ∀ (ah : List Ah), (∀ r ∈ ah, okStr r.m = true ∧ okStr r.f = true ∧ r.k ≤ 5) → goodL (ah.map Ah.toD) = true ∧ dpL (ah.map Ah.toD) ≤ 1
  | [], _ => ⟨rfl, by decide⟩
  | r :: ah, h => by
    obtain ⟨h1, h2⟩ := goodAh1 ah fun x hx => h x (List.mem_cons_of_mem _ hx)
    obtain ⟨h3, h4, _⟩ := h r List.mem_cons_self
    have h5 : goodD (.str r.m) = true := h3
    have h6 : goodD (.str r.f) = true := h4
    have h7 : goodD r.toD = true := by
      have e1 : goodD (.int r.k) = true := by rw [goodD]
      have e2 : goodD (.bl r.q) = true := by rw [goodD]
      have e3 : goodD (.tup [.str r.m, .str r.f, .int r.k, .bl r.q]) = goodL [.str r.m, .str r.f, .int r.k, .bl r.q] := by rw [goodD]
      rw [Ah.toD, e3, goodL, goodL, goodL, goodL, goodL, h5, h6, e1, e2]
      rfl
    have h8 : dpD r.toD = 1 := rfl
    rw [List.map_cons, goodL, dpL, h1, h7, h8]
    exact ⟨rfl, by omega⟩
theorem call_rows (K : Nat) (cs : D) (j a : Nat) (M : Store) (n : Int) (ah : List Ah) (q : Bool) (sc : List Str) (m dI : Int) (hat : AtOk M a n ah q) (hah : ah.length ≤ 1000) : lcGo (bName 11) (cd__law_call_0 (sem K)) (el__law_call_0 (sem K)) [.val cs, .val (.ref j), .val (.ref a), .val (.lst (sc.map .str)), .val (.int dI), .val (.int m), .un, .un, .un, .un, .un, .un, .un] (ah.map Ah.toD) [] M = .ok ((ah.filter fun r => r.q || !q).map Ah.toD) M := by
  have hq1 := at_quiet hat
  have := lcGo_fmap (b := bName 11) (c := cd__law_call_0 (sem K)) (f := el__law_call_0 (sem K)) (ρ0 := [.val cs, .val (.ref j), .val (.ref a), .val (.lst (sc.map .str)), .val (.int dI), .val (.int m), .un, .un, .un, .un, .un, .un, .un]) (M := M) Ah.toD (fun r => r.q || !q) Ah.toD ah [] (fun r hr => by
      refine ⟨_, rfl, ?_, fun _ => ?_⟩
      · cases hq : r.q <;> simp [cd__law_call_0_eq, Ah.toD, hq, hq1]
      · simp [el__law_call_0_eq]) (by rw [szL, List.length_nil]; omega)
  simpa using this
theorem eqv_cons (x : D) (xs : List D) : eqvD (.lst (x :: xs)) (.lst []) = false := rfl
theorem ah_ne (r0 : Ah) (rs : List Ah) (h : ∀ r ∈ r0 :: rs, okStr r.m = true ∧ okStr r.f = true ∧ r.k ≤ 5) (M : Store) : eqD M (.lst ((r0 :: rs).map Ah.toD)) (.lst []) = some (.val (.bl false)) := by
  have hg := goodAh1 _ h
  rw [eqD_of M (by rw [goodD]; exact hg.1) (by decide +kernel) (by rw [dpD]; omega)]
  rw [List.map_cons, eqv_cons]
theorem ee (M : Store) : eqD M (.lst []) (.lst []) = some (.val (.bl true)) := rfl
theorem call_nil (K : Nat) (cs : D) (j a : Nat) (M : Store) (n : Int) (ah : List Ah) (q : Bool) (sc : List Str) (m dI : Int) (hat : AtOk M a n ah q) (hah : ah.length ≤ 1000) (hs : (ah.filter fun r => r.q || !q) = []) : sem (K + 1) f__law_call [cs, .ref j, .ref a, .lst (sc.map .str), .int dI, .int m] M = sem K f__law_leaf [.ref a, .lst (sc.map .str), .int m] M := by
  have hf := call_rows K cs j a M n ah q sc m dI hat hah
  have h2 := at_ahead hat
  rw [hs] at hf
  rw [e__law_call]
  generalize hR : sem K f__law_leaf [.ref a, .lst (sc.map .str), .int m] M = R0
  simp only [List.map_nil] at hf
  simp [runF, m__law_call, startD, h2, itemsD, wipeD, hf, ee, hR]
  cases R0 <;> rfl
theorem call_cons (K : Nat) (cs : D) (j a : Nat) (M : Store) (n : Int) (ah : List Ah) (q : Bool) (sc : List Str) (m dI : Int) (hat : AtOk M a n ah q) (hah : ah.length ≤ 1000) (L : List D) (hs : (ah.filter fun r => r.q || !q).map Ah.toD = L) (hL : 0 < L.length) (he : ∀ M, eqD M (.lst L) (.lst []) = some (.val (.bl false)))
    (rm rf : Str) (rI : Int) (rk : Nat) (rq : Bool) (hr : atI L (m % (L.length : Int)) = some (.tup [.str rm, .str rf, .int rI, .bl rq])) (es : List Ex) (M' : Store) (hb : rng1D [.int rI] = some (rngL 0 rk)) (hes : lcGo (bName 12) dYes (el__law_call_1 (sem K)) [.val cs, .val (.ref j), .val (.ref a), .val (.lst (sc.map .str)), .val (.int dI), .val (.int m), .own L, .val (.str rm), .val (.str rf), .val (.int rI), .val (.bl rq), .un, .un] (rngL 0 rk) [] M = .ok (es.map Ex.toD) M') :
    sem (K + 1) f__law_call [cs, .ref j, .ref a, .lst (sc.map .str), .int dI, .int m] M = .ok (.val (Ex.call rm rf es).toD) M' := by
  have hf := call_rows K cs j a M n ah q sc m dI hat hah
  have h2 := at_ahead hat
  rw [hs] at hf
  rw [e__law_call]
  simp [-rng1D_int, runF, m__law_call, startD, h2, itemsD, wipeD, hf, he, hL, hr, bTup, bNames, hb, hes, tupleD, seqOf, lstOf, Ex.toD, Ex.toDs_eq]
theorem call_ok {K d : Nat} (ih : ExprOk (K + 2) (d + 1)) : PartOk f__law_call (K + 3) d := by
  intro cs j a c M n ah q sc m dI hd hcs hja hj h0 h1 hat hah hsc hl
  have hp : (8 : Int) ^ (d + 2) = 8 * 8 ^ (d + 1) := pow8 (d + 1)
  have hp1 := pow8pos (d + 1)
  have h6 := pow6 d
  cases hsom : ah.filter fun r => r.q || !q with
  | nil =>
    obtain ⟨e, r, w, dp, ct⟩ := leaf_ok K (.ref a) sc (fun x hx => namesL_ok (hsc x hx)) m M (· ∈ namesL n) (ahP ah)
    refine ⟨e, c, ?_, w, by omega, by omega, by omega, by omega⟩
    rw [set_self hj, call_nil (K + 2) cs j a M n ah q sc m dI hat hah.1 hsom, r]
  | cons r0 rs =>
    have hmem : ∀ r ∈ r0 :: rs, r ∈ ah := fun r hr => by
      rw [← hsom] at hr
      exact (List.mem_filter.mp hr).1
    have hl0 : (0 : Int) < ((r0 :: rs).length : Int) := by simp
    obtain ⟨r, hr, hra⟩ := atI_mem (xs := r0 :: rs) (i := m % ((r0 :: rs).length : Int)) (Int.emod_nonneg _ (by omega)) (Int.emod_lt_of_pos _ hl0)
    have h2 := atI_map Ah.toD (r0 :: rs) (m % ((r0 :: rs).length : Int))
    rw [hra, ← List.length_map (f := Ah.toD)] at h2
    have hrk := (hah.2 r (hmem r hr)).2.2
    obtain ⟨es, c', hes, hlen, hw, hc1, hc2⟩ := draws ih (el := el__law_call_1 (sem (K + 2))) (b := bName 12) (ρ0 := [.val cs, .val (.ref j), .val (.ref a), .val (.lst (sc.map .str)), .val (.int dI), .val (.int m), .own ((r0 :: rs).map Ah.toD), .val (.str r.m), .val (.str r.f), .val (.int r.k), .val (.bl r.q), .un, .un]) hd hcs hja hj h0 (by omega) hat hah hsc (by omega)
      (fun x N => ⟨_, rfl, by simp [el__law_call_1_eq]⟩) r.k hrk
    refine ⟨.call r.m r.f es, c', ?_, ?_, ?_, ?_, by omega, by omega⟩
    · have hb : rng1D [.int (r.k : Int)] = some (rngL 0 r.k) := by
        rw [rng1_ok (by omega) (by omega), Int.toNat_natCast]
      exact call_cons (K + 2) cs j a M n ah q sc m dI hat hah.1 ((r0 :: rs).map Ah.toD) (by rw [hsom]) (by simp) (ah_ne r0 rs fun r hr => hah.2 r (hmem r hr)) r.m r.f r.k r.k r.q h2 es _ hb hes
    · rw [Ex.Wf]
      exact ⟨⟨r, hmem r hr, rfl, rfl, hlen.symm⟩, Ex.Wfs_of fun e he => (hw e he).1⟩
    · rw [Ex.dep]
      have := Ex.deps_le (es := es) fun e he => (hw e he).2.1
      omega
    · rw [Ex.cnt]
      have := Ex.cnts_le (es := es) fun e he => (hw e he).2.2
      have h5 : es.length * 6 ^ (d + 1) ≤ 5 * 6 ^ (d + 1) := Nat.mul_le_mul_right _ (by omega)
      omega
end K04
namespace K04
open PySem L2 TP
set_option maxHeartbeats 4000000
theorem notIn2 (M : Store) (x a b : Str) : notInD M (.str x) (.tup [.str a, .str b]) = some (.val (.bl (!(decide (a = x) || decide (b = x))))) := by
  have h : notInD M (.str x) (.tup [.str a, .str b]) = some (.val (.bl (![D.str a, D.str b].any fun d => eqvD d (.str x)))) := rfl
  rw [h, List.any_cons, List.any_cons, List.any_nil, eqvD_str, eqvD_str, Bool.or_false]
theorem times_scope (Φ : Nat → Fn) (s0 s1 s2 s3 s4 s5 s8 s9 s10 s11 s13 : Slot) (L : List D) (i1 i2 : Int) (A B : Str) (hA : atI L i1 = some (.str A)) (hB : atI L i2 = some (.str B)) (sc : List Str) (M : Store) (hl : sc.length ≤ 100) :
    lcGo (bName 14) (cd__law_times_0 Φ) (el__law_times_0 Φ) [s0, s1, s2, s3, s4, s5, .val (.lst L), .val (.int i2), s8, s9, s10, s11, .val (.int i1), s13, .un] (sc.map .str) [] M = .ok ((sc.filter fun x => !(decide (A = x) || decide (B = x))).map .str) M := by
  have := lcGo_fmap (b := bName 14) (c := cd__law_times_0 Φ) (f := el__law_times_0 Φ) (ρ0 := [s0, s1, s2, s3, s4, s5, .val (.lst L), .val (.int i2), s8, s9, s10, s11, .val (.int i1), s13, .un]) (M := M) D.str (fun x => !(decide (A = x) || decide (B = x))) D.str sc []
    (fun x hx => by
      refine ⟨_, rfl, ?_, fun _ => ?_⟩
      · simp [-Bool.not_or, cd__law_times_0_eq, hA, hB, notIn2]
      · simp [el__law_times_0_eq]) (by rw [szL, List.length_nil]; omega)
  simpa [-Bool.not_or] using this
theorem filt_mem {sc : List Str} {p : Str → Bool} {q : Str → Prop} (h : ∀ x ∈ sc, q x) : ∀ x ∈ sc.filter p, q x := fun x hx => h x (List.mem_filter.mp hx).1
theorem times_ok {K d : Nat} (ih : ExprOk K (d + 1)) (ih0 : ExprOk K d) : PartOk f__law_times (K + 1) d := by
  intro cs j a c M n ah q sc m dI hd hcs hja hj h0 h1 hat hah hsc hl
  have hp : (8 : Int) ^ (d + 2) = 8 * 8 ^ (d + 1) := pow8 (d + 1)
  have hp2 : (8 : Int) ^ (d + 1) = 8 * 8 ^ d := pow8 d
  have hp1 := pow8pos d
  have h6 := pow6 d
  rw [e__law_times]
  have hA := namesL_at (n := n) (i := m / 7 % 5) (by omega) (by omega)
  have hB := namesL_at (n := n) (i := (m / 7 % 5 + 1 + m / 35 % 4) % 5) (by omega) (by omega)
  have mA := nameAt_names (n := n) (i := m / 7 % 5) (by omega) (by omega)
  have mB := nameAt_names (n := n) (i := (m / 7 % 5 + 1 + m / 35 % 4) % 5) (by omega) (by omega)
  have hAB : nameAt n (m / 7 % 5) ≠ nameAt n ((m / 7 % 5 + 1 + m / 35 % 4) % 5) := fun h => by
    have := nameAt_inj (by omega) (by omega) (by omega) (by omega) h
    omega
  generalize hi1 : m / 7 % 5 = i1 at *
  generalize hi2 : (i1 + 1 + m / 35 % 4) % 5 = i2 at *
  generalize hgA : nameAt n i1 = A at *
  generalize hgB : nameAt n i2 = B at *
  -- what its N is
  have many : ∃ (em : Ex) (cm : Int), (∀ (x0 x1 x3 x4 x5 x6 x7 x8 : Slot), (sIf (dAnd (dNot (dTru (dEF (dOp2 dgetD (dVarB 2) (dC (.str "quiet")))))) (dBo (dOp2 eqD (dEF (dOp2 modD (dEF (dOp2 fdivD (dVarB 5) (dC (.int 140)))) (dC (.int 3)))) (dC (.int 1))))) (sSeq (sSet 8 (dFE (dTup (dCons (dC (.str "op")) (dCons (dC (.str "&")) (dCons (dEF (dCall 5 (sem K f__law_expression) (dCons (dVar 0) (dCons (dVar 1) (dCons (dVar 2) (dCons (dVar 3) (dCons (dEF (dOp2 subD (dVarB 4) (dC (.int 2)))) dNil))))))) (dCons (dTup (dCons (dC (.str "num")) (dCons (dC (.int 4)) dNil))) dNil))))))) sNil) (sSeq (sIf (dAnd (dNot (dTru (dEF (dOp2 dgetD (dVarB 2) (dC (.str "quiet")))))) (dBo (dOp2 eqD (dEF (dOp2 modD (dEF (dOp2 fdivD (dVarB 5) (dC (.int 140)))) (dC (.int 12)))) (dC (.int 2))))) (sSeq (sSet 8 (dFE (dTup (dCons (dC (.str "num")) (dCons (dEF (dOp2 addD (dC (.int 1000)) (dEF (dOp2 modD (dEF (dOp2 fdivD (dVarB 5) (dC (.int 1680)))) (dC (.int 3)))))) dNil))))) sNil) sNil) sNil)) [.val cs, .val (.ref j), .val (.ref a), .val (.lst (sc.map .str)), .val (.int dI), .val (.int m), x0, x1, .val (.tup [.str "num", .int (m % 4)]), x3, x4, x5, x6, x7, x8] M = .next [.val cs, .val (.ref j), .val (.ref a), .val (.lst (sc.map .str)), .val (.int dI), .val (.int m), x0, x1, .val em.toD, x3, x4, x5, x6, x7, x8] (M.set j (.lst [.int cm]))) ∧ Ex.Wf (· ∈ namesL n) (ahP ah) sc em ∧ em.dep ≤ d + 1 ∧ em.cnt ≤ 6 ^ d + 2 ∧ c ≤ cm ∧ cm ≤ c + 8 ^ d := by
    have hq := at_quiet hat
    obtain ⟨e0, c0, r0, w0, d0, n0, l0, u0⟩ := ih0 cs j a c M n ah q sc (dI - 2) (by omega) hcs hja hj h0 (by omega) hat hah hsc (by omega)
    by_cases hq1 : q = false ∧ m / 140 % 3 = 1
    · refine ⟨.op "&" e0 (.num 4), c0, fun x0 x1 x3 x4 x5 x6 x7 x8 => ?_, ?_, by rw [Ex.dep, Ex.dep]; omega, by rw [Ex.cnt, Ex.cnt]; omega, by omega, by omega⟩
      · simp [hq, hq1.1, hq1.2, r0, Ex.toD]
      · rw [Ex.Wf, Ex.Wf]; exact ⟨by simp [signs], w0, by omega, by omega⟩
    · by_cases hq2 : q = false ∧ m / 140 % 12 = 2
      · refine ⟨.num (1000 + m / 1680 % 3), c, fun x0 x1 x3 x4 x5 x6 x7 x8 => ?_, ?_, by rw [Ex.dep]; omega, by rw [Ex.cnt]; omega, by omega, by omega⟩
        · have hq3 : ¬ m / 140 % 3 = 1 := fun h => hq1 ⟨hq2.1, h⟩
          rw [set_self hj]
          simp [hq, hq2.1, hq2.2, hq3, Ex.toD]
        · rw [Ex.Wf]; omega
      · refine ⟨.num (m % 4), c, fun x0 x1 x3 x4 x5 x6 x7 x8 => ?_, ?_, by rw [Ex.dep]; omega, by rw [Ex.cnt]; omega, by omega, by omega⟩
        · rw [set_self hj]
          cases hqq : q with
          | true => simp [hq, hqq, Ex.toD]
          | false =>
            have hq3 : ¬ m / 140 % 3 = 1 := fun h => hq1 ⟨hqq, h⟩
            have hq4 : ¬ m / 140 % 12 = 2 := fun h => hq2 ⟨hqq, h⟩
            simp [hq, hqq, hq3, hq4, Ex.toD]
        · rw [Ex.Wf]; omega
  obtain ⟨em, cm, hm, wm, dm, nm, lm, um⟩ := many
  obtain ⟨e1, c1, r1, w1, d1, n1, l1, u1⟩ := ih cs j a cm (M.set j (.lst [.int cm])) n ah q sc (dI - 1) (by omega) hcs hja (get_set hj) (by omega) (by omega) (hat.set hja) hah hsc (by omega)
  rw [set_set] at r1
  have hlf : (sc.filter fun x => !(decide (A = x) || decide (B = x))).length ≤ sc.length := List.length_filter_le _ _
  obtain ⟨e2, c2, r2, w2, d2, n2, l2, u2⟩ := ih cs j a c1 (M.set j (.lst [.int c1])) n ah q ((sc.filter fun x => !(decide (A = x) || decide (B = x))) ++ [A, B]) (dI - 1) (by omega) hcs hja (get_set hj) (by omega) (by omega) (hat.set hja) hah (by
    intro x hx
    rcases List.mem_append.mp hx with hx | hx
    · exact filt_mem hsc x hx
    · simp only [List.mem_cons, List.not_mem_nil, or_false] at hx
      rcases hx with rfl | rfl
      · exact mA
      · exact mB) (by rw [List.length_append, List.length_cons, List.length_cons, List.length_nil]; omega)
  rw [set_set] at r2
  rw [List.map_append] at r2
  refine ⟨.times em A B e1 e2, c2, ?_, ?_, ?_, by rw [Ex.cnt]; omega, by omega, by omega⟩
  · have hn := at_names hat
    have hsc2 := fun (s0 s1 s2 s3 s4 s5 s8 s9 s10 s11 s13 : Slot) (N : Store) => times_scope (sem K) s0 s1 s2 s3 s4 s5 s8 s9 s10 s11 s13 _ i1 i2 A B hA hB sc N (by omega)
    simp only [List.map_cons, List.map_nil] at r2
    unfold runF m__law_times
    simp [-sIf_eq, -Bool.not_or, startD, hn, hi1, hi2, bTup, bNames, hm, r1, itemsD, wipeD, hsc2, hA, hB, addD, lstOf, Ex.toD]
    rw [if_pos (by omega)]
    simp [-Bool.not_or, r2, hA, hB]
  · rw [Ex.Wf]
    refine ⟨mA, mB, hAB, wm, w1, Ex.Wf.mono (fun _ _ _ h => h) e2 _ _ (fun x hx => ?_) w2⟩
    rcases List.mem_append.mp hx with hx | hx
    · exact List.mem_cons_of_mem _ (List.mem_cons_of_mem _ (List.mem_filter.mp hx).1)
    · simp only [List.mem_cons, List.not_mem_nil, or_false] at hx
      rcases hx with rfl | rfl
      · exact List.mem_cons_self
      · exact List.mem_cons_of_mem _ List.mem_cons_self
  · rw [Ex.dep]; omega
theorem let_scope (Φ : Nat → Fn) (s0 s1 s2 s3 s4 s5 s6 s7 s9 s10 s12 : Slot) (A : Str) (hA : okStr A = true) (sc : List Str) (hsc : ∀ x ∈ sc, okStr x = true) (M : Store) (hl : sc.length ≤ 100) :
    lcGo (bName 11) (cd__law_expression_0 Φ) (el__law_expression_0 Φ) [s0, s1, s2, s3, s4, s5, s6, s7, .val (.str A), s9, s10, .un, s12] (sc.map .str) [] M = .ok ((sc.filter fun x => !decide (x = A)).map .str) M := by
  have := lcGo_fmap (b := bName 11) (c := cd__law_expression_0 Φ) (f := el__law_expression_0 Φ) (ρ0 := [s0, s1, s2, s3, s4, s5, s6, s7, .val (.str A), s9, s10, .un, s12]) (M := M) D.str (fun x => !decide (x = A)) D.str sc []
    (fun x hx => by
      refine ⟨_, rfl, ?_, fun _ => ?_⟩
      · simp [cd__law_expression_0_eq, neD_str M (hsc x hx) hA]
      · simp [el__law_expression_0_eq]) (by rw [szL, List.length_nil]; omega)
  simpa using this
theorem expr_low (K : Nat) (d : Nat) (hd2 : d < 2) : ExprOk (K + 3) d := by
  intro cs j a c M n ah q sc dI hd hcs hja hj h0 h1 hat hah hsc hl
  have hp : (1 : Int) ≤ 8 ^ d := pow8pos d
  have h6 := pow6 d
  obtain ⟨r, hr0, hr⟩ := cell1 (K + 1) hcs hj h0 (by omega)
  obtain ⟨e, re, w, dp, ct⟩ := leaf_ok K (.ref a) sc (fun x hx => namesL_ok (hsc x hx)) (r / 16) (M.set j (.lst [.int (c + 1)])) (· ∈ namesL n) (ahP ah)
  refine ⟨e, c + 1, ?_, w, by omega, by omega, by omega, by omega⟩
  rw [e__law_expression]
  have hdd : dI < 2 := by omega
  simp [runF, m__law_expression, startD, hr, hdd, re]
theorem expr_step {K d : Nat} (ihK : ExprOk (K + 3) (d + 1)) (ih : ExprOk (K + 2) (d + 1)) (ih0 : ExprOk (K + 2) d) : ExprOk (K + 4) (d + 2) := by
  intro cs j a c M n ah q sc dI hd hcs hja hj h0 h1 hat hah hsc hl
  have hp : (8 : Int) ^ (d + 2) = 8 * 8 ^ (d + 1) := pow8 (d + 1)
  have hp1 := pow8pos (d + 1)
  have h6 := pow6 d
  obtain ⟨r, hr0, hr⟩ := cell1 (K + 2) hcs hj h0 (by omega)
  have hj1 := get_set (b := .lst [.int (c + 1)]) hj
  have hat1 : AtOk (M.set j (.lst [.int (c + 1)])) a n ah q := hat.set hja
  have hdd : ¬ dI < 2 := by omega
  have hq := at_quiet hat1
  rw [e__law_expression]
  by_cases w1 : r % 16 < 3
  · obtain ⟨e, re, w, dp, ct⟩ := leaf_ok (K + 1) (.ref a) sc (fun x hx => namesL_ok (hsc x hx)) (r / 16) (M.set j (.lst [.int (c + 1)])) (· ∈ namesL n) (ahP ah)
    refine ⟨e, c + 1, ?_, w, by omega, by omega, by omega, by omega⟩
    simp [runF, m__law_expression, startD, hr, hdd, w1, re]
  by_cases w2 : r % 16 < 5
  · obtain ⟨e, c', re, w, dp, ct, l, u⟩ := call_ok ih cs j a (c + 1) _ n ah q sc (r / 16) dI hd hcs hja hj1 (by omega) (by omega) hat1 hah hsc hl
    rw [set_set] at re
    refine ⟨e, c', ?_, w, dp, ct, by omega, by omega⟩
    simp [runF, m__law_expression, startD, hr, hdd, w1, w2, re]
  by_cases w3 : r % 16 = 5
  · obtain ⟨e, c', re, w, dp, ct, l, u⟩ := times_ok ih ih0 cs j a (c + 1) _ n ah q sc (r / 16) dI hd hcs hja hj1 (by omega) (by omega) hat1 hah hsc hl
    rw [set_set] at re
    refine ⟨e, c', ?_, w, dp, ct, by omega, by omega⟩
    simp [runF, m__law_expression, startD, hr, hdd, w3, re]
  obtain ⟨e1, c1, r1, we1, d1, n1, l1, u1⟩ := ihK cs j a (c + 1) (M.set j (.lst [.int (c + 1)])) n ah q sc (dI - 1) (by omega) hcs hja hj1 (by omega) (by omega) hat1 hah hsc (by omega)
  rw [set_set] at r1
  by_cases w4 : r % 16 < 9
  · have hA := namesL_at (n := n) (i := r / 16 % 5) (by omega) (by omega)
    have mA := nameAt_names (n := n) (i := r / 16 % 5) (by omega) (by omega)
    have oA := namesL_ok mA
    have hn := at_names hat1
    generalize hgA : nameAt n (r / 16 % 5) = A at *
    have hlf : (sc.filter fun x => !decide (x = A)).length ≤ sc.length := List.length_filter_le _ _
    obtain ⟨e2, c2, r2, we2, d2, n2, l2, u2⟩ := ihK cs j a c1 (M.set j (.lst [.int c1])) n ah q ((sc.filter fun x => !decide (x = A)) ++ [A]) (dI - 1) (by omega) hcs hja (get_set hj) (by omega) (by omega) (hat.set hja) hah (by
      intro x hx
      rcases List.mem_append.mp hx with hx | hx
      · exact filt_mem hsc x hx
      · rw [List.mem_singleton] at hx; subst hx; exact mA) (by rw [List.length_append, List.length_cons, List.length_nil]; omega)
    rw [set_set] at r2
    rw [List.map_append] at r2
    simp only [List.map_cons, List.map_nil] at r2
    have hsc2 := fun (s0 s1 s2 s3 s4 s5 s6 s7 s9 s10 s12 : Slot) (N : Store) => let_scope (sem (K + 3)) s0 s1 s2 s3 s4 s5 s6 s7 s9 s10 s12 A oA sc (fun x hx => namesL_ok (hsc x hx)) N (by omega)
    refine ⟨.lt A e1 e2, c2, ?_, ?_, by rw [Ex.dep]; omega, by rw [Ex.cnt]; omega, by omega, by omega⟩
    · simp [runF, m__law_expression, startD, hr, hdd, w1, w2, w3, w4, hn, hA, r1, itemsD, wipeD, hsc2, addD, lstOf]
      rw [if_pos (by omega)]
      simp [r2, Ex.toD]
    · rw [Ex.Wf]
      refine ⟨mA, we1, Ex.Wf.mono (fun _ _ _ h => h) e2 _ _ (fun x hx => ?_) we2⟩
      rcases List.mem_append.mp hx with hx | hx
      · exact List.mem_cons_of_mem _ (List.mem_filter.mp hx).1
      · rw [List.mem_singleton] at hx; subst hx; exact List.mem_cons_self
  by_cases w5 : r % 16 = 9
  · obtain ⟨es, c', hes, hlen, hw, hc1, hc2⟩ := draws ihK (el := el__law_expression_1 (sem (K + 3))) (b := bName 12) (ρ0 := [.val cs, .val (.ref j), .val (.ref a), .val (.lst (sc.map .str)), .val (.int dI), .val (.int r), .val (.int (r % 16)), .val (.int (r / 16)), .un, .un, .un, .un, .un]) hd hcs hja hj1 (by omega) (by omega) hat1 hah hsc (by omega)
      (fun x N => ⟨_, rfl, by simp [el__law_expression_1_eq]⟩) 3 (by omega)
    match es, hlen with
    | [x, y, z], _ =>
      have hx := hw x (by simp)
      have hy := hw y (by simp)
      have hz := hw z (by simp)
      rw [set_set] at hes
      rw [w5] at hes
      have hb : rng1D [.int 3] = some (rngL 0 3) := rfl
      refine ⟨.ite x y z, c', ?_, by rw [Ex.Wf]; exact ⟨hx.1, hy.1, hz.1⟩, by rw [Ex.dep]; omega, by rw [Ex.cnt]; omega, by omega, by omega⟩
      simp [-rng1D_int, runF, m__law_expression, startD, hr, hdd, w5, hb, wipeD, hes, tupleD, seqOf, lstOf, addD, Ex.toD]
  obtain ⟨e2, c2, r2, we2, d2, n2, l2, u2⟩ := ihK cs j a c1 (M.set j (.lst [.int c1])) n ah q sc (dI - 1) (by omega) hcs hja (get_set hj) (by omega) (by omega) (hat.set hja) hah hsc (by omega)
  rw [set_set] at r2
  by_cases w6 : r % 16 < 12 ∧ q = false
  · refine ⟨.tell e1 e2, c2, ?_, by rw [Ex.Wf]; exact ⟨we1, we2⟩, by rw [Ex.dep]; omega, by rw [Ex.cnt]; omega, by omega, by omega⟩
    simp [runF, m__law_expression, startD, hr, hdd, w1, w2, w3, w4, w5, w6.1, hq, w6.2, r1, r2, Ex.toD]
  by_cases w7 : r % 16 = 12 ∧ q = false ∧ r / 16 % 4 = 1
  · refine ⟨.stop e1, c1, ?_, by rw [Ex.Wf]; exact we1, by rw [Ex.dep]; omega, by rw [Ex.cnt]; omega, by omega, by omega⟩
    simp [runF, m__law_expression, startD, hr, hdd, w7.1, hq, w7.2.1, w7.2.2, r1, Ex.toD]
  obtain ⟨e, c', re, w, dp, ct, l, u⟩ := op_ok ih cs j a (c + 1) _ n ah q sc (r / 16) dI hd hcs hja hj1 (by omega) (by omega) hat1 hah hsc hl
  rw [set_set] at re
  refine ⟨e, c', ?_, w, dp, ct, by omega, by omega⟩
  cases hqq : q with
  | true => simp [runF, m__law_expression, startD, hr, hdd, w1, w2, w3, w4, w5, hq, hqq, re]
  | false =>
    have w8 : ¬ r % 16 < 12 := fun h => w6 ⟨h, hqq⟩
    by_cases w9 : r % 16 = 12
    · have w10 : ¬ r / 16 % 4 = 1 := fun h => w7 ⟨w9, hqq, h⟩
      simp [runF, m__law_expression, startD, hr, hdd, w9, w10, hq, hqq, re]
    · simp [runF, m__law_expression, startD, hr, hdd, w1, w2, w3, w4, w5, w8, w9, hq, hqq, re]
theorem expr_ok : ∀ (d K : Nat), ExprOk (K + 2 * d + 3) d
  | 0, K => expr_low K 0 (by decide)
  | 1, K => expr_low (K + 2) 1 (by decide)
  | d + 2, K => by
    have h1 := expr_ok (d + 1) (K + 1)
    have h2 := expr_ok (d + 1) K
    have h3 := expr_ok d (K + 2)
    have e1 : K + 1 + 2 * (d + 1) + 3 = K + 2 * d + 3 + 3 := by omega
    have e2 : K + 2 * (d + 1) + 3 = K + 2 * d + 3 + 2 := by omega
    have e3 : K + 2 + 2 * d + 3 = K + 2 * d + 3 + 2 := by omega
    have e4 : K + 2 * (d + 2) + 3 = K + 2 * d + 3 + 4 := by omega
    rw [e1] at h1
    rw [e2] at h2
    rw [e3] at h3
    rw [e4]
    exact expr_step h1 h2 h3
end K04
namespace K04
open PySem L2 TP
set_option maxHeartbeats 4000000
def parL (n more : Int) (k : Nat) : List Str := (List.range k).map fun i => nameAt n ((more + 3 * (i : Nat)) % 5)
theorem parL_nodup (n more : Int) {k : Nat} (hk : k ≤ 3) : (parL n more k).Nodup := by
  unfold parL
  refine List.pairwise_map.mpr (List.Pairwise.imp_of_mem (fun {i j} hi hj hij h => ?_) List.pairwise_lt_range)
  rw [List.mem_range] at hi hj
  have := nameAt_inj (by omega) (by omega) (by omega) (by omega) h
  omega
theorem parL_mem (n more : Int) {k : Nat} {x : Str} (h : x ∈ parL n more k) : x ∈ namesL n := by
  unfold parL at h
  obtain ⟨i, _, rfl⟩ := List.mem_map.mp h
  exact nameAt_names (by omega) (by omega)
theorem params_go (Φ : Nat → Fn) (n more : Int) (s0 s1 s2 s3 s4 s5 s6 s8 s9 s10 s12 s13 s14 s15 : Slot) (k : Nat) (hk : k ≤ 3) (M : Store) :
    lcGo (bName 16) dYes (el__law_program_0 Φ) [s0, s1, s2, s3, s4, s5, s6, .val (.lst ((namesL n).map .str)), s8, s9, s10, .val (.int more), s12, s13, s14, s15, .un] (rngL 0 k) [] M = .ok ((parL n more k).map .str) M := by
  rw [lcGo_map (fun d => match d with | .int i => .str (nameAt n ((more + 3 * i) % 5)) | _ => .non) _ (fun d hd => ?_) (by rw [rngL_len, szL]; omega)]
  · unfold parL rngL
    rw [List.map_map, List.map_map]
    congr 1
    apply List.map_congr_left
    intro i _
    show D.str (nameAt n ((more + 3 * (0 + (i : Int))) % 5)) = D.str (nameAt n ((more + 3 * (i : Int)) % 5))
    rw [Int.zero_add]
  · obtain ⟨i, hi⟩ := List.getElem?_of_mem hd
    obtain ⟨hi1, rfl⟩ := rngL_get hi
    have m1 : ∀ x, mulOk 3 x = true := fun x => mulOk_l (by decide) (by decide)
    have h3 := namesL_at (n := n) (i := (more + 3 * (0 + (i : Int))) % 5) (by omega) (by omega)
    refine ⟨_, rfl, ?_⟩
    rw [Int.zero_add] at h3 ⊢
    simp [el__law_program_0_eq, m1, h3]
/-- the functions ahead, as they are handed on -/
def Ahs (ah : List Ah) (xs : List (Str × Row)) : Prop := ah.map (fun r => (r.m, r.f, r.k)) = xs.map fun x => (x.1, x.2.f, x.2.ps.length)
theorem Ahs.ahP {ah : List Ah} {xs : List (Str × Row)} (h : Ahs ah xs) {m f : Str} {k : Nat} (hp : ahP ah m f k) : rowP xs m f k := by
  obtain ⟨r, hr, rfl, rfl, rfl⟩ := hp
  have : (r.m, r.f, r.k) ∈ ah.map (fun r => (r.m, r.f, r.k)) := List.mem_map.mpr ⟨r, hr, rfl⟩
  rw [h] at this
  obtain ⟨x, hx, e⟩ := List.mem_map.mp this
  simp only [Prod.mk.injEq] at e
  exact ⟨x, hx, e⟩
theorem at_new (M : Store) (n : Int) (ah : List Ah) (q : Bool) : AtOk (M ++ [.dK (mergeD ["names", "ahead", "quiet"] [.lst ((namesL n).map .str), .lst (ah.map Ah.toD), .bl q])]) M.length n ah q := by
  refine ⟨_, at_end M _, ?_, ?_, ?_⟩ <;> rfl
def spotN (more jI : Int) : Int := (more / 240 % 3 + 5 + 3 * jI) % 16
/-- one function -/
theorem row_ok (K : Nat) {cs : D} (hcs : CellsD cs) {j : Nat} {c : Int} {M : Store} (hj : M[j]? = some (.lst [.int c])) (h0 : -1 ≤ c) (h1 : c + 40000 < 2 ^ 39) (n : Int) {ah : List Ah} (hah : AhOk ah) (hal : ah.length < 1000) (sm sn : Slot) (mods room : List D) (hrl : room.length < 1000) (kI jI : Int) (hk0 : 0 ≤ kI) (hk1 : kI < 16) (s11 s12 s13 s14 s15 s16 : Slot) :
    ∃ (more : Int) (r : Row) (a : Ah) (c' : Int) (X : MO) (s13' s14' s15' s16' : Slot), lp__law_program_0 (sem (K + 13)) [.val cs, .val (.ref j), sm, sn, .val (.lst (ah.map Ah.toD)), .own mods, .val (.int kI), .val (.lst ((namesL n).map .str)), .val (.lst ((namesL (n / 7)).map .str)), .own room, .val (.int jI), s11, s12, s13, s14, s15, s16] M
      = .next [.val cs, .val (.ref j), sm, sn, .val (.lst ((ah ++ [a]).map Ah.toD)), .own mods, .val (.int kI), .val (.lst ((namesL n).map .str)), .val (.lst ((namesL (n / 7)).map .str)), .own (room ++ [r.toD]), .val (.int jI), .val (.int more), .val (.lst (r.ps.map .str)), s13', s14', s15', s16'] (M.set j (.lst [.int c']) ++ [X])
      ∧ a.m = nameAt (n / 7) kI ∧ a.f = r.f ∧ a.k = r.ps.length ∧ r.f = nameAt (n / 7) (spotN more jI) ∧ r.ps.Nodup ∧ r.ps.length ≤ 3 ∧ (∀ y ∈ r.ps, y ∈ namesL n) ∧ Ex.Wf (· ∈ namesL n) (ahP ah) r.ps r.b ∧ r.b.dep ≤ 5 ∧ r.b.cnt ≤ 7776 ∧ c < c' ∧ c' ≤ c + 40000 := by
  have hjl : j < M.length := (List.getElem?_eq_some_iff.mp hj).1
  obtain ⟨more, hm0, hm⟩ := cell1 (K + 12) hcs hj h0 (by omega)
  obtain ⟨k, hk⟩ : ∃ k : Nat, (k : Int) = more / 5 % 4 := ⟨(more / 5 % 4).toNat, by omega⟩
  obtain ⟨d, hd⟩ : ∃ d : Nat, (2 + more / 60 % 4 : Int) = d := ⟨(2 + more / 60 % 4).toNat, by omega⟩
  have hk3 : k ≤ 3 := by omega
  have hd5 : d ≤ 5 := by omega
  have hpl : (parL n more k).length = k := by unfold parL; rw [List.length_map, List.length_range]
  have h8 : (8 : Int) ^ d ≤ 32768 := by
    have : d = 2 ∨ d = 3 ∨ d = 4 ∨ d = 5 := by omega
    rcases this with rfl | rfl | rfl | rfl <;> decide
  have h6 : 6 ^ d ≤ 7776 := by
    have : d = 2 ∨ d = 3 ∨ d = 4 ∨ d = 5 := by omega
    rcases this with rfl | rfl | rfl | rfl <;> decide
  have hM1 : (M.set j (.lst [.int (c + 1)])).length = M.length := List.length_set
  obtain ⟨X, hX⟩ : ∃ X : MO, X = .dK (mergeD ["names", "ahead", "quiet"] [.lst ((namesL n).map .str), .lst (ah.map Ah.toD), .bl (decide (more / 20 % 3 = 0))]) := ⟨_, rfl⟩
  have hat : ∀ b : Int, AtOk (M.set j (.lst [.int b]) ++ [X]) M.length n ah (decide (more / 20 % 3 = 0)) := fun b => by
    have := at_new (M.set j (.lst [.int b])) n ah (decide (more / 20 % 3 = 0))
    rw [List.length_set, ← hX] at this
    exact this
  have hj1 : (M.set j (.lst [.int (c + 1)]) ++ [X])[j]? = some (.lst [.int (c + 1)]) := get_app (get_set hj)
  have hex := expr_ok d (K + 10 - 2 * d)
  have e13 : K + 10 - 2 * d + 2 * d + 3 = K + 13 := by omega
  rw [e13] at hex
  obtain ⟨e, c', re, w, dp, ct, l, u⟩ := hex cs j M.length (c + 1) (M.set j (.lst [.int (c + 1)]) ++ [X]) n ah (decide (more / 20 % 3 = 0)) (parL n more k) (2 + more / 60 % 4) hd hcs (by omega) hj1 (by omega) (by omega) (hat _) hah (fun x hx => parL_mem n more hx) (by omega)
  rw [set_app (by rw [hM1]; exact hjl), set_set] at re
  have hp := params_go (sem (K + 13)) n more
  have hA := namesL_at (n := n / 7) (i := spotN more jI) (by unfold spotN; omega) (by unfold spotN; omega)
  have hB := namesL_at (n := n / 7) (i := kI) hk0 hk1
  have hq := at_quiet (hat c')
  have hb : rng1D [.int (more / 5 % 4)] = some (rngL 0 k) := by rw [← hk, rng1_ok (by omega) (by omega), Int.toNat_natCast]
  have m1 : ∀ x, mulOk 3 x = true := fun x => mulOk_l (by decide) (by decide)
  refine ⟨more, ⟨nameAt (n / 7) (spotN more jI), parL n more k, e⟩, ⟨nameAt (n / 7) kI, nameAt (n / 7) (spotN more jI), k, decide (more / 20 % 3 = 0)⟩, c', X, .val (.ref M.length), .val e.toD, .val (.str (nameAt (n / 7) (spotN more jI))), s16, ?_, rfl, rfl, hpl.symm, rfl, parL_nodup n more hk3, by rw [hpl]; exact hk3, fun y hy => parL_mem n more hy, w, Nat.le_trans dp hd5, Nat.le_trans ct h6, by omega, by omega⟩
  rw [lp__law_program_0_eq]
  unfold spotN at hA ⊢
  simp [-rng1D_int, hm, hb, wipeD, hp _ _ _ _ _ _ _ _ _ _ _ _ _ _ k hk3, dVals, ← hX, re]
  have hr2 : room.length < 16777216 := by omega
  have ha2 : ah.length + 1 ≤ 16777216 := by omega
  have ha3 : ah.length < 16777216 := by omega
  simp [m1, hA, hB, hq, hr2, ha2, ha3, tupleD, seqOf, lstOf, addD, hpl, Row.toD, Ah.toD]
/-- the functions of a module, as drawn so far -/
structure RoomI (n : Int) (m : Str) (pre : List (Str × Row)) (ah : List Ah) (rs : List Row) : Prop where
  ahs : Ahs ah (pre ++ rs.map fun r => (m, r))
  ok : ∀ r ∈ ah, okStr r.m = true ∧ okStr r.f = true ∧ r.k ≤ 5
  wf : RowsWf n [] (pre ++ rs.map fun r => (m, r))
  nd : (rs.map Row.f).Nodup
  sp : ∀ r ∈ rs, ∃ t i : Int, 0 ≤ t ∧ t ≤ 2 ∧ 0 ≤ i ∧ i < rs.length ∧ r.f = TP.nameAt (n / 7) ((t + 5 + 3 * i) % 16)
theorem Ahs.len {ah : List Ah} {xs : List (Str × Row)} (h : Ahs ah xs) : ah.length = xs.length := by
  have := congrArg List.length h
  simpa using this
theorem room_ok (K : Nat) {cs : D} (hcs : CellsD cs) {j : Nat} {c : Int} {M : Store} (hj : M[j]? = some (.lst [.int c])) (h0 : -1 ≤ c) (h1 : c + 200000 < 2 ^ 39) (n : Int) (sm sn : Slot) (mods : List D) (kI : Int) (hk0 : 0 ≤ kI) (hk1 : kI < 16)
    (pre : List (Str × Row)) (ah : List Ah) (hpl : pre.length ≤ 900) (hI : RoomI n (nameAt (n / 7) kI) pre ah []) (cnt : Nat) (hcnt : cnt ≤ 4) (s10 s11 s12 s13 s14 s15 s16 : Slot) :
    ∃ (rs : List Row) (ah' : List Ah) (c' : Int) (Xs : Store) (s10' s11' s12' s13' s14' s15' s16' : Slot), forGo (bName 10) (lp__law_program_0 (sem (K + 13))) (rngL 0 cnt) [.val cs, .val (.ref j), sm, sn, .val (.lst (ah.map Ah.toD)), .own mods, .val (.int kI), .val (.lst ((namesL n).map .str)), .val (.lst ((namesL (n / 7)).map .str)), .own [], s10, s11, s12, s13, s14, s15, s16] M
      = .next [.val cs, .val (.ref j), sm, sn, .val (.lst (ah'.map Ah.toD)), .own mods, .val (.int kI), .val (.lst ((namesL n).map .str)), .val (.lst ((namesL (n / 7)).map .str)), .own (rs.map Row.toD), s10', s11', s12', s13', s14', s15', s16'] (M.set j (.lst [.int c']) ++ Xs)
      ∧ rs.length = cnt ∧ RoomI n (nameAt (n / 7) kI) pre ah' rs ∧ c ≤ c' ∧ c' ≤ c + 40000 * cnt := by
  have hjl : j < M.length := (List.getElem?_eq_some_iff.mp hj).1
  obtain ⟨ρ', M', e, rs, ah', c', Xs, s10', s11', s12', s13', s14', s15', s16', rfl, rfl, hl, hI', hc, hc'⟩ := forGo_all (b := bName 10) (body := lp__law_program_0 (sem (K + 13)))
    (fun i ρ N => ∃ (rs : List Row) (ah' : List Ah) (c' : Int) (Xs : Store) (s10' s11' s12' s13' s14' s15' s16' : Slot), ρ = [.val cs, .val (.ref j), sm, sn, .val (.lst (ah'.map Ah.toD)), .own mods, .val (.int kI), .val (.lst ((namesL n).map .str)), .val (.lst ((namesL (n / 7)).map .str)), .own (rs.map Row.toD), s10', s11', s12', s13', s14', s15', s16'] ∧ N = M.set j (.lst [.int c']) ++ Xs
      ∧ rs.length = i ∧ RoomI n (nameAt (n / 7) kI) pre ah' rs ∧ c ≤ c' ∧ c' ≤ c + 40000 * i)
    (rngL 0 cnt) (ρ := [.val cs, .val (.ref j), sm, sn, .val (.lst (ah.map Ah.toD)), .own mods, .val (.int kI), .val (.lst ((namesL n).map .str)), .val (.lst ((namesL (n / 7)).map .str)), .own [], s10, s11, s12, s13, s14, s15, s16]) (M := M)
    ⟨[], ah, c, [], s10, s11, s12, s13, s14, s15, s16, rfl, by rw [set_self hj, List.append_nil], rfl, hI, by omega, by omega⟩
    (fun i d ρ N hd ⟨rs, ah', c', Xs, s10', s11', s12', s13', s14', s15', s16', e1, e2, hl, hI, hc, hc'⟩ => by
      subst e1 e2
      obtain ⟨hi, rfl⟩ := rngL_get hd
      have hlen := hI.ahs.len
      rw [List.length_append, List.length_map] at hlen
      have hj2 : (M.set j (.lst [.int c']) ++ Xs)[j]? = some (.lst [.int c']) := get_app (get_set hj)
      obtain ⟨more, r, a, c2, X, t13, t14, t15, t16, re, ha1, ha2, ha3, hf, hnd, hp3, hps, hw, hdep, hct, hcl, hcu⟩ := row_ok K hcs hj2 (by omega) (by omega) n (ah := ah') ⟨by omega, hI.ok⟩ (by omega) sm sn mods (rs.map Row.toD) (by rw [List.length_map]; omega) kI (0 + (i : Int)) hk0 hk1 (s11 := s11') (s12 := s12') (s13 := s13') (s14 := s14') (s15 := s15') (s16 := s16')
      refine ⟨_, rfl, _, _, re, rs ++ [r], ah' ++ [a], c2, Xs ++ [X], _, _, _, _, _, _, _, by simp only [List.map_append, List.map_cons, List.map_nil]; rfl, ?_, by rw [List.length_append, hl]; rfl, ?_, by omega, by push_cast; omega⟩
      · rw [set_app (by rw [List.length_set]; exact hjl), set_set, List.append_assoc]
      · have hmem : nameAt (n / 7) kI ∈ namesL (n / 7) := nameAt_names hk0 hk1
        have hfm : r.f ∈ namesL (n / 7) := by rw [hf]; exact nameAt_names (by unfold spotN; omega) (by unfold spotN; omega)
        have hall : RowWf n (pre ++ rs.map fun r => (nameAt (n / 7) kI, r)) (nameAt (n / 7) kI, r) := ⟨hnd, hp3, hps, Ex.Wf.mono (fun m f k h => hI.ahs.ahP h) _ _ _ (fun _ z => z) hw, hdep, hct, hmem, hfm⟩
        refine ⟨?_, ?_, ?_, ?_, ?_⟩
        · have h1 := hI.ahs
          unfold Ahs at h1 ⊢
          rw [List.map_append, h1, List.map_append, List.map_append, List.map_append, List.map_append]
          simp [ha1, ha2, ha3]
        · intro x hx
          rcases List.mem_append.mp hx with hx | hx
          · exact hI.ok x hx
          · rw [List.mem_singleton] at hx
            subst hx
            rw [ha1, ha2]
            exact ⟨namesL_ok hmem, namesL_ok hfm, by omega⟩
        · rw [List.map_append, ← List.append_assoc]
          exact RowsWf.snoc hI.wf hall
        · rw [List.map_append]
          refine List.nodup_append.mpr ⟨hI.nd, by simp, fun x hx y hy => ?_⟩
          obtain ⟨r', hr', rfl⟩ := List.mem_map.mp hx
          simp only [List.map_cons, List.map_nil, List.mem_singleton] at hy
          subst hy
          intro he
          obtain ⟨t, i', ht0, ht1, hi0, hi1, hrf⟩ := hI.sp r' hr'
          rw [hrf, hf] at he
          unfold spotN at he
          have hi4 : (i : Int) = 0 ∨ (i : Int) = 1 ∨ (i : Int) = 2 ∨ (i : Int) = 3 := by omega
          have hi5 : i' = 0 ∨ i' = 1 ∨ i' = 2 := by omega
          have := nameAt_inj (by omega) (by omega) (by omega) (by omega) he
          rcases hi4 with q | q | q | q <;> rcases hi5 with z | z | z <;> rw [q, z] at this <;> omega
        · intro x hx
          rw [List.length_append]
          rcases List.mem_append.mp hx with hx | hx
          · obtain ⟨t, i', ht0, ht1, hi0, hi1, hrf⟩ := hI.sp x hx
            exact ⟨t, i', ht0, ht1, hi0, by push_cast; omega, hrf⟩
          · rw [List.mem_singleton] at hx
            subst hx
            exact ⟨more / 240 % 3, i, by omega, by omega, by omega, by rw [List.length_singleton, hl]; omega, by rw [hf]; unfold spotN; rw [Int.zero_add]⟩)
  rw [rngL_len] at hl hc'
  exact ⟨rs, ah', c', Xs, s10', s11', s12', s13', s14', s15', s16', e, hl, hI', hc, by omega⟩
theorem maxI (x y : Int) : (if x > y then x else y) = max y x := by
  rw [Int.max_def]
  split <;> split <;> omega
/-- the modules so far -/
structure ProgI (n : Int) (most : Nat) (ah : List Ah) (P : Pr) : Prop where
  ahs : Ahs ah (flat P)
  ok : ∀ r ∈ ah, okStr r.m = true ∧ okStr r.f = true ∧ r.k ≤ 5
  wf : RowsWf n [] (flat P)
  mods : P.map (·.1) = (List.range P.length).map fun i => nameAt (n / 7) (i : Nat)
  nd : ∀ q ∈ P, (q.2.map Row.f).Nodup
  each : ∀ q ∈ P, q.2.length ≤ max 1 most
  one : P = [] ∨ ∃ q Q, P = q :: Q ∧ q.2 ≠ []
theorem turn_go (Φ : Nat → Fn) (cs ahD ahD' nmD : D) (j : Nat) (mI n iI v mx cnI : Int) (b : Bool) (cn : Nat) (N N1 N2 : Store) (mods rmsD rs : List D) (nm : Str) (s9 s10 s11 s12 s13 s14 s15 s16 t10 t11 t12 t13 t14 t15 t16 : Slot)
    (hcell : Φ f__law_cell [cs, .ref j] N = .ok (.val (.int v)) N1) (heq : decide (iI = 0) = b) (hin : ∀ N, intD N [.bl b] = some (.val (.int mx))) (hmp : 0 < mI + 1) (hmx : max2D N1 [.int mx, .int (v / 5 % (mI + 1))] = some (.val (.int cnI))) (hb : rng1D [.int cnI] = some (rngL 0 cn))
    (re : forGo (bName 10) (lp__law_program_0 Φ) (rngL 0 cn) [.val cs, .val (.ref j), .val (.int mI), .val (.int n), .val ahD, .own mods, .val (.int iI), .val nmD, .val (.lst rmsD), .own [], s10, s11, s12, s13, s14, s15, s16] N1
      = .next [.val cs, .val (.ref j), .val (.int mI), .val (.int n), .val ahD', .own mods, .val (.int iI), .val nmD, .val (.lst rmsD), .own rs, t10, t11, t12, t13, t14, t15, t16] N2)
    (hB : atI rmsD iI = some (.str nm)) (hPl : mods.length < 16777216) :
    lp__law_program_1 Φ [.val cs, .val (.ref j), .val (.int mI), .val (.int n), .val ahD, .own mods, .val (.int iI), .val nmD, .val (.lst rmsD), s9, s10, s11, s12, s13, s14, s15, s16] N
      = .next [.val cs, .val (.ref j), .val (.int mI), .val (.int n), .val ahD', .own (mods ++ [.tup [.str nm, .tup rs]]), .val (.int iI), .val nmD, .val (.lst rmsD), .own rs, t10, t11, t12, t13, t14, t15, t16] N2 := by
  rw [lp__law_program_1_eq]
  simp [-rng1D_int, heq, hin, hcell, hmp, hmx, hb, re, hB, hPl, tupleD, seqOf, lstOf]
theorem program_ok (K : Nat) (most : Nat) (hmost : most ≤ 4) {cs : D} (hcs : CellsD cs) {j : Nat} {c : Int} {M : Store} (hj : M[j]? = some (.lst [.int c])) (h0 : -1 ≤ c) (h1 : c + 1000000 < 2 ^ 39) :
    ∃ (n : Int) (P : Pr) (c' : Int) (Xs : Store), sem (K + 14) f__law_program [cs, .ref j, .int most] M = .ok (.val (pgD P)) (M.set j (.lst [.int c']) ++ Xs) ∧ PrWf n most P ∧ c ≤ c' ∧ c' ≤ c + 600000 := by
  have hjl : j < M.length := (List.getElem?_eq_some_iff.mp hj).1
  obtain ⟨n, hn0, hn⟩ := cell1 (K + 12) hcs hj h0 (by omega)
  obtain ⟨cnt, hcnt⟩ : ∃ k : Nat, (k : Int) = 1 + n / 384 % 3 := ⟨(1 + n / 384 % 3).toNat, by omega⟩
  have hc3 : cnt ≤ 3 := by omega
  have hj1 := get_set (b := .lst [.int (c + 1)]) hj
  obtain ⟨ρ', M', e, P, ah, c', Xs, s6', s9', s10', s11', s12', s13', s14', s15', s16', rfl, rfl, hl, hI, hc, hc'⟩ := forGo_all (b := bName 6) (body := lp__law_program_1 (sem (K + 13)))
    (fun i ρ N => ∃ (P : Pr) (ah : List Ah) (c' : Int) (Xs : Store) (s6' s9' s10' s11' s12' s13' s14' s15' s16' : Slot), ρ = [.val cs, .val (.ref j), .val (.int most), .val (.int n), .val (.lst (ah.map Ah.toD)), .own (P.map rmD), s6', .val (.lst ((namesL n).map .str)), .val (.lst ((namesL (n / 7)).map .str)), s9', s10', s11', s12', s13', s14', s15', s16'] ∧ N = M.set j (.lst [.int c']) ++ Xs
      ∧ P.length = i ∧ ProgI n most ah P ∧ c + 1 ≤ c' ∧ c' ≤ c + 1 + 170000 * i)
    (rngL 0 cnt) (ρ := [.val cs, .val (.ref j), .val (.int most), .val (.int n), .val (.lst []), .own [], .un, .val (.lst ((namesL n).map .str)), .val (.lst ((namesL (n / 7)).map .str)), .un, .un, .un, .un, .un, .un, .un, .un]) (M := M.set j (.lst [.int (c + 1)]))
    ⟨[], [], c + 1, [], .un, .un, .un, .un, .un, .un, .un, .un, .un, rfl, by rw [List.append_nil], rfl, ⟨rfl, fun _ h => absurd h (by simp), True.intro, rfl, fun _ h => absurd h (by simp), fun _ h => absurd h (by simp), .inl rfl⟩, by omega, by omega⟩
    (fun i d ρ N hd ⟨P, ah, c', Xs, s6', s9', s10', s11', s12', s13', s14', s15', s16', e1, e2, hl, hI, hc, hc'⟩ => by
      subst e1 e2
      obtain ⟨hi, rfl⟩ := rngL_get hd
      have hj2 : (M.set j (.lst [.int c']) ++ Xs)[j]? = some (.lst [.int c']) := get_app (get_set hj)
      obtain ⟨v, hv0, hv⟩ := cell1 (K + 12) hcs hj2 (by omega) (by omega)
      have hM2 : (M.set j (.lst [.int c']) ++ Xs).set j (.lst [.int (c' + 1)]) = M.set j (.lst [.int (c' + 1)]) ++ Xs := by rw [set_app (by rw [List.length_set]; exact hjl), set_set]
      rw [hM2] at hv
      have hj3 : (M.set j (.lst [.int (c' + 1)]) ++ Xs)[j]? = some (.lst [.int (c' + 1)]) := get_app (get_set hj)
      obtain ⟨cn, hcn⟩ : ∃ k : Nat, (k : Int) = max (if i = 0 then 1 else 0) (v / 5 % (most + 1)) := ⟨(max (if i = 0 then 1 else 0) (v / 5 % ((most : Int) + 1))).toNat, by
        have : 0 ≤ v / 5 % ((most : Int) + 1) := Int.emod_nonneg _ (by omega)
        split <;> omega⟩
      have hv1 : 0 ≤ v / 5 % ((most : Int) + 1) := Int.emod_nonneg _ (by omega)
      have hv2 : v / 5 % ((most : Int) + 1) < most + 1 := Int.emod_lt_of_pos _ (by omega)
      have hcn4 : cn ≤ max 1 most := by split at hcn <;> omega
      have hfl : (flat P).length ≤ P.length * max 1 most := flat_len hI.each
      have hfl2 : P.length * max 1 most ≤ 3 * 4 := Nat.mul_le_mul (by omega) (by omega)
      have hR : RoomI n (nameAt (n / 7) (i : Int)) (flat P) ah [] := ⟨by rw [List.map_nil, List.append_nil]; exact hI.ahs, hI.ok, by rw [List.map_nil, List.append_nil]; exact hI.wf, by simp, fun _ h => absurd h (by simp)⟩
      obtain ⟨rs, ah', c2, X2, t10, t11, t12, t13, t14, t15, t16, re, hrl, hR', hc2, hc3⟩ := room_ok K hcs hj3 (by omega) (by omega) n (.val (.int most)) (.val (.int n)) (P.map rmD) (i : Int) (by omega) (by omega) (flat P) ah (by omega) hR cn (by omega) s10' s11' s12' s13' s14' s15' s16'
      have hM3 : (M.set j (.lst [.int (c' + 1)]) ++ Xs).set j (.lst [.int c2]) = M.set j (.lst [.int c2]) ++ Xs := by rw [set_app (by rw [List.length_set]; exact hjl), set_set]
      rw [hM3, List.append_assoc] at re
      have hB := namesL_at (n := n / 7) (i := (i : Int)) (by omega) (by omega)
      have hb : rng1D [.int (cn : Int)] = some (rngL 0 cn) := by rw [rng1_ok (by omega) (by omega), Int.toNat_natCast]
      have hPl : P.length < 16777216 := by omega
      refine ⟨_, rfl, [.val cs, .val (.ref j), .val (.int most), .val (.int n), .val (.lst (ah'.map Ah.toD)), .own ((P ++ [(nameAt (n / 7) i, rs)]).map rmD), .val (.int i), .val (.lst ((namesL n).map .str)), .val (.lst ((namesL (n / 7)).map .str)), .own (rs.map Row.toD), t10, t11, t12, t13, t14, t15, t16], M.set j (.lst [.int c2]) ++ (Xs ++ X2), ?_, P ++ [(nameAt (n / 7) i, rs)], ah', c2, Xs ++ X2, _, _, _, _, _, _, _, _, _, rfl, rfl, by rw [List.length_append, hl]; rfl, ?_, by omega, by push_cast; omega⟩
      · rw [lp__law_program_1_eq]
        rw [Int.zero_add]
        have hmx : max2D (M.set j (.lst [.int (c' + 1)]) ++ Xs) [.int (if i = 0 then 1 else 0), .int (v / 5 % ((most : Int) + 1))] = some (.val (.int cn)) := by
          rw [hcn]
          show some (Slot.val (D.int (if v / 5 % ((most : Int) + 1) > (if i = 0 then 1 else 0) then v / 5 % ((most : Int) + 1) else (if i = 0 then 1 else 0)))) = _
          rw [maxI]
        have hin : ∀ N, intD N [.bl (decide (i = 0))] = some (.val (.int (if i = 0 then 1 else 0))) := fun N => by
          show some (Slot.val (D.int (if (decide (i = 0)) = true then 1 else 0))) = _
          by_cases hz : i = 0
          · subst hz; rfl
          · simp [hz]
        have heq : decide ((i : Int) = 0) = decide (i = 0) := by
          by_cases hz : i = 0
          · subst hz; rfl
          · rw [decide_eq_false hz, decide_eq_false (by omega)]
        rw [List.map_append]
        exact turn_go _ cs _ _ _ j _ n _ v _ _ _ cn _ _ _ _ _ _ _ _ _ _ _ _ _ _ _ _ _ _ _ _ _ _ hv heq hin (by omega) hmx hb re hB (by rw [List.length_map]; exact hPl)
      · refine ⟨?_, hR'.ok, ?_, ?_, ?_, ?_, ?_⟩
        · rw [flat_append]; show Ahs ah' (flat P ++ (rs.map _ ++ [])); rw [List.append_nil]; exact hR'.ahs
        · rw [flat_append]; show RowsWf n [] (flat P ++ (rs.map _ ++ [])); rw [List.append_nil]; exact hR'.wf
        · rw [List.map_append, hI.mods, List.length_append, List.length_singleton, List.range_succ, List.map_append, hl]; rfl
        · intro q hq
          rcases List.mem_append.mp hq with hq | hq
          · exact hI.nd q hq
          · rw [List.mem_singleton] at hq; subst hq; exact hR'.nd
        · intro q hq
          rcases List.mem_append.mp hq with hq | hq
          · exact hI.each q hq
          · rw [List.mem_singleton] at hq; subst hq; show rs.length ≤ _; omega
        · rcases hI.one with hP | ⟨q, Q, hP, hq⟩
          · right
            subst hP
            refine ⟨_, [], rfl, ?_⟩
            show rs ≠ []
            intro hz
            rw [hz] at hrl
            have : i = 0 := by simpa using hl.symm
            rw [if_pos this] at hcn
            simp at hrl
            omega
          · right
            exact ⟨q, Q ++ [_], by rw [hP]; rfl, hq⟩)
  rw [rngL_len] at hl hc'
  have hb : rng1D [.int (1 + n / 384 % 3)] = some (rngL 0 cnt) := by rw [← hcnt, rng1_ok (by omega) (by omega), Int.toNat_natCast]
  refine ⟨n, P, c', Xs, ?_, ⟨hI.wf, ?_, fun q hq => ⟨hI.nd q hq, ?_⟩, by omega, hI.each, ?_⟩, by omega, by omega⟩
  · rw [e__law_program]
    have hn1 := names_ok (K + 12) n
    have hn2 := names_ok (K + 12) (n / 7)
    simp [-rng1D_int, runF, m__law_program, startD, hn, hn1, hn2, bTup, bNames, hb, e, tupleD, seqOf, lstOf, pgD]
  · rw [hI.mods]
    refine List.pairwise_map.mpr (List.Pairwise.imp_of_mem (fun {i j} hi hj hij h => ?_) List.pairwise_lt_range)
    rw [List.mem_range] at hi hj
    have := nameAt_inj (by omega) (by omega) (by omega) (by omega) h
    omega
  · have : q.1 ∈ P.map (·.1) := List.mem_map.mpr ⟨q, hq, rfl⟩
    rw [hI.mods] at this
    obtain ⟨i, hi, e⟩ := List.mem_map.mp this
    rw [List.mem_range] at hi
    rw [← e]
    exact nameAt_names (by omega) (by omega)
  · rcases hI.one with hP | h
    · subst hP; simp at hl; omega
    · exact h
end K04
namespace K04
open PySem L2 TP
set_option maxHeartbeats 4000000
theorem due_ok (k : Nat) (P : Pr) (M : Store) (hl : (flat P).length ≤ 1000) : sem (k + 1) f__law_due [pgD P] M = .ok (.own ((flat P).map fnD)) M := by
  have kr : ∀ (m : Str) (s0 s3 : Slot) (rs : List Row) (acc : List D) (s4 s5 s6 : Slot), acc.length + rs.length ≤ 1000 → ∃ s4' s5' s6', forGo (bTup [4, 5, 6]) (lp__law_due_0 (sem k)) (rs.map Row.toD) [s0, .own acc, .val (.str m), s3, s4, s5, s6] M = .next [s0, .own (acc ++ rs.map fun r => fnD (m, r)), .val (.str m), s3, s4', s5', s6'] M := by
    intro m s0 s3 rs
    induction rs with
    | nil => intro acc s4 s5 s6 _; exact ⟨s4, s5, s6, by simp [forGo]⟩
    | cons r rs ih =>
      intro acc s4 s5 s6 hl
      rw [List.length_cons] at hl
      obtain ⟨u4, u5, u6, h⟩ := ih (acc ++ [fnD (m, r)]) (.val (.str r.f)) (.val (.tup (r.ps.map .str))) (.val r.b.toD) (by simp; omega)
      refine ⟨u4, u5, u6, ?_⟩
      have hal : acc.length < 16777216 := by omega
      rw [List.map_cons]
      unfold forGo
      rw [fnD] at h
      simp [lp__law_due_0_eq, Row.toD, bTup, bNames, hal, h, fnD]
  have km : ∀ (Q : Pr) (s0 : Slot) (acc : List D) (s2 s3 s4 s5 s6 : Slot), acc.length + (flat Q).length ≤ 1000 → ∃ s2' s3' s4' s5' s6', forGo (bTup [2, 3]) (lp__law_due_1 (sem k)) (Q.map rmD) [s0, .own acc, s2, s3, s4, s5, s6] M = .next [s0, .own (acc ++ (flat Q).map fnD), s2', s3', s4', s5', s6'] M := by
    intro Q s0
    induction Q with
    | nil => intro acc s2 s3 s4 s5 s6 _; exact ⟨s2, s3, s4, s5, s6, by simp [forGo, flat]⟩
    | cons q Q ih =>
      intro acc s2 s3 s4 s5 s6 hl
      obtain ⟨m, rs⟩ := q
      rw [flat, List.length_append, List.length_map] at hl
      obtain ⟨u4, u5, u6, h1⟩ := kr m s0 (.val (.tup (rs.map Row.toD))) rs acc s4 s5 s6 (by omega)
      obtain ⟨v2, v3, v4, v5, v6, h2⟩ := ih (acc ++ rs.map fun r => fnD (m, r)) (.val (.str m)) (.val (.tup (rs.map Row.toD))) u4 u5 u6 (by simp; omega)
      refine ⟨v2, v3, v4, v5, v6, ?_⟩
      rw [List.map_cons]
      unfold forGo
      simp [lp__law_due_1_eq, rmD, bTup, bNames, itemsD, h1, h2, flat]
  obtain ⟨v2, v3, v4, v5, v6, h⟩ := km P (.val (pgD P)) [] .un .un .un .un .un (by simpa using hl)
  rw [e__law_due]
  have hi : itemsD (pgD P) = some (P.map rmD) := rfl
  simp [runF, m__law_due, startD, hi, h]
theorem eq_pair (M : Store) {a b c d : Str} (ha : okStr a = true) (hb : okStr b = true) (hc : okStr c = true) (hd : okStr d = true) : eqD M (.tup [.str a, .str b]) (.tup [.str c, .str d]) = some (.val (.bl (decide (a = c) && decide (b = d)))) := by
  have g : ∀ {x y : Str}, okStr x = true → okStr y = true → goodD (.tup [.str x, .str y]) = true := fun {x y} hx hy => by
    have h1 : goodD (.str x) = true := hx
    have h2 : goodD (.str y) = true := hy
    rw [goodD, goodL, goodL, goodL, h1, h2]; rfl
  rw [eqD_of M (g ha hb) (g hc hd) (by simp [dpD, dpL])]
  have : eqvD (.tup [.str a, .str b]) (.tup [.str c, .str d]) = (eqvD (.str a) (.str c) && (eqvD (.str b) (.str d) && true)) := rfl
  rw [this, eqvD_str, eqvD_str, Bool.and_true]
theorem changed_ok (k : Nat) (P : Pr) (m f : Str) (b : Ex) (M : Store) (hm : okStr m = true) (hf : okStr f = true) (hP : P.length ≤ 1000) (hl : ∀ q ∈ P, q.2.length ≤ 1000 ∧ okStr q.1 = true ∧ ∀ r ∈ q.2, okStr r.f = true) : sem (k + 1) f__law_changed [pgD P, .str m, .str f, b.toD] M = .ok (.val (pgD (withB P m f b))) M := by
  have kr : ∀ (n : Str) (hn : okStr n = true) (s0 s4 s6 : Slot) (rs : List Row) (acc : List D) (s8 s9 s10 : Slot), (∀ r ∈ rs, okStr r.f = true) → acc.length + rs.length ≤ 1000 → ∃ s8' s9' s10', forGo (bTup [8, 9, 10]) (lp__law_changed_0 (sem k)) (rs.map Row.toD) [s0, .val (.str m), .val (.str f), .val b.toD, s4, .val (.str n), s6, .own acc, s8, s9, s10] M
      = .next [s0, .val (.str m), .val (.str f), .val b.toD, s4, .val (.str n), s6, .own (acc ++ (if n = m then rs.map fun r => if r.f = f then (⟨r.f, r.ps, b⟩ : Row) else r else rs).map Row.toD), s8', s9', s10'] M := by
    intro n hn s0 s4 s6 rs
    induction rs with
    | nil => intro acc s8 s9 s10 _ _; exact ⟨s8, s9, s10, by simp [forGo]⟩
    | cons r rs ih =>
      intro acc s8 s9 s10 hr hl
      rw [List.length_cons] at hl
      have hal : acc.length < 16777216 := by omega
      have he := eq_pair M hn (hr r List.mem_cons_self) hm hf
      obtain ⟨u8, u9, u10, h⟩ := ih (acc ++ [Row.toD (if n = m then (if r.f = f then ⟨r.f, r.ps, b⟩ else r) else r)]) (.val (.str r.f)) (.val (.tup (r.ps.map .str))) (.val r.b.toD) (fun r' h' => hr r' (List.mem_cons_of_mem _ h')) (by simp; omega)
      refine ⟨u8, u9, u10, ?_⟩
      rw [List.map_cons]
      unfold forGo
      by_cases h1 : n = m
      · by_cases h2 : r.f = f
        · simp [h1, h2] at h he
          simp [lp__law_changed_0_eq, Row.toD, bTup, bNames, he, hal, h1, h2]
          simp [Row.toD, h2] at h
          exact h
        · simp [h1, h2] at h he
          simp [lp__law_changed_0_eq, Row.toD, bTup, bNames, he, hal, h1, h2]
          simp [Row.toD] at h
          exact h
      · simp [h1] at h he
        simp [lp__law_changed_0_eq, Row.toD, bTup, bNames, he, hal, h1]
        simp [Row.toD] at h
        exact h
  have km : ∀ (Q : Pr) (s0 : Slot) (acc : List D) (s5 s6 s7 s8 s9 s10 : Slot), (∀ q ∈ Q, q.2.length ≤ 1000 ∧ okStr q.1 = true ∧ ∀ r ∈ q.2, okStr r.f = true) → acc.length + Q.length ≤ 1000 → ∃ s5' s6' s7' s8' s9' s10', forGo (bTup [5, 6]) (lp__law_changed_1 (sem k)) (Q.map rmD) [s0, .val (.str m), .val (.str f), .val b.toD, .own acc, s5, s6, s7, s8, s9, s10] M
      = .next [s0, .val (.str m), .val (.str f), .val b.toD, .own (acc ++ (withB Q m f b).map rmD), s5', s6', s7', s8', s9', s10'] M := by
    intro Q s0
    induction Q with
    | nil => intro acc s5 s6 s7 s8 s9 s10 _ _; exact ⟨s5, s6, s7, s8, s9, s10, by simp [forGo, withB]⟩
    | cons q Q ih =>
      intro acc s5 s6 s7 s8 s9 s10 hq hl
      obtain ⟨n, rs⟩ := q
      rw [List.length_cons] at hl
      have hal : acc.length < 16777216 := by omega
      obtain ⟨q1, q2, q3⟩ := hq (n, rs) List.mem_cons_self
      obtain ⟨u8, u9, u10, h1⟩ := kr n q2 s0 (.own acc) (.val (.tup (rs.map Row.toD))) rs [] s8 s9 s10 q3 (by simpa using q1)
      obtain ⟨v5, v6, v7, v8, v9, v10, h2⟩ := ih (acc ++ [rmD (n, if n = m then rs.map fun r => if r.f = f then (⟨r.f, r.ps, b⟩ : Row) else r else rs)]) (.val (.str n)) (.val (.tup (rs.map Row.toD))) (.own ([] ++ (if n = m then rs.map fun r => if r.f = f then (⟨r.f, r.ps, b⟩ : Row) else r else rs).map Row.toD)) u8 u9 u10 (fun q' h' => hq q' (List.mem_cons_of_mem _ h')) (by simp; omega)
      refine ⟨v5, v6, v7, v8, v9, v10, ?_⟩
      rw [List.map_cons]
      unfold forGo
      have hw : withB ((n, rs) :: Q) m f b = (n, if n = m then rs.map fun r => if r.f = f then (⟨r.f, r.ps, b⟩ : Row) else r else rs) :: withB Q m f b := by
        by_cases h : n = m <;> simp [withB, h]
      rw [hw]
      generalize (if n = m then rs.map fun r => if r.f = f then (⟨r.f, r.ps, b⟩ : Row) else r else rs) = rs' at *
      simp only [List.nil_append] at h1 h2
      rw [rmD] at h2
      simp [lp__law_changed_1_eq, rmD, bTup, bNames, itemsD, h1, hal, tupleD, seqOf, lstOf, h2]
  obtain ⟨v5, v6, v7, v8, v9, v10, h⟩ := km P (.val (pgD P)) [] .un .un .un .un .un .un hl (by simpa using hP)
  rw [e__law_changed]
  have hi : itemsD (pgD P) = some (P.map rmD) := rfl
  simp [runF, m__law_changed, startD, hi, h, tupleD, seqOf, lstOf]
  rfl
end K04
namespace K04
open PySem L2 TP
set_option maxHeartbeats 4000000
/-- what is known of a drawn program -/
structure PrK (P : Pr) : Prop where
  fl : (flat P).length ≤ 12
  len : P.length ≤ 3
  each : ∀ q ∈ P, q.2.length ≤ 4
  fit : ∀ x ∈ flat P, RowFit x
  nm : ∀ x ∈ flat P, nmB 12 x.1 = true ∧ nmB 12 x.2.f = true ∧ (∀ y ∈ x.2.ps, nmB 12 y = true) ∧ x.2.ps.length ≤ 5
  mod : ∀ q ∈ P, nmB 12 q.1 = true
  ne : flat P ≠ []
theorem prK {n : Int} {P : Pr} (h : PrWf n 4 P) : PrK P := by
  have hfl := flat_len h.each
  have h2 : P.length * max 1 4 ≤ 3 * 4 := Nat.mul_le_mul h.len (by decide)
  refine ⟨by omega, h.len, h.each, h.rows.fit, fun x hx => ?_, fun q hq => namesL_nm (h.names q hq).2, ?_⟩
  · have hr := h.rows.mem hx
    have hn := h.rows.names x hx
    exact ⟨namesL_nm hn.1, namesL_nm hn.2, fun y hy => namesL_nm (hr.ps y hy), by have := hr.len; omega⟩
  · obtain ⟨q, Q, rfl, hq⟩ := h.one
    obtain ⟨m, rs⟩ := q
    rw [flat]
    intro hz
    rw [List.append_eq_nil_iff, List.map_eq_nil_iff] at hz
    exact hq hz.1
theorem nm_ok {x : Str} (h : nmB 12 x = true) : okStr x = true := by
  unfold nmB at h
  rw [Bool.and_eq_true] at h
  exact h.1
theorem rep_eq {n k : Nat} {d : D} (h : Fit n k d) (hn : n ≤ 16777216) (hk : k ≤ 190) : ∃ s, (∀ M, reprD M [d] = some (.val (.str s))) := ⟨_, fun M => h.repr hn hk M⟩
theorem fns_fit {P : Pr} (h : PrK P) : Fit 7467867 14 (.lst ((flat P).map fnD)) := by
  have h1 : FitL 7467864 13 ((flat P).map fnD) := FitL.upto (n := 622320) (c := 12) (fun d hd => by
    obtain ⟨x, hx, rfl⟩ := List.mem_map.mp hd
    exact (h.fit x hx).fn) (by rw [List.length_map]; exact h.fl) (by decide)
  exact h1.lst
/-- told twice, the list changed -/
theorem turn0 (K : Nat) {P : Pr} (h : PrK P) (s0 s1 s2 s3 s6 s7 s8 s9 s10 s11 s12 s13 s14 s15 s16 : Slot) (M : Store) :
    lp_law_0 (sem (K + 1)) [s0, s1, s2, s3, .val (pgD P), .val (.lst ((flat P).map fnD)), s6, s7, s8, s9, s10, s11, s12, s13, s14, s15, s16] M
      = .next [s0, s1, s2, s3, .val (pgD P), .val (.lst ((flat P).map fnD)), s6, s7, s8, s9, .own ((flat P).map fnD ++ [.non]), s11, s12, s13, s14, s15, s16] M := by
  obtain ⟨s, hs⟩ := rep_eq (fns_fit h) (by decide) (by decide)
  have hf := functions_ok K P M (by have := h.fl; omega)
  have hl : (flat P).length < 16777216 := by have := h.fl; omega
  rw [lp_law_0_eq]
  have hl2 : ((flat P).map fnD).length < 16777216 := by rw [List.length_map]; exact hl
  generalize (flat P).map fnD = L at *
  simp [hf, isiD, clsD, subTy, hs, neS, hl2]
def fndD (P : Pr) (m f : Str) : D := match (flat P).find? (isF m f) with
  | some x => pbD x
  | none => .non
theorem fnd_fit {P : Pr} (h : PrK P) (m f : Str) : Fit 622300 14 (fndD P m f) := by
  unfold fndD
  split
  · rename_i x hx
    have hm := List.mem_of_find?_eq_some hx
    have hps : Fit 73 12 (.tup (x.2.ps.map D.str)) := ((strs_fit (k := 0) (h.nm x hm).2.2.1).tup).mono (by have := (h.nm x hm).2.2.2; omega) (by omega)
    exact (FitL.cons hps (.cons (h.fit x hm).body .nil)).tup.mono (by omega) (by omega)
  · exact Fit.non.mono (by decide) (Nat.le_refl _)
/-- one function told, or none -/
theorem turn1 (K : Nat) {P : Pr} (h : PrK P) {m f : Str} (hm : okStr m = true) (hf : okStr f = true) (s0 s1 s2 s3 s6 s7 s9 s10 s12 s13 s14 s15 s16 : Slot) (M : Store) :
    ∃ s14', lp_law_1 (sem (K + 2)) [s0, s1, s2, s3, .val (pgD P), .val (.lst ((flat P).map fnD)), s6, s7, .val (.str m), s9, s10, .val (.str f), s12, s13, s14, s15, s16] M
      = .next [s0, s1, s2, s3, .val (pgD P), .val (.lst ((flat P).map fnD)), s6, s7, .val (.str m), s9, s10, .val (.str f), s12, s13, s14', s15, s16] M := by
  obtain ⟨s, hs⟩ := rep_eq (fnd_fit h m f) (by decide) (by decide)
  have hl := h.fl
  have h1 := function_ok K P m f M (by omega)
  have h2 : lcGo (bName 16) (cd_law_0 (sem (K + 2))) (el_law_2 (sem (K + 2))) [s0, s1, s2, s3, .val (pgD P), .val (.lst ((flat P).map fnD)), s6, s7, .val (.str m), s9, s10, .val (.str f), s12, s13, s14, s15, .un] ((flat P).map fnD) [] M = .ok (((flat P).filter (isF m f)).map pbD) M := by
    have := lcGo_fmap (b := bName 16) (c := cd_law_0 (sem (K + 2))) (f := el_law_2 (sem (K + 2))) (ρ0 := [s0, s1, s2, s3, .val (pgD P), .val (.lst ((flat P).map fnD)), s6, s7, .val (.str m), s9, s10, .val (.str f), s12, s13, s14, s15, .un]) (M := M) fnD (isF m f) pbD (flat P) []
      (fun x hx => by
        refine ⟨_, rfl, ?_, fun _ => ?_⟩
        · have he := eq_pair M (nm_ok (h.nm x hx).1) (nm_ok (h.nm x hx).2.1) hm hf
          simp [cd_law_0_eq, fnD, sl02, he, isF]
        · simp [el_law_2_eq, fnD, sl2, pbD]) (by rw [szL, List.length_nil]; omega)
    simpa using this
  have h3 : atI (((flat P).filter (isF m f)).map pbD ++ [.non]) 0 = some (fndD P m f) := by
    unfold fndD
    rw [← List.head?_filter]
    cases (flat P).filter (isF m f) with
    | nil => exact atI_nat (j := 0) rfl
    | cons x xs => exact atI_nat (j := 0) rfl
  have hl2 : (((flat P).filter (isF m f)).map pbD).length + 1 ≤ 16777216 := by
    rw [List.length_map]
    have := List.length_filter_le (isF m f) (flat P)
    omega
  have h4 : sem (K + 2) f_function [pgD P, .str m, .str f] M = .ok (.val (fndD P m f)) M := h1
  generalize ((flat P).filter (isF m f)).map pbD = L2 at *
  generalize fndD P m f = F2 at *
  have hl3 : L2.length < 16777216 := by omega
  refine ⟨.val (.lst (L2 ++ [.non])), ?_⟩
  rw [lp_law_1_eq]
  simp [itemsD, wipeD, h2, addD, lstOf, hl2, hl3, h4, h3, hs, neS]
theorem turn3 (K : Nat) {P : Pr} (h : PrK P) {m f : Str} (hm : okStr m = true) (hf : okStr f = true) (b : Ex) (hb : Fit 622200 14 b.toD) (s0 s1 s2 s3 s5 s6 s7 s10 s12 s13 s14 s15 s16 : Slot) (M : Store) :
    lp_law_3 (sem (K + 1)) [s0, s1, s2, s3, .val (pgD P), s5, s6, s7, .val (.str m), .val b.toD, s10, .val (.str f), s12, s13, s14, s15, s16] M
      = .next [s0, s1, s2, s3, .val (pgD P), s5, s6, s7, .val (.str m), .val b.toD, s10, .val (.str f), s12, s13, s14, s15, s16] M := by
  have hP := h.len
  have h1 := with_body_ok K P m f b M (by omega) (fun q hq => by have := h.each q hq; omega)
  have h2 := changed_ok K P m f b M hm hf (by omega) (fun q hq => ⟨by have := h.each q hq; omega, nm_ok (h.mod q hq), fun r hr => nm_ok (h.nm _ (mem_flat hq hr)).2.1⟩)
  have hw : ∀ q ∈ withB P m f b, nmB 12 q.1 = true ∧ q.2.length ≤ 4 ∧ ∀ r ∈ q.2, Fit 622400 15 r.toD := fun q hq => by
    unfold withB at hq
    obtain ⟨q0, hq0, e⟩ := List.mem_map.mp hq
    have hold : ∀ r ∈ q0.2, Fit 622400 15 r.toD := fun r hr => (h.fit (q0.1, r) (mem_flat hq0 hr)).row.mono (by decide) (by decide)
    split at e
    · subst e
      refine ⟨h.mod q0 hq0, by rw [List.length_map]; exact h.each q0 hq0, fun r hr => ?_⟩
      obtain ⟨r0, hr0, e⟩ := List.mem_map.mp hr
      split at e
      · subst e
        have hn := h.nm (q0.1, r0) (mem_flat hq0 hr0)
        have hps : Fit 73 14 (.tup (r0.ps.map D.str)) := ((strs_fit (k := 0) hn.2.2.1).tup).mono (by have := hn.2.2.2; omega) (by omega)
        exact (FitL.cons (.str hn.2.1) (.cons hps (.cons hb .nil))).tup.mono (by omega) (by omega)
      · subst e
        exact hold r0 hr0
    · subst e
      exact ⟨h.mod q0 hq0, h.each q0 hq0, hold⟩
  have hwl : (withB P m f b).length = P.length := by unfold withB; rw [List.length_map]
  have hfl : (flat (withB P m f b)).length ≤ 12 := by
    have h1 := flat_len (k := 4) fun q hq => (hw q hq).2.1
    have h2 : (withB P m f b).length * 4 ≤ 3 * 4 := Nat.mul_le_mul_right _ (by omega)
    omega
  obtain ⟨s, hs⟩ := rep_eq (pg_fit hfl (by omega) fun q hq => ⟨(hw q hq).1, (hw q hq).2.2⟩) (by decide) (by decide)
  rw [lp_law_3_eq]
  simp [h1, h2, hs, neS]
end K04
namespace K04
open PySem L2 TP
set_option maxHeartbeats 4000000
theorem zzz_ok : okStr "zzz" = true := by decide +kernel
/-- all functions by names -/
theorem turn2 (K : Nat) {P : Pr} (h : PrK P) {m : Str} (hm : okStr m = true) (s0 s1 s2 s3 s6 s7 s9 s10 s11 s12 s13 s14 s15 s16 : Slot) (M : Store) :
    ∃ s11' s14', lp_law_2 (sem (K + 2)) [s0, s1, s2, s3, .val (pgD P), .val (.lst ((flat P).map fnD)), s6, s7, .val (.str m), s9, s10, s11, s12, s13, s14, s15, s16] M
      = .next [s0, s1, s2, s3, .val (pgD P), .val (.lst ((flat P).map fnD)), s6, s7, .val (.str m), s9, s10, s11', s12, s13, s14', s15, s16] M := by
  have hl := h.fl
  have h1 : lcGo (bName 16) dYes (el_law_1 (sem (K + 2))) [s0, s1, s2, s3, .val (pgD P), .val (.lst ((flat P).map fnD)), s6, s7, .val (.str m), s9, s10, s11, s12, s13, s14, s15, .un] ((flat P).map fnD) [] M = .ok ((flat P).map fun x => .str x.2.f) M :=
    lcGo_mp fnD (fun x => .str x.2.f) (flat P) (fun x hx => ⟨_, rfl, by simp [el_law_1_eq, fnD]⟩) (by omega)
  have key : ∀ (fs : List Str) (s11 s14 : Slot), (∀ f ∈ fs, okStr f = true) → ∃ s11' s14', forGo (bName 11) (lp_law_1 (sem (K + 2))) (fs.map D.str) [s0, s1, s2, s3, .val (pgD P), .val (.lst ((flat P).map fnD)), s6, s7, .val (.str m), s9, s10, s11, s12, s13, s14, s15, s16] M
      = .next [s0, s1, s2, s3, .val (pgD P), .val (.lst ((flat P).map fnD)), s6, s7, .val (.str m), s9, s10, s11', s12, s13, s14', s15, s16] M := by
    intro fs
    induction fs with
    | nil => intro s11 s14 _; exact ⟨s11, s14, by simp [forGo]⟩
    | cons f fs ih =>
      intro s11 s14 hf
      obtain ⟨t14, h2⟩ := turn1 K h hm (hf f List.mem_cons_self) s0 s1 s2 s3 s6 s7 s9 s10 s12 s13 s14 s15 s16 M
      obtain ⟨u11, u14, h3⟩ := ih (.val (.str f)) t14 (fun f' h' => hf f' (List.mem_cons_of_mem _ h'))
      refine ⟨u11, u14, ?_⟩
      rw [List.map_cons]
      unfold forGo
      generalize (flat P).map fnD = L at *
      simp [h2, h3]
  obtain ⟨u11, u14, h2⟩ := key ((flat P).map (fun x => x.2.f) ++ [("zzz" : Str)]) s11 s14 (fun f hf => by
    rcases List.mem_append.mp hf with hf | hf
    · obtain ⟨x, hx, rfl⟩ := List.mem_map.mp hf
      exact nm_ok (h.nm x hx).2.1
    · rw [List.mem_singleton] at hf; subst hf; exact zzz_ok)
  refine ⟨u11, u14, ?_⟩
  rw [List.map_append, List.map_map] at h2
  have hc : (flat P).map (D.str ∘ fun x => x.2.f) = (flat P).map fun x => .str x.2.f := rfl
  rw [hc] at h2
  have hl2 : ((flat P).map fun x => D.str x.2.f).length + 1 ≤ 16777216 := by rw [List.length_map]; omega
  have hl3 : ((flat P).map fun x => D.str x.2.f).length < 16777216 := by omega
  rw [lp_law_2_eq]
  generalize ((flat P).map fun x => D.str x.2.f) = L2 at *
  generalize (flat P).map fnD = L at *
  simp only [List.map_cons, List.map_nil] at h2
  simp [itemsD, wipeD, h1, addD, lstOf, hl2, hl3, h2]
/-- one program -/
theorem turn4 {cs : D} (hcs : CellsD cs) (c : Int) (X : Store) (h0 : -1 ≤ c) (h1 : c < 10000000) (s0 s4 s5 s6 s7 s8 s9 s10 s11 s12 s13 s14 s15 s16 : Slot) (tI : Int) (ht : tI.natAbs < 10 ^ 31) :
    ∃ (c' : Int) (X' : Store) (t4 t5 t6 t7 t8 t9 t10 t11 t12 t13 t14 t15 t16 : Slot), lp_law_4 (sem 59) [s0, .val (.int tI), .val cs, .val (.ref 0), s4, s5, s6, s7, s8, s9, s10, s11, s12, s13, s14, s15, s16] (.lst [.int c] :: X)
      = .next [s0, .val (.int tI), .val cs, .val (.ref 0), t4, t5, t6, t7, t8, t9, t10, t11, t12, t13, t14, t15, t16] (.lst [.int c'] :: X') ∧ c ≤ c' ∧ c' ≤ c + 600001 := by
  obtain ⟨n, P, c1, X1, hp, hw, hc1, hc2⟩ := program_ok 45 4 (by decide) hcs (j := 0) (c := c) (M := .lst [.int c] :: X) rfl (by omega) (by omega)
  have hset : (MO.lst [D.int c] :: X).set 0 (.lst [.int c1]) ++ X1 = .lst [.int c1] :: (X ++ X1) := rfl
  rw [hset] at hp
  have hK := prK hw
  have hl := hK.fl
  have hdue := due_ok 58 P (.lst [.int c1] :: (X ++ X1)) (by omega)
  -- told twice
  obtain ⟨ρ', M', e1, ⟨u6, u10, e2⟩, e3⟩ := forGo_all (b := bName 6) (body := lp_law_0 (sem 59)) (fun _ ρ N => (∃ u6 u10, ρ = [s0, .val (.int tI), .val cs, .val (.ref 0), .val (pgD P), .val (.lst ((flat P).map fnD)), u6, s7, s8, s9, u10, s11, s12, s13, s14, s15, s16]) ∧ N = .lst [.int c1] :: (X ++ X1)) (rngL 0 2)
    (ρ := [s0, .val (.int tI), .val cs, .val (.ref 0), .val (pgD P), .val (.lst ((flat P).map fnD)), s6, s7, s8, s9, s10, s11, s12, s13, s14, s15, s16]) (M := .lst [.int c1] :: (X ++ X1)) ⟨⟨s6, s10, rfl⟩, rfl⟩
    (fun i d ρ N hd ⟨⟨u6, u10, e⟩, eN⟩ => by
      subst e eN
      exact ⟨_, rfl, _, _, turn0 58 hK s0 _ _ _ _ s7 s8 s9 u10 s11 s12 s13 s14 s15 s16 _, ⟨_, _, rfl⟩, rfl⟩)
  subst e2 e3
  -- the names
  have hnames : lcGo (bTup [8, 15]) dYes (el_law_0 (sem 59)) [s0, .val (.int tI), .val cs, .val (.ref 0), .val (pgD P), .val (.lst ((flat P).map fnD)), u6, s7, .un, s9, u10, s11, s12, s13, s14, .un, s16] (P.map rmD) [] (.lst [.int c1] :: (X ++ X1)) = .ok (P.map fun q => .str q.1) (.lst [.int c1] :: (X ++ X1)) :=
    lcGo_mp rmD (fun q => .str q.1) P (fun q hq => ⟨[s0, .val (.int tI), .val cs, .val (.ref 0), .val (pgD P), .val (.lst ((flat P).map fnD)), u6, s7, .val (.str q.1), s9, u10, s11, s12, s13, s14, .val (.tup (q.2.map Row.toD)), s16], by simp [rmD, bTup, bNames], by simp [el_law_0_eq]⟩) (by have := hK.len; omega)
  have key : ∀ (ms : List Str) (u8 u11 u14 : Slot), (∀ m ∈ ms, okStr m = true) → ∃ u8' u11' u14', forGo (bName 8) (lp_law_2 (sem 59)) (ms.map D.str) [s0, .val (.int tI), .val cs, .val (.ref 0), .val (pgD P), .val (.lst ((flat P).map fnD)), u6, .val (.lst ((P.map fun q => D.str q.1) ++ [.str "zzz"])), u8, s9, u10, u11, s12, s13, u14, s15, s16] (.lst [.int c1] :: (X ++ X1))
      = .next [s0, .val (.int tI), .val cs, .val (.ref 0), .val (pgD P), .val (.lst ((flat P).map fnD)), u6, .val (.lst ((P.map fun q => D.str q.1) ++ [.str "zzz"])), u8', s9, u10, u11', s12, s13, u14', s15, s16] (.lst [.int c1] :: (X ++ X1)) := by
    intro ms
    induction ms with
    | nil => intro u8 u11 u14 _; exact ⟨u8, u11, u14, by simp [forGo]⟩
    | cons m ms ih =>
      intro u8 u11 u14 hm
      obtain ⟨v11, v14, h2⟩ := turn2 57 hK (hm m List.mem_cons_self) s0 (.val (.int tI)) (.val cs) (.val (.ref 0)) u6 (.val (.lst ((P.map fun q => D.str q.1) ++ [.str "zzz"]))) s9 u10 u11 s12 s13 u14 s15 s16 (.lst [.int c1] :: (X ++ X1))
      obtain ⟨w8, w11, w14, h3⟩ := ih (.val (.str m)) v11 v14 (fun m' h' => hm m' (List.mem_cons_of_mem _ h'))
      refine ⟨w8, w11, w14, ?_⟩
      rw [List.map_cons]
      unfold forGo
      generalize (flat P).map fnD = L at *
      generalize ((P.map fun q => D.str q.1) ++ [.str "zzz"]) = L3 at *
      simp [h2, h3]
  obtain ⟨w8, w11, w14, hloop⟩ := key ((P.map fun q => q.1) ++ [("zzz" : Str)]) s8 s11 s14 (fun m hm => by
    rcases List.mem_append.mp hm with hm | hm
    · obtain ⟨q, hq, rfl⟩ := List.mem_map.mp hm
      exact nm_ok (hK.mod q hq)
    · rw [List.mem_singleton] at hm; subst hm; exact zzz_ok)
  rw [List.map_append, List.map_map] at hloop
  have hc : P.map (D.str ∘ fun q => q.1) = P.map fun q => .str q.1 := rfl
  rw [hc] at hloop
  simp only [List.map_cons, List.map_nil] at hloop
  -- one of them
  obtain ⟨v, hv0, hv⟩ := cell1 58 hcs (j := 0) (k := c1) (M := .lst [.int c1] :: (X ++ X1)) rfl (by omega) (by omega)
  have hv' : sem 59 f__law_cell [cs, .ref 0] (.lst [.int c1] :: (X ++ X1)) = .ok (.val (.int v)) (.lst [.int (c1 + 1)] :: (X ++ X1)) := hv
  have hpos : (0 : Int) < ((flat P).length : Int) := by
    have : (flat P).length ≠ 0 := fun z => hK.ne (List.length_eq_zero_iff.mp z)
    omega
  obtain ⟨x, hx, hxa⟩ := atI_mem (xs := flat P) (i := v % ((flat P).length : Int)) (Int.emod_nonneg _ (by omega)) (Int.emod_lt_of_pos _ hpos)
  have hxa2 := atI_map fnD (flat P) (v % ((flat P).length : Int))
  rw [hxa] at hxa2
  have hxm := hK.nm x hx
  have hxb := (hK.fit x hx).body
  have om := nm_ok hxm.1
  have of := nm_ok hxm.2.1
  have b1 : Fit 622200 14 (Ex.num tI).toD := by
    rw [Ex.toD]
    exact ((FitL.cons (k := 0) (.str Ex.wNum) (.cons (.int (by decide) (by decide) ht) .nil)).tup).mono (by decide) (by decide)
  have b2 : Fit 622200 14 x.2.b.toD := hxb.mono (by decide) (by decide)
  have b3 : Fit 622200 14 (Ex.stop x.2.b).toD := by
    rw [Ex.toD]
    exact (FitL.cons (.str Ex.wStop) (.cons hxb .nil)).tup.mono (by decide) (by decide)
  have t3 := fun (b : Ex) (hb : Fit 622200 14 b.toD) => turn3 58 hK om of b hb s0 (.val (.int tI)) (.val cs) (.val (.ref 0)) (.val (.lst ((flat P).map fnD))) u6 (.val (.lst ((P.map fun q => D.str q.1) ++ [.str "zzz"]))) u10 (.val (.tup (x.2.ps.map .str))) (.val x.2.b.toD) w14 s15 s16 (.lst [.int (c1 + 1)] :: (X ++ X1))
  have t31 := t3 _ b1
  have t32 := t3 _ b2
  have t33 := t3 _ b3
  have en : (Ex.num tI).toD = .tup [.str "num", .int tI] := by rw [Ex.toD]
  have es : (Ex.stop x.2.b).toD = .tup [.str "stop", x.2.b.toD] := by rw [Ex.toD]
  rw [en] at t31
  rw [es] at t33
  have hlen : ∀ N, lenD N [.lst ((flat P).map fnD)] = some (.val (.int ((flat P).length : Int))) := fun N => by rw [lenD_lst, List.length_map]
  have hl2 : (P.map fun q => D.str q.1).length + 1 ≤ 16777216 := by rw [List.length_map]; have := hK.len; omega
  have hl3 : (P.map fun q => D.str q.1).length < 16777216 := by omega
  refine ⟨c1 + 1, X ++ X1, .val (pgD P), .val (.lst ((flat P).map fnD)), u6, .val (.lst ((P.map fun q => D.str q.1) ++ [.str "zzz"])), .val (.str x.1), .val (.tup [.str "stop", x.2.b.toD]), u10, .val (.str x.2.f), .val (.tup (x.2.ps.map .str)), .val x.2.b.toD, w14, s15, s16, ?_, by omega, by omega⟩
  rw [lp_law_4_eq]
  have h44 : (D.int (4 : Int)) = D.int ((4 : Nat) : Int) := rfl
  have hi : itemsD (pgD P) = some (P.map rmD) := rfl
  have hb2 : rng1D [.int 2] = some (rngL 0 2) := rfl
  rw [Option.map_some, fnD] at hxa2
  generalize ((flat P).length : Int) = LI at *
  generalize (flat P).map fnD = L at *
  generalize (P.map fun q => D.str q.1) = L3 at *
  simp only [sSeq_eq, sSet_eq, dFE_eq, dEF_eq, dCall_eq, dCons_eq, dNil_eq, dVar_eq, dC_eq]
  simp
  rw [h44, hp]
  simp [-rng1D_int, -lenD_lst, hdue, hb2, e1, hi, wipeD, hnames, addD, lstOf, hl2, hl3, itemsD_lst, itemsD_tup, hloop, hv', hlen, hpos, hxa2, bTup, bNames]
  simp [forGo, t31, t32, t33]
theorem law_true (ns : List Int) (hns : ns.length ≤ 63) : ∃ M, sem 60 f_law [.fro (ns.map D.int)] [] = .ok (.val (.bl true)) M := by
  have hcs : CellsD (.lst (ns.map D.int)) := ⟨ns, hns, .inr rfl⟩
  obtain ⟨cnt, hcnt, hc4⟩ : ∃ k : Nat, (k : Int) = 1 + (if (ns.length : Int) < 11 then (ns.length : Int) else 11) ∧ k ≤ 12 := ⟨1 + min 11 ns.length, by split <;> omega, by omega⟩
  have key := forGo_all (b := bName 1) (body := lp_law_4 (sem 59)) (fun i ρ N => ∃ (c : Int) (X : Store) (s1 s4 s5 s6 s7 s8 s9 s10 s11 s12 s13 s14 s15 s16 : Slot), ρ = [.val (.fro (ns.map D.int)), s1, .val (.lst (ns.map D.int)), .val (.ref 0), s4, s5, s6, s7, s8, s9, s10, s11, s12, s13, s14, s15, s16] ∧ N = .lst [.int c] :: X ∧ -1 ≤ c ∧ c ≤ 600001 * i) (rngL 0 cnt)
    (ρ := [.val (.fro (ns.map D.int)), .un, .val (.lst (ns.map D.int)), .val (.ref 0), .un, .un, .un, .un, .un, .un, .un, .un, .un, .un, .un, .un, .un]) (M := [.lst [.int (-1)]]) ⟨-1, [], .un, .un, .un, .un, .un, .un, .un, .un, .un, .un, .un, .un, .un, .un, rfl, rfl, by omega, by omega⟩
    (fun i d ρ N hd ⟨c, X, s1, s4, s5, s6, s7, s8, s9, s10, s11, s12, s13, s14, s15, s16, e1, e2, h0, h1⟩ => by
      subst e1 e2
      obtain ⟨hi, rfl⟩ := rngL_get hd
      obtain ⟨c', X', t4, t5, t6, t7, t8, t9, t10, t11, t12, t13, t14, t15, t16, h, hc1, hc2⟩ := turn4 hcs c X h0 (by omega) (.val (.fro (ns.map D.int))) s4 s5 s6 s7 s8 s9 s10 s11 s12 s13 s14 s15 s16 (0 + (i : Int)) (by omega)
      exact ⟨_, rfl, _, _, h, c', X', _, _, _, _, _, _, _, _, _, _, _, _, _, _, rfl, rfl, by omega, by push_cast; omega⟩)
  obtain ⟨ρ', M', e, c, X, s1, s4, s5, s6, s7, s8, s9, s10, s11, s12, s13, s14, s15, s16, e1, e2, _⟩ := key
  subst e1 e2
  refine ⟨.lst [.int c] :: X, ?_⟩
  rw [e_law]
  have hb : rng1D [.int (1 + (if (ns.length : Int) < 11 then (ns.length : Int) else 11))] = some (rngL 0 cnt) := by
    rw [← hcnt, rng1_ok (by omega) (by omega), Int.toNat_natCast]
  have hmin : min2D [.lst [.int (-1)]] [.int 11, .int (ns.length : Int)] = some (.val (.int (if (ns.length : Int) < 11 then (ns.length : Int) else 11))) := rfl
  generalize (if (ns.length : Int) < 11 then (ns.length : Int) else 11) = mn at *
  have hlen : ∀ N, lenD N [.fro (ns.map D.int)] = some (.val (.int (ns.length : Int))) := fun N => by
    show some (Slot.val (D.int (List.map D.int ns).length)) = _; rw [List.length_map]
  have hlist : ∀ N, listD N [.fro (ns.map D.int)] = some (.own (ns.map D.int)) := fun N => rfl
  generalize (ns.length : Int) = nl at *
  have hf := functions_ok 58 [] (.lst [.int c] :: X) (by decide)
  have hg := function_ok 57 [] "a" "a" (.lst [.int c] :: X) (by decide)
  have hp : pgD [] = .tup [] := rfl
  rw [hp] at hf hg
  have he : ∀ N, eqD N (.lst []) (.lst []) = some (.val (.bl true)) := fun N => rfl
  have hn : ∀ N, isD N .non .non = some (.val (.bl true)) := fun N => rfl
  have hf' : sem 59 f_functions [.tup []] (.lst [.int c] :: X) = .ok (.own []) (.lst [.int c] :: X) := hf
  have hg' : sem 59 f_function [.tup [], .str "a", .str "a"] (.lst [.int c] :: X) = .ok (.val .non) (.lst [.int c] :: X) := hg
  simp [-rng1D_int, -lenD_fro, runF, m_law, startD, hlist, hlen, hmin, hb, e, hf', hg', he, hn]
end K04
open PySem PySem.W PyProof.Rows
set_option maxRecDepth 100000 in
set_option maxHeartbeats 0 in
theorem PySem.Challenge.cw_turnpaper_k04_functions_told_holds : PySem.Challenge.rw_turnpaper_k04_functions_told.Holds := by
  w_on; o_law; k_head; (case hw => w_witness2)
  k_fill
  refine TP.g_walk (l := PySem.Challenge.rw_turnpaper_k04_functions_told) (n := 63) (k := 60) (x := "_law_script") (CX := fun _ => L2.CX0) (sp := fun w => TP.spD _ TP.W0 1 (K04.sem 60 K04.f_law)) rfl (by decide) rfl ⟨rfl, by decide, by decide⟩ (fun w h Y => PySem.W.kIn_of Y) ?F (fun _ H a ns hl hO hS => TP.law_sp hS (K04.law_true ns hl)) (fun _ _ _ _ _ h => h)
  case F =>
    intro w mg fa h KX G hmg
    refine' K04.law_fin KX G hmg ?a0 ?l0 ?c0 ?k0 ?a1 ?l1 ?c1 ?k1 ?a2 ?l2 ?c2 ?k2 ?a3 ?l3 ?c3 ?k3 ?a4 ?l4 ?c4 ?k4 ?a5 ?l5 ?c5 ?k5 ?a6 ?l6 ?c6 ?k6 ?a7 ?l7 ?c7 ?k7 ?a8 ?l8 ?c8 ?k8 ?a9 ?l9 ?c9 ?k9 ?a10 ?l10 ?c10 ?k10 ?a11 ?l11 ?c11 ?k11 ?a12 ?l12 ?c12 ?k12 ?a13 ?l13 ?c13 ?k13 ?a14 ?l14 ?c14 ?k14 ?z_tuple ?z_len ?z_range ?z_int ?z_max ?z_list ?z_min ?z_repr ?z_isinstance
    (case a0 => k_is)
    (case l0 => k_is)
    (case c0 => k_is)
    (case k0 => k_is)
    (case a1 => k_is)
    (case l1 => k_is)
    (case c1 => k_is)
    (case k1 => k_is)
    (case a2 => k_is)
    (case l2 => k_is)
    (case c2 => k_is)
    (case k2 => k_is)
    (case a3 => k_is)
    (case l3 => k_is)
    (case c3 => k_is)
    (case k3 => k_is)
    (case a4 => k_is)
    (case l4 => k_is)
    (case c4 => k_is)
    (case k4 => k_is)
    (case a5 => k_is)
    (case l5 => k_is)
    (case c5 => k_is)
    (case k5 => k_is)
    (case a6 => k_is)
    (case l6 => k_is)
    (case c6 => k_is)
    (case k6 => k_is)
    (case a7 => k_is)
    (case l7 => k_is)
    (case c7 => k_is)
    (case k7 => k_is)
    (case a8 => k_is)
    (case l8 => k_is)
    (case c8 => k_is)
    (case k8 => k_is)
    (case a9 => k_is)
    (case l9 => k_is)
    (case c9 => k_is)
    (case k9 => k_is)
    (case a10 => k_is)
    (case l10 => k_is)
    (case c10 => k_is)
    (case k10 => k_is)
    (case a11 => k_is)
    (case l11 => k_is)
    (case c11 => k_is)
    (case k11 => k_is)
    (case a12 => k_is)
    (case l12 => k_is)
    (case c12 => k_is)
    (case k12 => k_is)
    (case a13 => k_is)
    (case l13 => k_is)
    (case c13 => k_is)
    (case k13 => k_is)
    (case a14 => k_is)
    (case l14 => k_is)
    (case c14 => k_is)
    (case k14 => k_is)
    (case z_tuple => k_is)
    (case z_len => k_is)
    (case z_range => k_is)
    (case z_int => k_is)
    (case z_max => k_is)
    (case z_list => k_is)
    (case z_min => k_is)
    (case z_repr => k_is)
    (case z_isinstance => k_is)
