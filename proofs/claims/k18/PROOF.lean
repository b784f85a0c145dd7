import PyProof.Rows.All
import Wide.All
import OpenK.AllK
import Wide.FinOn
import HandS.ForMost
import HandS.Wide
import HandS.TupAny
import HandS.Style
import HandS.IsInst
import HandS.Flow
import HandS.Deep
import HandS.Text
import HandS.Zip
import HandS.Rev
import HandS.More
import PyProof.TableCode
import PySem.Challenge.RW_turnpaper_k18_what_is_quiet
set_option Elab.async false
set_option linter.all false
set_option maxRecDepth 100000
/-! TPa: plain data, the store, worlds. -/
namespace TP
open PySem L2

/-- plain data; ref k: the k-th thing of the store -/
inductive D where
  | non | bl (b : Bool) | int (i : Int) | str (x : Str) | tup (xs : List D) | lst (xs : List D) | fro (xs : List D) | kt (xs : List D) | ref (k : Nat)
  deriving Inhabited

/-- a thing of the store, which may be changed -/
inductive MO where
  | lst (xs : List D)
  | dK (kvs : List (Key × D))
  | dT (kvs : List (List Key × D))
  | ins (c : Addr) (fs : List (Str × D))
abbrev Store := List MO

section
variable (K : PySem.W.Frag) (A : List Addr) (G : Hp)
mutual
inductive Rep : V → D → Prop
  | non : Rep .non .non
  | bl (b : Bool) : Rep (.bl b) (.bl b)
  | int (i : Int) : Rep (.int i) (.int i)
  | str (x : Str) : Rep (.str x) (.str x)
  | tup {a : Addr} {vs : List V} {ds : List D} : G a = some (.tup vs) → RepL vs ds → Rep (.ref a) (.tup ds)
  | kt {a : Addr} {vs : List V} {ds : List D} : SqT K G a vs → RepL vs ds → Rep (.ref a) (.kt ds)
  | lst {a : Addr} {vs : List V} {ds : List D} : G a = some (.lst vs) → RepL vs ds → Rep (.ref a) (.lst ds)
  | fro {a : Addr} {vs : List V} {ds : List D} : SqL K G a vs → RepL vs ds → Rep (.ref a) (.fro ds)
  | ref {a : Addr} {k : Nat} : A[k]? = some a → Rep (.ref a) (.ref k)
inductive RepL : List V → List D → Prop
  | nil : RepL [] []
  | cons {v : V} {vs : List V} {d : D} {ds : List D} : Rep v d → RepL vs ds → RepL (v :: vs) (d :: ds)
end
end

theorem sqT_mono {K : PySem.W.Frag} {G G' : Hp} {a : Addr} {xs : List V} (e : Same G G') (h : SqT K G a xs) : SqT K G' a xs := by
  rcases h with (h | ⟨o, h⟩) | h
  · exact .inl (.inl (e _ _ h))
  · exact .inl (.inr ⟨o, e _ _ h⟩)
  · exact .inr h

section
variable {K : PySem.W.Frag} {A A' : List Addr} {G G' : Hp}
theorem pre_get {α : Type} {l l' : List α} (h : l <+: l') {k : Nat} {a : α} (e : l[k]? = some a) : l'[k]? = some a := by
  obtain ⟨t, rfl⟩ := h
  rw [List.getElem?_append_left (List.getElem?_eq_some_iff.mp e).1]
  exact e
mutual
theorem Rep.mono (hA : A <+: A') (hG : Same G G') : ∀ (d : D) (v : V), Rep K A G v d → Rep K A' G' v d
  | .non, _, h => by cases h; exact .non
  | .bl b, _, h => by cases h; exact .bl b
  | .int i, _, h => by cases h; exact .int i
  | .str x, _, h => by cases h; exact .str x
  | .tup ds, _, h => by
    cases h with
    | tup hs hr => exact .tup (hG _ _ hs) (RepL.mono hA hG ds _ hr)
  | .kt ds, _, h => by
    cases h with
    | kt hs hr => exact .kt (sqT_mono hG hs) (RepL.mono hA hG ds _ hr)
  | .lst ds, _, h => by
    cases h with
    | lst hs hr => exact .lst (hG _ _ hs) (RepL.mono hA hG ds _ hr)
  | .fro ds, _, h => by
    cases h with
    | fro hs hr => exact .fro (hG.seq hs) (RepL.mono hA hG ds _ hr)
  | .ref k, _, h => by
    cases h with
    | ref e => exact .ref (pre_get hA e)
theorem RepL.mono (hA : A <+: A') (hG : Same G G') : ∀ (ds : List D) (vs : List V), RepL K A G vs ds → RepL K A' G' vs ds
  | [], _, h => by cases h; exact .nil
  | d :: ds, _, h => by
    cases h with
    | cons h1 h2 => exact .cons (Rep.mono hA hG d _ h1) (RepL.mono hA hG ds _ h2)
end

theorem RepL.length : ∀ {vs : List V} {ds : List D}, RepL K A G vs ds → vs.length = ds.length
  | [], [], _ => rfl
  | _ :: vs, _ :: ds, h => by
    cases h with
    | cons _ h2 => rw [List.length_cons, List.length_cons, RepL.length h2]
theorem RepL.get : ∀ {vs : List V} {ds : List D} {i : Nat} {d : D}, RepL K A G vs ds → ds[i]? = some d → ∃ v, vs[i]? = some v ∧ Rep K A G v d
  | [], [], _, _, _, e => by simp at e
  | _ :: _, _ :: _, 0, _, h, e => by
    cases h with
    | cons h1 _ => simp at e; subst e; exact ⟨_, rfl, h1⟩
  | _ :: _, _ :: _, i + 1, _, h, e => by
    cases h with
    | cons _ h2 =>
      obtain ⟨v, a, b⟩ := RepL.get (i := i) h2 (by simpa using e)
      exact ⟨v, by simpa using a, b⟩
theorem RepL.get' : ∀ {vs : List V} {ds : List D} {i : Nat} {v : V}, RepL K A G vs ds → vs[i]? = some v → ∃ d, ds[i]? = some d ∧ Rep K A G v d
  | [], [], _, _, _, e => by simp at e
  | _ :: _, _ :: _, 0, _, h, e => by
    cases h with
    | cons h1 _ => simp at e; subst e; exact ⟨_, rfl, h1⟩
  | _ :: _, _ :: _, i + 1, _, h, e => by
    cases h with
    | cons _ h2 =>
      obtain ⟨v, a, b⟩ := RepL.get' (i := i) h2 (by simpa using e)
      exact ⟨v, by simpa using a, b⟩
theorem RepL.append : ∀ {vs ws : List V} {ds es : List D}, RepL K A G vs ds → RepL K A G ws es → RepL K A G (vs ++ ws) (ds ++ es)
  | [], _, [], _, _, s => s
  | _ :: vs, _, _ :: ds, _, .cons r t, s => .cons r (RepL.append t s)
theorem RepL.take : ∀ {vs : List V} {ds : List D} (n : Nat), RepL K A G vs ds → RepL K A G (vs.take n) (ds.take n)
  | _, _, 0, _ => .nil
  | [], [], _ + 1, _ => .nil
  | _ :: _, _ :: _, n + 1, .cons r t => .cons r (RepL.take n t)
theorem RepL.drop : ∀ {vs : List V} {ds : List D} (n : Nat), RepL K A G vs ds → RepL K A G (vs.drop n) (ds.drop n)
  | _, _, 0, r => r
  | [], [], _ + 1, _ => .nil
  | _ :: _, _ :: _, n + 1, .cons _ t => RepL.drop n t
theorem RepL.set {v : V} {d : D} (r : Rep K A G v d) : ∀ {vs : List V} {ds : List D} (i : Nat), RepL K A G vs ds → RepL K A G (vs.set i v) (ds.set i d)
  | [], [], _, _ => .nil
  | _ :: _, _ :: _, 0, .cons _ t => .cons r t
  | _ :: _, _ :: _, i + 1, .cons q t => .cons q (RepL.set r i t)
theorem RepL.dropLast {vs : List V} {ds : List D} (h : RepL K A G vs ds) : RepL K A G vs.dropLast ds.dropLast := by
  rw [List.dropLast_eq_take, List.dropLast_eq_take, h.length]
  exact h.take _
theorem RepL.one {v : V} {d : D} (h : Rep K A G v d) : RepL K A G [v] [d] := .cons h .nil
theorem RepL.reverse : ∀ {vs : List V} {ds : List D}, RepL K A G vs ds → RepL K A G vs.reverse ds.reverse
  | [], [], _ => .nil
  | _ :: vs, _ :: ds, .cons r t => by
    rw [List.reverse_cons, List.reverse_cons]
    exact (RepL.reverse t).append (.one r)
theorem RepL.nil_iff {vs : List V} {ds : List D} (h : RepL K A G vs ds) : vs = [] ↔ ds = [] := by
  cases h <;> simp
end

/-- a world: the addresses of the store's things, the frozen heap, the store, the heap -/
structure Wd where
  A : List Addr
  G : Hp
  M : Store
  H : Hp

/-- values of a dict, pairwise -/
inductive RepKV {κ : Type} (R : V → D → Prop) : List (κ × V) → List (κ × D) → Prop
  | nil : RepKV R [] []
  | cons {k : κ} {v : V} {d : D} {vs : List (κ × V)} {ds : List (κ × D)} : R v d → RepKV R vs ds → RepKV R ((k, v) :: vs) ((k, d) :: ds)
theorem RepKV.imp {κ : Type} {R R' : V → D → Prop} (f : ∀ v d, R v d → R' v d) : ∀ {vs : List (κ × V)} {ds : List (κ × D)}, RepKV R vs ds → RepKV R' vs ds
  | _, _, .nil => .nil
  | _, _, .cons r t => .cons (f _ _ r) (RepKV.imp f t)

section
variable (K : PySem.W.Frag)
/-- what stands at the address of a thing of the store -/
def MoR (w : Wd) (a : Addr) : MO → Prop
  | .lst ds => ∃ vs, w.H a = some (.lst vs) ∧ RepL K w.A w.G vs ds
  | .dK kvs => ∃ vs, w.H a = some (.dK vs) ∧ RepKV (Rep K w.A w.G) vs kvs
  | .dT kvs => ∃ vs, w.H a = some (.dT vs) ∧ RepKV (Rep K w.A w.G) vs kvs
  | .ins c fs => ∃ vs dx, w.H a = some (.ins c dx vs) ∧ RepKV (Rep K w.A w.G) vs fs
structure Wd.Ok (w : Wd) : Prop where
  sub : Same w.G w.H
  nd : w.A.Nodup
  len : w.A.length = w.M.length
  out : ∀ a ∈ w.A, w.G a = none
  mos : ∀ (k : Nat) (o : MO), w.M[k]? = some o → ∃ a, w.A[k]? = some a ∧ MoR K w a o
/-- from one world to a later one: what is frozen stays, the store's addresses stay, what is owned by someone (neither frozen nor of the store) stays -/
structure Step (w w' : Wd) : Prop where
  ok : w'.Ok K
  pre : w.A <+: w'.A
  fro : Same w.G w'.G
  keep : ∀ p o, w.H p = some o → w.G p = none → p ∉ w.A → w'.H p = some o ∧ w'.G p = none ∧ p ∉ w'.A
end
section
variable {K : PySem.W.Frag} {w w1 w2 : Wd}
theorem Step.refl (h : w.Ok K) : Step K w w := ⟨h, List.prefix_refl _, Same.refl _, fun _ _ a b c => ⟨a, b, c⟩⟩
theorem Step.trans (a : Step K w w1) (b : Step K w1 w2) : Step K w w2 :=
  ⟨b.ok, a.pre.trans b.pre, a.fro.trans b.fro, fun p o h1 h2 h3 => let ⟨x, y, z⟩ := a.keep p o h1 h2 h3; b.keep p o x y z⟩
theorem Step.rep (s : Step K w w1) {v : V} {d : D} (h : Rep K w.A w.G v d) : Rep K w1.A w1.G v d := Rep.mono s.pre s.fro d v h
theorem Step.repL (s : Step K w w1) {vs : List V} {ds : List D} (h : RepL K w.A w.G vs ds) : RepL K w1.A w1.G vs ds := RepL.mono s.pre s.fro ds vs h

/-- a new thing, frozen at once -/
theorem Wd.Ok.fresh (h : w.Ok K) {p : Addr} (hp : w.H p = none) (o : HO) : Step K w ⟨w.A, upd w.G p o, w.M, upd w.H p o⟩ := by
  have hG : w.G p = none := h.sub.free hp
  have sG : Same w.G (upd w.G p o) := fun b u e => by rw [upd_ne (ne_of_none e hG)]; exact e
  have npA : p ∉ w.A := fun hm => by
    obtain ⟨k, hk, e⟩ := List.mem_iff_getElem.mp hm
    have hk' : k < w.M.length := by rw [← h.len]; exact hk
    obtain ⟨a, ea, r⟩ := h.mos k w.M[k] (List.getElem?_eq_getElem hk')
    have e2 : a = p := by
      rw [List.getElem?_eq_getElem hk] at ea
      exact (Option.some.inj ea).symm.trans e
    subst e2
    cases q : w.M[k] with
    | lst ds => rw [q] at r; obtain ⟨_, z, _⟩ := r; rw [hp] at z; cases z
    | dK ds => rw [q] at r; obtain ⟨_, z, _⟩ := r; rw [hp] at z; cases z
    | dT ds => rw [q] at r; obtain ⟨_, z, _⟩ := r; rw [hp] at z; cases z
    | ins c fs => rw [q] at r; obtain ⟨_, _, z, _⟩ := r; rw [hp] at z; cases z
  refine ⟨⟨fun b u e => ?_, h.nd, h.len, fun a ha => ?_, fun k m e => ?_⟩, List.prefix_refl _, sG, fun q u h1 h2 h3 => ⟨?_, ?_, h3⟩⟩
  · show upd w.H p o b = some u
    by_cases hb : b = p
    · subst hb
      have e' : upd w.G b o b = some u := e
      rw [upd_same] at e' ⊢; exact e'
    · have e' : upd w.G p o b = some u := e
      rw [upd_ne hb] at e' ⊢; exact h.sub b u e'
  · show upd w.G p o a = none
    rw [upd_ne (fun z : a = p => npA (z ▸ ha))]
    exact h.out a ha
  · obtain ⟨a, ea, r⟩ := h.mos k m e
    refine ⟨a, ea, ?_⟩
    have rr : ∀ v d, Rep K w.A w.G v d → Rep K w.A (upd w.G p o) v d := fun v d => Rep.mono (List.prefix_refl _) sG d v
    cases m with
    | lst ds =>
      obtain ⟨vs, z, q⟩ := r
      exact ⟨vs, by show upd w.H p o a = _; rw [upd_ne (ne_of_none z hp)]; exact z, RepL.mono (List.prefix_refl _) sG _ _ q⟩
    | dK ds =>
      obtain ⟨vs, z, q⟩ := r
      exact ⟨vs, by show upd w.H p o a = _; rw [upd_ne (ne_of_none z hp)]; exact z, q.imp rr⟩
    | dT ds =>
      obtain ⟨vs, z, q⟩ := r
      exact ⟨vs, by show upd w.H p o a = _; rw [upd_ne (ne_of_none z hp)]; exact z, q.imp rr⟩
    | ins c fs =>
      obtain ⟨vs, dx, z, q⟩ := r
      exact ⟨vs, dx, by show upd w.H p o a = _; rw [upd_ne (ne_of_none z hp)]; exact z, q.imp rr⟩
  · show upd w.H p o q = some u
    rw [upd_ne (ne_of_none h1 hp)]; exact h1
  · show upd w.G p o q = none
    rw [upd_ne (ne_of_none h1 hp)]; exact h2
end
end TP
/-! TPb: slots, answers, the readings of expressions and statements. -/
namespace TP
open PySem L2

/-- a name's value: none known; plain data; a list that nobody else has -/
inductive Slot where
  | un | val (d : D) | own (ds : List D)
  deriving Inhabited
abbrev EnvD := List Slot
def Slot.d : Slot → D
  | .un => .non
  | .val d => d
  | .own ds => .lst ds

inductive R (α : Type) where
  | ok (a : α) (M : Store) | exc (c : Nat) (d : D) (M : Store) | bad
def R.bind {α β : Type} (r : R α) (f : α → Store → R β) : R β := match r with
  | .ok a M => f a M
  | .exc c d M => .exc c d M
  | .bad => .bad
def R.map {α β : Type} (f : α → β) (r : R α) : R β := match r with
  | .ok a M => .ok (f a) M
  | .exc c d M => .exc c d M
  | .bad => .bad
def R.of {α : Type} (o : Option α) (M : Store) : R α := match o with
  | some a => .ok a M
  | none => .bad

abbrev Wish := Nat → D → Wd → Prop

section
variable (K : PySem.W.Frag) (E : Wish)
def After {α : Type} (w : Wd) (r : R α) (P : α → Wd → Prop) : Prop := match r with
  | .ok a M => ∀ w', Step K w w' → w'.M = M → P a w'
  | .exc c d M => ∀ w', Step K w w' → w'.M = M → E c d w'
  | .bad => False
/-- the names' values -/
structure SR (w : Wd) (ρ : EnvD) (σ : St) : Prop where
  len : ρ.length = σ.length
  val : ∀ (i : Nat) (d : D), ρ[i]? = some (.val d) → ∃ v, σ[i]? = some (some v) ∧ Rep K w.A w.G v d
  own : ∀ (i : Nat) (ds : List D), ρ[i]? = some (.own ds) → ∃ p vs, σ[i]? = some (some (.ref p)) ∧ w.H p = some (.lst vs) ∧ w.G p = none ∧ p ∉ w.A ∧ RepL K w.A w.G vs ds
  dis : ∀ (i j : Nat) (ds es : List D) (p : Addr), ρ[i]? = some (.own ds) → ρ[j]? = some (.own es) → σ[i]? = some (some (.ref p)) → σ[j]? = some (some (.ref p)) → i = j
/-- what may be read -/
def RepB (w : Wd) (v : V) (d : D) : Prop := Rep K w.A w.G v d ∨ ∃ p vs ds, v = .ref p ∧ d = .lst ds ∧ w.H p = some (.lst vs) ∧ w.G p = none ∧ p ∉ w.A ∧ RepL K w.A w.G vs ds
/-- an expression's value: plain data, or a new list of one's own -/
def RepX (w w' : Wd) (v : V) : Slot → Prop
  | .un => False
  | .val d => Rep K w'.A w'.G v d
  | .own ds => ∃ p vs, v = .ref p ∧ w.H p = none ∧ w'.H p = some (.lst vs) ∧ w'.G p = none ∧ p ∉ w'.A ∧ RepL K w'.A w'.G vs ds
abbrev FE := EnvD → Store → R Slot
abbrev FD := EnvD → Store → R D
abbrev FL := EnvD → Store → R (List D)
abbrev FB := EnvD → Store → R Bool
def tE (f : FE) : TE := fun σ H Q => ∃ ρ w, w.H = H ∧ w.Ok K ∧ SR K w ρ σ ∧ After K E w (f ρ w.M) fun s w' => ∀ v, RepX K w w' v s → Q v w'.H
def tF (f : FD) : TE := fun σ H Q => ∃ ρ w, w.H = H ∧ w.Ok K ∧ SR K w ρ σ ∧ After K E w (f ρ w.M) fun d w' => ∀ v, Rep K w'.A w'.G v d → Q v w'.H
def tR (f : FD) : TE := fun σ H Q => ∃ ρ w, w.H = H ∧ w.Ok K ∧ SR K w ρ σ ∧ After K E w (f ρ w.M) fun d w' => ∀ v, RepB K w' v d → Q v w'.H
def tAF (f : FL) : TA := fun σ H Q => ∃ ρ w, w.H = H ∧ w.Ok K ∧ SR K w ρ σ ∧ After K E w (f ρ w.M) fun ds w' => ∀ vs, RepL K w'.A w'.G vs ds → Q vs w'.H
inductive RepBL (w : Wd) : List V → List D → Prop
  | nil : RepBL w [] []
  | cons {v : V} {vs : List V} {d : D} {ds : List D} : RepB K w v d → RepBL w vs ds → RepBL w (v :: vs) (d :: ds)
def tAR (f : FL) : TA := fun σ H Q => ∃ ρ w, w.H = H ∧ w.Ok K ∧ SR K w ρ σ ∧ After K E w (f ρ w.M) fun ds w' => ∀ vs, RepBL K w' vs ds → Q vs w'.H
def tT (f : FB) : TT := fun σ H Q => ∃ ρ w, w.H = H ∧ w.Ok K ∧ SR K w ρ σ ∧ After K E w (f ρ w.M) fun b w' => Q b w'.H
end

section
variable {K : PySem.W.Frag} {E : Wish}
theorem After.bind {α β : Type} {w : Wd} {r : R α} {f : α → Store → R β} {P : β → Wd → Prop} (h : After K E w (r.bind f) P) : After K E w r fun a w' => After K E w' (f a w'.M) P := by
  cases r with
  | bad => exact h
  | exc c d M => exact h
  | ok a M =>
    intro w1 s1 e1
    have h' : After K E w (f a M) P := h
    rw [e1]
    cases q : f a M with
    | bad => rw [q] at h'; exact h'
    | exc c d M2 => rw [q] at h'; exact fun w2 s2 e2 => h' w2 (s1.trans s2) e2
    | ok b M2 => rw [q] at h'; exact fun w2 s2 e2 => h' w2 (s1.trans s2) e2
theorem After.imp {α : Type} {w : Wd} {r : R α} {P P' : α → Wd → Prop} (h : After K E w r P) (f : ∀ a w', Step K w w' → P a w' → P' a w') : After K E w r P' := by
  cases r with
  | bad => exact h
  | exc c d M => exact h
  | ok a M => exact fun w1 s1 e1 => f a w1 s1 (h w1 s1 e1)
theorem After.map {α β : Type} {w : Wd} {r : R α} {g : α → β} {P : β → Wd → Prop} (h : After K E w (r.map g) P) : After K E w r fun a w' => P (g a) w' := by
  cases r with
  | bad => exact h
  | exc c d M => exact h
  | ok a M => exact h
theorem After.of {α : Type} {w w' : Wd} {o : Option α} {P : α → Wd → Prop} (h : After K E w (R.of o w.M) P) (hs : Step K w w') (hM : w'.M = w.M) : ∃ a, o = some a ∧ P a w' := by
  cases o with
  | none => exact h.elim
  | some a => exact ⟨a, rfl, h w' hs hM⟩
/-- from an earlier world -/
theorem After.later {α : Type} {w w1 : Wd} {r : R α} {P : α → Wd → Prop} (h : After K E w r P) (s : Step K w w1) : After K E w1 r P := by
  cases r with
  | bad => exact h
  | exc c d M => exact fun w2 s2 e2 => h w2 (s.trans s2) e2
  | ok a M => exact fun w2 s2 e2 => h w2 (s.trans s2) e2
theorem SR.step {w w' : Wd} {ρ : EnvD} {σ : St} (h : SR K w ρ σ) (s : Step K w w') : SR K w' ρ σ :=
  ⟨h.len, fun i d e => let ⟨v, a, b⟩ := h.val i d e; ⟨v, a, s.rep b⟩,
   fun i ds e => let ⟨p, vs, a, b, c, d, f⟩ := h.own i ds e; let ⟨b', c', d'⟩ := s.keep p _ b c d; ⟨p, vs, a, b', c', d', s.repL f⟩, h.dis⟩
theorem RepB.step {w w' : Wd} {v : V} {d : D} (h : RepB K w v d) (s : Step K w w') : RepB K w' v d := by
  rcases h with h | ⟨p, vs, ds, e1, e2, b, c, d, f⟩
  · exact .inl (s.rep h)
  · obtain ⟨b', c', d'⟩ := s.keep p _ b c d
    exact .inr ⟨p, vs, ds, e1, e2, b', c', d', s.repL f⟩
theorem RepBL.step {w w' : Wd} (s : Step K w w') : ∀ {vs : List V} {ds : List D}, RepBL K w vs ds → RepBL K w' vs ds
  | _, _, .nil => .nil
  | _, _, .cons r t => .cons (r.step s) (RepBL.step s t)
theorem RepBL.of {w : Wd} : ∀ {vs : List V} {ds : List D}, RepL K w.A w.G vs ds → RepBL K w vs ds
  | [], [], _ => .nil
  | _ :: _, _ :: _, .cons r t => .cons (.inl r) (RepBL.of t)
/-- a list of one's own is frozen -/
theorem Wd.Ok.freeze {w : Wd} (h : w.Ok K) {p : Addr} {o : HO} (hp : w.H p = some o) (hG : w.G p = none) (hA : p ∉ w.A) : (⟨w.A, upd w.G p o, w.M, w.H⟩ : Wd).Ok K := by
  have sG : Same w.G (upd w.G p o) := fun b u e => by rw [upd_ne (ne_of_none e hG)]; exact e
  have rr : ∀ v d, Rep K w.A w.G v d → Rep K w.A (upd w.G p o) v d := fun v d => Rep.mono (List.prefix_refl _) sG d v
  refine ⟨fun b u e => ?_, h.nd, h.len, fun a ha => ?_, fun k m e => ?_⟩
  · have e' : upd w.G p o b = some u := e
    by_cases hb : b = p
    · subst hb
      rw [upd_same] at e'
      exact hp.trans e'
    · rw [upd_ne hb] at e'; exact h.sub b u e'
  · show upd w.G p o a = none
    rw [upd_ne (fun z : a = p => hA (z ▸ ha))]
    exact h.out a ha
  · obtain ⟨a, ea, r⟩ := h.mos k m e
    refine ⟨a, ea, ?_⟩
    cases m with
    | lst ds => obtain ⟨vs, z, q⟩ := r; exact ⟨vs, z, RepL.mono (List.prefix_refl _) sG _ _ q⟩
    | dK ds => obtain ⟨vs, z, q⟩ := r; exact ⟨vs, z, q.imp rr⟩
    | dT ds => obtain ⟨vs, z, q⟩ := r; exact ⟨vs, z, q.imp rr⟩
    | ins c fs => obtain ⟨vs, dx, z, q⟩ := r; exact ⟨vs, dx, z, q.imp rr⟩
theorem upd_fro {G : Hp} {p : Addr} {o : HO} (h : G p = none) : Same G (upd G p o) := fun b u e => by rw [upd_ne (ne_of_none e h)]; exact e
/-- a value of an expression, frozen -/
theorem RepX.freeze {w w' : Wd} {v : V} {s : Slot} (st : Step K w w') (h : RepX K w w' v s) : ∃ G', Step K w ⟨w'.A, G', w'.M, w'.H⟩ ∧ Rep K w'.A G' v s.d := by
  cases s with
  | un => exact h.elim
  | val d => exact ⟨w'.G, st, h⟩
  | own ds =>
    obtain ⟨p, vs, rfl, h0, hH, hG, hA, r⟩ := h
    refine ⟨upd w'.G p (.lst vs), ⟨st.ok.freeze hH hG hA, st.pre, st.fro.trans (upd_fro hG), fun q o h1 h2 h3 => ?_⟩, .lst upd_same (RepL.mono (List.prefix_refl _) (upd_fro hG) _ _ r)⟩
    obtain ⟨a, b, c⟩ := st.keep q o h1 h2 h3
    exact ⟨a, by show upd w'.G p (.lst vs) q = none; rw [upd_ne (ne_of_none h1 h0)]; exact b, c⟩
theorem RepX.b {w w' : Wd} {v : V} {s : Slot} (h : RepX K w w' v s) : RepB K w' v s.d := by
  cases s with
  | un => exact h.elim
  | val d => exact .inl h
  | own ds => obtain ⟨p, vs, e, _, hH, hG, hA, r⟩ := h; exact .inr ⟨p, vs, ds, e, rfl, hH, hG, hA, r⟩

/-- what is free now was free -/
theorem Wd.Ok.some_at {w : Wd} (h : w.Ok K) {p : Addr} (hp : p ∈ w.A) : ∃ o, w.H p = some o := by
  obtain ⟨k, hk, e⟩ := List.mem_iff_getElem.mp hp
  have hk' : k < w.M.length := by rw [← h.len]; exact hk
  obtain ⟨a, ea, r⟩ := h.mos k w.M[k] (List.getElem?_eq_getElem hk')
  have e2 : a = p := by
    rw [List.getElem?_eq_getElem hk] at ea
    exact (Option.some.inj ea).symm.trans e
  subst e2
  cases q : w.M[k] with
  | lst ds => rw [q] at r; obtain ⟨_, z, _⟩ := r; exact ⟨_, z⟩
  | dK ds => rw [q] at r; obtain ⟨_, z, _⟩ := r; exact ⟨_, z⟩
  | dT ds => rw [q] at r; obtain ⟨_, z, _⟩ := r; exact ⟨_, z⟩
  | ins c fs => rw [q] at r; obtain ⟨_, _, z, _⟩ := r; exact ⟨_, z⟩
theorem Step.free {w w' : Wd} (s : Step K w w') {p : Addr} (h : w'.H p = none) : w.H p = none := by
  cases q : w.H p with
  | none => rfl
  | some o =>
    exfalso
    cases qG : w.G p with
    | some u =>
      have := s.ok.sub p u (s.fro p u qG)
      rw [h] at this; cases this
    | none =>
      by_cases hA : p ∈ w.A
      · obtain ⟨o', z⟩ := s.ok.some_at (s.pre.subset hA)
        rw [h] at z; cases z
      · have := (s.keep p o q qG hA).1
        rw [h] at this; cases this
theorem RepX.back {w w1 w2 : Wd} {v : V} {s : Slot} (st : Step K w w1) (h : RepX K w1 w2 v s) : RepX K w w2 v s := by
  cases s with
  | un => exact h
  | val d => exact h
  | own ds => obtain ⟨p, vs, e, h0, r⟩ := h; exact ⟨p, vs, e, st.free h0, r⟩

/-! ### weaker readings -/
section
variable {X : Cx} {e : Expr}
theorem PE.wk {t t' : TE} (h : PE X e t) (f : ∀ σ H Q, t' σ H Q → t σ H Q) : PE X e t' := ⟨fun pins s σ H Q I q => h.run pins s σ H Q I (f σ H Q q)⟩
theorem PT.wk {t t' : TT} (h : PT X e t) (f : ∀ σ H Q, t' σ H Q → t σ H Q) : PT X e t' := ⟨fun pins s σ H Q I q => h.run pins s σ H Q I (f σ H Q q)⟩
theorem PW.wk {t t' : TT} (h : PW X e t) (f : ∀ σ H Q, t' σ H Q → t σ H Q) : PW X e t' := ⟨fun wh pins s σ H Q I q => h.run wh pins s σ H Q I (f σ H Q q)⟩
theorem PA.wk {es : List Expr} {t t' : TA} (h : PA X es t) (f : ∀ σ H Q, t' σ H Q → t σ H Q) : PA X es t' := ⟨fun pos pins s σ H Q I q => h.run pos pins s σ H Q I (f σ H Q q)⟩
theorem PSs.wk {sts : List Stmt} {t t' : TS} (h : PSs X sts t) (f : ∀ D σ H, t' D σ H → t D σ H) : PSs X sts t' := ⟨fun pins s σ H D I q => h.run pins s σ H D I (f D σ H q)⟩
theorem PS.wk {st : Stmt} {t t' : TS} (h : PS X st t) (f : ∀ D σ H, t' D σ H → t D σ H) : PS X st t' := ⟨fun pins s σ H D I q => h.run pins s σ H D I (f D σ H q)⟩
def dEF (f : FE) : FD := fun ρ M => (f ρ M).map Slot.d
def dFE (f : FD) : FE := fun ρ M => (f ρ M).map Slot.val
/-- frozen -/
theorem c_EF {f : FE} (h : PE X e (tE K E f)) : PE X e (tF K E (dEF f)) := PE.wk h fun σ H Q ⟨ρ, w, e1, ok, sr, a⟩ => ⟨ρ, w, e1, ok, sr, by
  have a2 := a.map
  cases q : f ρ w.M with
  | bad => rw [q] at a2; exact a2
  | exc c d M => rw [q] at a2; exact a2
  | ok s M =>
    rw [q] at a2
    intro w' st eM v r
    obtain ⟨G', st', r'⟩ := r.freeze st
    exact a2 _ st' eM v r'⟩
theorem c_EB {f : FE} (h : PE X e (tE K E f)) : PE X e (tR K E (dEF f)) := PE.wk h fun σ H Q ⟨ρ, w, e1, ok, sr, a⟩ => ⟨ρ, w, e1, ok, sr, a.map.imp fun s w' _ z v r => z v r.b⟩
theorem c_FE {f : FD} (h : PE X e (tF K E f)) : PE X e (tE K E (dFE f)) := PE.wk h fun σ H Q ⟨ρ, w, e1, ok, sr, a⟩ => ⟨ρ, w, e1, ok, sr, a.map⟩
theorem c_FB {f : FD} (h : PE X e (tF K E f)) : PE X e (tR K E f) := PE.wk h fun σ H Q ⟨ρ, w, e1, ok, sr, a⟩ => ⟨ρ, w, e1, ok, sr, a.imp fun s w' _ z v r => z v (.inl r)⟩
/-! ### names, constants -/
def dVar (i : Nat) : FD := fun ρ M => match ρ[i]? with
  | some (.val d) => .ok d M
  | _ => .bad
def dVarB (i : Nat) : FD := fun ρ M => match ρ[i]? with
  | some (.val d) => .ok d M
  | some (.own ds) => .ok (.lst ds) M
  | _ => .bad
def dC (d : D) : FD := fun _ M => .ok d M
theorem x_var {i : Nat} (h : PE X e (tVar i)) : PE X e (tF K E (dVar i)) := PE.wk h fun σ H Q ⟨ρ, w, e1, ok, sr, a⟩ => by
  subst e1
  unfold dVar at a
  split at a
  · rename_i d e2
    obtain ⟨v, h1, h2⟩ := sr.val i d e2
    exact ⟨v, h1, a w (Step.refl ok) rfl v h2⟩
  · exact a.elim
theorem x_varB {i : Nat} (h : PE X e (tVar i)) : PE X e (tR K E (dVarB i)) := PE.wk h fun σ H Q ⟨ρ, w, e1, ok, sr, a⟩ => by
  subst e1
  unfold dVarB at a
  split at a
  · rename_i d e2
    obtain ⟨v, h1, h2⟩ := sr.val i d e2
    exact ⟨v, h1, a w (Step.refl ok) rfl v (.inl h2)⟩
  · rename_i ds e2
    obtain ⟨p, vs, h1, h2, h3, h4, h5⟩ := sr.own i ds e2
    exact ⟨_, h1, a w (Step.refl ok) rfl _ (.inr ⟨p, vs, ds, rfl, rfl, h2, h3, h4, h5⟩)⟩
  · exact a.elim
theorem x_c {v : V} {d : D} (h : PE X e (tC v)) (r : ∀ A G, Rep K A G v d) : PE X e (tF K E (dC d)) := PE.wk h fun σ H Q ⟨ρ, w, e1, ok, sr, a⟩ => by
  subst e1
  exact a w (Step.refl ok) rfl v (r _ _)
end
end
end TP
/-! TPc: expressions. -/
namespace TP
open PySem L2
/-! ### views -/
/-- a list that may be changed or read -/
def lstOf (M : Store) : D → Option (List D)
  | .lst ds => some ds
  | .ref k => match M[k]? with
    | some (.lst ds) => some ds
    | _ => none
  | _ => none
/-- a list that may be read -/
def seqOf (M : Store) : D → Option (List D)
  | .fro ds => some ds
  | x => lstOf M x
section
variable {K : PySem.W.Frag} {E : Wish}
theorem lstOf_ref {M : Store} {k : Nat} {ds : List D} (h : lstOf M (.ref k) = some ds) : M[k]? = some (.lst ds) := by
  unfold lstOf at h
  simp only at h
  split at h
  · rename_i es e2
    cases h
    exact e2
  · cases h
theorem lst_at {w : Wd} (ok : w.Ok K) {v : V} {x : D} {ds : List D} (r : RepB K w v x) (h : lstOf w.M x = some ds) : ∃ p vs, v = .ref p ∧ w.H p = some (.lst vs) ∧ RepL K w.A w.G vs ds := by
  rcases r with r | ⟨p, vs, es, rfl, rfl, h1, _, _, h4⟩
  · cases r with
    | lst e rl => cases h; exact ⟨_, _, rfl, ok.sub _ _ e, rl⟩
    | @ref a k e =>
      obtain ⟨a', e3, vs, h1, h2⟩ := ok.mos k _ (lstOf_ref h)
      rw [e] at e3
      cases e3
      exact ⟨_, vs, rfl, h1, h2⟩
    | _ => cases h
  · cases h; exact ⟨p, vs, rfl, h1, h4⟩
theorem seq_at {w : Wd} (ok : w.Ok K) {v : V} {x : D} {ds : List D} (r : RepB K w v x) (h : seqOf w.M x = some ds) : ∃ p vs, v = .ref p ∧ SqL K w.H p vs ∧ RepL K w.A w.G vs ds := by
  by_cases hf : ∃ es, x = .fro es
  · obtain ⟨es, rfl⟩ := hf
    rcases r with r | ⟨p, vs, es', rfl, e, _⟩
    · cases r with
      | fro hs rl => cases h; exact ⟨_, _, rfl, ok.sub.seq hs, rl⟩
    · cases e
  · have h' : lstOf w.M x = some ds := by
      cases x <;> first | exact h | exact absurd ⟨_, rfl⟩ hf
    obtain ⟨p, vs, e, h1, h2⟩ := lst_at ok r h'
    exact ⟨p, vs, e, .inl (.inl h1), h2⟩
theorem tup_at {w : Wd} (ok : w.Ok K) {v : V} {ds : List D} (r : RepB K w v (.tup ds)) : ∃ p vs, v = .ref p ∧ SqT K w.H p vs ∧ RepL K w.A w.G vs ds := by
  rcases r with r | ⟨p, vs, es', rfl, e, _⟩
  · cases r with
    | tup hs rl => exact ⟨_, _, rfl, .inl (.inl (ok.sub _ _ hs)), rl⟩
  · cases e
theorem tupH_at {w : Wd} (ok : w.Ok K) {v : V} {ds : List D} (r : RepB K w v (.tup ds)) : ∃ p vs, v = .ref p ∧ w.H p = some (.tup vs) ∧ RepL K w.A w.G vs ds := by
  rcases r with r | ⟨p, vs, es', rfl, e, _⟩
  · cases r with
    | tup hs rl => exact ⟨_, _, rfl, ok.sub _ _ hs, rl⟩
  · cases e
theorem kt_at {w : Wd} (ok : w.Ok K) {v : V} {ds : List D} (r : RepB K w v (.kt ds)) : ∃ p vs, v = .ref p ∧ SqT K w.H p vs ∧ RepL K w.A w.G vs ds := by
  rcases r with r | ⟨p, vs, es', rfl, e, _⟩
  · cases r with
    | kt hs rl => exact ⟨_, _, rfl, sqT_mono ok.sub hs, rl⟩
  · cases e
theorem int_at {w : Wd} {v : V} {i : Int} (r : RepB K w v (.int i)) : v = .int i := by
  rcases r with r | ⟨p, vs, es', rfl, e, _⟩
  · cases r; rfl
  · cases e
theorem bl_at {w : Wd} {v : V} {i : Bool} (r : RepB K w v (.bl i)) : v = .bl i := by
  rcases r with r | ⟨p, vs, es', rfl, e, _⟩
  · cases r; rfl
  · cases e
theorem str_at {w : Wd} {v : V} {i : Str} (r : RepB K w v (.str i)) : v = .str i := by
  rcases r with r | ⟨p, vs, es', rfl, e, _⟩
  · cases r; rfl
  · cases e
theorem non_at {w : Wd} {v : V} (r : RepB K w v .non) : v = .non := by
  rcases r with r | ⟨p, vs, es', rfl, e, _⟩
  · cases r; rfl
  · cases e
/-! ### what a built-in thing does, by plain data -/
def Prim1 (K : PySem.W.Frag) (r : V → Hp → VK → Prop) (g : Store → D → Option Slot) : Prop := ∀ (w : Wd) (vx : V) (x : D) (s : Slot) (Q : VK), w.Ok K → RepB K w vx x → g w.M x = some s →
  (∀ v w', Step K w w' → w'.M = w.M → RepX K w w' v s → Q v w'.H) → r vx w.H Q
def Prim2 (K : PySem.W.Frag) (r : R2) (g : Store → D → D → Option Slot) : Prop := ∀ (w : Wd) (vx vy : V) (x y : D) (s : Slot) (Q : VK), w.Ok K → RepB K w vx x → RepB K w vy y → g w.M x y = some s →
  (∀ v w', Step K w w' → w'.M = w.M → RepX K w w' v s → Q v w'.H) → r vx vy w.H Q
def PrimN (K : PySem.W.Frag) (r : List V → Hp → VK → Prop) (g : Store → List D → Option Slot) : Prop := ∀ (w : Wd) (vs : List V) (ds : List D) (s : Slot) (Q : VK), w.Ok K → RepBL K w vs ds → g w.M ds = some s →
  (∀ v w', Step K w w' → w'.M = w.M → RepX K w w' v s → Q v w'.H) → r vs w.H Q
def PrimM (K : PySem.W.Frag) (r : V → List V → Hp → VK → Prop) (g : Store → D → List D → Option Slot) : Prop := ∀ (w : Wd) (vx : V) (x : D) (vs : List V) (ds : List D) (s : Slot) (Q : VK), w.Ok K → RepB K w vx x → RepBL K w vs ds → g w.M x ds = some s →
  (∀ v w', Step K w w' → w'.M = w.M → RepX K w w' v s → Q v w'.H) → r vx vs w.H Q
def dOp1 (g : Store → D → Option Slot) (fa : FD) : FE := fun ρ M => (fa ρ M).bind fun x M => R.of (g M x) M
def dOp2 (g : Store → D → D → Option Slot) (fa fb : FD) : FE := fun ρ M => (fa ρ M).bind fun x M => (fb ρ M).bind fun y M => R.of (g M x y) M
def dPr (g : Store → List D → Option Slot) (fs : FL) : FE := fun ρ M => (fs ρ M).bind fun ds M => R.of (g M ds) M
section
variable {X : Cx} {e : Expr}
theorem fin_of {w w2 : Wd} {o : Option Slot} {Q : VK} (s : Step K w w2) (a : After K E w2 (R.of o w2.M) fun s w' => ∀ v, RepX K w w' v s → Q v w'.H) :
    ∃ s, o = some s ∧ ∀ v w', Step K w2 w' → w'.M = w2.M → RepX K w2 w' v s → Q v w'.H := by
  cases o with
  | none => exact a.elim
  | some x => exact ⟨x, rfl, fun v w' s3 e3 rv => a w' s3 e3 v (rv.back s)⟩
theorem x_op2 {r : R2} {g : Store → D → D → Option Slot} {fa fb : FD} (h : PE X e (tOp r (tR K E fa) (tR K E fb))) (p : Prim2 K r g) : PE X e (tE K E (dOp2 g fa fb)) := PE.wk h fun σ H Q ⟨ρ, w, e1, ok, sr, a⟩ =>
  ⟨ρ, w, e1, ok, sr, a.bind.imp fun x w1 s1 a1 vx rx => ⟨ρ, w1, rfl, s1.ok, sr.step s1, a1.bind.imp fun y w2 s2 a2 vy ry => by
    obtain ⟨s, es, k⟩ := fin_of (s1.trans s2) a2
    exact p w2 vx vy x y s Q s2.ok (rx.step s2) ry es k⟩⟩
theorem x_op1 {r : V → Hp → VK → Prop} {g : Store → D → Option Slot} {fa : FD} (h : PE X e (tUn r (tR K E fa))) (p : Prim1 K r g) : PE X e (tE K E (dOp1 g fa)) := PE.wk h fun σ H Q ⟨ρ, w, e1, ok, sr, a⟩ =>
  ⟨ρ, w, e1, ok, sr, a.bind.imp fun x w1 s1 a1 vx rx => by
    obtain ⟨s, es, k⟩ := fin_of s1 a1
    exact p w1 vx x s Q s1.ok rx es k⟩
theorem x_prim {r : List V → Hp → VK → Prop} {g : Store → List D → Option Slot} {fs : FL} (h : PE X e (tCB r (tAR K E fs))) (p : PrimN K r g) : PE X e (tE K E (dPr g fs)) := PE.wk h fun σ H Q ⟨ρ, w, e1, ok, sr, a⟩ =>
  ⟨ρ, w, e1, ok, sr, a.bind.imp fun x w1 s1 a1 vx rx => by
    obtain ⟨s, es, k⟩ := fin_of s1 a1
    exact p w1 vx x s Q s1.ok rx es k⟩
/-! ### lists of arguments -/
def dNil : FL := fun _ M => .ok [] M
def dCons (f : FD) (fs : FL) : FL := fun ρ M => (f ρ M).bind fun d M => (fs ρ M).bind fun ds M => .ok (d :: ds) M
variable {es : List Expr}
theorem xa_nil (h : PA X [] tNil) : PA X [] (tAF K E dNil) := PA.wk h fun σ H Q ⟨ρ, w, e1, ok, sr, a⟩ => by
  subst e1
  exact a w (Step.refl ok) rfl [] .nil
theorem xr_nil (h : PA X [] tNil) : PA X [] (tAR K E dNil) := PA.wk h fun σ H Q ⟨ρ, w, e1, ok, sr, a⟩ => by
  subst e1
  exact a w (Step.refl ok) rfl [] .nil
theorem xa_cons {f : FD} {fs : FL} (h : PA X es (tCons (tF K E f) (tAF K E fs))) : PA X es (tAF K E (dCons f fs)) := PA.wk h fun σ H Q ⟨ρ, w, e1, ok, sr, a⟩ =>
  ⟨ρ, w, e1, ok, sr, a.bind.imp fun d w1 s1 a1 v rv => ⟨ρ, w1, rfl, s1.ok, sr.step s1, a1.bind.imp fun ds w2 s2 a2 vs rvs => a2 w2 (Step.refl s2.ok) rfl _ (.cons (s2.rep rv) rvs)⟩⟩
theorem xr_cons {f : FD} {fs : FL} (h : PA X es (tCons (tR K E f) (tAR K E fs))) : PA X es (tAR K E (dCons f fs)) := PA.wk h fun σ H Q ⟨ρ, w, e1, ok, sr, a⟩ =>
  ⟨ρ, w, e1, ok, sr, a.bind.imp fun d w1 s1 a1 v rv => ⟨ρ, w1, rfl, s1.ok, sr.step s1, a1.bind.imp fun ds w2 s2 a2 vs rvs => a2 w2 (Step.refl s2.ok) rfl _ (.cons (rv.step s2) rvs)⟩⟩
theorem sizeOf_le {n : Nat} (h : decide (n ≤ sizeLine) = true) : n ≤ sizeLine := of_decide_eq_true h
/-- a tuple of written items -/
def dTup (fs : FL) : FD := fun ρ M => (fs ρ M).bind fun ds M => if ds.length ≤ sizeLine then .ok (.tup ds) M else .bad
def dLst (fs : FL) : FE := fun ρ M => (fs ρ M).bind fun ds M => if ds.length ≤ sizeLine then .ok (.own ds) M else .bad
theorem x_tup {fs : FL} (h : PE X e (tTup (tAF K E fs))) : PE X e (tF K E (dTup fs)) := PE.wk h fun σ H Q ⟨ρ, w, e1, ok, sr, a⟩ =>
  ⟨ρ, w, e1, ok, sr, a.bind.imp fun ds w1 s1 a1 vs rvs => by
    split at a1
    · rename_i hl
      refine ⟨by rw [rvs.length]; exact hl, fun p hp => ?_⟩
      have st := s1.ok.fresh hp (.tup vs)
      exact a1 _ st rfl _ (.tup upd_same (st.repL rvs))
    · exact a1.elim⟩
/-- a new thing that is not frozen: a list of one's own -/
theorem Wd.Ok.fresh0 {w : Wd} (h : w.Ok K) {p : Addr} (hp : w.H p = none) (o : HO) : Step K w ⟨w.A, w.G, w.M, upd w.H p o⟩ := by
  have hG : w.G p = none := h.sub.free hp
  refine ⟨⟨fun b u e => ?_, h.nd, h.len, h.out, fun k m e => ?_⟩, List.prefix_refl _, Same.refl _, fun q u h1 h2 h3 => ⟨?_, h2, h3⟩⟩
  · show upd w.H p o b = some u
    rw [upd_ne (ne_of_none e hG)]
    exact h.sub b u e
  · obtain ⟨a, ea, r⟩ := h.mos k m e
    refine ⟨a, ea, ?_⟩
    cases m with
    | lst ds => obtain ⟨vs, z, q⟩ := r; exact ⟨vs, by show upd w.H p o a = _; rw [upd_ne (ne_of_none z hp)]; exact z, q⟩
    | dK ds => obtain ⟨vs, z, q⟩ := r; exact ⟨vs, by show upd w.H p o a = _; rw [upd_ne (ne_of_none z hp)]; exact z, q⟩
    | dT ds => obtain ⟨vs, z, q⟩ := r; exact ⟨vs, by show upd w.H p o a = _; rw [upd_ne (ne_of_none z hp)]; exact z, q⟩
    | ins c fs => obtain ⟨vs, dx, z, q⟩ := r; exact ⟨vs, dx, by show upd w.H p o a = _; rw [upd_ne (ne_of_none z hp)]; exact z, q⟩
  · show upd w.H p o q = some u
    rw [upd_ne (ne_of_none h1 hp)]; exact h1
theorem Wd.Ok.notA {w : Wd} (h : w.Ok K) {p : Addr} (hp : w.H p = none) : p ∉ w.A := fun hm => by
  obtain ⟨o, z⟩ := h.some_at hm
  rw [hp] at z; cases z
/-- a new list, as a value of its own -/
theorem own_new {w w1 : Wd} (s1 : Step K w w1) {p : Addr} (hp : w1.H p = none) {vs : List V} {ds : List D} (r : RepL K w1.A w1.G vs ds) :
    RepX K w ⟨w1.A, w1.G, w1.M, upd w1.H p (.lst vs)⟩ (.ref p) (.own ds) :=
  ⟨p, vs, rfl, s1.free hp, upd_same, s1.ok.sub.free hp, s1.ok.notA hp, r⟩
theorem x_lst {fs : FL} (h : PE X e (tLst (tAF K E fs))) : PE X e (tE K E (dLst fs)) := PE.wk h fun σ H Q ⟨ρ, w, e1, ok, sr, a⟩ =>
  ⟨ρ, w, e1, ok, sr, a.bind.imp fun ds w1 s1 a1 vs rvs => by
    split at a1
    · rename_i hl
      refine ⟨by rw [rvs.length]; exact hl, fun p hp => ?_⟩
      exact a1 _ (s1.ok.fresh0 hp (.lst vs)) rfl _ (own_new s1 hp rvs)
    · exact a1.elim⟩
/-! ### tests -/
/-- truth -/
def truD (M : Store) : D → Option Bool
  | .non => some false
  | .bl b => some b
  | .int i => some (i != 0)
  | .str y => if y.length ≤ sizeLine then some ((y.length : Int) != 0) else none
  | .tup ds => some (!ds.isEmpty)
  | .ref k => match M[k]? with
    | some (.lst ds) => some (!ds.isEmpty)
    | some (.dK ds) => some (!ds.isEmpty)
    | _ => none
  | .lst ds => some (!ds.isEmpty)
  | .fro ds => some (!ds.isEmpty)
  | .kt ds => some (!ds.isEmpty)
theorem RepL.emp {A : List Addr} {G : Hp} {vs : List V} {ds : List D} (h : RepL K A G vs ds) : ds.isEmpty = vs.isEmpty := by cases h <;> rfl
theorem RepKV.emp {κ : Type} {R : V → D → Prop} {vs : List (κ × V)} {ds : List (κ × D)} (h : RepKV R vs ds) : ds.isEmpty = vs.isEmpty := by cases h <;> rfl
theorem tru_at {w : Wd} (ok : w.Ok K) {v : V} {x : D} {b : Bool} (r : RepB K w v x) (h : truD w.M x = some b) : TruV K v w.H b := by
  cases x with
  | non => cases non_at r; exact (Option.some.inj h).symm
  | bl c => cases bl_at r; exact (Option.some.inj h).symm
  | int i => cases int_at r; exact (Option.some.inj h).symm
  | str y =>
    cases str_at r
    simp only [truD] at h
    split at h
    · rename_i hl; exact ⟨hl, (Option.some.inj h).symm⟩
    · cases h
  | tup ds =>
    obtain ⟨p, vs, rfl, hs, rl⟩ := tup_at ok r
    exact .inr (.inl ⟨vs, hs, by rw [← rl.emp]; exact (Option.some.inj h).symm⟩)
  | lst ds =>
    obtain ⟨p, vs, rfl, hs, rl⟩ := lst_at (ds := ds) ok r rfl
    exact .inl ⟨vs, .inl (.inl hs), by rw [← rl.emp]; exact (Option.some.inj h).symm⟩
  | fro ds =>
    obtain ⟨p, vs, rfl, hs, rl⟩ := seq_at (ds := ds) ok r rfl
    exact .inl ⟨vs, hs, by rw [← rl.emp]; exact (Option.some.inj h).symm⟩
  | kt ds =>
    obtain ⟨p, vs, rfl, hs, rl⟩ := kt_at ok r
    exact .inr (.inl ⟨vs, hs, by rw [← rl.emp]; exact (Option.some.inj h).symm⟩)
  | ref k =>
    simp only [truD] at h
    rcases r with r | ⟨p, vs, es', rfl, e, _⟩
    · cases r with
      | @ref a k ek =>
        split at h
        · rename_i ds e2
          obtain ⟨a', e3, vs, h1, h2⟩ := ok.mos k _ e2
          rw [ek] at e3; cases e3
          exact .inl ⟨vs, .inl (.inl h1), by rw [← h2.emp]; exact (Option.some.inj h).symm⟩
        · rename_i ds e2
          obtain ⟨a', e3, vs, h1, h2⟩ := ok.mos k _ e2
          rw [ek] at e3; cases e3
          exact .inr (.inr ⟨vs, h1, by rw [← h2.emp]; exact (Option.some.inj h).symm⟩)
        · cases h
    · cases e
def dTru (f : FD) : FB := fun ρ M => (f ρ M).bind fun x M => R.of (truD M x) M
theorem x_truth {f : FD} (h : PT X e (fun σ H Q => tR K E f σ H fun x H' => ∃ k, TruV K x H' k ∧ Q k H')) : PT X e (tT K E (dTru f)) := PT.wk h fun σ H Q ⟨ρ, w, e1, ok, sr, a⟩ =>
  ⟨ρ, w, e1, ok, sr, a.bind.imp fun x w1 s1 a1 v rv => by
    obtain ⟨b, eb, k⟩ := a1.of (Step.refl s1.ok) rfl
    exact ⟨b, tru_at s1.ok rv eb, k⟩⟩
/-- a test that is a bool expression (a comparison) -/
def boD : D → Option Bool
  | .bl b => some b
  | _ => none
def dBo (f : FE) : FB := fun ρ M => (f ρ M).bind fun x M => R.of (boD x.d) M
theorem x_test {t : TE} {f : FE} (h : PT X e (tTest t)) (ht : ∀ σ H Q, tE K E f σ H Q → t σ H Q) : PT X e (tT K E (dBo f)) := PT.wk h fun σ H Q ⟨ρ, w, e1, ok, sr, a⟩ =>
  ht _ _ _ ⟨ρ, w, e1, ok, sr, a.bind.imp fun x w1 s1 a1 v rv => by
    obtain ⟨b, eb, k⟩ := a1.of (Step.refl s1.ok) rfl
    cases x with
    | un => cases eb
    | own ds => cases eb
    | val d =>
      cases d with
      | bl c => cases eb; cases rv; exact ⟨_, rfl, k⟩
      | _ => cases eb⟩
def dNot (f : FB) : FB := fun ρ M => (f ρ M).map fun b => !b
theorem x_not {f : FB} (h : PT X e (tNot (tT K E f))) : PT X e (tT K E (dNot f)) := PT.wk h fun σ H Q ⟨ρ, w, e1, ok, sr, a⟩ => ⟨ρ, w, e1, ok, sr, a.map⟩
def dAnd (f g : FB) : FB := fun ρ M => (f ρ M).bind fun b M => if b then g ρ M else .ok false M
def dOr (f g : FB) : FB := fun ρ M => (f ρ M).bind fun b M => if b then .ok true M else g ρ M
theorem x_and {f g : FB} (h : PW X e (tAnd (tT K E f) (tT K E g))) : PW X e (tT K E (dAnd f g)) := PW.wk h fun σ H Q ⟨ρ, w, e1, ok, sr, a⟩ =>
  ⟨ρ, w, e1, ok, sr, a.bind.imp fun b w1 s1 a1 => by
    cases b with
    | true => exact iteT ⟨ρ, w1, rfl, s1.ok, sr.step s1, a1⟩
    | false => exact iteF (a1 w1 (Step.refl s1.ok) rfl)⟩
theorem x_or {f g : FB} (h : PW X e (tOr (tT K E f) (tT K E g))) : PW X e (tT K E (dOr f g)) := PW.wk h fun σ H Q ⟨ρ, w, e1, ok, sr, a⟩ =>
  ⟨ρ, w, e1, ok, sr, a.bind.imp fun b w1 s1 a1 => by
    cases b with
    | true => exact iteT (a1 w1 (Step.refl s1.ok) rfl)
    | false => exact iteF ⟨ρ, w1, rfl, s1.ok, sr.step s1, a1⟩⟩
/-- a if c else b -/
def dIf (c : FB) (f g : FE) : FE := fun ρ M => (c ρ M).bind fun b M => if b then f ρ M else g ρ M
theorem tE_back {f : FE} {w w1 : Wd} {ρ : EnvD} {σ : St} {Q : VK} (s1 : Step K w w1) (sr : SR K w ρ σ) (a : After K E w1 (f ρ w1.M) fun s w' => ∀ v, RepX K w w' v s → Q v w'.H) : tE K E f σ w1.H Q :=
  ⟨ρ, w1, rfl, s1.ok, sr.step s1, a.imp fun s w' _ z v rv => z v (rv.back s1)⟩
theorem x_if {c : FB} {f g : FE} (h : PE X e (tIf (tT K E c) (tE K E f) (tE K E g))) : PE X e (tE K E (dIf c f g)) := PE.wk h fun σ H Q ⟨ρ, w, e1, ok, sr, a⟩ =>
  ⟨ρ, w, e1, ok, sr, a.bind.imp fun b w1 s1 a1 => by
    cases b with
    | true => exact iteT (tE_back s1 sr a1)
    | false => exact iteF (tE_back s1 sr a1)⟩
/-- and, or as values of bools -/
def dAndV (f g : FE) : FE := fun ρ M => (f ρ M).bind fun x M => match x with
  | .val (.bl true) => g ρ M
  | .val (.bl false) => .ok (.val (.bl false)) M
  | _ => .bad
def dOrV (f g : FE) : FE := fun ρ M => (f ρ M).bind fun x M => match x with
  | .val (.bl true) => .ok (.val (.bl true)) M
  | .val (.bl false) => g ρ M
  | _ => .bad
def dNotV (f : FE) : FE := fun ρ M => (f ρ M).bind fun x M => match x with
  | .val (.bl b) => .ok (.val (.bl (!b))) M
  | _ => .bad
theorem x_andV {f g : FE} (h : PE X e (tAndV (tE K E f) (tE K E g))) : PE X e (tE K E (dAndV f g)) := PE.wk h fun σ H Q ⟨ρ, w, e1, ok, sr, a⟩ =>
  ⟨ρ, w, e1, ok, sr, a.bind.imp fun x w1 s1 a1 v rv => by
    split at a1
    · cases rv; exact ⟨true, rfl, iteT (tE_back s1 sr a1)⟩
    · cases rv; exact ⟨false, rfl, iteF (a1 w1 (Step.refl s1.ok) rfl _ (.bl _))⟩
    · exact a1.elim⟩
theorem x_orV {f g : FE} (h : PE X e (tOrV (tE K E f) (tE K E g))) : PE X e (tE K E (dOrV f g)) := PE.wk h fun σ H Q ⟨ρ, w, e1, ok, sr, a⟩ =>
  ⟨ρ, w, e1, ok, sr, a.bind.imp fun x w1 s1 a1 v rv => by
    split at a1
    · cases rv; exact ⟨true, rfl, iteT (a1 w1 (Step.refl s1.ok) rfl _ (.bl _))⟩
    · cases rv; exact ⟨false, rfl, iteF (tE_back s1 sr a1)⟩
    · exact a1.elim⟩
theorem x_notV {f : FE} (h : PE X e (tNotV (tE K E f))) : PE X e (tE K E (dNotV f)) := PE.wk h fun σ H Q ⟨ρ, w, e1, ok, sr, a⟩ =>
  ⟨ρ, w, e1, ok, sr, a.bind.imp fun x w1 s1 a1 v rv => by
    split at a1
    · cases rv; exact ⟨_, rfl, a1 w1 (Step.refl s1.ok) rfl _ (.bl _)⟩
    · exact a1.elim⟩
end
end
end TP
/-! TPd: methods, slices, calls, what is walked, targets, comprehensions. -/
namespace TP
open PySem L2
section
variable {K : PySem.W.Frag} {E : Wish} {X : Cx} {e : Expr}
/-! ### methods of built-in types -/
def tyD (M : Store) : D → Option String
  | .str _ => some "str"
  | .int _ => some "int"
  | .lst _ => some "list"
  | .fro _ => some "list"
  | .ref k => match M[k]? with
    | some (.lst _) => some "list"
    | some (.dK _) => some "dict"
    | some (.dT _) => some "dict"
    | _ => none
  | _ => none
theorem ty_at {w : Wd} (ok : w.Ok K) {v : V} {x : D} {T : String} (r : RepB K w v x) (h : tyD w.M x = some T) : tyV K T v w.H := by
  cases x with
  | str y => cases str_at r; exact (Option.some.inj h).symm
  | int y => cases int_at r; exact (Option.some.inj h).symm
  | lst ds =>
    obtain ⟨p, vs, rfl, hs, rl⟩ := lst_at (ds := ds) ok r rfl
    exact .inl ⟨(Option.some.inj h).symm, vs, .inl (.inl hs)⟩
  | fro ds =>
    obtain ⟨p, vs, rfl, hs, rl⟩ := seq_at (ds := ds) ok r rfl
    exact .inl ⟨(Option.some.inj h).symm, vs, hs⟩
  | ref k =>
    simp only [tyD] at h
    rcases r with r | ⟨p, vs, es', rfl, e, _⟩
    · cases r with
      | @ref a k ek =>
        split at h
        · rename_i ds e2
          obtain ⟨a', e3, vs, h1, h2⟩ := ok.mos k _ e2
          rw [ek] at e3; cases e3
          exact .inl ⟨(Option.some.inj h).symm, vs, .inl (.inl h1)⟩
        · rename_i ds e2
          obtain ⟨a', e3, vs, h1, h2⟩ := ok.mos k _ e2
          rw [ek] at e3; cases e3
          exact .inr (.inr (.inl ⟨(Option.some.inj h).symm, .inl ⟨vs, h1⟩⟩))
        · rename_i ds e2
          obtain ⟨a', e3, vs, h1, h2⟩ := ok.mos k _ e2
          rw [ek] at e3; cases e3
          exact .inr (.inr (.inl ⟨(Option.some.inj h).symm, .inr ⟨vs, h1⟩⟩))
        · cases h
    · cases e
  | non => cases h
  | bl b => cases h
  | tup ds => cases h
  | kt ds => cases h
def dMeth (T : String) (g : Store → D → List D → Option Slot) (fo : FD) (fs : FL) : FE := fun ρ M => (fo ρ M).bind fun x M => if tyD M x = some T then (fs ρ M).bind fun ds M => R.of (g M x ds) M else .bad
theorem x_meth {T : String} {r : V → List V → Hp → VK → Prop} {g : Store → D → List D → Option Slot} {fo : FD} {fs : FL} (h : PE X e (tBM K T r (tR K E fo) (tAR K E fs))) (p : PrimM K r g) : PE X e (tE K E (dMeth T g fo fs)) := PE.wk h fun σ H Q ⟨ρ, w, e1, ok, sr, a⟩ =>
  ⟨ρ, w, e1, ok, sr, a.bind.imp fun x w1 s1 a1 vx rx => by
    split at a1
    · rename_i ht
      refine ⟨ty_at s1.ok rx ht, ρ, w1, rfl, s1.ok, sr.step s1, a1.bind.imp fun ds w2 s2 a2 vs rvs => ?_⟩
      obtain ⟨s, es, k⟩ := fin_of (s1.trans s2) a2
      exact p w2 vx x vs ds s Q s2.ok (rx.step s2) rvs es k
    · exact a1.elim⟩
def dMeth0 (T : String) (g : Store → D → List D → Option Slot) (fo : FD) : FE := fun ρ M => (fo ρ M).bind fun x M => if tyD M x = some T then R.of (g M x []) M else .bad
theorem x_meth0 {T : String} {r : V → List V → Hp → VK → Prop} {g : Store → D → List D → Option Slot} {fo : FD} (h : PE X e (tBM0 K T r (tR K E fo))) (p : PrimM K r g) : PE X e (tE K E (dMeth0 T g fo)) := PE.wk h fun σ H Q ⟨ρ, w, e1, ok, sr, a⟩ =>
  ⟨ρ, w, e1, ok, sr, a.bind.imp fun x w1 s1 a1 vx rx => by
    split at a1
    · rename_i ht
      obtain ⟨s, es, k⟩ := fin_of s1 a1
      exact ⟨ty_at s1.ok rx ht, p w1 vx x [] [] s Q s1.ok rx .nil es k⟩
    · exact a1.elim⟩
/-! ### slices -/
abbrev FO := EnvD → Store → R (Option Int)
def tO (K : PySem.W.Frag) (E : Wish) (f : FO) : TO := fun σ H Q => ∃ ρ w, w.H = H ∧ w.Ok K ∧ SR K w ρ σ ∧ After K E w (f ρ w.M) fun o w' => Q o w'.H
def dNo : FO := fun _ M => .ok none M
def dSo (f : FD) : FO := fun ρ M => (f ρ M).bind fun x M => match x with
  | .int i => .ok (some i) M
  | _ => .bad
theorem PO.wk {o : Option Expr} {t t' : TO} (h : PO X o t) (f : ∀ σ H Q, t' σ H Q → t σ H Q) : PO X o t' := ⟨fun pins s σ H Q I q => h.run pins s σ H Q I (f σ H Q q)⟩
theorem x_no : PO X none (tO K E dNo) := PO.wk po_none fun σ H Q ⟨ρ, w, e1, ok, sr, a⟩ => by
  subst e1
  exact a w (Step.refl ok) rfl
theorem x_so {f : FD} (h : PE X e (tR K E f)) : PO X (some e) (tO K E (dSo f)) := PO.wk (po_some h) fun σ H Q ⟨ρ, w, e1, ok, sr, a⟩ =>
  ⟨ρ, w, e1, ok, sr, a.bind.imp fun x w1 s1 a1 v rv => by
    split at a1
    · exact ⟨_, int_at rv, a1 w1 (Step.refl s1.ok) rfl⟩
    · exact a1.elim⟩
def PrimS (K : PySem.W.Frag) (r : V → Option Int → Option Int → Hp → VK → Prop) (g : Store → D → Option Int → Option Int → Option Slot) : Prop := ∀ (w : Wd) (vx : V) (x : D) (lo hi : Option Int) (s : Slot) (Q : VK), w.Ok K → RepB K w vx x → g w.M x lo hi = some s →
  (∀ v w', Step K w w' → w'.M = w.M → RepX K w w' v s → Q v w'.H) → r vx lo hi w.H Q
def dSl (g : Store → D → Option Int → Option Int → Option Slot) (f : FD) (lo hi : FO) : FE := fun ρ M => (f ρ M).bind fun x M => (lo ρ M).bind fun l M => (hi ρ M).bind fun u M => R.of (g M x l u) M
theorem x_sl {r : V → Option Int → Option Int → Hp → VK → Prop} {g : Store → D → Option Int → Option Int → Option Slot} {f : FD} {lo hi : FO} (h : PE X e (tSl r (tR K E f) (tO K E lo) (tO K E hi))) (p : PrimS K r g) : PE X e (tE K E (dSl g f lo hi)) := PE.wk h fun σ H Q ⟨ρ, w, e1, ok, sr, a⟩ =>
  ⟨ρ, w, e1, ok, sr, a.bind.imp fun x w1 s1 a1 vx rx => ⟨ρ, w1, rfl, s1.ok, sr.step s1, a1.bind.imp fun l w2 s2 a2 => ⟨ρ, w2, rfl, s2.ok, (sr.step s1).step s2, a2.bind.imp fun u w3 s3 a3 => by
    obtain ⟨s, es, k⟩ := fin_of ((s1.trans s2).trans s3) a3
    exact p w3 vx x l u s Q s3.ok ((rx.step s2).step s3) es k⟩⟩⟩
/-! ### calls of defs of the text -/
abbrev Fn := List D → Store → R Slot
/-- n: how many arguments; We: from the wish about an exception's class and dict to ours -/
def spD (K : PySem.W.Frag) (We : XK → Wish) (n : Nat) (m : Fn) : Sp := fun vs H Q EX => vs.length = n ∧ ∃ ds w, w.H = H ∧ w.Ok K ∧ RepL K w.A w.G vs ds ∧ After K (We EX) w (m ds w.M) fun s w' => ∀ v, RepX K w w' v s → Q v w'.H
def dCall (n : Nat) (m : Fn) (fs : FL) : FE := fun ρ M => (fs ρ M).bind fun ds M => if ds.length = n then m ds M else .bad
theorem x_call {We : XK → Wish} {n : Nat} {m : Fn} {EX : XK} {fs : FL} (hE : We EX = E) (h : PE X e (tCall (spD K We n m) [] EX (tAF K E fs))) : PE X e (tE K E (dCall n m fs)) := PE.wk h fun σ H Q ⟨ρ, w, e1, ok, sr, a⟩ =>
  ⟨ρ, w, e1, ok, sr, a.bind.imp fun ds w1 s1 a1 vs rvs => by
    split at a1
    · rename_i hn
      refine ⟨by rw [List.append_nil, rvs.length]; exact hn, ds, w1, rfl, s1.ok, by rw [List.append_nil]; exact rvs, ?_⟩
      rw [hE]
      exact a1.imp fun s w' _ z v rv => z v (rv.back s1)
    · exact a1.elim⟩
theorem x_call0 {We : XK → Wish} {m : Fn} {EX : XK} (hE : We EX = E) (h : PE X e (tCall (spD K We 0 m) [] EX tNil)) : PE X e (tE K E (dCall 0 m dNil)) := PE.wk h fun σ H Q ⟨ρ, w, e1, ok, sr, a⟩ => by
  subst e1
  refine ⟨rfl, [], w, rfl, ok, .nil, ?_⟩
  rw [hE]
  exact a
/-! ### what is walked -/
def Le (w w' : Wd) : Prop := w.A <+: w'.A ∧ Same w.G w'.G
theorem Le.refl (w : Wd) : Le w w := ⟨List.prefix_refl _, Same.refl _⟩
theorem Le.trans {w w1 w2 : Wd} (a : Le w w1) (b : Le w1 w2) : Le w w2 := ⟨a.1.trans b.1, a.2.trans b.2⟩
theorem Step.le {w w' : Wd} (s : Step K w w') : Le w w' := ⟨s.pre, s.fro⟩
theorem Le.rep {w w' : Wd} (s : Le w w') {v : V} {d : D} (h : Rep K w.A w.G v d) : Rep K w'.A w'.G v d := Rep.mono s.1 s.2 d v h
theorem Le.repL {w w' : Wd} (s : Le w w') {v : List V} {d : List D} (h : RepL K w.A w.G v d) : RepL K w'.A w'.G v d := RepL.mono s.1 s.2 d v h
/-- the iterator yields these things, whatever comes between, as long as what is frozen stays -/
def IterOk (K : PySem.W.Frag) (w : Wd) (J : It) (ds : List D) : Prop := ∀ w2, Le w w2 → w2.Ok K → ∀ i, (∀ d, ds[i]? = some d → J.go i w2.H ∧ ∀ x H', J.yld i w2.H x H' → ∃ w3, Step K w2 w3 ∧ w3.M = w2.M ∧ w3.H = H' ∧ Rep K w3.A w3.G x d) ∧ (ds.length ≤ i → J.stop i w2.H)
def tI (K : PySem.W.Frag) (E : Wish) (f : FL) : TI := fun σ H Q => ∃ ρ w, w.H = H ∧ w.Ok K ∧ SR K w ρ σ ∧ After K E w (f ρ w.M) fun ds w' => ∀ J, IterOk K w' J ds → Q J w'.H
theorem PI.wk {tg : Expr} {t t' : TI} (h : PI X tg e t) (f : ∀ σ H Q, t' σ H Q → t σ H Q) : PI X tg e t' := ⟨fun pins s σ H Q I q => h.run pins s σ H Q I (f σ H Q q)⟩
theorem PI.or {tg : Expr} {t t' : TI} (h : PI X tg e t) (h' : PI X tg e t') : PI X tg e (fun σ H Q => t σ H Q ∨ t' σ H Q) := ⟨fun pins s σ H Q I q => q.elim (h.run pins s σ H Q I) (h'.run pins s σ H Q I)⟩
/-- the items of a thing that is walked -/
def itemsD : D → Option (List D)
  | .lst ds => some ds
  | .fro ds => some ds
  | .tup ds => some ds
  | .kt ds => some ds
  | .str x => some (x.cps.toList.map fun c => .str ⟨#[c]⟩)
  | _ => none
def dIt (f : FD) : FL := fun ρ M => (f ρ M).bind fun x M => R.of (itemsD x) M
theorem it_list {w : Wd} {a : Addr} {vs : List V} {ds : List D} (hs : SqL K w.G a vs) (rl : RepL K w.A w.G vs ds) : IterOk K w (Itl K a) ds := fun w2 le ok2 i => by
  have h2 : SqL K w2.H a vs := ok2.sub.seq (le.2.seq hs)
  have r2 := le.repL rl
  refine ⟨fun d ed => ?_, fun hl => ⟨vs, h2, by rw [rl.length]; exact hl⟩⟩
  obtain ⟨v, ev, rv⟩ := r2.get ed
  refine ⟨⟨vs, v, h2, ev⟩, fun x H' y => ?_⟩
  obtain ⟨eH, y⟩ := y
  have := y vs h2
  rw [ev] at this
  cases this
  exact ⟨w2, Step.refl ok2, rfl, eH.symm, rv⟩
theorem it_tup {w : Wd} {a : Addr} {vs : List V} {ds : List D} (hs : SqT K w.G a vs) (rl : RepL K w.A w.G vs ds) : IterOk K w (Itt K a) ds := fun w2 le ok2 i => by
  have h2 : SqT K w2.H a vs := sqT_mono ok2.sub (sqT_mono le.2 hs)
  have r2 := le.repL rl
  refine ⟨fun d ed => ?_, fun hl => ⟨vs, h2, by rw [rl.length]; exact hl⟩⟩
  obtain ⟨v, ev, rv⟩ := r2.get ed
  refine ⟨⟨vs, v, h2, ev⟩, fun x H' y => ?_⟩
  obtain ⟨eH, y⟩ := y
  have := y vs h2
  rw [ev] at this
  cases this
  exact ⟨w2, Step.refl ok2, rfl, eH.symm, rv⟩
theorem it_str {w : Wd} (x : Str) : IterOk K w (Its x) (x.cps.toList.map fun c => .str ⟨#[c]⟩) := fun w2 le ok2 i => by
  refine ⟨fun d ed => ?_, fun hl => show x.cps.size ≤ i by simpa using hl⟩
  rw [List.getElem?_map] at ed
  cases q : x.cps.toList[i]? with
  | none => rw [q] at ed; cases ed
  | some c =>
    rw [q] at ed
    cases ed
    have q' : x.cps[i]? = some c := by simpa using q
    refine ⟨?_, fun v H' y => ?_⟩
    · have := (List.getElem?_eq_some_iff.mp q).1
      show i < x.cps.size
      simpa using this
    · obtain ⟨eH, c', ec, ev⟩ := y
      rw [q'] at ec
      cases ec
      subst ev
      exact ⟨w2, Step.refl ok2, rfl, eH.symm, .str _⟩
/-- lo, lo + 1, .. -/
def rngL (lo : Int) (n : Nat) : List D := (List.range n).map fun (i : Nat) => .int (lo + i)
theorem rngL_len (lo : Int) (n : Nat) : (rngL lo n).length = n := by simp [rngL]
theorem it_range {w : Wd} (lo : Int) (n : Nat) : IterOk K w (Itr lo n) (rngL lo n) := fun w2 le ok2 i => by
  refine ⟨fun d ed => ?_, fun hl => show n ≤ i by rw [rngL_len] at hl; exact hl⟩
  unfold rngL at ed
  rw [List.getElem?_map] at ed
  by_cases hi : i < n
  · rw [List.getElem?_range hi] at ed
    cases ed
    refine ⟨hi, fun v H' y => ?_⟩
    obtain ⟨eH, ev⟩ := y
    subst ev
    exact ⟨w2, Step.refl ok2, rfl, eH.symm, .int _⟩
  · rw [List.getElem?_eq_none (by simpa using hi)] at ed
    cases ed
theorem x_it {tg : Expr} {f : FD} (h : PI X tg e (fun σ H Q => iList K (tF K E f) σ H Q ∨ (iTup K (tF K E f) σ H Q ∨ iStr (tF K E f) σ H Q))) : PI X tg e (tI K E (dIt f)) := PI.wk h fun σ H Q ⟨ρ, w, e1, ok, sr, a⟩ => by
  have a1 := a.bind
  cases q : f ρ w.M with
  | bad => rw [q] at a1; exact a1.elim
  | exc c d M => rw [q] at a1; exact .inl ⟨ρ, w, e1, ok, sr, by rw [q]; exact a1⟩
  | ok x M =>
    rw [q] at a1
    cases x with
    | lst ds =>
      refine .inl ⟨ρ, w, e1, ok, sr, ?_⟩
      rw [q]
      intro w1 s1 eM v rv
      cases rv with
      | lst hs rl => exact ⟨_, rfl, ⟨_, .inl (.inl (s1.ok.sub _ _ hs))⟩, a1 w1 s1 eM w1 (Step.refl s1.ok) rfl _ (it_list (.inl (.inl hs)) rl)⟩
    | fro ds =>
      refine .inl ⟨ρ, w, e1, ok, sr, ?_⟩
      rw [q]
      intro w1 s1 eM v rv
      cases rv with
      | fro hs rl => exact ⟨_, rfl, ⟨_, s1.ok.sub.seq hs⟩, a1 w1 s1 eM w1 (Step.refl s1.ok) rfl _ (it_list hs rl)⟩
    | tup ds =>
      refine .inr (.inl ⟨ρ, w, e1, ok, sr, ?_⟩)
      rw [q]
      intro w1 s1 eM v rv
      cases rv with
      | tup hs rl => exact ⟨_, rfl, ⟨_, .inl (.inl (s1.ok.sub _ _ hs))⟩, a1 w1 s1 eM w1 (Step.refl s1.ok) rfl _ (it_tup (.inl (.inl hs)) rl)⟩
    | kt ds =>
      refine .inr (.inl ⟨ρ, w, e1, ok, sr, ?_⟩)
      rw [q]
      intro w1 s1 eM v rv
      cases rv with
      | kt hs rl => exact ⟨_, rfl, ⟨_, sqT_mono s1.ok.sub hs⟩, a1 w1 s1 eM w1 (Step.refl s1.ok) rfl _ (it_tup hs rl)⟩
    | str y =>
      refine .inr (.inr ⟨ρ, w, e1, ok, sr, ?_⟩)
      rw [q]
      intro w1 s1 eM v rv
      cases rv
      exact ⟨_, rfl, a1 w1 s1 eM w1 (Step.refl s1.ok) rfl _ (it_str y)⟩
    | non => exact (show After K E w (dIt f ρ w.M) _ from a) |> fun z => by rw [show dIt f ρ w.M = .bad by simp only [dIt, q, R.bind, itemsD, R.of]] at z; exact z.elim
    | bl b => exact (show After K E w (dIt f ρ w.M) _ from a) |> fun z => by rw [show dIt f ρ w.M = .bad by simp only [dIt, q, R.bind, itemsD, R.of]] at z; exact z.elim
    | int b => exact (show After K E w (dIt f ρ w.M) _ from a) |> fun z => by rw [show dIt f ρ w.M = .bad by simp only [dIt, q, R.bind, itemsD, R.of]] at z; exact z.elim
    | ref b => exact (show After K E w (dIt f ρ w.M) _ from a) |> fun z => by rw [show dIt f ρ w.M = .bad by simp only [dIt, q, R.bind, itemsD, R.of]] at z; exact z.elim
theorem RepBL.one {w : Wd} {vs : List V} {d : D} (h : RepBL K w vs [d]) : ∃ v, vs = [v] ∧ RepB K w v d := by
  cases h with
  | cons h1 h2 => cases h2; exact ⟨_, rfl, h1⟩
theorem RepBL.two {w : Wd} {vs : List V} {d d' : D} (h : RepBL K w vs [d, d']) : ∃ v v', vs = [v, v'] ∧ RepB K w v d ∧ RepB K w v' d' := by
  cases h with
  | cons h1 h2 =>
    cases h2 with
    | cons h2 h3 => cases h3; exact ⟨_, _, rfl, h1, h2⟩
/-- range(n), range(m, n) -/
def rng1D : List D → Option (List D)
  | [.int j] => if -(2 ^ 62) ≤ j ∧ j < 2 ^ 62 then some (rngL 0 j.toNat) else none
  | _ => none
def rng2D : List D → Option (List D)
  | [.int i, .int j] => if -(2 ^ 62) ≤ i ∧ i < 2 ^ 62 ∧ -(2 ^ 62) ≤ j ∧ j < 2 ^ 62 then some (rngL i (j - i).toNat) else none
  | _ => none
def dRng1 (fs : FL) : FL := fun ρ M => (fs ρ M).bind fun ds M => R.of (rng1D ds) M
def dRng2 (fs : FL) : FL := fun ρ M => (fs ρ M).bind fun ds M => R.of (rng2D ds) M
theorem x_rng1 {tg : Expr} {fs : FL} (h : PI X tg e (iRng1 (tAR K E fs))) : PI X tg e (tI K E (dRng1 fs)) := PI.wk h fun σ H Q ⟨ρ, w, e1, ok, sr, a⟩ =>
  ⟨ρ, w, e1, ok, sr, a.bind.imp fun ds w1 s1 a1 vs rvs => by
    obtain ⟨items, ei, k⟩ := a1.of (Step.refl s1.ok) rfl
    unfold rng1D at ei
    split at ei
    · rename_i j
      split at ei
      · rename_i hj
        cases ei
        obtain ⟨v, rfl, rv⟩ := rvs.one
        cases int_at rv
        exact ⟨j, rfl, hj.1, hj.2, k _ (it_range 0 j.toNat)⟩
      · cases ei
    · cases ei⟩
theorem x_rng2 {tg : Expr} {fs : FL} (h : PI X tg e (iRng2 (tAR K E fs))) : PI X tg e (tI K E (dRng2 fs)) := PI.wk h fun σ H Q ⟨ρ, w, e1, ok, sr, a⟩ =>
  ⟨ρ, w, e1, ok, sr, a.bind.imp fun ds w1 s1 a1 vs rvs => by
    obtain ⟨items, ei, k⟩ := a1.of (Step.refl s1.ok) rfl
    unfold rng2D at ei
    split at ei
    · rename_i i j
      split at ei
      · rename_i hj
        cases ei
        obtain ⟨v, v', rfl, rv, rv'⟩ := rvs.two
        cases int_at rv
        cases int_at rv'
        exact ⟨i, j, rfl, ⟨hj.1, hj.2.1, hj.2.2.1, hj.2.2.2⟩, k _ (it_range i _)⟩
      · cases ei
    · cases ei⟩
/-! ### targets -/
/-- b: how a thing is bound to names; is: the names' places -/
def OwnSub (ρ ρ' : EnvD) (σ σ' : St) : Prop := ∀ (j : Nat) (ds : List D), ρ'[j]? = some (.own ds) → ρ[j]? = some (.own ds) ∧ σ'[j]? = σ[j]?
theorem OwnSub.refl (ρ : EnvD) (σ : St) : OwnSub ρ ρ σ σ := fun _ _ h => ⟨h, rfl⟩
theorem OwnSub.trans {ρ ρ1 ρ2 : EnvD} {σ σ1 σ2 : St} (a : OwnSub ρ ρ1 σ σ1) (b : OwnSub ρ1 ρ2 σ1 σ2) : OwnSub ρ ρ2 σ σ2 := fun j ds h => by
  obtain ⟨h1, e1⟩ := b j ds h
  obtain ⟨h2, e2⟩ := a j ds h1
  exact ⟨h2, e1.trans e2⟩
theorem OwnSub.set (ρ : EnvD) (σ : St) (i : Nat) {s : Slot} (hs : ∀ ds, s ≠ .own ds) (v : Option V) : OwnSub ρ (ρ.set i s) σ (σ.set i v) := fun j ds h => by
  by_cases hj : i = j
  · subst hj
    have hi : i < ρ.length := by have := (List.getElem?_eq_some_iff.mp h).1; rwa [List.length_set] at this
    rw [List.getElem?_set_self hi] at h
    exact absurd (Option.some.inj h) (hs ds)
  · rw [List.getElem?_set_ne hj] at h ⊢
    exact ⟨h, rfl⟩
def tG (K : PySem.W.Frag) (b : D → EnvD → Option EnvD) (is : List Nat) : TG := fun v σ H Q => ∃ ρ w d ρ', w.H = H ∧ w.Ok K ∧ SR K w ρ σ ∧ Rep K w.A w.G v d ∧ b d ρ = some ρ' ∧ ∀ σ', SR K w ρ' σ' → OwnSub ρ ρ' σ σ' → (∀ j, j ∉ is → σ'[j]? = σ[j]?) → σ'.length = σ.length → Q σ' H
theorem PG.wk {tg : Expr} {t t' : TG} (h : PG X tg t) (f : ∀ v σ H Q, t' v σ H Q → t v σ H Q) : PG X tg t' := ⟨fun pins s σ H v u Q I r q => h.run pins s σ H v u Q I r (f v σ H Q q)⟩
theorem SR.set {w : Wd} {ρ : EnvD} {σ : St} (sr : SR K w ρ σ) (i : Nat) {v : V} {d : D} (r : Rep K w.A w.G v d) : SR K w (ρ.set i (.val d)) (σ.set i (some v)) := by
  refine ⟨by rw [List.length_set, List.length_set]; exact sr.len, fun j x h => ?_, fun j ds h => ?_, fun j k ds es p h1 h2 h3 h4 => ?_⟩
  · by_cases hj : i = j
    · subst hj
      have hi : i < ρ.length := by have := (List.getElem?_eq_some_iff.mp h).1; rwa [List.length_set] at this
      rw [List.getElem?_set_self hi] at h
      cases h
      exact ⟨v, List.getElem?_set_self (by rw [← sr.len]; exact hi), r⟩
    · rw [List.getElem?_set_ne hj] at h ⊢
      exact sr.val j x h
  · by_cases hj : i = j
    · subst hj
      have hi : i < ρ.length := by have := (List.getElem?_eq_some_iff.mp h).1; rwa [List.length_set] at this
      rw [List.getElem?_set_self hi] at h
      cases h
    · rw [List.getElem?_set_ne hj] at h ⊢
      exact sr.own j ds h
  · have nj : i ≠ j := fun hj => by
      subst hj
      have hi : i < ρ.length := by have := (List.getElem?_eq_some_iff.mp h1).1; rwa [List.length_set] at this
      rw [List.getElem?_set_self hi] at h1
      cases h1
    have nk : i ≠ k := fun hj => by
      subst hj
      have hi : i < ρ.length := by have := (List.getElem?_eq_some_iff.mp h2).1; rwa [List.length_set] at this
      rw [List.getElem?_set_self hi] at h2
      cases h2
    rw [List.getElem?_set_ne nj] at h1 h3
    rw [List.getElem?_set_ne nk] at h2 h4
    exact sr.dis j k ds es p h1 h2 h3 h4
def bName (i : Nat) : D → EnvD → Option EnvD := fun d ρ => some (ρ.set i (.val d))
theorem x_gname {tg : Expr} {i : Nat} (h : PG X tg (gName i)) : PG X tg (tG K (bName i) [i]) := PG.wk h fun v σ H Q ⟨ρ, w, d, ρ', e1, ok, sr, r, eb, k⟩ => by
  cases eb
  exact k _ (sr.set i r) (OwnSub.set ρ σ i (fun _ z => by cases z) _) (fun j hj => List.getElem?_set_ne (by simpa using fun z => hj (by simp [z]))) (by rw [List.length_set])
/-- several names -/
def bNames : List Nat → List D → EnvD → Option EnvD
  | [], [], ρ => some ρ
  | i :: is, d :: ds, ρ => bNames is ds (ρ.set i (.val d))
  | _, _, _ => none
def bTup (is : List Nat) : D → EnvD → Option EnvD := fun d ρ => match d with
  | .tup ds => bNames is ds ρ
  | _ => none
def gNames : List Nat → TGs
  | [] => gNil
  | i :: is => gCons (gName i) (gNames is)
theorem gNames_ok {w : Wd} {Q : St → Hp → Prop} (ok : w.Ok K) : ∀ (is : List Nat) (ds : List D) (vs : List V) (ρ ρ' : EnvD) (σ : St), SR K w ρ σ → RepL K w.A w.G vs ds → bNames is ds ρ = some ρ' →
    (∀ σ', SR K w ρ' σ' → OwnSub ρ ρ' σ σ' → (∀ j, j ∉ is → σ'[j]? = σ[j]?) → σ'.length = σ.length → Q σ' w.H) → gNames is vs σ w.H Q
  | [], [], _, ρ, ρ', σ, sr, rl, eb, k => by
    cases rl
    cases eb
    exact ⟨rfl, k σ sr (OwnSub.refl _ _) (fun _ _ => rfl) rfl⟩
  | i :: is, d :: ds, _, ρ, ρ', σ, sr, rl, eb, k => by
    cases rl with
    | cons r rl =>
      refine ⟨_, _, rfl, ?_⟩
      exact gNames_ok ok is ds _ _ ρ' _ (sr.set i r) rl eb fun σ' sr' os h1 h2 => k σ' sr' ((OwnSub.set ρ σ i (fun _ z => by cases z) _).trans os) (fun j hj => by
        rw [h1 j (fun z => hj (List.mem_cons_of_mem _ z)), List.getElem?_set_ne (fun z => hj (by rw [z]; exact List.mem_cons_self))]) (by rw [h2, List.length_set])
  | [], _ :: _, _, _, _, _, _, _, eb, _ => by cases eb
  | _ :: _, [], _, _, _, _, _, _, eb, _ => by cases eb
theorem bNames_len : ∀ {is : List Nat} {ds : List D} {ρ ρ' : EnvD}, bNames is ds ρ = some ρ' → is.length = ds.length
  | [], [], _, _, _ => rfl
  | _ :: is, _ :: ds, _, _, h => by rw [List.length_cons, List.length_cons, bNames_len (is := is) (ds := ds) h]
  | [], _ :: _, _, _, h => by cases h
  | _ :: _, [], _, _, h => by cases h
theorem x_gtup {tg : Expr} {is : List Nat} {n : Nat} (hn : n = is.length) (h : PG X tg (gTup K n (gNames is))) : PG X tg (tG K (bTup is) is) := PG.wk h fun v σ H Q ⟨ρ, w, d, ρ', e1, ok, sr, r, eb, k⟩ => by
  subst e1
  unfold bTup at eb
  split at eb
  · cases r with
    | tup hs rl =>
      refine ⟨_, _, rfl, .inl (.inl (ok.sub _ _ hs)), by rw [rl.length, ← bNames_len eb, hn], ?_⟩
      exact gNames_ok ok is _ _ ρ ρ' σ sr rl eb k
  · cases eb
/-! ### comprehensions -/
def wipeD (ρ : EnvD) : List Nat → EnvD
  | [] => ρ
  | v :: vs => (wipeD ρ vs).set v .un
theorem SR.wipe1 {w : Wd} {ρ : EnvD} {σ : St} (sr : SR K w ρ σ) (i : Nat) : SR K w (ρ.set i .un) (σ.set i none) := by
  have no : ∀ {j : Nat} {s : Slot}, s ≠ .un → (ρ.set i .un)[j]? = some s → i ≠ j := fun {j s} hs h hj => by
    subst hj
    have hi : i < ρ.length := by have := (List.getElem?_eq_some_iff.mp h).1; rwa [List.length_set] at this
    rw [List.getElem?_set_self hi] at h
    exact hs (Option.some.inj h).symm
  refine ⟨by rw [List.length_set, List.length_set]; exact sr.len, fun j x h => ?_, fun j ds h => ?_, fun j k ds es p h1 h2 h3 h4 => ?_⟩
  · have nj := no (fun z => by cases z) h
    rw [List.getElem?_set_ne nj] at h ⊢
    exact sr.val j x h
  · have nj := no (fun z => by cases z) h
    rw [List.getElem?_set_ne nj] at h ⊢
    exact sr.own j ds h
  · have nj := no (fun z => by cases z) h1
    have nk := no (fun z => by cases z) h2
    rw [List.getElem?_set_ne nj] at h1 h3
    rw [List.getElem?_set_ne nk] at h2 h4
    exact sr.dis j k ds es p h1 h2 h3 h4
theorem SR.wipe {w : Wd} {ρ : EnvD} {σ : St} (sr : SR K w ρ σ) : ∀ vs : List Nat, SR K w (wipeD ρ vs) (wipe σ vs)
  | [] => sr
  | v :: vs => (SR.wipe sr vs).wipe1 v
theorem wipe_get (τ : St) (vs : List Nat) (j : Nat) : (wipe τ vs)[j]? = if j ∈ vs then (if j < τ.length then some none else none) else τ[j]? := by
  induction vs with
  | nil => simp [wipe]
  | cons v vs ih =>
    unfold wipe
    by_cases hv : v = j
    · subst hv
      rw [if_pos List.mem_cons_self, List.getElem?_set, if_pos rfl, wipe_length]
    · rw [List.getElem?_set_ne hv, ih]
      by_cases hm : j ∈ vs
      · rw [if_pos hm, if_pos (List.mem_cons_of_mem _ hm)]
      · rw [if_neg hm, if_neg (by simp [hm, Ne.symm hv])]
theorem wipe_same {σ σ' : St} (hl : σ'.length = σ.length) (vs : List Nat) (h : ∀ j, j ∉ vs → σ'[j]? = σ[j]?) : wipe σ' vs = wipe σ vs := by
  apply List.ext_getElem?
  intro j
  rw [wipe_get, wipe_get, hl]
  by_cases hm : j ∈ vs
  · rw [if_pos hm, if_pos hm]
  · rw [if_neg hm, if_neg hm, h j hm]
theorem wipe_wipe (σ : St) (vs : List Nat) : wipe (wipe σ vs) vs = wipe σ vs := by
  refine wipe_same (wipe_length σ vs) vs fun j hj => ?_
  rw [wipe_get, if_neg hj]
abbrev E00 : Wish := fun _ _ _ => False
/-- the turns of a comprehension -/
def lcGo (b : D → EnvD → Option EnvD) (c : FB) (f : FD) (ρ0 : EnvD) : List D → List D → Store → R (List D)
  | [], acc, M => .ok acc M
  | d :: ds, acc, M => match b d ρ0 with
    | none => .bad
    | some ρ1 => match c ρ1 M with
      | .ok true M1 => match f ρ1 M1 with
        | .ok y M2 => if acc.length < sizeLine then lcGo b c f ρ0 ds (acc ++ [y]) M2 else .bad
        | _ => .bad
      | .ok false M1 => lcGo b c f ρ0 ds acc M1
      | _ => .bad
theorem lcGo_exc {b : D → EnvD → Option EnvD} {c : FB} {f : FD} {ρ0 : EnvD} {k : Nat} {x : D} {M' : Store} : ∀ (ds acc : List D) (M : Store), lcGo b c f ρ0 ds acc M ≠ .exc k x M'
  | [], _, _ => fun h => by cases h
  | d :: ds, acc, M => fun h => by
    unfold lcGo at h
    split at h
    · cases h
    · split at h
      · split at h
        · split at h
          · exact lcGo_exc ds _ _ h
          · cases h
        · cases h
      · exact lcGo_exc ds _ _ h
      · cases h
def dLc (fi : FL) (b : D → EnvD → Option EnvD) (c : FB) (f : FD) (vs : List Nat) : FE := fun ρ M => (fi ρ M).bind fun items M => (lcGo b c f (wipeD ρ vs) items [] M).map Slot.own
/-- what is wanted of the rest of the turns -/
def LcRest (K : PySem.W.Frag) (w0 : Wd) (D : Addr) (Q : VK) (r : R (List TP.D)) : Prop := match r with
  | .ok res M => ∀ w' vres, Step K w0 w' → w'.M = M → w'.H D = some (.lst vres) → w'.G D = none → D ∉ w'.A → RepL K w'.A w'.G vres res → Q (.ref D) w'.H
  | _ => False
theorem setOwn_ok {w : Wd} (h : w.Ok K) {p : Addr} {o o' : HO} (hp : w.H p = some o') (hG : w.G p = none) (hA : p ∉ w.A) : (⟨w.A, w.G, w.M, upd w.H p o⟩ : Wd).Ok K := by
  refine ⟨fun b u e => ?_, h.nd, h.len, h.out, fun k m e => ?_⟩
  · show upd w.H p o b = some u
    rw [upd_ne (ne_of_none e hG)]
    exact h.sub b u e
  · obtain ⟨a, ea, r⟩ := h.mos k m e
    have na : a ≠ p := fun z => hA (z ▸ List.mem_of_getElem? ea)
    refine ⟨a, ea, ?_⟩
    cases m with
    | lst ds => obtain ⟨vs, z, q⟩ := r; exact ⟨vs, by show upd w.H p o a = _; rw [upd_ne na]; exact z, q⟩
    | dK ds => obtain ⟨vs, z, q⟩ := r; exact ⟨vs, by show upd w.H p o a = _; rw [upd_ne na]; exact z, q⟩
    | dT ds => obtain ⟨vs, z, q⟩ := r; exact ⟨vs, by show upd w.H p o a = _; rw [upd_ne na]; exact z, q⟩
    | ins c fs => obtain ⟨vs, dx, z, q⟩ := r; exact ⟨vs, dx, by show upd w.H p o a = _; rw [upd_ne na]; exact z, q⟩
/-- an own thing that was not there at w0 is changed -/
theorem Step.setOwn {w0 w : Wd} (s : Step K w0 w) {p : Addr} {o o' : HO} (h0 : w0.H p = none) (hp : w.H p = some o') (hG : w.G p = none) (hA : p ∉ w.A) : Step K w0 ⟨w.A, w.G, w.M, upd w.H p o⟩ :=
  ⟨setOwn_ok s.ok hp hG hA, s.pre, s.fro, fun q u h1 h2 h3 => by
    obtain ⟨a, b, c⟩ := s.keep q u h1 h2 h3
    exact ⟨by show upd w.H p o q = some u; rw [upd_ne (ne_of_none h1 h0)]; exact a, b, c⟩⟩
theorem lc_le {fi : FL} {b : D → EnvD → Option EnvD} {is : List Nat} {c : FB} {f : FD} {vs : List Nat} (hv : ∀ i ∈ is, i ∈ vs) (σ : St) (H : Hp) (Q : VK) : tE K E (dLc fi b c f vs) σ H Q → tLc (tI K E fi) (tG K b is) (tT K E00 c) (tF K E00 f) vs σ H Q := fun ⟨ρ, w, e1, ok, sr, a⟩ =>
  ⟨ρ, w, e1, ok, sr, a.bind.imp fun items w1 s1 a1 J hJ Dl hD => by
    have s0 := s1.ok.fresh0 hD (.lst [])
    have hG1 : w1.G Dl = none := s1.ok.sub.free hD
    have hA1 := s1.ok.notA hD
    have a2 : LcRest K w1 Dl Q (lcGo b c f (wipeD ρ vs) items [] w1.M) := by
      have a2 := a1.map
      revert a2
      cases q : lcGo b c f (wipeD ρ vs) items [] w1.M with
      | bad => exact fun z => z
      | exc c d M => exact absurd q (lcGo_exc _ _ _)
      | ok res M => exact fun z w' vres st eM hH hG hA rl => z w' st eM _ ⟨Dl, vres, rfl, s1.free hD, hH, hG, hA, rl⟩
    refine ⟨fun i m H => m = items.length - i ∧ i ≤ items.length ∧ ∃ w acc vacc, w.H = H ∧ Step K w1 w ∧ w.H Dl = some (.lst vacc) ∧ w.G Dl = none ∧ Dl ∉ w.A ∧ RepL K w.A w.G vacc acc ∧ LcRest K w1 Dl Q (lcGo b c f (wipeD ρ vs) (items.drop i) acc w.M),
      ⟨items.length, by simp, Nat.zero_le _, _, [], [], rfl, s0, upd_same, hG1, hA1, .nil, by simpa using a2⟩, ?_⟩
    rintro i m H ⟨rfl, hi, w2, acc, vacc, rfl, s2, hH2, hG2, hA2, rl2, rest⟩
    by_cases hlt : i < items.length
    · have ed : items[i]? = some items[i] := List.getElem?_eq_getElem hlt
      rw [List.drop_eq_getElem_cons hlt] at rest
      obtain ⟨go, yl⟩ := (hJ w2 s2.le s2.ok i).1 _ ed
      refine .inr ⟨go, fun H' => i + 1 ≤ items.length ∧ ∃ w acc vacc, w.H = H' ∧ Step K w1 w ∧ w.H Dl = some (.lst vacc) ∧ w.G Dl = none ∧ Dl ∉ w.A ∧ RepL K w.A w.G vacc acc ∧ LcRest K w1 Dl Q (lcGo b c f (wipeD ρ vs) (items.drop (i + 1)) acc w.M),
        fun H' ⟨h1, h2⟩ => ⟨_, by omega, rfl, h1, h2⟩, fun x H' hy => ?_⟩
      obtain ⟨w3, s3, eM3, rfl, rx⟩ := yl x H' hy
      unfold lcGo at rest
      cases eb : b items[i] (wipeD ρ vs) with
      | none => rw [eb] at rest; exact rest.elim
      | some ρ1 =>
        rw [eb] at rest
        simp only at rest
        have sr3 : SR K w3 (wipeD ρ vs) (wipe σ vs) := (((sr.step s1).step s2).step s3).wipe vs
        refine ⟨wipeD ρ vs, w3, items[i], ρ1, rfl, s3.ok, sr3, rx, eb, fun σ' sr' _ h1 h2 => ⟨?_, ?_⟩⟩
        · have e2 := wipe_same h2 vs (fun j hj => h1 j (fun z => hj (hv j z)))
          rw [e2]
          exact wipe_wipe σ vs
        · refine ⟨ρ1, w3, rfl, s3.ok, sr', ?_⟩
          have s13 : Step K w1 w3 := s2.trans s3
          obtain ⟨hH3, hG3, hA3⟩ := s3.keep Dl _ hH2 hG2 hA2
          rw [eM3]
          cases ec : c ρ1 w2.M with
          | bad => rw [ec] at rest; exact rest.elim
          | exc _ _ _ => rw [ec] at rest; exact rest.elim
          | ok t M1 =>
            rw [ec] at rest
            intro w4 s4 eM4
            obtain ⟨hH4, hG4, hA4⟩ := s4.keep Dl _ hH3 hG3 hA3
            cases t with
            | false =>
              refine iteF ⟨hlt, w4, acc, vacc, rfl, s13.trans s4, hH4, hG4, hA4, (s3.trans s4).repL rl2, ?_⟩
              rw [eM4]
              exact rest
            | true =>
              refine iteT ⟨ρ1, w4, rfl, s4.ok, sr'.step s4, ?_⟩
              simp only at rest
              rw [eM4]
              cases ef : f ρ1 M1 with
              | bad => rw [ef] at rest; exact rest.elim
              | exc _ _ _ => rw [ef] at rest; exact rest.elim
              | ok y M2 =>
                rw [ef] at rest
                intro w5 s5 eM5 v rv
                obtain ⟨hH5, hG5, hA5⟩ := s5.keep Dl _ hH4 hG4 hA4
                have rl5 : RepL K w5.A w5.G vacc acc := ((s3.trans s4).trans s5).repL rl2
                simp only at rest
                split at rest
                · rename_i hz
                  refine ⟨vacc, hH5, by rw [rl5.length]; exact hz, hlt, ⟨w5.A, w5.G, w5.M, upd w5.H Dl (.lst (vacc ++ [v]))⟩, acc ++ [y], vacc ++ [v], rfl, ((s13.trans s4).trans s5).setOwn hD hH5 hG5 hA5, upd_same, hG5, hA5, rl5.append (.one rv), ?_⟩
                  show LcRest K w1 Dl Q (lcGo b c f (wipeD ρ vs) (items.drop (i + 1)) (acc ++ [y]) w5.M)
                  rw [eM5]
                  exact rest
                · exact rest.elim
    · have ei : i = items.length := by omega
      subst ei
      rw [List.drop_length] at rest
      exact .inl ⟨(hJ w2 s2.le s2.ok _).2 (Nat.le_refl _), rest w2 vacc s2 rfl hH2 hG2 hA2 rl2⟩⟩
theorem x_lc {fi : FL} {b : D → EnvD → Option EnvD} {is : List Nat} {c : FB} {f : FD} {vs : List Nat} (hv : ∀ i ∈ is, i ∈ vs) (h : PE X e (tLc (tI K E fi) (tG K b is) (tT K E00 c) (tF K E00 f) vs)) : PE X e (tE K E (dLc fi b c f vs)) := PE.wk h (lc_le hv)
end
end TP
/-! TPe: statements. -/
namespace TP
open PySem L2
inductive Out where
  | next (ρ : EnvD) (M : Store) | ret (s : Slot) (M : Store) | brk (ρ : EnvD) (M : Store) | cont (ρ : EnvD) (M : Store) | exc (c : Nat) (d : D) (M : Store) | bad
abbrev FS := EnvD → Store → Out
section
variable (K : PySem.W.Frag) (E : Wish)
/-- own lists were not there at the def's entry -/
def OF (w0 : Wd) (ρ : EnvD) (σ : St) : Prop := ∀ (i : Nat) (ds : List D) (p : Addr), ρ[i]? = some (.own ds) → σ[i]? = some (some (.ref p)) → w0.H p = none
def PostS (w0 ws : Wd) (D : Ends) : Out → Prop
  | .next ρ M => ∀ w σ, Step K w0 w → Le ws w → w.M = M → SR K w ρ σ → OF w0 ρ σ → D.nx σ w.H
  | .brk ρ M => ∀ w σ, Step K w0 w → Le ws w → w.M = M → SR K w ρ σ → OF w0 ρ σ → D.bk σ w.H
  | .cont ρ M => ∀ w σ, Step K w0 w → Le ws w → w.M = M → SR K w ρ σ → OF w0 ρ σ → D.ct σ w.H
  | .ret s M => ∀ w v, Step K w0 w → w.M = M → RepX K w0 w v s → D.rt v w.H
  | .exc c d M => ∀ w, Step K w0 w → w.M = M → E c d w
  | .bad => False
def tS (g : FS) : TS := fun D σ H => ∃ ρ w w0, w.H = H ∧ Step K w0 w ∧ SR K w ρ σ ∧ OF w0 ρ σ ∧ PostS K E w0 w D (g ρ w.M)
end
section
variable {K : PySem.W.Frag} {E : Wish} {X : Cx} {st : Stmt} {sts : List Stmt}
theorem PostS.later {w0 ws w1 : Wd} {D : Ends} {o : Out} (h : PostS K E w0 ws D o) (l : Le ws w1) : PostS K E w0 w1 D o := by
  cases o with
  | next ρ M => exact fun w σ a b => h w σ a (l.trans b)
  | brk ρ M => exact fun w σ a b => h w σ a (l.trans b)
  | cont ρ M => exact fun w σ a b => h w σ a (l.trans b)
  | ret s M => exact h
  | exc c d M => exact h
  | bad => exact h
theorem OF.sub {w0 : Wd} {ρ ρ' : EnvD} {σ σ' : St} (h : OF w0 ρ σ) (o : OwnSub ρ ρ' σ σ') : OF w0 ρ' σ' := fun i ds p h1 h2 => by
  obtain ⟨a, b⟩ := o i ds h1
  rw [b] at h2
  exact h i ds p a h2
/-! ### blocks -/
def sNil : FS := fun ρ M => .next ρ M
def sSeq (g h : FS) : FS := fun ρ M => match g ρ M with
  | .next ρ M => h ρ M
  | o => o
theorem s_nil (h : PSs X [] tNext) : PSs X [] (tS K E sNil) := PSs.wk h fun D σ H ⟨ρ, w, w0, e1, s, sr, of, p⟩ => by
  subst e1
  exact p w σ s (Le.refl w) rfl sr of
theorem s_seq {g h : FS} (hh : PSs X sts (tSeq (tS K E g) (tS K E h))) : PSs X sts (tS K E (sSeq g h)) := PSs.wk hh fun D σ H ⟨ρ, w, w0, e1, s, sr, of, p⟩ => by
  refine ⟨ρ, w, w0, e1, s, sr, of, ?_⟩
  unfold sSeq at p
  cases q : g ρ w.M with
  | next ρ' M' =>
    rw [q] at p
    intro w1 σ1 s1 l1 e2 sr1 of1
    refine ⟨ρ', w1, w0, rfl, s1, sr1, of1, ?_⟩
    rw [e2]
    exact PostS.later p l1
  | ret x M' => rw [q] at p; exact p
  | brk x M' => rw [q] at p; exact p
  | cont x M' => rw [q] at p; exact p
  | exc c d M' => rw [q] at p; exact p
  | bad => rw [q] at p; exact p
theorem s_pass (h : PS X st tNext) : PS X st (tS K E sNil) := PS.wk h fun D σ H ⟨ρ, w, w0, e1, s, sr, of, p⟩ => by
  subst e1
  exact p w σ s (Le.refl w) rfl sr of
def sBreak : FS := fun ρ M => .brk ρ M
def sCont : FS := fun ρ M => .cont ρ M
theorem s_break (h : PS X st tBreak) : PS X st (tS K E sBreak) := PS.wk h fun D σ H ⟨ρ, w, w0, e1, s, sr, of, p⟩ => by
  subst e1
  exact p w σ s (Le.refl w) rfl sr of
theorem s_cont (h : PS X st tCont) : PS X st (tS K E sCont) := PS.wk h fun D σ H ⟨ρ, w, w0, e1, s, sr, of, p⟩ => by
  subst e1
  exact p w σ s (Le.refl w) rfl sr of
/-- an expression's answer, then -/
def R.out {α : Type} (r : R α) (k : α → Store → Out) : Out := match r with
  | .ok a M => k a M
  | .exc c d M => .exc c d M
  | .bad => .bad
theorem out_after {α : Type} {w0 w : Wd} {D : Ends} {r : R α} {k : α → Store → Out} (s : Step K w0 w) (p : PostS K E w0 w D (r.out k)) : After K E w r fun a w' => PostS K E w0 w' D (k a w'.M) := by
  cases r with
  | bad => exact p
  | exc c d M => exact fun w' s' e => p w' (s.trans s') e
  | ok a M =>
    intro w' s' e
    have p' : PostS K E w0 w D (k a M) := p
    rw [e]
    exact p'.later s'.le
def sExpr (f : FE) : FS := fun ρ M => (f ρ M).out fun _ M => .next ρ M
theorem s_expr {f : FE} (h : PS X st (tDrop (tE K E f))) : PS X st (tS K E (sExpr f)) := PS.wk h fun D σ H ⟨ρ, w, w0, e1, s, sr, of, p⟩ =>
  ⟨ρ, w, e1, s.ok, sr, (out_after s p).imp fun x w1 s1 p1 v rv => p1 w1 σ (s.trans s1) (Le.refl _) rfl (sr.step s1) of⟩
def sRet (f : FE) : FS := fun ρ M => (f ρ M).out fun x M => .ret x M
theorem s_ret {f : FE} (h : PS X st (tRet (tE K E f))) : PS X st (tS K E (sRet f)) := PS.wk h fun D σ H ⟨ρ, w, w0, e1, s, sr, of, p⟩ =>
  ⟨ρ, w, e1, s.ok, sr, (out_after s p).imp fun x w1 s1 p1 v rv => p1 w1 v (s.trans s1) rfl (rv.back s)⟩
def sRetN : FS := fun _ M => .ret (.val .non) M
theorem s_retN (h : PS X st tRetN) : PS X st (tS K E sRetN) := PS.wk h fun D σ H ⟨ρ, w, w0, e1, s, sr, of, p⟩ => by
  subst e1
  exact p w .non s rfl .non
/-- return x, x perhaps a list of one's own -/
def sRetV (i : Nat) : FS := fun ρ M => match ρ[i]? with
  | some (.val d) => .ret (.val d) M
  | some (.own ds) => .ret (.own ds) M
  | _ => .bad
theorem s_retV {i : Nat} (h : PS X st (tRet (tVar i))) : PS X st (tS K E (sRetV i)) := PS.wk h fun D σ H ⟨ρ, w, w0, e1, s, sr, of, p⟩ => by
  subst e1
  unfold sRetV at p
  split at p
  · rename_i d e2
    obtain ⟨v, h1, h2⟩ := sr.val i d e2
    exact ⟨v, h1, p w v s rfl h2⟩
  · rename_i ds e2
    obtain ⟨q, vs, h1, h2, h3, h4, h5⟩ := sr.own i ds e2
    exact ⟨_, h1, p w _ s rfl ⟨q, vs, rfl, of i ds q e2 h1, h2, h3, h4, h5⟩⟩
  · exact p.elim
theorem SR.setOwn {w w' : Wd} {ρ : EnvD} {σ : St} (sr : SR K w ρ σ) (st : Step K w w') (i : Nat) {v : V} {ds : List D} (r : RepX K w w' v (.own ds)) : SR K w' (ρ.set i (.own ds)) (σ.set i (some v)) := by
  obtain ⟨p, vs, rfl, h0, hH, hG, hA, rl⟩ := r
  have sr' := sr.step st
  have other : ∀ (j : Nat) (es : List D), i ≠ j → ρ[j]? = some (.own es) → σ[j]? ≠ some (some (.ref p)) := fun j es hj h1 h2 => by
    obtain ⟨q, us, a, b, _⟩ := sr.own j es h1
    rw [a] at h2
    cases h2
    rw [h0] at b
    cases b
  refine ⟨by rw [List.length_set, List.length_set]; exact sr.len, fun j x h => ?_, fun j es h => ?_, fun j k ds1 es q h1 h2 h3 h4 => ?_⟩
  · by_cases hj : i = j
    · subst hj
      have hi : i < ρ.length := by have := (List.getElem?_eq_some_iff.mp h).1; rwa [List.length_set] at this
      rw [List.getElem?_set_self hi] at h
      cases h
    · rw [List.getElem?_set_ne hj] at h ⊢
      exact sr'.val j x h
  · by_cases hj : i = j
    · subst hj
      have hi : i < ρ.length := by have := (List.getElem?_eq_some_iff.mp h).1; rwa [List.length_set] at this
      rw [List.getElem?_set_self hi] at h
      cases h
      exact ⟨p, vs, List.getElem?_set_self (by rw [← sr.len]; exact hi), hH, hG, hA, rl⟩
    · rw [List.getElem?_set_ne hj] at h ⊢
      exact sr'.own j es h
  · by_cases hj : i = j
    · by_cases hk : i = k
      · rw [← hj, ← hk]
      · subst hj
        have hi : i < ρ.length := by have := (List.getElem?_eq_some_iff.mp h1).1; rwa [List.length_set] at this
        rw [List.getElem?_set_self (by rw [← sr.len]; exact hi)] at h3
        cases h3
        rw [List.getElem?_set_ne hk] at h2 h4
        exact absurd h4 (other k es hk h2)
    · by_cases hk : i = k
      · subst hk
        have hi : i < ρ.length := by have := (List.getElem?_eq_some_iff.mp h2).1; rwa [List.length_set] at this
        rw [List.getElem?_set_self (by rw [← sr.len]; exact hi)] at h4
        cases h4
        rw [List.getElem?_set_ne hj] at h1 h3
        exact absurd h3 (other j ds1 hj h1)
      · rw [List.getElem?_set_ne hj] at h1 h3
        rw [List.getElem?_set_ne hk] at h2 h4
        exact sr'.dis j k ds1 es q h1 h2 h3 h4
theorem OF.setOwn {w0 w w' : Wd} {ρ : EnvD} {σ : St} (of : OF w0 ρ σ) (s : Step K w0 w) (i : Nat) {v : V} {ds : List D} (r : RepX K w w' v (.own ds)) : OF w0 (ρ.set i (.own ds)) (σ.set i (some v)) := fun j es p h1 h2 => by
  obtain ⟨q, vs, rfl, h0, _⟩ := r
  by_cases hj : i = j
  · subst hj
    have hi : i < σ.length := by have := (List.getElem?_eq_some_iff.mp h2).1; rwa [List.length_set] at this
    rw [List.getElem?_set_self hi] at h2
    cases h2
    exact s.free h0
  · rw [List.getElem?_set_ne hj] at h1 h2
    exact of j es p h1 h2
/-- name = value -/
def sSet (i : Nat) (f : FE) : FS := fun ρ M => (f ρ M).out fun x M => match x with
  | .un => .bad
  | x => .next (ρ.set i x) M
theorem s_set {i : Nat} {f : FE} (h : PS X st (tAsg (tE K E f) (gName i))) : PS X st (tS K E (sSet i f)) := PS.wk h fun D σ H ⟨ρ, w, w0, e1, s, sr, of, p⟩ =>
  ⟨ρ, w, e1, s.ok, sr, (out_after s p).imp fun x w1 s1 p1 v rv => by
    cases x with
    | un => exact rv.elim
    | val d => exact p1 w1 _ (s.trans s1) (Le.refl _) rfl ((sr.step s1).set i rv) (of.sub (OwnSub.set ρ σ i (fun _ z => by cases z) _))
    | own ds => exact p1 w1 _ (s.trans s1) (Le.refl _) rfl (sr.setOwn s1 i rv) (of.setOwn s i rv)⟩
/-- target = value -/
def sAsg (b : D → EnvD → Option EnvD) (f : FD) : FS := fun ρ M => (f ρ M).out fun x M => match b x ρ with
  | some ρ' => .next ρ' M
  | none => .bad
theorem s_asg {b : D → EnvD → Option EnvD} {is : List Nat} {f : FD} (h : PS X st (tAsg (tF K E f) (tG K b is))) : PS X st (tS K E (sAsg b f)) := PS.wk h fun D σ H ⟨ρ, w, w0, e1, s, sr, of, p⟩ =>
  ⟨ρ, w, e1, s.ok, sr, (out_after s p).imp fun x w1 s1 p1 v rv => by
    cases eb : b x ρ with
    | none => rw [eb] at p1; exact p1.elim
    | some ρ' =>
      rw [eb] at p1
      exact ⟨ρ, w1, x, ρ', rfl, s1.ok, sr.step s1, rv, eb, fun σ' sr' os _ _ => p1 w1 σ' (s.trans s1) (Le.refl _) rfl sr' (of.sub os)⟩⟩
/-- a, b = x, y by swapped stores: both values frozen or of their own kind -/
def sPar (i j : Nat) (fs : FL) : FS := fun ρ M => (fs ρ M).out fun ds M => match ds with
  | [x, y] => .next ((ρ.set i (.val x)).set j (.val y)) M
  | _ => .bad
theorem s_par {i j : Nat} {fs : FL} (h : PS X st (tPar i j (tAF K E fs))) : PS X st (tS K E (sPar i j fs)) := PS.wk h fun D σ H ⟨ρ, w, w0, e1, s, sr, of, p⟩ =>
  ⟨ρ, w, e1, s.ok, sr, (out_after s p).imp fun ds w1 s1 p1 vs rvs => by
    split at p1
    · cases rvs with
      | cons r1 r2 =>
        cases r2 with
        | cons r2 r3 =>
          cases r3
          refine ⟨_, _, rfl, p1 w1 _ (s.trans s1) (Le.refl _) rfl (((sr.step s1).set i r1).set j r2) (of.sub ((OwnSub.set ρ σ i (fun _ z => by cases z) _).trans (OwnSub.set _ _ j (fun _ z => by cases z) _)))⟩
    · exact p1.elim⟩
/-! ### if -/
def sIf (c : FB) (g h : FS) : FS := fun ρ M => (c ρ M).out fun b M => if b then g ρ M else h ρ M
theorem s_if {c : FB} {g h : FS} (hh : PS X st (tIfS (tT K E c) (tS K E g) (tS K E h))) : PS X st (tS K E (sIf c g h)) := PS.wk hh fun D σ H ⟨ρ, w, w0, e1, s, sr, of, p⟩ =>
  ⟨ρ, w, e1, s.ok, sr, (out_after s p).imp fun b w1 s1 p1 => by
    cases b with
    | true => exact iteT ⟨ρ, w1, w0, rfl, s.trans s1, sr.step s1, of, p1⟩
    | false => exact iteF ⟨ρ, w1, w0, rfl, s.trans s1, sr.step s1, of, p1⟩⟩
/-! ### loops -/
def forGo (b : D → EnvD → Option EnvD) (body : FS) : List D → EnvD → Store → Out
  | [], ρ, M => .next ρ M
  | d :: ds, ρ, M => match b d ρ with
    | none => .bad
    | some ρ1 => match body ρ1 M with
      | .next ρ2 M2 => forGo b body ds ρ2 M2
      | .cont ρ2 M2 => forGo b body ds ρ2 M2
      | .brk ρ2 M2 => .next ρ2 M2
      | o => o
def sFor (fi : FL) (b : D → EnvD → Option EnvD) (body : FS) : FS := fun ρ M => (fi ρ M).out fun items M => forGo b body items ρ M
theorem s_for {fi : FL} {b : D → EnvD → Option EnvD} {is : List Nat} {body : FS} (h : PS X st (tFor (tI K E fi) (tG K b is) (tS K E body))) : PS X st (tS K E (sFor fi b body)) := PS.wk h fun D σ H ⟨ρ, w, w0, e1, s, sr, of, p⟩ =>
  ⟨ρ, w, e1, s.ok, sr, (out_after s p).imp fun items w1 s1 p1 J hJ => by
    refine ⟨fun i m σ H => m = items.length - i ∧ i ≤ items.length ∧ ∃ ρ w, w.H = H ∧ Step K w0 w ∧ Le w1 w ∧ SR K w ρ σ ∧ OF w0 ρ σ ∧ PostS K E w0 w D (forGo b body (items.drop i) ρ w.M),
      ⟨items.length, by simp, Nat.zero_le _, ρ, w1, rfl, s.trans s1, Le.refl _, sr.step s1, of, by simpa using p1⟩, ?_⟩
    rintro i m σ2 H2 ⟨rfl, hi, ρ2, w2, rfl, s2, l2, sr2, of2, p2⟩
    by_cases hlt : i < items.length
    · have ed : items[i]? = some items[i] := List.getElem?_eq_getElem hlt
      rw [List.drop_eq_getElem_cons hlt] at p2
      obtain ⟨go, yl⟩ := (hJ w2 l2 s2.ok i).1 _ ed
      refine .inr ⟨go, fun σ' H' => i + 1 ≤ items.length ∧ ∃ ρ w, w.H = H' ∧ Step K w0 w ∧ Le w1 w ∧ SR K w ρ σ' ∧ OF w0 ρ σ' ∧ PostS K E w0 w D (forGo b body (items.drop (i + 1)) ρ w.M),
        fun σ' H' ⟨h1, h2⟩ => ⟨_, by omega, rfl, h1, h2⟩, fun x H' hy => ?_⟩
      obtain ⟨w3, s3, eM3, rfl, rx⟩ := yl x H' hy
      unfold forGo at p2
      cases eb : b items[i] ρ2 with
      | none => rw [eb] at p2; exact p2.elim
      | some ρ1 =>
        rw [eb] at p2
        simp only at p2
        refine ⟨ρ2, w3, items[i], ρ1, rfl, s3.ok, sr2.step s3, rx, eb, fun σ' sr' os _ _ => ?_⟩
        refine ⟨ρ1, w3, w0, rfl, s2.trans s3, sr', of2.sub os, ?_⟩
        rw [eM3]
        cases q : body ρ1 w2.M with
        | next ρ4 M4 =>
          rw [q] at p2
          intro w5 σ5 s5 l5 e5 sr5 of5
          refine ⟨hlt, ρ4, w5, rfl, s5, (l2.trans s3.le).trans l5, sr5, of5, ?_⟩
          rw [e5]
          exact PostS.later p2 (s3.le.trans l5)
        | cont ρ4 M4 =>
          rw [q] at p2
          intro w5 σ5 s5 l5 e5 sr5 of5
          refine ⟨hlt, ρ4, w5, rfl, s5, (l2.trans s3.le).trans l5, sr5, of5, ?_⟩
          rw [e5]
          exact PostS.later p2 (s3.le.trans l5)
        | brk ρ4 M4 =>
          rw [q] at p2
          intro w5 σ5 s5 l5 e5 sr5 of5
          exact p2 w5 σ5 s5 (s3.le.trans l5) e5 sr5 of5
        | ret x M4 => rw [q] at p2; exact p2
        | exc c d M4 => rw [q] at p2; exact p2
        | bad => rw [q] at p2; exact p2
    · have ei : i = items.length := by omega
      subst ei
      rw [List.drop_length] at p2
      exact .inl ⟨(hJ w2 l2 s2.ok _).2 (Nat.le_refl _), p2 w2 σ2 s2 (Le.refl _) rfl sr2 of2⟩⟩
/-- while, n turns at most -/
def whGo (c : FB) (body : FS) : Nat → EnvD → Store → Out
  | 0, _, _ => .bad
  | n + 1, ρ, M => match c ρ M with
    | .ok true M1 => match body ρ M1 with
      | .next ρ2 M2 => whGo c body n ρ2 M2
      | .cont ρ2 M2 => whGo c body n ρ2 M2
      | .brk ρ2 M2 => .next ρ2 M2
      | o => o
    | .ok false M1 => .next ρ M1
    | .exc k d M1 => .exc k d M1
    | .bad => .bad
def sWhile (n : Nat) (c : FB) (body : FS) : FS := fun ρ M => whGo c body n ρ M
theorem s_while {n : Nat} {c : FB} {body : FS} (h : PS X st (tWhile (tT K E c) (tS K E body))) : PS X st (tS K E (sWhile n c body)) := PS.wk h fun D σ H ⟨ρ, w, w0, e1, s, sr, of, p⟩ => by
  refine ⟨fun m σ H => ∃ ρ w, w.H = H ∧ Step K w0 w ∧ SR K w ρ σ ∧ OF w0 ρ σ ∧ PostS K E w0 w D (whGo c body m ρ w.M), ⟨n, ρ, w, e1, s, sr, of, p⟩, ?_⟩
  rintro m σ2 H2 ⟨ρ2, w2, rfl, s2, sr2, of2, p2⟩
  refine ⟨ρ2, w2, rfl, s2.ok, sr2, ?_⟩
  cases m with
  | zero => exact p2.elim
  | succ m =>
    unfold whGo at p2
    cases q : c ρ2 w2.M with
    | bad => rw [q] at p2; exact p2
    | exc k d M1 => rw [q] at p2; exact fun w' s' e => p2 w' (s2.trans s') e
    | ok b M1 =>
      rw [q] at p2
      intro w3 s3 e3
      cases b with
      | false => exact iteF (p2 w3 σ2 (s2.trans s3) s3.le e3 (sr2.step s3) of2)
      | true =>
        refine iteT ⟨fun σ' H' => ∃ ρ w, w.H = H' ∧ Step K w0 w ∧ SR K w ρ σ' ∧ OF w0 ρ σ' ∧ PostS K E w0 w D (whGo c body m ρ w.M), fun σ' H' z => ⟨m, Nat.lt_succ_self _, z⟩, ρ2, w3, w0, rfl, s2.trans s3, sr2.step s3, of2, ?_⟩
        rw [e3]
        simp only at p2
        cases q2 : body ρ2 M1 with
        | next ρ4 M4 =>
          rw [q2] at p2
          intro w5 σ5 s5 l5 e5 sr5 of5
          refine ⟨ρ4, w5, rfl, s5, sr5, of5, ?_⟩
          rw [e5]
          exact PostS.later p2 (s3.le.trans l5)
        | cont ρ4 M4 =>
          rw [q2] at p2
          intro w5 σ5 s5 l5 e5 sr5 of5
          refine ⟨ρ4, w5, rfl, s5, sr5, of5, ?_⟩
          rw [e5]
          exact PostS.later p2 (s3.le.trans l5)
        | brk ρ4 M4 =>
          rw [q2] at p2
          intro w5 σ5 s5 l5 e5 sr5 of5
          exact p2 w5 σ5 s5 (s3.le.trans l5) e5 sr5 of5
        | ret x M4 => rw [q2] at p2; exact p2
        | exc c d M4 => rw [q2] at p2; exact p2
        | bad => rw [q2] at p2; exact p2
/-! ### a list of one's own -/
/-- it is changed at its place -/
theorem SR.change {w0 w : Wd} {ρ : EnvD} {σ : St} (s : Step K w0 w) (sr : SR K w ρ σ) (of : OF w0 ρ σ) {i : Nat} {ds ds' : List D} {p : Addr} {vs vs' : List V} (hi : ρ[i]? = some (.own ds)) (hp : σ[i]? = some (some (.ref p))) (r : RepL K w.A w.G vs' ds') :
    Step K w0 ⟨w.A, w.G, w.M, upd w.H p (.lst vs')⟩ ∧ SR K ⟨w.A, w.G, w.M, upd w.H p (.lst vs')⟩ (ρ.set i (.own ds')) σ ∧ OF w0 (ρ.set i (.own ds')) σ := by
  obtain ⟨q, us, a, b, c, d, f⟩ := sr.own i ds hi
  rw [hp] at a
  cases a
  have hil : i < ρ.length := (List.getElem?_eq_some_iff.mp hi).1
  refine ⟨s.setOwn (of i ds p hi hp) b c d, ⟨by rw [List.length_set]; exact sr.len, fun j x h => ?_, fun j es h => ?_, fun j k es1 es2 q h1 h2 h3 h4 => ?_⟩, fun j es q h1 h2 => ?_⟩
  · have nj : i ≠ j := fun z => by subst z; rw [List.getElem?_set_self hil] at h; cases h
    rw [List.getElem?_set_ne nj] at h
    exact sr.val j x h
  · by_cases hj : i = j
    · subst hj
      rw [List.getElem?_set_self hil] at h
      cases h
      exact ⟨p, vs', hp, upd_same, c, d, r⟩
    · rw [List.getElem?_set_ne hj] at h
      obtain ⟨q, us2, a2, b2, c2, d2, f2⟩ := sr.own j es h
      refine ⟨q, us2, a2, ?_, c2, d2, f2⟩
      show upd w.H p (.lst vs') q = _
      rw [upd_ne (fun z : q = p => hj (by rw [z] at a2; exact sr.dis i j ds es p hi h hp a2))]
      exact b2
  · have f : ∀ {j : Nat} {es : List D}, (ρ.set i (.own ds'))[j]? = some (.own es) → ∃ es', ρ[j]? = some (.own es') := fun {j es} h => by
      by_cases hj : i = j
      · subst hj; exact ⟨ds, hi⟩
      · rw [List.getElem?_set_ne hj] at h; exact ⟨es, h⟩
    obtain ⟨_, z1⟩ := f h1
    obtain ⟨_, z2⟩ := f h2
    exact sr.dis j k _ _ q z1 z2 h3 h4
  · by_cases hj : i = j
    · subst hj; exact of _ ds q hi h2
    · rw [List.getElem?_set_ne hj] at h1; exact of j es q h1 h2
/-- x.append(e) -/
def sApp (i : Nat) (f : FD) : FS := fun ρ M => match ρ[i]? with
  | some (.own ds) => (f ρ M).out fun d M => if ds.length < sizeLine then .next (ρ.set i (.own (ds ++ [d]))) M else .bad
  | _ => .bad
theorem s_app {i : Nat} {f : FD} (h : PS X st (tDrop (tBM K "list" rAppend (tVar i) (tCons (tF K E f) tNil)))) : PS X st (tS K E (sApp i f)) := PS.wk h fun D σ H ⟨ρ, w, w0, e1, s, sr, of, p⟩ => by
  subst e1
  unfold sApp at p
  split at p
  · rename_i ds e2
    obtain ⟨q, vs, h1, h2, h3, h4, h5⟩ := sr.own i ds e2
    refine ⟨_, h1, .inl ⟨rfl, vs, .inl (.inl h2)⟩, ρ, w, rfl, s.ok, sr, (out_after s p).imp fun x w1 s1 p1 v rv => ?_⟩
    split at p1
    · rename_i hz
      obtain ⟨b1, c1, d1⟩ := s1.keep q _ h2 h3 h4
      have r1 := s1.repL h5
      refine ⟨q, vs, v, rfl, rfl, b1, by rw [h5.length]; exact hz, ?_⟩
      obtain ⟨a, b, c⟩ := SR.change (vs := vs) (s.trans s1) (sr.step s1) of e2 h1 (r1.append (.one rv))
      exact p1 _ σ a (Le.refl _) rfl b c
    · exact p1.elim
  · exact p.elim
/-- x.extend(e), e a list -/
def sExt (i : Nat) (f : FD) : FS := fun ρ M => match ρ[i]? with
  | some (.own ds) => (f ρ M).out fun d M => match lstOf M d with
    | some es => if ds.length + es.length ≤ sizeLine then .next (ρ.set i (.own (ds ++ es))) M else .bad
    | none => .bad
  | _ => .bad
theorem s_ext {i : Nat} {f : FD} (h : PS X st (tDrop (tBM K "list" rExtend (tVar i) (tCons (tF K E f) tNil)))) : PS X st (tS K E (sExt i f)) := PS.wk h fun D σ H ⟨ρ, w, w0, e1, s, sr, of, p⟩ => by
  subst e1
  unfold sExt at p
  split at p
  · rename_i ds e2
    obtain ⟨q, vs, h1, h2, h3, h4, h5⟩ := sr.own i ds e2
    refine ⟨_, h1, .inl ⟨rfl, vs, .inl (.inl h2)⟩, ρ, w, rfl, s.ok, sr, (out_after s p).imp fun x w1 s1 p1 v rv => ?_⟩
    cases el : lstOf w1.M x with
    | none => rw [el] at p1; exact p1.elim
    | some es =>
      rw [el] at p1
      simp only at p1
      split at p1
      · rename_i hz
        obtain ⟨b1, c1, d1⟩ := s1.keep q _ h2 h3 h4
        have r1 := s1.repL h5
        obtain ⟨q2, us, rfl, hu, ru⟩ := lst_at s1.ok (.inl rv) el
        refine ⟨q, q2, vs, us, rfl, rfl, b1, hu, by rw [h5.length, ru.length]; exact hz, ?_⟩
        obtain ⟨a, b, c⟩ := SR.change (vs := vs) (s.trans s1) (sr.step s1) of e2 h1 (r1.append ru)
        exact p1 _ σ a (Le.refl _) rfl b c
      · exact p1.elim
  · exact p.elim
/-- a list of one's own is frozen: nothing happens in the program -/
def sFz (i : Nat) (g : FS) : FS := fun ρ M => match ρ[i]? with
  | some (.own ds) => g (ρ.set i (.val (.lst ds))) M
  | _ => g ρ M
theorem fz_ok {i : Nat} {g : FS} {D : Ends} {σ : St} {H : Hp} (h : tS K E (sFz i g) D σ H) : tS K E g D σ H := by
  obtain ⟨ρ, w, w0, e1, s, sr, of, p⟩ := h
  unfold sFz at p
  split at p
  · rename_i ds e2
    obtain ⟨q, vs, h1, h2, h3, h4, h5⟩ := sr.own i ds e2
    have hil : i < ρ.length := (List.getElem?_eq_some_iff.mp e2).1
    have fG : Same w.G (upd w.G q (.lst vs)) := upd_fro h3
    have l : Le w ⟨w.A, upd w.G q (.lst vs), w.M, w.H⟩ := ⟨List.prefix_refl _, fG⟩
    refine ⟨ρ.set i (.val (.lst ds)), ⟨w.A, upd w.G q (.lst vs), w.M, w.H⟩, w0, e1, ⟨s.ok.freeze h2 h3 h4, s.pre, s.fro.trans fG, fun b o z1 z2 z3 => ?_⟩, ⟨by rw [List.length_set]; exact sr.len, fun j x h => ?_, fun j es h => ?_, fun j k es1 es2 b z1 z2 z3 z4 => ?_⟩, fun j es b z1 z2 => ?_, PostS.later p l⟩
    · obtain ⟨a, b', c⟩ := s.keep b o z1 z2 z3
      refine ⟨a, ?_, c⟩
      show upd w.G q (.lst vs) b = none
      rw [upd_ne (ne_of_none z1 (of i ds q e2 h1))]
      exact b'
    · by_cases hj : i = j
      · subst hj
        rw [List.getElem?_set_self hil] at h
        cases h
        exact ⟨_, h1, .lst upd_same (l.repL h5)⟩
      · rw [List.getElem?_set_ne hj] at h
        obtain ⟨v, a, b⟩ := sr.val j x h
        exact ⟨v, a, l.rep b⟩
    · have nj : i ≠ j := fun z => by subst z; rw [List.getElem?_set_self hil] at h; cases h
      rw [List.getElem?_set_ne nj] at h
      obtain ⟨q2, us, a, b, c, d, f⟩ := sr.own j es h
      refine ⟨q2, us, a, b, ?_, d, l.repL f⟩
      show upd w.G q (.lst vs) q2 = none
      rw [upd_ne (fun z : q2 = q => nj (by rw [z] at a; exact sr.dis i j ds es q e2 h h1 a))]
      exact c
    · have nj : i ≠ j := fun z => by subst z; rw [List.getElem?_set_self hil] at z1; cases z1
      have nk : i ≠ k := fun z => by subst z; rw [List.getElem?_set_self hil] at z2; cases z2
      rw [List.getElem?_set_ne nj] at z1
      rw [List.getElem?_set_ne nk] at z2
      exact sr.dis j k _ _ b z1 z2 z3 z4
    · have nj : i ≠ j := fun z => by subst z; rw [List.getElem?_set_self hil] at z1; cases z1
      rw [List.getElem?_set_ne nj] at z1
      exact of j es b z1 z2
  · exact ⟨ρ, w, w0, e1, s, sr, of, p⟩
theorem s_fz {i : Nat} {g : FS} (h : PS X st (tS K E g)) : PS X st (tS K E (sFz i g)) := PS.wk h fun _ _ _ z => fz_ok z
end
end TP
/-! TPf: built-in things by plain data. -/
namespace TP
open PySem L2
section
variable {K : PySem.W.Frag} {E : Wish} {X : Cx} {e : Expr}
/-! ### one answer, nothing changed -/
theorem ans {w : Wd} {Q : VK} {d : D} {v : V} (ok : w.Ok K) (k : ∀ v w', Step K w w' → w'.M = w.M → RepX K w w' v (.val d) → Q v w'.H) (r : ∀ A G, Rep K A G v d) : Q v w.H := k v w (Step.refl ok) rfl (r _ _)
/-! ### arithmetic -/
def mulOk (i j : Int) : Bool := decide (-(2 ^ 64) < i ∧ i < 2 ^ 64) || decide (-(2 ^ 64) < j ∧ j < 2 ^ 64) || decide (i.natAbs.log2 + j.natAbs.log2 < 1000000)
def addD (M : Store) (x y : D) : Option Slot := match x, y with
  | .int i, .int j => some (.val (.int (i + j)))
  | .str a, .str b => if a.length + b.length ≤ sizeLine then some (.val (.str (a ++ b))) else none
  | .tup xs, .tup ys => if xs.length + ys.length ≤ sizeLine then some (.val (.tup (xs ++ ys))) else none
  | x, y => match lstOf M x, lstOf M y with
    | some xs, some ys => if xs.length + ys.length ≤ sizeLine then some (.own (xs ++ ys)) else none
    | _, _ => none
def rAddA (K : PySem.W.Frag) : R2 := fun x y H Q => rI0 (fun i j => .int (i + j)) x y H Q ∨ (∃ i j, x = .str i ∧ y = .str j ∧ i.length + j.length ≤ sizeLine ∧ Q (.str (i ++ j)) H) ∨ rCatA K x y H Q ∨ rCat x y H Q
theorem op_addA : OpR X (binaryOp .Add) (rAddA X.K) := op_add.or (op_add_str.or (op_catA.or op_cat))
theorem p_add : Prim2 K (rAddA K) addD := by
  intro w vx vy x y s Q ok rx ry h k
  unfold addD at h
  split at h
  · cases h
    cases int_at rx
    cases int_at ry
    exact .inl ⟨_, _, rfl, rfl, ans ok k fun _ _ => .int _⟩
  · split at h
    · cases h
      cases str_at rx
      cases str_at ry
      exact .inr (.inl ⟨_, _, rfl, rfl, by assumption, ans ok k fun _ _ => .str _⟩)
    · cases h
  · split at h
    · cases h
      obtain ⟨p, vs, rfl, hs, rl⟩ := tup_at ok rx
      obtain ⟨p2, vs2, rfl, hs2, rl2⟩ := tup_at ok ry
      refine .inr (.inr (.inl ⟨p, p2, vs, vs2, rfl, rfl, hs, hs2, by rw [rl.length, rl2.length]; assumption, fun e => ?_, fun _ e => ?_, fun _ _ q hq => ?_⟩))
      · subst e
        cases rl
        rcases ry with ry | ⟨_, _, _, _, e, _⟩
        · exact k _ w (Step.refl ok) rfl ry
        · cases e
      · subst e
        cases rl2
        rw [List.append_nil] at k
        rcases rx with rx | ⟨_, _, _, _, e, _⟩
        · exact k _ w (Step.refl ok) rfl rx
        · cases e
      · have st := ok.fresh hq (.tup (vs ++ vs2))
        exact k _ _ st rfl (.tup upd_same (st.repL (rl.append rl2)))
    · cases h
  · split at h
    · rename_i e1 e2
      split at h
      · cases h
        obtain ⟨p, vs, rfl, hs, rl⟩ := lst_at ok rx e1
        obtain ⟨p2, vs2, rfl, hs2, rl2⟩ := lst_at ok ry e2
        refine .inr (.inr (.inr ⟨p, p2, vs, vs2, rfl, rfl, hs, hs2, by rw [rl.length, rl2.length]; assumption, fun q hq => ?_⟩))
        exact k _ _ (ok.fresh0 hq _) rfl (own_new (Step.refl ok) hq (rl.append rl2))
      · cases h
    · cases h
def subD (_ : Store) (x y : D) : Option Slot := match x, y with
  | .int i, .int j => some (.val (.int (i - j)))
  | _, _ => none
theorem p_sub : Prim2 K (rI0 fun i j => .int (i - j)) subD := by
  intro w vx vy x y s Q ok rx ry h k
  unfold subD at h
  split at h
  · cases h
    cases int_at rx
    cases int_at ry
    exact ⟨_, _, rfl, rfl, ans ok k fun _ _ => .int _⟩
  · cases h
def mulD (M : Store) (x y : D) : Option Slot := match x, y with
  | .int i, .int j => if mulOk i j then some (.val (.int (i * j))) else none
  | x, .int k => match lstOf M x with
    | some xs => if -(2 ^ 63) ≤ k ∧ k < 2 ^ 63 ∧ xs.length * k.toNat ≤ sizeLine then some (.own (List.replicate k.toNat xs).flatten) else none
    | none => none
  | _, _ => none
def rMulA : R2 := fun x y H Q => rI CMul (fun i j => .int (i * j)) x y H Q ∨ rI CMulW (fun i j => .int (i * j)) x y H Q ∨ rRep x y H Q
theorem op_mulA : OpR X (binaryOp .Mult) rMulA := op_mul.or (op_mulW.or op_rep)
theorem RepL.rep {A : List Addr} {G : Hp} {vs : List V} {ds : List D} (h : RepL K A G vs ds) : ∀ n : Nat, RepL K A G (List.replicate n vs).flatten (List.replicate n ds).flatten
  | 0 => .nil
  | n + 1 => by
    rw [List.replicate_succ, List.replicate_succ, List.flatten_cons, List.flatten_cons]
    exact h.append (RepL.rep h n)
theorem p_mul : Prim2 K rMulA mulD := by
  intro w vx vy x y s Q ok rx ry h k
  unfold mulD at h
  split at h
  · split at h
    · rename_i i j hm
      cases h
      cases int_at rx
      cases int_at ry
      unfold mulOk at hm
      rw [Bool.or_eq_true, Bool.or_eq_true] at hm
      rcases hm with (hm | hm) | hm
      · exact .inl ⟨_, _, rfl, rfl, .inl (of_decide_eq_true hm), ans ok k fun _ _ => .int _⟩
      · exact .inl ⟨_, _, rfl, rfl, .inr (of_decide_eq_true hm), ans ok k fun _ _ => .int _⟩
      · exact .inr (.inl ⟨_, _, rfl, rfl, (show i.natAbs.log2 + j.natAbs.log2 < 1000000 from of_decide_eq_true hm), ans ok k fun _ _ => .int _⟩)
    · cases h
  · split at h
    · rename_i e1
      split at h
      · rename_i hz
        cases h
        obtain ⟨p, vs, rfl, hs, rl⟩ := lst_at ok rx e1
        cases int_at ry
        refine .inr (.inr ⟨p, _, vs, rfl, rfl, hs, hz.1, hz.2.1, by rw [rl.length]; exact hz.2.2, fun q hq => ?_⟩)
        exact k _ _ (ok.fresh0 hq _) rfl (own_new (Step.refl ok) hq (rl.rep _))
      · cases h
    · cases h
  · cases h
/-- by a positive divisor, or a small one -/
def fdivD (_ : Store) (x y : D) : Option Slot := match x, y with
  | .int i, .int j => if 0 < j ∧ j < 1073741824 then some (.val (.int (i / j))) else if 0 < j ∧ j.natAbs.log2 < 9000 then some (.val (.int (i / j))) else if j ≠ 0 ∧ j.natAbs < 1073741824 then some (.val (.int (i.fdiv j))) else none
  | _, _ => none
def rFdivA : R2 := fun x y H Q => rI CDivW (fun i j => .int (i / j)) x y H Q ∨ rI CDivN (fun i j => .int (i.fdiv j)) x y H Q
theorem op_fdivA : OpR X (binaryOp .FloorDiv) rFdivA := op_fdivW.or op_fdivN
theorem p_fdiv : Prim2 K rFdivA fdivD := by
  intro w vx vy x y s Q ok rx ry h k
  unfold fdivD at h
  split at h
  · cases int_at rx
    cases int_at ry
    split at h
    · rename_i hc
      cases h
      exact .inl ⟨_, _, rfl, rfl, ⟨hc.1, Nat.lt_of_lt_of_le (PySem.Flt.log2_lt_of (k := 30) (by decide) (by omega)) (by decide)⟩, ans ok k fun _ _ => .int _⟩
    · split at h
      · rename_i hc
        cases h
        exact .inl ⟨_, _, rfl, rfl, hc, ans ok k fun _ _ => .int _⟩
      · split at h
        · rename_i hc
          cases h
          exact .inr ⟨_, _, rfl, rfl, hc, ans ok k fun _ _ => .int _⟩
        · cases h
  · cases h
def modD (_ : Store) (x y : D) : Option Slot := match x, y with
  | .int i, .int j => if 0 < j then some (.val (.int (i % j))) else if j ≠ 0 then some (.val (.int (i.fmod j))) else none
  | _, _ => none
def rModA : R2 := fun x y H Q => rI (fun _ j => 0 < j) (fun i j => .int (i % j)) x y H Q ∨ rI (fun _ j => j ≠ 0) (fun i j => .int (i.fmod j)) x y H Q
theorem op_modA : OpR X (binaryOp .Mod) rModA := op_mod.or op_modN
theorem p_mod : Prim2 K rModA modD := by
  intro w vx vy x y s Q ok rx ry h k
  unfold modD at h
  split at h
  · cases int_at rx
    cases int_at ry
    split at h
    · rename_i hc
      cases h
      exact .inl ⟨_, _, rfl, rfl, hc, ans ok k fun _ _ => .int _⟩
    · split at h
      · rename_i hc
        cases h
        exact .inr ⟨_, _, rfl, rfl, hc, ans ok k fun _ _ => .int _⟩
      · cases h
  · cases h
def powD (_ : Store) (x y : D) : Option Slot := match x, y with
  | .int i, .int j => if 0 ≤ j ∧ j ≤ 1000000 ∧ i.natAbs < 2 ^ 64 then some (.val (.int (i ^ j.toNat))) else none
  | _, _ => none
theorem p_pow : Prim2 K (rI CPow fun i j => .int (i ^ j.toNat)) powD := by
  intro w vx vy x y s Q ok rx ry h k
  unfold powD at h
  split at h
  · cases int_at rx
    cases int_at ry
    split at h
    · rename_i hc
      cases h
      exact ⟨_, _, rfl, rfl, hc, ans ok k fun _ _ => .int _⟩
    · cases h
  · cases h
def negD (_ : Store) (x : D) : Option Slot := match x with
  | .int i => some (.val (.int (-i)))
  | _ => none
theorem p_neg : Prim1 K (rU fun i => .int (-i)) negD := by
  intro w vx x s Q ok rx h k
  unfold negD at h
  split at h
  · cases int_at rx
    cases h
    exact ⟨_, rfl, ans ok k fun _ _ => .int _⟩
  · cases h
/-! ### order of ints -/
def cmpD (p : Int → Int → Bool) (_ : Store) (x y : D) : Option Slot := match x, y with
  | .int i, .int j => some (.val (.bl (p i j)))
  | _, _ => none
theorem p_cmp (p : Int → Int → Bool) : Prim2 K (rI0 fun i j => .bl (p i j)) (cmpD p) := by
  intro w vx vy x y s Q ok rx ry h k
  unfold cmpD at h
  split at h
  · cases int_at rx
    cases int_at ry
    cases h
    exact ⟨_, _, rfl, rfl, ans ok k fun _ _ => .bl _⟩
  · cases h
/-! ### equality -/
mutual
def eqvD : D → D → Bool
  | .non, .non => true
  | .bl a, .bl b => a == b
  | .bl a, .int j => (if a then 1 else 0) == j
  | .int i, .bl b => i == (if b then 1 else 0)
  | .int i, .int j => i == j
  | .str x, .str y => x == y
  | .lst xs, .lst ys => eqvL xs ys
  | .tup xs, .tup ys => eqvL xs ys
  | _, _ => false
def eqvL : List D → List D → Bool
  | [], [] => true
  | x :: xs, y :: ys => eqvD x y && eqvL xs ys
  | _, _ => false
end
mutual
/-- no things of the store, no strange signs -/
def goodD : D → Bool
  | .non => true
  | .bl _ => true
  | .int _ => true
  | .str x => x.cps.all (· < 0x110000)
  | .lst xs => goodL xs
  | .tup xs => goodL xs
  | .fro _ => false
  | .kt _ => false
  | .ref _ => false
def goodL : List D → Bool
  | [] => true
  | x :: xs => goodD x && goodL xs
end
mutual
def dpD : D → Nat
  | .lst xs => dpL xs + 1
  | .tup xs => dpL xs + 1
  | _ => 0
def dpL : List D → Nat
  | [] => 0
  | x :: xs => max (dpD x) (dpL xs)
end
mutual
def toPy : D → PyData
  | .non => .none
  | .bl b => .bool b
  | .int i => .int i
  | .str x => .str x
  | .lst xs => .list (toPyL xs)
  | .tup xs => .tuple (toPyL xs)
  | .fro _ => .none
  | .kt _ => .none
  | .ref _ => .none
def toPyL : List D → List PyData
  | [] => []
  | x :: xs => toPy x :: toPyL xs
end
mutual
theorem eqv_py : ∀ x y : D, goodD x = true → goodD y = true → PyData.eqv (toPy x) (toPy y) = eqvD x y
  | .non, y, _, hy => by cases y <;> first | (simp [goodD] at hy; done) | simp [toPy, PyData.eqv, eqvD]
  | .bl _, y, _, hy => by cases y <;> first | (simp [goodD] at hy; done) | simp [toPy, PyData.eqv, eqvD]
  | .int _, y, _, hy => by cases y <;> first | (simp [goodD] at hy; done) | simp [toPy, PyData.eqv, eqvD]
  | .str _, y, _, hy => by cases y <;> first | (simp [goodD] at hy; done) | simp [toPy, PyData.eqv, eqvD]
  | .lst xs, y, hx, hy => by
    cases y with
    | lst ys =>
      simp only [toPy, PyData.eqv, eqvD]
      exact eqvL_py xs ys (by simpa [goodD] using hx) (by simpa [goodD] using hy)
    | _ => first | (simp [goodD] at hy; done) | simp [toPy, PyData.eqv, eqvD]
  | .tup xs, y, hx, hy => by
    cases y with
    | tup ys =>
      simp only [toPy, PyData.eqv, eqvD]
      exact eqvL_py xs ys (by simpa [goodD] using hx) (by simpa [goodD] using hy)
    | _ => first | (simp [goodD] at hy; done) | simp [toPy, PyData.eqv, eqvD]
  | .fro _, _, hx, _ => by simp [goodD] at hx
  | .kt _, _, hx, _ => by simp [goodD] at hx
  | .ref _, _, hx, _ => by simp [goodD] at hx
theorem eqvL_py : ∀ xs ys : List D, goodL xs = true → goodL ys = true → PyData.eqvAll (toPyL xs) (toPyL ys) = eqvL xs ys
  | [], [], _, _ => by simp [toPyL, PyData.eqvAll, eqvL]
  | [], _ :: _, _, _ => by simp [toPyL, PyData.eqvAll, eqvL]
  | _ :: _, [], _, _ => by simp [toPyL, PyData.eqvAll, eqvL]
  | x :: xs, y :: ys, hx, hy => by
    simp only [goodL, Bool.and_eq_true] at hx hy
    simp only [toPyL, PyData.eqvAll, eqvL, eqv_py x y hx.1 hy.1, eqvL_py xs ys hx.2 hy.2]
end
mutual
theorem lay_py : ∀ x : D, goodD x = true → (toPy x).canLay0 = true
  | .non, _ => by simp [toPy, PyData.canLay0]
  | .bl _, _ => by simp [toPy, PyData.canLay0]
  | .int _, _ => by simp [toPy, PyData.canLay0]
  | .str x, h => by simpa [toPy, PyData.canLay0, PyData.strOk, goodD] using h
  | .lst xs, h => by simp only [toPy, PyData.canLay0]; exact layL_py xs (by simpa [goodD] using h)
  | .tup xs, h => by simp only [toPy, PyData.canLay0]; exact layL_py xs (by simpa [goodD] using h)
  | .fro _, h => by simp [goodD] at h
  | .kt _, h => by simp [goodD] at h
  | .ref _, h => by simp [goodD] at h
theorem layL_py : ∀ xs : List D, goodL xs = true → PyData.canLayAll0 (toPyL xs) = true
  | [], _ => by simp [toPyL, PyData.canLayAll0]
  | x :: xs, h => by
    simp only [goodL, Bool.and_eq_true] at h
    simp only [toPyL, PyData.canLayAll0, lay_py x h.1, layL_py xs h.2, Bool.and_self]
end
mutual
theorem dp_py : ∀ x : D, goodD x = true → (toPy x).depth = dpD x
  | .non, _ => by simp [toPy, PyData.depth, dpD]
  | .bl _, _ => by simp [toPy, PyData.depth, dpD]
  | .int _, _ => by simp [toPy, PyData.depth, dpD]
  | .str x, h => by simp [toPy, PyData.depth, dpD]
  | .lst xs, h => by simp only [toPy, PyData.depth, dpD]; rw [dpL_py xs (by simpa [goodD] using h)]
  | .tup xs, h => by simp only [toPy, PyData.depth, dpD]; rw [dpL_py xs (by simpa [goodD] using h)]
  | .fro _, h => by simp [goodD] at h
  | .kt _, h => by simp [goodD] at h
  | .ref _, h => by simp [goodD] at h
theorem dpL_py : ∀ xs : List D, goodL xs = true → PyData.depthAll (toPyL xs) = dpL xs
  | [], _ => by simp [toPyL, PyData.depthAll, dpL]
  | x :: xs, h => by
    simp only [goodL, Bool.and_eq_true] at h
    simp only [toPyL, PyData.depthAll, dpL, dp_py x h.1, dpL_py xs h.2]
end
mutual
theorem Rep.dp {A : List Addr} {G H : Hp} (sub : Same G H) : ∀ (d : D) (v : V), Rep K A G v d → goodD d = true → Dp K H v (toPy d)
  | .non, _, h, _ => by cases h; simp only [toPy]; exact .non
  | .bl b, _, h, _ => by cases h; simp only [toPy]; exact .bl b
  | .int i, _, h, _ => by cases h; simp only [toPy]; exact .int i
  | .str x, _, h, _ => by cases h; simp only [toPy]; exact .str x
  | .tup ds, _, h, g => by
    cases h with
    | tup hs hr =>
      simp only [toPy]
      exact .tup (.inl (.inl (sub _ _ hs))) (RepL.dp sub ds _ hr (by simpa [goodD] using g))
  | .lst ds, _, h, g => by
    cases h with
    | lst hs hr =>
      simp only [toPy]
      exact .lst (.inl (.inl (sub _ _ hs))) (RepL.dp sub ds _ hr (by simpa [goodD] using g))
  | .fro ds, _, h, g => by simp [goodD] at g
  | .kt ds, _, h, g => by simp [goodD] at g
  | .ref k, _, h, g => by simp [goodD] at g
theorem RepL.dp {A : List Addr} {G H : Hp} (sub : Same G H) : ∀ (ds : List D) (vs : List V), RepL K A G vs ds → goodL ds = true → DpAll K H vs (toPyL ds)
  | [], _, h, _ => by cases h; simp only [toPyL]; exact .nil
  | d :: ds, _, h, g => by
    simp only [goodL, Bool.and_eq_true] at g
    cases h with
    | cons h1 h2 =>
      simp only [toPyL]
      exact .cons (Rep.dp sub d _ h1 g.1) (RepL.dp sub ds _ h2 g.2)
end
/-- a list of the store, as it stands -/
def derD (M : Store) (x : D) : D := match x with
  | .ref k => match M[k]? with
    | some (.lst ds) => .lst ds
    | _ => .ref k
  | x => x
theorem RepB.dp {w : Wd} (ok : w.Ok K) {v : V} {x : D} (r : RepB K w v x) (g : goodD (derD w.M x) = true) : Dp K w.H v (toPy (derD w.M x)) := by
  rcases r with r | ⟨p, vs, ds, rfl, rfl, h1, _, _, h4⟩
  · by_cases hr : ∃ k, x = .ref k
    · obtain ⟨k, rfl⟩ := hr
      simp only [derD] at g ⊢
      cases r with
      | @ref a k ek =>
        split at g
        · rename_i ds e2
          obtain ⟨a', e3, vs, h1, h2⟩ := ok.mos k _ e2
          rw [ek] at e3; cases e3
          simp only [toPy]
          exact .lst (.inl (.inl h1)) (RepL.dp ok.sub ds _ h2 (by simpa [goodD] using g))
        · simp [goodD] at g
    · have e : derD w.M x = x := by cases x <;> first | rfl | exact absurd ⟨_, rfl⟩ hr
      rw [e] at g ⊢
      exact Rep.dp ok.sub x v r g
  · simp only [derD, toPy]
    exact .lst (.inl (.inl h1)) (RepL.dp ok.sub ds _ h4 (by simpa [goodD, derD] using g))
def rEqW (K : PySem.W.Frag) : R2 := fun x y H Q => ∃ d e, Dp K H x d ∧ Dp K H y e ∧ d.canLay0 = true ∧ e.canLay0 = true ∧ min d.depth e.depth ≤ 190 ∧ Q (.bl (PyData.eqv d e)) H
def rNeW (K : PySem.W.Frag) : R2 := fun x y H Q => ∃ d e, Dp K H x d ∧ Dp K H y e ∧ d.canLay0 = true ∧ e.canLay0 = true ∧ min d.depth e.depth ≤ 190 ∧ Q (.bl (!PyData.eqv d e)) H
theorem op_eqW (hu : X.A.units + 200 < cLine) : OpR X (compareOp .Eq) (rEqW X.K) := by
  intro pins s σ H x y v u Q I rx ry h
  obtain ⟨d, e, hd, he, sd, se, hm, q⟩ := h
  obtain ⟨as, r1⟩ := Dp.reads I d x v hd rx
  obtain ⟨bs, r2⟩ := Dp.reads I e y u he ry
  exact SeqAt.compareEq_reads r1 r2 sd se (by omega) ⟨.bl _, H, I, rfl, q⟩
theorem op_neW (hu : X.A.units + 200 < cLine) : OpR X (compareOp .NotEq) (rNeW X.K) := by
  intro pins s σ H x y v u Q I rx ry h
  obtain ⟨d, e, hd, he, sd, se, hm, q⟩ := h
  obtain ⟨as, r1⟩ := Dp.reads I d x v hd rx
  obtain ⟨bs, r2⟩ := Dp.reads I e y u he ry
  exact SeqAt.compareNe_reads r1 r2 sd se (by omega) ⟨.bl _, H, I, rfl, q⟩
def eqD (M : Store) (x y : D) : Option Slot := if goodD (derD M x) && goodD (derD M y) && decide (min (dpD (derD M x)) (dpD (derD M y)) ≤ 190) then some (.val (.bl (eqvD (derD M x) (derD M y)))) else none
def neD (M : Store) (x y : D) : Option Slot := if goodD (derD M x) && goodD (derD M y) && decide (min (dpD (derD M x)) (dpD (derD M y)) ≤ 190) then some (.val (.bl (!eqvD (derD M x) (derD M y)))) else none
theorem p_eq : Prim2 K (rEqW K) eqD := by
  intro w vx vy x y s Q ok rx ry h k
  unfold eqD at h
  split at h
  · rename_i hc
    simp only [Bool.and_eq_true, decide_eq_true_eq] at hc
    obtain ⟨⟨h1, h2⟩, h3⟩ := hc
    cases h
    refine ⟨_, _, rx.dp ok h1, ry.dp ok h2, lay_py _ h1, lay_py _ h2, by rw [dp_py _ h1, dp_py _ h2]; exact h3, ?_⟩
    rw [eqv_py _ _ h1 h2]
    exact ans ok k fun _ _ => .bl _
  · cases h
theorem p_ne : Prim2 K (rNeW K) neD := by
  intro w vx vy x y s Q ok rx ry h k
  unfold neD at h
  split at h
  · rename_i hc
    simp only [Bool.and_eq_true, decide_eq_true_eq] at hc
    obtain ⟨⟨h1, h2⟩, h3⟩ := hc
    cases h
    refine ⟨_, _, rx.dp ok h1, ry.dp ok h2, lay_py _ h1, lay_py _ h2, by rw [dp_py _ h1, dp_py _ h2]; exact h3, ?_⟩
    rw [eqv_py _ _ h1 h2]
    exact ans ok k fun _ _ => .bl _
  · cases h
/-! ### is -/
def isD (_ : Store) (x y : D) : Option Slot := match x, y with
  | .non, .non => some (.val (.bl true))
  | _, .non => some (.val (.bl false))
  | .bl a, .bl b => some (.val (.bl (decide (a = b))))
  | _, _ => none
def isntD (_ : Store) (x y : D) : Option Slot := match x, y with
  | .non, .non => some (.val (.bl false))
  | _, .non => some (.val (.bl true))
  | .bl a, .bl b => some (.val (.bl (!decide (a = b))))
  | _, _ => none
def rIsA : R2 := fun x y H Q => (y = .non ∧ Q (.bl (decide (x = .non))) H) ∨ rIsB x y H Q
def rIsntA : R2 := fun x y H Q => (y = .non ∧ Q (.bl (!decide (x = .non))) H) ∨ rNotB x y H Q
theorem op_isA : OpR X (compareOp .Is) rIsA := op_isN.or op_isBl
theorem op_isntA : OpR X (compareOp .IsNot) rIsntA := op_notN.or op_notBl
theorem non_iff {w : Wd} {v : V} {x : D} (r : RepB K w v x) (h : x ≠ .non) : v ≠ .non := fun e => by
  subst e
  rcases r with r | ⟨p, _, _, e, _⟩
  · cases r; exact h rfl
  · cases e
theorem p_is : Prim2 K rIsA isD := by
  intro w vx vy x y s Q ok rx ry h k
  unfold isD at h
  split at h
  · cases h
    cases non_at rx
    cases non_at ry
    exact .inl ⟨rfl, ans ok k fun _ _ => .bl _⟩
  · rename_i hx
    cases h
    cases non_at ry
    refine .inl ⟨rfl, ?_⟩
    rw [decide_eq_false (non_iff rx (fun e => hx e))]
    exact ans ok k fun _ _ => .bl _
  · cases h
    cases bl_at rx
    cases bl_at ry
    exact .inr ⟨_, _, rfl, rfl, ans ok k fun _ _ => .bl _⟩
  · cases h
theorem p_isnt : Prim2 K rIsntA isntD := by
  intro w vx vy x y s Q ok rx ry h k
  unfold isntD at h
  split at h
  · cases h
    cases non_at rx
    cases non_at ry
    exact .inl ⟨rfl, ans ok k fun _ _ => .bl _⟩
  · rename_i hx
    cases h
    cases non_at ry
    refine .inl ⟨rfl, ?_⟩
    rw [decide_eq_false (non_iff rx (fun e => hx e))]
    exact ans ok k fun _ _ => .bl _
  · cases h
    cases bl_at rx
    cases bl_at ry
    exact .inr ⟨_, _, rfl, rfl, ans ok k fun _ _ => .bl _⟩
  · cases h
end
end TP
/-! TPg: more built-in things; the store; a def's entry. -/
namespace TP
open PySem PySem.Spec PyProof.Rows L2
section
variable {K : PySem.W.Frag} {E : Wish} {X : Cx} {e : Expr}
/-! ### subscripts -/
def idxD (M : Store) (x y : D) : Option Slot := match x, y with
  | .tup ds, .int i => (atI ds i).map Slot.val
  | .kt ds, .int i => (atI ds i).map Slot.val
  | .str z, .int i => if z.length ≤ sizeLine then (atI z.cps.toList i).map fun c => .val (.str ⟨#[c]⟩) else none
  | x, .int i => match seqOf M x with
    | some ds => (atI ds i).map Slot.val
    | none => none
  | _, _ => none
theorem RepL.atI {A : List Addr} {G : Hp} {vs : List V} {ds : List D} {i : Int} {d : D} (h : RepL K A G vs ds) (e : atI ds i = some d) : ∃ v, L2.atI vs i = some v ∧ Rep K A G v d := by
  unfold L2.atI at e ⊢
  rw [h.length]
  cases q : ixN ds.length i with
  | none => rw [q] at e; cases e
  | some j => rw [q] at e; exact h.get e
theorem p_idx : Prim2 K (rIx K) idxD := by
  intro w vx vy x y s Q ok rx ry h k
  unfold idxD at h
  split at h
  · rename_i ds i
    cases q : L2.atI ds i with
    | none => rw [q] at h; cases h
    | some d =>
      rw [q] at h
      cases h
      obtain ⟨p, vs, rfl, hs, rl⟩ := tup_at ok rx
      cases int_at ry
      obtain ⟨v, hv, rv⟩ := rl.atI q
      exact .inr (.inl ⟨p, vs, i, v, rfl, rfl, hs, hv, k v w (Step.refl ok) rfl rv⟩)
  · rename_i ds i
    cases q : L2.atI ds i with
    | none => rw [q] at h; cases h
    | some d =>
      rw [q] at h
      cases h
      obtain ⟨p, vs, rfl, hs, rl⟩ := kt_at ok rx
      cases int_at ry
      obtain ⟨v, hv, rv⟩ := rl.atI q
      exact .inr (.inl ⟨p, vs, i, v, rfl, rfl, hs, hv, k v w (Step.refl ok) rfl rv⟩)
  · split at h
    · rename_i z i hz
      cases q : L2.atI z.cps.toList i with
      | none => rw [q] at h; cases h
      | some c =>
        rw [q] at h
        cases h
        cases str_at rx
        cases int_at ry
        exact .inr (.inr ⟨z, i, c, rfl, rfl, hz, q, ans ok k fun _ _ => .str _⟩)
    · cases h
  · rename_i i _ _ _
    split at h
    · rename_i ds e1
      cases q : L2.atI ds i with
      | none => rw [q] at h; cases h
      | some d =>
        rw [q] at h
        cases h
        obtain ⟨p, vs, rfl, hs, rl⟩ := seq_at ok rx e1
        cases int_at ry
        obtain ⟨v, hv, rv⟩ := rl.atI q
        exact .inl ⟨p, vs, i, v, rfl, rfl, hs, hv, k v w (Step.refl ok) rfl rv⟩
    · cases h
  · cases h
theorem x_ix {fa fb : FD} (h : PE X e (tOp (rIx K) (tR K E fa) (tR K E fb))) : PE X e (tE K E (dOp2 idxD fa fb)) := x_op2 h p_idx
/-! ### slices -/
def cutD (xs : List D) (lo hi : Option Int) : List D := (xs.drop (HT.sIx xs.length 0 lo)).take (HT.sIx xs.length xs.length hi - HT.sIx xs.length 0 lo)
theorem RepL.cut {A : List Addr} {G : Hp} {vs : List V} {ds : List D} (h : RepL K A G vs ds) (lo hi : Option Int) : RepL K A G (cutV vs lo hi) (cutD ds lo hi) := by
  unfold cutV cutD
  rw [h.length]
  exact (h.drop _).take _
def slD (M : Store) (x : D) (lo hi : Option Int) : Option Slot := match x with
  | .tup ds => some (.val (.tup (cutD ds lo hi)))
  | .str z => if z.length ≤ sizeLine then some (.val (.str (cutS z lo hi))) else none
  | x => match seqOf M x with
    | some ds => some (.own (cutD ds lo hi))
    | none => none
def rSlA3 (K : PySem.W.Frag) : V → Option Int → Option Int → Hp → VK → Prop := fun x lo hi H Q => rSlA K x lo hi H Q ∨ rSlS x lo hi H Q ∨ rSlL K x lo hi H Q
theorem sl_A3 : SlR X (rSlA3 X.K) := sl_tupA.or (sl_str.or sl_list)
theorem p_sl : PrimS K (rSlA3 K) slD := by
  intro w vx x lo hi s Q ok rx h k
  unfold slD at h
  split at h
  · rename_i ds
    cases h
    obtain ⟨p, vs, rfl, hs, rl⟩ := tup_at ok rx
    refine .inl ⟨p, vs, rfl, hs, fun hw => ?_, fun _ q hq => ?_⟩
    · have e : cutD ds lo hi = ds := by
        unfold cutD
        rw [← rl.length, hw.1, hw.2, List.drop_zero, Nat.sub_zero, rl.length, List.take_length]
      rw [e] at k
      rcases rx with rx | ⟨_, _, _, _, e, _⟩
      · exact k _ w (Step.refl ok) rfl rx
      · cases e
    · have st := ok.fresh hq (.tup (cutV vs lo hi))
      exact k _ _ st rfl (.tup upd_same (st.repL (rl.cut lo hi)))
  · split at h
    · rename_i hz
      cases h
      cases str_at rx
      exact .inr (.inl ⟨_, rfl, hz, ans ok k fun _ _ => .str _⟩)
    · cases h
  · split at h
    · rename_i e1
      cases h
      obtain ⟨p, vs, rfl, hs, rl⟩ := seq_at ok rx e1
      refine .inr (.inr ⟨p, vs, rfl, hs, fun q hq => ?_⟩)
      exact k _ _ (ok.fresh0 hq _) rfl (own_new (Step.refl ok) hq (rl.cut lo hi))
    · cases h
/-! ### in -/
def flatD : D → Bool
  | .non => true
  | .bl _ => true
  | .int _ => true
  | .str _ => true
  | _ => false
def elemsD (M : Store) : D → Option (List D)
  | .tup ds => some ds
  | .kt ds => some ds
  | x => seqOf M x
theorem elems_at {w : Wd} (ok : w.Ok K) {v : V} {x : D} {ds : List D} (r : RepB K w v x) (h : elemsD w.M x = some ds) : ∃ p vs, v = .ref p ∧ (SqL K w.H p vs ∨ SqT K w.H p vs) ∧ RepL K w.A w.G vs ds := by
  by_cases hf : ∃ es, x = .tup es
  · obtain ⟨es, rfl⟩ := hf
    cases h
    obtain ⟨p, vs, e, h1, h2⟩ := tup_at ok r
    exact ⟨p, vs, e, .inr h1, h2⟩
  by_cases hk : ∃ es, x = .kt es
  · obtain ⟨es, rfl⟩ := hk
    cases h
    obtain ⟨p, vs, e, h1, h2⟩ := kt_at ok r
    exact ⟨p, vs, e, .inr h1, h2⟩
  · have h' : seqOf w.M x = some ds := by
      cases x <;> first | exact h | exact absurd ⟨_, rfl⟩ hf | exact absurd ⟨_, rfl⟩ hk
    obtain ⟨p, vs, e, h1, h2⟩ := seq_at ok r h'
    exact ⟨p, vs, e, .inl h1, h2⟩
def inStr (i j : Str) : Bool := !(Builtin.Str.occurrences j i 0 j.length 1).isEmpty
def inD (M : Store) (x y : D) : Option Slot := match x, y with
  | .str i, .str j => some (.val (.bl (inStr i j)))
  | x, y => match elemsD M y with
    | some ds => if flatD x && ds.all flatD then some (.val (.bl (ds.any fun d => eqvD d x))) else none
    | none => none
def notInD (M : Store) (x y : D) : Option Slot := match x, y with
  | .str i, .str j => some (.val (.bl (!inStr i j)))
  | x, y => match elemsD M y with
    | some ds => if flatD x && ds.all flatD then some (.val (.bl (!ds.any fun d => eqvD d x))) else none
    | none => none
def rInA (K : PySem.W.Frag) : R2 := fun x y H Q => (∃ i j, x = .str i ∧ y = .str j ∧ Q (.bl (!(Builtin.Str.occurrences j i 0 j.length 1).isEmpty)) H) ∨ rIn K false x y H Q
def rNotInA (K : PySem.W.Frag) : R2 := fun x y H Q => (∃ i j, x = .str i ∧ y = .str j ∧ Q (.bl (!(!(Builtin.Str.occurrences j i 0 j.length 1).isEmpty))) H) ∨ rIn K true x y H Q
theorem op_inA : OpR X (compareOp .In) (rInA X.K) := op_in_str.or op_in_seq
theorem op_notInA : OpR X (compareOp .NotIn) (rNotInA X.K) := op_notin_str.or op_notIn_seq
theorem flat_at {A : List Addr} {G : Hp} {v : V} {d : D} (r : Rep K A G v d) (h : flatD d = true) : flatV v = true ∧ ∀ {v' : V} {d' : D}, Rep K A G v' d' → flatD d' = true → eqV v v' = eqvD d d' := by
  cases r with
  | non => exact ⟨rfl, fun r' h' => by cases r' <;> first | (cases h'; done) | simp [eqV, eqvD]⟩
  | bl b => exact ⟨rfl, fun r' h' => by cases r' <;> first | (cases h'; done) | simp [eqV, eqvD]⟩
  | int i => exact ⟨rfl, fun r' h' => by cases r' <;> first | (cases h'; done) | simp [eqV, eqvD]⟩
  | str z => exact ⟨rfl, fun r' h' => by cases r' <;> first | (cases h'; done) | simp [eqV, eqvD]⟩
  | _ => cases h
theorem flats_at {A : List Addr} {G : Hp} {v : V} {d : D} (r : Rep K A G v d) (h : flatD d = true) : ∀ {vs : List V} {ds : List D}, RepL K A G vs ds → ds.all flatD = true → vs.all flatV = true ∧ inV v vs = ds.any fun z => eqvD z d
  | [], [], _, _ => ⟨rfl, rfl⟩
  | v1 :: vs, d1 :: ds, .cons r1 rl, hs => by
    simp only [List.all_cons, Bool.and_eq_true] at hs
    obtain ⟨a, b⟩ := flats_at r h rl hs.2
    obtain ⟨c, f⟩ := flat_at r1 hs.1
    refine ⟨by simp only [List.all_cons, c, a, Bool.and_self], ?_⟩
    unfold inV at b ⊢
    rw [List.any_cons, List.any_cons, b, f r h]
theorem flatB {w : Wd} {v : V} {x : D} (r : RepB K w v x) (h : flatD x = true) : Rep K w.A w.G v x := by
  rcases r with r | ⟨_, _, _, _, rfl, _⟩
  · exact r
  · cases h
theorem p_in : Prim2 K (rInA K) inD := by
  intro w vx vy x y s Q ok rx ry h k
  unfold inD at h
  split at h
  · cases h
    cases str_at rx
    cases str_at ry
    exact .inl ⟨_, _, rfl, rfl, ans ok k fun _ _ => .bl _⟩
  · split at h
    · rename_i ds e1
      split at h
      · rename_i hc
        simp only [Bool.and_eq_true] at hc
        cases h
        obtain ⟨p, vs, rfl, hs, rl⟩ := elems_at ok ry e1
        have r := flatB rx hc.1
        obtain ⟨a, b⟩ := flats_at r hc.1 rl hc.2
        refine .inr ⟨p, vs, rfl, hs, (flat_at r hc.1).1, a, ?_⟩
        rw [b]
        exact ans ok k fun _ _ => .bl _
      · cases h
    · cases h
theorem p_notIn : Prim2 K (rNotInA K) notInD := by
  intro w vx vy x y s Q ok rx ry h k
  unfold notInD at h
  split at h
  · cases h
    cases str_at rx
    cases str_at ry
    exact .inl ⟨_, _, rfl, rfl, ans ok k fun _ _ => .bl _⟩
  · split at h
    · rename_i ds e1
      split at h
      · rename_i hc
        simp only [Bool.and_eq_true] at hc
        cases h
        obtain ⟨p, vs, rfl, hs, rl⟩ := elems_at ok ry e1
        have r := flatB rx hc.1
        obtain ⟨a, b⟩ := flats_at r hc.1 rl hc.2
        refine .inr ⟨p, vs, rfl, hs, (flat_at r hc.1).1, a, ?_⟩
        rw [b]
        exact ans ok k fun _ _ => .bl _
      · cases h
    · cases h
/-! ### len, min, max, int, list, tuple -/
def lenD (M : Store) (ds : List D) : Option Slot := match ds with
  | [.str z] => if z.length ≤ sizeLine then some (.val (.int z.length)) else none
  | [x] => match elemsD M x with
    | some es => some (.val (.int es.length))
    | none => none
  | _ => none
def rLenA (K : PySem.W.Frag) : List V → Hp → VK → Prop := fun xs H Q => (∃ p ys, xs = [.ref p] ∧ (SqL K H p ys ∨ SqT K H p ys) ∧ Q (.int ys.length) H) ∨ ∃ z, xs = [.str z] ∧ z.length ≤ sizeLine ∧ Q (.int z.length) H
theorem call_lenA : CallR X (.builtin "len") (rLenA X.K) := call_len_seq.or call_len_str
theorem p_len : PrimN K (rLenA K) lenD := by
  intro w vs ds s Q ok rl h k
  unfold lenD at h
  split at h
  · split at h
    · rename_i hz
      cases h
      obtain ⟨v, rfl, rv⟩ := rl.one
      cases str_at rv
      exact .inr ⟨_, rfl, hz, ans ok k fun _ _ => .int _⟩
    · cases h
  · split at h
    · rename_i es e1
      cases h
      obtain ⟨v, rfl, rv⟩ := rl.one
      obtain ⟨p, us, rfl, hs, r⟩ := elems_at ok rv e1
      refine .inl ⟨p, us, rfl, hs, ?_⟩
      rw [r.length]
      exact ans ok k fun _ _ => .int _
    · cases h
  · cases h
def min2D (_ : Store) (ds : List D) : Option Slot := match ds with
  | [.int i, .int j] => some (.val (.int (if j < i then j else i)))
  | _ => none
def max2D (_ : Store) (ds : List D) : Option Slot := match ds with
  | [.int i, .int j] => some (.val (.int (if j > i then j else i)))
  | _ => none
theorem p_min2 : PrimN K (fun xs H Q => ∃ i j, xs = [.int i, .int j] ∧ Q (.int (if j < i then j else i)) H) min2D := by
  intro w vs ds s Q ok rl h k
  unfold min2D at h
  split at h
  · cases h
    obtain ⟨v, v', rfl, rv, rv'⟩ := rl.two
    cases int_at rv
    cases int_at rv'
    exact ⟨_, _, rfl, ans ok k fun _ _ => .int _⟩
  · cases h
theorem p_max2 : PrimN K (fun xs H Q => ∃ i j, xs = [.int i, .int j] ∧ Q (.int (if j > i then j else i)) H) max2D := by
  intro w vs ds s Q ok rl h k
  unfold max2D at h
  split at h
  · cases h
    obtain ⟨v, v', rfl, rv, rv'⟩ := rl.two
    cases int_at rv
    cases int_at rv'
    exact ⟨_, _, rfl, ans ok k fun _ _ => .int _⟩
  · cases h
def intD (_ : Store) (ds : List D) : Option Slot := match ds with
  | [.int i] => some (.val (.int i))
  | [.bl b] => some (.val (.int (if b then 1 else 0)))
  | _ => none
theorem p_int : PrimN K (fun xs H Q => (∃ i, xs = [.int i] ∧ Q (.int i) H) ∨ ∃ k, xs = [.bl k] ∧ Q (.int (if k then 1 else 0)) H) intD := by
  intro w vs ds s Q ok rl h k
  unfold intD at h
  split at h
  · cases h
    obtain ⟨v, rfl, rv⟩ := rl.one
    cases int_at rv
    exact .inl ⟨_, rfl, ans ok k fun _ _ => .int _⟩
  · cases h
    obtain ⟨v, rfl, rv⟩ := rl.one
    cases bl_at rv
    exact .inr ⟨_, rfl, ans ok k fun _ _ => .int _⟩
  · cases h
def absD (_ : Store) (ds : List D) : Option Slot := match ds with
  | [.int i] => some (.val (.int (if i < 0 then -i else i)))
  | _ => none
theorem p_abs : PrimN K (fun xs H Q => ∃ i, xs = [.int i] ∧ Q (.int (if i < 0 then -i else i)) H) absD := by
  intro w vs ds s Q ok rl h k
  unfold absD at h
  split at h
  · cases h
    obtain ⟨v, rfl, rv⟩ := rl.one
    cases int_at rv
    exact ⟨_, rfl, ans ok k fun _ _ => .int _⟩
  · cases h
def listD (M : Store) (ds : List D) : Option Slot := match ds with
  | [x] => (elemsD M x).map Slot.own
  | _ => none
theorem p_list : PrimN K (fun xs H Q => ∃ p ys, xs = [.ref p] ∧ (SqL K H p ys ∨ SqT K H p ys) ∧ ∀ l, H l = none → Q (.ref l) (upd H l (.lst ys))) listD := by
  intro w vs ds s Q ok rl h k
  unfold listD at h
  split at h
  · rename_i x
    cases q : elemsD w.M x with
    | none => rw [q] at h; cases h
    | some es =>
      rw [q] at h
      cases h
      obtain ⟨v, rfl, rv⟩ := rl.one
      obtain ⟨p, us, rfl, hs, r⟩ := elems_at ok rv q
      exact ⟨p, us, rfl, hs, fun l hl => k _ _ (ok.fresh0 hl _) rfl (own_new (Step.refl ok) hl r)⟩
  · cases h
def tupleD (M : Store) (ds : List D) : Option Slot := match ds with
  | [.tup es] => some (.val (.tup es))
  | [x] => (seqOf M x).map fun es => .val (.tup es)
  | _ => none
theorem p_tuple : PrimN K (fun xs H Q => ∃ p ys, xs = [.ref p] ∧ ((SqL K H p ys ∧ ∀ l, H l = none → Q (.ref l) (upd H l (.tup ys))) ∨ (SqT K H p ys ∧ Q (.ref p) H))) tupleD := by
  intro w vs ds s Q ok rl h k
  unfold tupleD at h
  split at h
  · cases h
    obtain ⟨v, rfl, rv⟩ := rl.one
    obtain ⟨p, us, rfl, hs, r⟩ := tup_at ok rv
    rcases rv with rv | ⟨_, _, _, _, e, _⟩
    · exact ⟨p, us, rfl, .inr ⟨hs, k _ w (Step.refl ok) rfl rv⟩⟩
    · cases e
  · rename_i x _
    cases q : seqOf w.M x with
    | none => rw [q] at h; cases h
    | some es =>
      rw [q] at h
      cases h
      obtain ⟨v, rfl, rv⟩ := rl.one
      obtain ⟨p, us, rfl, hs, r⟩ := seq_at ok rv q
      refine ⟨p, us, rfl, .inl ⟨hs, fun l hl => ?_⟩⟩
      have st := ok.fresh hl (.tup us)
      exact k _ _ st rfl (.tup upd_same (st.repL r))
  · cases h
/-! ### all, any, sum of lists of bools, ints -/
def blsOf : List D → Option (List Bool)
  | [] => some []
  | .bl b :: ds => (blsOf ds).map (b :: ·)
  | _ => none
def intsOf : List D → Option (List Int)
  | [] => some []
  | .int b :: ds => (intsOf ds).map (b :: ·)
  | _ => none
theorem bls_at {A : List Addr} {G : Hp} : ∀ {ds : List D} {vs : List V} {bs : List Bool}, RepL K A G vs ds → blsOf ds = some bs → vs = bs.map V.bl
  | [], _, _, r, h => by cases r; cases h; rfl
  | .bl b :: ds, _, bs, r, h => by
    cases r with
    | cons r1 r2 =>
      simp only [blsOf] at h
      cases q : blsOf ds with
      | none => rw [q] at h; cases h
      | some cs =>
        rw [q] at h
        cases h
        cases r1
        rw [bls_at r2 q]
        rfl
  | .non :: _, _, _, _, h => by cases h
  | .int _ :: _, _, _, _, h => by cases h
  | .str _ :: _, _, _, _, h => by cases h
  | .tup _ :: _, _, _, _, h => by cases h
  | .lst _ :: _, _, _, _, h => by cases h
  | .fro _ :: _, _, _, _, h => by cases h
  | .kt _ :: _, _, _, _, h => by cases h
  | .ref _ :: _, _, _, _, h => by cases h
theorem ints_at {A : List Addr} {G : Hp} : ∀ {ds : List D} {vs : List V} {bs : List Int}, RepL K A G vs ds → intsOf ds = some bs → vs = bs.map V.int
  | [], _, _, r, h => by cases r; cases h; rfl
  | .int b :: ds, _, bs, r, h => by
    cases r with
    | cons r1 r2 =>
      simp only [intsOf] at h
      cases q : intsOf ds with
      | none => rw [q] at h; cases h
      | some cs =>
        rw [q] at h
        cases h
        cases r1
        rw [ints_at r2 q]
        rfl
  | .non :: _, _, _, _, h => by cases h
  | .bl _ :: _, _, _, _, h => by cases h
  | .str _ :: _, _, _, _, h => by cases h
  | .tup _ :: _, _, _, _, h => by cases h
  | .lst _ :: _, _, _, _, h => by cases h
  | .fro _ :: _, _, _, _, h => by cases h
  | .kt _ :: _, _, _, _, h => by cases h
  | .ref _ :: _, _, _, _, h => by cases h
def allD (M : Store) (ds : List D) : Option Slot := match ds with
  | [x] => match seqOf M x with
    | some es => (blsOf es).map fun bs => .val (.bl (bs.all id))
    | none => none
  | _ => none
def anyD (M : Store) (ds : List D) : Option Slot := match ds with
  | [x] => match seqOf M x with
    | some es => (blsOf es).map fun bs => .val (.bl (bs.any id))
    | none => none
  | _ => none
def sumD (M : Store) (ds : List D) : Option Slot := match ds with
  | [x] => match seqOf M x with
    | some es => (intsOf es).map fun bs => .val (.int bs.sum)
    | none => none
  | _ => none
theorem p_all : PrimN K (rAll K) allD := by
  intro w vs ds s Q ok rl h k
  unfold allD at h
  split at h
  · split at h
    · rename_i es e1
      cases q : blsOf es with
      | none => rw [q] at h; cases h
      | some bs =>
        rw [q] at h
        cases h
        obtain ⟨v, rfl, rv⟩ := rl.one
        obtain ⟨p, us, rfl, hs, r⟩ := seq_at ok rv e1
        cases bls_at r q
        exact ⟨p, bs, rfl, hs, ans ok k fun _ _ => .bl _⟩
    · cases h
  · cases h
theorem p_any : PrimN K (rAny K) anyD := by
  intro w vs ds s Q ok rl h k
  unfold anyD at h
  split at h
  · split at h
    · rename_i es e1
      cases q : blsOf es with
      | none => rw [q] at h; cases h
      | some bs =>
        rw [q] at h
        cases h
        obtain ⟨v, rfl, rv⟩ := rl.one
        obtain ⟨p, us, rfl, hs, r⟩ := seq_at ok rv e1
        cases bls_at r q
        exact ⟨p, bs, rfl, hs, ans ok k fun _ _ => .bl _⟩
    · cases h
  · cases h
theorem p_sum : PrimN K (rSum K) sumD := by
  intro w vs ds s Q ok rl h k
  unfold sumD at h
  split at h
  · split at h
    · rename_i es e1
      cases q : intsOf es with
      | none => rw [q] at h; cases h
      | some bs =>
        rw [q] at h
        cases h
        obtain ⟨v, rfl, rv⟩ := rl.one
        obtain ⟨p, us, rfl, hs, r⟩ := seq_at ok rv e1
        cases ints_at r q
        exact ⟨p, bs, rfl, hs, ans ok k fun _ _ => .int _⟩
    · cases h
  · cases h
/-! ### texts -/
def upperD (_ : Store) (x : D) (ds : List D) : Option Slot := match x, ds with
  | .str a, [] => if a.length ≤ 5592405 then some (.val (.str (Txt.upper a))) else none
  | _, _ => none
theorem p_upper : PrimM K (fun x xs H Q => ∃ a, x = .str a ∧ xs = [] ∧ a.length ≤ 5592405 ∧ Q (.str (Txt.upper a)) H) upperD := by
  intro w vx x vs ds s Q ok rx rl h k
  unfold upperD at h
  split at h
  · split at h
    · rename_i hz
      cases h
      cases str_at rx
      cases rl
      exact ⟨_, rfl, rfl, hz, ans ok k fun _ _ => .str _⟩
    · cases h
  · cases h
def strsOf : List D → Option (List Str)
  | [] => some []
  | .str b :: ds => (strsOf ds).map (b :: ·)
  | _ => none
theorem strs_at {A : List Addr} {G : Hp} : ∀ {ds : List D} {vs : List V} {bs : List Str}, RepL K A G vs ds → strsOf ds = some bs → vs = bs.map V.str
  | [], _, _, r, h => by cases r; cases h; rfl
  | .str b :: ds, _, bs, r, h => by
    cases r with
    | cons r1 r2 =>
      simp only [strsOf] at h
      cases q : strsOf ds with
      | none => rw [q] at h; cases h
      | some cs =>
        rw [q] at h
        cases h
        cases r1
        rw [strs_at r2 q]
        rfl
  | .non :: _, _, _, _, h => by cases h
  | .bl _ :: _, _, _, _, h => by cases h
  | .int _ :: _, _, _, _, h => by cases h
  | .tup _ :: _, _, _, _, h => by cases h
  | .lst _ :: _, _, _, _, h => by cases h
  | .fro _ :: _, _, _, _, h => by cases h
  | .kt _ :: _, _, _, _, h => by cases h
  | .ref _ :: _, _, _, _, h => by cases h
def joinD (M : Store) (x : D) (ds : List D) : Option Slot := match x, ds with
  | .str a, [y] => match elemsD M y with
    | some es => match strsOf es with
      | some ys => if (ys.map (·.length)).sum + ys.length * a.length ≤ 16777216 then some (.val (.str (Txt.join a ys))) else none
      | none => none
    | none => none
  | _, _ => none
theorem p_join : PrimM K (fun x xs H Q => ∃ a p, ∃ ys : List Str, x = .str a ∧ xs = [.ref p] ∧ (SqL K H p (ys.map V.str) ∨ SqT K H p (ys.map V.str)) ∧ (ys.map (·.length)).sum + ys.length * a.length ≤ 16777216 ∧ Q (.str (Txt.join a ys)) H) joinD := by
  intro w vx x vs ds s Q ok rx rl h k
  unfold joinD at h
  split at h
  · split at h
    · rename_i es e1
      split at h
      · rename_i ys e2
        split at h
        · rename_i hz
          cases h
          cases str_at rx
          obtain ⟨v, rfl, rv⟩ := rl.one
          obtain ⟨p, us, rfl, hs, r⟩ := elems_at ok rv e1
          cases strs_at r e2
          exact ⟨_, p, ys, rfl, rfl, hs, hz, ans ok k fun _ _ => .str _⟩
        · cases h
      · cases h
    · cases h
  · cases h
/-! ### isinstance with a built-in class -/
def clsD (M : Store) : D → Option String
  | .non => some "NoneType"
  | .bl _ => some "bool"
  | .int _ => some "int"
  | .str _ => some "str"
  | .tup _ => some "tuple"
  | .lst _ => some "list"
  | .fro _ => none
  | .kt _ => some "tuple"
  | .ref k => match M[k]? with
    | some (.lst _) => some "list"
    | some (.dK _) => some "dict"
    | some (.dT _) => some "dict"
    | _ => none
theorem cls_at {w : Wd} (ok : w.Ok K) {v : V} {x : D} {T : String} (r : RepB K w v x) (h : clsD w.M x = some T) : TyX K w.H v (.type T) := by
  cases x with
  | non => cases non_at r; cases h; exact .base .non
  | bl b => cases bl_at r; cases h; exact .base (.bl b)
  | int b => cases int_at r; cases h; exact .base (.int b)
  | str b => cases str_at r; cases h; exact .base (.str b)
  | tup ds =>
    cases h
    obtain ⟨p, vs, rfl, hs, rl⟩ := tup_at ok r
    rcases hs with (hs | ⟨o, hs⟩) | ⟨o, its, n, hk, hc, _⟩
    · exact .base (.tup hs)
    · exact .fTuple hs
    · exact .kTuple hk hc
  | lst ds =>
    cases h
    obtain ⟨p, vs, rfl, hs, rl⟩ := lst_at (ds := ds) ok r rfl
    exact .base (.lst hs)
  | fro ds => cases h
  | kt ds =>
    cases h
    obtain ⟨p, vs, rfl, hs, rl⟩ := kt_at ok r
    rcases hs with (hs | ⟨o, hs⟩) | ⟨o, its, n, hk, hc, _⟩
    · exact .base (.tup hs)
    · exact .fTuple hs
    · exact .kTuple hk hc
  | ref k =>
    simp only [clsD] at h
    rcases r with r | ⟨p, vs, es', rfl, e, _⟩
    · cases r with
      | @ref a k ek =>
        split at h
        · rename_i ds e2
          obtain ⟨a', e3, vs, h1, h2⟩ := ok.mos k _ e2
          rw [ek] at e3; cases e3
          cases h
          exact .base (.lst h1)
        · rename_i ds e2
          obtain ⟨a', e3, vs, h1, h2⟩ := ok.mos k _ e2
          rw [ek] at e3; cases e3
          cases h
          exact .base (.dK h1)
        · rename_i ds e2
          obtain ⟨a', e3, vs, h1, h2⟩ := ok.mos k _ e2
          rw [ek] at e3; cases e3
          cases h
          exact .base (.dT h1)
        · cases h
    · cases e
/-- subclasses among these -/
def subTy (a b : String) : Bool := a == b || (a == "bool" && b == "int")
def kitTys : List String := ["NoneType", "bool", "int", "str", "tuple", "list", "dict"]
theorem kit_all : ∀ a ∈ kitTys, ∀ b ∈ ["bool", "int", "str", "tuple", "list", "dict"], kitB a b = some (subTy a b) := by decide +kernel
theorem cls_in {M : Store} {x : D} {T : String} (h : clsD M x = some T) : T ∈ kitTys := by
  cases x <;> simp only [clsD] at h <;> first | (cases h; done) | (cases h; decide) | skip
  split at h <;> first | (cases h; done) | (cases h; decide)
def isiD (T : String) (M : Store) (x : D) : Option Slot := (clsD M x).map fun c => .val (.bl (subTy c T))
/-- isinstance(e, T) -/
def tIsi (T : String) (K : PySem.W.Frag) (t : TE) : TE := tCB (rIsi K) (tCons t (tCons (tC (.ty T)) tNil))
theorem x_isi {T : String} (hT : T ∈ ["bool", "int", "str", "tuple", "list", "dict"]) {f : FD} (h : PE X e (tIsi T K (tR K E f))) : PE X e (tE K E (dOp1 (isiD T) f)) := PE.wk h fun σ H Q ⟨ρ, w, e1, ok, sr, a⟩ =>
  ⟨ρ, w, e1, ok, sr, a.bind.imp fun x w1 s1 a1 v rv => by
    obtain ⟨s, es, k⟩ := fin_of s1 a1
    unfold isiD at es
    cases q : clsD w1.M x with
    | none => rw [q] at es; cases es
    | some c =>
      rw [q] at es
      cases es
      exact ⟨v, .ty T, .type c, .type T, subTy c T, rfl, .ty T, cls_at s1.ok rv q, kit_ty (kit_all c (cls_in q) T hT), ans s1.ok k fun _ _ => .bl _⟩⟩
/-! ### the store -/
/-- a list of one's own comes into the store -/
def dRef (f : FE) : FE := fun ρ M => (f ρ M).bind fun x M => match x with
  | .own ds => .ok (.val (.ref M.length)) (M ++ [.lst ds])
  | _ => .bad
theorem Wd.Ok.push {w : Wd} (h : w.Ok K) {p : Addr} {o : MO} (hG : w.G p = none) (hA : p ∉ w.A) (hm : MoR K w p o) : (⟨w.A ++ [p], w.G, w.M ++ [o], w.H⟩ : Wd).Ok K := by
  have up : ∀ {a : Addr} {m : MO}, MoR K w a m → MoR K ⟨w.A ++ [p], w.G, w.M ++ [o], w.H⟩ a m := fun {a m} r => by
    have rr : ∀ v d, Rep K w.A w.G v d → Rep K (w.A ++ [p]) w.G v d := fun v d => Rep.mono (List.prefix_append _ _) (Same.refl _) d v
    cases m with
    | lst ds => obtain ⟨vs, z, q⟩ := r; exact ⟨vs, z, RepL.mono (List.prefix_append _ _) (Same.refl _) _ _ q⟩
    | dK ds => obtain ⟨vs, z, q⟩ := r; exact ⟨vs, z, q.imp rr⟩
    | dT ds => obtain ⟨vs, z, q⟩ := r; exact ⟨vs, z, q.imp rr⟩
    | ins c fs => obtain ⟨vs, dx, z, q⟩ := r; exact ⟨vs, dx, z, q.imp rr⟩
  refine ⟨h.sub, ?_, by simp [h.len], fun a ha => ?_, fun k m e => ?_⟩
  · rw [List.nodup_append]
    exact ⟨h.nd, by simp, fun a ha b hb => by simp at hb; subst hb; exact fun z => hA (z ▸ ha)⟩
  · rcases List.mem_append.mp ha with ha | ha
    · exact h.out a ha
    · simp at ha; subst ha; exact hG
  · have e : (w.M ++ [o])[k]? = some m := e
    by_cases hk : k < w.M.length
    · rw [List.getElem?_append_left hk] at e
      obtain ⟨a, ea, r⟩ := h.mos k m e
      exact ⟨a, pre_get (List.prefix_append _ _) ea, up r⟩
    · rw [List.getElem?_append_right (by omega)] at e
      have hk2 : k - w.M.length = 0 := by
        have := (List.getElem?_eq_some_iff.mp e).1
        simp at this
        omega
      rw [hk2] at e
      cases e
      refine ⟨p, ?_, up hm⟩
      show (w.A ++ [p])[k]? = some p
      have hl := h.len
      rw [List.getElem?_append_right (by omega), show k - w.A.length = 0 by omega]
      rfl
theorem x_ref {f : FE} (h : PE X e (tE K E f)) : PE X e (tE K E (dRef f)) := PE.wk h fun σ H Q ⟨ρ, w, e1, ok, sr, a⟩ =>
  ⟨ρ, w, e1, ok, sr, by
    unfold dRef at a
    cases q : f ρ w.M with
    | bad => rw [q] at a; exact a
    | exc c d M => rw [q] at a; exact a
    | ok x M =>
      rw [q] at a
      cases x with
      | un => exact a.elim
      | val d => exact a.elim
      | own ds =>
        intro w1 s1 eM v rv
        obtain ⟨p, vs, rfl, h0, hH, hG, hA, rl⟩ := rv
        have ok2 := s1.ok.push hG hA (show MoR K w1 p (.lst ds) from ⟨vs, hH, rl⟩)
        have a' : ∀ w', Step K w w' → w'.M = M ++ [.lst ds] → ∀ v, RepX K w w' v (.val (.ref M.length)) → Q v w'.H := a
        refine a' ⟨w1.A ++ [p], w1.G, w1.M ++ [.lst ds], w1.H⟩ ⟨ok2, s1.pre.trans (List.prefix_append _ _), s1.fro, fun b o z1 z2 z3 => ?_⟩ (by rw [eM]) _ (.ref ?_)
        · obtain ⟨c1, c2, c3⟩ := s1.keep b o z1 z2 z3
          exact ⟨c1, c2, fun hm => (List.mem_append.mp hm).elim c3 fun z => by simp at z; subst z; rw [h0] at z1; cases z1⟩
        · show (w1.A ++ [p])[M.length]? = some p
          have hl := s1.ok.len
          rw [eM] at hl
          rw [← hl, List.getElem?_append_right (Nat.le_refl _), Nat.sub_self]
          rfl⟩
/-- the k-th thing of the store is changed -/
theorem Wd.Ok.put {w : Wd} (h : w.Ok K) {k : Nat} {p : Addr} {o : MO} {ho : HO} (hk : w.A[k]? = some p) (hm : MoR K ⟨w.A, w.G, w.M.set k o, upd w.H p ho⟩ p o) : Step K w ⟨w.A, w.G, w.M.set k o, upd w.H p ho⟩ := by
  have hp : p ∈ w.A := List.mem_of_getElem? hk
  have hG : w.G p = none := h.out p hp
  have hkl : k < w.M.length := by rw [← h.len]; exact (List.getElem?_eq_some_iff.mp hk).1
  refine ⟨⟨fun b u e => ?_, h.nd, by simp [h.len], h.out, fun j m e => ?_⟩, List.prefix_refl _, Same.refl _, fun q u z1 z2 z3 => ⟨?_, z2, z3⟩⟩
  · show upd w.H p ho b = some u
    rw [upd_ne (ne_of_none e hG)]
    exact h.sub b u e
  · have e : (w.M.set k o)[j]? = some m := e
    by_cases hj : k = j
    · subst hj
      rw [List.getElem?_set_self hkl] at e
      cases e
      exact ⟨p, hk, hm⟩
    · rw [List.getElem?_set_ne hj] at e
      obtain ⟨a, ea, r⟩ := h.mos j m e
      have na : a ≠ p := fun z => hj ((List.getElem?_inj (List.getElem?_eq_some_iff.mp hk).1 h.nd).mp (by rw [hk]; rw [← z]; exact ea.symm))
      refine ⟨a, ea, ?_⟩
      cases m with
      | lst ds => obtain ⟨vs, z, q⟩ := r; exact ⟨vs, by show upd w.H p ho a = _; rw [upd_ne na]; exact z, q⟩
      | dK ds => obtain ⟨vs, z, q⟩ := r; exact ⟨vs, by show upd w.H p ho a = _; rw [upd_ne na]; exact z, q⟩
      | dT ds => obtain ⟨vs, z, q⟩ := r; exact ⟨vs, by show upd w.H p ho a = _; rw [upd_ne na]; exact z, q⟩
      | ins c fs => obtain ⟨vs, dx, z, q⟩ := r; exact ⟨vs, dx, by show upd w.H p ho a = _; rw [upd_ne na]; exact z, q⟩
  · show upd w.H p ho q = some u
    rw [upd_ne (fun z : q = p => z3 (z ▸ hp))]
    exact z1
/-- o[i] = e of a list of the store -/
def sPutR (f fo fi : FD) : FS := fun ρ M => (f ρ M).out fun x M => (fo ρ M).out fun o M => (fi ρ M).out fun i M => match o, i with
  | .ref k, .int j => match M[k]? with
    | some (.lst ds) => match ixN ds.length j with
      | some n => .next ρ (M.set k (.lst (ds.set n x)))
      | none => .bad
    | _ => .bad
  | _, _ => .bad
theorem ref_at {w : Wd} {v : V} {k : Nat} (r : RepB K w v (.ref k)) : ∃ a, v = .ref a ∧ w.A[k]? = some a := by
  rcases r with r | ⟨p, vs, es', rfl, e, _⟩
  · cases r with
    | ref e => exact ⟨_, rfl, e⟩
  · cases e
theorem s_putR {st : Stmt} {f fo fi : FD} (h : PS X st (tAsg (tF K E f) (gSub (tR K E fo) (tR K E fi) rSetL))) : PS X st (tS K E (sPutR f fo fi)) := PS.wk h fun D σ H ⟨ρ, w, w0, e1, s, sr, of, p⟩ =>
  ⟨ρ, w, e1, s.ok, sr, (out_after s p).imp fun x w1 s1 p1 v rv => ⟨ρ, w1, rfl, s1.ok, sr.step s1, (out_after (s.trans s1) p1).imp fun o w2 s2 p2 vo ro => ⟨ρ, w2, rfl, s2.ok, (sr.step s1).step s2, (out_after ((s.trans s1).trans s2) p2).imp fun i w3 s3 p3 vi ri => by
    split at p3
    · rename_i k j
      split at p3
      · rename_i ds e2
        split at p3
        · rename_i n en
          obtain ⟨a, rfl, ea⟩ := ref_at (ro.step s3)
          cases int_at ri
          obtain ⟨a', ea', vs, hH, rl⟩ := s3.ok.mos k _ e2
          rw [ea] at ea'
          cases ea'
          refine ⟨a, vs, j, n, rfl, rfl, hH, by rw [rl.length]; exact en, ?_⟩
          have rv3 := (s2.trans s3).rep rv
          have st3 := s3.ok.put (o := .lst (ds.set n x)) (ho := .lst (vs.set n v)) ea ⟨_, upd_same, rl.set rv3 n⟩
          have sall := ((s.trans s1).trans s2).trans s3
          exact p3 _ σ (sall.trans st3) st3.le rfl ((((sr.step s1).step s2).step s3).step st3) of
        · exact p3.elim
      · exact p3.elim
    · exact p3.elim⟩⟩⟩
/-! ### a def's entry -/
def startD (n : Nat) (ds : List D) : EnvD := ds.map Slot.val ++ List.replicate (n - ds.length) .un
theorem SR.start {w : Wd} {N : List Str} {vs : List V} {ds : List D} (rl : RepL K w.A w.G vs ds) : SR K w (startD N.length ds) (L2.start N vs) := by
  have no : ∀ (i : Nat) (es : List D), (startD N.length ds)[i]? ≠ some (.own es) := fun i es h => by
    unfold startD at h
    by_cases hi : i < (ds.map Slot.val).length
    · rw [List.getElem?_append_left hi, List.getElem?_map] at h
      cases q : ds[i]? with
      | none => rw [q] at h; cases h
      | some d => rw [q] at h; cases h
    · rw [List.getElem?_append_right (by omega), List.getElem?_replicate] at h
      split at h <;> cases h
  refine ⟨by unfold startD L2.start; simp [rl.length], fun i d h => ?_, fun i es h => absurd h (no i es), fun i j es es' p h => absurd h (no i es)⟩
  unfold startD at h
  by_cases hi : i < (ds.map Slot.val).length
  · rw [List.getElem?_append_left hi, List.getElem?_map] at h
    cases q : ds[i]? with
    | none => rw [q] at h; cases h
    | some d' =>
      rw [q] at h
      cases h
      obtain ⟨v, ev, rv⟩ := rl.get q
      refine ⟨v, ?_, rv⟩
      unfold L2.start
      rw [List.length_map] at hi
      rw [List.getElem?_append_left (by simpa [rl.length] using hi), List.getElem?_map, ev]
      rfl
  · rw [List.getElem?_append_right (by omega), List.getElem?_replicate] at h
    split at h <;> cases h
theorem OF.start (w : Wd) (n : Nat) (ds : List D) (σ : L2.St) : OF w (startD n ds) σ := fun i es p h => by
  exfalso
  unfold startD at h
  by_cases hi : i < (ds.map Slot.val).length
  · rw [List.getElem?_append_left hi, List.getElem?_map] at h
    cases q : ds[i]? with
    | none => rw [q] at h; cases h
    | some d => rw [q] at h; cases h
  · rw [List.getElem?_append_right (by omega), List.getElem?_replicate] at h
    split at h <;> cases h
def runF (n : Nat) (g : FS) : Fn := fun ds M => match g (startD n ds) M with
  | .next _ M => .ok (.val .non) M
  | .ret s M => .ok s M
  | .exc c d M => .exc c d M
  | _ => .bad
abbrev W0 : XK → Wish := fun _ => E00
/-- a def that lets no exception out -/
theorem fn_ok {P : Program} {wo : World} {mg : Str → Option Value} {base : Heap} {x qual : Str} {st : Stmt} {f : Addr} {fd : FuncData} {N ps : List Str} {k : Nat} {g : FS} (F : Fun K x qual st f fd) (S : FnScope N ps (defScope st))
    (hbody : ∀ (cdv : Value) (A : Around) (outer : List Env) (s : Shared) (H : Hp) (EX : XK), Room k (A.deeper (envOfC qual (defScope st) s.heap.objs.size f cdv)) →
      PSs (cxOf CX0 P wo K mg base N qual (defScope st) f cdv A outer s H EX).nox (defBody st) (tS K E00 g)) : FnOk P wo K mg base CX0 (k + 1) f fd ps (spD K W0 ps.length (runF N.length g)) := by
  refine F.ok S (fun vs H Q EX h => h.1) (fun cdv A outer s H vs Q EX hr h => ?_)
  refine ⟨_, hbody cdv A outer s H EX hr, ?_⟩
  obtain ⟨hl, ds, w, rfl, ok, rl, a⟩ := h
  refine ⟨startD N.length ds, w, w, rfl, Step.refl ok, SR.start rl, OF.start w _ _ _, ?_⟩
  unfold runF at a
  cases q : g (startD N.length ds) w.M with
  | next ρ M => rw [q] at a; exact fun w' σ s' _ eM _ _ => a w' s' eM .non .non
  | ret x M => rw [q] at a; exact fun w' v s' eM rv => a w' s' eM v rv
  | exc c d M => rw [q] at a; exact a
  | brk ρ M => rw [q] at a; exact a.elim
  | cont ρ M => rw [q] at a; exact a.elim
  | bad => rw [q] at a; exact a.elim
end
end TP
/-! TPh: chains, more statements, more walks. -/
namespace TP
open PySem L2
section
variable {K : PySem.W.Frag} {E : Wish} {X : Cx} {e : Expr} {st : Stmt}
def dChain (g g' : Store → D → D → Option Slot) (fa fb fc : FD) : FE := fun ρ M => (fa ρ M).bind fun x M => (fb ρ M).bind fun y M => match g M x y with
  | some (.val (.bl true)) => (fc ρ M).bind fun z M => R.of (g' M y z) M
  | some (.val (.bl false)) => .ok (.val (.bl false)) M
  | _ => .bad
theorem x_chain {r r' : R2} {g g' : Store → D → D → Option Slot} {fa fb fc : FD} (h : PE X e (tChain r r' (tR K E fa) (tR K E fb) (tR K E fc))) (p : Prim2 K r g) (p' : Prim2 K r' g') : PE X e (tE K E (dChain g g' fa fb fc)) := PE.wk h fun σ H Q ⟨ρ, w, e1, ok, sr, a⟩ =>
  ⟨ρ, w, e1, ok, sr, a.bind.imp fun x w1 s1 a1 vx rx => ⟨ρ, w1, rfl, s1.ok, sr.step s1, a1.bind.imp fun y w2 s2 a2 vy ry => by
    split at a2
    · rename_i eg
      refine p w2 vx vy x y _ _ s2.ok (rx.step s2) ry eg fun v w3 s3 e3 rv => ?_
      cases rv
      have s13 := (s1.trans s2).trans s3
      refine ⟨true, rfl, iteT ⟨ρ, w3, rfl, s3.ok, ((sr.step s1).step s2).step s3, ?_⟩⟩
      rw [e3]
      have a3 := a2.later s3
      exact a3.bind.imp fun z w4 s4 a4 vz rz => by
        obtain ⟨s, es, k⟩ := fin_of (s13.trans s4) a4
        exact p' w4 vy vz y z s Q s4.ok ((ry.step s3).step s4) rz es k
    · rename_i eg
      refine p w2 vx vy x y _ _ s2.ok (rx.step s2) ry eg fun v w3 s3 e3 rv => ?_
      cases rv
      exact ⟨false, rfl, iteF (a2 w3 s3 e3 _ (.bl _))⟩
    · exact a2.elim⟩⟩
/-- name = [comprehension] on one line -/
theorem s_setLc {i : Nat} {fi : FL} {b : D → EnvD → Option EnvD} {is : List Nat} {c : FB} {f : FD} {vs : List Nat} (hv : ∀ i ∈ is, i ∈ vs) (h : PS X st (tAsg (tLc (tI K E fi) (tG K b is) (tT K E00 c) (tF K E00 f) vs) (gName i))) : PS X st (tS K E (sSet i (dLc fi b c f vs))) :=
  s_set (PS.wk h fun D σ H z => lc_le hv σ H _ z)
/-- name op= e -/
def sAug (i : Nat) (g : Store → D → D → Option Slot) (f : FD) : FS := fun ρ M => match ρ[i]? with
  | some (.val x) => (f ρ M).out fun y M => match g M x y with
    | some (.val z) => .next (ρ.set i (.val z)) M
    | _ => .bad
  | _ => .bad
/-- what op= does by values, for plain data that is not changed in place -/
def PrimI (K : PySem.W.Frag) (r : TIp) (g : Store → D → D → Option Slot) : Prop := ∀ (w : Wd) (vx vy : V) (x y z : D) (Q : VK), w.Ok K → Rep K w.A w.G vx x → RepB K w vy y → g w.M x y = some (.val z) →
  (∀ v w', Step K w w' → w'.M = w.M → Rep K w'.A w'.G v z → Q v w'.H) → r vx vy w.H Q
theorem s_aug {i : Nat} {r : TIp} {g : Store → D → D → Option Slot} {f : FD} (h : PS X st (tAug i (tR K E f) r)) (p : PrimI K r g) : PS X st (tS K E (sAug i g f)) := PS.wk h fun D σ H ⟨ρ, w, w0, e1, s, sr, of, q⟩ => by
  subst e1
  unfold sAug at q
  split at q
  · rename_i x e2
    obtain ⟨v, h1, h2⟩ := sr.val i x e2
    refine ⟨v, h1, ρ, w, rfl, s.ok, sr, (out_after s q).imp fun y w1 s1 q1 vy ry => ?_⟩
    split at q1
    · rename_i z eg
      refine p w1 v vy x y z _ s1.ok (s1.rep h2) ry eg fun u w2 s2 e3 rz => ?_
      refine q1 w2 _ ((s.trans s1).trans s2) s2.le e3 (((sr.step s1).step s2).set i rz) (of.sub (OwnSub.set ρ σ i (fun _ z => by cases z) _))
    · exact q1.elim
  · exact q.elim
def iaddD (_ : Store) (x y : D) : Option Slot := match x, y with
  | .int i, .int j => some (.val (.int (i + j)))
  | _, _ => none
theorem p_iadd : PrimI K (ipI fun i j => i + j) iaddD := by
  intro w vx vy x y z Q ok rx ry h k
  unfold iaddD at h
  split at h
  · cases h
    cases rx
    cases int_at ry
    exact ⟨_, _, rfl, rfl, k _ w (Step.refl ok) rfl (.int _)⟩
  · cases h
/-! ### enumerate, zip, reversed -/
def enumL (ds : List D) : List D := (List.range ds.length).map fun i => .tup [.int (i : Nat), ds.getD i .non]
theorem it_enum {w : Wd} {a : Addr} {vs : List V} {ds : List D} (hs : SqL K w.G a vs) (rl : RepL K w.A w.G vs ds) : IterOk K w (Ite K a) (enumL ds) := fun w2 le ok2 i => by
  have h2 : SqL K w2.H a vs := ok2.sub.seq (le.2.seq hs)
  have r2 := le.repL rl
  refine ⟨fun d ed => ?_, fun hl => ⟨vs, h2, by rw [rl.length]; simpa [enumL] using hl⟩⟩
  unfold enumL at ed
  rw [List.getElem?_map] at ed
  by_cases hi : i < ds.length
  · rw [List.getElem?_range hi] at ed
    cases ed
    obtain ⟨v, ev, rv⟩ := r2.get (List.getElem?_eq_getElem hi)
    refine ⟨⟨vs, v, h2, ev⟩, fun x H' y => ?_⟩
    obtain ⟨T, x', rfl, hT, rfl, y⟩ := y
    have := y vs h2
    rw [ev] at this
    cases this
    have st := ok2.fresh hT (.tup [.int (i : Nat), v])
    refine ⟨_, st, rfl, rfl, .tup upd_same (.cons (.int _) (.one ?_))⟩
    rw [List.getD_eq_getElem?_getD, List.getElem?_eq_getElem hi]
    exact st.rep rv
  · rw [List.getElem?_eq_none (by simpa using hi)] at ed
    cases ed
def dEnum (fs : FL) : FL := fun ρ M => (fs ρ M).bind fun ds M => match ds with
  | [.lst es] => .ok (enumL es) M
  | [.fro es] => .ok (enumL es) M
  | _ => .bad
theorem x_enum {tg : Expr} {fs : FL} (h : PI X tg e (iEnum K (tAF K E fs))) : PI X tg e (tI K E (dEnum fs)) := PI.wk h fun σ H Q ⟨ρ, w, e1, ok, sr, a⟩ =>
  ⟨ρ, w, e1, ok, sr, a.bind.imp fun ds w1 s1 a1 vs rvs => by
    split at a1
    · cases rvs with
      | cons r1 r2 =>
        cases r2
        cases r1 with
        | lst hs rl => exact ⟨_, _, rfl, .inl (.inl (s1.ok.sub _ _ hs)), a1 w1 (Step.refl s1.ok) rfl _ (it_enum (.inl (.inl hs)) rl)⟩
    · cases rvs with
      | cons r1 r2 =>
        cases r2
        cases r1 with
        | fro hs rl => exact ⟨_, _, rfl, s1.ok.sub.seq hs, a1 w1 (Step.refl s1.ok) rfl _ (it_enum hs rl)⟩
    · exact a1.elim⟩
def zipL : List D → List D → List D
  | x :: xs, y :: ys => .tup [x, y] :: zipL xs ys
  | _, _ => []
theorem zipL_get : ∀ (xs ys : List D) (i : Nat) (d : D), (zipL xs ys)[i]? = some d → ∃ x y, xs[i]? = some x ∧ ys[i]? = some y ∧ d = .tup [x, y]
  | x :: xs, y :: ys, 0, d, h => by simp [zipL] at h; exact ⟨x, y, rfl, rfl, h.symm⟩
  | x :: xs, y :: ys, i + 1, d, h => by
    obtain ⟨a, b, h1, h2, h3⟩ := zipL_get xs ys i d (by simpa [zipL] using h)
    exact ⟨a, b, by simpa using h1, by simpa using h2, h3⟩
  | [], _, _, _, h => by simp [zipL] at h
  | _ :: _, [], _, _, h => by simp [zipL] at h
theorem zipL_len : ∀ (xs ys : List D), (zipL xs ys).length = min xs.length ys.length
  | x :: xs, y :: ys => by simp [zipL, zipL_len xs ys]
  | [], _ => by simp [zipL]
  | _ :: _, [] => by simp [zipL]
theorem it_zip {w : Wd} {a b : Addr} {vs us : List V} {ds es : List D} (hs : SqL K w.G a vs) (rl : RepL K w.A w.G vs ds) (hs' : SqL K w.G b us) (rl' : RepL K w.A w.G us es) : IterOk K w (Itz K a b) (zipL ds es) := fun w2 le ok2 i => by
  have h2 : SqL K w2.H a vs := ok2.sub.seq (le.2.seq hs)
  have h2' : SqL K w2.H b us := ok2.sub.seq (le.2.seq hs')
  refine ⟨fun d ed => ?_, fun hl => ⟨vs, us, h2, h2', by rw [zipL_len] at hl; rw [rl.length, rl'.length]; omega⟩⟩
  obtain ⟨x, y, ex, ey, rfl⟩ := zipL_get ds es i d ed
  obtain ⟨v, ev, rv⟩ := (le.repL rl).get ex
  obtain ⟨u, eu, ru⟩ := (le.repL rl').get ey
  refine ⟨⟨vs, us, v, u, h2, h2', ev, eu⟩, fun z H' hy => ?_⟩
  obtain ⟨T, x', y', rfl, hT, rfl, y1, y2⟩ := hy
  have q1 := y1 vs h2
  rw [ev] at q1
  cases q1
  have q2 := y2 us h2'
  rw [eu] at q2
  cases q2
  have st := ok2.fresh hT (.tup [v, u])
  exact ⟨_, st, rfl, rfl, .tup upd_same (.cons (st.rep rv) (.one (st.rep ru)))⟩
theorem it_zipT {w : Wd} {a b : Addr} {vs us : List V} {ds es : List D} (hs : SqT K w.G a vs) (rl : RepL K w.A w.G vs ds) (hs' : SqT K w.G b us) (rl' : RepL K w.A w.G us es) : IterOk K w (RZ.ItzT K a b) (zipL ds es) := fun w2 le ok2 i => by
  have h2 : SqT K w2.H a vs := sqT_mono ok2.sub (sqT_mono le.2 hs)
  have h2' : SqT K w2.H b us := sqT_mono ok2.sub (sqT_mono le.2 hs')
  refine ⟨fun d ed => ?_, fun hl => ⟨vs, us, h2, h2', by rw [zipL_len] at hl; rw [rl.length, rl'.length]; omega⟩⟩
  obtain ⟨x, y, ex, ey, rfl⟩ := zipL_get ds es i d ed
  obtain ⟨v, ev, rv⟩ := (le.repL rl).get ex
  obtain ⟨u, eu, ru⟩ := (le.repL rl').get ey
  refine ⟨⟨vs, us, v, u, h2, h2', ev, eu⟩, fun z H' hy => ?_⟩
  obtain ⟨T, x', y', rfl, hT, rfl, y1, y2⟩ := hy
  have q1 := y1 vs h2
  rw [ev] at q1
  cases q1
  have q2 := y2 us h2'
  rw [eu] at q2
  cases q2
  have st := ok2.fresh hT (.tup [v, u])
  exact ⟨_, st, rfl, rfl, .tup upd_same (.cons (st.rep rv) (.one (st.rep ru)))⟩
def dZip (fs : FL) : FL := fun ρ M => (fs ρ M).bind fun ds M => match ds with
  | [.lst xs, .lst ys] => .ok (zipL xs ys) M
  | [.tup xs, .tup ys] => .ok (zipL xs ys) M
  | _ => .bad
theorem x_zip {tg : Expr} {fs : FL} (h : PI X tg e (RZ.iZipA K (tAF K E fs))) : PI X tg e (tI K E (dZip fs)) := PI.wk h fun σ H Q ⟨ρ, w, e1, ok, sr, a⟩ =>
  ⟨ρ, w, e1, ok, sr, a.bind.imp fun ds w1 s1 a1 vs rvs => by
    split at a1
    · cases rvs with
      | cons r1 r2 =>
        cases r2 with
        | cons r2 r3 =>
          cases r3
          cases r1 with
          | lst hs rl =>
            cases r2 with
            | lst hs' rl' => exact ⟨_, _, _, _, rfl, .inl ⟨.inl (.inl (s1.ok.sub _ _ hs)), .inl (.inl (s1.ok.sub _ _ hs')), a1 w1 (Step.refl s1.ok) rfl _ (it_zip (.inl (.inl hs)) rl (.inl (.inl hs')) rl')⟩⟩
    · cases rvs with
      | cons r1 r2 =>
        cases r2 with
        | cons r2 r3 =>
          cases r3
          cases r1 with
          | tup hs rl =>
            cases r2 with
            | tup hs' rl' => exact ⟨_, _, _, _, rfl, .inr ⟨.inl (.inl (s1.ok.sub _ _ hs)), .inl (.inl (s1.ok.sub _ _ hs')), a1 w1 (Step.refl s1.ok) rfl _ (it_zipT (.inl (.inl hs)) rl (.inl (.inl hs')) rl')⟩⟩
    · exact a1.elim⟩
theorem it_rev {w : Wd} {a : Addr} {vs : List V} {ds : List D} (hs : SqL K w.G a vs) (rl : RepL K w.A w.G vs ds) : IterOk K w (Itv K a vs.length) ds.reverse := fun w2 le ok2 i => by
  have h2 : SqL K w2.H a vs := ok2.sub.seq (le.2.seq hs)
  refine ⟨fun d ed => ?_, fun hl => show vs.length ≤ i by rw [rl.length]; simpa using hl⟩
  have hi : i < ds.length := by have := (List.getElem?_eq_some_iff.mp ed).1; simpa using this
  rw [List.getElem?_reverse hi] at ed
  obtain ⟨v, ev, rv⟩ := (le.repL rl).get ed
  rw [← rl.length] at ev
  refine ⟨⟨by rw [rl.length]; exact hi, vs, v, h2, ev⟩, fun x H' y => ?_⟩
  obtain ⟨eH, y⟩ := y
  have q := y vs h2
  rw [ev] at q
  cases q
  exact ⟨w2, Step.refl ok2, rfl, eH.symm, rv⟩
theorem it_revT {w : Wd} {a : Addr} {vs : List V} {ds : List D} (hs : SqT K w.G a vs) (rl : RepL K w.A w.G vs ds) : IterOk K w (RT.ItvT K a vs.length) ds.reverse := fun w2 le ok2 i => by
  have h2 : SqT K w2.H a vs := sqT_mono ok2.sub (sqT_mono le.2 hs)
  refine ⟨fun d ed => ?_, fun hl => show vs.length ≤ i by rw [rl.length]; simpa using hl⟩
  have hi : i < ds.length := by have := (List.getElem?_eq_some_iff.mp ed).1; simpa using this
  rw [List.getElem?_reverse hi] at ed
  obtain ⟨v, ev, rv⟩ := (le.repL rl).get ed
  rw [← rl.length] at ev
  refine ⟨⟨by rw [rl.length]; exact hi, vs, v, h2, ev⟩, fun x H' y => ?_⟩
  obtain ⟨eH, y⟩ := y
  have q := y vs h2
  rw [ev] at q
  cases q
  exact ⟨w2, Step.refl ok2, rfl, eH.symm, rv⟩
def dRev (f : FD) : FL := fun ρ M => (f ρ M).bind fun d M => match d with
  | .lst xs => .ok xs.reverse M
  | .fro xs => .ok xs.reverse M
  | .tup xs => .ok xs.reverse M
  | _ => .bad
theorem x_rev {tg : Expr} {f : FD} (h : PI X tg e (RT.iRevA K (tF K E f))) : PI X tg e (tI K E (dRev f)) := PI.wk h fun σ H Q ⟨ρ, w, e1, ok, sr, a⟩ =>
  ⟨ρ, w, e1, ok, sr, a.bind.imp fun d w1 s1 a1 v rv => by
    split at a1
    · cases rv with
      | lst hs rl => exact ⟨_, _, rfl, .inl ⟨.inl (.inl (s1.ok.sub _ _ hs)), a1 w1 (Step.refl s1.ok) rfl _ (it_rev (.inl (.inl hs)) rl)⟩⟩
    · cases rv with
      | fro hs rl => exact ⟨_, _, rfl, .inl ⟨s1.ok.sub.seq hs, a1 w1 (Step.refl s1.ok) rfl _ (it_rev hs rl)⟩⟩
    · cases rv with
      | tup hs rl => exact ⟨_, _, rfl, .inr ⟨.inl (.inl (s1.ok.sub _ _ hs)), a1 w1 (Step.refl s1.ok) rfl _ (it_revT (.inl (.inl hs)) rl)⟩⟩
    · exact a1.elim⟩
end
/-! ### built-in names -/
theorem bt_len : bootBuiltins "len" = some (.builtin "len") := by decide +kernel
theorem bt_min : bootBuiltins "min" = some (.builtin "min") := by decide +kernel
theorem bt_max : bootBuiltins "max" = some (.builtin "max") := by decide +kernel
theorem bt_abs : bootBuiltins "abs" = some (.builtin "abs") := by decide +kernel
theorem bt_sum : bootBuiltins "sum" = some (.builtin "sum") := by decide +kernel
theorem bt_all : bootBuiltins "all" = some (.builtin "all") := by decide +kernel
theorem bt_any : bootBuiltins "any" = some (.builtin "any") := by decide +kernel
theorem bt_isinstance : bootBuiltins "isinstance" = some (.builtin "isinstance") := by decide +kernel
theorem bt_int : bootBuiltins "int" = some (.type "int") := by decide +kernel
theorem bt_str : bootBuiltins "str" = some (.type "str") := by decide +kernel
theorem bt_bool : bootBuiltins "bool" = some (.type "bool") := by decide +kernel
theorem bt_list : bootBuiltins "list" = some (.type "list") := by decide +kernel
theorem bt_tuple : bootBuiltins "tuple" = some (.type "tuple") := by decide +kernel
theorem bt_dict : bootBuiltins "dict" = some (.type "dict") := by decide +kernel
end TP
/-! TPi: what the printed proofs use besides. -/
namespace TP
open PySem L2
section
variable {K : PySem.W.Frag} {E : Wish} {X : Cx} {e : Expr}
theorem un_of {A : Around} {k : Nat} (hr : Room k A) : A.units + 200 < cLine := by have := hr.un; omega
def dYes : FB := fun _ M => .ok true M
theorem x_yes : PTs X [] (tT K E dYes) := ⟨fun pins s σ H Q I h => by
  obtain ⟨ρ, w, e1, ok, sr, a⟩ := h
  subst e1
  exact pts_nil.run pins s σ w.H Q I (a w (Step.refl ok) rfl)⟩
theorem x_test2 {r : R2} {g : Store → D → D → Option Slot} {fa fb : FD} (h : PT X e (tTest (tOp r (tR K E fa) (tR K E fb)))) (p : Prim2 K r g) : PT X e (tT K E (dBo (dOp2 g fa fb))) :=
  x_test h fun σ H Q ⟨ρ, w, e1, ok, sr, a⟩ =>
    ⟨ρ, w, e1, ok, sr, a.bind.imp fun x w1 s1 a1 vx rx => ⟨ρ, w1, rfl, s1.ok, sr.step s1, a1.bind.imp fun y w2 s2 a2 vy ry => by
      obtain ⟨s, es, k⟩ := fin_of (s1.trans s2) a2
      exact p w2 vx vy x y s Q s2.ok (rx.step s2) ry es k⟩⟩
theorem x_testC {r r' : R2} {g g' : Store → D → D → Option Slot} {fa fb fc : FD} (h : PT X e (tTest (tChain r r' (tR K E fa) (tR K E fb) (tR K E fc)))) (p : Prim2 K r g) (p' : Prim2 K r' g') : PT X e (tT K E (dBo (dChain g g' fa fb fc))) :=
  x_test h fun σ H Q ⟨ρ, w, e1, ok, sr, a⟩ =>
    ⟨ρ, w, e1, ok, sr, a.bind.imp fun x w1 s1 a1 vx rx => ⟨ρ, w1, rfl, s1.ok, sr.step s1, a1.bind.imp fun y w2 s2 a2 vy ry => by
      split at a2
      · rename_i eg
        refine p w2 vx vy x y _ _ s2.ok (rx.step s2) ry eg fun v w3 s3 e3 rv => ?_
        cases rv
        have s13 := (s1.trans s2).trans s3
        refine ⟨true, rfl, iteT ⟨ρ, w3, rfl, s3.ok, ((sr.step s1).step s2).step s3, ?_⟩⟩
        rw [e3]
        have a3 := a2.later s3
        exact a3.bind.imp fun z w4 s4 a4 vz rz => by
          obtain ⟨s, es, k⟩ := fin_of (s13.trans s4) a4
          exact p' w4 vy vz y z s Q s4.ok ((ry.step s3).step s4) rz es k
      · rename_i eg
        refine p w2 vx vy x y _ _ s2.ok (rx.step s2) ry eg fun v w3 s3 e3 rv => ?_
        cases rv
        exact ⟨false, rfl, iteF (a2 w3 s3 e3 _ (.bl _))⟩
      · exact a2.elim⟩⟩
/-- {} -/
def dNewK : FD := fun _ M => .ok (.ref M.length) (M ++ [.dK []])
theorem x_dnewK (h : PE X e tDNewK) : PE X e (tF K E dNewK) := PE.wk h fun σ H Q ⟨ρ, w, e1, ok, sr, a⟩ => by
  subst e1
  intro d hd
  have s0 := ok.fresh0 hd (.dK [])
  have hG : w.G d = none := ok.sub.free hd
  have ok2 := s0.ok.push (o := .dK []) hG (ok.notA hd) ⟨[], upd_same, .nil⟩
  have a' : ∀ w', Step K w w' → w'.M = w.M ++ [.dK []] → ∀ v, Rep K w'.A w'.G v (.ref w.M.length) → Q v w'.H := a
  refine a' ⟨w.A ++ [d], w.G, w.M ++ [.dK []], upd w.H d (.dK [])⟩ ⟨ok2, List.prefix_append _ _, Same.refl _, fun b o z1 z2 z3 => ?_⟩ rfl _ (.ref ?_)
  · refine ⟨?_, z2, fun hm => (List.mem_append.mp hm).elim z3 fun z => by simp at z; subst z; rw [hd] at z1; cases z1⟩
    show upd w.H d (.dK []) b = some o
    rw [upd_ne (ne_of_none z1 hd)]
    exact z1
  · show (w.A ++ [d])[w.M.length]? = some d
    rw [← ok.len, List.getElem?_append_right (Nat.le_refl _), Nat.sub_self]
    rfl
theorem fn_zero {P : Program} {wo : World} {mg : Str → Option Value} {base : Heap} {f : Addr} {fd : FuncData} {ps : List Str} {n : Nat} (hn : n = ps.length := by rfl) : FnOk P wo K mg base CX0 0 f fd ps (spD K W0 n (fun _ _ => .bad)) :=
  ⟨fun vs H Q EX h => h.1.trans hn, fun A outer s H args us vs Q EX _ _ _ _ h => by
    obtain ⟨_, ds, w, _, _, _, a⟩ := h
    exact a.elim⟩
end
end TP
namespace TP
open PySem L2
/-! ### the top's constants -/
/-- an object of the written part is a tuple of these -/
def valIs (K : PySem.W.Frag) : Nat → Value → D → Bool
  | _, .none, .non => true
  | _, .bool b, .bl c => b == c
  | _, .int i _, .int j => decide (i = j)
  | _, .str x _, .str y => decide (x = y)
  | n + 1, .ref a, .kt ds => match K.lookup a with
    | some o => match o.cls, o.data with
      | .type c, .seq its _ => c == "tuple" && decide (its.size ≤ 1000) && valsIs its.toList ds (valIs K n)
      | _, _ => false
    | none => false
  | _, _, _ => false
where valsIs : List Value → List D → (Value → D → Bool) → Bool
  | [], [], _ => true
  | v :: vs, d :: ds, f => f v d && valsIs vs ds f
  | _, _, _ => false
def tupIs (K : PySem.W.Frag) (n : Nat) (o : Obj) (d : D) : Bool := match d with
  | .kt ds => match o.cls, o.data with
    | .type c, .seq its _ => c == "tuple" && decide (its.size ≤ 1000) && valIs.valsIs its.toList ds (valIs K n)
    | _, _ => false
  | _ => false
section
variable {K : PySem.W.Frag} {A : List Addr} {G : Hp}
theorem valsIs_rep {f : Value → D → Bool} (hf : ∀ v d, f v d = true → ∃ x, RelV x v ∧ Rep K A G x d) : ∀ {vs : List Value} {ds : List D}, valIs.valsIs vs ds f = true → ∃ xs, Vals xs vs ∧ RepL K A G xs ds
  | [], [], _ => ⟨[], .nil, .nil⟩
  | v :: vs, d :: ds, h => by
    unfold valIs.valsIs at h
    rw [Bool.and_eq_true] at h
    obtain ⟨x, h1, h2⟩ := hf v d h.1
    obtain ⟨xs, h3, h4⟩ := valsIs_rep hf h.2
    exact ⟨x :: xs, .cons h1 h3, .cons h2 h4⟩
  | [], _ :: _, h => by cases h
  | _ :: _, [], h => by cases h
theorem valIs_rep : ∀ (n : Nat) (v : Value) (d : D), valIs K n v d = true → ∃ x, RelV x v ∧ Rep K A G x d := by
  intro n
  induction n with
  | zero =>
    intro v d h
    unfold valIs at h
    split at h
    · exact ⟨.non, rfl, .non⟩
    · rw [beq_iff_eq] at h; subst h; exact ⟨.bl _, rfl, .bl _⟩
    · have := of_decide_eq_true h; subst this; exact ⟨.int _, ⟨_, rfl⟩, .int _⟩
    · have := of_decide_eq_true h; subst this; exact ⟨.str _, ⟨_, rfl⟩, .str _⟩
    · exfalso; omega
    · cases h
  | succ n ih =>
    intro v d h
    unfold valIs at h
    split at h
    · exact ⟨.non, rfl, .non⟩
    · rw [beq_iff_eq] at h; subst h; exact ⟨.bl _, rfl, .bl _⟩
    · have := of_decide_eq_true h; subst this; exact ⟨.int _, ⟨_, rfl⟩, .int _⟩
    · have := of_decide_eq_true h; subst this; exact ⟨.str _, ⟨_, rfl⟩, .str _⟩
    · rename_i m a ds q
      cases q
      split at h
      · rename_i o ho
        split at h
        · rename_i c its k hc hd
          simp only [Bool.and_eq_true, decide_eq_true_eq, beq_iff_eq] at h
          obtain ⟨⟨e1, e2⟩, e3⟩ := h
          subst e1
          obtain ⟨xs, h3, h4⟩ := valsIs_rep ih e3
          exact ⟨.ref a, rfl, .kt (.inr ⟨o, its, k, ho, hc, hd, Nat.le_trans e2 (by decide), h3⟩) h4⟩
        · cases h
      · cases h
    · cases h
theorem tupIs_rep {n : Nat} {q : Addr} {o : Obj} {d : D} (ho : K.lookup q = some o) (h : tupIs K n o d = true) : Rep K A G (.ref q) d := by
  unfold tupIs at h
  split at h
  · split at h
    · rename_i c its k hc hd
      simp only [Bool.and_eq_true, decide_eq_true_eq, beq_iff_eq] at h
      obtain ⟨⟨e1, e2⟩, e3⟩ := h
      subst e1
      obtain ⟨xs, h3, h4⟩ := valsIs_rep (valIs_rep n) e3
      exact .kt (.inr ⟨o, its, k, ho, hc, hd, Nat.le_trans e2 (by decide), h3⟩) h4
    · cases h
  · cases h
theorem repL_ints : ∀ ns : List Int, RepL K A G (ns.map V.int) (ns.map D.int)
  | [] => .nil
  | n :: ns => .cons (.int n) (repL_ints ns)
/-- the law's own promise: what it is asked, and True -/
theorem law_sp {H : Hp} {a : Addr} {ns : List Int} {m : Fn} {EX : XK} (hS : SqL K H a (ns.map V.int)) (h : ∃ M, m [.fro (ns.map D.int)] [] = .ok (.val (.bl true)) M) : spD K W0 1 m [.ref a] H (fun v _ => v = .bl true) EX := by
  obtain ⟨M, h⟩ := h
  refine ⟨rfl, [.fro (ns.map D.int)], ⟨[], H, [], H⟩, rfl, ⟨Same.refl _, List.nodup_nil, rfl, (fun a ha => by simp at ha), (fun k o e => by simp at e)⟩, .one (.fro hS (repL_ints ns)), ?_⟩
  show After K E00 _ (m [.fro (ns.map D.int)] []) _
  rw [h]
  intro w' _ _ v rv
  cases rv
  rfl
end
end TP
/-! TPj: dicts. -/
namespace TP
open PySem L2
section
variable {K : PySem.W.Frag} {E : Wish} {X : Cx} {e : Expr} {st : Stmt}
def keyD : D → Option Key
  | .int i => some (.inl i)
  | .str x => some (.inr x)
  | _ => none
def keysD : List D → Option (List Key)
  | [] => some []
  | d :: ds => match keyD d, keysD ds with
    | some k, some ks => some (k :: ks)
    | _, _ => none
section
variable {κ : Type} [DecidableEq κ]
def lookD (kvs : List (κ × D)) (k : κ) : Option D := (kvs.find? fun kv => decide (kv.1 = k)).map (·.2)
def putD (kvs : List (κ × D)) (k : κ) (v : D) : List (κ × D) :=
  if (kvs.any fun kv => decide (kv.1 = k)) = true then kvs.map (fun kv => if kv.1 = k then (kv.1, v) else kv) else kvs ++ [(k, v)]
theorem RepKV.val {R : V → D → Prop} : ∀ {vs : List (κ × V)} {ds : List (κ × D)} (k : κ), RepKV R vs ds → (∀ d, lookD ds k = some d → ∃ v, valV vs k = some v ∧ R v d) ∧ (lookD ds k = none → valV vs k = none)
  | _, _, k, .nil => ⟨fun d h => by simp [lookD] at h, fun _ => rfl⟩
  | (k', v') :: vs, (_, d') :: ds, k, .cons r t => by
    obtain ⟨h1, h2⟩ := RepKV.val k t
    unfold lookD valV at *
    by_cases hk : k' = k
    · refine ⟨fun d h => ?_, fun h => ?_⟩
      · rw [List.find?_cons_of_pos (by simpa using hk)] at h ⊢
        cases h
        exact ⟨v', rfl, r⟩
      · rw [List.find?_cons_of_pos (by simpa using hk)] at h
        cases h
    · rw [List.find?_cons_of_neg (by simpa using hk), List.find?_cons_of_neg (by simpa using hk)]
      exact ⟨h1, h2⟩
theorem RepKV.any {R : V → D → Prop} (p : κ → Bool) : ∀ {vs : List (κ × V)} {ds : List (κ × D)}, RepKV R vs ds → (vs.any fun kv => p kv.1) = ds.any fun kv => p kv.1
  | _, _, .nil => rfl
  | (k', v') :: vs, (_, d') :: ds, .cons r t => by rw [List.any_cons, List.any_cons, RepKV.any p t]
theorem RepKV.mapV {R : V → D → Prop} {v : V} {d : D} (r : R v d) (k : κ) : ∀ {vs : List (κ × V)} {ds : List (κ × D)}, RepKV R vs ds → RepKV R (vs.map fun kv => if kv.1 = k then (kv.1, v) else kv) (ds.map fun kv => if kv.1 = k then (kv.1, d) else kv)
  | _, _, .nil => .nil
  | (k', v') :: vs, (_, d') :: ds, .cons r' t => by
    rw [List.map_cons, List.map_cons]
    by_cases hk : k' = k
    · simp only [hk, if_true]
      exact .cons r (RepKV.mapV r k t)
    · simp only [hk, if_false]
      exact .cons r' (RepKV.mapV r k t)
theorem RepKV.append {R : V → D → Prop} : ∀ {vs us : List (κ × V)} {ds es : List (κ × D)}, RepKV R vs ds → RepKV R us es → RepKV R (vs ++ us) (ds ++ es)
  | _, _, _, _, .nil, s => s
  | _, _, _, _, .cons r t, s => .cons r (RepKV.append t s)
theorem RepKV.put {R : V → D → Prop} {v : V} {d : D} (r : R v d) (k : κ) {vs : List (κ × V)} {ds : List (κ × D)} (h : RepKV R vs ds) : RepKV R (putK vs k v) (putD ds k d) := by
  unfold putK putD
  rw [h.any fun x => decide (x = k)]
  split
  · exact h.mapV r k
  · exact h.append (.cons r .nil)
theorem RepKV.len {R : V → D → Prop} : ∀ {vs : List (κ × V)} {ds : List (κ × D)}, RepKV R vs ds → vs.length = ds.length
  | _, _, .nil => rfl
  | _ :: _, _ :: _, .cons _ t => by rw [List.length_cons, List.length_cons, RepKV.len t]
end
theorem key_at {A : List Addr} {G : Hp} {v : V} {d : D} {k : Key} (r : Rep K A G v d) (h : keyD d = some k) : v = kV k := by
  cases r <;> first | (cases h; rfl) | cases h
theorem keys_at {A : List Addr} {G : Hp} : ∀ {vs : List V} {ds : List D} {ks : List Key}, RepL K A G vs ds → keysD ds = some ks → vs = ks.map kV
  | [], [], _, _, h => by cases h; rfl
  | v :: vs, d :: ds, ks, .cons r t, h => by
    unfold keysD at h
    split at h
    · rename_i k ks' h1 h2
      cases h
      rw [key_at r h1, keys_at t h2]
      rfl
    · cases h
theorem keyB {w : Wd} {v : V} {d : D} {k : Key} (r : RepB K w v d) (h : keyD d = some k) : v = kV k := by
  rcases r with r | ⟨_, _, _, _, rfl, _⟩
  · exact key_at r h
  · cases h
/-- what a dict of the store has at a key: none, where it is no dict or no key -/
def dGetO (M : Store) (x y : D) : Option (Option D) := match x with
  | .ref k => match M[k]? with
    | some (.dK kvs) => (keyD y).map (lookD kvs)
    | some (.dT kvs) => match y with
      | .tup ds => (keysD ds).map (lookD kvs)
      | _ => none
    | _ => none
  | _ => none
theorem dget_at {w : Wd} (ok : w.Ok K) {vx vy : V} {x y : D} {o : Option D} (rx : RepB K w vx x) (ry : RepB K w vy y) (h : dGetO w.M x y = some o) :
    ∃ a ov, vx = .ref a ∧ DGet w.H a vy ov ∧ (∀ d, o = some d → ∃ v, ov = some v ∧ Rep K w.A w.G v d) ∧ (o = none → ov = none) := by
  unfold dGetO at h
  split at h
  · rename_i k
    obtain ⟨a, rfl, ea⟩ := ref_at rx
    split at h
    · rename_i kvs e2
      obtain ⟨a', ea', vs, hH, rk⟩ := ok.mos k _ e2
      rw [ea] at ea'; cases ea'
      cases q : keyD y with
      | none => rw [q] at h; cases h
      | some key =>
        rw [q] at h
        cases h
        obtain ⟨h1, h2⟩ := rk.val key
        refine ⟨a, valV vs key, rfl, ?_, h1, h2⟩
        rw [keyB ry q]
        exact .inl ⟨vs, key, .inl hH, rfl, rfl⟩
    · rename_i kvs e2
      obtain ⟨a', ea', vs, hH, rk⟩ := ok.mos k _ e2
      rw [ea] at ea'; cases ea'
      split at h
      · rename_i ds
        cases q : keysD ds with
        | none => rw [q] at h; cases h
        | some ks =>
          rw [q] at h
          cases h
          obtain ⟨h1, h2⟩ := rk.val ks
          obtain ⟨b, us, rfl, hb, rl⟩ := tupH_at ok ry
          refine ⟨a, valV vs ks, rfl, .inr ⟨vs, ks, b, .inl hH, rfl, ?_, rfl⟩, h1, h2⟩
          rw [← keys_at rl q]
          exact hb
      · cases h
    · cases h
  · cases h
def dgetD (M : Store) (x y : D) : Option Slot := match dGetO M x y with
  | some (some d) => some (.val d)
  | _ => none
theorem p_dget : Prim2 K (fun x y H Q => ∃ a v, x = .ref a ∧ DGet H a y (some v) ∧ Q v H) dgetD := by
  intro w vx vy x y s Q ok rx ry h k
  unfold dgetD at h
  split at h
  · rename_i d e1
    cases h
    obtain ⟨a, ov, rfl, g, h1, _⟩ := dget_at ok rx ry e1
    obtain ⟨v, rfl, rv⟩ := h1 d rfl
    exact ⟨a, v, rfl, g, k v w (Step.refl ok) rfl rv⟩
  · cases h
theorem x_dget {fa fb : FD} (h : PE X e (tDGet (tR K E fa) (tR K E fb))) : PE X e (tE K E (dOp2 dgetD fa fb)) := x_op2 (r := fun x y H Q => ∃ a v, x = .ref a ∧ DGet H a y (some v) ∧ Q v H) h p_dget
def dinD (M : Store) (y x : D) : Option Slot := (dGetO M x y).map fun o => .val (.bl o.isSome)
def dnotInD (M : Store) (y x : D) : Option Slot := (dGetO M x y).map fun o => .val (.bl (!o.isSome))
theorem isSome_at {o : Option D} {ov : Option V} {R : V → D → Prop} (h1 : ∀ d, o = some d → ∃ v, ov = some v ∧ R v d) (h2 : o = none → ov = none) : ov.isSome = o.isSome := by
  cases o with
  | none => rw [h2 rfl]; rfl
  | some d => obtain ⟨v, e, _⟩ := h1 d rfl; rw [e]; rfl
theorem p_din : Prim2 K (fun y x H Q => ∃ a o, x = .ref a ∧ DGet H a y o ∧ Q (.bl o.isSome) H) dinD := by
  intro w vx vy x y s Q ok rx ry h k
  unfold dinD at h
  cases q : dGetO w.M y x with
  | none => rw [q] at h; cases h
  | some o =>
    rw [q] at h
    cases h
    obtain ⟨a, ov, rfl, g, h1, h2⟩ := dget_at ok ry rx q
    refine ⟨a, ov, rfl, g, ?_⟩
    rw [isSome_at h1 h2]
    exact ans ok k fun _ _ => .bl _
theorem p_dnotIn : Prim2 K (fun y x H Q => ∃ a o, x = .ref a ∧ DGet H a y o ∧ Q (.bl (!o.isSome)) H) dnotInD := by
  intro w vx vy x y s Q ok rx ry h k
  unfold dnotInD at h
  cases q : dGetO w.M y x with
  | none => rw [q] at h; cases h
  | some o =>
    rw [q] at h
    cases h
    obtain ⟨a, ov, rfl, g, h1, h2⟩ := dget_at ok ry rx q
    refine ⟨a, ov, rfl, g, ?_⟩
    rw [isSome_at h1 h2]
    exact ans ok k fun _ _ => .bl _
theorem x_din {fa fb : FD} (h : PE X e (tDIn (tR K E fa) (tR K E fb))) : PE X e (tE K E (dOp2 dinD fa fb)) := x_op2 (r := fun y x H Q => ∃ a o, x = .ref a ∧ DGet H a y o ∧ Q (.bl o.isSome) H) h p_din
theorem x_dnotIn {fa fb : FD} (h : PE X e (tDNotIn (tR K E fa) (tR K E fb))) : PE X e (tE K E (dOp2 dnotInD fa fb)) := x_op2 (r := fun y x H Q => ∃ a o, x = .ref a ∧ DGet H a y o ∧ Q (.bl (!o.isSome)) H) h p_dnotIn
/-- as tests -/
theorem xt_din {fa fb : FD} (h : PT X e (tB (tDIn (tR K E fa) (tR K E fb)))) : PT X e (tT K E (dBo (dOp2 dinD fa fb))) := x_test2 (r := fun y x H Q => ∃ a o, x = .ref a ∧ DGet H a y o ∧ Q (.bl o.isSome) H) h p_din
theorem xt_dnotIn {fa fb : FD} (h : PT X e (tB (tDNotIn (tR K E fa) (tR K E fb)))) : PT X e (tT K E (dBo (dOp2 dnotInD fa fb))) := x_test2 (r := fun y x H Q => ∃ a o, x = .ref a ∧ DGet H a y o ∧ Q (.bl (!o.isSome)) H) h p_dnotIn
/-- d.get(k, x) -/
def isDD (M : Store) (x : D) : Bool := match x with
  | .ref k => match M[k]? with
    | some (.dK _) => true
    | some (.dT _) => true
    | _ => false
  | _ => false
theorem isD_at' {w : Wd} (ok : w.Ok K) {v : V} {x : D} (r : RepB K w v x) (h : isDD w.M x = true) : ∃ a, v = .ref a ∧ IsD w.H a := by
  unfold isDD at h
  split at h
  · rename_i k
    obtain ⟨a, rfl, ea⟩ := ref_at r
    refine ⟨a, rfl, ?_⟩
    split at h
    · rename_i kvs e2
      obtain ⟨a', ea', vs, hH, rk⟩ := ok.mos k _ e2
      rw [ea] at ea'; cases ea'
      exact .inl ⟨vs, .inl hH⟩
    · rename_i kvs e2
      obtain ⟨a', ea', vs, hH, rk⟩ := ok.mos k _ e2
      rw [ea] at ea'; cases ea'
      exact .inr ⟨vs, .inl hH⟩
    · cases h
  · cases h
def dGet2 (fo fk fd : FD) : FD := fun ρ M => (fo ρ M).bind fun x M => if isDD M x then (fk ρ M).bind fun y M => (fd ρ M).bind fun z M => match dGetO M x y with
  | some o => .ok (o.getD z) M
  | none => .bad else .bad
theorem x_dget2 {fo fk fd : FD} (h : PE X e (tDGet2 (tR K E fo) (tR K E fk) (tF K E fd))) : PE X e (tF K E (dGet2 fo fk fd)) := PE.wk h fun σ H Q ⟨ρ, w, e1, ok, sr, a⟩ =>
  ⟨ρ, w, e1, ok, sr, a.bind.imp fun x w1 s1 a1 vx rx => by
    split at a1
    · rename_i hd
      obtain ⟨p, rfl, ip⟩ := isD_at' s1.ok rx hd
      refine ⟨p, rfl, ip, ρ, w1, rfl, s1.ok, sr.step s1, a1.bind.imp fun y w2 s2 a2 vy ry => ⟨ρ, w2, rfl, s2.ok, (sr.step s1).step s2, a2.bind.imp fun z w3 s3 a3 vz rz => ?_⟩⟩
      split at a3
      · rename_i o eo
        obtain ⟨p', ov, e2, g, h1, h2⟩ := dget_at s3.ok ((rx.step s2).step s3) (ry.step s3) eo
        cases e2
        refine ⟨ov, g, ?_⟩
        cases o with
        | none => rw [h2 rfl]; exact a3 w3 (Step.refl s3.ok) rfl _ rz
        | some d => obtain ⟨v, e3, rv⟩ := h1 d rfl; rw [e3]; exact a3 w3 (Step.refl s3.ok) rfl _ rv
      · exact a3.elim
    · exact a1.elim⟩
def dGet1 (fo fk : FD) : FD := fun ρ M => (fo ρ M).bind fun x M => if isDD M x then (fk ρ M).bind fun y M => match dGetO M x y with
  | some o => .ok (o.getD .non) M
  | none => .bad else .bad
theorem x_dget1 {fo fk : FD} (h : PE X e (tDGet1 (tR K E fo) (tR K E fk))) : PE X e (tF K E (dGet1 fo fk)) := PE.wk h fun σ H Q ⟨ρ, w, e1, ok, sr, a⟩ =>
  ⟨ρ, w, e1, ok, sr, a.bind.imp fun x w1 s1 a1 vx rx => by
    split at a1
    · rename_i hd
      obtain ⟨p, rfl, ip⟩ := isD_at' s1.ok rx hd
      refine ⟨p, rfl, ip, ρ, w1, rfl, s1.ok, sr.step s1, a1.bind.imp fun y w2 s2 a2 vy ry => ?_⟩
      split at a2
      · rename_i o eo
        obtain ⟨p', ov, e2, g, h1, h2⟩ := dget_at s2.ok (rx.step s2) ry eo
        cases e2
        refine ⟨ov, g, ?_⟩
        cases o with
        | none => rw [h2 rfl]; exact a2 w2 (Step.refl s2.ok) rfl _ .non
        | some d => obtain ⟨v, e3, rv⟩ := h1 d rfl; rw [e3]; exact a2 w2 (Step.refl s2.ok) rfl _ rv
      · exact a2.elim
    · exact a1.elim⟩
/-- d[k] = v -/
def dPutM (M : Store) (x y z : D) : Option Store := match x with
  | .ref k => match M[k]? with
    | some (.dK kvs) => match keyD y with
      | some key => if kvs.length < sizeLine then some (M.set k (.dK (putD kvs key z))) else none
      | none => none
    | some (.dT kvs) => match y with
      | .tup ds => match keysD ds with
        | some ks => if kvs.length < sizeLine then some (M.set k (.dT (putD kvs ks z))) else none
        | none => none
      | _ => none
    | _ => none
  | _ => none
def sPutD (f fo fi : FD) : FS := fun ρ M => (f ρ M).out fun z M => (fo ρ M).out fun x M => (fi ρ M).out fun y M => match dPutM M x y z with
  | some M' => .next ρ M'
  | none => .bad
theorem dput_at {w : Wd} (ok : w.Ok K) {vx vy vz : V} {x y z : D} {M' : Store} (rx : RepB K w vx x) (ry : RepB K w vy y) (rz : Rep K w.A w.G vz z) (h : dPutM w.M x y z = some M') :
    ∃ a w', vx = .ref a ∧ DPut w.H a vy vz w'.H ∧ Step K w w' ∧ w'.M = M' := by
  unfold dPutM at h
  split at h
  · rename_i k
    obtain ⟨a, rfl, ea⟩ := ref_at rx
    split at h
    · rename_i kvs e2
      obtain ⟨a', ea', vs, hH, rk⟩ := ok.mos k _ e2
      rw [ea] at ea'; cases ea'
      split at h
      · rename_i key q
        split at h
        · rename_i hz
          cases h
          refine ⟨a, ⟨w.A, w.G, w.M.set k (.dK (putD kvs key z)), upd w.H a (.dK (putK vs key vz))⟩, rfl, .inl ⟨vs, key, hH, keyB ry q, by rw [rk.len]; exact hz, rfl⟩, ok.put ea ⟨_, upd_same, rk.put rz key⟩, rfl⟩
        · cases h
      · cases h
    · rename_i kvs e2
      obtain ⟨a', ea', vs, hH, rk⟩ := ok.mos k _ e2
      rw [ea] at ea'; cases ea'
      split at h
      · rename_i ds
        split at h
        · rename_i ks q
          split at h
          · rename_i hz
            cases h
            obtain ⟨b, us, rfl, hb, rl⟩ := tupH_at ok ry
            refine ⟨a, ⟨w.A, w.G, w.M.set k (.dT (putD kvs ks z)), upd w.H a (.dT (putK vs ks vz))⟩, rfl, .inr ⟨vs, ks, b, hH, rfl, by rw [← keys_at rl q]; exact hb, by rw [rk.len]; exact hz, rfl⟩, ok.put ea ⟨_, upd_same, rk.put rz ks⟩, rfl⟩
          · cases h
        · cases h
      · cases h
    · cases h
  · cases h
theorem s_putD {f fo fi : FD} (h : PS X st (sDPut (tR K E fo) (tR K E fi) (tF K E f))) : PS X st (tS K E (sPutD f fo fi)) := PS.wk h fun D σ H ⟨ρ, w, w0, e1, s, sr, of, p⟩ =>
  ⟨ρ, w, e1, s.ok, sr, (out_after s p).imp fun z w1 s1 p1 vz rz => ⟨ρ, w1, rfl, s1.ok, sr.step s1, (out_after (s.trans s1) p1).imp fun x w2 s2 p2 vx rx => ⟨ρ, w2, rfl, s2.ok, (sr.step s1).step s2, (out_after ((s.trans s1).trans s2) p2).imp fun y w3 s3 p3 vy ry => by
    split at p3
    · rename_i M' em
      obtain ⟨a, w4, rfl, dp, s4, e4⟩ := dput_at s3.ok (rx.step s3) ry ((s2.trans s3).rep rz) em
      refine ⟨a, w4.H, rfl, dp, ?_⟩
      exact p3 w4 σ ((((s.trans s1).trans s2).trans s3).trans s4) s4.le e4 ((((sr.step s1).step s2).step s3).step s4) of
    · exact p3.elim⟩⟩⟩
/-- {} with tuple keys -/
def dNewT : FD := fun _ M => .ok (.ref M.length) (M ++ [.dT []])
theorem new_obj {w : Wd} (ok : w.Ok K) {d : Addr} (hd : w.H d = none) {o : HO} {m : MO} (hm : MoR K ⟨w.A, w.G, w.M, upd w.H d o⟩ d m) : Step K w ⟨w.A ++ [d], w.G, w.M ++ [m], upd w.H d o⟩ ∧ (w.A ++ [d])[w.M.length]? = some d := by
  have s0 := ok.fresh0 hd o
  have hG : w.G d = none := ok.sub.free hd
  have ok2 := s0.ok.push (o := m) hG (ok.notA hd) hm
  refine ⟨⟨ok2, List.prefix_append _ _, Same.refl _, fun b o' z1 z2 z3 => ?_⟩, ?_⟩
  · refine ⟨?_, z2, fun hm => (List.mem_append.mp hm).elim z3 fun z => by simp at z; subst z; rw [hd] at z1; cases z1⟩
    show upd w.H d o b = some o'
    rw [upd_ne (ne_of_none z1 hd)]
    exact z1
  · rw [← ok.len, List.getElem?_append_right (Nat.le_refl _), Nat.sub_self]
    rfl
theorem x_dnewT (h : PE X e tDNewT) : PE X e (tF K E dNewT) := PE.wk h fun σ H Q ⟨ρ, w, e1, ok, sr, a⟩ => by
  subst e1
  intro d hd
  obtain ⟨st, hA⟩ := new_obj (o := .dT []) (m := .dT []) ok hd ⟨[], upd_same, .nil⟩
  have a' : ∀ w', Step K w w' → w'.M = w.M ++ [.dT []] → ∀ v, Rep K w'.A w'.G v (.ref w.M.length) → Q v w'.H := a
  exact a' _ st rfl _ (.ref hA)
/-! ### a display with keys that are texts -/
def tPrs (ks : List Str) (fs : List TE) : List (TE × TE) := ks.zipWith (fun k f => (tC (.str k), f)) fs
/-- the values, in order -/
def dVals : List FD → FL
  | [] => dNil
  | f :: fs => dCons f (dVals fs)
def mergeD (ks : List Str) (ds : List D) : List (Key × D) := (ks.zip ds).foldl (fun acc kv => putD acc (Sum.inr kv.1) kv.2) []
def dDisp (ks : List Str) (fs : List FD) : FD := fun ρ M => (dVals fs ρ M).bind fun ds M => if ds.length = ks.length ∧ ks.length ≤ 15 then .ok (.ref M.length) (M ++ [.dK (mergeD ks ds)]) else .bad
theorem pairs_ok {σ : L2.St} {ρ : EnvD} : ∀ (ks : List Str) (fs : List FD) (w w0 : Wd) (Q : List (V × V) → Hp → Prop), ks.length = fs.length → Step K w0 w → SR K w ρ σ →
    After K E w (dVals fs ρ w.M) (fun ds w' => ∀ vs, RepL K w'.A w'.G vs ds → Q (ks.zipWith (fun k v => (V.str k, v)) vs) w'.H) → tPairs (tPrs ks (fs.map (tF K E))) σ w.H Q
  | [], [], w, w0, Q, _, s, sr, a => by
    have a' : ∀ w', Step K w w' → w'.M = w.M → ∀ vs, RepL K w'.A w'.G vs [] → Q ([].zipWith (fun k v => (V.str k, v)) vs) w'.H := a
    exact a' w (Step.refl s.ok) rfl [] .nil
  | k :: ks, f :: fs, w, w0, Q, hl, s, sr, a => by
    refine ⟨ρ, w, rfl, s.ok, sr, ?_⟩
    have a1 : After K E w (dCons f (dVals fs) ρ w.M) _ := a
    refine a1.bind.imp fun d w1 s1 a2 v rv => ?_
    refine pairs_ok ks fs w1 w0 _ (by simpa using hl) (s.trans s1) (sr.step s1) (a2.bind.imp fun ds w2 s2 a3 vs rvs => ?_)
    exact a3 w2 (Step.refl s2.ok) rfl (v :: vs) (.cons (s2.rep rv) rvs)
  | [], _ :: _, _, _, _, hl, _, _, _ => by cases hl
  | _ :: _, [], _, _, _, hl, _, _, _ => by cases hl
theorem merge_rep {R : V → D → Prop} : ∀ (ks : List Str) (vs : List V) (ds : List D) (av : List (Key × V)) (ad : List (Key × D)), (∀ (i : Nat) (v : V), vs[i]? = some v → ∃ d, ds[i]? = some d ∧ R v d) → vs.length = ds.length → RepKV R av ad →
    RepKV R (mergeK av ((ks.zip vs).map fun kv => ((Sum.inr kv.1 : Key), kv.2))) ((ks.zip ds).foldl (fun acc kv => putD acc (Sum.inr kv.1) kv.2) ad)
  | [], _, _, _, _, _, _, h => by simpa [mergeK] using h
  | k :: ks, [], [], av, ad, _, _, h => by simpa [mergeK] using h
  | k :: ks, v :: vs, d :: ds, av, ad, hr, hl, h => by
    obtain ⟨d', e, r⟩ := hr 0 v rfl
    cases e
    have := merge_rep ks vs ds (putK av (Sum.inr k) v) (putD ad (Sum.inr k) d) (fun i x hx => by
      obtain ⟨y, h1, h2⟩ := hr (i + 1) x (by simpa using hx)
      exact ⟨y, by simpa using h1, h2⟩) (by simpa using hl) (h.put r (Sum.inr k))
    simpa [mergeK] using this
  | k :: ks, [], _ :: _, _, _, _, hl, _ => by cases hl
  | k :: ks, _ :: _, [], _, _, _, hl, _ => by cases hl
theorem zip_pairs : ∀ (ks : List Str) (vs : List V), ks.zipWith (fun k v => (V.str k, v)) vs = ((ks.zip vs).map fun kv => ((Sum.inr kv.1 : Key), kv.2)).map fun kv => (kV kv.1, kv.2)
  | [], _ => rfl
  | _ :: _, [] => rfl
  | k :: ks, v :: vs => by rw [List.zipWith_cons_cons, zip_pairs ks vs]; rfl
theorem x_disp {ks : List Str} {fs : List FD} (hl : ks.length = fs.length) (h : PE X e (tDisp (tPrs ks (fs.map (tF K E))))) : PE X e (tF K E (dDisp ks fs)) := PE.wk h fun σ H Q ⟨ρ, w, e1, ok, sr, a⟩ => by
  subst e1
  intro p hp
  have s0 := ok.fresh0 hp (.dK [])
  have hG : w.G p = none := ok.sub.free hp
  have hA := ok.notA hp
  refine pairs_ok ks fs ⟨w.A, w.G, w.M, upd w.H p (.dK [])⟩ w _ hl s0 (sr.step s0) ?_
  have a1 := (show After K E w ((dVals fs ρ w.M).bind _) _ from a).bind
  cases q : dVals fs ρ w.M with
  | bad => rw [q] at a1; exact a1
  | exc c d M => rw [q] at a1; exact fun w' s' e => a1 w' (s0.trans s') e
  | ok ds M =>
    rw [q] at a1
    intro w1 s1 eM vs rvs
    have s01 := s0.trans s1
    obtain ⟨k1, k2, k3⟩ := s1.keep p (.dK []) upd_same hG hA
    have a2 := (show After K E w (dDisp ks fs ρ w.M) _ from a)
    have ed : dDisp ks fs ρ w.M = if ds.length = ks.length ∧ ks.length ≤ 15 then .ok (.ref M.length) (M ++ [.dK (mergeD ks ds)]) else .bad := by unfold dDisp; rw [q]; rfl
    rw [ed] at a2
    split at a2
    · rename_i hc
      refine ⟨k1, (ks.zip vs).map fun kv => ((Sum.inr kv.1 : Key), kv.2), zip_pairs ks vs, by simp; omega, ?_⟩
      have hrep : RepKV (Rep K w1.A w1.G) (mergeK [] ((ks.zip vs).map fun kv => ((Sum.inr kv.1 : Key), kv.2))) (mergeD ks ds) :=
        merge_rep ks vs ds [] [] (fun i v hv => rvs.get' hv) rvs.length .nil
      have okA := setOwn_ok (o := .dK (mergeK [] ((ks.zip vs).map fun kv => ((Sum.inr kv.1 : Key), kv.2)))) s1.ok k1 k2 k3
      have ok2 := okA.push (o := .dK (mergeD ks ds)) k2 k3 ⟨_, upd_same, hrep⟩
      have a3 : ∀ w', Step K w w' → w'.M = M ++ [.dK (mergeD ks ds)] → ∀ v, Rep K w'.A w'.G v (.ref M.length) → Q v w'.H := a2
      refine a3 ⟨w1.A ++ [p], w1.G, w1.M ++ [.dK (mergeD ks ds)], upd w1.H p (.dK (mergeK [] ((ks.zip vs).map fun kv => ((Sum.inr kv.1 : Key), kv.2))))⟩ ⟨ok2, s01.pre.trans (List.prefix_append _ _), s01.fro, fun b o z1 z2 z3 => ?_⟩ (by rw [eM]) _ (.ref ?_)
      · obtain ⟨c1, c2, c3⟩ := s01.keep b o z1 z2 z3
        refine ⟨?_, c2, fun hm => (List.mem_append.mp hm).elim c3 fun z => by simp at z; subst z; rw [hp] at z1; cases z1⟩
        show upd w1.H p _ b = some o
        rw [upd_ne (ne_of_none z1 hp)]
        exact c1
      · show (w1.A ++ [p])[M.length]? = some p
        have hl := s1.ok.len
        rw [eM] at hl
        rw [← hl, List.getElem?_append_right (Nat.le_refl _), Nat.sub_self]
        rfl
    · exact a2.elim
/-! ### a dict of the top, its keys texts -/
def tabFind (tab : List (Str × D)) (z : Str) : Option D := (tab.find? fun kv => decide (kv.1 = z)).map (·.2)
def dTab (tab : List (Str × D)) (f : FD) : FD := fun ρ M => (f ρ M).bind fun y M => match y with
  | .str z => R.of (tabFind tab z) M
  | _ => .bad
structure TabOk (K : PySem.W.Frag) (w : World) (q : Addr) (tab : List (Str × D)) : Prop where
  at_ : ∀ z d, tabFind tab z = some d → ∃ v, KDct K w q z v ∧ ∀ A G, Rep K A G v d
theorem x_tab {q : Addr} {tab : List (Str × D)} {f : FD} (T : TabOk X.K X.w q tab) (hK : X.K = K) (h : PE X e (tOp (rIxD X.K X.w) (tC (.ref q)) (tR K E f))) : PE X e (tF K E (dTab tab f)) := PE.wk h fun σ H Q ⟨ρ, w, e1, ok, sr, a⟩ => by
  subst e1
  refine ⟨ρ, w, rfl, ok, sr, a.bind.imp fun y w1 s1 a1 vy ry => ?_⟩
  split at a1
  · rename_i z
    obtain ⟨d, ed, k⟩ := a1.of (Step.refl s1.ok) rfl
    obtain ⟨v, kd, rv⟩ := T.at_ z d ed
    exact ⟨q, z, v, rfl, str_at ry, kd, k v (hK ▸ rv _ _)⟩
  · exact a1.elim
def tabIs (K : PySem.W.Frag) (q : Addr) (tab : List (Str × D)) : Bool := tab.all fun kv => match PySem.W.nsIn K q kv.1 with
  | some (some u) => valIs K 9 u kv.2
  | _ => false
theorem tab_ok {w : World} {q : Addr} {tab : List (Str × D)} {es : Array DictEntry} {n : Nat} (hl : K.lookup q = some ⟨.type "dict", none, .dict es n, #[]⟩) (hk : PySem.W.KeysLit w.params es.toList) (ht : tabIs K q tab = true) : TabOk K w q tab := by
  refine ⟨fun z d h => ?_⟩
  unfold tabFind at h
  cases q1 : tab.find? fun kv => decide (kv.1 = z) with
  | none => rw [q1] at h; cases h
  | some kv =>
    rw [q1] at h
    cases h
    have hm := List.mem_of_find?_eq_some q1
    have hz : kv.1 = z := by have := List.find?_some q1; simpa using this
    have h1 := List.all_eq_true.mp ht kv hm
    subst hz
    split at h1
    · rename_i u hu
      obtain ⟨x, rx, _⟩ := valIs_rep (K := K) (A := []) (G := fun _ => none) 9 u kv.2 h1
      refine ⟨x, ⟨es, n, u, hl, hk, hu, rx⟩, fun A G => ?_⟩
      obtain ⟨x', rx', rp⟩ := valIs_rep (K := K) (A := A) (G := G) 9 u kv.2 h1
      rw [rx.inj rx']
      exact rp
    · cases h1
end
end TP
/-! TPm: reckoning with the mirrors. -/
namespace TP
open PySem L2
@[simp] theorem R.bind_ok {α β : Type} (a : α) (M : Store) (f : α → Store → R β) : (R.ok a M).bind f = f a M := rfl
@[simp] theorem R.map_ok {α β : Type} (a : α) (M : Store) (f : α → β) : (R.ok a M).map f = .ok (f a) M := rfl
@[simp] theorem R.out_ok {α : Type} (a : α) (M : Store) (f : α → Store → Out) : (R.ok a M).out f = f a M := rfl
@[simp] theorem R.of_some {α : Type} (a : α) (M : Store) : R.of (some a) M = .ok a M := rfl
@[simp] theorem szL : sizeLine = 16777216 := sizeLine_eq
@[simp] theorem Slot.d_val (d : D) : (Slot.val d).d = d := rfl
@[simp] theorem Slot.d_own (ds : List D) : (Slot.own ds).d = .lst ds := rfl
@[simp] theorem sNil_eq (ρ : EnvD) (M : Store) : sNil ρ M = .next ρ M := rfl
@[simp] theorem dC_eq (d : D) (ρ : EnvD) (M : Store) : dC d ρ M = .ok d M := rfl
@[simp] theorem dNil_eq (ρ : EnvD) (M : Store) : dNil ρ M = .ok [] M := rfl
@[simp] theorem dYes_eq (ρ : EnvD) (M : Store) : dYes ρ M = .ok true M := rfl

/-! ### what the pieces do, for simp -/
section
variable (ρ : EnvD) (M : Store)
@[simp] theorem dVar_eq (i : Nat) : dVar i ρ M = match ρ[i]? with
  | some (.val d) => .ok d M
  | _ => .bad := rfl
@[simp] theorem dVarB_eq (i : Nat) : dVarB i ρ M = match ρ[i]? with
  | some (.val d) => .ok d M
  | some (.own ds) => .ok (.lst ds) M
  | _ => .bad := rfl
@[simp] theorem dEF_eq (f : FE) : dEF f ρ M = (f ρ M).map Slot.d := rfl
@[simp] theorem dFE_eq (f : FD) : dFE f ρ M = (f ρ M).map Slot.val := rfl
@[simp] theorem dOp1_eq (g : Store → D → Option Slot) (f : FD) : dOp1 g f ρ M = (f ρ M).bind fun x M => R.of (g M x) M := rfl
@[simp] theorem dOp2_eq (g : Store → D → D → Option Slot) (fa fb : FD) : dOp2 g fa fb ρ M = (fa ρ M).bind fun x M => (fb ρ M).bind fun y M => R.of (g M x y) M := rfl
@[simp] theorem dPr_eq (g : Store → List D → Option Slot) (fs : FL) : dPr g fs ρ M = (fs ρ M).bind fun ds M => R.of (g M ds) M := rfl
@[simp] theorem dCons_eq (f : FD) (fs : FL) : dCons f fs ρ M = (f ρ M).bind fun d M => (fs ρ M).bind fun ds M => .ok (d :: ds) M := rfl
@[simp] theorem dTup_eq (fs : FL) : dTup fs ρ M = (fs ρ M).bind fun ds M => if ds.length ≤ sizeLine then .ok (.tup ds) M else .bad := rfl
@[simp] theorem dLst_eq (fs : FL) : dLst fs ρ M = (fs ρ M).bind fun ds M => if ds.length ≤ sizeLine then .ok (.own ds) M else .bad := rfl
@[simp] theorem dTru_eq (f : FD) : dTru f ρ M = (f ρ M).bind fun x M => R.of (truD M x) M := rfl
@[simp] theorem dBo_eq (f : FE) : dBo f ρ M = (f ρ M).bind fun x M => R.of (boD x.d) M := rfl
@[simp] theorem dNot_eq (f : FB) : dNot f ρ M = (f ρ M).map fun b => !b := rfl
@[simp] theorem dAnd_eq (f g : FB) : dAnd f g ρ M = (f ρ M).bind fun b M => if b then g ρ M else .ok false M := rfl
@[simp] theorem dOr_eq (f g : FB) : dOr f g ρ M = (f ρ M).bind fun b M => if b then .ok true M else g ρ M := rfl
@[simp] theorem dIf_eq (c : FB) (f g : FE) : dIf c f g ρ M = (c ρ M).bind fun b M => if b then f ρ M else g ρ M := rfl
@[simp] theorem dAndV_eq (f g : FE) : dAndV f g ρ M = (f ρ M).bind fun x M => match x with
  | .val (.bl true) => g ρ M
  | .val (.bl false) => .ok (.val (.bl false)) M
  | _ => .bad := rfl
@[simp] theorem dOrV_eq (f g : FE) : dOrV f g ρ M = (f ρ M).bind fun x M => match x with
  | .val (.bl true) => .ok (.val (.bl true)) M
  | .val (.bl false) => g ρ M
  | _ => .bad := rfl
@[simp] theorem dNotV_eq (f : FE) : dNotV f ρ M = (f ρ M).bind fun x M => match x with
  | .val (.bl b) => .ok (.val (.bl (!b))) M
  | _ => .bad := rfl
@[simp] theorem dMeth_eq (T : String) (g : Store → D → List D → Option Slot) (fo : FD) (fs : FL) : dMeth T g fo fs ρ M = (fo ρ M).bind fun x M => if tyD M x = some T then (fs ρ M).bind fun ds M => R.of (g M x ds) M else .bad := rfl
@[simp] theorem dMeth0_eq (T : String) (g : Store → D → List D → Option Slot) (fo : FD) : dMeth0 T g fo ρ M = (fo ρ M).bind fun x M => if tyD M x = some T then R.of (g M x []) M else .bad := rfl
@[simp] theorem dNo_eq : dNo ρ M = .ok none M := rfl
@[simp] theorem dSo_eq (f : FD) : dSo f ρ M = (f ρ M).bind fun x M => match x with
  | .int i => .ok (some i) M
  | _ => .bad := rfl
@[simp] theorem dSl_eq (g : Store → D → Option Int → Option Int → Option Slot) (f : FD) (lo hi : FO) : dSl g f lo hi ρ M = (f ρ M).bind fun x M => (lo ρ M).bind fun l M => (hi ρ M).bind fun u M => R.of (g M x l u) M := rfl
@[simp] theorem dCall_eq (n : Nat) (m : Fn) (fs : FL) : dCall n m fs ρ M = (fs ρ M).bind fun ds M => if ds.length = n then m ds M else .bad := rfl
@[simp] theorem dIt_eq (f : FD) : dIt f ρ M = (f ρ M).bind fun x M => R.of (itemsD x) M := rfl
@[simp] theorem dRng1_eq (fs : FL) : dRng1 fs ρ M = (fs ρ M).bind fun ds M => R.of (rng1D ds) M := rfl
@[simp] theorem dRng2_eq (fs : FL) : dRng2 fs ρ M = (fs ρ M).bind fun ds M => R.of (rng2D ds) M := rfl
@[simp] theorem dEnum_eq (fs : FL) : dEnum fs ρ M = (fs ρ M).bind fun ds M => match ds with
  | [.lst es] => .ok (enumL es) M
  | [.fro es] => .ok (enumL es) M
  | _ => .bad := rfl
@[simp] theorem dZip_eq (fs : FL) : dZip fs ρ M = (fs ρ M).bind fun ds M => match ds with
  | [.lst xs, .lst ys] => .ok (zipL xs ys) M
  | [.tup xs, .tup ys] => .ok (zipL xs ys) M
  | _ => .bad := rfl
@[simp] theorem dRev_eq (f : FD) : dRev f ρ M = (f ρ M).bind fun d M => match d with
  | .lst xs => .ok xs.reverse M
  | .fro xs => .ok xs.reverse M
  | .tup xs => .ok xs.reverse M
  | _ => .bad := rfl
@[simp] theorem dLc_eq (fi : FL) (b : D → EnvD → Option EnvD) (c : FB) (f : FD) (vs : List Nat) : dLc fi b c f vs ρ M = (fi ρ M).bind fun items M => (lcGo b c f (wipeD ρ vs) items [] M).map Slot.own := rfl
@[simp] theorem dChain_eq (g g' : Store → D → D → Option Slot) (fa fb fc : FD) : dChain g g' fa fb fc ρ M = (fa ρ M).bind fun x M => (fb ρ M).bind fun y M => match g M x y with
  | some (.val (.bl true)) => (fc ρ M).bind fun z M => R.of (g' M y z) M
  | some (.val (.bl false)) => .ok (.val (.bl false)) M
  | _ => .bad := rfl
@[simp] theorem dRef_eq (f : FE) : dRef f ρ M = (f ρ M).bind fun x M => match x with
  | .own ds => .ok (.val (.ref M.length)) (M ++ [.lst ds])
  | _ => .bad := rfl
@[simp] theorem dNewK_eq : dNewK ρ M = .ok (.ref M.length) (M ++ [.dK []]) := rfl
@[simp] theorem bName_eq (i : Nat) (d : D) : bName i d ρ = some (ρ.set i (.val d)) := rfl
@[simp] theorem sSeq_eq (g h : FS) : sSeq g h ρ M = match g ρ M with
  | .next ρ M => h ρ M
  | o => o := rfl
@[simp] theorem sExpr_eq (f : FE) : sExpr f ρ M = (f ρ M).out fun _ M => .next ρ M := rfl
@[simp] theorem sRet_eq (f : FE) : sRet f ρ M = (f ρ M).out fun x M => .ret x M := rfl
@[simp] theorem sRetN_eq : sRetN ρ M = .ret (.val .non) M := rfl
@[simp] theorem sRetV_eq (i : Nat) : sRetV i ρ M = match ρ[i]? with
  | some (.val d) => .ret (.val d) M
  | some (.own ds) => .ret (.own ds) M
  | _ => .bad := rfl
@[simp] theorem sSet_eq (i : Nat) (f : FE) : sSet i f ρ M = (f ρ M).out fun x M => match x with
  | .un => .bad
  | x => .next (ρ.set i x) M := rfl
@[simp] theorem sAsg_eq (b : D → EnvD → Option EnvD) (f : FD) : sAsg b f ρ M = (f ρ M).out fun x M => match b x ρ with
  | some ρ' => .next ρ' M
  | none => .bad := rfl
@[simp] theorem sPar_eq (i j : Nat) (fs : FL) : sPar i j fs ρ M = (fs ρ M).out fun ds M => match ds with
  | [x, y] => .next ((ρ.set i (.val x)).set j (.val y)) M
  | _ => .bad := rfl
@[simp] theorem sIf_eq (c : FB) (g h : FS) : sIf c g h ρ M = (c ρ M).out fun b M => if b then g ρ M else h ρ M := rfl
@[simp] theorem sFor_eq (fi : FL) (b : D → EnvD → Option EnvD) (body : FS) : sFor fi b body ρ M = (fi ρ M).out fun items M => forGo b body items ρ M := rfl
@[simp] theorem sApp_eq (i : Nat) (f : FD) : sApp i f ρ M = match ρ[i]? with
  | some (.own ds) => (f ρ M).out fun d M => if ds.length < sizeLine then .next (ρ.set i (.own (ds ++ [d]))) M else .bad
  | _ => .bad := rfl
@[simp] theorem sExt_eq (i : Nat) (f : FD) : sExt i f ρ M = match ρ[i]? with
  | some (.own ds) => (f ρ M).out fun d M => match lstOf M d with
    | some es => if ds.length + es.length ≤ sizeLine then .next (ρ.set i (.own (ds ++ es))) M else .bad
    | none => .bad
  | _ => .bad := rfl
@[simp] theorem sFz_eq (i : Nat) (g : FS) : sFz i g ρ M = match ρ[i]? with
  | some (.own ds) => g (ρ.set i (.val (.lst ds))) M
  | _ => g ρ M := rfl
@[simp] theorem sAug_eq (i : Nat) (g : Store → D → D → Option Slot) (f : FD) : sAug i g f ρ M = match ρ[i]? with
  | some (.val x) => (f ρ M).out fun y M => match g M x y with
    | some (.val z) => .next (ρ.set i (.val z)) M
    | _ => .bad
  | _ => .bad := rfl
@[simp] theorem sPutR_eq (f fo fi : FD) : sPutR f fo fi ρ M = (f ρ M).out fun x M => (fo ρ M).out fun o M => (fi ρ M).out fun i M => match o, i with
  | .ref k, .int j => match M[k]? with
    | some (.lst ds) => match ixN ds.length j with
      | some n => .next ρ (M.set k (.lst (ds.set n x)))
      | none => .bad
    | _ => .bad
  | _, _ => .bad := rfl
end
/-! ### primitives -/
section
variable (M : Store)
@[simp] theorem addD_int (i j : Int) : addD M (.int i) (.int j) = some (.val (.int (i + j))) := rfl
@[simp] theorem subD_int (i j : Int) : subD M (.int i) (.int j) = some (.val (.int (i - j))) := rfl
@[simp] theorem mulD_int (i j : Int) : mulD M (.int i) (.int j) = if mulOk i j then some (.val (.int (i * j))) else none := rfl
@[simp] theorem fdivD_int (i j : Int) : fdivD M (.int i) (.int j) = if 0 < j ∧ j < 1073741824 then some (.val (.int (i / j))) else if 0 < j ∧ j.natAbs.log2 < 9000 then some (.val (.int (i / j))) else if j ≠ 0 ∧ j.natAbs < 1073741824 then some (.val (.int (i.fdiv j))) else none := rfl
@[simp] theorem modD_int (i j : Int) : modD M (.int i) (.int j) = if 0 < j then some (.val (.int (i % j))) else if j ≠ 0 then some (.val (.int (i.fmod j))) else none := rfl
@[simp] theorem powD_int (i j : Int) : powD M (.int i) (.int j) = if 0 ≤ j ∧ j ≤ 1000000 ∧ i.natAbs < 2 ^ 64 then some (.val (.int (i ^ j.toNat))) else none := rfl
@[simp] theorem negD_int (i : Int) : negD M (.int i) = some (.val (.int (-i))) := rfl
@[simp] theorem cmpD_int (p : Int → Int → Bool) (i j : Int) : cmpD p M (.int i) (.int j) = some (.val (.bl (p i j))) := rfl
@[simp] theorem boD_bl (b : Bool) : boD (.bl b) = some b := rfl
@[simp] theorem truD_bl (b : Bool) : truD M (.bl b) = some b := rfl
@[simp] theorem idxD_tup (ds : List D) (i : Int) : idxD M (.tup ds) (.int i) = (atI ds i).map Slot.val := rfl
@[simp] theorem idxD_kt (ds : List D) (i : Int) : idxD M (.kt ds) (.int i) = (atI ds i).map Slot.val := rfl
@[simp] theorem idxD_lst (ds : List D) (i : Int) : idxD M (.lst ds) (.int i) = (atI ds i).map Slot.val := rfl
@[simp] theorem idxD_str (z : Str) (i : Int) : idxD M (.str z) (.int i) = if z.length ≤ sizeLine then (atI z.cps.toList i).map fun c => .val (.str ⟨#[c]⟩) else none := rfl
@[simp] theorem lenD_lst (ds : List D) : lenD M [.lst ds] = some (.val (.int ds.length)) := rfl
@[simp] theorem lenD_fro (ds : List D) : lenD M [.fro ds] = some (.val (.int ds.length)) := rfl
@[simp] theorem lenD_tup (ds : List D) : lenD M [.tup ds] = some (.val (.int ds.length)) := rfl
@[simp] theorem lenD_str (z : Str) : lenD M [.str z] = if z.length ≤ sizeLine then some (.val (.int z.length)) else none := rfl
theorem idxD_ref {k : Nat} {ds : List D} (h : M[k]? = some (.lst ds)) (i : Int) : idxD M (.ref k) (.int i) = (atI ds i).map Slot.val := by
  simp [idxD, seqOf, lstOf, h]
end
@[simp] theorem rng1D_int (j : Int) : rng1D [.int j] = if -(2 ^ 62) ≤ j ∧ j < 2 ^ 62 then some (rngL 0 j.toNat) else none := rfl
@[simp] theorem rng2D_int (i j : Int) : rng2D [.int i, .int j] = if -(2 ^ 62) ≤ i ∧ i < 2 ^ 62 ∧ -(2 ^ 62) ≤ j ∧ j < 2 ^ 62 then some (rngL i (j - i).toNat) else none := rfl
theorem rng1_ok {j : Int} (h0 : -(2 ^ 62) ≤ j) (h1 : j < 2 ^ 62) : rng1D [.int j] = some (rngL 0 j.toNat) := by rw [rng1D_int, if_pos ⟨h0, h1⟩]
theorem rngL_get {lo : Int} {n i : Nat} {d : D} (h : (rngL lo n)[i]? = some d) : i < n ∧ d = .int (lo + i) := by
  have hi : i < n := by have := (List.getElem?_eq_some_iff.mp h).1; rwa [rngL_len] at this
  unfold rngL at h
  rw [List.getElem?_map, List.getElem?_range hi] at h
  cases h
  exact ⟨hi, rfl⟩
section
variable (M : Store)
theorem eqvD_int (i j : Int) : eqvD (.int i) (.int j) = decide (i = j) := by
  rw [Bool.eq_iff_iff]; simp [eqvD]
theorem eqvD_bl (i j : Bool) : eqvD (.bl i) (.bl j) = decide (i = j) := by
  rw [Bool.eq_iff_iff]; simp [eqvD]
theorem eqvD_str (i j : Str) : eqvD (.str i) (.str j) = decide (i = j) := by
  rw [Bool.eq_iff_iff]; simp [eqvD]
@[simp] theorem eqD_int (i j : Int) : eqD M (.int i) (.int j) = some (.val (.bl (decide (i = j)))) := by
  have h : eqD M (.int i) (.int j) = some (.val (.bl (eqvD (.int i) (.int j)))) := rfl
  rw [h, eqvD_int]
@[simp] theorem neD_int (i j : Int) : neD M (.int i) (.int j) = some (.val (.bl (!decide (i = j)))) := by
  have h : neD M (.int i) (.int j) = some (.val (.bl (!eqvD (.int i) (.int j)))) := rfl
  rw [h, eqvD_int]
@[simp] theorem eqD_bl (i j : Bool) : eqD M (.bl i) (.bl j) = some (.val (.bl (decide (i = j)))) := by
  have h : eqD M (.bl i) (.bl j) = some (.val (.bl (eqvD (.bl i) (.bl j)))) := rfl
  rw [h, eqvD_bl]
@[simp] theorem neD_bl (i j : Bool) : neD M (.bl i) (.bl j) = some (.val (.bl (!decide (i = j)))) := by
  have h : neD M (.bl i) (.bl j) = some (.val (.bl (!eqvD (.bl i) (.bl j)))) := rfl
  rw [h, eqvD_bl]
/-- signs as they are -/
def okStr (x : Str) : Bool := x.cps.all (· < 0x110000)
theorem eqD_str {i j : Str} (hi : okStr i = true) (hj : okStr j = true) : eqD M (.str i) (.str j) = some (.val (.bl (decide (i = j)))) := by
  have h : eqD M (.str i) (.str j) = if okStr i && okStr j && decide (min 0 0 ≤ 190) then some (.val (.bl (eqvD (.str i) (.str j)))) else none := rfl
  rw [h, hi, hj, eqvD_str]
  rfl
theorem neD_str {i j : Str} (hi : okStr i = true) (hj : okStr j = true) : neD M (.str i) (.str j) = some (.val (.bl (!decide (i = j)))) := by
  have h : neD M (.str i) (.str j) = if okStr i && okStr j && decide (min 0 0 ≤ 190) then some (.val (.bl (!eqvD (.str i) (.str j)))) else none := rfl
  rw [h, hi, hj, eqvD_str]
  rfl
theorem eqD_of {x y : D} (hx : goodD x = true) (hy : goodD y = true) (hd : dpD x ≤ 190) : eqD M x y = some (.val (.bl (eqvD x y))) := by
  have ex : derD M x = x := by cases x <;> first | rfl | (simp [goodD] at hx)
  have ey : derD M y = y := by cases y <;> first | rfl | (simp [goodD] at hy)
  unfold eqD
  rw [ex, ey, hx, hy, if_pos (by simp; omega)]
theorem neD_of {x y : D} (hx : goodD x = true) (hy : goodD y = true) (hd : dpD x ≤ 190) : neD M x y = some (.val (.bl (!eqvD x y))) := by
  have ex : derD M x = x := by cases x <;> first | rfl | (simp [goodD] at hx)
  have ey : derD M y = y := by cases y <;> first | rfl | (simp [goodD] at hy)
  unfold neD
  rw [ex, ey, hx, hy, if_pos (by simp; omega)]
end
theorem mulOk_l {i j : Int} (h : -(2 ^ 64) < i) (h' : i < 2 ^ 64) : mulOk i j = true := by
  unfold mulOk
  rw [decide_eq_true (show -(2 ^ 64) < i ∧ i < 2 ^ 64 from ⟨h, h'⟩)]
  rfl
theorem mulOk_r {i j : Int} (h : -(2 ^ 64) < j) (h' : j < 2 ^ 64) : mulOk i j = true := by
  unfold mulOk
  rw [decide_eq_true (show -(2 ^ 64) < j ∧ j < 2 ^ 64 from ⟨h, h'⟩), Bool.or_true]
  rfl
/-! ### comprehensions -/
theorem lcGo_fm {b : D → EnvD → Option EnvD} {c : FB} {f : FD} {ρ0 : EnvD} {M : Store} (p : D → Bool) (g : D → D) : ∀ (items acc : List D),
    (∀ d ∈ items, ∃ ρ1, b d ρ0 = some ρ1 ∧ c ρ1 M = .ok (p d) M ∧ (p d = true → f ρ1 M = .ok (g d) M)) → acc.length + items.length ≤ sizeLine → lcGo b c f ρ0 items acc M = .ok (acc ++ (items.filter p).map g) M
  | [], acc, _, _ => by simp [lcGo]
  | d :: ds, acc, h, hl => by
    obtain ⟨ρ1, h1, h2, h3⟩ := h d List.mem_cons_self
    unfold lcGo
    rw [h1]
    simp only
    rw [h2]
    rw [List.length_cons] at hl
    cases hp : p d with
    | false =>
      simp only
      rw [lcGo_fm p g ds acc (fun x hx => h x (List.mem_cons_of_mem _ hx)) (by omega), List.filter_cons_of_neg (by rw [hp]; decide)]
    | true =>
      simp only
      rw [h3 hp]
      simp only
      rw [if_pos (by omega), lcGo_fm p g ds (acc ++ [g d]) (fun x hx => h x (List.mem_cons_of_mem _ hx)) (by rw [List.length_append, List.length_singleton]; omega), List.filter_cons_of_pos hp, List.map_cons, List.append_assoc]
      rfl
theorem lcGo_map {b : D → EnvD → Option EnvD} {f : FD} {ρ0 : EnvD} {M : Store} (g : D → D) (items : List D) (h : ∀ d ∈ items, ∃ ρ1, b d ρ0 = some ρ1 ∧ f ρ1 M = .ok (g d) M) (hl : items.length ≤ sizeLine) : lcGo b dYes f ρ0 items [] M = .ok (items.map g) M := by
  rw [lcGo_fm (fun _ => true) g items [] (fun d hd => by obtain ⟨ρ1, h1, h2⟩ := h d hd; exact ⟨ρ1, h1, rfl, fun _ => h2⟩) (by simpa using hl)]
  rw [List.filter_eq_self.mpr (fun _ _ => rfl), List.nil_append]
/-- by an invariant over the turn, what is made so far, the store -/
theorem lcGo_inv {b : D → EnvD → Option EnvD} {f : FD} {ρ0 : EnvD} (I : Nat → List D → Store → Prop) (items : List D) (hl : items.length ≤ sizeLine)
    (step : ∀ i d acc M, items[i]? = some d → I i acc M → ∃ ρ1, b d ρ0 = some ρ1 ∧ ∃ y M', f ρ1 M = .ok y M' ∧ I (i + 1) (acc ++ [y]) M') :
    ∀ (n i : Nat) (acc : List D) (M : Store), n + i = items.length → acc.length = i → I i acc M → ∃ res M', lcGo b dYes f ρ0 (items.drop i) acc M = .ok res M' ∧ I items.length res M' ∧ res.length = items.length
  | 0, i, acc, M, e, ha, h => by
    have ei : i = items.length := by omega
    subst ei
    rw [List.drop_length]
    exact ⟨acc, M, rfl, h, ha⟩
  | n + 1, i, acc, M, e, ha, h => by
    have hi : i < items.length := by omega
    rw [List.drop_eq_getElem_cons hi]
    obtain ⟨ρ1, h1, y, M', h2, h3⟩ := step i items[i] acc M (List.getElem?_eq_getElem hi) h
    unfold lcGo
    rw [h1]
    simp only [dYes_eq]
    rw [h2]
    simp only
    rw [if_pos (by omega)]
    exact lcGo_inv I items hl step n (i + 1) (acc ++ [y]) M' (by omega) (by rw [List.length_append, ha]; rfl) h3
/-! ### loops -/
/-- a loop that goes on to its end -/
theorem forGo_inv {b : D → EnvD → Option EnvD} {body : FS} (I : Nat → EnvD → Store → Prop) (items : List D)
    (step : ∀ i d ρ M, items[i]? = some d → I i ρ M → ∃ ρ1, b d ρ = some ρ1 ∧ ((∃ ρ2 M2, body ρ1 M = .next ρ2 M2 ∧ I (i + 1) ρ2 M2) ∨ ∃ ρ2 M2, body ρ1 M = .cont ρ2 M2 ∧ I (i + 1) ρ2 M2)) :
    ∀ (n i : Nat) (ρ : EnvD) (M : Store), n + i = items.length → I i ρ M → ∃ ρ' M', forGo b body (items.drop i) ρ M = .next ρ' M' ∧ I items.length ρ' M'
  | 0, i, ρ, M, e, h => by
    have ei : i = items.length := by omega
    subst ei
    rw [List.drop_length]
    exact ⟨ρ, M, rfl, h⟩
  | n + 1, i, ρ, M, e, h => by
    have hi : i < items.length := by omega
    rw [List.drop_eq_getElem_cons hi]
    obtain ⟨ρ1, h1, h2⟩ := step i items[i] ρ M (List.getElem?_eq_getElem hi) h
    unfold forGo
    rw [h1]
    simp only
    rcases h2 with ⟨ρ2, M2, h2, h3⟩ | ⟨ρ2, M2, h2, h3⟩
    · rw [h2]
      exact forGo_inv I items step n (i + 1) ρ2 M2 (by omega) h3
    · rw [h2]
      exact forGo_inv I items step n (i + 1) ρ2 M2 (by omega) h3
theorem forGo_all {b : D → EnvD → Option EnvD} {body : FS} (I : Nat → EnvD → Store → Prop) (items : List D) {ρ : EnvD} {M : Store} (h0 : I 0 ρ M)
    (step : ∀ i d ρ M, items[i]? = some d → I i ρ M → ∃ ρ1, b d ρ = some ρ1 ∧ ∃ ρ2 M2, body ρ1 M = .next ρ2 M2 ∧ I (i + 1) ρ2 M2) : ∃ ρ' M', forGo b body items ρ M = .next ρ' M' ∧ I items.length ρ' M' := by
  have := forGo_inv (b := b) (body := body) I items (fun i d ρ M hd h => by obtain ⟨ρ1, h1, h2⟩ := step i d ρ M hd h; exact ⟨ρ1, h1, .inl h2⟩) items.length 0 ρ M rfl h0
  simpa using this
theorem size_ok {n : Nat} (h : n ≤ 1000000) : n ≤ sizeLine := Nat.le_trans h (by decide)
end TP
/-! TPn: the laws' own numbers. -/
namespace TP
open PySem L2
def cellM : FS := (sSeq (sPutR (dEF (dOp2 addD (dEF (dOp2 idxD (dVarB 1) (dC (.int 0)))) (dC (.int 1)))) (dVarB 1) (dC (.int 0))) (sSeq (sSet 2 (dFE (dEF (dOp2 idxD (dVarB 1) (dC (.int 0)))))) (sSeq (sSet 3 (dFE (dEF (dOp2 addD (dEF (dOp2 mulD (dEF (dOp2 mulD (dC (.int 31)) (dVarB 2))) (dVarB 2))) (dEF (dOp2 mulD (dC (.int 7919)) (dVarB 2))))))) (sSeq (sIf (dAnd (dBo (dOp2 (cmpD fun i j => decide (j < i)) (dEF (dPr lenD (dCons (dVarB 0) dNil))) (dC (.int 0)))) (dAnd (dBo (dOp2 (cmpD fun i j => decide (j ≤ i)) (dEF (dOp2 idxD (dVarB 0) (dEF (dOp2 modD (dVarB 2) (dEF (dPr lenD (dCons (dVarB 0) dNil))))))) (dEF (dOp2 powD (dC (.int 10)) (dC (.int 18)))))) (dBo (dOp2 (cmpD fun i j => decide (i < j)) (dEF (dOp2 fdivD (dVarB 2) (dEF (dPr lenD (dCons (dVarB 0) dNil))))) (dC (.int 60)))))) (sSeq (sSet 4 (dFE (dEF (dOp2 idxD (dVarB 0) (dEF (dOp2 modD (dVarB 2) (dEF (dPr lenD (dCons (dVarB 0) dNil))))))))) (sSeq (sFor (dRng1 (dCons (dEF (dOp2 fdivD (dVarB 2) (dEF (dPr lenD (dCons (dVarB 0) dNil))))) dNil)) (bName 5) (sSeq (sSet 4 (dFE (dEF (dOp2 fdivD (dVarB 4) (dC (.int 306783379)))))) sNil)) (sSeq (sIf (dBo (dOp2 (cmpD fun i j => decide (j < i)) (dVarB 4) (dC (.int 0)))) (sSeq (sRet (dOp2 modD (dVarB 4) (dC (.int 306783379)))) sNil) sNil) sNil))) sNil) (sSeq (sIf (dBo (dOp2 (cmpD fun i j => decide (j < i)) (dEF (dPr lenD (dCons (dVarB 0) dNil))) (dC (.int 0)))) (sSeq (sSet 3 (dFE (dEF (dOp2 addD (dVarB 3) (dEF (dOp2 mulD (dEF (dOp2 modD (dEF (dOp2 idxD (dVarB 0) (dEF (dOp2 modD (dVarB 2) (dEF (dPr lenD (dCons (dVarB 0) dNil))))))) (dC (.int 2147483629)))) (dEF (dOp2 addD (dC (.int 1)) (dEF (dOp2 fdivD (dVarB 2) (dEF (dPr lenD (dCons (dVarB 0) dNil))))))))))))) sNil) sNil) (sSeq (sRet (dOp2 fdivD (dEF (dOp2 modD (dEF (dOp2 mulD (dEF (dOp2 modD (dEF (dOp2 mulD (dVarB 3) (dC (.int 48271)))) (dC (.int 2147483647)))) (dC (.int 69621)))) (dC (.int 2147483629)))) (dC (.int 7)))) sNil))))))
theorem atI_ints {ns : List Int} {i : Int} (h0 : 0 ≤ i) (h1 : i < ns.length) : ∃ v, atI (ns.map D.int) i = some (.int v) := by
  have hi : i.toNat < ns.length := by omega
  have e : ((i.toNat : Nat) : Int) = i := by omega
  generalize i.toNat = j at hi e
  subst e
  refine ⟨ns[j], ?_⟩
  exact atI_nat (by rw [List.getElem?_map, List.getElem?_eq_getElem hi]; rfl)
set_option maxHeartbeats 2000000 in
theorem cell_gen (c : D) (ns : List Int) (hlen : ∀ M, lenD M [c] = some (.val (.int ns.length))) (hidx : ∀ M i, idxD M c (.int i) = (atI (ns.map D.int) i).map Slot.val) (j : Nat) (k : Int) (M : Store) (hns : ns.length ≤ 63) (hj : M[j]? = some (.lst [.int k])) (h0 : -1 ≤ k) (h1 : k < 2 ^ 40) :
    ∃ r : Int, 0 ≤ r ∧ runF 6 cellM [c, .ref j] M = .ok (.val (.int r)) (M.set j (.lst [.int (k + 1)])) := by
  have hjl : j < M.length := (List.getElem?_eq_some_iff.mp hj).1
  have hM : (M.set j (.lst [.int (k + 1)]))[j]? = some (.lst [.int (k + 1)]) := List.getElem?_set_self hjl
  have a0 : ∀ d : D, atI [d] 0 = some d := fun d => rfl
  have i0 : ixN 1 0 = some 0 := rfl
  have m1 : mulOk 31 (k + 1) = true := mulOk_l (by decide) (by decide)
  have m2 : mulOk (31 * (k + 1)) (k + 1) = true := mulOk_r (by omega) (by omega)
  have m3 : mulOk 7919 (k + 1) = true := mulOk_l (by decide) (by decide)
  have m4 : ∀ x, mulOk x 48271 = true := fun x => mulOk_r (by decide) (by decide)
  have m5 : ∀ x, mulOk x 69621 = true := fun x => mulOk_r (by decide) (by decide)
  have fin : ∀ b : Int, 0 ≤ b * 48271 % 2147483647 * 69621 % 2147483629 / 7 := fun b => by omega
  unfold runF cellM startD
  cases ns with
  | nil =>
    simp [hlen, hidx, idxD_ref _ hj, idxD_ref _ hM, hj, a0, i0, m1, m2, m3, m4, m5]
    exact fin _
  | cons n ns =>
    have hl : 0 < (n :: ns).length := by simp
    generalize hL : ((n :: ns).length : Nat) = L at hl hns
    generalize hA : n :: ns = all at hL hlen hidx
    have hp1 : 0 ≤ (k + 1) % (L : Int) := Int.emod_nonneg _ (by omega)
    have hp2 : (k + 1) % (L : Int) < L := Int.emod_lt_of_pos _ (by omega)
    obtain ⟨v, hv⟩ := atI_ints (ns := all) hp1 (by omega)
    have m6 : mulOk (v % 2147483629) (1 + (k + 1) / (L : Int)) = true := mulOk_l (by omega) (by omega)
    have hdiv : (L : Int) < 1073741824 := by omega
    have hq0 : 0 ≤ (k + 1) / (L : Int) := Int.ediv_nonneg (by omega) (by omega)
    have hq1 : (k + 1) / (L : Int) ≤ k + 1 := Int.ediv_le_self _ (by omega)
    simp only [List.replicate, List.map_cons, List.map_nil, List.length_cons, List.length_nil]
    by_cases hv2 : 1000000000000000000 ≤ v ∧ (k + 1) / (L : Int) < 60
    · -- its own digits
      have hr : -4611686018427387904 ≤ (k + 1) / (L : Int) ∧ (k + 1) / (L : Int) < 4611686018427387904 := ⟨by omega, by omega⟩
      obtain ⟨ρ', M', e1, ⟨x, y, e2⟩, e3⟩ := forGo_all (b := bName 5) (body := (sSeq (sSet 4 (dFE (dEF (dOp2 fdivD (dVarB 4) (dC (D.int 306783379)))))) sNil))
        (fun _ ρ N => (∃ (x : Int) (y : Slot), ρ = [Slot.val c, Slot.val (D.ref j), Slot.val (D.int (k + 1)), Slot.val (D.int (31 * (k + 1) * (k + 1) + 7919 * (k + 1))), Slot.val (D.int x), y]) ∧ N = M.set j (.lst [.int (k + 1)]))
        (rngL 0 ((k + 1) / (L : Int)).toNat) (ρ := [Slot.val c, Slot.val (D.ref j), Slot.val (D.int (k + 1)), Slot.val (D.int (31 * (k + 1) * (k + 1) + 7919 * (k + 1))), Slot.val (D.int v), .un]) (M := M.set j (.lst [.int (k + 1)])) ⟨⟨v, .un, rfl⟩, rfl⟩
        (fun i d ρ N hd ⟨⟨x, y, e⟩, eN⟩ => by
          subst e eN
          refine ⟨_, rfl, _, _, by simp; rfl, ⟨x / 306783379, .val d, by simp⟩, rfl⟩)
      subst e2 e3
      by_cases hx : 0 < x
      · refine ⟨x % 306783379, by omega, ?_⟩
        simp [hlen, hidx, idxD_ref _ hj, idxD_ref _ hM, hj, a0, i0, m1, m2, m3, m4, m5, m6, hL, hv, hdiv, hl, hv2.1, hv2.2, hr, e1, hx]
      · simp [hlen, hidx, idxD_ref _ hj, idxD_ref _ hM, hj, a0, i0, m1, m2, m3, m4, m5, m6, hL, hv, hdiv, hl, hv2.1, hv2.2, hr, e1, hx]
        exact fin _
    · have hv3 : (if 1000000000000000000 ≤ v then decide ((k + 1) / (L : Int) < 60) else false) = false := by
        split
        · exact decide_eq_false fun z => hv2 ⟨by assumption, z⟩
        · rfl
      by_cases hv4 : 1000000000000000000 ≤ v
      · have hv5 : ¬ (k + 1) / (L : Int) < 60 := fun z => hv2 ⟨hv4, z⟩
        simp [hlen, hidx, idxD_ref _ hj, idxD_ref _ hM, hj, a0, i0, m1, m2, m3, m4, m5, m6, hL, hv, hdiv, hl, hv4, hv5]
        exact fin _
      · simp [hlen, hidx, idxD_ref _ hj, idxD_ref _ hM, hj, a0, i0, m1, m2, m3, m4, m5, m6, hL, hv, hdiv, hl, hv4]
        exact fin _

theorem cell_fro (ns : List Int) (j : Nat) (k : Int) (M : Store) (hns : ns.length ≤ 63) (hj : M[j]? = some (.lst [.int k])) (h0 : -1 ≤ k) (h1 : k < 2 ^ 40) :
    ∃ r : Int, 0 ≤ r ∧ runF 6 cellM [.fro (ns.map .int), .ref j] M = .ok (.val (.int r)) (M.set j (.lst [.int (k + 1)])) :=
  cell_gen _ ns (fun M => by show some (Slot.val (D.int (List.map D.int ns).length)) = _; rw [List.length_map]) (fun M i => rfl) j k M hns hj h0 h1
theorem cell_ok (ns : List Int) (j : Nat) (k : Int) (M : Store) (hns : ns.length ≤ 63) (hj : M[j]? = some (.lst [.int k])) (h0 : -1 ≤ k) (h1 : k < 2 ^ 40) :
    ∃ r : Int, 0 ≤ r ∧ runF 6 cellM [.lst (ns.map .int), .ref j] M = .ok (.val (.int r)) (M.set j (.lst [.int (k + 1)])) :=
  cell_gen _ ns (fun M => by show some (Slot.val (D.int (List.map D.int ns).length)) = _; rw [List.length_map]) (fun M i => rfl) j k M hns hj h0 h1
end TP
/-! TPo: more for reckoning: dicts, the laws' numbers out of any row. -/
namespace TP
open PySem L2
section
variable (ρ : EnvD) (M : Store)
@[simp] theorem dTab_eq (tab : List (Str × D)) (f : FD) : dTab tab f ρ M = (f ρ M).bind fun y M => match y with
  | .str z => R.of (tabFind tab z) M
  | _ => .bad := rfl
@[simp] theorem dNewT_eq : dNewT ρ M = .ok (.ref M.length) (M ++ [.dT []]) := rfl
@[simp] theorem sPutD_eq (f fo fi : FD) : sPutD f fo fi ρ M = (f ρ M).out fun z M => (fo ρ M).out fun x M => (fi ρ M).out fun y M => match dPutM M x y z with
  | some M' => .next ρ M'
  | none => .bad := rfl
@[simp] theorem dDisp_eq (ks : List Str) (fs : List FD) : dDisp ks fs ρ M = (dVals fs ρ M).bind fun ds M => if ds.length = ks.length ∧ ks.length ≤ 15 then .ok (.ref M.length) (M ++ [.dK (mergeD ks ds)]) else .bad := rfl
end
end TP
/-! TPx: the expressions of a program, plain. -/
namespace TP
open PySem L2
inductive Ex where
  | num (n : Int)
  | use (x : Str)
  | op (s : Str) (a b : Ex)
  | lt (x : Str) (a b : Ex)
  | ite (a b c : Ex)
  | times (a : Ex) (i s : Str) (b c : Ex)
  | tell (a b : Ex)
  | stop (a : Ex)
  | call (m f : Str) (as : List Ex)
namespace Ex
mutual
def toD : Ex → D
  | num n => .tup [.str "num", .int n]
  | use x => .tup [.str "use", .str x]
  | op s a b => .tup [.str "op", .str s, toD a, toD b]
  | lt x a b => .tup [.str "let", .str x, toD a, toD b]
  | ite a b c => .tup [.str "if", toD a, toD b, toD c]
  | times a i s b c => .tup [.str "times", toD a, .str i, .str s, toD b, toD c]
  | tell a b => .tup [.str "tell", toD a, toD b]
  | stop a => .tup [.str "stop", toD a]
  | call m f as => .tup [.str "call", .str m, .str f, .tup (toDs as)]
def toDs : List Ex → List D
  | [] => []
  | e :: es => toD e :: toDs es
end
def parts : Ex → List Ex
  | num _ => []
  | use _ => []
  | op _ a b => [a, b]
  | lt _ a b => [a, b]
  | ite a b c => [a, b, c]
  | times a _ _ b c => [a, b, c]
  | tell a b => [a, b]
  | stop a => [a]
  | call _ _ as => as
mutual
def dep : Ex → Nat
  | num _ => 0
  | use _ => 0
  | op _ a b => max (dep a) (dep b) + 1
  | lt _ a b => max (dep a) (dep b) + 1
  | ite a b c => max (dep a) (max (dep b) (dep c)) + 1
  | times a _ _ b c => max (dep a) (max (dep b) (dep c)) + 1
  | tell a b => max (dep a) (dep b) + 1
  | stop a => dep a + 1
  | call _ _ as => deps as + 1
def deps : List Ex → Nat
  | [] => 0
  | e :: es => max (dep e) (deps es)
end
theorem toDs_eq : ∀ es : List Ex, toDs es = es.map toD
  | [] => rfl
  | e :: es => by rw [toDs, toDs_eq es, List.map_cons]
theorem deps_mem : ∀ {es : List Ex} {e : Ex}, e ∈ es → dep e ≤ deps es
  | e' :: es, e, h => by
    rw [deps]
    rcases List.mem_cons.mp h with rfl | h
    · omega
    · have := deps_mem h; omega
theorem parts_dep {e p : Ex} (h : p ∈ parts e) : dep p < dep e := by
  cases e <;> simp only [parts, List.mem_cons, List.not_mem_nil, or_false] at h <;> simp only [dep]
  case op => rcases h with rfl | rfl <;> omega
  case lt => rcases h with rfl | rfl <;> omega
  case ite => rcases h with rfl | rfl | rfl <;> omega
  case times => rcases h with rfl | rfl | rfl <;> omega
  case tell => rcases h with rfl | rfl <;> omega
  case stop => subst h; omega
  case call => have := deps_mem h; omega
end Ex
@[simp] theorem ix0 {x : D} {xs : List D} : atI (x :: xs) 0 = some x := atI_nat (j := 0) rfl
@[simp] theorem ix1 {x y : D} {xs : List D} : atI (x :: y :: xs) 1 = some y := atI_nat (j := 1) rfl
@[simp] theorem ix2 {x y z : D} {xs : List D} : atI (x :: y :: z :: xs) 2 = some z := atI_nat (j := 2) rfl
@[simp] theorem ix3 {x y z u : D} {xs : List D} : atI (x :: y :: z :: u :: xs) 3 = some u := atI_nat (j := 3) rfl
@[simp] theorem ix4 {x y z u v : D} {xs : List D} : atI (x :: y :: z :: u :: v :: xs) 4 = some v := atI_nat (j := 4) rfl
@[simp] theorem ix5 {x y z u v a : D} {xs : List D} : atI (x :: y :: z :: u :: v :: a :: xs) 5 = some a := atI_nat (j := 5) rfl
theorem atI_mem {α : Type} {xs : List α} {i : Int} (h0 : 0 ≤ i) (h1 : i < xs.length) : ∃ v, v ∈ xs ∧ atI xs i = some v := by
  have hi : i.toNat < xs.length := by omega
  have e : ((i.toNat : Nat) : Int) = i := by omega
  generalize i.toNat = j at hi e
  subst e
  exact ⟨xs[j], List.getElem_mem hi, atI_nat (List.getElem?_eq_getElem hi)⟩
theorem atI_map {α β : Type} (f : α → β) (xs : List α) (i : Int) : atI (xs.map f) i = (atI xs i).map f := by
  unfold atI
  rw [List.length_map]
  cases ixN xs.length i with
  | none => rfl
  | some j => simp
theorem set_set {M : Store} {j : Nat} {a b : MO} : (M.set j a).set j b = M.set j b := List.set_set ..
theorem get_set {M : Store} {j : Nat} {a b : MO} (h : M[j]? = some a) : (M.set j b)[j]? = some b := List.getElem?_set_self (List.getElem?_eq_some_iff.mp h).1
theorem get_app {M M' : Store} {j : Nat} {a : MO} (h : M[j]? = some a) : (M ++ M')[j]? = some a := by
  rw [List.getElem?_append_left (List.getElem?_eq_some_iff.mp h).1]; exact h
theorem set_self {M : Store} {j : Nat} {a : MO} (h : M[j]? = some a) : M.set j a = M := by
  apply List.ext_getElem?
  intro i
  by_cases hi : j = i
  · subst hi; rw [get_set h, h]
  · rw [List.getElem?_set_ne hi]
theorem at_end (M : Store) (o : MO) : (M ++ [o])[M.length]? = some o := by
  rw [List.getElem?_append_right (Nat.le_refl _), Nat.sub_self]; rfl
theorem set_end (M : Store) (o p : MO) : (M ++ [o]).set M.length p = M ++ [p] := by
  rw [List.set_append_right _ _ (Nat.le_refl _), Nat.sub_self]; rfl
/-- of two words that are written out -/
theorem eqW {s t : Str} {b : Bool} (h : (okStr s && okStr t && (decide (s = t) == b)) = true) (M : Store) : eqD M (.str s) (.str t) = some (.val (.bl b)) := by
  simp only [Bool.and_eq_true, beq_iff_eq] at h
  rw [eqD_str M h.1.1 h.1.2, h.2]
end TP
set_option maxHeartbeats 4000000
namespace K18
open PySem L2 TP
def topS (i : Nat) : Stmt := PySem.Challenge.pw_turnpaper_k18_what_is_quiet.main.body.getD i (.Pass ⟨0, 0, 0, 0⟩)
def k_SPOTS : List (Str × D) := [("num", (.kt [])), ("use", (.kt [])), ("op", (.kt [(.int (2)), (.int (3))])), ("let", (.kt [(.int (2)), (.int (3))])), ("if", (.kt [(.int (1)), (.int (2)), (.int (3))])), ("times", (.kt [(.int (1)), (.int (4)), (.int (5))])), ("tell", (.kt [(.int (1)), (.int (2))])), ("stop", (.kt [(.int (1))]))]
def k_LOUD : D := (.kt [(.str "tell"), (.str "stop")])
def k_RISKY : D := (.kt [(.str "/"), (.str "&")])
abbrev f_parts : Nat := 0
abbrev s_parts : Stmt := topS 2
theorem sc_parts : FnScope ["expression", "spot"] ["expression"] (defScope s_parts) := ⟨rfl, rfl, rfl, by decide +kernel, rfl, by decide +kernel, by decide +kernel⟩
abbrev f_functions : Nat := 1
abbrev s_functions : Stmt := topS 3
theorem sc_functions : FnScope ["program", "found", "m", "rows", "row"] ["program"] (defScope s_functions) := ⟨rfl, rfl, rfl, by decide +kernel, rfl, by decide +kernel, by decide +kernel⟩
abbrev f_quiet_head : Nat := 2
abbrev s_quiet_head : Stmt := topS 8
theorem sc_quiet_head : FnScope ["expression", "known", "word"] ["expression", "known"] (defScope s_quiet_head) := ⟨rfl, rfl, rfl, by decide +kernel, rfl, by decide +kernel, by decide +kernel⟩
abbrev f_quiet_by : Nat := 3
abbrev s_quiet_by : Stmt := topS 9
theorem sc_quiet_by : FnScope ["expression", "known", "part"] ["expression", "known"] (defScope s_quiet_by) := ⟨rfl, rfl, rfl, by decide +kernel, rfl, by decide +kernel, by decide +kernel⟩
abbrev f_quiet_functions : Nat := 4
abbrev s_quiet_functions : Stmt := topS 10
theorem sc_quiet_functions : FnScope ["program", "known", "m", "f", "params", "body"] ["program"] (defScope s_quiet_functions) := ⟨rfl, rfl, rfl, by decide +kernel, rfl, by decide +kernel, by decide +kernel⟩
abbrev f_is_quiet : Nat := 5
abbrev s_is_quiet : Stmt := topS 11
theorem sc_is_quiet : FnScope ["program", "expression"] ["program", "expression"] (defScope s_is_quiet) := ⟨rfl, rfl, rfl, by decide +kernel, rfl, by decide +kernel, by decide +kernel⟩
abbrev f__law_cell : Nat := 6
abbrev s__law_cell : Stmt := topS 13
theorem sc__law_cell : FnScope ["_law_cells", "_law_spot", "_law_k", "_law_base", "_law_own", "_law_turn"] ["_law_cells", "_law_spot"] (defScope s__law_cell) := ⟨rfl, rfl, rfl, by decide +kernel, rfl, by decide +kernel, by decide +kernel⟩
abbrev f__law_some : Nat := 7
abbrev s__law_some : Stmt := topS 14
theorem sc__law_some : FnScope ["_law_n", "_law_quiet", "_law_loud", "_law_pairs", "_law_one", "_law_x", "_law_many", "_law_f", "_law_e", "_law_sign"] ["_law_n"] (defScope s__law_some) := ⟨rfl, rfl, rfl, by decide +kernel, rfl, by decide +kernel, by decide +kernel⟩
abbrev f__law_ahead : Nat := 8
abbrev s__law_ahead : Stmt := topS 15
theorem sc__law_ahead : FnScope ["_law_x", "_law_rows", "_law_f", "_law_body"] [] (defScope s__law_ahead) := ⟨rfl, rfl, rfl, by decide +kernel, rfl, by decide +kernel, by decide +kernel⟩
abbrev f__law_framed : Nat := 9
abbrev s__law_framed : Stmt := topS 16
theorem sc__law_framed : FnScope ["_law_n", "_law_e", "_law_x", "_law_some_here"] ["_law_n", "_law_e"] (defScope s__law_framed) := ⟨rfl, rfl, rfl, by decide +kernel, rfl, by decide +kernel, by decide +kernel⟩
abbrev f__law_doubled_right : Nat := 10
abbrev s__law_doubled_right : Stmt := topS 17
theorem sc__law_doubled_right : FnScope ["_law_n", "_law_modules", "_law_ahead_here", "_law_m", "_law_found", "_law_first", "_law_due", "_law_room", "_law_f", "_law_call"] ["_law_n"] (defScope s__law_doubled_right) := ⟨rfl, rfl, rfl, by decide +kernel, rfl, by decide +kernel, by decide +kernel⟩
abbrev f_law : Nat := 11
abbrev s_law : Stmt := topS 18
theorem sc_law : FnScope ["_law_script", "_law_spot", "_law_far", "_law_k", "_law_n", "_law_rows", "_law_turn", "_law_e", "_law_due", "_law_last", "_law_by", "_law_program", "_law_thing", "_law_found"] ["_law_script"] (defScope s_law) := ⟨rfl, rfl, rfl, by decide +kernel, rfl, by decide +kernel, by decide +kernel⟩
def m_parts (Φ : Nat → Fn) : FS := (sSeq (sIf (dBo (dOp2 eqD (dEF (dOp2 idxD (dVarB 0) (dC (.int 0)))) (dC (.str "call")))) (sSeq (sRet (dPr listD (dCons (dEF (dOp2 idxD (dVarB 0) (dC (.int 3)))) dNil))) sNil) sNil) (sSeq (sRet (dLc (dIt (dTab k_SPOTS (dEF (dOp2 idxD (dVarB 0) (dC (.int 0)))))) (bName 1) dYes (dEF (dOp2 idxD (dVarB 0) (dVarB 1))) [1])) sNil))
def m_functions (Φ : Nat → Fn) : FS := (sSeq (sSet 1 (dLst dNil)) (sSeq (sFor (dIt (dVar 0)) (bTup [2, 3]) (sSeq (sExt 1 (dEF (dLc (dIt (dVar 3)) (bName 4) dYes (dEF (dOp2 addD (dTup (dCons (dVar 2) dNil)) (dVarB 4))) [4]))) sNil)) (sSeq (sRetV 1) sNil)))
def m_quiet_head (Φ : Nat → Fn) : FS := (sSeq (sSet 2 (dFE (dEF (dOp2 idxD (dVarB 0) (dC (.int 0)))))) (sSeq (sIf (dOr (dBo (dOp2 inD (dVarB 2) (dC k_LOUD))) (dAnd (dBo (dOp2 eqD (dVarB 2) (dC (.str "op")))) (dBo (dOp2 inD (dEF (dOp2 idxD (dVarB 0) (dC (.int 1)))) (dC k_RISKY))))) (sSeq (sRet (dFE (dC (.bl false)))) sNil) sNil) (sSeq (sIf (dBo (dOp2 eqD (dVarB 2) (dC (.str "call")))) (sSeq (sRet (dOp2 dgetD (dVarB 1) (dEF (dSl slD (dVarB 0) (dSo (dC (.int 1))) (dSo (dC (.int 3))))))) sNil) sNil) (sSeq (sIf (dBo (dOp2 eqD (dVarB 2) (dC (.str "times")))) (sSeq (sRet (dAndV (dOp2 eqD (dEF (dOp2 idxD (dEF (dOp2 idxD (dVarB 0) (dC (.int 1)))) (dC (.int 0)))) (dC (.str "num"))) (dChain (cmpD fun i j => decide (i ≤ j)) (cmpD fun i j => decide (i ≤ j)) (dC (.int 0)) (dEF (dOp2 idxD (dEF (dOp2 idxD (dVarB 0) (dC (.int 1)))) (dC (.int 1)))) (dC (.int 1000))))) sNil) sNil) (sSeq (sRet (dFE (dC (.bl true)))) sNil)))))
def m_quiet_by (Φ : Nat → Fn) : FS := (sSeq (sIf (dNot (dTru (dEF (dCall 2 (Φ f_quiet_head) (dCons (dVar 0) (dCons (dVar 1) dNil)))))) (sSeq (sRet (dFE (dC (.bl false)))) sNil) sNil) (sSeq (sRet (dPr allD (dCons (dEF (dLc (dIt (dEF (dCall 1 (Φ f_parts) (dCons (dVar 0) dNil)))) (bName 2) dYes (dEF (dCall 2 (Φ f_quiet_by) (dCons (dVar 2) (dCons (dVar 1) dNil)))) [2])) dNil))) sNil))
def m_quiet_functions (Φ : Nat → Fn) : FS := (sSeq (sSet 1 (dFE dNewT)) (sSeq (sFor (dIt (dEF (dCall 1 (Φ f_functions) (dCons (dVar 0) dNil)))) (bTup [2, 3, 4, 5]) (sSeq (sPutD (dEF (dCall 2 (Φ f_quiet_by) (dCons (dVar 5) (dCons (dVar 1) dNil)))) (dVarB 1) (dTup (dCons (dVar 2) (dCons (dVar 3) dNil)))) sNil)) (sSeq (sRetV 1) sNil)))
def m_is_quiet (Φ : Nat → Fn) : FS := (sSeq (sRet (dCall 2 (Φ f_quiet_by) (dCons (dVar 1) (dCons (dEF (dCall 1 (Φ f_quiet_functions) (dCons (dVar 0) dNil))) dNil)))) sNil)
def m__law_cell (Φ : Nat → Fn) : FS := (sSeq (sPutR (dEF (dOp2 addD (dEF (dOp2 idxD (dVarB 1) (dC (.int 0)))) (dC (.int 1)))) (dVarB 1) (dC (.int 0))) (sSeq (sSet 2 (dFE (dEF (dOp2 idxD (dVarB 1) (dC (.int 0)))))) (sSeq (sSet 3 (dFE (dEF (dOp2 addD (dEF (dOp2 mulD (dEF (dOp2 mulD (dC (.int 31)) (dVarB 2))) (dVarB 2))) (dEF (dOp2 mulD (dC (.int 7919)) (dVarB 2))))))) (sSeq (sIf (dAnd (dBo (dOp2 (cmpD fun i j => decide (j < i)) (dEF (dPr lenD (dCons (dVarB 0) dNil))) (dC (.int 0)))) (dAnd (dBo (dOp2 (cmpD fun i j => decide (j ≤ i)) (dEF (dOp2 idxD (dVarB 0) (dEF (dOp2 modD (dVarB 2) (dEF (dPr lenD (dCons (dVarB 0) dNil))))))) (dEF (dOp2 powD (dC (.int 10)) (dC (.int 18)))))) (dBo (dOp2 (cmpD fun i j => decide (i < j)) (dEF (dOp2 fdivD (dVarB 2) (dEF (dPr lenD (dCons (dVarB 0) dNil))))) (dC (.int 60)))))) (sSeq (sSet 4 (dFE (dEF (dOp2 idxD (dVarB 0) (dEF (dOp2 modD (dVarB 2) (dEF (dPr lenD (dCons (dVarB 0) dNil))))))))) (sSeq (sFor (dRng1 (dCons (dEF (dOp2 fdivD (dVarB 2) (dEF (dPr lenD (dCons (dVarB 0) dNil))))) dNil)) (bName 5) (sSeq (sSet 4 (dFE (dEF (dOp2 fdivD (dVarB 4) (dC (.int 306783379)))))) sNil)) (sSeq (sIf (dBo (dOp2 (cmpD fun i j => decide (j < i)) (dVarB 4) (dC (.int 0)))) (sSeq (sRet (dOp2 modD (dVarB 4) (dC (.int 306783379)))) sNil) sNil) sNil))) sNil) (sSeq (sIf (dBo (dOp2 (cmpD fun i j => decide (j < i)) (dEF (dPr lenD (dCons (dVarB 0) dNil))) (dC (.int 0)))) (sSeq (sSet 3 (dFE (dEF (dOp2 addD (dVarB 3) (dEF (dOp2 mulD (dEF (dOp2 modD (dEF (dOp2 idxD (dVarB 0) (dEF (dOp2 modD (dVarB 2) (dEF (dPr lenD (dCons (dVarB 0) dNil))))))) (dC (.int 2147483629)))) (dEF (dOp2 addD (dC (.int 1)) (dEF (dOp2 fdivD (dVarB 2) (dEF (dPr lenD (dCons (dVarB 0) dNil))))))))))))) sNil) sNil) (sSeq (sRet (dOp2 fdivD (dEF (dOp2 modD (dEF (dOp2 mulD (dEF (dOp2 modD (dEF (dOp2 mulD (dVarB 3) (dC (.int 48271)))) (dC (.int 2147483647)))) (dC (.int 69621)))) (dC (.int 2147483629)))) (dC (.int 7)))) sNil))))))
def m__law_some (Φ : Nat → Fn) : FS := (sSeq (sAsg (bTup [4, 5]) (dTup (dCons (dTup (dCons (dC (.str "num")) (dCons (dEF (dOp2 subD (dEF (dOp2 modD (dEF (dOp2 fdivD (dVarB 0) (dC (.int 30)))) (dC (.int 2000)))) (dC (.int 1000)))) dNil))) (dCons (dTup (dCons (dC (.str "use")) (dCons (dC (.str "x")) dNil))) dNil)))) (sSeq (sSet 1 (dFE (dEF (dOp2 addD (dEF (dOp2 addD (dEF (dLst (dCons (dVar 4) (dCons (dVar 5) dNil)))) (dEF (dLc (dIt (dC (.str "+-*=<"))) (bName 9) dYes (dTup (dCons (dC (.str "op")) (dCons (dVar 9) (dCons (dVar 4) (dCons (dVar 5) dNil))))) [9])))) (dEF (dLst (dCons (dTup (dCons (dC (.str "let")) (dCons (dC (.str "x")) (dCons (dVar 4) (dCons (dVar 5) dNil))))) (dCons (dTup (dCons (dC (.str "if")) (dCons (dVar 4) (dCons (dVar 5) (dCons (dVar 4) dNil))))) dNil)))))))) (sSeq (sSet 1 (dFE (dEF (dOp2 addD (dVarB 1) (dEF (dLc (dIt (dTup (dCons (dC (.int 0)) (dCons (dC (.int 1)) (dCons (dC (.int 1000)) dNil))))) (bName 6) dYes (dTup (dCons (dC (.str "times")) (dCons (dTup (dCons (dC (.str "num")) (dCons (dVar 6) dNil))) (dCons (dC (.str "i")) (dCons (dC (.str "s")) (dCons (dVar 4) (dCons (dVar 5) dNil))))))) [6])))))) (sSeq (sSet 1 (dFE (dEF (dOp2 addD (dVarB 1) (dEF (dLst (dCons (dTup (dCons (dC (.str "call")) (dCons (dC (.str "m")) (dCons (dC (.str "calm")) (dCons (dTup (dCons (dVar 4) dNil)) dNil))))) (dCons (dTup (dCons (dC (.str "call")) (dCons (dC (.str "m")) (dCons (dC (.str "still")) (dCons (dTup (dCons (dVar 5) dNil)) dNil))))) dNil)))))))) (sSeq (sSet 2 (dLst (dCons (dTup (dCons (dC (.str "op")) (dCons (dC (.str "/")) (dCons (dVar 4) (dCons (dTup (dCons (dC (.str "num")) (dCons (dC (.int 1)) dNil))) dNil))))) (dCons (dTup (dCons (dC (.str "op")) (dCons (dC (.str "&")) (dCons (dVar 5) (dCons (dTup (dCons (dC (.str "num")) (dCons (dC (.int 7)) dNil))) dNil))))) (dCons (dTup (dCons (dC (.str "tell")) (dCons (dVar 4) (dCons (dVar 5) dNil)))) (dCons (dTup (dCons (dC (.str "stop")) (dCons (dVar 5) dNil))) dNil)))))) (sSeq (sSet 2 (dOp2 addD (dVarB 2) (dEF (dLc (dIt (dTup (dCons (dTup (dCons (dC (.str "num")) (dCons (dEF (dOp1 negD (dC (.int 1)))) dNil))) (dCons (dTup (dCons (dC (.str "num")) (dCons (dC (.int 1001)) dNil))) (dCons (dTup (dCons (dC (.str "num")) (dCons (dEF (dOp2 powD (dC (.int 10)) (dC (.int 30)))) dNil))) (dCons (dVar 5) dNil)))))) (bName 6) dYes (dTup (dCons (dC (.str "times")) (dCons (dVar 6) (dCons (dC (.str "i")) (dCons (dC (.str "s")) (dCons (dVar 4) (dCons (dVar 5) dNil))))))) [6])))) (sSeq (sApp 2 (dTup (dCons (dC (.str "times")) (dCons (dTup (dCons (dC (.str "op")) (dCons (dC (.str "+")) (dCons (dTup (dCons (dC (.str "num")) (dCons (dC (.int 1)) dNil))) (dCons (dTup (dCons (dC (.str "num")) (dCons (dC (.int 1)) dNil))) dNil))))) (dCons (dC (.str "i")) (dCons (dC (.str "s")) (dCons (dVar 4) (dCons (dVar 5) dNil)))))))) (sSeq (sApp 2 (dTup (dCons (dC (.str "times")) (dCons (dTup (dCons (dC (.str "let")) (dCons (dC (.str "i")) (dCons (dVar 4) (dCons (dTup (dCons (dC (.str "num")) (dCons (dC (.int 2)) dNil))) dNil))))) (dCons (dC (.str "i")) (dCons (dC (.str "s")) (dCons (dVar 4) (dCons (dVar 5) dNil)))))))) (sSeq (sSet 2 (dOp2 addD (dVarB 2) (dEF (dLc (dIt (dTup (dCons (dC (.str "tells")) (dCons (dC (.str "stops")) (dCons (dC (.str "over")) (dCons (dC (.str "far")) (dCons (dC (.str "again")) (dCons (dC (.str "more")) dNil)))))))) (bName 7) dYes (dTup (dCons (dC (.str "call")) (dCons (dC (.str "m")) (dCons (dVar 7) (dCons (dTup (dCons (dVar 4) dNil)) dNil))))) [7])))) (sSeq (sFz 2 (sSet 3 (dFE (dEF (dOp2 addD (dEF (dLc (dIt (dVar 1)) (bName 8) dYes (dTup (dCons (dVar 8) (dCons (dC (.bl true)) dNil))) [8])) (dEF (dLc (dIt (dVar 2)) (bName 8) dYes (dTup (dCons (dVar 8) (dCons (dC (.bl false)) dNil))) [8]))))))) (sSeq (sRet (dOp2 idxD (dVarB 3) (dEF (dOp2 modD (dVarB 0) (dC (.int 30)))))) sNil)))))))))))
def m__law_ahead (Φ : Nat → Fn) : FS := (sSeq (sSet 0 (dFE (dTup (dCons (dC (.str "use")) (dCons (dC (.str "x")) dNil))))) (sSeq (sSet 1 (dLst (dCons (dTup (dCons (dC (.str "calm")) (dCons (dTup (dCons (dC (.str "op")) (dCons (dC (.str "+")) (dCons (dVar 0) (dCons (dTup (dCons (dC (.str "num")) (dCons (dC (.int 1)) dNil))) dNil))))) dNil))) (dCons (dTup (dCons (dC (.str "still")) (dCons (dTup (dCons (dC (.str "call")) (dCons (dC (.str "m")) (dCons (dC (.str "calm")) (dCons (dTup (dCons (dVar 0) dNil)) dNil))))) dNil))) (dCons (dTup (dCons (dC (.str "tells")) (dCons (dTup (dCons (dC (.str "tell")) (dCons (dVar 0) (dCons (dVar 0) dNil)))) dNil))) dNil))))) (sSeq (sSet 1 (dOp2 addD (dVarB 1) (dEF (dLst (dCons (dTup (dCons (dC (.str "stops")) (dCons (dTup (dCons (dC (.str "if")) (dCons (dTup (dCons (dC (.str "num")) (dCons (dC (.int 0)) dNil))) (dCons (dTup (dCons (dC (.str "stop")) (dCons (dVar 0) dNil))) (dCons (dVar 0) dNil))))) dNil))) (dCons (dTup (dCons (dC (.str "over")) (dCons (dTup (dCons (dC (.str "op")) (dCons (dC (.str "/")) (dCons (dVar 0) (dCons (dTup (dCons (dC (.str "num")) (dCons (dC (.int 2)) dNil))) dNil))))) dNil))) dNil)))))) (sSeq (sSet 1 (dOp2 addD (dVarB 1) (dEF (dLst (dCons (dTup (dCons (dC (.str "far")) (dCons (dTup (dCons (dC (.str "times")) (dCons (dVar 0) (dCons (dC (.str "i")) (dCons (dC (.str "s")) (dCons (dVar 0) (dCons (dVar 0) dNil))))))) dNil))) (dCons (dTup (dCons (dC (.str "again")) (dCons (dTup (dCons (dC (.str "call")) (dCons (dC (.str "m")) (dCons (dC (.str "tells")) (dCons (dTup (dCons (dVar 0) dNil)) dNil))))) dNil))) dNil)))))) (sSeq (sApp 1 (dTup (dCons (dC (.str "more")) (dCons (dTup (dCons (dC (.str "let")) (dCons (dC (.str "y")) (dCons (dTup (dCons (dC (.str "call")) (dCons (dC (.str "m")) (dCons (dC (.str "again")) (dCons (dTup (dCons (dVar 0) dNil)) dNil))))) (dCons (dVar 0) dNil))))) dNil)))) (sSeq (sFz 1 (sRet (dPr tupleD (dCons (dEF (dLc (dIt (dVar 1)) (bTup [2, 3]) dYes (dTup (dCons (dVar 2) (dCons (dTup (dCons (dC (.str "x")) dNil)) (dCons (dVar 3) dNil)))) [2, 3])) dNil)))) sNil))))))
def m__law_framed (Φ : Nat → Fn) : FS := (sSeq (sSet 2 (dFE (dTup (dCons (dC (.str "use")) (dCons (dC (.str "x")) dNil))))) (sSeq (sSet 3 (dFE (dEF (dLst (dCons (dTup (dCons (dC (.str "op")) (dCons (dC (.str "+")) (dCons (dVar 1) (dCons (dVar 2) dNil))))) (dCons (dTup (dCons (dC (.str "op")) (dCons (dC (.str "<")) (dCons (dVar 2) (dCons (dVar 1) dNil))))) (dCons (dTup (dCons (dC (.str "let")) (dCons (dC (.str "x")) (dCons (dVar 1) (dCons (dVar 2) dNil))))) (dCons (dTup (dCons (dC (.str "let")) (dCons (dC (.str "i")) (dCons (dVar 2) (dCons (dVar 1) dNil))))) (dCons (dTup (dCons (dC (.str "if")) (dCons (dVar 1) (dCons (dVar 2) (dCons (dVar 2) dNil))))) dNil))))))))) (sSeq (sSet 3 (dFE (dEF (dOp2 addD (dVarB 3) (dEF (dLst (dCons (dTup (dCons (dC (.str "if")) (dCons (dVar 2) (dCons (dVar 1) (dCons (dVar 2) dNil))))) (dCons (dTup (dCons (dC (.str "if")) (dCons (dVar 2) (dCons (dVar 2) (dCons (dVar 1) dNil))))) (dCons (dTup (dCons (dC (.str "call")) (dCons (dC (.str "m")) (dCons (dC (.str "calm")) (dCons (dTup (dCons (dVar 1) dNil)) dNil))))) (dCons (dTup (dCons (dC (.str "call")) (dCons (dC (.str "m")) (dCons (dC (.str "still")) (dCons (dTup (dCons (dVar 1) dNil)) dNil))))) dNil)))))))))) (sSeq (sRet (dOp2 idxD (dEF (dOp2 addD (dVarB 3) (dEF (dLst (dCons (dTup (dCons (dC (.str "times")) (dCons (dTup (dCons (dC (.str "num")) (dCons (dEF (dOp2 modD (dEF (dOp2 fdivD (dVarB 0) (dC (.int 11)))) (dC (.int 1001)))) dNil))) (dCons (dC (.str "i")) (dCons (dC (.str "s")) (dCons (dVar 1) (dCons (dVar 2) dNil))))))) (dCons (dTup (dCons (dC (.str "times")) (dCons (dTup (dCons (dC (.str "num")) (dCons (dC (.int 3)) dNil))) (dCons (dC (.str "x")) (dCons (dC (.str "s")) (dCons (dVar 2) (dCons (dVar 1) dNil))))))) dNil)))))) (dEF (dOp2 modD (dVarB 0) (dC (.int 11)))))) sNil))))
def m__law_doubled_right (Φ : Nat → Fn) : FS := (sSeq (sAsg (bTup [5, 6]) (dEF (dOp2 idxD (dEF (dLst (dCons (dTup (dCons (dTup (dCons (dC (.str "use")) (dCons (dC (.str "x")) dNil))) (dCons (dC (.bl true)) dNil))) (dCons (dTup (dCons (dTup (dCons (dC (.str "tell")) (dCons (dTup (dCons (dC (.str "use")) (dCons (dC (.str "x")) dNil))) (dCons (dTup (dCons (dC (.str "num")) (dCons (dC (.int 1)) dNil))) dNil)))) (dCons (dC (.bl false)) dNil))) dNil)))) (dEF (dOp2 modD (dVarB 0) (dC (.int 2))))))) (sSeq (sSet 1 (dLst dNil)) (sSeq (sSet 2 (dFE (dC .non))) (sSeq (sFor (dIt (dC (.str "mnopqrst"))) (bName 3) (sSeq (sSet 7 (dLst dNil)) (sSeq (sFor (dIt (dC (.str "abcdefghijkl"))) (bName 8) (sSeq (sSet 9 (dFE (dEF (dIf (dBo (dOp2 isD (dVarB 2) (dC .non))) (dFE (dC .non)) (dOp2 addD (dEF (dOp2 addD (dTup (dCons (dC (.str "call")) dNil)) (dVarB 2))) (dTup (dCons (dTup (dCons (dTup (dCons (dC (.str "use")) (dCons (dC (.str "x")) dNil))) dNil)) dNil))))))) (sSeq (sApp 7 (dTup (dCons (dVar 8) (dCons (dTup (dCons (dC (.str "x")) dNil)) (dCons (dEF (dIf (dBo (dOp2 isD (dVarB 9) (dC .non))) (dFE (dVar 5)) (dFE (dTup (dCons (dC (.str "op")) (dCons (dC (.str "+")) (dCons (dVar 9) (dCons (dVar 9) dNil)))))))) dNil))))) (sSeq (sSet 2 (dFE (dTup (dCons (dVar 3) (dCons (dVar 8) dNil))))) sNil)))) (sSeq (sApp 1 (dTup (dCons (dVar 3) (dCons (dEF (dPr tupleD (dCons (dVarB 7) dNil))) dNil)))) sNil)))) (sSeq (sSet 4 (dFE (dEF (dCall 2 (Φ f_is_quiet) (dCons (dEF (dPr tupleD (dCons (dVarB 1) dNil))) (dCons (dEF (dOp2 addD (dEF (dOp2 addD (dTup (dCons (dC (.str "call")) dNil)) (dVarB 2))) (dTup (dCons (dTup (dCons (dTup (dCons (dC (.str "num")) (dCons (dEF (dOp2 modD (dEF (dOp2 fdivD (dVarB 0) (dC (.int 2)))) (dC (.int 9)))) dNil))) dNil)) dNil)))) dNil)))))) (sSeq (sRet (dAndV (dOp1 (isiD "bool") (dVarB 4)) (dOp2 eqD (dVarB 4) (dVarB 6)))) sNil))))))
def m_law (Φ : Nat → Fn) : FS := (sSeq (sSet 1 (dFE (dEF (dRef (dLst (dCons (dC (.int 0)) dNil)))))) (sSeq (sIf (dNot (dTru (dEF (dCall 1 (Φ f__law_doubled_right) (dCons (dEF (dCall 2 (Φ f__law_cell) (dCons (dVar 0) (dCons (dVar 1) dNil)))) dNil))))) (sSeq (sRet (dFE (dC (.bl false)))) sNil) sNil) (sSeq (sSet 2 (dFE (dEF (dOp2 modD (dEF (dCall 2 (Φ f__law_cell) (dCons (dVar 0) (dCons (dVar 1) dNil)))) (dC (.int 30)))))) (sSeq (sFor (dRng1 (dCons (dEF (dOp2 addD (dC (.int 30)) (dEF (dPr min2D (dCons (dC (.int 10)) (dCons (dEF (dPr lenD (dCons (dVarB 0) dNil))) dNil)))))) dNil)) (bName 3) (sSeq (sSet 4 (dFE (dEF (dCall 2 (Φ f__law_cell) (dCons (dVar 0) (dCons (dVar 1) dNil)))))) (sSeq (sAsg (bTup [7, 8]) (dEF (dCall 1 (Φ f__law_some) (dCons (dEF (dOp2 addD (dEF (dOp2 mulD (dC (.int 30)) (dEF (dOp2 fdivD (dVarB 4) (dC (.int 30)))))) (dEF (dOp2 modD (dVarB 3) (dC (.int 30)))))) dNil)))) (sSeq (sSet 5 (dFE (dEF (dCall 0 (Φ f__law_ahead) dNil)))) (sSeq (sFor (dRng1 (dCons (dEF (dIf (dBo (dOp2 neD (dVarB 3) (dVarB 2))) (dOp2 addD (dC (.int 1)) (dEF (dOp2 modD (dVarB 4) (dC (.int 4))))) (dFE (dC (.int 26))))) dNil)) (bName 6) (sSeq (sSet 9 (dFE (dTup (dCons (dC (.str "last")) (dCons (dTup (dCons (dC (.str "x")) dNil)) (dCons (dVar 7) dNil)))))) (sSeq (sSet 10 (dFE (dTup (dCons (dC (.str "by")) (dCons (dTup (dCons (dC (.str "x")) dNil)) (dCons (dTup (dCons (dC (.str "op")) (dCons (dC (.str "+")) (dCons (dTup (dCons (dC (.str "call")) (dCons (dC (.str "m")) (dCons (dC (.str "last")) (dCons (dTup (dCons (dTup (dCons (dC (.str "num")) (dCons (dC (.int 2)) dNil))) dNil)) dNil))))) (dCons (dTup (dCons (dC (.str "num")) (dCons (dC (.int 1)) dNil))) dNil))))) dNil)))))) (sSeq (sSet 11 (dFE (dTup (dCons (dTup (dCons (dC (.str "m")) (dCons (dEF (dOp2 addD (dVarB 5) (dTup (dCons (dVar 9) (dCons (dVar 10) dNil))))) dNil))) dNil)))) (sSeq (sFor (dIt (dTup (dCons (dVar 7) (dCons (dTup (dCons (dC (.str "call")) (dCons (dC (.str "m")) (dCons (dC (.str "last")) (dCons (dTup (dCons (dTup (dCons (dC (.str "num")) (dCons (dC (.int 2)) dNil))) dNil)) dNil))))) (dCons (dTup (dCons (dC (.str "call")) (dCons (dC (.str "m")) (dCons (dC (.str "by")) (dCons (dTup (dCons (dTup (dCons (dC (.str "use")) (dCons (dC (.str "x")) dNil))) dNil)) dNil))))) (dCons (dVar 7) dNil)))))) (bName 12) (sSeq (sSet 13 (dFE (dEF (dCall 2 (Φ f_is_quiet) (dCons (dVar 11) (dCons (dVar 12) dNil)))))) (sSeq (sIf (dOr (dNot (dTru (dEF (dOp1 (isiD "bool") (dVarB 13))))) (dBo (dOp2 neD (dVarB 13) (dVarB 8)))) (sSeq (sRet (dFE (dC (.bl false)))) sNil) sNil) sNil))) (sSeq (sSet 7 (dFE (dEF (dCall 2 (Φ f__law_framed) (dCons (dEF (dCall 2 (Φ f__law_cell) (dCons (dVar 0) (dCons (dVar 1) dNil)))) (dCons (dVar 7) dNil)))))) sNil)))))) sNil))))) (sSeq (sRet (dFE (dC (.bl true)))) sNil)))))
/-- what the defs do, k calls within one another at most -/
def semS (Φ : Nat → Fn) (i : Nat) : Fn := match i with
    | 0 => runF 2 (m_parts Φ)
    | 1 => runF 5 (m_functions Φ)
    | 2 => runF 3 (m_quiet_head Φ)
    | 3 => runF 3 (m_quiet_by Φ)
    | 4 => runF 6 (m_quiet_functions Φ)
    | 5 => runF 2 (m_is_quiet Φ)
    | 6 => runF 6 (m__law_cell Φ)
    | 7 => runF 10 (m__law_some Φ)
    | 8 => runF 4 (m__law_ahead Φ)
    | 9 => runF 4 (m__law_framed Φ)
    | 10 => runF 10 (m__law_doubled_right Φ)
    | 11 => runF 14 (m_law Φ)
    | _ => fun _ _ => .bad
def sem : Nat → Nat → Fn
  | 0 => fun _ _ _ => .bad
  | k + 1 => semS (sem k)
theorem e_parts (k : Nat) : sem (k + 1) f_parts = runF 2 (m_parts (sem k)) := rfl
theorem e_functions (k : Nat) : sem (k + 1) f_functions = runF 5 (m_functions (sem k)) := rfl
theorem e_quiet_head (k : Nat) : sem (k + 1) f_quiet_head = runF 3 (m_quiet_head (sem k)) := rfl
theorem e_quiet_by (k : Nat) : sem (k + 1) f_quiet_by = runF 3 (m_quiet_by (sem k)) := rfl
theorem e_quiet_functions (k : Nat) : sem (k + 1) f_quiet_functions = runF 6 (m_quiet_functions (sem k)) := rfl
theorem e_is_quiet (k : Nat) : sem (k + 1) f_is_quiet = runF 2 (m_is_quiet (sem k)) := rfl
theorem e__law_cell (k : Nat) : sem (k + 1) f__law_cell = runF 6 (m__law_cell (sem k)) := rfl
theorem e__law_some (k : Nat) : sem (k + 1) f__law_some = runF 10 (m__law_some (sem k)) := rfl
theorem e__law_ahead (k : Nat) : sem (k + 1) f__law_ahead = runF 4 (m__law_ahead (sem k)) := rfl
theorem e__law_framed (k : Nat) : sem (k + 1) f__law_framed = runF 4 (m__law_framed (sem k)) := rfl
theorem e__law_doubled_right (k : Nat) : sem (k + 1) f__law_doubled_right = runF 10 (m__law_doubled_right (sem k)) := rfl
theorem e_law (k : Nat) : sem (k + 1) f_law = runF 14 (m_law (sem k)) := rfl
/-- what the top has left -/
structure Top (w : World) (K : PySem.W.Frag) (mg : Str → Option Value) where
  a_parts : Addr
  d_parts : FuncData
  F_parts : Fun K "parts" "parts" s_parts a_parts d_parts
  b_parts : Binds K d_parts ["expression"] []
  m_parts : mg "parts" = some (.ref a_parts)
  a_functions : Addr
  d_functions : FuncData
  F_functions : Fun K "functions" "functions" s_functions a_functions d_functions
  b_functions : Binds K d_functions ["program"] []
  m_functions : mg "functions" = some (.ref a_functions)
  a_quiet_head : Addr
  d_quiet_head : FuncData
  F_quiet_head : Fun K "quiet_head" "quiet_head" s_quiet_head a_quiet_head d_quiet_head
  b_quiet_head : Binds K d_quiet_head ["expression", "known"] []
  m_quiet_head : mg "quiet_head" = some (.ref a_quiet_head)
  a_quiet_by : Addr
  d_quiet_by : FuncData
  F_quiet_by : Fun K "quiet_by" "quiet_by" s_quiet_by a_quiet_by d_quiet_by
  b_quiet_by : Binds K d_quiet_by ["expression", "known"] []
  m_quiet_by : mg "quiet_by" = some (.ref a_quiet_by)
  a_quiet_functions : Addr
  d_quiet_functions : FuncData
  F_quiet_functions : Fun K "quiet_functions" "quiet_functions" s_quiet_functions a_quiet_functions d_quiet_functions
  b_quiet_functions : Binds K d_quiet_functions ["program"] []
  m_quiet_functions : mg "quiet_functions" = some (.ref a_quiet_functions)
  a_is_quiet : Addr
  d_is_quiet : FuncData
  F_is_quiet : Fun K "is_quiet" "is_quiet" s_is_quiet a_is_quiet d_is_quiet
  b_is_quiet : Binds K d_is_quiet ["program", "expression"] []
  m_is_quiet : mg "is_quiet" = some (.ref a_is_quiet)
  a__law_cell : Addr
  d__law_cell : FuncData
  F__law_cell : Fun K "_law_cell" "_law_cell" s__law_cell a__law_cell d__law_cell
  b__law_cell : Binds K d__law_cell ["_law_cells", "_law_spot"] []
  m__law_cell : mg "_law_cell" = some (.ref a__law_cell)
  a__law_some : Addr
  d__law_some : FuncData
  F__law_some : Fun K "_law_some" "_law_some" s__law_some a__law_some d__law_some
  b__law_some : Binds K d__law_some ["_law_n"] []
  m__law_some : mg "_law_some" = some (.ref a__law_some)
  a__law_ahead : Addr
  d__law_ahead : FuncData
  F__law_ahead : Fun K "_law_ahead" "_law_ahead" s__law_ahead a__law_ahead d__law_ahead
  b__law_ahead : Binds K d__law_ahead [] []
  m__law_ahead : mg "_law_ahead" = some (.ref a__law_ahead)
  a__law_framed : Addr
  d__law_framed : FuncData
  F__law_framed : Fun K "_law_framed" "_law_framed" s__law_framed a__law_framed d__law_framed
  b__law_framed : Binds K d__law_framed ["_law_n", "_law_e"] []
  m__law_framed : mg "_law_framed" = some (.ref a__law_framed)
  a__law_doubled_right : Addr
  d__law_doubled_right : FuncData
  F__law_doubled_right : Fun K "_law_doubled_right" "_law_doubled_right" s__law_doubled_right a__law_doubled_right d__law_doubled_right
  b__law_doubled_right : Binds K d__law_doubled_right ["_law_n"] []
  m__law_doubled_right : mg "_law_doubled_right" = some (.ref a__law_doubled_right)
  a_law : Addr
  d_law : FuncData
  F_law : Fun K "law" "law" s_law a_law d_law
  b_law : Binds K d_law ["_law_script"] []
  m_law : mg "law" = some (.ref a_law)
  bb_law : ∀ (s : Shared) (v : Value), BindsTo s d_law ⟨[v], []⟩ [("_law_script", v)]
  z_list : mg "list" = none
  z_all : mg "all" = none
  z_len : mg "len" = none
  z_range : mg "range" = none
  z_tuple : mg "tuple" = none
  z_isinstance : mg "isinstance" = none
  z_bool : mg "bool" = none
  z_min : mg "min" = none
  q_SPOTS : Addr
  c_SPOTS : mg "SPOTS" = some (.ref q_SPOTS)
  t_SPOTS : TabOk K w q_SPOTS k_SPOTS
  c_MOST_ROUNDS : ∃ t, mg "MOST_ROUNDS" = some (.int 1000 t)
  q_LOUD : Addr
  c_LOUD : mg "LOUD" = some (.ref q_LOUD)
  r_LOUD : ∀ A G, Rep K A G (.ref q_LOUD) k_LOUD
  q_RISKY : Addr
  c_RISKY : mg "RISKY" = some (.ref q_RISKY)
  r_RISKY : ∀ A G, Rep K A G (.ref q_RISKY) k_RISKY
section
variable {P : Program} {w : World} {K : PySem.W.Frag} {mg : Str → Option Value} {base : Heap}
structure Oks (P : Program) (w : World) (base : Heap) (T : Top w K mg) (k : Nat) : Prop where
  i_parts : FnOk P w K mg base CX0 k T.a_parts T.d_parts ["expression"] (spD K W0 1 (sem k f_parts))
  i_functions : FnOk P w K mg base CX0 k T.a_functions T.d_functions ["program"] (spD K W0 1 (sem k f_functions))
  i_quiet_head : FnOk P w K mg base CX0 k T.a_quiet_head T.d_quiet_head ["expression", "known"] (spD K W0 2 (sem k f_quiet_head))
  i_quiet_by : FnOk P w K mg base CX0 k T.a_quiet_by T.d_quiet_by ["expression", "known"] (spD K W0 2 (sem k f_quiet_by))
  i_quiet_functions : FnOk P w K mg base CX0 k T.a_quiet_functions T.d_quiet_functions ["program"] (spD K W0 1 (sem k f_quiet_functions))
  i_is_quiet : FnOk P w K mg base CX0 k T.a_is_quiet T.d_is_quiet ["program", "expression"] (spD K W0 2 (sem k f_is_quiet))
  i__law_cell : FnOk P w K mg base CX0 k T.a__law_cell T.d__law_cell ["_law_cells", "_law_spot"] (spD K W0 2 (sem k f__law_cell))
  i__law_some : FnOk P w K mg base CX0 k T.a__law_some T.d__law_some ["_law_n"] (spD K W0 1 (sem k f__law_some))
  i__law_ahead : FnOk P w K mg base CX0 k T.a__law_ahead T.d__law_ahead [] (spD K W0 0 (sem k f__law_ahead))
  i__law_framed : FnOk P w K mg base CX0 k T.a__law_framed T.d__law_framed ["_law_n", "_law_e"] (spD K W0 2 (sem k f__law_framed))
  i__law_doubled_right : FnOk P w K mg base CX0 k T.a__law_doubled_right T.d__law_doubled_right ["_law_n"] (spD K W0 1 (sem k f__law_doubled_right))
  i_law : FnOk P w K mg base CX0 k T.a_law T.d_law ["_law_script"] (spD K W0 1 (sem k f_law))
theorem ok_parts (T : Top w K mg) {k : Nat} (ih : Oks P w base T k) : FnOk P w K mg base CX0 (k + 1) T.a_parts T.d_parts ["expression"] (spD K W0 1 (sem (k + 1) f_parts)) := by
  rw [e_parts]
  refine fn_ok (N := ["expression", "spot"]) (ps := ["expression"]) (g := m_parts (sem k)) T.F_parts sc_parts (fun cdv A outer s H EX hr => ?_)
  exact (s_seq (pss_cons (s_if (ps_if (x_test2 (pt_cmpR (op_eqW (un_of hr)) (c_EB (x_ix (pe_ix ix_seq (x_varB (pv 0)) (c_FB (x_c pe_int fun _ _ => .int _)) (fun _ _ => rfl)))) (c_FB (x_c pe_str fun _ _ => .str _)) rfl) p_eq) (s_seq (pss_cons (s_ret (ps_ret (x_prim (pe_callTy call_list_of (by rfl) T.z_list bt_list (xr_cons (pa_cons (c_EB (x_ix (pe_ix ix_seq (x_varB (pv 0)) (c_FB (x_c pe_int fun _ _ => .int _)) (fun _ _ => rfl)))) (xr_nil pa_nil)))) p_list))) (s_nil pss_nil))) (s_nil pss_nil))) (s_seq (pss_cons (s_ret (ps_ret (x_lc (by decide) (pe_lc (own := [("spot", 1)]) rfl sc_parts.nd (x_it (PI.or (pi_list (x_tab T.t_SPOTS rfl (pe_ix ix_kdict (pe_glob (v := .ref T.q_SPOTS) (by rfl) T.c_SPOTS rfl) (c_EB (x_ix (pe_ix ix_seq (x_varB (pv 0)) (c_FB (x_c pe_int fun _ _ => .int _)) (fun _ _ => rfl)))) (fun _ _ => rfl)))) (PI.or (pi_tup (x_tab T.t_SPOTS rfl (pe_ix ix_kdict (pe_glob (v := .ref T.q_SPOTS) (by rfl) T.c_SPOTS rfl) (c_EB (x_ix (pe_ix ix_seq (x_varB (pv 0)) (c_FB (x_c pe_int fun _ _ => .int _)) (fun _ _ => rfl)))) (fun _ _ => rfl)))) (pi_str (x_tab T.t_SPOTS rfl (pe_ix ix_kdict (pe_glob (v := .ref T.q_SPOTS) (by rfl) T.c_SPOTS rfl) (c_EB (x_ix (pe_ix ix_seq (x_varB (pv 0)) (c_FB (x_c pe_int fun _ _ => .int _)) (fun _ _ => rfl)))) (fun _ _ => rfl))))))) (blkOk_by (N := ["expression", "spot"]) (sc := defScope s_parts) (by decide +kernel)) (fun _ _ _ _ _ => (x_gname (pg_name (i := 1) sc_parts.nd rfl (by first | exact Or.inl rfl | exact Or.inr rfl)))) (fun _ _ _ _ _ => x_yes) (fun _ _ _ _ _ => (c_EF (x_ix (pe_ix ix_seq (x_varB (pv 0)) (x_varB (pv 1)) (fun _ _ => rfl))))))))) (s_nil pss_nil)))))
theorem ok_functions (T : Top w K mg) {k : Nat} (ih : Oks P w base T k) : FnOk P w K mg base CX0 (k + 1) T.a_functions T.d_functions ["program"] (spD K W0 1 (sem (k + 1) f_functions)) := by
  rw [e_functions]
  refine fn_ok (N := ["program", "found", "m", "rows", "row"]) (ps := ["program"]) (g := m_functions (sem k)) T.F_functions sc_functions (fun cdv A outer s H EX hr => ?_)
  exact (s_seq (pss_cons (s_set (ps_set (i := 1) sc_functions.nd rfl (by first | exact Or.inl rfl | exact Or.inr rfl) (x_lst (pe_lst (xa_nil pa_nil))))) (s_seq (pss_cons (s_for (ps_for PassesOwn.never rfl (x_it (PI.or (pi_list (x_var (pv 0))) (PI.or (pi_tup (x_var (pv 0))) (pi_str (x_var (pv 0)))))) (x_gtup (is := [2, 3]) rfl (pg_tup rfl (pgs_cons (pg_name (i := 2) sc_functions.nd rfl (by first | exact Or.inl rfl | exact Or.inr rfl)) (pgs_cons (pg_name (i := 3) sc_functions.nd rfl (by first | exact Or.inl rfl | exact Or.inr rfl)) pgs_nil)))) (s_seq (pss_cons (s_ext (ps_expr (pe_bm PySem.F.plainAttrs_list PySem.F.slot_list_extend PySem.F.type_list_extend mt_extend (pv 1) (pa_cons (c_EF (x_lc (by decide) (pe_lc (own := [("row", 4)]) rfl sc_functions.nd (x_it (PI.or (pi_list (x_var (pv 3))) (PI.or (pi_tup (x_var (pv 3))) (pi_str (x_var (pv 3)))))) (blkOk_by (N := ["program", "found", "m", "rows", "row"]) (sc := defScope s_functions) (by decide +kernel)) (fun _ _ _ _ _ => (x_gname (pg_name (i := 4) sc_functions.nd rfl (by first | exact Or.inl rfl | exact Or.inr rfl)))) (fun _ _ _ _ _ => x_yes) (fun _ _ _ _ _ => (c_EF (x_op2 (pe_op op_addA (c_FB (x_tup (pe_tup (xa_cons (pa_cons (x_var (pv 2)) (xa_nil pa_nil)))))) (x_varB (pv 4))) p_add)))))) pa_nil)))) (s_nil pss_nil))))) (s_seq (pss_cons (s_retV (ps_ret (pv 1))) (s_nil pss_nil)))))))
theorem ok_quiet_head (T : Top w K mg) {k : Nat} (ih : Oks P w base T k) : FnOk P w K mg base CX0 (k + 1) T.a_quiet_head T.d_quiet_head ["expression", "known"] (spD K W0 2 (sem (k + 1) f_quiet_head)) := by
  rw [e_quiet_head]
  refine fn_ok (N := ["expression", "known", "word"]) (ps := ["expression", "known"]) (g := m_quiet_head (sem k)) T.F_quiet_head sc_quiet_head (fun cdv A outer s H EX hr => ?_)
  exact (s_seq (pss_cons (s_set (ps_set (i := 2) sc_quiet_head.nd rfl (by first | exact Or.inl rfl | exact Or.inr rfl) (c_FE (c_EF (x_ix (pe_ix ix_seq (x_varB (pv 0)) (c_FB (x_c pe_int fun _ _ => .int _)) (fun _ _ => rfl))))))) (s_seq (pss_cons (s_if (ps_if (PW.pt (x_or (pw_or (x_test2 (pt_cmpR op_inA (x_varB (pv 2)) (c_FB (x_c (pe_glob (v := .ref T.q_LOUD) (by rfl) T.c_LOUD rfl) T.r_LOUD)) rfl) p_in) (pw_or1 (PW.pt (x_and (pw_and (x_test2 (pt_cmpR (op_eqW (un_of hr)) (x_varB (pv 2)) (c_FB (x_c pe_str fun _ _ => .str _)) rfl) p_eq) (pw_and1 (x_test2 (pt_cmpR op_inA (c_EB (x_ix (pe_ix ix_seq (x_varB (pv 0)) (c_FB (x_c pe_int fun _ _ => .int _)) (fun _ _ => rfl)))) (c_FB (x_c (pe_glob (v := .ref T.q_RISKY) (by rfl) T.c_RISKY rfl) T.r_RISKY)) rfl) p_in))))))))) (s_seq (pss_cons (s_ret (ps_ret (c_FE (x_c pe_bl fun _ _ => .bl _)))) (s_nil pss_nil))) (s_nil pss_nil))) (s_seq (pss_cons (s_if (ps_if (x_test2 (pt_cmpR (op_eqW (un_of hr)) (x_varB (pv 2)) (c_FB (x_c pe_str fun _ _ => .str _)) rfl) p_eq) (s_seq (pss_cons (s_ret (ps_ret (x_dget (pe_dget (hu_of hr) (x_varB (pv 1)) (c_EB (x_sl (pe_slice sl_A3 (x_varB (pv 0)) (x_so (c_FB (x_c pe_int fun _ _ => .int _))) (x_so (c_FB (x_c pe_int fun _ _ => .int _)))) p_sl)) (fun _ _ => rfl))))) (s_nil pss_nil))) (s_nil pss_nil))) (s_seq (pss_cons (s_if (ps_if (x_test2 (pt_cmpR (op_eqW (un_of hr)) (x_varB (pv 2)) (c_FB (x_c pe_str fun _ _ => .str _)) rfl) p_eq) (s_seq (pss_cons (s_ret (ps_ret (x_andV (pe_and (x_op2 (pe_cmpR (op_eqW (un_of hr)) (c_EB (x_ix (pe_ix ix_seq (c_EB (x_ix (pe_ix ix_seq (x_varB (pv 0)) (c_FB (x_c pe_int fun _ _ => .int _)) (fun _ _ => rfl)))) (c_FB (x_c pe_int fun _ _ => .int _)) (fun _ _ => rfl)))) (c_FB (x_c pe_str fun _ _ => .str _)) rfl) p_eq) (pe_one (x_chain (pe_chain op_le op_le (c_FB (x_c pe_int fun _ _ => .int _)) (c_EB (x_ix (pe_ix ix_seq (c_EB (x_ix (pe_ix ix_seq (x_varB (pv 0)) (c_FB (x_c pe_int fun _ _ => .int _)) (fun _ _ => rfl)))) (c_FB (x_c pe_int fun _ _ => .int _)) (fun _ _ => rfl)))) (c_FB (x_c (pe_glob (v := .int 1000) (by rfl) T.c_MOST_ROUNDS.choose_spec ⟨_, rfl⟩) fun _ _ => .int _))) (p_cmp fun i j => decide (i ≤ j)) (p_cmp fun i j => decide (i ≤ j)))))))) (s_nil pss_nil))) (s_nil pss_nil))) (s_seq (pss_cons (s_ret (ps_ret (c_FE (x_c pe_bl fun _ _ => .bl _)))) (s_nil pss_nil)))))))))))
theorem ok_quiet_by (T : Top w K mg) {k : Nat} (ih : Oks P w base T k) : FnOk P w K mg base CX0 (k + 1) T.a_quiet_by T.d_quiet_by ["expression", "known"] (spD K W0 2 (sem (k + 1) f_quiet_by)) := by
  rw [e_quiet_by]
  refine fn_ok (N := ["expression", "known", "part"]) (ps := ["expression", "known"]) (g := m_quiet_by (sem k)) T.F_quiet_by sc_quiet_by (fun cdv A outer s H EX hr => ?_)
  exact (s_seq (pss_cons (s_if (ps_if (x_not (pt_not (x_truth (pt_truth (c_EB (x_call rfl (pe_call ih.i_quiet_head hr (by rfl) T.m_quiet_head T.F_quiet_head.kp T.b_quiet_head .nil pass0 (xa_cons (pa_cons (x_var (pv 0)) (xa_cons (pa_cons (x_var (pv 1)) (xa_nil pa_nil)))))))) (fun _ => rfl))))) (s_seq (pss_cons (s_ret (ps_ret (c_FE (x_c pe_bl fun _ _ => .bl _)))) (s_nil pss_nil))) (s_nil pss_nil))) (s_seq (pss_cons (s_ret (ps_ret (x_prim (pe_callB (cr_all rfl) (by rfl) T.z_all bt_all (xr_cons (pa_cons (c_EB (x_lc (by decide) (pe_lc (own := [("part", 2)]) rfl sc_quiet_by.nd (x_it (PI.or (pi_list (c_EF (x_call rfl (pe_call ih.i_parts hr (by rfl) T.m_parts T.F_parts.kp T.b_parts .nil pass0 (xa_cons (pa_cons (x_var (pv 0)) (xa_nil pa_nil))))))) (PI.or (pi_tup (c_EF (x_call rfl (pe_call ih.i_parts hr (by rfl) T.m_parts T.F_parts.kp T.b_parts .nil pass0 (xa_cons (pa_cons (x_var (pv 0)) (xa_nil pa_nil))))))) (pi_str (c_EF (x_call rfl (pe_call ih.i_parts hr (by rfl) T.m_parts T.F_parts.kp T.b_parts .nil pass0 (xa_cons (pa_cons (x_var (pv 0)) (xa_nil pa_nil)))))))))) (blkOk_by (N := ["expression", "known", "part"]) (sc := defScope s_quiet_by) (by decide +kernel)) (fun _ _ _ _ _ => (x_gname (pg_name (i := 2) sc_quiet_by.nd rfl (by first | exact Or.inl rfl | exact Or.inr rfl)))) (fun _ _ _ _ _ => x_yes) (fun _ _ _ _ _ => (c_EF (x_call rfl (pe_call ih.i_quiet_by hr (by rfl) T.m_quiet_by T.F_quiet_by.kp T.b_quiet_by .nil pass0 (xa_cons (pa_cons (x_var (pv 2)) (xa_cons (pa_cons (x_var (pv 1)) (xa_nil pa_nil)))))))))))) (xr_nil pa_nil)))) p_all))) (s_nil pss_nil)))))
theorem ok_quiet_functions (T : Top w K mg) {k : Nat} (ih : Oks P w base T k) : FnOk P w K mg base CX0 (k + 1) T.a_quiet_functions T.d_quiet_functions ["program"] (spD K W0 1 (sem (k + 1) f_quiet_functions)) := by
  rw [e_quiet_functions]
  refine fn_ok (N := ["program", "known", "m", "f", "params", "body"]) (ps := ["program"]) (g := m_quiet_functions (sem k)) T.F_quiet_functions sc_quiet_functions (fun cdv A outer s H EX hr => ?_)
  exact (s_seq (pss_cons (s_set (ps_set (i := 1) sc_quiet_functions.nd rfl (by first | exact Or.inl rfl | exact Or.inr rfl) (c_FE (x_dnewT pe_dnewT)))) (s_seq (pss_cons (s_for (ps_for PassesOwn.never rfl (x_it (PI.or (pi_list (c_EF (x_call rfl (pe_call ih.i_functions hr (by rfl) T.m_functions T.F_functions.kp T.b_functions .nil pass0 (xa_cons (pa_cons (x_var (pv 0)) (xa_nil pa_nil))))))) (PI.or (pi_tup (c_EF (x_call rfl (pe_call ih.i_functions hr (by rfl) T.m_functions T.F_functions.kp T.b_functions .nil pass0 (xa_cons (pa_cons (x_var (pv 0)) (xa_nil pa_nil))))))) (pi_str (c_EF (x_call rfl (pe_call ih.i_functions hr (by rfl) T.m_functions T.F_functions.kp T.b_functions .nil pass0 (xa_cons (pa_cons (x_var (pv 0)) (xa_nil pa_nil)))))))))) (x_gtup (is := [2, 3, 4, 5]) rfl (pg_tup rfl (pgs_cons (pg_name (i := 2) sc_quiet_functions.nd rfl (by first | exact Or.inl rfl | exact Or.inr rfl)) (pgs_cons (pg_name (i := 3) sc_quiet_functions.nd rfl (by first | exact Or.inl rfl | exact Or.inr rfl)) (pgs_cons (pg_name (i := 4) sc_quiet_functions.nd rfl (by first | exact Or.inl rfl | exact Or.inr rfl)) (pgs_cons (pg_name (i := 5) sc_quiet_functions.nd rfl (by first | exact Or.inl rfl | exact Or.inr rfl)) pgs_nil)))))) (s_seq (pss_cons (s_putD (ps_dput (hu_of hr) (x_varB (pv 1)) (c_FB (x_tup (pe_tup (xa_cons (pa_cons (x_var (pv 2)) (xa_cons (pa_cons (x_var (pv 3)) (xa_nil pa_nil)))))))) (c_EF (x_call rfl (pe_call ih.i_quiet_by hr (by rfl) T.m_quiet_by T.F_quiet_by.kp T.b_quiet_by .nil pass0 (xa_cons (pa_cons (x_var (pv 5)) (xa_cons (pa_cons (x_var (pv 1)) (xa_nil pa_nil)))))))) rfl)) (s_nil pss_nil))))) (s_seq (pss_cons (s_retV (ps_ret (pv 1))) (s_nil pss_nil)))))))
theorem ok_is_quiet (T : Top w K mg) {k : Nat} (ih : Oks P w base T k) : FnOk P w K mg base CX0 (k + 1) T.a_is_quiet T.d_is_quiet ["program", "expression"] (spD K W0 2 (sem (k + 1) f_is_quiet)) := by
  rw [e_is_quiet]
  refine fn_ok (N := ["program", "expression"]) (ps := ["program", "expression"]) (g := m_is_quiet (sem k)) T.F_is_quiet sc_is_quiet (fun cdv A outer s H EX hr => ?_)
  exact (s_seq (pss_cons (s_ret (ps_ret (x_call rfl (pe_call ih.i_quiet_by hr (by rfl) T.m_quiet_by T.F_quiet_by.kp T.b_quiet_by .nil pass0 (xa_cons (pa_cons (x_var (pv 1)) (xa_cons (pa_cons (c_EF (x_call rfl (pe_call ih.i_quiet_functions hr (by rfl) T.m_quiet_functions T.F_quiet_functions.kp T.b_quiet_functions .nil pass0 (xa_cons (pa_cons (x_var (pv 0)) (xa_nil pa_nil)))))) (xa_nil pa_nil))))))))) (s_nil pss_nil)))
theorem ok__law_cell (T : Top w K mg) {k : Nat} (ih : Oks P w base T k) : FnOk P w K mg base CX0 (k + 1) T.a__law_cell T.d__law_cell ["_law_cells", "_law_spot"] (spD K W0 2 (sem (k + 1) f__law_cell)) := by
  rw [e__law_cell]
  refine fn_ok (N := ["_law_cells", "_law_spot", "_law_k", "_law_base", "_law_own", "_law_turn"]) (ps := ["_law_cells", "_law_spot"]) (g := m__law_cell (sem k)) T.F__law_cell sc__law_cell (fun cdv A outer s H EX hr => ?_)
  exact (s_seq (pss_cons (s_putR (ps_asg (c_EF (x_op2 (pe_op op_addA (c_EB (x_ix (pe_ix ix_seq (x_varB (pv 1)) (c_FB (x_c pe_int fun _ _ => .int _)) (fun _ _ => rfl)))) (c_FB (x_c pe_int fun _ _ => .int _))) p_add)) (pg_sub (x_varB (pv 1)) (c_FB (x_c pe_int fun _ _ => .int _)) set_list))) (s_seq (pss_cons (s_set (ps_set (i := 2) sc__law_cell.nd rfl (by first | exact Or.inl rfl | exact Or.inr rfl) (c_FE (c_EF (x_ix (pe_ix ix_seq (x_varB (pv 1)) (c_FB (x_c pe_int fun _ _ => .int _)) (fun _ _ => rfl))))))) (s_seq (pss_cons (s_set (ps_set (i := 3) sc__law_cell.nd rfl (by first | exact Or.inl rfl | exact Or.inr rfl) (c_FE (c_EF (x_op2 (pe_op op_addA (c_EB (x_op2 (pe_op op_mulA (c_EB (x_op2 (pe_op op_mulA (c_FB (x_c pe_int fun _ _ => .int _)) (x_varB (pv 2))) p_mul)) (x_varB (pv 2))) p_mul)) (c_EB (x_op2 (pe_op op_mulA (c_FB (x_c pe_int fun _ _ => .int _)) (x_varB (pv 2))) p_mul))) p_add))))) (s_seq (pss_cons (s_if (ps_if (PW.pt (x_and (pw_and (x_test2 (pt_cmpR op_gt (c_EB (x_prim (pe_callB call_lenA (by rfl) T.z_len bt_len (xr_cons (pa_cons (x_varB (pv 0)) (xr_nil pa_nil)))) p_len)) (c_FB (x_c pe_int fun _ _ => .int _)) rfl) (p_cmp fun i j => decide (j < i))) (x_and (pw_and (x_test2 (pt_cmpR op_ge (c_EB (x_ix (pe_ix ix_seq (x_varB (pv 0)) (c_EB (x_op2 (pe_op op_modA (x_varB (pv 2)) (c_EB (x_prim (pe_callB call_lenA (by rfl) T.z_len bt_len (xr_cons (pa_cons (x_varB (pv 0)) (xr_nil pa_nil)))) p_len))) p_mod)) (fun _ _ => rfl)))) (c_EB (x_op2 (pe_op op_pow (c_FB (x_c pe_int fun _ _ => .int _)) (c_FB (x_c pe_int fun _ _ => .int _))) p_pow)) rfl) (p_cmp fun i j => decide (j ≤ i))) (pw_and1 (x_test2 (pt_cmpR op_lt (c_EB (x_op2 (pe_op op_fdivA (x_varB (pv 2)) (c_EB (x_prim (pe_callB call_lenA (by rfl) T.z_len bt_len (xr_cons (pa_cons (x_varB (pv 0)) (xr_nil pa_nil)))) p_len))) p_fdiv)) (c_FB (x_c pe_int fun _ _ => .int _)) rfl) (p_cmp fun i j => decide (i < j))))))))) (s_seq (pss_cons (s_set (ps_set (i := 4) sc__law_cell.nd rfl (by first | exact Or.inl rfl | exact Or.inr rfl) (c_FE (c_EF (x_ix (pe_ix ix_seq (x_varB (pv 0)) (c_EB (x_op2 (pe_op op_modA (x_varB (pv 2)) (c_EB (x_prim (pe_callB call_lenA (by rfl) T.z_len bt_len (xr_cons (pa_cons (x_varB (pv 0)) (xr_nil pa_nil)))) p_len))) p_mod)) (fun _ _ => rfl))))))) (s_seq (pss_cons (s_for (ps_for PassesOwn.never rfl (x_rng1 (pi_range1 (by rfl) T.z_range (xr_cons (pa_cons (c_EB (x_op2 (pe_op op_fdivA (x_varB (pv 2)) (c_EB (x_prim (pe_callB call_lenA (by rfl) T.z_len bt_len (xr_cons (pa_cons (x_varB (pv 0)) (xr_nil pa_nil)))) p_len))) p_fdiv)) (xr_nil pa_nil))))) (x_gname (pg_name (i := 5) sc__law_cell.nd rfl (by first | exact Or.inl rfl | exact Or.inr rfl))) (s_seq (pss_cons (s_set (ps_set (i := 4) sc__law_cell.nd rfl (by first | exact Or.inl rfl | exact Or.inr rfl) (c_FE (c_EF (x_op2 (pe_op op_fdivA (x_varB (pv 4)) (c_FB (x_c pe_int fun _ _ => .int _))) p_fdiv))))) (s_nil pss_nil))))) (s_seq (pss_cons (s_if (ps_if (x_test2 (pt_cmpR op_gt (x_varB (pv 4)) (c_FB (x_c pe_int fun _ _ => .int _)) rfl) (p_cmp fun i j => decide (j < i))) (s_seq (pss_cons (s_ret (ps_ret (x_op2 (pe_op op_modA (x_varB (pv 4)) (c_FB (x_c pe_int fun _ _ => .int _))) p_mod))) (s_nil pss_nil))) (s_nil pss_nil))) (s_nil pss_nil))))))) (s_nil pss_nil))) (s_seq (pss_cons (s_if (ps_if (x_test2 (pt_cmpR op_gt (c_EB (x_prim (pe_callB call_lenA (by rfl) T.z_len bt_len (xr_cons (pa_cons (x_varB (pv 0)) (xr_nil pa_nil)))) p_len)) (c_FB (x_c pe_int fun _ _ => .int _)) rfl) (p_cmp fun i j => decide (j < i))) (s_seq (pss_cons (s_set (ps_set (i := 3) sc__law_cell.nd rfl (by first | exact Or.inl rfl | exact Or.inr rfl) (c_FE (c_EF (x_op2 (pe_op op_addA (x_varB (pv 3)) (c_EB (x_op2 (pe_op op_mulA (c_EB (x_op2 (pe_op op_modA (c_EB (x_ix (pe_ix ix_seq (x_varB (pv 0)) (c_EB (x_op2 (pe_op op_modA (x_varB (pv 2)) (c_EB (x_prim (pe_callB call_lenA (by rfl) T.z_len bt_len (xr_cons (pa_cons (x_varB (pv 0)) (xr_nil pa_nil)))) p_len))) p_mod)) (fun _ _ => rfl)))) (c_FB (x_c pe_int fun _ _ => .int _))) p_mod)) (c_EB (x_op2 (pe_op op_addA (c_FB (x_c pe_int fun _ _ => .int _)) (c_EB (x_op2 (pe_op op_fdivA (x_varB (pv 2)) (c_EB (x_prim (pe_callB call_lenA (by rfl) T.z_len bt_len (xr_cons (pa_cons (x_varB (pv 0)) (xr_nil pa_nil)))) p_len))) p_fdiv))) p_add))) p_mul))) p_add))))) (s_nil pss_nil))) (s_nil pss_nil))) (s_seq (pss_cons (s_ret (ps_ret (x_op2 (pe_op op_fdivA (c_EB (x_op2 (pe_op op_modA (c_EB (x_op2 (pe_op op_mulA (c_EB (x_op2 (pe_op op_modA (c_EB (x_op2 (pe_op op_mulA (x_varB (pv 3)) (c_FB (x_c pe_int fun _ _ => .int _))) p_mul)) (c_FB (x_c pe_int fun _ _ => .int _))) p_mod)) (c_FB (x_c pe_int fun _ _ => .int _))) p_mul)) (c_FB (x_c pe_int fun _ _ => .int _))) p_mod)) (c_FB (x_c pe_int fun _ _ => .int _))) p_fdiv))) (s_nil pss_nil)))))))))))))
theorem ok__law_some (T : Top w K mg) {k : Nat} (ih : Oks P w base T k) : FnOk P w K mg base CX0 (k + 1) T.a__law_some T.d__law_some ["_law_n"] (spD K W0 1 (sem (k + 1) f__law_some)) := by
  rw [e__law_some]
  refine fn_ok (N := ["_law_n", "_law_quiet", "_law_loud", "_law_pairs", "_law_one", "_law_x", "_law_many", "_law_f", "_law_e", "_law_sign"]) (ps := ["_law_n"]) (g := m__law_some (sem k)) T.F__law_some sc__law_some (fun cdv A outer s H EX hr => ?_)
  exact (s_seq (pss_cons (s_asg (ps_asg (x_tup (pe_tup (xa_cons (pa_cons (x_tup (pe_tup (xa_cons (pa_cons (x_c pe_str fun _ _ => .str _) (xa_cons (pa_cons (c_EF (x_op2 (pe_op op_sub (c_EB (x_op2 (pe_op op_modA (c_EB (x_op2 (pe_op op_fdivA (x_varB (pv 0)) (c_FB (x_c pe_int fun _ _ => .int _))) p_fdiv)) (c_FB (x_c pe_int fun _ _ => .int _))) p_mod)) (c_FB (x_c pe_int fun _ _ => .int _))) p_sub)) (xa_nil pa_nil))))))) (xa_cons (pa_cons (x_tup (pe_tup (xa_cons (pa_cons (x_c pe_str fun _ _ => .str _) (xa_cons (pa_cons (x_c pe_str fun _ _ => .str _) (xa_nil pa_nil))))))) (xa_nil pa_nil))))))) (x_gtup (is := [4, 5]) rfl (pg_tup rfl (pgs_cons (pg_name (i := 4) sc__law_some.nd rfl (by first | exact Or.inl rfl | exact Or.inr rfl)) (pgs_cons (pg_name (i := 5) sc__law_some.nd rfl (by first | exact Or.inl rfl | exact Or.inr rfl)) pgs_nil)))))) (s_seq (pss_cons (s_set (ps_set (i := 1) sc__law_some.nd rfl (by first | exact Or.inl rfl | exact Or.inr rfl) (c_FE (c_EF (x_op2 (pe_op op_addA (c_EB (x_op2 (pe_op op_addA (c_EB (x_lst (pe_lst (xa_cons (pa_cons (x_var (pv 4)) (xa_cons (pa_cons (x_var (pv 5)) (xa_nil pa_nil)))))))) (c_EB (x_lc (by decide) (pe_lc (own := [("_law_sign", 9)]) rfl sc__law_some.nd (x_it (PI.or (pi_list (x_c pe_str fun _ _ => .str _)) (PI.or (pi_tup (x_c pe_str fun _ _ => .str _)) (pi_str (x_c pe_str fun _ _ => .str _))))) (blkOk_by (N := ["_law_n", "_law_quiet", "_law_loud", "_law_pairs", "_law_one", "_law_x", "_law_many", "_law_f", "_law_e", "_law_sign"]) (sc := defScope s__law_some) (by decide +kernel)) (fun _ _ _ _ _ => (x_gname (pg_name (i := 9) sc__law_some.nd rfl (by first | exact Or.inl rfl | exact Or.inr rfl)))) (fun _ _ _ _ _ => x_yes) (fun _ _ _ _ _ => (x_tup (pe_tup (xa_cons (pa_cons (x_c pe_str fun _ _ => .str _) (xa_cons (pa_cons (x_var (pv 9)) (xa_cons (pa_cons (x_var (pv 4)) (xa_cons (pa_cons (x_var (pv 5)) (xa_nil pa_nil)))))))))))))))) p_add)) (c_EB (x_lst (pe_lst (xa_cons (pa_cons (x_tup (pe_tup (xa_cons (pa_cons (x_c pe_str fun _ _ => .str _) (xa_cons (pa_cons (x_c pe_str fun _ _ => .str _) (xa_cons (pa_cons (x_var (pv 4)) (xa_cons (pa_cons (x_var (pv 5)) (xa_nil pa_nil))))))))))) (xa_cons (pa_cons (x_tup (pe_tup (xa_cons (pa_cons (x_c pe_str fun _ _ => .str _) (xa_cons (pa_cons (x_var (pv 4)) (xa_cons (pa_cons (x_var (pv 5)) (xa_cons (pa_cons (x_var (pv 4)) (xa_nil pa_nil))))))))))) (xa_nil pa_nil))))))))) p_add))))) (s_seq (pss_cons (s_set (ps_set (i := 1) sc__law_some.nd rfl (by first | exact Or.inl rfl | exact Or.inr rfl) (c_FE (c_EF (x_op2 (pe_op op_addA (x_varB (pv 1)) (c_EB (x_lc (by decide) (pe_lc (own := [("_law_many", 6)]) rfl sc__law_some.nd (x_it (PI.or (pi_list (x_tup (pe_tup (xa_cons (pa_cons (x_c pe_int fun _ _ => .int _) (xa_cons (pa_cons (x_c pe_int fun _ _ => .int _) (xa_cons (pa_cons (x_c pe_int fun _ _ => .int _) (xa_nil pa_nil)))))))))) (PI.or (pi_tup (x_tup (pe_tup (xa_cons (pa_cons (x_c pe_int fun _ _ => .int _) (xa_cons (pa_cons (x_c pe_int fun _ _ => .int _) (xa_cons (pa_cons (x_c pe_int fun _ _ => .int _) (xa_nil pa_nil)))))))))) (pi_str (x_tup (pe_tup (xa_cons (pa_cons (x_c pe_int fun _ _ => .int _) (xa_cons (pa_cons (x_c pe_int fun _ _ => .int _) (xa_cons (pa_cons (x_c pe_int fun _ _ => .int _) (xa_nil pa_nil))))))))))))) (blkOk_by (N := ["_law_n", "_law_quiet", "_law_loud", "_law_pairs", "_law_one", "_law_x", "_law_many", "_law_f", "_law_e", "_law_sign"]) (sc := defScope s__law_some) (by decide +kernel)) (fun _ _ _ _ _ => (x_gname (pg_name (i := 6) sc__law_some.nd rfl (by first | exact Or.inl rfl | exact Or.inr rfl)))) (fun _ _ _ _ _ => x_yes) (fun _ _ _ _ _ => (x_tup (pe_tup (xa_cons (pa_cons (x_c pe_str fun _ _ => .str _) (xa_cons (pa_cons (x_tup (pe_tup (xa_cons (pa_cons (x_c pe_str fun _ _ => .str _) (xa_cons (pa_cons (x_var (pv 6)) (xa_nil pa_nil))))))) (xa_cons (pa_cons (x_c pe_str fun _ _ => .str _) (xa_cons (pa_cons (x_c pe_str fun _ _ => .str _) (xa_cons (pa_cons (x_var (pv 4)) (xa_cons (pa_cons (x_var (pv 5)) (xa_nil pa_nil)))))))))))))))))))) p_add))))) (s_seq (pss_cons (s_set (ps_set (i := 1) sc__law_some.nd rfl (by first | exact Or.inl rfl | exact Or.inr rfl) (c_FE (c_EF (x_op2 (pe_op op_addA (x_varB (pv 1)) (c_EB (x_lst (pe_lst (xa_cons (pa_cons (x_tup (pe_tup (xa_cons (pa_cons (x_c pe_str fun _ _ => .str _) (xa_cons (pa_cons (x_c pe_str fun _ _ => .str _) (xa_cons (pa_cons (x_c pe_str fun _ _ => .str _) (xa_cons (pa_cons (x_tup (pe_tup (xa_cons (pa_cons (x_var (pv 4)) (xa_nil pa_nil))))) (xa_nil pa_nil))))))))))) (xa_cons (pa_cons (x_tup (pe_tup (xa_cons (pa_cons (x_c pe_str fun _ _ => .str _) (xa_cons (pa_cons (x_c pe_str fun _ _ => .str _) (xa_cons (pa_cons (x_c pe_str fun _ _ => .str _) (xa_cons (pa_cons (x_tup (pe_tup (xa_cons (pa_cons (x_var (pv 5)) (xa_nil pa_nil))))) (xa_nil pa_nil))))))))))) (xa_nil pa_nil))))))))) p_add))))) (s_seq (pss_cons (s_set (ps_set (i := 2) sc__law_some.nd rfl (by first | exact Or.inl rfl | exact Or.inr rfl) (x_lst (pe_lst (xa_cons (pa_cons (x_tup (pe_tup (xa_cons (pa_cons (x_c pe_str fun _ _ => .str _) (xa_cons (pa_cons (x_c pe_str fun _ _ => .str _) (xa_cons (pa_cons (x_var (pv 4)) (xa_cons (pa_cons (x_tup (pe_tup (xa_cons (pa_cons (x_c pe_str fun _ _ => .str _) (xa_cons (pa_cons (x_c pe_int fun _ _ => .int _) (xa_nil pa_nil))))))) (xa_nil pa_nil))))))))))) (xa_cons (pa_cons (x_tup (pe_tup (xa_cons (pa_cons (x_c pe_str fun _ _ => .str _) (xa_cons (pa_cons (x_c pe_str fun _ _ => .str _) (xa_cons (pa_cons (x_var (pv 5)) (xa_cons (pa_cons (x_tup (pe_tup (xa_cons (pa_cons (x_c pe_str fun _ _ => .str _) (xa_cons (pa_cons (x_c pe_int fun _ _ => .int _) (xa_nil pa_nil))))))) (xa_nil pa_nil))))))))))) (xa_cons (pa_cons (x_tup (pe_tup (xa_cons (pa_cons (x_c pe_str fun _ _ => .str _) (xa_cons (pa_cons (x_var (pv 4)) (xa_cons (pa_cons (x_var (pv 5)) (xa_nil pa_nil))))))))) (xa_cons (pa_cons (x_tup (pe_tup (xa_cons (pa_cons (x_c pe_str fun _ _ => .str _) (xa_cons (pa_cons (x_var (pv 5)) (xa_nil pa_nil))))))) (xa_nil pa_nil))))))))))))) (s_seq (pss_cons (s_set (ps_set (i := 2) sc__law_some.nd rfl (by first | exact Or.inl rfl | exact Or.inr rfl) (x_op2 (pe_op op_addA (x_varB (pv 2)) (c_EB (x_lc (by decide) (pe_lc (own := [("_law_many", 6)]) rfl sc__law_some.nd (x_it (PI.or (pi_list (x_tup (pe_tup (xa_cons (pa_cons (x_tup (pe_tup (xa_cons (pa_cons (x_c pe_str fun _ _ => .str _) (xa_cons (pa_cons (c_EF (x_op1 (pe_un un_neg (c_FB (x_c pe_int fun _ _ => .int _))) p_neg)) (xa_nil pa_nil))))))) (xa_cons (pa_cons (x_tup (pe_tup (xa_cons (pa_cons (x_c pe_str fun _ _ => .str _) (xa_cons (pa_cons (x_c pe_int fun _ _ => .int _) (xa_nil pa_nil))))))) (xa_cons (pa_cons (x_tup (pe_tup (xa_cons (pa_cons (x_c pe_str fun _ _ => .str _) (xa_cons (pa_cons (c_EF (x_op2 (pe_op op_pow (c_FB (x_c pe_int fun _ _ => .int _)) (c_FB (x_c pe_int fun _ _ => .int _))) p_pow)) (xa_nil pa_nil))))))) (xa_cons (pa_cons (x_var (pv 5)) (xa_nil pa_nil)))))))))))) (PI.or (pi_tup (x_tup (pe_tup (xa_cons (pa_cons (x_tup (pe_tup (xa_cons (pa_cons (x_c pe_str fun _ _ => .str _) (xa_cons (pa_cons (c_EF (x_op1 (pe_un un_neg (c_FB (x_c pe_int fun _ _ => .int _))) p_neg)) (xa_nil pa_nil))))))) (xa_cons (pa_cons (x_tup (pe_tup (xa_cons (pa_cons (x_c pe_str fun _ _ => .str _) (xa_cons (pa_cons (x_c pe_int fun _ _ => .int _) (xa_nil pa_nil))))))) (xa_cons (pa_cons (x_tup (pe_tup (xa_cons (pa_cons (x_c pe_str fun _ _ => .str _) (xa_cons (pa_cons (c_EF (x_op2 (pe_op op_pow (c_FB (x_c pe_int fun _ _ => .int _)) (c_FB (x_c pe_int fun _ _ => .int _))) p_pow)) (xa_nil pa_nil))))))) (xa_cons (pa_cons (x_var (pv 5)) (xa_nil pa_nil)))))))))))) (pi_str (x_tup (pe_tup (xa_cons (pa_cons (x_tup (pe_tup (xa_cons (pa_cons (x_c pe_str fun _ _ => .str _) (xa_cons (pa_cons (c_EF (x_op1 (pe_un un_neg (c_FB (x_c pe_int fun _ _ => .int _))) p_neg)) (xa_nil pa_nil))))))) (xa_cons (pa_cons (x_tup (pe_tup (xa_cons (pa_cons (x_c pe_str fun _ _ => .str _) (xa_cons (pa_cons (x_c pe_int fun _ _ => .int _) (xa_nil pa_nil))))))) (xa_cons (pa_cons (x_tup (pe_tup (xa_cons (pa_cons (x_c pe_str fun _ _ => .str _) (xa_cons (pa_cons (c_EF (x_op2 (pe_op op_pow (c_FB (x_c pe_int fun _ _ => .int _)) (c_FB (x_c pe_int fun _ _ => .int _))) p_pow)) (xa_nil pa_nil))))))) (xa_cons (pa_cons (x_var (pv 5)) (xa_nil pa_nil))))))))))))))) (blkOk_by (N := ["_law_n", "_law_quiet", "_law_loud", "_law_pairs", "_law_one", "_law_x", "_law_many", "_law_f", "_law_e", "_law_sign"]) (sc := defScope s__law_some) (by decide +kernel)) (fun _ _ _ _ _ => (x_gname (pg_name (i := 6) sc__law_some.nd rfl (by first | exact Or.inl rfl | exact Or.inr rfl)))) (fun _ _ _ _ _ => x_yes) (fun _ _ _ _ _ => (x_tup (pe_tup (xa_cons (pa_cons (x_c pe_str fun _ _ => .str _) (xa_cons (pa_cons (x_var (pv 6)) (xa_cons (pa_cons (x_c pe_str fun _ _ => .str _) (xa_cons (pa_cons (x_c pe_str fun _ _ => .str _) (xa_cons (pa_cons (x_var (pv 4)) (xa_cons (pa_cons (x_var (pv 5)) (xa_nil pa_nil)))))))))))))))))))) p_add))) (s_seq (pss_cons (s_app (ps_expr (pe_bm PySem.F.plainAttrs_list PySem.F.slot_list_append PySem.F.type_list_append mt_append (pv 2) (pa_cons (x_tup (pe_tup (xa_cons (pa_cons (x_c pe_str fun _ _ => .str _) (xa_cons (pa_cons (x_tup (pe_tup (xa_cons (pa_cons (x_c pe_str fun _ _ => .str _) (xa_cons (pa_cons (x_c pe_str fun _ _ => .str _) (xa_cons (pa_cons (x_tup (pe_tup (xa_cons (pa_cons (x_c pe_str fun _ _ => .str _) (xa_cons (pa_cons (x_c pe_int fun _ _ => .int _) (xa_nil pa_nil))))))) (xa_cons (pa_cons (x_tup (pe_tup (xa_cons (pa_cons (x_c pe_str fun _ _ => .str _) (xa_cons (pa_cons (x_c pe_int fun _ _ => .int _) (xa_nil pa_nil))))))) (xa_nil pa_nil))))))))))) (xa_cons (pa_cons (x_c pe_str fun _ _ => .str _) (xa_cons (pa_cons (x_c pe_str fun _ _ => .str _) (xa_cons (pa_cons (x_var (pv 4)) (xa_cons (pa_cons (x_var (pv 5)) (xa_nil pa_nil))))))))))))))) pa_nil)))) (s_seq (pss_cons (s_app (ps_expr (pe_bm PySem.F.plainAttrs_list PySem.F.slot_list_append PySem.F.type_list_append mt_append (pv 2) (pa_cons (x_tup (pe_tup (xa_cons (pa_cons (x_c pe_str fun _ _ => .str _) (xa_cons (pa_cons (x_tup (pe_tup (xa_cons (pa_cons (x_c pe_str fun _ _ => .str _) (xa_cons (pa_cons (x_c pe_str fun _ _ => .str _) (xa_cons (pa_cons (x_var (pv 4)) (xa_cons (pa_cons (x_tup (pe_tup (xa_cons (pa_cons (x_c pe_str fun _ _ => .str _) (xa_cons (pa_cons (x_c pe_int fun _ _ => .int _) (xa_nil pa_nil))))))) (xa_nil pa_nil))))))))))) (xa_cons (pa_cons (x_c pe_str fun _ _ => .str _) (xa_cons (pa_cons (x_c pe_str fun _ _ => .str _) (xa_cons (pa_cons (x_var (pv 4)) (xa_cons (pa_cons (x_var (pv 5)) (xa_nil pa_nil))))))))))))))) pa_nil)))) (s_seq (pss_cons (s_set (ps_set (i := 2) sc__law_some.nd rfl (by first | exact Or.inl rfl | exact Or.inr rfl) (x_op2 (pe_op op_addA (x_varB (pv 2)) (c_EB (x_lc (by decide) (pe_lc (own := [("_law_f", 7)]) rfl sc__law_some.nd (x_it (PI.or (pi_list (x_tup (pe_tup (xa_cons (pa_cons (x_c pe_str fun _ _ => .str _) (xa_cons (pa_cons (x_c pe_str fun _ _ => .str _) (xa_cons (pa_cons (x_c pe_str fun _ _ => .str _) (xa_cons (pa_cons (x_c pe_str fun _ _ => .str _) (xa_cons (pa_cons (x_c pe_str fun _ _ => .str _) (xa_cons (pa_cons (x_c pe_str fun _ _ => .str _) (xa_nil pa_nil)))))))))))))))) (PI.or (pi_tup (x_tup (pe_tup (xa_cons (pa_cons (x_c pe_str fun _ _ => .str _) (xa_cons (pa_cons (x_c pe_str fun _ _ => .str _) (xa_cons (pa_cons (x_c pe_str fun _ _ => .str _) (xa_cons (pa_cons (x_c pe_str fun _ _ => .str _) (xa_cons (pa_cons (x_c pe_str fun _ _ => .str _) (xa_cons (pa_cons (x_c pe_str fun _ _ => .str _) (xa_nil pa_nil)))))))))))))))) (pi_str (x_tup (pe_tup (xa_cons (pa_cons (x_c pe_str fun _ _ => .str _) (xa_cons (pa_cons (x_c pe_str fun _ _ => .str _) (xa_cons (pa_cons (x_c pe_str fun _ _ => .str _) (xa_cons (pa_cons (x_c pe_str fun _ _ => .str _) (xa_cons (pa_cons (x_c pe_str fun _ _ => .str _) (xa_cons (pa_cons (x_c pe_str fun _ _ => .str _) (xa_nil pa_nil))))))))))))))))))) (blkOk_by (N := ["_law_n", "_law_quiet", "_law_loud", "_law_pairs", "_law_one", "_law_x", "_law_many", "_law_f", "_law_e", "_law_sign"]) (sc := defScope s__law_some) (by decide +kernel)) (fun _ _ _ _ _ => (x_gname (pg_name (i := 7) sc__law_some.nd rfl (by first | exact Or.inl rfl | exact Or.inr rfl)))) (fun _ _ _ _ _ => x_yes) (fun _ _ _ _ _ => (x_tup (pe_tup (xa_cons (pa_cons (x_c pe_str fun _ _ => .str _) (xa_cons (pa_cons (x_c pe_str fun _ _ => .str _) (xa_cons (pa_cons (x_var (pv 7)) (xa_cons (pa_cons (x_tup (pe_tup (xa_cons (pa_cons (x_var (pv 4)) (xa_nil pa_nil))))) (xa_nil pa_nil)))))))))))))))) p_add))) (s_seq (pss_cons (s_fz (s_set (ps_set (i := 3) sc__law_some.nd rfl (by first | exact Or.inl rfl | exact Or.inr rfl) (c_FE (c_EF (x_op2 (pe_op op_addA (c_EB (x_lc (by decide) (pe_lc (own := [("_law_e", 8)]) rfl sc__law_some.nd (x_it (PI.or (pi_list (x_var (pv 1))) (PI.or (pi_tup (x_var (pv 1))) (pi_str (x_var (pv 1)))))) (blkOk_by (N := ["_law_n", "_law_quiet", "_law_loud", "_law_pairs", "_law_one", "_law_x", "_law_many", "_law_f", "_law_e", "_law_sign"]) (sc := defScope s__law_some) (by decide +kernel)) (fun _ _ _ _ _ => (x_gname (pg_name (i := 8) sc__law_some.nd rfl (by first | exact Or.inl rfl | exact Or.inr rfl)))) (fun _ _ _ _ _ => x_yes) (fun _ _ _ _ _ => (x_tup (pe_tup (xa_cons (pa_cons (x_var (pv 8)) (xa_cons (pa_cons (x_c pe_bl fun _ _ => .bl _) (xa_nil pa_nil))))))))))) (c_EB (x_lc (by decide) (pe_lc (own := [("_law_e", 8)]) rfl sc__law_some.nd (x_it (PI.or (pi_list (x_var (pv 2))) (PI.or (pi_tup (x_var (pv 2))) (pi_str (x_var (pv 2)))))) (blkOk_by (N := ["_law_n", "_law_quiet", "_law_loud", "_law_pairs", "_law_one", "_law_x", "_law_many", "_law_f", "_law_e", "_law_sign"]) (sc := defScope s__law_some) (by decide +kernel)) (fun _ _ _ _ _ => (x_gname (pg_name (i := 8) sc__law_some.nd rfl (by first | exact Or.inl rfl | exact Or.inr rfl)))) (fun _ _ _ _ _ => x_yes) (fun _ _ _ _ _ => (x_tup (pe_tup (xa_cons (pa_cons (x_var (pv 8)) (xa_cons (pa_cons (x_c pe_bl fun _ _ => .bl _) (xa_nil pa_nil)))))))))))) p_add)))))) (s_seq (pss_cons (s_ret (ps_ret (x_ix (pe_ix ix_seq (x_varB (pv 3)) (c_EB (x_op2 (pe_op op_modA (x_varB (pv 0)) (c_FB (x_c pe_int fun _ _ => .int _))) p_mod)) (fun _ _ => rfl))))) (s_nil pss_nil)))))))))))))))))))))))
theorem ok__law_ahead (T : Top w K mg) {k : Nat} (ih : Oks P w base T k) : FnOk P w K mg base CX0 (k + 1) T.a__law_ahead T.d__law_ahead [] (spD K W0 0 (sem (k + 1) f__law_ahead)) := by
  rw [e__law_ahead]
  refine fn_ok (N := ["_law_x", "_law_rows", "_law_f", "_law_body"]) (ps := []) (g := m__law_ahead (sem k)) T.F__law_ahead sc__law_ahead (fun cdv A outer s H EX hr => ?_)
  exact (s_seq (pss_cons (s_set (ps_set (i := 0) sc__law_ahead.nd rfl (by first | exact Or.inl rfl | exact Or.inr rfl) (c_FE (x_tup (pe_tup (xa_cons (pa_cons (x_c pe_str fun _ _ => .str _) (xa_cons (pa_cons (x_c pe_str fun _ _ => .str _) (xa_nil pa_nil)))))))))) (s_seq (pss_cons (s_set (ps_set (i := 1) sc__law_ahead.nd rfl (by first | exact Or.inl rfl | exact Or.inr rfl) (x_lst (pe_lst (xa_cons (pa_cons (x_tup (pe_tup (xa_cons (pa_cons (x_c pe_str fun _ _ => .str _) (xa_cons (pa_cons (x_tup (pe_tup (xa_cons (pa_cons (x_c pe_str fun _ _ => .str _) (xa_cons (pa_cons (x_c pe_str fun _ _ => .str _) (xa_cons (pa_cons (x_var (pv 0)) (xa_cons (pa_cons (x_tup (pe_tup (xa_cons (pa_cons (x_c pe_str fun _ _ => .str _) (xa_cons (pa_cons (x_c pe_int fun _ _ => .int _) (xa_nil pa_nil))))))) (xa_nil pa_nil))))))))))) (xa_nil pa_nil))))))) (xa_cons (pa_cons (x_tup (pe_tup (xa_cons (pa_cons (x_c pe_str fun _ _ => .str _) (xa_cons (pa_cons (x_tup (pe_tup (xa_cons (pa_cons (x_c pe_str fun _ _ => .str _) (xa_cons (pa_cons (x_c pe_str fun _ _ => .str _) (xa_cons (pa_cons (x_c pe_str fun _ _ => .str _) (xa_cons (pa_cons (x_tup (pe_tup (xa_cons (pa_cons (x_var (pv 0)) (xa_nil pa_nil))))) (xa_nil pa_nil))))))))))) (xa_nil pa_nil))))))) (xa_cons (pa_cons (x_tup (pe_tup (xa_cons (pa_cons (x_c pe_str fun _ _ => .str _) (xa_cons (pa_cons (x_tup (pe_tup (xa_cons (pa_cons (x_c pe_str fun _ _ => .str _) (xa_cons (pa_cons (x_var (pv 0)) (xa_cons (pa_cons (x_var (pv 0)) (xa_nil pa_nil))))))))) (xa_nil pa_nil))))))) (xa_nil pa_nil))))))))))) (s_seq (pss_cons (s_set (ps_set (i := 1) sc__law_ahead.nd rfl (by first | exact Or.inl rfl | exact Or.inr rfl) (x_op2 (pe_op op_addA (x_varB (pv 1)) (c_EB (x_lst (pe_lst (xa_cons (pa_cons (x_tup (pe_tup (xa_cons (pa_cons (x_c pe_str fun _ _ => .str _) (xa_cons (pa_cons (x_tup (pe_tup (xa_cons (pa_cons (x_c pe_str fun _ _ => .str _) (xa_cons (pa_cons (x_tup (pe_tup (xa_cons (pa_cons (x_c pe_str fun _ _ => .str _) (xa_cons (pa_cons (x_c pe_int fun _ _ => .int _) (xa_nil pa_nil))))))) (xa_cons (pa_cons (x_tup (pe_tup (xa_cons (pa_cons (x_c pe_str fun _ _ => .str _) (xa_cons (pa_cons (x_var (pv 0)) (xa_nil pa_nil))))))) (xa_cons (pa_cons (x_var (pv 0)) (xa_nil pa_nil))))))))))) (xa_nil pa_nil))))))) (xa_cons (pa_cons (x_tup (pe_tup (xa_cons (pa_cons (x_c pe_str fun _ _ => .str _) (xa_cons (pa_cons (x_tup (pe_tup (xa_cons (pa_cons (x_c pe_str fun _ _ => .str _) (xa_cons (pa_cons (x_c pe_str fun _ _ => .str _) (xa_cons (pa_cons (x_var (pv 0)) (xa_cons (pa_cons (x_tup (pe_tup (xa_cons (pa_cons (x_c pe_str fun _ _ => .str _) (xa_cons (pa_cons (x_c pe_int fun _ _ => .int _) (xa_nil pa_nil))))))) (xa_nil pa_nil))))))))))) (xa_nil pa_nil))))))) (xa_nil pa_nil))))))))) p_add))) (s_seq (pss_cons (s_set (ps_set (i := 1) sc__law_ahead.nd rfl (by first | exact Or.inl rfl | exact Or.inr rfl) (x_op2 (pe_op op_addA (x_varB (pv 1)) (c_EB (x_lst (pe_lst (xa_cons (pa_cons (x_tup (pe_tup (xa_cons (pa_cons (x_c pe_str fun _ _ => .str _) (xa_cons (pa_cons (x_tup (pe_tup (xa_cons (pa_cons (x_c pe_str fun _ _ => .str _) (xa_cons (pa_cons (x_var (pv 0)) (xa_cons (pa_cons (x_c pe_str fun _ _ => .str _) (xa_cons (pa_cons (x_c pe_str fun _ _ => .str _) (xa_cons (pa_cons (x_var (pv 0)) (xa_cons (pa_cons (x_var (pv 0)) (xa_nil pa_nil))))))))))))))) (xa_nil pa_nil))))))) (xa_cons (pa_cons (x_tup (pe_tup (xa_cons (pa_cons (x_c pe_str fun _ _ => .str _) (xa_cons (pa_cons (x_tup (pe_tup (xa_cons (pa_cons (x_c pe_str fun _ _ => .str _) (xa_cons (pa_cons (x_c pe_str fun _ _ => .str _) (xa_cons (pa_cons (x_c pe_str fun _ _ => .str _) (xa_cons (pa_cons (x_tup (pe_tup (xa_cons (pa_cons (x_var (pv 0)) (xa_nil pa_nil))))) (xa_nil pa_nil))))))))))) (xa_nil pa_nil))))))) (xa_nil pa_nil))))))))) p_add))) (s_seq (pss_cons (s_app (ps_expr (pe_bm PySem.F.plainAttrs_list PySem.F.slot_list_append PySem.F.type_list_append mt_append (pv 1) (pa_cons (x_tup (pe_tup (xa_cons (pa_cons (x_c pe_str fun _ _ => .str _) (xa_cons (pa_cons (x_tup (pe_tup (xa_cons (pa_cons (x_c pe_str fun _ _ => .str _) (xa_cons (pa_cons (x_c pe_str fun _ _ => .str _) (xa_cons (pa_cons (x_tup (pe_tup (xa_cons (pa_cons (x_c pe_str fun _ _ => .str _) (xa_cons (pa_cons (x_c pe_str fun _ _ => .str _) (xa_cons (pa_cons (x_c pe_str fun _ _ => .str _) (xa_cons (pa_cons (x_tup (pe_tup (xa_cons (pa_cons (x_var (pv 0)) (xa_nil pa_nil))))) (xa_nil pa_nil))))))))))) (xa_cons (pa_cons (x_var (pv 0)) (xa_nil pa_nil))))))))))) (xa_nil pa_nil))))))) pa_nil)))) (s_seq (pss_cons (s_fz (s_ret (ps_ret (x_prim (pe_callTy call_tuple_of (by rfl) T.z_tuple bt_tuple (xr_cons (pa_cons (c_EB (x_lc (by decide) (pe_lc (own := [("_law_f", 2), ("_law_body", 3)]) rfl sc__law_ahead.nd (x_it (PI.or (pi_list (x_var (pv 1))) (PI.or (pi_tup (x_var (pv 1))) (pi_str (x_var (pv 1)))))) (blkOk_by (N := ["_law_x", "_law_rows", "_law_f", "_law_body"]) (sc := defScope s__law_ahead) (by decide +kernel)) (fun _ _ _ _ _ => (x_gtup (is := [2, 3]) rfl (pg_tup rfl (pgs_cons (pg_name (i := 2) sc__law_ahead.nd rfl (by first | exact Or.inl rfl | exact Or.inr rfl)) (pgs_cons (pg_name (i := 3) sc__law_ahead.nd rfl (by first | exact Or.inl rfl | exact Or.inr rfl)) pgs_nil))))) (fun _ _ _ _ _ => x_yes) (fun _ _ _ _ _ => (x_tup (pe_tup (xa_cons (pa_cons (x_var (pv 2)) (xa_cons (pa_cons (x_tup (pe_tup (xa_cons (pa_cons (x_c pe_str fun _ _ => .str _) (xa_nil pa_nil))))) (xa_cons (pa_cons (x_var (pv 3)) (xa_nil pa_nil))))))))))))) (xr_nil pa_nil)))) p_tuple)))) (s_nil pss_nil)))))))))))))
theorem ok__law_framed (T : Top w K mg) {k : Nat} (ih : Oks P w base T k) : FnOk P w K mg base CX0 (k + 1) T.a__law_framed T.d__law_framed ["_law_n", "_law_e"] (spD K W0 2 (sem (k + 1) f__law_framed)) := by
  rw [e__law_framed]
  refine fn_ok (N := ["_law_n", "_law_e", "_law_x", "_law_some_here"]) (ps := ["_law_n", "_law_e"]) (g := m__law_framed (sem k)) T.F__law_framed sc__law_framed (fun cdv A outer s H EX hr => ?_)
  exact (s_seq (pss_cons (s_set (ps_set (i := 2) sc__law_framed.nd rfl (by first | exact Or.inl rfl | exact Or.inr rfl) (c_FE (x_tup (pe_tup (xa_cons (pa_cons (x_c pe_str fun _ _ => .str _) (xa_cons (pa_cons (x_c pe_str fun _ _ => .str _) (xa_nil pa_nil)))))))))) (s_seq (pss_cons (s_set (ps_set (i := 3) sc__law_framed.nd rfl (by first | exact Or.inl rfl | exact Or.inr rfl) (c_FE (c_EF (x_lst (pe_lst (xa_cons (pa_cons (x_tup (pe_tup (xa_cons (pa_cons (x_c pe_str fun _ _ => .str _) (xa_cons (pa_cons (x_c pe_str fun _ _ => .str _) (xa_cons (pa_cons (x_var (pv 1)) (xa_cons (pa_cons (x_var (pv 2)) (xa_nil pa_nil))))))))))) (xa_cons (pa_cons (x_tup (pe_tup (xa_cons (pa_cons (x_c pe_str fun _ _ => .str _) (xa_cons (pa_cons (x_c pe_str fun _ _ => .str _) (xa_cons (pa_cons (x_var (pv 2)) (xa_cons (pa_cons (x_var (pv 1)) (xa_nil pa_nil))))))))))) (xa_cons (pa_cons (x_tup (pe_tup (xa_cons (pa_cons (x_c pe_str fun _ _ => .str _) (xa_cons (pa_cons (x_c pe_str fun _ _ => .str _) (xa_cons (pa_cons (x_var (pv 1)) (xa_cons (pa_cons (x_var (pv 2)) (xa_nil pa_nil))))))))))) (xa_cons (pa_cons (x_tup (pe_tup (xa_cons (pa_cons (x_c pe_str fun _ _ => .str _) (xa_cons (pa_cons (x_c pe_str fun _ _ => .str _) (xa_cons (pa_cons (x_var (pv 2)) (xa_cons (pa_cons (x_var (pv 1)) (xa_nil pa_nil))))))))))) (xa_cons (pa_cons (x_tup (pe_tup (xa_cons (pa_cons (x_c pe_str fun _ _ => .str _) (xa_cons (pa_cons (x_var (pv 1)) (xa_cons (pa_cons (x_var (pv 2)) (xa_cons (pa_cons (x_var (pv 2)) (xa_nil pa_nil))))))))))) (xa_nil pa_nil))))))))))))))))) (s_seq (pss_cons (s_set (ps_set (i := 3) sc__law_framed.nd rfl (by first | exact Or.inl rfl | exact Or.inr rfl) (c_FE (c_EF (x_op2 (pe_op op_addA (x_varB (pv 3)) (c_EB (x_lst (pe_lst (xa_cons (pa_cons (x_tup (pe_tup (xa_cons (pa_cons (x_c pe_str fun _ _ => .str _) (xa_cons (pa_cons (x_var (pv 2)) (xa_cons (pa_cons (x_var (pv 1)) (xa_cons (pa_cons (x_var (pv 2)) (xa_nil pa_nil))))))))))) (xa_cons (pa_cons (x_tup (pe_tup (xa_cons (pa_cons (x_c pe_str fun _ _ => .str _) (xa_cons (pa_cons (x_var (pv 2)) (xa_cons (pa_cons (x_var (pv 2)) (xa_cons (pa_cons (x_var (pv 1)) (xa_nil pa_nil))))))))))) (xa_cons (pa_cons (x_tup (pe_tup (xa_cons (pa_cons (x_c pe_str fun _ _ => .str _) (xa_cons (pa_cons (x_c pe_str fun _ _ => .str _) (xa_cons (pa_cons (x_c pe_str fun _ _ => .str _) (xa_cons (pa_cons (x_tup (pe_tup (xa_cons (pa_cons (x_var (pv 1)) (xa_nil pa_nil))))) (xa_nil pa_nil))))))))))) (xa_cons (pa_cons (x_tup (pe_tup (xa_cons (pa_cons (x_c pe_str fun _ _ => .str _) (xa_cons (pa_cons (x_c pe_str fun _ _ => .str _) (xa_cons (pa_cons (x_c pe_str fun _ _ => .str _) (xa_cons (pa_cons (x_tup (pe_tup (xa_cons (pa_cons (x_var (pv 1)) (xa_nil pa_nil))))) (xa_nil pa_nil))))))))))) (xa_nil pa_nil))))))))))))) p_add))))) (s_seq (pss_cons (s_ret (ps_ret (x_ix (pe_ix ix_seq (c_EB (x_op2 (pe_op op_addA (x_varB (pv 3)) (c_EB (x_lst (pe_lst (xa_cons (pa_cons (x_tup (pe_tup (xa_cons (pa_cons (x_c pe_str fun _ _ => .str _) (xa_cons (pa_cons (x_tup (pe_tup (xa_cons (pa_cons (x_c pe_str fun _ _ => .str _) (xa_cons (pa_cons (c_EF (x_op2 (pe_op op_modA (c_EB (x_op2 (pe_op op_fdivA (x_varB (pv 0)) (c_FB (x_c pe_int fun _ _ => .int _))) p_fdiv)) (c_FB (x_c pe_int fun _ _ => .int _))) p_mod)) (xa_nil pa_nil))))))) (xa_cons (pa_cons (x_c pe_str fun _ _ => .str _) (xa_cons (pa_cons (x_c pe_str fun _ _ => .str _) (xa_cons (pa_cons (x_var (pv 1)) (xa_cons (pa_cons (x_var (pv 2)) (xa_nil pa_nil))))))))))))))) (xa_cons (pa_cons (x_tup (pe_tup (xa_cons (pa_cons (x_c pe_str fun _ _ => .str _) (xa_cons (pa_cons (x_tup (pe_tup (xa_cons (pa_cons (x_c pe_str fun _ _ => .str _) (xa_cons (pa_cons (x_c pe_int fun _ _ => .int _) (xa_nil pa_nil))))))) (xa_cons (pa_cons (x_c pe_str fun _ _ => .str _) (xa_cons (pa_cons (x_c pe_str fun _ _ => .str _) (xa_cons (pa_cons (x_var (pv 2)) (xa_cons (pa_cons (x_var (pv 1)) (xa_nil pa_nil))))))))))))))) (xa_nil pa_nil))))))))) p_add)) (c_EB (x_op2 (pe_op op_modA (x_varB (pv 0)) (c_FB (x_c pe_int fun _ _ => .int _))) p_mod)) (fun _ _ => rfl))))) (s_nil pss_nil)))))))))
theorem ok__law_doubled_right (T : Top w K mg) {k : Nat} (ih : Oks P w base T k) : FnOk P w K mg base CX0 (k + 1) T.a__law_doubled_right T.d__law_doubled_right ["_law_n"] (spD K W0 1 (sem (k + 1) f__law_doubled_right)) := by
  rw [e__law_doubled_right]
  refine fn_ok (N := ["_law_n", "_law_modules", "_law_ahead_here", "_law_m", "_law_found", "_law_first", "_law_due", "_law_room", "_law_f", "_law_call"]) (ps := ["_law_n"]) (g := m__law_doubled_right (sem k)) T.F__law_doubled_right sc__law_doubled_right (fun cdv A outer s H EX hr => ?_)
  exact (s_seq (pss_cons (s_asg (ps_asg (c_EF (x_ix (pe_ix ix_seq (c_EB (x_lst (pe_lst (xa_cons (pa_cons (x_tup (pe_tup (xa_cons (pa_cons (x_tup (pe_tup (xa_cons (pa_cons (x_c pe_str fun _ _ => .str _) (xa_cons (pa_cons (x_c pe_str fun _ _ => .str _) (xa_nil pa_nil))))))) (xa_cons (pa_cons (x_c pe_bl fun _ _ => .bl _) (xa_nil pa_nil))))))) (xa_cons (pa_cons (x_tup (pe_tup (xa_cons (pa_cons (x_tup (pe_tup (xa_cons (pa_cons (x_c pe_str fun _ _ => .str _) (xa_cons (pa_cons (x_tup (pe_tup (xa_cons (pa_cons (x_c pe_str fun _ _ => .str _) (xa_cons (pa_cons (x_c pe_str fun _ _ => .str _) (xa_nil pa_nil))))))) (xa_cons (pa_cons (x_tup (pe_tup (xa_cons (pa_cons (x_c pe_str fun _ _ => .str _) (xa_cons (pa_cons (x_c pe_int fun _ _ => .int _) (xa_nil pa_nil))))))) (xa_nil pa_nil))))))))) (xa_cons (pa_cons (x_c pe_bl fun _ _ => .bl _) (xa_nil pa_nil))))))) (xa_nil pa_nil)))))))) (c_EB (x_op2 (pe_op op_modA (x_varB (pv 0)) (c_FB (x_c pe_int fun _ _ => .int _))) p_mod)) (fun _ _ => rfl)))) (x_gtup (is := [5, 6]) rfl (pg_tup rfl (pgs_cons (pg_name (i := 5) sc__law_doubled_right.nd rfl (by first | exact Or.inl rfl | exact Or.inr rfl)) (pgs_cons (pg_name (i := 6) sc__law_doubled_right.nd rfl (by first | exact Or.inl rfl | exact Or.inr rfl)) pgs_nil)))))) (s_seq (pss_cons (s_set (ps_set (i := 1) sc__law_doubled_right.nd rfl (by first | exact Or.inl rfl | exact Or.inr rfl) (x_lst (pe_lst (xa_nil pa_nil))))) (s_seq (pss_cons (s_set (ps_set (i := 2) sc__law_doubled_right.nd rfl (by first | exact Or.inl rfl | exact Or.inr rfl) (c_FE (x_c pe_non fun _ _ => .non)))) (s_seq (pss_cons (s_for (ps_for PassesOwn.never rfl (x_it (PI.or (pi_list (x_c pe_str fun _ _ => .str _)) (PI.or (pi_tup (x_c pe_str fun _ _ => .str _)) (pi_str (x_c pe_str fun _ _ => .str _))))) (x_gname (pg_name (i := 3) sc__law_doubled_right.nd rfl (by first | exact Or.inl rfl | exact Or.inr rfl))) (s_seq (pss_cons (s_set (ps_set (i := 7) sc__law_doubled_right.nd rfl (by first | exact Or.inl rfl | exact Or.inr rfl) (x_lst (pe_lst (xa_nil pa_nil))))) (s_seq (pss_cons (s_for (ps_for PassesOwn.never rfl (x_it (PI.or (pi_list (x_c pe_str fun _ _ => .str _)) (PI.or (pi_tup (x_c pe_str fun _ _ => .str _)) (pi_str (x_c pe_str fun _ _ => .str _))))) (x_gname (pg_name (i := 8) sc__law_doubled_right.nd rfl (by first | exact Or.inl rfl | exact Or.inr rfl))) (s_seq (pss_cons (s_set (ps_set (i := 9) sc__law_doubled_right.nd rfl (by first | exact Or.inl rfl | exact Or.inr rfl) (c_FE (c_EF (x_if (pe_ifExp (x_test2 (pt_cmpR op_isA (x_varB (pv 2)) (c_FB (x_c pe_non fun _ _ => .non)) rfl) p_is) (c_FE (x_c pe_non fun _ _ => .non)) (x_op2 (pe_op op_addA (c_EB (x_op2 (pe_op op_addA (c_FB (x_tup (pe_tup (xa_cons (pa_cons (x_c pe_str fun _ _ => .str _) (xa_nil pa_nil)))))) (x_varB (pv 2))) p_add)) (c_FB (x_tup (pe_tup (xa_cons (pa_cons (x_tup (pe_tup (xa_cons (pa_cons (x_tup (pe_tup (xa_cons (pa_cons (x_c pe_str fun _ _ => .str _) (xa_cons (pa_cons (x_c pe_str fun _ _ => .str _) (xa_nil pa_nil))))))) (xa_nil pa_nil))))) (xa_nil pa_nil))))))) p_add))))))) (s_seq (pss_cons (s_app (ps_expr (pe_bm PySem.F.plainAttrs_list PySem.F.slot_list_append PySem.F.type_list_append mt_append (pv 7) (pa_cons (x_tup (pe_tup (xa_cons (pa_cons (x_var (pv 8)) (xa_cons (pa_cons (x_tup (pe_tup (xa_cons (pa_cons (x_c pe_str fun _ _ => .str _) (xa_nil pa_nil))))) (xa_cons (pa_cons (c_EF (x_if (pe_ifExp (x_test2 (pt_cmpR op_isA (x_varB (pv 9)) (c_FB (x_c pe_non fun _ _ => .non)) rfl) p_is) (c_FE (x_var (pv 5))) (c_FE (x_tup (pe_tup (xa_cons (pa_cons (x_c pe_str fun _ _ => .str _) (xa_cons (pa_cons (x_c pe_str fun _ _ => .str _) (xa_cons (pa_cons (x_var (pv 9)) (xa_cons (pa_cons (x_var (pv 9)) (xa_nil pa_nil))))))))))))))) (xa_nil pa_nil))))))))) pa_nil)))) (s_seq (pss_cons (s_set (ps_set (i := 2) sc__law_doubled_right.nd rfl (by first | exact Or.inl rfl | exact Or.inr rfl) (c_FE (x_tup (pe_tup (xa_cons (pa_cons (x_var (pv 3)) (xa_cons (pa_cons (x_var (pv 8)) (xa_nil pa_nil)))))))))) (s_nil pss_nil))))))))) (s_seq (pss_cons (s_app (ps_expr (pe_bm PySem.F.plainAttrs_list PySem.F.slot_list_append PySem.F.type_list_append mt_append (pv 1) (pa_cons (x_tup (pe_tup (xa_cons (pa_cons (x_var (pv 3)) (xa_cons (pa_cons (c_EF (x_prim (pe_callTy call_tuple_of (by rfl) T.z_tuple bt_tuple (xr_cons (pa_cons (x_varB (pv 7)) (xr_nil pa_nil)))) p_tuple)) (xa_nil pa_nil))))))) pa_nil)))) (s_nil pss_nil))))))))) (s_seq (pss_cons (s_set (ps_set (i := 4) sc__law_doubled_right.nd rfl (by first | exact Or.inl rfl | exact Or.inr rfl) (c_FE (c_EF (x_call rfl (pe_call ih.i_is_quiet hr (by rfl) T.m_is_quiet T.F_is_quiet.kp T.b_is_quiet .nil pass0 (xa_cons (pa_cons (c_EF (x_prim (pe_callTy call_tuple_of (by rfl) T.z_tuple bt_tuple (xr_cons (pa_cons (x_varB (pv 1)) (xr_nil pa_nil)))) p_tuple)) (xa_cons (pa_cons (c_EF (x_op2 (pe_op op_addA (c_EB (x_op2 (pe_op op_addA (c_FB (x_tup (pe_tup (xa_cons (pa_cons (x_c pe_str fun _ _ => .str _) (xa_nil pa_nil)))))) (x_varB (pv 2))) p_add)) (c_FB (x_tup (pe_tup (xa_cons (pa_cons (x_tup (pe_tup (xa_cons (pa_cons (x_tup (pe_tup (xa_cons (pa_cons (x_c pe_str fun _ _ => .str _) (xa_cons (pa_cons (c_EF (x_op2 (pe_op op_modA (c_EB (x_op2 (pe_op op_fdivA (x_varB (pv 0)) (c_FB (x_c pe_int fun _ _ => .int _))) p_fdiv)) (c_FB (x_c pe_int fun _ _ => .int _))) p_mod)) (xa_nil pa_nil))))))) (xa_nil pa_nil))))) (xa_nil pa_nil))))))) p_add)) (xa_nil pa_nil))))))))))) (s_seq (pss_cons (s_ret (ps_ret (x_andV (pe_and (x_isi (by decide) (pe_callB call_isi (by rfl) T.z_isinstance bt_isinstance (pa_cons (x_varB (pv 4)) (pa_cons (pe_bltn (by rfl) T.z_bool bt_bool rfl) pa_nil)))) (pe_one (x_op2 (pe_cmpR (op_eqW (un_of hr)) (x_varB (pv 4)) (x_varB (pv 6)) rfl) p_eq)))))) (s_nil pss_nil)))))))))))))
theorem ok_law (T : Top w K mg) {k : Nat} (ih : Oks P w base T k) : FnOk P w K mg base CX0 (k + 1) T.a_law T.d_law ["_law_script"] (spD K W0 1 (sem (k + 1) f_law)) := by
  rw [e_law]
  refine fn_ok (N := ["_law_script", "_law_spot", "_law_far", "_law_k", "_law_n", "_law_rows", "_law_turn", "_law_e", "_law_due", "_law_last", "_law_by", "_law_program", "_law_thing", "_law_found"]) (ps := ["_law_script"]) (g := m_law (sem k)) T.F_law sc_law (fun cdv A outer s H EX hr => ?_)
  exact (s_seq (pss_cons (s_set (ps_set (i := 1) sc_law.nd rfl (by first | exact Or.inl rfl | exact Or.inr rfl) (c_FE (c_EF (x_ref (x_lst (pe_lst (xa_cons (pa_cons (x_c pe_int fun _ _ => .int _) (xa_nil pa_nil)))))))))) (s_seq (pss_cons (s_if (ps_if (x_not (pt_not (x_truth (pt_truth (c_EB (x_call rfl (pe_call ih.i__law_doubled_right hr (by rfl) T.m__law_doubled_right T.F__law_doubled_right.kp T.b__law_doubled_right .nil pass0 (xa_cons (pa_cons (c_EF (x_call rfl (pe_call ih.i__law_cell hr (by rfl) T.m__law_cell T.F__law_cell.kp T.b__law_cell .nil pass0 (xa_cons (pa_cons (x_var (pv 0)) (xa_cons (pa_cons (x_var (pv 1)) (xa_nil pa_nil)))))))) (xa_nil pa_nil)))))) (fun _ => rfl))))) (s_seq (pss_cons (s_ret (ps_ret (c_FE (x_c pe_bl fun _ _ => .bl _)))) (s_nil pss_nil))) (s_nil pss_nil))) (s_seq (pss_cons (s_set (ps_set (i := 2) sc_law.nd rfl (by first | exact Or.inl rfl | exact Or.inr rfl) (c_FE (c_EF (x_op2 (pe_op op_modA (c_EB (x_call rfl (pe_call ih.i__law_cell hr (by rfl) T.m__law_cell T.F__law_cell.kp T.b__law_cell .nil pass0 (xa_cons (pa_cons (x_var (pv 0)) (xa_cons (pa_cons (x_var (pv 1)) (xa_nil pa_nil)))))))) (c_FB (x_c pe_int fun _ _ => .int _))) p_mod))))) (s_seq (pss_cons (s_for (ps_for PassesOwn.never rfl (x_rng1 (pi_range1 (by rfl) T.z_range (xr_cons (pa_cons (c_EB (x_op2 (pe_op op_addA (c_FB (x_c pe_int fun _ _ => .int _)) (c_EB (x_prim (pe_callB (call_min2 rfl) (by rfl) T.z_min bt_min (xr_cons (pa_cons (c_FB (x_c pe_int fun _ _ => .int _)) (xr_cons (pa_cons (c_EB (x_prim (pe_callB call_lenA (by rfl) T.z_len bt_len (xr_cons (pa_cons (x_varB (pv 0)) (xr_nil pa_nil)))) p_len)) (xr_nil pa_nil)))))) p_min2))) p_add)) (xr_nil pa_nil))))) (x_gname (pg_name (i := 3) sc_law.nd rfl (by first | exact Or.inl rfl | exact Or.inr rfl))) (s_seq (pss_cons (s_set (ps_set (i := 4) sc_law.nd rfl (by first | exact Or.inl rfl | exact Or.inr rfl) (c_FE (c_EF (x_call rfl (pe_call ih.i__law_cell hr (by rfl) T.m__law_cell T.F__law_cell.kp T.b__law_cell .nil pass0 (xa_cons (pa_cons (x_var (pv 0)) (xa_cons (pa_cons (x_var (pv 1)) (xa_nil pa_nil))))))))))) (s_seq (pss_cons (s_asg (ps_asg (c_EF (x_call rfl (pe_call ih.i__law_some hr (by rfl) T.m__law_some T.F__law_some.kp T.b__law_some .nil pass0 (xa_cons (pa_cons (c_EF (x_op2 (pe_op op_addA (c_EB (x_op2 (pe_op op_mulA (c_FB (x_c pe_int fun _ _ => .int _)) (c_EB (x_op2 (pe_op op_fdivA (x_varB (pv 4)) (c_FB (x_c pe_int fun _ _ => .int _))) p_fdiv))) p_mul)) (c_EB (x_op2 (pe_op op_modA (x_varB (pv 3)) (c_FB (x_c pe_int fun _ _ => .int _))) p_mod))) p_add)) (xa_nil pa_nil)))))) (x_gtup (is := [7, 8]) rfl (pg_tup rfl (pgs_cons (pg_name (i := 7) sc_law.nd rfl (by first | exact Or.inl rfl | exact Or.inr rfl)) (pgs_cons (pg_name (i := 8) sc_law.nd rfl (by first | exact Or.inl rfl | exact Or.inr rfl)) pgs_nil)))))) (s_seq (pss_cons (s_set (ps_set (i := 5) sc_law.nd rfl (by first | exact Or.inl rfl | exact Or.inr rfl) (c_FE (c_EF (x_call0 rfl (pe_call0 ih.i__law_ahead hr (by rfl) T.m__law_ahead T.F__law_ahead.kp T.b__law_ahead .nil pass0)))))) (s_seq (pss_cons (s_for (ps_for PassesOwn.never rfl (x_rng1 (pi_range1 (by rfl) T.z_range (xr_cons (pa_cons (c_EB (x_if (pe_ifExp (x_test2 (pt_cmpR (op_neW (un_of hr)) (x_varB (pv 3)) (x_varB (pv 2)) rfl) p_ne) (x_op2 (pe_op op_addA (c_FB (x_c pe_int fun _ _ => .int _)) (c_EB (x_op2 (pe_op op_modA (x_varB (pv 4)) (c_FB (x_c pe_int fun _ _ => .int _))) p_mod))) p_add) (c_FE (x_c pe_int fun _ _ => .int _))))) (xr_nil pa_nil))))) (x_gname (pg_name (i := 6) sc_law.nd rfl (by first | exact Or.inl rfl | exact Or.inr rfl))) (s_seq (pss_cons (s_set (ps_set (i := 9) sc_law.nd rfl (by first | exact Or.inl rfl | exact Or.inr rfl) (c_FE (x_tup (pe_tup (xa_cons (pa_cons (x_c pe_str fun _ _ => .str _) (xa_cons (pa_cons (x_tup (pe_tup (xa_cons (pa_cons (x_c pe_str fun _ _ => .str _) (xa_nil pa_nil))))) (xa_cons (pa_cons (x_var (pv 7)) (xa_nil pa_nil)))))))))))) (s_seq (pss_cons (s_set (ps_set (i := 10) sc_law.nd rfl (by first | exact Or.inl rfl | exact Or.inr rfl) (c_FE (x_tup (pe_tup (xa_cons (pa_cons (x_c pe_str fun _ _ => .str _) (xa_cons (pa_cons (x_tup (pe_tup (xa_cons (pa_cons (x_c pe_str fun _ _ => .str _) (xa_nil pa_nil))))) (xa_cons (pa_cons (x_tup (pe_tup (xa_cons (pa_cons (x_c pe_str fun _ _ => .str _) (xa_cons (pa_cons (x_c pe_str fun _ _ => .str _) (xa_cons (pa_cons (x_tup (pe_tup (xa_cons (pa_cons (x_c pe_str fun _ _ => .str _) (xa_cons (pa_cons (x_c pe_str fun _ _ => .str _) (xa_cons (pa_cons (x_c pe_str fun _ _ => .str _) (xa_cons (pa_cons (x_tup (pe_tup (xa_cons (pa_cons (x_tup (pe_tup (xa_cons (pa_cons (x_c pe_str fun _ _ => .str _) (xa_cons (pa_cons (x_c pe_int fun _ _ => .int _) (xa_nil pa_nil))))))) (xa_nil pa_nil))))) (xa_nil pa_nil))))))))))) (xa_cons (pa_cons (x_tup (pe_tup (xa_cons (pa_cons (x_c pe_str fun _ _ => .str _) (xa_cons (pa_cons (x_c pe_int fun _ _ => .int _) (xa_nil pa_nil))))))) (xa_nil pa_nil))))))))))) (xa_nil pa_nil)))))))))))) (s_seq (pss_cons (s_set (ps_set (i := 11) sc_law.nd rfl (by first | exact Or.inl rfl | exact Or.inr rfl) (c_FE (x_tup (pe_tup (xa_cons (pa_cons (x_tup (pe_tup (xa_cons (pa_cons (x_c pe_str fun _ _ => .str _) (xa_cons (pa_cons (c_EF (x_op2 (pe_op op_addA (x_varB (pv 5)) (c_FB (x_tup (pe_tup (xa_cons (pa_cons (x_var (pv 9)) (xa_cons (pa_cons (x_var (pv 10)) (xa_nil pa_nil))))))))) p_add)) (xa_nil pa_nil))))))) (xa_nil pa_nil)))))))) (s_seq (pss_cons (s_for (ps_for PassesOwn.never rfl (x_it (PI.or (pi_list (x_tup (pe_tup (xa_cons (pa_cons (x_var (pv 7)) (xa_cons (pa_cons (x_tup (pe_tup (xa_cons (pa_cons (x_c pe_str fun _ _ => .str _) (xa_cons (pa_cons (x_c pe_str fun _ _ => .str _) (xa_cons (pa_cons (x_c pe_str fun _ _ => .str _) (xa_cons (pa_cons (x_tup (pe_tup (xa_cons (pa_cons (x_tup (pe_tup (xa_cons (pa_cons (x_c pe_str fun _ _ => .str _) (xa_cons (pa_cons (x_c pe_int fun _ _ => .int _) (xa_nil pa_nil))))))) (xa_nil pa_nil))))) (xa_nil pa_nil))))))))))) (xa_cons (pa_cons (x_tup (pe_tup (xa_cons (pa_cons (x_c pe_str fun _ _ => .str _) (xa_cons (pa_cons (x_c pe_str fun _ _ => .str _) (xa_cons (pa_cons (x_c pe_str fun _ _ => .str _) (xa_cons (pa_cons (x_tup (pe_tup (xa_cons (pa_cons (x_tup (pe_tup (xa_cons (pa_cons (x_c pe_str fun _ _ => .str _) (xa_cons (pa_cons (x_c pe_str fun _ _ => .str _) (xa_nil pa_nil))))))) (xa_nil pa_nil))))) (xa_nil pa_nil))))))))))) (xa_cons (pa_cons (x_var (pv 7)) (xa_nil pa_nil)))))))))))) (PI.or (pi_tup (x_tup (pe_tup (xa_cons (pa_cons (x_var (pv 7)) (xa_cons (pa_cons (x_tup (pe_tup (xa_cons (pa_cons (x_c pe_str fun _ _ => .str _) (xa_cons (pa_cons (x_c pe_str fun _ _ => .str _) (xa_cons (pa_cons (x_c pe_str fun _ _ => .str _) (xa_cons (pa_cons (x_tup (pe_tup (xa_cons (pa_cons (x_tup (pe_tup (xa_cons (pa_cons (x_c pe_str fun _ _ => .str _) (xa_cons (pa_cons (x_c pe_int fun _ _ => .int _) (xa_nil pa_nil))))))) (xa_nil pa_nil))))) (xa_nil pa_nil))))))))))) (xa_cons (pa_cons (x_tup (pe_tup (xa_cons (pa_cons (x_c pe_str fun _ _ => .str _) (xa_cons (pa_cons (x_c pe_str fun _ _ => .str _) (xa_cons (pa_cons (x_c pe_str fun _ _ => .str _) (xa_cons (pa_cons (x_tup (pe_tup (xa_cons (pa_cons (x_tup (pe_tup (xa_cons (pa_cons (x_c pe_str fun _ _ => .str _) (xa_cons (pa_cons (x_c pe_str fun _ _ => .str _) (xa_nil pa_nil))))))) (xa_nil pa_nil))))) (xa_nil pa_nil))))))))))) (xa_cons (pa_cons (x_var (pv 7)) (xa_nil pa_nil)))))))))))) (pi_str (x_tup (pe_tup (xa_cons (pa_cons (x_var (pv 7)) (xa_cons (pa_cons (x_tup (pe_tup (xa_cons (pa_cons (x_c pe_str fun _ _ => .str _) (xa_cons (pa_cons (x_c pe_str fun _ _ => .str _) (xa_cons (pa_cons (x_c pe_str fun _ _ => .str _) (xa_cons (pa_cons (x_tup (pe_tup (xa_cons (pa_cons (x_tup (pe_tup (xa_cons (pa_cons (x_c pe_str fun _ _ => .str _) (xa_cons (pa_cons (x_c pe_int fun _ _ => .int _) (xa_nil pa_nil))))))) (xa_nil pa_nil))))) (xa_nil pa_nil))))))))))) (xa_cons (pa_cons (x_tup (pe_tup (xa_cons (pa_cons (x_c pe_str fun _ _ => .str _) (xa_cons (pa_cons (x_c pe_str fun _ _ => .str _) (xa_cons (pa_cons (x_c pe_str fun _ _ => .str _) (xa_cons (pa_cons (x_tup (pe_tup (xa_cons (pa_cons (x_tup (pe_tup (xa_cons (pa_cons (x_c pe_str fun _ _ => .str _) (xa_cons (pa_cons (x_c pe_str fun _ _ => .str _) (xa_nil pa_nil))))))) (xa_nil pa_nil))))) (xa_nil pa_nil))))))))))) (xa_cons (pa_cons (x_var (pv 7)) (xa_nil pa_nil))))))))))))))) (x_gname (pg_name (i := 12) sc_law.nd rfl (by first | exact Or.inl rfl | exact Or.inr rfl))) (s_seq (pss_cons (s_set (ps_set (i := 13) sc_law.nd rfl (by first | exact Or.inl rfl | exact Or.inr rfl) (c_FE (c_EF (x_call rfl (pe_call ih.i_is_quiet hr (by rfl) T.m_is_quiet T.F_is_quiet.kp T.b_is_quiet .nil pass0 (xa_cons (pa_cons (x_var (pv 11)) (xa_cons (pa_cons (x_var (pv 12)) (xa_nil pa_nil))))))))))) (s_seq (pss_cons (s_if (ps_if (PW.pt (x_or (pw_or (x_not (pt_not (x_truth (pt_truth (c_EB (x_isi (by decide) (pe_callB call_isi (by rfl) T.z_isinstance bt_isinstance (pa_cons (x_varB (pv 13)) (pa_cons (pe_bltn (by rfl) T.z_bool bt_bool rfl) pa_nil))))) (fun _ => rfl))))) (pw_or1 (x_test2 (pt_cmpR (op_neW (un_of hr)) (x_varB (pv 13)) (x_varB (pv 8)) rfl) p_ne))))) (s_seq (pss_cons (s_ret (ps_ret (c_FE (x_c pe_bl fun _ _ => .bl _)))) (s_nil pss_nil))) (s_nil pss_nil))) (s_nil pss_nil))))))) (s_seq (pss_cons (s_set (ps_set (i := 7) sc_law.nd rfl (by first | exact Or.inl rfl | exact Or.inr rfl) (c_FE (c_EF (x_call rfl (pe_call ih.i__law_framed hr (by rfl) T.m__law_framed T.F__law_framed.kp T.b__law_framed .nil pass0 (xa_cons (pa_cons (c_EF (x_call rfl (pe_call ih.i__law_cell hr (by rfl) T.m__law_cell T.F__law_cell.kp T.b__law_cell .nil pass0 (xa_cons (pa_cons (x_var (pv 0)) (xa_cons (pa_cons (x_var (pv 1)) (xa_nil pa_nil)))))))) (xa_cons (pa_cons (x_var (pv 7)) (xa_nil pa_nil))))))))))) (s_nil pss_nil))))))))))))) (s_nil pss_nil))))))))))) (s_seq (pss_cons (s_ret (ps_ret (c_FE (x_c pe_bl fun _ _ => .bl _)))) (s_nil pss_nil)))))))))))
theorem oks (T : Top w K mg) : ∀ k, Oks P w base T k
  | 0 => ⟨fn_zero, fn_zero, fn_zero, fn_zero, fn_zero, fn_zero, fn_zero, fn_zero, fn_zero, fn_zero, fn_zero, fn_zero⟩
  | k + 1 => have ih := oks T k; ⟨ok_parts T ih, ok_functions T ih, ok_quiet_head T ih, ok_quiet_by T ih, ok_quiet_functions T ih, ok_is_quiet T ih, ok__law_cell T ih, ok__law_some T ih, ok__law_ahead T ih, ok__law_framed T ih, ok__law_doubled_right T ih, ok_law T ih⟩
end
noncomputable def top_mk {w : World} {K : PySem.W.Frag} {h : Heap} {mg : Str → Option Value} (X : K.In h) (G : h.Ns mainGlobals mg) {f0 : Addr} {od0 an0 : Option Addr} {sl0 : Array (Option Value)} {oc0 kV0 dc0 pm0 cd0 ct0 : Value} {f1 : Addr} {od1 an1 : Option Addr} {sl1 : Array (Option Value)} {oc1 kV1 dc1 pm1 cd1 ct1 : Value} {f2 : Addr} {od2 an2 : Option Addr} {sl2 : Array (Option Value)} {oc2 kV2 dc2 pm2 cd2 ct2 : Value} {f3 : Addr} {od3 an3 : Option Addr} {sl3 : Array (Option Value)} {oc3 kV3 dc3 pm3 cd3 ct3 : Value} {f4 : Addr} {od4 an4 : Option Addr} {sl4 : Array (Option Value)} {oc4 kV4 dc4 pm4 cd4 ct4 : Value} {f5 : Addr} {od5 an5 : Option Addr} {sl5 : Array (Option Value)} {oc5 kV5 dc5 pm5 cd5 ct5 : Value} {f6 : Addr} {od6 an6 : Option Addr} {sl6 : Array (Option Value)} {oc6 kV6 dc6 pm6 cd6 ct6 : Value} {f7 : Addr} {od7 an7 : Option Addr} {sl7 : Array (Option Value)} {oc7 kV7 dc7 pm7 cd7 ct7 : Value} {f8 : Addr} {od8 an8 : Option Addr} {sl8 : Array (Option Value)} {oc8 kV8 dc8 pm8 cd8 ct8 : Value} {f9 : Addr} {od9 an9 : Option Addr} {sl9 : Array (Option Value)} {oc9 kV9 dc9 pm9 cd9 ct9 : Value} {f10 : Addr} {od10 an10 : Option Addr} {sl10 : Array (Option Value)} {oc10 kV10 dc10 pm10 cd10 ct10 : Value} {f11 : Addr} {od11 an11 : Option Addr} {sl11 : Array (Option Value)} {oc11 kV11 dc11 pm11 cd11 ct11 : Value} {q_SPOTS : Addr} {es_SPOTS : Array DictEntry} {n_SPOTS : Nat} {t_MOST_ROUNDS : Tok} {q_LOUD : Addr} {o_LOUD : Obj} {q_RISKY : Addr} {o_RISKY : Obj} (a0 : PySem.W.nsIn K mainGlobals "parts" = some (some (.ref f0))) (l0 : K.lookup f0 = some ⟨oc0, od0, .func (PySem.W.fnOf "parts" "parts" (defArgs s_parts) (defBody s_parts) (defScope s_parts) .none kV0 dc0 pm0 an0 cd0 ct0), sl0⟩) (c0 : PySem.W.codeIn K cd0 "parts" = true) (k0 : PySem.W.keepIn K (.ref f0) = true) (a1 : PySem.W.nsIn K mainGlobals "functions" = some (some (.ref f1))) (l1 : K.lookup f1 = some ⟨oc1, od1, .func (PySem.W.fnOf "functions" "functions" (defArgs s_functions) (defBody s_functions) (defScope s_functions) .none kV1 dc1 pm1 an1 cd1 ct1), sl1⟩) (c1 : PySem.W.codeIn K cd1 "functions" = true) (k1 : PySem.W.keepIn K (.ref f1) = true) (a2 : PySem.W.nsIn K mainGlobals "quiet_head" = some (some (.ref f2))) (l2 : K.lookup f2 = some ⟨oc2, od2, .func (PySem.W.fnOf "quiet_head" "quiet_head" (defArgs s_quiet_head) (defBody s_quiet_head) (defScope s_quiet_head) .none kV2 dc2 pm2 an2 cd2 ct2), sl2⟩) (c2 : PySem.W.codeIn K cd2 "quiet_head" = true) (k2 : PySem.W.keepIn K (.ref f2) = true) (a3 : PySem.W.nsIn K mainGlobals "quiet_by" = some (some (.ref f3))) (l3 : K.lookup f3 = some ⟨oc3, od3, .func (PySem.W.fnOf "quiet_by" "quiet_by" (defArgs s_quiet_by) (defBody s_quiet_by) (defScope s_quiet_by) .none kV3 dc3 pm3 an3 cd3 ct3), sl3⟩) (c3 : PySem.W.codeIn K cd3 "quiet_by" = true) (k3 : PySem.W.keepIn K (.ref f3) = true) (a4 : PySem.W.nsIn K mainGlobals "quiet_functions" = some (some (.ref f4))) (l4 : K.lookup f4 = some ⟨oc4, od4, .func (PySem.W.fnOf "quiet_functions" "quiet_functions" (defArgs s_quiet_functions) (defBody s_quiet_functions) (defScope s_quiet_functions) .none kV4 dc4 pm4 an4 cd4 ct4), sl4⟩) (c4 : PySem.W.codeIn K cd4 "quiet_functions" = true) (k4 : PySem.W.keepIn K (.ref f4) = true) (a5 : PySem.W.nsIn K mainGlobals "is_quiet" = some (some (.ref f5))) (l5 : K.lookup f5 = some ⟨oc5, od5, .func (PySem.W.fnOf "is_quiet" "is_quiet" (defArgs s_is_quiet) (defBody s_is_quiet) (defScope s_is_quiet) .none kV5 dc5 pm5 an5 cd5 ct5), sl5⟩) (c5 : PySem.W.codeIn K cd5 "is_quiet" = true) (k5 : PySem.W.keepIn K (.ref f5) = true) (a6 : PySem.W.nsIn K mainGlobals "_law_cell" = some (some (.ref f6))) (l6 : K.lookup f6 = some ⟨oc6, od6, .func (PySem.W.fnOf "_law_cell" "_law_cell" (defArgs s__law_cell) (defBody s__law_cell) (defScope s__law_cell) .none kV6 dc6 pm6 an6 cd6 ct6), sl6⟩) (c6 : PySem.W.codeIn K cd6 "_law_cell" = true) (k6 : PySem.W.keepIn K (.ref f6) = true) (a7 : PySem.W.nsIn K mainGlobals "_law_some" = some (some (.ref f7))) (l7 : K.lookup f7 = some ⟨oc7, od7, .func (PySem.W.fnOf "_law_some" "_law_some" (defArgs s__law_some) (defBody s__law_some) (defScope s__law_some) .none kV7 dc7 pm7 an7 cd7 ct7), sl7⟩) (c7 : PySem.W.codeIn K cd7 "_law_some" = true) (k7 : PySem.W.keepIn K (.ref f7) = true) (a8 : PySem.W.nsIn K mainGlobals "_law_ahead" = some (some (.ref f8))) (l8 : K.lookup f8 = some ⟨oc8, od8, .func (PySem.W.fnOf "_law_ahead" "_law_ahead" (defArgs s__law_ahead) (defBody s__law_ahead) (defScope s__law_ahead) .none kV8 dc8 pm8 an8 cd8 ct8), sl8⟩) (c8 : PySem.W.codeIn K cd8 "_law_ahead" = true) (k8 : PySem.W.keepIn K (.ref f8) = true) (a9 : PySem.W.nsIn K mainGlobals "_law_framed" = some (some (.ref f9))) (l9 : K.lookup f9 = some ⟨oc9, od9, .func (PySem.W.fnOf "_law_framed" "_law_framed" (defArgs s__law_framed) (defBody s__law_framed) (defScope s__law_framed) .none kV9 dc9 pm9 an9 cd9 ct9), sl9⟩) (c9 : PySem.W.codeIn K cd9 "_law_framed" = true) (k9 : PySem.W.keepIn K (.ref f9) = true) (a10 : PySem.W.nsIn K mainGlobals "_law_doubled_right" = some (some (.ref f10))) (l10 : K.lookup f10 = some ⟨oc10, od10, .func (PySem.W.fnOf "_law_doubled_right" "_law_doubled_right" (defArgs s__law_doubled_right) (defBody s__law_doubled_right) (defScope s__law_doubled_right) .none kV10 dc10 pm10 an10 cd10 ct10), sl10⟩) (c10 : PySem.W.codeIn K cd10 "_law_doubled_right" = true) (k10 : PySem.W.keepIn K (.ref f10) = true) (a11 : PySem.W.nsIn K mainGlobals "law" = some (some (.ref f11))) (l11 : K.lookup f11 = some ⟨oc11, od11, .func (PySem.W.fnOf "law" "law" (defArgs s_law) (defBody s_law) (defScope s_law) .none kV11 dc11 pm11 an11 cd11 ct11), sl11⟩) (c11 : PySem.W.codeIn K cd11 "law" = true) (k11 : PySem.W.keepIn K (.ref f11) = true) (z_list : PySem.W.nsIn K mainGlobals "list" = some none) (z_all : PySem.W.nsIn K mainGlobals "all" = some none) (z_len : PySem.W.nsIn K mainGlobals "len" = some none) (z_range : PySem.W.nsIn K mainGlobals "range" = some none) (z_tuple : PySem.W.nsIn K mainGlobals "tuple" = some none) (z_isinstance : PySem.W.nsIn K mainGlobals "isinstance" = some none) (z_bool : PySem.W.nsIn K mainGlobals "bool" = some none) (z_min : PySem.W.nsIn K mainGlobals "min" = some none) (g_SPOTS : PySem.W.nsIn K mainGlobals "SPOTS" = some (some (.ref q_SPOTS))) (u_SPOTS : K.lookup q_SPOTS = some ⟨.type "dict", none, .dict es_SPOTS n_SPOTS, #[]⟩) (v_SPOTS : tabIs K q_SPOTS k_SPOTS = true) (y_SPOTS : PySem.W.KeysLit w.params es_SPOTS.toList) (g_MOST_ROUNDS : PySem.W.nsIn K mainGlobals "MOST_ROUNDS" = some (some (.int 1000 t_MOST_ROUNDS))) (g_LOUD : PySem.W.nsIn K mainGlobals "LOUD" = some (some (.ref q_LOUD))) (u_LOUD : K.lookup q_LOUD = some o_LOUD) (v_LOUD : tupIs K 9 o_LOUD k_LOUD = true) (g_RISKY : PySem.W.nsIn K mainGlobals "RISKY" = some (some (.ref q_RISKY))) (u_RISKY : K.lookup q_RISKY = some o_RISKY) (v_RISKY : tupIs K 9 o_RISKY k_RISKY = true) : Top w K mg where
  a_parts := f0
  d_parts := PySem.W.fnOf "parts" "parts" (defArgs s_parts) (defBody s_parts) (defScope s_parts) .none kV0 dc0 pm0 an0 cd0 ct0
  F_parts := fun_mk (st := s_parts) l0 c0 k0
  b_parts := (fun_mk (st := s_parts) l0 c0 k0).binds (ps := ["expression"]) fun _ _ _ _ _ _ us hl => match us, hl with | [_], _ => rfl
  m_parts := PySem.W.mg_of X G a0
  a_functions := f1
  d_functions := PySem.W.fnOf "functions" "functions" (defArgs s_functions) (defBody s_functions) (defScope s_functions) .none kV1 dc1 pm1 an1 cd1 ct1
  F_functions := fun_mk (st := s_functions) l1 c1 k1
  b_functions := (fun_mk (st := s_functions) l1 c1 k1).binds (ps := ["program"]) fun _ _ _ _ _ _ us hl => match us, hl with | [_], _ => rfl
  m_functions := PySem.W.mg_of X G a1
  a_quiet_head := f2
  d_quiet_head := PySem.W.fnOf "quiet_head" "quiet_head" (defArgs s_quiet_head) (defBody s_quiet_head) (defScope s_quiet_head) .none kV2 dc2 pm2 an2 cd2 ct2
  F_quiet_head := fun_mk (st := s_quiet_head) l2 c2 k2
  b_quiet_head := (fun_mk (st := s_quiet_head) l2 c2 k2).binds (ps := ["expression", "known"]) fun _ _ _ _ _ _ us hl => match us, hl with | [_, _], _ => rfl
  m_quiet_head := PySem.W.mg_of X G a2
  a_quiet_by := f3
  d_quiet_by := PySem.W.fnOf "quiet_by" "quiet_by" (defArgs s_quiet_by) (defBody s_quiet_by) (defScope s_quiet_by) .none kV3 dc3 pm3 an3 cd3 ct3
  F_quiet_by := fun_mk (st := s_quiet_by) l3 c3 k3
  b_quiet_by := (fun_mk (st := s_quiet_by) l3 c3 k3).binds (ps := ["expression", "known"]) fun _ _ _ _ _ _ us hl => match us, hl with | [_, _], _ => rfl
  m_quiet_by := PySem.W.mg_of X G a3
  a_quiet_functions := f4
  d_quiet_functions := PySem.W.fnOf "quiet_functions" "quiet_functions" (defArgs s_quiet_functions) (defBody s_quiet_functions) (defScope s_quiet_functions) .none kV4 dc4 pm4 an4 cd4 ct4
  F_quiet_functions := fun_mk (st := s_quiet_functions) l4 c4 k4
  b_quiet_functions := (fun_mk (st := s_quiet_functions) l4 c4 k4).binds (ps := ["program"]) fun _ _ _ _ _ _ us hl => match us, hl with | [_], _ => rfl
  m_quiet_functions := PySem.W.mg_of X G a4
  a_is_quiet := f5
  d_is_quiet := PySem.W.fnOf "is_quiet" "is_quiet" (defArgs s_is_quiet) (defBody s_is_quiet) (defScope s_is_quiet) .none kV5 dc5 pm5 an5 cd5 ct5
  F_is_quiet := fun_mk (st := s_is_quiet) l5 c5 k5
  b_is_quiet := (fun_mk (st := s_is_quiet) l5 c5 k5).binds (ps := ["program", "expression"]) fun _ _ _ _ _ _ us hl => match us, hl with | [_, _], _ => rfl
  m_is_quiet := PySem.W.mg_of X G a5
  a__law_cell := f6
  d__law_cell := PySem.W.fnOf "_law_cell" "_law_cell" (defArgs s__law_cell) (defBody s__law_cell) (defScope s__law_cell) .none kV6 dc6 pm6 an6 cd6 ct6
  F__law_cell := fun_mk (st := s__law_cell) l6 c6 k6
  b__law_cell := (fun_mk (st := s__law_cell) l6 c6 k6).binds (ps := ["_law_cells", "_law_spot"]) fun _ _ _ _ _ _ us hl => match us, hl with | [_, _], _ => rfl
  m__law_cell := PySem.W.mg_of X G a6
  a__law_some := f7
  d__law_some := PySem.W.fnOf "_law_some" "_law_some" (defArgs s__law_some) (defBody s__law_some) (defScope s__law_some) .none kV7 dc7 pm7 an7 cd7 ct7
  F__law_some := fun_mk (st := s__law_some) l7 c7 k7
  b__law_some := (fun_mk (st := s__law_some) l7 c7 k7).binds (ps := ["_law_n"]) fun _ _ _ _ _ _ us hl => match us, hl with | [_], _ => rfl
  m__law_some := PySem.W.mg_of X G a7
  a__law_ahead := f8
  d__law_ahead := PySem.W.fnOf "_law_ahead" "_law_ahead" (defArgs s__law_ahead) (defBody s__law_ahead) (defScope s__law_ahead) .none kV8 dc8 pm8 an8 cd8 ct8
  F__law_ahead := fun_mk (st := s__law_ahead) l8 c8 k8
  b__law_ahead := (fun_mk (st := s__law_ahead) l8 c8 k8).binds (ps := []) fun _ _ _ _ _ _ us hl => match us, hl with | [], _ => rfl
  m__law_ahead := PySem.W.mg_of X G a8
  a__law_framed := f9
  d__law_framed := PySem.W.fnOf "_law_framed" "_law_framed" (defArgs s__law_framed) (defBody s__law_framed) (defScope s__law_framed) .none kV9 dc9 pm9 an9 cd9 ct9
  F__law_framed := fun_mk (st := s__law_framed) l9 c9 k9
  b__law_framed := (fun_mk (st := s__law_framed) l9 c9 k9).binds (ps := ["_law_n", "_law_e"]) fun _ _ _ _ _ _ us hl => match us, hl with | [_, _], _ => rfl
  m__law_framed := PySem.W.mg_of X G a9
  a__law_doubled_right := f10
  d__law_doubled_right := PySem.W.fnOf "_law_doubled_right" "_law_doubled_right" (defArgs s__law_doubled_right) (defBody s__law_doubled_right) (defScope s__law_doubled_right) .none kV10 dc10 pm10 an10 cd10 ct10
  F__law_doubled_right := fun_mk (st := s__law_doubled_right) l10 c10 k10
  b__law_doubled_right := (fun_mk (st := s__law_doubled_right) l10 c10 k10).binds (ps := ["_law_n"]) fun _ _ _ _ _ _ us hl => match us, hl with | [_], _ => rfl
  m__law_doubled_right := PySem.W.mg_of X G a10
  a_law := f11
  d_law := PySem.W.fnOf "law" "law" (defArgs s_law) (defBody s_law) (defScope s_law) .none kV11 dc11 pm11 an11 cd11 ct11
  F_law := fun_mk (st := s_law) l11 c11 k11
  b_law := (fun_mk (st := s_law) l11 c11 k11).binds (ps := ["_law_script"]) fun _ _ _ _ _ _ us hl => match us, hl with | [_], _ => rfl
  m_law := PySem.W.mg_of X G a11
  bb_law := fun s v => .of_eq rfl
  z_list := PySem.W.mg_none_of X G z_list
  z_all := PySem.W.mg_none_of X G z_all
  z_len := PySem.W.mg_none_of X G z_len
  z_range := PySem.W.mg_none_of X G z_range
  z_tuple := PySem.W.mg_none_of X G z_tuple
  z_isinstance := PySem.W.mg_none_of X G z_isinstance
  z_bool := PySem.W.mg_none_of X G z_bool
  z_min := PySem.W.mg_none_of X G z_min
  q_SPOTS := q_SPOTS
  c_SPOTS := PySem.W.mg_of X G g_SPOTS
  t_SPOTS := tab_ok u_SPOTS y_SPOTS v_SPOTS
  c_MOST_ROUNDS := ⟨_, PySem.W.mg_of X G g_MOST_ROUNDS⟩
  q_LOUD := q_LOUD
  c_LOUD := PySem.W.mg_of X G g_LOUD
  r_LOUD := fun A G => tupIs_rep u_LOUD v_LOUD
  q_RISKY := q_RISKY
  c_RISKY := PySem.W.mg_of X G g_RISKY
  r_RISKY := fun A G => tupIs_rep u_RISKY v_RISKY
theorem law_fin {l : PySem.W.OpenLaw} {w : World} {K : PySem.W.Frag} {h : Heap} {mg : Str → Option Value} {fa : Addr} (X : K.In h) (G : h.Ns mainGlobals mg) (hfa : mg "law" = some (.ref fa)) {f0 : Addr} {od0 an0 : Option Addr} {sl0 : Array (Option Value)} {oc0 kV0 dc0 pm0 cd0 ct0 : Value} {f1 : Addr} {od1 an1 : Option Addr} {sl1 : Array (Option Value)} {oc1 kV1 dc1 pm1 cd1 ct1 : Value} {f2 : Addr} {od2 an2 : Option Addr} {sl2 : Array (Option Value)} {oc2 kV2 dc2 pm2 cd2 ct2 : Value} {f3 : Addr} {od3 an3 : Option Addr} {sl3 : Array (Option Value)} {oc3 kV3 dc3 pm3 cd3 ct3 : Value} {f4 : Addr} {od4 an4 : Option Addr} {sl4 : Array (Option Value)} {oc4 kV4 dc4 pm4 cd4 ct4 : Value} {f5 : Addr} {od5 an5 : Option Addr} {sl5 : Array (Option Value)} {oc5 kV5 dc5 pm5 cd5 ct5 : Value} {f6 : Addr} {od6 an6 : Option Addr} {sl6 : Array (Option Value)} {oc6 kV6 dc6 pm6 cd6 ct6 : Value} {f7 : Addr} {od7 an7 : Option Addr} {sl7 : Array (Option Value)} {oc7 kV7 dc7 pm7 cd7 ct7 : Value} {f8 : Addr} {od8 an8 : Option Addr} {sl8 : Array (Option Value)} {oc8 kV8 dc8 pm8 cd8 ct8 : Value} {f9 : Addr} {od9 an9 : Option Addr} {sl9 : Array (Option Value)} {oc9 kV9 dc9 pm9 cd9 ct9 : Value} {f10 : Addr} {od10 an10 : Option Addr} {sl10 : Array (Option Value)} {oc10 kV10 dc10 pm10 cd10 ct10 : Value} {f11 : Addr} {od11 an11 : Option Addr} {sl11 : Array (Option Value)} {oc11 kV11 dc11 pm11 cd11 ct11 : Value} {q_SPOTS : Addr} {es_SPOTS : Array DictEntry} {n_SPOTS : Nat} {t_MOST_ROUNDS : Tok} {q_LOUD : Addr} {o_LOUD : Obj} {q_RISKY : Addr} {o_RISKY : Obj} (a0 : PySem.W.nsIn K mainGlobals "parts" = some (some (.ref f0))) (l0 : K.lookup f0 = some ⟨oc0, od0, .func (PySem.W.fnOf "parts" "parts" (defArgs s_parts) (defBody s_parts) (defScope s_parts) .none kV0 dc0 pm0 an0 cd0 ct0), sl0⟩) (c0 : PySem.W.codeIn K cd0 "parts" = true) (k0 : PySem.W.keepIn K (.ref f0) = true) (a1 : PySem.W.nsIn K mainGlobals "functions" = some (some (.ref f1))) (l1 : K.lookup f1 = some ⟨oc1, od1, .func (PySem.W.fnOf "functions" "functions" (defArgs s_functions) (defBody s_functions) (defScope s_functions) .none kV1 dc1 pm1 an1 cd1 ct1), sl1⟩) (c1 : PySem.W.codeIn K cd1 "functions" = true) (k1 : PySem.W.keepIn K (.ref f1) = true) (a2 : PySem.W.nsIn K mainGlobals "quiet_head" = some (some (.ref f2))) (l2 : K.lookup f2 = some ⟨oc2, od2, .func (PySem.W.fnOf "quiet_head" "quiet_head" (defArgs s_quiet_head) (defBody s_quiet_head) (defScope s_quiet_head) .none kV2 dc2 pm2 an2 cd2 ct2), sl2⟩) (c2 : PySem.W.codeIn K cd2 "quiet_head" = true) (k2 : PySem.W.keepIn K (.ref f2) = true) (a3 : PySem.W.nsIn K mainGlobals "quiet_by" = some (some (.ref f3))) (l3 : K.lookup f3 = some ⟨oc3, od3, .func (PySem.W.fnOf "quiet_by" "quiet_by" (defArgs s_quiet_by) (defBody s_quiet_by) (defScope s_quiet_by) .none kV3 dc3 pm3 an3 cd3 ct3), sl3⟩) (c3 : PySem.W.codeIn K cd3 "quiet_by" = true) (k3 : PySem.W.keepIn K (.ref f3) = true) (a4 : PySem.W.nsIn K mainGlobals "quiet_functions" = some (some (.ref f4))) (l4 : K.lookup f4 = some ⟨oc4, od4, .func (PySem.W.fnOf "quiet_functions" "quiet_functions" (defArgs s_quiet_functions) (defBody s_quiet_functions) (defScope s_quiet_functions) .none kV4 dc4 pm4 an4 cd4 ct4), sl4⟩) (c4 : PySem.W.codeIn K cd4 "quiet_functions" = true) (k4 : PySem.W.keepIn K (.ref f4) = true) (a5 : PySem.W.nsIn K mainGlobals "is_quiet" = some (some (.ref f5))) (l5 : K.lookup f5 = some ⟨oc5, od5, .func (PySem.W.fnOf "is_quiet" "is_quiet" (defArgs s_is_quiet) (defBody s_is_quiet) (defScope s_is_quiet) .none kV5 dc5 pm5 an5 cd5 ct5), sl5⟩) (c5 : PySem.W.codeIn K cd5 "is_quiet" = true) (k5 : PySem.W.keepIn K (.ref f5) = true) (a6 : PySem.W.nsIn K mainGlobals "_law_cell" = some (some (.ref f6))) (l6 : K.lookup f6 = some ⟨oc6, od6, .func (PySem.W.fnOf "_law_cell" "_law_cell" (defArgs s__law_cell) (defBody s__law_cell) (defScope s__law_cell) .none kV6 dc6 pm6 an6 cd6 ct6), sl6⟩) (c6 : PySem.W.codeIn K cd6 "_law_cell" = true) (k6 : PySem.W.keepIn K (.ref f6) = true) (a7 : PySem.W.nsIn K mainGlobals "_law_some" = some (some (.ref f7))) (l7 : K.lookup f7 = some ⟨oc7, od7, .func (PySem.W.fnOf "_law_some" "_law_some" (defArgs s__law_some) (defBody s__law_some) (defScope s__law_some) .none kV7 dc7 pm7 an7 cd7 ct7), sl7⟩) (c7 : PySem.W.codeIn K cd7 "_law_some" = true) (k7 : PySem.W.keepIn K (.ref f7) = true) (a8 : PySem.W.nsIn K mainGlobals "_law_ahead" = some (some (.ref f8))) (l8 : K.lookup f8 = some ⟨oc8, od8, .func (PySem.W.fnOf "_law_ahead" "_law_ahead" (defArgs s__law_ahead) (defBody s__law_ahead) (defScope s__law_ahead) .none kV8 dc8 pm8 an8 cd8 ct8), sl8⟩) (c8 : PySem.W.codeIn K cd8 "_law_ahead" = true) (k8 : PySem.W.keepIn K (.ref f8) = true) (a9 : PySem.W.nsIn K mainGlobals "_law_framed" = some (some (.ref f9))) (l9 : K.lookup f9 = some ⟨oc9, od9, .func (PySem.W.fnOf "_law_framed" "_law_framed" (defArgs s__law_framed) (defBody s__law_framed) (defScope s__law_framed) .none kV9 dc9 pm9 an9 cd9 ct9), sl9⟩) (c9 : PySem.W.codeIn K cd9 "_law_framed" = true) (k9 : PySem.W.keepIn K (.ref f9) = true) (a10 : PySem.W.nsIn K mainGlobals "_law_doubled_right" = some (some (.ref f10))) (l10 : K.lookup f10 = some ⟨oc10, od10, .func (PySem.W.fnOf "_law_doubled_right" "_law_doubled_right" (defArgs s__law_doubled_right) (defBody s__law_doubled_right) (defScope s__law_doubled_right) .none kV10 dc10 pm10 an10 cd10 ct10), sl10⟩) (c10 : PySem.W.codeIn K cd10 "_law_doubled_right" = true) (k10 : PySem.W.keepIn K (.ref f10) = true) (a11 : PySem.W.nsIn K mainGlobals "law" = some (some (.ref f11))) (l11 : K.lookup f11 = some ⟨oc11, od11, .func (PySem.W.fnOf "law" "law" (defArgs s_law) (defBody s_law) (defScope s_law) .none kV11 dc11 pm11 an11 cd11 ct11), sl11⟩) (c11 : PySem.W.codeIn K cd11 "law" = true) (k11 : PySem.W.keepIn K (.ref f11) = true) (z_list : PySem.W.nsIn K mainGlobals "list" = some none) (z_all : PySem.W.nsIn K mainGlobals "all" = some none) (z_len : PySem.W.nsIn K mainGlobals "len" = some none) (z_range : PySem.W.nsIn K mainGlobals "range" = some none) (z_tuple : PySem.W.nsIn K mainGlobals "tuple" = some none) (z_isinstance : PySem.W.nsIn K mainGlobals "isinstance" = some none) (z_bool : PySem.W.nsIn K mainGlobals "bool" = some none) (z_min : PySem.W.nsIn K mainGlobals "min" = some none) (g_SPOTS : PySem.W.nsIn K mainGlobals "SPOTS" = some (some (.ref q_SPOTS))) (u_SPOTS : K.lookup q_SPOTS = some ⟨.type "dict", none, .dict es_SPOTS n_SPOTS, #[]⟩) (v_SPOTS : tabIs K q_SPOTS k_SPOTS = true) (y_SPOTS : PySem.W.KeysLit w.params es_SPOTS.toList) (g_MOST_ROUNDS : PySem.W.nsIn K mainGlobals "MOST_ROUNDS" = some (some (.int 1000 t_MOST_ROUNDS))) (g_LOUD : PySem.W.nsIn K mainGlobals "LOUD" = some (some (.ref q_LOUD))) (u_LOUD : K.lookup q_LOUD = some o_LOUD) (v_LOUD : tupIs K 9 o_LOUD k_LOUD = true) (g_RISKY : PySem.W.nsIn K mainGlobals "RISKY" = some (some (.ref q_RISKY))) (u_RISKY : K.lookup q_RISKY = some o_RISKY) (v_RISKY : tupIs K 9 o_RISKY k_RISKY = true) :
    ∃ fd : FuncData, (∀ (s : Shared) (v : Value), BindsTo s fd ⟨[v], []⟩ [("_law_script", v)]) ∧ ∀ base : Heap, K.In base → base.Ns mainGlobals mg → FnOk l.prog w K mg base CX0 60 fa fd ["_law_script"] (spD K W0 1 (sem 60 f_law)) := by
  have T : Top w K mg := top_mk X G (a0 := a0) (l0 := l0) (c0 := c0) (k0 := k0) (a1 := a1) (l1 := l1) (c1 := c1) (k1 := k1) (a2 := a2) (l2 := l2) (c2 := c2) (k2 := k2) (a3 := a3) (l3 := l3) (c3 := c3) (k3 := k3) (a4 := a4) (l4 := l4) (c4 := c4) (k4 := k4) (a5 := a5) (l5 := l5) (c5 := c5) (k5 := k5) (a6 := a6) (l6 := l6) (c6 := c6) (k6 := k6) (a7 := a7) (l7 := l7) (c7 := c7) (k7 := k7) (a8 := a8) (l8 := l8) (c8 := c8) (k8 := k8) (a9 := a9) (l9 := l9) (c9 := c9) (k9 := k9) (a10 := a10) (l10 := l10) (c10 := c10) (k10 := k10) (a11 := a11) (l11 := l11) (c11 := c11) (k11 := k11) (z_list := z_list) (z_all := z_all) (z_len := z_len) (z_range := z_range) (z_tuple := z_tuple) (z_isinstance := z_isinstance) (z_bool := z_bool) (z_min := z_min) (g_SPOTS := g_SPOTS) (u_SPOTS := u_SPOTS) (v_SPOTS := v_SPOTS) (y_SPOTS := y_SPOTS) (g_MOST_ROUNDS := g_MOST_ROUNDS) (g_LOUD := g_LOUD) (u_LOUD := u_LOUD) (v_LOUD := v_LOUD) (g_RISKY := g_RISKY) (u_RISKY := u_RISKY) (v_RISKY := v_RISKY)
  have e : fa = T.a_law := PySem.Value.ref.inj (Option.some.inj (hfa.symm.trans T.m_law))
  subst e
  exact ⟨T.d_law, T.bb_law, fun base _ _ => (oks T 60).i_law⟩
end K18
namespace K18
open PySem L2 TP
set_option maxHeartbeats 2000000
theorem cut13 {a b c d : D} : cutD [a, b, c, d] (some 1) (some 3) = [b, c] := rfl
theorem parts_ok (k : Nat) (e : Ex) (M : Store) : sem (k + 1) f_parts [e.toD] M = .ok (.own (e.parts.map Ex.toD)) M := by
  rw [e_parts]
  have c1 := fun M => eqW (s := "num") (t := "call") (b := false) (by decide +kernel) M
  have c2 := fun M => eqW (s := "use") (t := "call") (b := false) (by decide +kernel) M
  have c3 := fun M => eqW (s := "op") (t := "call") (b := false) (by decide +kernel) M
  have c4 := fun M => eqW (s := "let") (t := "call") (b := false) (by decide +kernel) M
  have c5 := fun M => eqW (s := "if") (t := "call") (b := false) (by decide +kernel) M
  have c6 := fun M => eqW (s := "times") (t := "call") (b := false) (by decide +kernel) M
  have c7 := fun M => eqW (s := "tell") (t := "call") (b := false) (by decide +kernel) M
  have c8 := fun M => eqW (s := "stop") (t := "call") (b := false) (by decide +kernel) M
  have c9 := fun M => eqW (s := "call") (t := "call") (b := true) (by decide +kernel) M
  have t1 : tabFind k_SPOTS "num" = some (.kt []) := rfl
  have t2 : tabFind k_SPOTS "use" = some (.kt []) := rfl
  have t3 : tabFind k_SPOTS "op" = some (.kt [.int 2, .int 3]) := rfl
  have t4 : tabFind k_SPOTS "let" = some (.kt [.int 2, .int 3]) := rfl
  have t5 : tabFind k_SPOTS "if" = some (.kt [.int 1, .int 2, .int 3]) := rfl
  have t6 : tabFind k_SPOTS "times" = some (.kt [.int 1, .int 4, .int 5]) := rfl
  have t7 : tabFind k_SPOTS "tell" = some (.kt [.int 1, .int 2]) := rfl
  have t8 : tabFind k_SPOTS "stop" = some (.kt [.int 1]) := rfl
  cases e <;> simp [runF, m_parts, startD, Ex.toD, Ex.parts, c1, c2, c3, c4, c5, c6, c7, c8, c9, t1, t2, t3, t4, t5, t6, t7, t8, listD, elemsD, itemsD, lcGo, wipeD, Ex.toDs_eq]
end K18
namespace K18
open PySem L2 TP
set_option maxHeartbeats 2000000
abbrev KV := List (List Key × D)
abbrev ky (m f : Str) : List Key := [.inr m, .inr f]
def goodSg : Str → Bool := fun s => okStr s
/-- is it quiet by its head -/
def qh (kn : Str → Str → Bool) : Ex → Bool
  | .op s _ _ => !([D.str "/", D.str "&"].any fun d => eqvD d (.str s))
  | .times (.num n) _ _ _ _ => decide (0 ≤ n) && decide (n ≤ 1000)
  | .times _ _ _ _ _ => false
  | .tell _ _ => false
  | .stop _ => false
  | .call m f _ => kn m f
  | _ => true
mutual
def qv (kn : Str → Str → Bool) : Ex → Bool
  | .num n => true
  | .use x => true
  | .op s a b => qh kn (.op s a b) && (qv kn a && qv kn b)
  | .lt x a b => qv kn a && qv kn b
  | .ite a b c => qv kn a && (qv kn b && qv kn c)
  | .times a i s b c => qh kn (.times a i s b c) && (qv kn a && (qv kn b && qv kn c))
  | .tell a b => false
  | .stop a => false
  | .call m f as => kn m f && qvs kn as
def qvs (kn : Str → Str → Bool) : List Ex → Bool
  | [] => true
  | e :: es => qv kn e && qvs kn es
end
theorem qvs_eq (kn : Str → Str → Bool) : ∀ es, qvs kn es = es.all (qv kn)
  | [] => rfl
  | e :: es => by rw [qvs, qvs_eq kn es, List.all_cons]
theorem qv_eq (kn : Str → Str → Bool) (e : Ex) : qv kn e = (qh kn e && e.parts.all (qv kn)) := by
  cases e <;> simp [qv, qh, Ex.parts, qvs_eq]
mutual
/-- all that it calls is known -/
def Kn (kvs : KV) (kn : Str → Str → Bool) : Ex → Prop
  | .num n => True
  | .use x => True
  | .op s a b => Kn kvs kn a ∧ Kn kvs kn b
  | .lt x a b => Kn kvs kn a ∧ Kn kvs kn b
  | .ite a b c => Kn kvs kn a ∧ Kn kvs kn b ∧ Kn kvs kn c
  | .times a i s b c => Kn kvs kn a ∧ Kn kvs kn b ∧ Kn kvs kn c
  | .tell a b => Kn kvs kn a ∧ Kn kvs kn b
  | .stop a => Kn kvs kn a
  | .call m f as => lookD kvs (ky m f) = some (.bl (kn m f)) ∧ as.length ≤ 1000 ∧ Kns kvs kn as
def Kns (kvs : KV) (kn : Str → Str → Bool) : List Ex → Prop
  | [] => True
  | e :: es => Kn kvs kn e ∧ Kns kvs kn es
end
theorem Kns_mem {kvs : KV} {kn : Str → Str → Bool} : ∀ {es : List Ex} {e : Ex}, Kns kvs kn es → e ∈ es → Kn kvs kn e
  | e' :: es, e, h, hm => by
    rw [Kns] at h
    rcases List.mem_cons.mp hm with rfl | hm
    · exact h.1
    · exact Kns_mem h.2 hm
theorem Kn_parts {kvs : KV} {kn : Str → Str → Bool} {e p : Ex} (h : Kn kvs kn e) (hp : p ∈ e.parts) : Kn kvs kn p := by
  cases e <;> simp only [Ex.parts, List.mem_cons, List.not_mem_nil, or_false] at hp <;> rw [Kn] at h
  case op => rcases hp with rfl | rfl; exact h.1; exact h.2
  case lt => rcases hp with rfl | rfl; exact h.1; exact h.2
  case ite => rcases hp with rfl | rfl | rfl; exact h.1; exact h.2.1; exact h.2.2
  case times => rcases hp with rfl | rfl | rfl; exact h.1; exact h.2.1; exact h.2.2
  case tell => rcases hp with rfl | rfl; exact h.1; exact h.2
  case stop => subst hp; exact h
  case call => exact Kns_mem h.2.2 hp
theorem Kn_len {kvs : KV} {kn : Str → Str → Bool} {e : Ex} (h : Kn kvs kn e) : e.parts.length ≤ 1000 := by
  cases e <;> simp only [Ex.parts, List.length_cons, List.length_nil, Nat.reduceAdd, Nat.reduceLeDiff, Nat.zero_le]
  rw [Kn] at h
  exact h.2.1
theorem inLoud (M : Store) (z : Str) : inD M (.str z) k_LOUD = some (.val (.bl ([D.str "tell", D.str "stop"].any fun d => eqvD d (.str z)))) := rfl
theorem inRisky (M : Store) (z : Str) : inD M (.str z) k_RISKY = some (.val (.bl ([D.str "/", D.str "&"].any fun d => eqvD d (.str z)))) := rfl
theorem eqv_dec {s t : Str} {b : Bool} (h : decide (s = t) = b) : eqvD (.str s) (.str t) = b := by rw [eqvD_str, h]
theorem loud {z : Str} {b : Bool} (h : (decide ("tell" = z) || decide ("stop" = z)) = b) : ([D.str "tell", D.str "stop"].any fun d => eqvD d (.str z)) = b := by
  rw [List.any_cons, List.any_cons, List.any_nil, eqvD_str, eqvD_str, Bool.or_false, h]
theorem head_ok (k : Nat) (e : Ex) (j : Nat) (M : Store) (kvs : KV) (kn : Str → Str → Bool) (hj : M[j]? = some (.dT kvs)) (h : Kn kvs kn e) : sem (k + 1) f_quiet_head [e.toD, .ref j] M = .ok (.val (.bl (qh kn e))) M := by
  rw [e_quiet_head]
  have c1 := fun M => eqW (s := "num") (t := "call") (b := false) (by decide +kernel) M
  have c2 := fun M => eqW (s := "use") (t := "call") (b := false) (by decide +kernel) M
  have c3 := fun M => eqW (s := "op") (t := "call") (b := false) (by decide +kernel) M
  have c4 := fun M => eqW (s := "let") (t := "call") (b := false) (by decide +kernel) M
  have c5 := fun M => eqW (s := "if") (t := "call") (b := false) (by decide +kernel) M
  have c6 := fun M => eqW (s := "times") (t := "call") (b := false) (by decide +kernel) M
  have c7 := fun M => eqW (s := "tell") (t := "call") (b := false) (by decide +kernel) M
  have c8 := fun M => eqW (s := "stop") (t := "call") (b := false) (by decide +kernel) M
  have c9 := fun M => eqW (s := "call") (t := "call") (b := true) (by decide +kernel) M
  have p1 := fun M => eqW (s := "num") (t := "op") (b := false) (by decide +kernel) M
  have p2 := fun M => eqW (s := "use") (t := "op") (b := false) (by decide +kernel) M
  have p3 := fun M => eqW (s := "op") (t := "op") (b := true) (by decide +kernel) M
  have p4 := fun M => eqW (s := "let") (t := "op") (b := false) (by decide +kernel) M
  have p5 := fun M => eqW (s := "if") (t := "op") (b := false) (by decide +kernel) M
  have p6 := fun M => eqW (s := "times") (t := "op") (b := false) (by decide +kernel) M
  have p9 := fun M => eqW (s := "call") (t := "op") (b := false) (by decide +kernel) M
  have t1 := fun M => eqW (s := "num") (t := "times") (b := false) (by decide +kernel) M
  have t2 := fun M => eqW (s := "use") (t := "times") (b := false) (by decide +kernel) M
  have t3 := fun M => eqW (s := "op") (t := "times") (b := false) (by decide +kernel) M
  have t4 := fun M => eqW (s := "let") (t := "times") (b := false) (by decide +kernel) M
  have t5 := fun M => eqW (s := "if") (t := "times") (b := false) (by decide +kernel) M
  have t6 := fun M => eqW (s := "times") (t := "times") (b := true) (by decide +kernel) M
  have l1 := loud (z := "num") (b := false) (by decide +kernel)
  have l2 := loud (z := "use") (b := false) (by decide +kernel)
  have l3 := loud (z := "op") (b := false) (by decide +kernel)
  have l4 := loud (z := "let") (b := false) (by decide +kernel)
  have l5 := loud (z := "if") (b := false) (by decide +kernel)
  have l6 := loud (z := "times") (b := false) (by decide +kernel)
  have l7 := loud (z := "tell") (b := true) (by decide +kernel)
  have l8 := loud (z := "stop") (b := true) (by decide +kernel)
  have l9 := loud (z := "call") (b := false) (by decide +kernel)
  cases e with
  | num n => simp [runF, m_quiet_head, startD, Ex.toD, qh, c1, p1, t1, inLoud, l1]
  | use n => simp [runF, m_quiet_head, startD, Ex.toD, qh, c2, p2, t2, inLoud, l2]
  | op s a b => 
    simp only [qh]
    cases hr : [D.str "/", D.str "&"].any fun d => eqvD d (.str s) <;> simp [runF, m_quiet_head, startD, Ex.toD, c3, p3, t3, inLoud, l3, inRisky, hr]
  | lt x a b => simp [runF, m_quiet_head, startD, Ex.toD, qh, c4, p4, t4, inLoud, l4]
  | ite a b c => simp [runF, m_quiet_head, startD, Ex.toD, qh, c5, p5, t5, inLoud, l5]
  | times a i s b c =>
    have n1 := fun M => eqW (s := "num") (t := "num") (b := true) (by decide +kernel) M
    have n2 := fun M => eqW (s := "use") (t := "num") (b := false) (by decide +kernel) M
    have n3 := fun M => eqW (s := "op") (t := "num") (b := false) (by decide +kernel) M
    have n4 := fun M => eqW (s := "let") (t := "num") (b := false) (by decide +kernel) M
    have n5 := fun M => eqW (s := "if") (t := "num") (b := false) (by decide +kernel) M
    have n6 := fun M => eqW (s := "times") (t := "num") (b := false) (by decide +kernel) M
    have n7 := fun M => eqW (s := "tell") (t := "num") (b := false) (by decide +kernel) M
    have n8 := fun M => eqW (s := "stop") (t := "num") (b := false) (by decide +kernel) M
    have n9 := fun M => eqW (s := "call") (t := "num") (b := false) (by decide +kernel) M
    cases a with
    | num n => 
      simp only [qh]
      by_cases h0 : 0 ≤ n
      · simp [runF, m_quiet_head, startD, Ex.toD, qh, c6, p6, t6, inLoud, l6, n1, h0]
      · simp [runF, m_quiet_head, startD, Ex.toD, qh, c6, p6, t6, inLoud, l6, n1, h0]
    | _ => simp [runF, m_quiet_head, startD, Ex.toD, qh, c6, p6, t6, inLoud, l6, n1, n2, n3, n4, n5, n6, n7, n8, n9]
  | tell a b => simp [runF, m_quiet_head, startD, Ex.toD, qh, c7, inLoud, l7]
  | stop a => simp [runF, m_quiet_head, startD, Ex.toD, qh, c8, inLoud, l8]
  | call m f as =>
    rw [Kn] at h
    simp [runF, m_quiet_head, startD, Ex.toD, qh, c9, p9, inLoud, l9, slD, cut13, dgetD, dGetO, hj, keysD, keyD, h.1]
theorem bls_map (f : Ex → Bool) : ∀ l : List Ex, blsOf (l.map fun c => .bl (f c)) = some (l.map f)
  | [] => rfl
  | c :: l => by simp [blsOf, bls_map f l]
theorem by_ok : ∀ (n : Nat) (e : Ex) (j : Nat) (M : Store) (kvs : KV) (kn : Str → Str → Bool) (hj : M[j]? = some (.dT kvs)) (h : Kn kvs kn e) (hn : e.dep ≤ n), sem (n + 2) f_quiet_by [e.toD, .ref j] M = .ok (.val (.bl (qv kn e))) M
  | n, e, j, M, kvs, kn, hj, h, hn => by
    rw [e_quiet_by, qv_eq]
    have hh := head_ok n e j M kvs kn hj h
    cases hq : qh kn e with
    | false =>
      rw [hq] at hh
      simp [runF, m_quiet_by, startD, hh]
    | true =>
      rw [hq] at hh
      have hp := parts_ok n e M
      have hl : lcGo (bName 2) dYes (dEF (dCall 2 (sem (n + 1) f_quiet_by) (dCons (dVar 2) (dCons (dVar 1) dNil)))) [Slot.val e.toD, Slot.val (.ref j), Slot.un] (e.parts.map Ex.toD) [] M = .ok (e.parts.map fun p => .bl (qv kn p)) M := by
        have key : ∀ (ps : List Ex) (acc : List D), (∀ p ∈ ps, p ∈ e.parts) → acc.length + ps.length ≤ 1000 → lcGo (bName 2) dYes (dEF (dCall 2 (sem (n + 1) f_quiet_by) (dCons (dVar 2) (dCons (dVar 1) dNil)))) [Slot.val e.toD, Slot.val (.ref j), Slot.un] (ps.map Ex.toD) acc M = .ok (acc ++ ps.map fun p => .bl (qv kn p)) M := by
          intro ps
          induction ps with
          | nil => intro acc _ _; simp [lcGo]
          | cons p ps ih =>
            intro acc hps hl
            have hpe := hps p List.mem_cons_self
            have hd := Ex.parts_dep hpe
            obtain ⟨n', rfl⟩ : ∃ n', n = n' + 1 := ⟨n - 1, by omega⟩
            have h1 := by_ok n' p j M kvs kn hj (Kn_parts h hpe) (by omega)
            rw [List.map_cons]
            unfold lcGo
            rw [List.length_cons] at hl
            simp [h1]
            rw [if_pos (by omega), ih _ (fun q hq => hps q (List.mem_cons_of_mem _ hq)) (by simp; omega), List.append_assoc]
            rfl
        have := key e.parts [] (fun _ h => h) (by simpa using Kn_len h)
        simpa using this
      simp [runF, m_quiet_by, startD, hh, hp, itemsD, wipeD, hl, allD, seqOf, lstOf, bls_map]
  termination_by n => n
end K18
namespace K18
open PySem L2 TP
set_option maxHeartbeats 2000000
structure Row where
  f : Str
  ps : List Str
  b : Ex
def Row.toD (r : Row) : D := .tup [.str r.f, .tup (r.ps.map .str), r.b.toD]
abbrev Pr := List (Str × List Row)
def modD (m : Str × List Row) : D := .tup [.str m.1, .tup (m.2.map Row.toD)]
def prD (P : Pr) : D := .tup (P.map modD)
def flat : Pr → List (Str × Row)
  | [] => []
  | (m, rs) :: P => rs.map (fun r => (m, r)) ++ flat P
def fnD (x : Str × Row) : D := .tup [.str x.1, .str x.2.f, .tup (x.2.ps.map .str), x.2.b.toD]
theorem row_add (M : Store) (m : Str) (r : Row) : addD M (.tup [.str m]) r.toD = some (.val (fnD (m, r))) := by simp [Row.toD, addD, fnD]
theorem rows_ok (m : Str) (a b c : Slot) (M : Store) : ∀ (rs : List Row) (acc : List D), acc.length + rs.length ≤ 1000 →
    lcGo (bName 4) dYes (dEF (dOp2 addD (dTup (dCons (dVar 2) dNil)) (dVarB 4))) [a, b, .val (.str m), c, .un] (rs.map Row.toD) acc M = .ok (acc ++ (rs.map fun r => fnD (m, r))) M := by
  intro rs
  induction rs with
  | nil => intro acc _; simp [lcGo]
  | cons r rs ih =>
    intro acc hl
    rw [List.length_cons] at hl
    rw [List.map_cons]
    unfold lcGo
    simp [row_add]
    rw [if_pos (by omega), ih _ (by simp; omega), List.append_assoc]
    rfl
theorem functions_ok (k : Nat) (P : Pr) (M : Store) (hl : (flat P).length ≤ 1000) : sem (k + 1) f_functions [prD P] M = .ok (.own ((flat P).map fnD)) M := by
  rw [e_functions]
  have key : ∀ (Q : Pr) (a c d : Slot) (acc : List D), acc.length + (flat Q).length ≤ 1000 → ∃ c' d', forGo (bTup [2, 3]) (sSeq (sExt 1 (dEF (dLc (dIt (dVar 3)) (bName 4) dYes (dEF (dOp2 addD (dTup (dCons (dVar 2) dNil)) (dVarB 4))) [4]))) sNil) (Q.map modD) [a, .own acc, c, d, .un] M = .next [a, .own (acc ++ (flat Q).map fnD), c', d', .un] M := by
    intro Q
    induction Q with
    | nil => intro a c d acc _; exact ⟨c, d, by simp [forGo, flat]⟩
    | cons q Q ih =>
      intro a c d acc hl
      obtain ⟨m, rs⟩ := q
      simp only [flat, List.length_append, List.length_map] at hl
      obtain ⟨c', d', h⟩ := ih a (.val (.str m)) (.val (.tup (rs.map Row.toD))) (acc ++ rs.map fun r => fnD (m, r)) (by simp; omega)
      refine ⟨c', d', ?_⟩
      have hr := rows_ok m a (.own acc) (.val (.tup (rs.map Row.toD))) M rs [] (by simp; omega)
      rw [List.map_cons]
      unfold forGo
      simp [modD, bTup, bNames, itemsD, wipeD, hr, lstOf]
      rw [if_pos (by omega)]
      simp only
      rw [h]
      simp [flat]
  obtain ⟨c', d', h⟩ := key P (.val (prD P)) .un .un [] (by simpa using hl)
  simp [runF, m_functions, startD]
  simp [prD, itemsD]
  rw [← prD, h]
  simp
def knOf (kvs : KV) (m f : Str) : Bool := match lookD kvs (ky m f) with
  | some (.bl b) => b
  | _ => false
def qf : KV → List (Str × Row) → KV
  | kvs, [] => kvs
  | kvs, x :: xs => qf (putD kvs (ky x.1 x.2.f) (.bl (qv (knOf kvs) x.2.b))) xs
def KnAll (n : Nat) : KV → List (Str × Row) → Prop
  | kvs, [] => True
  | kvs, x :: xs => Kn kvs (knOf kvs) x.2.b ∧ x.2.b.dep ≤ n ∧ KnAll n (putD kvs (ky x.1 x.2.f) (.bl (qv (knOf kvs) x.2.b))) xs
theorem putD_len (kvs : KV) (k : List Key) (d : D) : (putD kvs k d).length ≤ kvs.length + 1 := by
  unfold putD
  split
  · rw [List.length_map]; omega
  · rw [List.length_append]; exact Nat.le_refl _
theorem known_ok (n : Nat) (P : Pr) (M : Store) (hl : (flat P).length ≤ 1000) (hk : KnAll n [] (flat P)) : sem (n + 3) f_quiet_functions [prD P] M = .ok (.val (.ref M.length)) (M ++ [.dT (qf [] (flat P))]) := by
  rw [e_quiet_functions]
  have key : ∀ (xs : List (Str × Row)) (a c d e f : Slot) (kvs : KV), kvs.length + xs.length ≤ 1000 → KnAll n kvs xs → ∃ c' d' e' f', forGo (bTup [2, 3, 4, 5]) (sSeq (sPutD (dEF (dCall 2 (sem (n + 2) f_quiet_by) (dCons (dVar 5) (dCons (dVar 1) dNil)))) (dVarB 1) (dTup (dCons (dVar 2) (dCons (dVar 3) dNil)))) sNil) (xs.map fnD) [a, .val (.ref M.length), c, d, e, f] (M ++ [.dT kvs]) = .next [a, .val (.ref M.length), c', d', e', f'] (M ++ [.dT (qf kvs xs)]) := by
    intro xs
    induction xs with
    | nil => intro a c d e f kvs _ _; exact ⟨c, d, e, f, by simp [forGo, qf]⟩
    | cons x xs ih =>
      intro a c d e f kvs hl hk
      rw [List.length_cons] at hl
      obtain ⟨h1, h2, h3⟩ := hk
      obtain ⟨c', d', e', f', h⟩ := ih a (.val (.str x.1)) (.val (.str x.2.f)) (.val (.tup (x.2.ps.map .str))) (.val x.2.b.toD) _ (by have := putD_len kvs (ky x.1 x.2.f) (.bl (qv (knOf kvs) x.2.b)); omega) h3
      refine ⟨c', d', e', f', ?_⟩
      have hb := by_ok n x.2.b M.length (M ++ [.dT kvs]) kvs (knOf kvs) (at_end M _) h1 h2
      rw [List.map_cons]
      unfold forGo
      simp [fnD, bTup, bNames, hb, dPutM, at_end, keysD, keyD, set_end]
      rw [if_pos (by omega)]
      exact h
  obtain ⟨c', d', e', f', h⟩ := key (flat P) (.val (prD P)) .un .un .un .un [] (by simpa using hl) hk
  simp [runF, m_quiet_functions, startD, functions_ok (n + 1) P _ hl, itemsD, h]
theorem quiet_ok (n : Nat) (P : Pr) (e : Ex) (M : Store) (hl : (flat P).length ≤ 1000) (hk : KnAll n [] (flat P)) (he : Kn (qf [] (flat P)) (knOf (qf [] (flat P))) e) (hd : e.dep ≤ n) :
    sem (n + 4) f_is_quiet [prD P, e.toD] M = .ok (.val (.bl (qv (knOf (qf [] (flat P))) e))) (M ++ [.dT (qf [] (flat P))]) := by
  rw [e_is_quiet]
  have h1 := known_ok n P M hl hk
  have h2 := by_ok (n + 1) e M.length (M ++ [.dT (qf [] (flat P))]) _ _ (at_end M _) he (by omega)
  simp [runF, m_is_quiet, startD, h1, h2]
end K18
namespace K18
open PySem L2 TP
set_option maxHeartbeats 2000000
open Ex
def xE : Ex := .use "x"
def aheadR : List Row := [⟨"calm", ["x"], .op "+" xE (.num 1)⟩, ⟨"still", ["x"], .call "m" "calm" [xE]⟩, ⟨"tells", ["x"], .tell xE xE⟩,
  ⟨"stops", ["x"], .ite (.num 0) (.stop xE) xE⟩, ⟨"over", ["x"], .op "/" xE (.num 2)⟩, ⟨"far", ["x"], .times xE "i" "s" xE xE⟩, ⟨"again", ["x"], .call "m" "tells" [xE]⟩,
  ⟨"more", ["x"], .lt "y" (.call "m" "again" [xE]) xE⟩]
theorem ahead_ok (k : Nat) (M : Store) : sem (k + 1) f__law_ahead [] M = .ok (.val (.tup (aheadR.map Row.toD))) M := by
  rw [e__law_ahead]
  kernel_rfl
def someL (o : Ex) : List (Ex × Bool) := 
  [(o, true), (xE, true), (.op "+" o xE, true), (.op "-" o xE, true), (.op "*" o xE, true), (.op "=" o xE, true), (.op "<" o xE, true), (.lt "x" o xE, true), (.ite o xE o, true),
   (.times (.num 0) "i" "s" o xE, true), (.times (.num 1) "i" "s" o xE, true), (.times (.num 1000) "i" "s" o xE, true), (.call "m" "calm" [o], true), (.call "m" "still" [xE], true),
   (.op "/" o (.num 1), false), (.op "&" xE (.num 7), false), (.tell o xE, false), (.stop xE, false),
   (.times (.num (-1)) "i" "s" o xE, false), (.times (.num 1001) "i" "s" o xE, false), (.times (.num (10 ^ 30)) "i" "s" o xE, false), (.times xE "i" "s" o xE, false),
   (.times (.op "+" (.num 1) (.num 1)) "i" "s" o xE, false), (.times (.lt "i" o (.num 2)) "i" "s" o xE, false),
   (.call "m" "tells" [o], false), (.call "m" "stops" [o], false), (.call "m" "over" [o], false), (.call "m" "far" [o], false), (.call "m" "again" [o], false), (.call "m" "more" [o], false)]
def pairD (p : Ex × Bool) : D := .tup [p.1.toD, .bl p.2]
theorem some_pre (Φ : Nat → Fn) (n : Int) (M : Store) : ∃ a b c d e f g, m__law_some Φ (startD 10 [.int n]) M = (sSeq (sRet (dOp2 idxD (dVarB 3) (dEF (dOp2 TP.modD (dVarB 0) (dC (.int 30)))))) sNil) [.val (.int n), a, b, .val (.lst ((someL (.num (n / 30 % 2000 - 1000))).map pairD)), c, d, e, f, g, .un] M :=
  ⟨.val (.lst (((someL (.num (n / 30 % 2000 - 1000))).take 14).map fun p => p.1.toD)), .val (.lst (((someL (.num (n / 30 % 2000 - 1000))).drop 14).map fun p => p.1.toD)), .val (Ex.num (n / 30 % 2000 - 1000)).toD, .val xE.toD, .un, .un, .un, by kernel_rfl⟩
theorem some_ok (k : Nat) (n : Int) (M : Store) (p : Ex × Bool) (h : atI ((someL (.num (n / 30 % 2000 - 1000))).map pairD) (n % 30) = some (pairD p)) : sem (k + 1) f__law_some [.int n] M = .ok (.val (pairD p)) M := by
  rw [e__law_some]
  obtain ⟨a, b, c, d, e, f, g, h1⟩ := some_pre (sem k) n M
  unfold runF
  rw [h1]
  simp [h]
end K18
namespace K18
open PySem L2 TP
set_option maxHeartbeats 2000000
open Ex
mutual
def knB (kvs : KV) : Ex → Bool
  | .num n => true
  | .use x => true
  | .op s a b => knB kvs a && knB kvs b
  | .lt x a b => knB kvs a && knB kvs b
  | .ite a b c => knB kvs a && (knB kvs b && knB kvs c)
  | .times a i s b c => knB kvs a && (knB kvs b && knB kvs c)
  | .tell a b => knB kvs a && knB kvs b
  | .stop a => knB kvs a
  | .call m f as => (match lookD kvs (ky m f) with | some (.bl _) => true | _ => false) && (decide (as.length ≤ 1000) && knBs kvs as)
def knBs (kvs : KV) : List Ex → Bool
  | [] => true
  | e :: es => knB kvs e && knBs kvs es
end
mutual
theorem knB_ok (kvs : KV) : ∀ e, knB kvs e = true → Kn kvs (knOf kvs) e
  | .num n, _ => by rw [Kn]; trivial
  | .use x, _ => by rw [Kn]; trivial
  | .op s a b, h => by rw [knB, Bool.and_eq_true] at h; rw [Kn]; exact ⟨knB_ok kvs a h.1, knB_ok kvs b h.2⟩
  | .lt s a b, h => by rw [knB, Bool.and_eq_true] at h; rw [Kn]; exact ⟨knB_ok kvs a h.1, knB_ok kvs b h.2⟩
  | .ite a b c, h => by rw [knB, Bool.and_eq_true, Bool.and_eq_true] at h; rw [Kn]; exact ⟨knB_ok kvs a h.1, knB_ok kvs b h.2.1, knB_ok kvs c h.2.2⟩
  | .times a i s b c, h => by rw [knB, Bool.and_eq_true, Bool.and_eq_true] at h; rw [Kn]; exact ⟨knB_ok kvs a h.1, knB_ok kvs b h.2.1, knB_ok kvs c h.2.2⟩
  | .tell a b, h => by rw [knB, Bool.and_eq_true] at h; rw [Kn]; exact ⟨knB_ok kvs a h.1, knB_ok kvs b h.2⟩
  | .stop a, h => by rw [knB] at h; rw [Kn]; exact knB_ok kvs a h
  | .call m f as, h => by
    rw [knB, Bool.and_eq_true, Bool.and_eq_true] at h
    rw [Kn]
    refine ⟨?_, by simpa using h.2.1, knBs_ok kvs as h.2.2⟩
    have h1 := h.1
    unfold knOf
    split at h1
    · rename_i b hb
      rw [hb]
    · cases h1
theorem knBs_ok (kvs : KV) : ∀ es, knBs kvs es = true → Kns kvs (knOf kvs) es
  | [], _ => by rw [Kns]; trivial
  | e :: es, h => by rw [knBs, Bool.and_eq_true] at h; rw [Kns]; exact ⟨knB_ok kvs e h.1, knBs_ok kvs es h.2⟩
end
def knAllB (n : Nat) : KV → List (Str × Row) → Bool
  | kvs, [] => true
  | kvs, x :: xs => knB kvs x.2.b && (decide (x.2.b.dep ≤ n) && knAllB n (putD kvs (ky x.1 x.2.f) (.bl (qv (knOf kvs) x.2.b))) xs)
theorem knAllB_ok (n : Nat) : ∀ (xs : List (Str × Row)) (kvs : KV), knAllB n kvs xs = true → KnAll n kvs xs
  | [], _, _ => True.intro
  | x :: xs, kvs, h => by
    rw [knAllB, Bool.and_eq_true, Bool.and_eq_true] at h
    exact ⟨knB_ok kvs _ h.1, by simpa using h.2.1, knAllB_ok n xs _ h.2.2⟩
theorem knAllB_app (n : Nat) : ∀ (xs ys : List (Str × Row)) (kvs : KV), knAllB n kvs (xs ++ ys) = (knAllB n kvs xs && knAllB n (qf kvs xs) ys)
  | [], ys, kvs => by simp [knAllB, qf]
  | x :: xs, ys, kvs => by
    rw [List.cons_append, knAllB, knAllB_app n xs ys, knAllB, qf]
    simp [Bool.and_assoc]
theorem qf_app : ∀ (xs ys : List (Str × Row)) (kvs : KV), qf kvs (xs ++ ys) = qf (qf kvs xs) ys
  | [], ys, kvs => rfl
  | x :: xs, ys, kvs => by rw [List.cons_append, qf, qf_app xs ys, qf]
/-- more is known -/
def Le (a b : KV) : Prop := ∀ m f d, lookD a (ky m f) = some d → lookD b (ky m f) = some d
mutual
theorem le_kn {a b : KV} (h : Le a b) : ∀ e, knB a e = true → knB b e = true ∧ qv (knOf b) e = qv (knOf a) e
  | .num n, _ => by simp [knB, qv]
  | .use x, _ => by simp [knB, qv]
  | .op s x y, hk => by
    rw [knB, Bool.and_eq_true] at hk
    obtain ⟨h1, h2⟩ := le_kn h x hk.1
    obtain ⟨h3, h4⟩ := le_kn h y hk.2
    simp [knB, qv, qh, h1, h2, h3, h4]
  | .lt s x y, hk => by
    rw [knB, Bool.and_eq_true] at hk
    obtain ⟨h1, h2⟩ := le_kn h x hk.1
    obtain ⟨h3, h4⟩ := le_kn h y hk.2
    simp [knB, qv, h1, h2, h3, h4]
  | .ite x y z, hk => by
    rw [knB, Bool.and_eq_true, Bool.and_eq_true] at hk
    obtain ⟨h1, h2⟩ := le_kn h x hk.1
    obtain ⟨h3, h4⟩ := le_kn h y hk.2.1
    obtain ⟨h5, h6⟩ := le_kn h z hk.2.2
    simp [knB, qv, h1, h2, h3, h4, h5, h6]
  | .times x i s y z, hk => by
    rw [knB, Bool.and_eq_true, Bool.and_eq_true] at hk
    obtain ⟨h1, h2⟩ := le_kn h x hk.1
    obtain ⟨h3, h4⟩ := le_kn h y hk.2.1
    obtain ⟨h5, h6⟩ := le_kn h z hk.2.2
    have : qh (knOf b) (.times x i s y z) = qh (knOf a) (.times x i s y z) := by cases x <;> rfl
    simp [knB, qv, this, h1, h2, h3, h4, h5, h6]
  | .tell x y, hk => by
    rw [knB, Bool.and_eq_true] at hk
    obtain ⟨h1, h2⟩ := le_kn h x hk.1
    obtain ⟨h3, h4⟩ := le_kn h y hk.2
    simp [knB, qv, h1, h2, h3, h4]
  | .stop x, hk => by
    rw [knB] at hk
    obtain ⟨h1, h2⟩ := le_kn h x hk
    simp [knB, qv, h1]
  | .call m f as, hk => by
    rw [knB, Bool.and_eq_true, Bool.and_eq_true] at hk
    obtain ⟨h1, h2⟩ := les_kn h as hk.2.2
    have h3 := hk.1
    split at h3
    · rename_i q hq
      have h4 := h _ _ _ hq
      simp [knB, qv, knOf, hq, h4, h1, h2]
      simpa using hk.2.1
    · cases h3
theorem les_kn {a b : KV} (h : Le a b) : ∀ es, knBs a es = true → knBs b es = true ∧ qvs (knOf b) es = qvs (knOf a) es
  | [], _ => by simp [knBs, qvs]
  | e :: es, hk => by
    rw [knBs, Bool.and_eq_true] at hk
    obtain ⟨h1, h2⟩ := le_kn h e hk.1
    obtain ⟨h3, h4⟩ := les_kn h es hk.2
    simp [knBs, qvs, h1, h2, h3, h4]
end
theorem le_app (a b : KV) : Le a (a ++ b) := by
  intro m f d h
  unfold lookD at *
  rw [List.find?_append]
  cases q : a.find? fun kv => decide (kv.1 = ky m f) with
  | none => rw [q] at h; cases h
  | some x => rw [q] at h; exact h
def kv8 : KV := qf [] (flat [("m", aheadR)])
theorem kv8_eq : kv8 = [(ky "m" "calm", .bl true), (ky "m" "still", .bl true), (ky "m" "tells", .bl false), (ky "m" "stops", .bl false), (ky "m" "over", .bl false), (ky "m" "far", .bl false), (ky "m" "again", .bl false), (ky "m" "more", .bl false)] := by kernel_rfl
theorem kn8 : knAllB 55 [] (flat [("m", aheadR)]) = true := by kernel_rfl
theorem some_all (v : Int) : ((someL (.num v)).all fun p => knB kv8 p.1 && ((qv (knOf kv8) p.1 == p.2) && decide (p.1.dep ≤ 2))) = true := by kernel_rfl
def lastR (e : Ex) : Row := ⟨"last", ["x"], e⟩
def byR : Row := ⟨"by", ["x"], .op "+" (.call "m" "last" [.num 2]) (.num 1)⟩
def progR (e : Ex) : Pr := [("m", aheadR ++ [lastR e, byR])]
def kv10 (q : Bool) : KV := kv8 ++ [(ky "m" "last", .bl q), (ky "m" "by", .bl q)]
theorem flat_prog (e : Ex) : flat (progR e) = flat [("m", aheadR)] ++ [(("m" : Str), lastR e), (("m" : Str), byR)] := rfl
theorem put9 (q : Bool) : putD kv8 (ky "m" "last") (.bl q) = kv8 ++ [(ky "m" "last", .bl q)] := by
  rw [kv8_eq]; kernel_rfl
theorem put10 (q q2 : Bool) : putD (kv8 ++ [(ky "m" "last", .bl q)]) (ky "m" "by") (.bl q2) = kv8 ++ [(ky "m" "last", .bl q), (ky "m" "by", .bl q2)] := by
  rw [kv8_eq]; kernel_rfl
theorem byq (q : Bool) : qv (knOf (kv8 ++ [(ky "m" "last", .bl q)])) byR.b = q := by
  cases q <;> rw [kv8_eq] <;> kernel_rfl
theorem qf_prog (e : Ex) : qf [] (flat (progR e)) = kv10 (qv (knOf kv8) e) := by
  rw [flat_prog, qf_app, ← kv8, qf, qf, qf]
  show putD (putD kv8 (ky "m" "last") (.bl (qv (knOf kv8) e))) (ky "m" "by") (.bl (qv (knOf (putD kv8 (ky "m" "last") (.bl (qv (knOf kv8) e)))) byR.b)) = _
  rw [put9, byq, put10]
  rfl
theorem kn_prog (e : Ex) (hk : knB kv8 e = true) (hd : e.dep ≤ 55) : KnAll 55 [] (flat (progR e)) := by
  apply knAllB_ok
  rw [flat_prog, knAllB_app, kn8, ← kv8, knAllB, knAllB, knAllB]
  show (true && (knB kv8 e && (decide (e.dep ≤ 55) && (knB (putD kv8 (ky "m" "last") (.bl (qv (knOf kv8) e))) byR.b && (decide (byR.b.dep ≤ 55) && true))))) = true
  rw [hk, decide_eq_true hd, put9]
  have h1 : ∀ q, knB (kv8 ++ [(ky "m" "last", .bl q)]) byR.b = true := fun q => by cases q <;> rw [kv8_eq] <;> kernel_rfl
  have h2 : decide (byR.b.dep ≤ 55) = true := by kernel_rfl
  rw [h1, h2]
  rfl
/-- what the law looks at: the expression, and the two calls -/
theorem look_ok (e t : Ex) (M : Store) (hk : knB kv8 e = true) (hd : e.dep ≤ 55) (ht : t = e ∨ t = .call "m" "last" [.num 2] ∨ t = .call "m" "by" [.use "x"]) :
    ∃ M', sem 59 f_is_quiet [prD (progR e), t.toD] M = .ok (.val (.bl (qv (knOf kv8) e))) (M ++ M') := by
  have key : knB (kv10 (qv (knOf kv8) e)) t = true ∧ qv (knOf (kv10 (qv (knOf kv8) e))) t = qv (knOf kv8) e ∧ t.dep ≤ 55 := by
    rcases ht with rfl | rfl | rfl
    · obtain ⟨h1, h2⟩ := le_kn (le_app kv8 [(ky "m" "last", .bl (qv (knOf kv8) t)), (ky "m" "by", .bl (qv (knOf kv8) t))]) t hk
      exact ⟨h1, h2, hd⟩
    · generalize qv (knOf kv8) e = q
      refine ⟨?_, ?_, ?_⟩
      · cases q <;> unfold kv10 <;> rw [kv8_eq] <;> kernel_rfl
      · cases q <;> unfold kv10 <;> rw [kv8_eq] <;> kernel_rfl
      · simp [Ex.dep, Ex.deps]
    · generalize qv (knOf kv8) e = q
      refine ⟨?_, ?_, ?_⟩
      · cases q <;> unfold kv10 <;> rw [kv8_eq] <;> kernel_rfl
      · cases q <;> unfold kv10 <;> rw [kv8_eq] <;> kernel_rfl
      · simp [Ex.dep, Ex.deps]
  have h := quiet_ok 55 (progR e) t M (by rw [flat_prog]; simp [flat, aheadR]) (kn_prog e hk hd) (by rw [qf_prog]; exact knB_ok _ _ key.1) key.2.2
  rw [qf_prog, key.2.1] at h
  exact ⟨_, h⟩
def framedL (v : Int) (e : Ex) : List Ex := [.op "+" e xE, .op "<" xE e, .lt "x" e xE, .lt "i" xE e, .ite e xE xE, .ite xE e xE, .ite xE xE e, .call "m" "calm" [e], .call "m" "still" [e], .times (.num v) "i" "s" e xE, .times (.num 3) "x" "s" xE e]
theorem risky {z : Str} {b : Bool} (h : (decide ("/" = z) || decide ("&" = z)) = b) : ([D.str "/", D.str "&"].any fun d => eqvD d (.str z)) = b := by
  rw [List.any_cons, List.any_cons, List.any_nil, eqvD_str, eqvD_str, Bool.or_false, h]
theorem framed_all (v : Int) (h0 : 0 ≤ v) (h1 : v ≤ 1000) (e f : Ex) (hf : f ∈ framedL v e) (hk : knB kv8 e = true) : knB kv8 f = true ∧ qv (knOf kv8) f = qv (knOf kv8) e ∧ f.dep ≤ e.dep + 1 := by
  have r1 := risky (z := "+") (b := false) (by decide +kernel)
  have r2 := risky (z := "<") (b := false) (by decide +kernel)
  have l1 : lookD kv8 (ky "m" "calm") = some (.bl true) := by kernel_rfl
  have l2 : lookD kv8 (ky "m" "still") = some (.bl true) := by kernel_rfl
  have k1 : knOf kv8 "m" "calm" = true := by kernel_rfl
  have k2 : knOf kv8 "m" "still" = true := by kernel_rfl
  unfold framedL at hf
  simp only [List.mem_cons, List.not_mem_nil, or_false] at hf
  rcases hf with rfl | rfl | rfl | rfl | rfl | rfl | rfl | rfl | rfl | rfl | rfl
  · refine ⟨by simp [knB, xE, hk], by simp only [qv, qh, xE, r1]; simp, by simp [Ex.dep, xE]⟩
  · refine ⟨by simp [knB, xE, hk], by simp only [qv, qh, xE, r2]; simp, by simp [Ex.dep, xE]⟩
  · refine ⟨by simp [knB, xE, hk], by simp [qv, xE], by simp [Ex.dep, xE]⟩
  · refine ⟨by simp [knB, xE, hk], by simp [qv, xE], by simp [Ex.dep, xE]⟩
  · refine ⟨by simp [knB, xE, hk], by simp [qv, xE], by simp [Ex.dep, xE]⟩
  · refine ⟨by simp [knB, xE, hk], by simp [qv, xE], by simp [Ex.dep, xE]⟩
  · refine ⟨by simp [knB, xE, hk], by simp [qv, xE], by simp [Ex.dep, xE]⟩
  · refine ⟨by simp [knB, knBs, l1, hk], by simp [qv, qvs, k1], by simp [Ex.dep, Ex.deps]⟩
  · refine ⟨by simp [knB, knBs, l2, hk], by simp [qv, qvs, k2], by simp [Ex.dep, Ex.deps]⟩
  · refine ⟨by simp [knB, xE, hk], by simp [qv, qh, xE, h0, h1], by simp [Ex.dep, xE]⟩
  · refine ⟨by simp [knB, xE, hk], by simp [qv, qh, xE], by simp [Ex.dep, xE]⟩
theorem framed_pre (Φ : Nat → Fn) (n : Int) (e : Ex) (M : Store) : ∃ a b, m__law_framed Φ (startD 4 [.int n, e.toD]) M = (sSeq (sRet (dOp2 idxD (dC (.lst ((framedL (n / 11 % 1001) e).map toD))) (dEF (dOp2 TP.modD (dVarB 0) (dC (.int 11)))))) sNil) [.val (.int n), .val e.toD, a, b] M :=
  ⟨.val xE.toD, .val (.lst (((framedL (n / 11 % 1001) e).take 9).map toD)), by kernel_rfl⟩
theorem framed_ok (k : Nat) (n : Int) (e : Ex) (M : Store) (hk : knB kv8 e = true) : ∃ f : Ex, sem (k + 1) f__law_framed [.int n, e.toD] M = .ok (.val f.toD) M ∧ knB kv8 f = true ∧ qv (knOf kv8) f = qv (knOf kv8) e ∧ f.dep ≤ e.dep + 1 := by
  obtain ⟨f, hf, hfa⟩ := atI_mem (xs := framedL (n / 11 % 1001) e) (i := n % 11) (by omega) (by show _ < (11 : Int); omega)
  have h := framed_all (n / 11 % 1001) (by omega) (by omega) e f hf hk
  refine ⟨f, ?_, h⟩
  rw [e__law_framed]
  obtain ⟨a, b, h1⟩ := framed_pre (sem k) n e M
  unfold runF
  rw [h1]
  have h2 := atI_map toD (framedL (n / 11 % 1001) e) (n % 11)
  rw [hfa] at h2
  simp [h2]
theorem some_is (k : Nat) (n : Int) (M : Store) : ∃ (e : Ex) (b : Bool), sem (k + 1) f__law_some [.int n] M = .ok (.val (.tup [e.toD, .bl b])) M ∧ knB kv8 e = true ∧ qv (knOf kv8) e = b ∧ e.dep ≤ 2 := by
  obtain ⟨p, hp, hpa⟩ := atI_mem (xs := someL (.num (n / 30 % 2000 - 1000))) (i := n % 30) (by omega) (by show _ < (30 : Int); omega)
  have h2 := atI_map pairD (someL (.num (n / 30 % 2000 - 1000))) (n % 30)
  rw [hpa] at h2
  have h3 := List.all_eq_true.mp (some_all (n / 30 % 2000 - 1000)) p hp
  simp only [Bool.and_eq_true, beq_iff_eq, decide_eq_true_eq] at h3
  exact ⟨p.1, p.2, some_ok k n M p h2, h3.1, h3.2.1, h3.2.2⟩
end K18
namespace K18
open PySem L2 TP
set_option maxHeartbeats 2000000
open Ex
def dblRows (first : Ex) (m : Str) (prev : Option (Str × Str)) : List Str → List Row
  | [] => []
  | f :: fs => ⟨f, ["x"], match prev with | none => first | some (pm, pf) => .op "+" (.call pm pf [xE]) (.call pm pf [xE])⟩ :: dblRows first m (some (m, f)) fs
def fns12 : List Str := ["a", "b", "c", "d", "e", "f", "g", "h", "i", "j", "k", "l"]
def dblP (first : Ex) (prev : Option (Str × Str)) : List Str → Pr
  | [] => []
  | m :: ms => (m, dblRows first m prev fns12) :: dblP first (some (m, "l")) ms
def mods8 : List Str := ["m", "n", "o", "p", "q", "r", "s", "t"]
def dbl (first : Ex) : Pr := dblP first none mods8
def tailD (Φ : Nat → Fn) : FS := (sSeq (sSet 4 (dFE (dEF (dCall 2 (Φ f_is_quiet) (dCons (dEF (dPr tupleD (dCons (dVarB 1) dNil))) (dCons (dEF (dOp2 addD (dEF (dOp2 addD (dTup (dCons (dC (.str "call")) dNil)) (dVarB 2))) (dTup (dCons (dTup (dCons (dTup (dCons (dC (.str "num")) (dCons (dEF (dOp2 TP.modD (dEF (dOp2 fdivD (dVarB 0) (dC (.int 2)))) (dC (.int 9)))) dNil))) dNil)) dNil)))) dNil)))))) (sSeq (sRet (dAndV (dOp1 (isiD "bool") (dVarB 4)) (dOp2 eqD (dVarB 4) (dVarB 6)))) sNil))
def midD (Φ : Nat → Fn) : FS := (sSeq (sSet 1 (dLst dNil)) (sSeq (sSet 2 (dFE (dC .non))) (sSeq (sFor (dIt (dC (.str "mnopqrst"))) (bName 3) (sSeq (sSet 7 (dLst dNil)) (sSeq (sFor (dIt (dC (.str "abcdefghijkl"))) (bName 8) (sSeq (sSet 9 (dFE (dEF (dIf (dBo (dOp2 isD (dVarB 2) (dC .non))) (dFE (dC .non)) (dOp2 addD (dEF (dOp2 addD (dTup (dCons (dC (.str "call")) dNil)) (dVarB 2))) (dTup (dCons (dTup (dCons (dTup (dCons (dC (.str "use")) (dCons (dC (.str "x")) dNil))) dNil)) dNil))))))) (sSeq (sApp 7 (dTup (dCons (dVar 8) (dCons (dTup (dCons (dC (.str "x")) dNil)) (dCons (dEF (dIf (dBo (dOp2 isD (dVarB 9) (dC .non))) (dFE (dVar 5)) (dFE (dTup (dCons (dC (.str "op")) (dCons (dC (.str "+")) (dCons (dVar 9) (dCons (dVar 9) dNil)))))))) dNil))))) (sSeq (sSet 2 (dFE (dTup (dCons (dVar 3) (dCons (dVar 8) dNil))))) sNil)))) (sSeq (sApp 1 (dTup (dCons (dVar 3) (dCons (dEF (dPr tupleD (dCons (dVarB 7) dNil))) dNil)))) sNil)))) (sSeq (sSet 4 (dFE (dEF (dCall 2 (Φ f_is_quiet) (dCons (dEF (dPr tupleD (dCons (dVarB 1) dNil))) (dCons (dEF (dOp2 addD (dEF (dOp2 addD (dTup (dCons (dC (.str "call")) dNil)) (dVarB 2))) (dTup (dCons (dTup (dCons (dTup (dCons (dC (.str "num")) (dCons (dEF (dOp2 TP.modD (dEF (dOp2 fdivD (dVarB 0) (dC (.int 2)))) (dC (.int 9)))) dNil))) dNil)) dNil)))) dNil)))))) (sSeq (sRet (dAndV (dOp1 (isiD "bool") (dVarB 4)) (dOp2 eqD (dVarB 4) (dVarB 6)))) sNil)))))
theorem mid_ok (Φ : Nat → Fn) (n : Int) (first : Ex) (due : D) (M : Store) : ∃ a b c d, midD Φ [.val (.int n), .un, .un, .un, .un, .val first.toD, .val due, .un, .un, .un] M = tailD Φ [.val (.int n), .own ((dbl first).map modD), .val (.tup [.str "t", .str "l"]), a, .un, .val first.toD, .val due, b, c, d] M :=
  ⟨.val (.str "t"), .own ((dblRows first "t" (some ("s", "l")) fns12).map Row.toD), .val (.str "l"), .val (.tup [.str "call", .str "t", .str "k", .tup [xE.toD]]), by kernel_rfl⟩
def tellX : Ex := .tell xE (.num 1)
theorem dbl_kn1 : knAllB 54 [] (flat (dbl xE)) = true := by kernel_rfl
theorem dbl_kn2 : knAllB 54 [] (flat (dbl tellX)) = true := by kernel_rfl
theorem dbl_q1 (v : Int) : (knB (qf [] (flat (dbl xE))) (.call "t" "l" [.num v]) && qv (knOf (qf [] (flat (dbl xE)))) (.call "t" "l" [.num v])) = true := by kernel_rfl
theorem dbl_q2 (v : Int) : (knB (qf [] (flat (dbl tellX))) (.call "t" "l" [.num v]) && !qv (knOf (qf [] (flat (dbl tellX)))) (.call "t" "l" [.num v])) = true := by kernel_rfl
theorem dbl_len (f : Ex) : (flat (dbl f)).length ≤ 1000 := by
  have : (flat (dbl f)).length = 96 := by kernel_rfl
  omega
theorem tail_ok (n : Int) (first : Ex) (due : Bool) (M : Store) (a b c d : Slot) (h1 : knAllB 54 [] (flat (dbl first)) = true) (h2 : ∀ v, knB (qf [] (flat (dbl first))) (.call "t" "l" [.num v]) = true) (h3 : ∀ v, qv (knOf (qf [] (flat (dbl first)))) (.call "t" "l" [.num v]) = due) :
    ∃ M', tailD (sem 58) [.val (.int n), .own ((dbl first).map modD), .val (.tup [.str "t", .str "l"]), a, .un, .val first.toD, .val (.bl due), b, c, d] M = .ret (.val (.bl true)) (M ++ M') := by
  have h := quiet_ok 54 (dbl first) (.call "t" "l" [.num (n / 2 % 9)]) M (dbl_len first) (knAllB_ok _ _ _ h1) (knB_ok _ _ (h2 _)) (by simp [Ex.dep, Ex.deps])
  rw [h3] at h
  simp only [prD, Ex.toD, Ex.toDs, Nat.reduceAdd] at h
  refine ⟨[.dT (qf [] (flat (dbl first)))], ?_⟩
  simp [tailD, tupleD, seqOf, lstOf, addD, h, isiD, clsD, subTy]
theorem doubled_ok (n : Int) (M : Store) : ∃ M', sem 59 f__law_doubled_right [.int n] M = .ok (.val (.bl true)) (M ++ M') := by
  have q1 : ∀ v, knB (qf [] (flat (dbl xE))) (.call "t" "l" [.num v]) = true ∧ qv (knOf (qf [] (flat (dbl xE)))) (.call "t" "l" [.num v]) = true := fun v => by
    have := dbl_q1 v
    rwa [Bool.and_eq_true] at this
  have q2 : ∀ v, knB (qf [] (flat (dbl tellX))) (.call "t" "l" [.num v]) = true ∧ qv (knOf (qf [] (flat (dbl tellX)))) (.call "t" "l" [.num v]) = false := fun v => by
    have := dbl_q2 v
    rw [Bool.and_eq_true, Bool.not_eq_true'] at this
    exact this
  rw [e__law_doubled_right]
  have e1 : m__law_doubled_right (sem 58) = sSeq (sAsg (bTup [5, 6]) (dEF (dOp2 idxD (dEF (dLst (dCons (dTup (dCons (dTup (dCons (dC (.str "use")) (dCons (dC (.str "x")) dNil))) (dCons (dC (.bl true)) dNil))) (dCons (dTup (dCons (dTup (dCons (dC (.str "tell")) (dCons (dTup (dCons (dC (.str "use")) (dCons (dC (.str "x")) dNil))) (dCons (dTup (dCons (dC (.str "num")) (dCons (dC (.int 1)) dNil))) dNil)))) (dCons (dC (.bl false)) dNil))) dNil)))) (dEF (dOp2 TP.modD (dVarB 0) (dC (.int 2))))))) (midD (sem 58)) := rfl
  have hm : n % 2 = 0 ∨ n % 2 = 1 := by omega
  rcases hm with hm | hm
  · obtain ⟨a, b, c, d, h1⟩ := mid_ok (sem 58) n xE (.bl true) M
    obtain ⟨M', h2⟩ := tail_ok n xE true M a b c d dbl_kn1 (fun v => (q1 v).1) (fun v => (q1 v).2)
    refine ⟨M', ?_⟩
    rw [h2] at h1
    simp only [xE, Ex.toD] at h1
    unfold runF
    rw [e1]
    simp [startD, hm, bTup, bNames, h1]
  · obtain ⟨a, b, c, d, h1⟩ := mid_ok (sem 58) n tellX (.bl false) M
    obtain ⟨M', h2⟩ := tail_ok n tellX false M a b c d dbl_kn2 (fun v => (q2 v).1) (fun v => (q2 v).2)
    refine ⟨M', ?_⟩
    rw [h2] at h1
    simp only [tellX, xE, Ex.toD] at h1
    unfold runF
    rw [e1]
    simp [startD, hm, bTup, bNames, h1]
end K18
namespace K18
open PySem L2 TP
set_option maxHeartbeats 4000000
open Ex
theorem cell (k' : Nat) (ns : List Int) (j : Nat) (k : Int) (M : Store) (hns : ns.length ≤ 63) (hj : M[j]? = some (.lst [.int k])) (h0 : -1 ≤ k) (h1 : k < 2 ^ 40) :
    ∃ r : Int, 0 ≤ r ∧ sem (k' + 1) f__law_cell [.fro (ns.map .int), .ref j] M = .ok (.val (.int r)) (M.set j (.lst [.int (k + 1)])) := by
  rw [e__law_cell, show m__law_cell (sem k') = cellM from rfl]
  exact cell_fro ns j k M hns hj h0 h1
def bodyT (Φ : Nat → Fn) : FS := (sSeq (sSet 13 (dFE (dEF (dCall 2 (Φ f_is_quiet) (dCons (dVar 11) (dCons (dVar 12) dNil)))))) (sSeq (sIf (dOr (dNot (dTru (dEF (dOp1 (isiD "bool") (dVarB 13))))) (dBo (dOp2 neD (dVarB 13) (dVarB 8)))) (sSeq (sRet (dFE (dC (.bl false)))) sNil) sNil) sNil))
theorem thing_ok (e t : Ex) (hk : knB kv8 e = true) (hd : e.dep ≤ 55) (ht : t = e ∨ t = .call "m" "last" [.num 2] ∨ t = .call "m" "by" [.use "x"]) (a0 a1 a2 a3 a4 a5 a6 a7 a9 a10 z : Slot) (M : Store) :
    ∃ M', bodyT (sem 59) [a0, a1, a2, a3, a4, a5, a6, a7, .val (.bl (qv (knOf kv8) e)), a9, a10, .val (prD (progR e)), .val t.toD, z] M = .next [a0, a1, a2, a3, a4, a5, a6, a7, .val (.bl (qv (knOf kv8) e)), a9, a10, .val (prD (progR e)), .val t.toD, .val (.bl (qv (knOf kv8) e))] (M ++ M') := by
  obtain ⟨M', h⟩ := look_ok e t M hk hd ht
  refine ⟨M', ?_⟩
  simp [bodyT, h, isiD, clsD, subTy]
def lastC : Ex := .call "m" "last" [.num 2]
def byC : Ex := .call "m" "by" [.use "x"]
theorem things_ok (e : Ex) (hk : knB kv8 e = true) (hd : e.dep ≤ 55) (a0 a1 a2 a3 a4 a5 a6 a7 a9 a10 y z : Slot) (M : Store) :
    ∃ M' y' z', forGo (bName 12) (bodyT (sem 59)) [e.toD, lastC.toD, byC.toD, e.toD] [a0, a1, a2, a3, a4, a5, a6, a7, .val (.bl (qv (knOf kv8) e)), a9, a10, .val (prD (progR e)), y, z] M = .next [a0, a1, a2, a3, a4, a5, a6, a7, .val (.bl (qv (knOf kv8) e)), a9, a10, .val (prD (progR e)), y', z'] (M ++ M') := by
  obtain ⟨M1, h1⟩ := thing_ok e e hk hd (.inl rfl) a0 a1 a2 a3 a4 a5 a6 a7 a9 a10 z M
  obtain ⟨M2, h2⟩ := thing_ok e lastC hk hd (.inr (.inl rfl)) a0 a1 a2 a3 a4 a5 a6 a7 a9 a10 (.val (.bl (qv (knOf kv8) e))) (M ++ M1)
  obtain ⟨M3, h3⟩ := thing_ok e byC hk hd (.inr (.inr rfl)) a0 a1 a2 a3 a4 a5 a6 a7 a9 a10 (.val (.bl (qv (knOf kv8) e))) (M ++ M1 ++ M2)
  obtain ⟨M4, h4⟩ := thing_ok e e hk hd (.inl rfl) a0 a1 a2 a3 a4 a5 a6 a7 a9 a10 (.val (.bl (qv (knOf kv8) e))) (M ++ M1 ++ M2 ++ M3)
  refine ⟨M1 ++ M2 ++ M3 ++ M4, .val e.toD, .val (.bl (qv (knOf kv8) e)), ?_⟩
  simp only [forGo, bName_eq, List.set, h1, h2, h3, h4]
  simp [List.append_assoc]
def dC1 (ds : List D) : FL := fun _ M => .ok ds M
def bodyU (Φ : Nat → Fn) : FS := (sSeq (sSet 9 (dFE (dTup (dCons (dC (.str "last")) (dCons (dTup (dCons (dC (.str "x")) dNil)) (dCons (dVar 7) dNil)))))) (sSeq (sSet 10 (dFE (dTup (dCons (dC (.str "by")) (dCons (dTup (dCons (dC (.str "x")) dNil)) (dCons (dTup (dCons (dC (.str "op")) (dCons (dC (.str "+")) (dCons (dTup (dCons (dC (.str "call")) (dCons (dC (.str "m")) (dCons (dC (.str "last")) (dCons (dTup (dCons (dTup (dCons (dC (.str "num")) (dCons (dC (.int 2)) dNil))) dNil)) dNil))))) (dCons (dTup (dCons (dC (.str "num")) (dCons (dC (.int 1)) dNil))) dNil))))) dNil)))))) (sSeq (sSet 11 (dFE (dTup (dCons (dTup (dCons (dC (.str "m")) (dCons (dEF (dOp2 addD (dVarB 5) (dTup (dCons (dVar 9) (dCons (dVar 10) dNil))))) dNil))) dNil)))) (sSeq (sFor (dIt (dTup (dCons (dVar 7) (dCons (dTup (dCons (dC (.str "call")) (dCons (dC (.str "m")) (dCons (dC (.str "last")) (dCons (dTup (dCons (dTup (dCons (dC (.str "num")) (dCons (dC (.int 2)) dNil))) dNil)) dNil))))) (dCons (dTup (dCons (dC (.str "call")) (dCons (dC (.str "m")) (dCons (dC (.str "by")) (dCons (dTup (dCons (dTup (dCons (dC (.str "use")) (dCons (dC (.str "x")) dNil))) dNil)) dNil))))) (dCons (dVar 7) dNil)))))) (bName 12) (sSeq (sSet 13 (dFE (dEF (dCall 2 (Φ f_is_quiet) (dCons (dVar 11) (dCons (dVar 12) dNil)))))) (sSeq (sIf (dOr (dNot (dTru (dEF (dOp1 (isiD "bool") (dVarB 13))))) (dBo (dOp2 neD (dVarB 13) (dVarB 8)))) (sSeq (sRet (dFE (dC (.bl false)))) sNil) sNil) sNil))) (sSeq (sSet 7 (dFE (dEF (dCall 2 (Φ f__law_framed) (dCons (dEF (dCall 2 (Φ f__law_cell) (dCons (dVar 0) (dCons (dVar 1) dNil)))) (dCons (dVar 7) dNil)))))) sNil)))))
theorem turn_ok (ns : List Int) (hns : ns.length ≤ 63) (e : Ex) (hk : knB kv8 e = true) (hd : e.dep ≤ 55) (c : Int) (M : Store) (hM : M[0]? = some (.lst [.int c])) (h0 : -1 ≤ c) (h1 : c < 2 ^ 39) (a2 a3 a4 a6 a9 a10 a11 a12 a13 : Slot) :
    ∃ (f : Ex) (M' : Store) (b9 b10 b11 b12 b13 : Slot), bodyU (sem 59) [.val (.fro (ns.map .int)), .val (.ref 0), a2, a3, a4, .val (.tup (aheadR.map Row.toD)), a6, .val e.toD, .val (.bl (qv (knOf kv8) e)), a9, a10, a11, a12, a13] M
        = .next [.val (.fro (ns.map .int)), .val (.ref 0), a2, a3, a4, .val (.tup (aheadR.map Row.toD)), a6, .val f.toD, .val (.bl (qv (knOf kv8) e)), b9, b10, b11, b12, b13] M' ∧ M'[0]? = some (.lst [.int (c + 1)]) ∧ knB kv8 f = true ∧ qv (knOf kv8) f = qv (knOf kv8) e ∧ f.dep ≤ e.dep + 1 := by
  obtain ⟨M1, y', z', h⟩ := things_ok e hk hd (.val (.fro (ns.map .int))) (.val (.ref 0)) a2 a3 a4 (.val (.tup (aheadR.map Row.toD))) a6 (.val e.toD) (.val (lastR e).toD) (.val byR.toD) a12 a13 M
  obtain ⟨r, hr, hc⟩ := cell 58 ns 0 c (M ++ M1) hns (get_app hM) h0 (by omega)
  obtain ⟨f, hf, hf2⟩ := framed_ok 58 r e ((M ++ M1).set 0 (.lst [.int (c + 1)])) hk
  refine ⟨f, (M ++ M1).set 0 (.lst [.int (c + 1)]), .val (lastR e).toD, .val byR.toD, .val (prD (progR e)), y', z', ?_, get_set (get_app hM), hf2⟩
  have pre : ∀ Φ, bodyU Φ [.val (.fro (ns.map .int)), .val (.ref 0), a2, a3, a4, .val (.tup (aheadR.map Row.toD)), a6, .val e.toD, .val (.bl (qv (knOf kv8) e)), a9, a10, a11, a12, a13] M
     = (sSeq (sFor (dC1 [e.toD, lastC.toD, byC.toD, e.toD]) (bName 12) (bodyT Φ)) (sSeq (sSet 7 (dFE (dEF (dCall 2 (Φ f__law_framed) (dCons (dEF (dCall 2 (Φ f__law_cell) (dCons (dVar 0) (dCons (dVar 1) dNil)))) (dCons (dVar 7) dNil)))))) sNil)) [.val (.fro (ns.map .int)), .val (.ref 0), a2, a3, a4, .val (.tup (aheadR.map Row.toD)), a6, .val e.toD, .val (.bl (qv (knOf kv8) e)), .val (lastR e).toD, .val byR.toD, .val (prD (progR e)), a12, a13] M := fun Φ => by kernel_rfl
  rw [pre]
  simp only [sSeq_eq, sFor_eq, dC1, R.out_ok]
  rw [h]
  simp [hc, hf]
def bodyV (Φ : Nat → Fn) : FS := (sSeq (sSet 4 (dFE (dEF (dCall 2 (Φ f__law_cell) (dCons (dVar 0) (dCons (dVar 1) dNil)))))) (sSeq (sAsg (bTup [7, 8]) (dEF (dCall 1 (Φ f__law_some) (dCons (dEF (dOp2 addD (dEF (dOp2 mulD (dC (.int 30)) (dEF (dOp2 fdivD (dVarB 4) (dC (.int 30)))))) (dEF (dOp2 TP.modD (dVarB 3) (dC (.int 30)))))) dNil)))) (sSeq (sSet 5 (dFE (dEF (dCall 0 (Φ f__law_ahead) dNil)))) (sSeq (sFor (dRng1 (dCons (dEF (dIf (dBo (dOp2 neD (dVarB 3) (dVarB 2))) (dOp2 addD (dC (.int 1)) (dEF (dOp2 TP.modD (dVarB 4) (dC (.int 4))))) (dFE (dC (.int 26))))) dNil)) (bName 6) (sSeq (sSet 9 (dFE (dTup (dCons (dC (.str "last")) (dCons (dTup (dCons (dC (.str "x")) dNil)) (dCons (dVar 7) dNil)))))) (sSeq (sSet 10 (dFE (dTup (dCons (dC (.str "by")) (dCons (dTup (dCons (dC (.str "x")) dNil)) (dCons (dTup (dCons (dC (.str "op")) (dCons (dC (.str "+")) (dCons (dTup (dCons (dC (.str "call")) (dCons (dC (.str "m")) (dCons (dC (.str "last")) (dCons (dTup (dCons (dTup (dCons (dC (.str "num")) (dCons (dC (.int 2)) dNil))) dNil)) dNil))))) (dCons (dTup (dCons (dC (.str "num")) (dCons (dC (.int 1)) dNil))) dNil))))) dNil)))))) (sSeq (sSet 11 (dFE (dTup (dCons (dTup (dCons (dC (.str "m")) (dCons (dEF (dOp2 addD (dVarB 5) (dTup (dCons (dVar 9) (dCons (dVar 10) dNil))))) dNil))) dNil)))) (sSeq (sFor (dIt (dTup (dCons (dVar 7) (dCons (dTup (dCons (dC (.str "call")) (dCons (dC (.str "m")) (dCons (dC (.str "last")) (dCons (dTup (dCons (dTup (dCons (dC (.str "num")) (dCons (dC (.int 2)) dNil))) dNil)) dNil))))) (dCons (dTup (dCons (dC (.str "call")) (dCons (dC (.str "m")) (dCons (dC (.str "by")) (dCons (dTup (dCons (dTup (dCons (dC (.str "use")) (dCons (dC (.str "x")) dNil))) dNil)) dNil))))) (dCons (dVar 7) dNil)))))) (bName 12) (sSeq (sSet 13 (dFE (dEF (dCall 2 (Φ f_is_quiet) (dCons (dVar 11) (dCons (dVar 12) dNil)))))) (sSeq (sIf (dOr (dNot (dTru (dEF (dOp1 (isiD "bool") (dVarB 13))))) (dBo (dOp2 neD (dVarB 13) (dVarB 8)))) (sSeq (sRet (dFE (dC (.bl false)))) sNil) sNil) sNil))) (sSeq (sSet 7 (dFE (dEF (dCall 2 (Φ f__law_framed) (dCons (dEF (dCall 2 (Φ f__law_cell) (dCons (dVar 0) (dCons (dVar 1) dNil)))) (dCons (dVar 7) dNil)))))) sNil)))))) sNil))))
theorem mul30 (x : Int) : mulOk 30 x = true := mulOk_l (by decide) (by decide)
theorem round_ok (ns : List Int) (hns : ns.length ≤ 63) (c : Int) (M : Store) (hM : M[0]? = some (.lst [.int c])) (h0 : 0 ≤ c) (h1 : c < 2 ^ 38) (far k : Int) (a4 a5 a6 a7 a8 a9 a10 a11 a12 a13 : Slot) :
    ∃ (M' : Store) (c' : Int) (b4 b5 b6 b7 b8 b9 b10 b11 b12 b13 : Slot), bodyV (sem 59) [.val (.fro (ns.map .int)), .val (.ref 0), .val (.int far), .val (.int k), a4, a5, a6, a7, a8, a9, a10, a11, a12, a13] M
        = .next [.val (.fro (ns.map .int)), .val (.ref 0), .val (.int far), .val (.int k), b4, b5, b6, b7, b8, b9, b10, b11, b12, b13] M' ∧ M'[0]? = some (.lst [.int c']) ∧ c ≤ c' ∧ c' ≤ c + 30 := by
  obtain ⟨r, hr, hc⟩ := cell 58 ns 0 c M hns hM (by omega) (by omega)
  have hM1 : (M.set 0 (.lst [.int (c + 1)]))[0]? = some (.lst [.int (c + 1)]) := get_set hM
  obtain ⟨e, b, hs, hk, hq, hd⟩ := some_is 58 (30 * (r / 30) + k % 30) (M.set 0 (.lst [.int (c + 1)]))
  subst hq
  have ha := ahead_ok 58 (M.set 0 (.lst [.int (c + 1)]))
  generalize hn : (if ¬ k = far then 1 + r % 4 else 26) = n
  have hn1 : 0 ≤ n ∧ n ≤ 26 := by rw [← hn]; split <;> omega
  obtain ⟨m, rfl⟩ : ∃ m : Nat, n = (m : Int) := ⟨n.toNat, by omega⟩
  obtain ⟨ρ', M', e1, ⟨f, b6, b9, b10, b11, b12, b13, e2, g1, g2, g3⟩, g4⟩ := forGo_all (b := bName 6) (body := bodyU (sem 59))
    (fun i ρ N => (∃ (f : Ex) (b6 b9 b10 b11 b12 b13 : Slot), ρ = [.val (.fro (ns.map .int)), .val (.ref 0), .val (.int far), .val (.int k), .val (.int r), .val (.tup (aheadR.map Row.toD)), b6, .val f.toD, .val (.bl (qv (knOf kv8) e)), b9, b10, b11, b12, b13] ∧ knB kv8 f = true ∧ qv (knOf kv8) f = qv (knOf kv8) e ∧ f.dep ≤ 2 + i) ∧ N[0]? = some (.lst [.int (c + 1 + i)]))
    (rngL 0 m) (ρ := [.val (.fro (ns.map .int)), .val (.ref 0), .val (.int far), .val (.int k), .val (.int r), .val (.tup (aheadR.map Row.toD)), a6, .val e.toD, .val (.bl (qv (knOf kv8) e)), a9, a10, a11, a12, a13]) (M := M.set 0 (.lst [.int (c + 1)])) ⟨⟨e, a6, a9, a10, a11, a12, a13, rfl, hk, rfl, hd⟩, by rw [hM1]; simp⟩
    (fun i x ρ N hx ⟨⟨f, b6, b9, b10, b11, b12, b13, e2, g1, g2, g3⟩, g4⟩ => by
      obtain ⟨hi, rfl⟩ := rngL_get hx
      subst e2
      obtain ⟨f', N', d9, d10, d11, d12, d13, u1, u2, u3, u4, u5⟩ := turn_ok ns hns f g1 (by omega) (c + 1 + i) N g4 (by omega) (by omega) (.val (.int far)) (.val (.int k)) (.val (.int r)) (.val (.int (0 + (i : Int)))) b9 b10 b11 b12 b13
      rw [g2] at u1 u4
      exact ⟨_, rfl, _, _, u1, ⟨f', _, _, _, _, _, _, rfl, u3, u4, by omega⟩, by rw [u2]; simp; omega⟩)
  subst e2
  rw [rngL_len] at g4
  refine ⟨M', c + 1 + m, .val (.int r), .val (.tup (aheadR.map Row.toD)), b6, .val f.toD, .val (.bl (qv (knOf kv8) e)), b9, b10, b11, b12, b13, ?_, g4, by omega, by omega⟩
  have hb : rng1D [.int (m : Int)] = some (rngL 0 m) := rng1_ok (by omega) (by omega)
  have pre : bodyV = fun Φ => sSeq (sSet 4 (dFE (dEF (dCall 2 (Φ f__law_cell) (dCons (dVar 0) (dCons (dVar 1) dNil)))))) (sSeq (sAsg (bTup [7, 8]) (dEF (dCall 1 (Φ f__law_some) (dCons (dEF (dOp2 addD (dEF (dOp2 mulD (dC (.int 30)) (dEF (dOp2 fdivD (dVarB 4) (dC (.int 30)))))) (dEF (dOp2 TP.modD (dVarB 3) (dC (.int 30)))))) dNil)))) (sSeq (sSet 5 (dFE (dEF (dCall 0 (Φ f__law_ahead) dNil)))) (sSeq (sFor (dRng1 (dCons (dEF (dIf (dBo (dOp2 neD (dVarB 3) (dVarB 2))) (dOp2 addD (dC (.int 1)) (dEF (dOp2 TP.modD (dVarB 4) (dC (.int 4))))) (dFE (dC (.int 26))))) dNil)) (bName 6) (bodyU Φ)) sNil))) := rfl
  rw [pre]
  by_cases hkf : k = far
  · subst hkf
    rw [if_neg (by simp)] at hn
    obtain rfl : m = 26 := by omega
    have hb' : rng1D [.int 26] = some (rngL 0 26) := hb
    simp [-rng1D_int, hc, hs, ha, mul30, bTup, bNames]
    rw [hb']
    simp [e1]
  · rw [if_pos hkf] at hn
    simp [-rng1D_int, hc, hs, ha, mul30, bTup, bNames, hkf]
    rw [hn, hb]
    simp [e1]
theorem law_true (ns : List Int) (hns : ns.length ≤ 63) : ∃ M, sem 60 f_law [.fro (ns.map D.int)] [] = .ok (.val (.bl true)) M := by
  rw [e_law]
  obtain ⟨r1, hr1, hc1⟩ := cell 58 ns 0 0 [.lst [.int 0]] hns rfl (by omega) (by omega)
  obtain ⟨M1, hd⟩ := doubled_ok r1 [.lst [.int 1]]
  have hM1 : ([MO.lst [.int 1]] ++ M1)[0]? = some (.lst [.int 1]) := get_app rfl
  obtain ⟨r2, hr2, hc2⟩ := cell 58 ns 0 1 ([.lst [.int 1]] ++ M1) hns hM1 (by omega) (by omega)
  have hM2 : (([MO.lst [.int 1]] ++ M1).set 0 (.lst [.int (1 + 1)]))[0]? = some (.lst [.int 2]) := get_set hM1
  obtain ⟨ρ', M', e1, ⟨a3, a4, a5, a6, a7, a8, a9, a10, a11, a12, a13, e2⟩, _⟩ := forGo_all (b := bName 3) (body := bodyV (sem 59))
    (fun i ρ N => (∃ (a3 a4 a5 a6 a7 a8 a9 a10 a11 a12 a13 : Slot), ρ = [.val (.fro (ns.map .int)), .val (.ref 0), .val (.int (r2 % 30)), a3, a4, a5, a6, a7, a8, a9, a10, a11, a12, a13]) ∧ ∃ c : Int, N[0]? = some (.lst [.int c]) ∧ 0 ≤ c ∧ c ≤ 2 + 30 * i)
    (rngL 0 (30 + min 10 ns.length)) (ρ := [.val (.fro (ns.map .int)), .val (.ref 0), .val (.int (r2 % 30)), .un, .un, .un, .un, .un, .un, .un, .un, .un, .un, .un]) (M := ([MO.lst [.int 1]] ++ M1).set 0 (.lst [.int (1 + 1)])) ⟨⟨_, _, _, _, _, _, _, _, _, _, _, rfl⟩, 2, hM2, by omega, by omega⟩
    (fun i x ρ N hx ⟨⟨a3, a4, a5, a6, a7, a8, a9, a10, a11, a12, a13, e2⟩, c, hc, hc0, hc1⟩ => by
      obtain ⟨hi, rfl⟩ := rngL_get hx
      subst e2
      obtain ⟨N', c', b4, b5, b6, b7, b8, b9, b10, b11, b12, b13, u1, u2, u3, u4⟩ := round_ok ns hns c N hc hc0 (by omega) (r2 % 30) (0 + (i : Int)) a4 a5 a6 a7 a8 a9 a10 a11 a12 a13
      exact ⟨_, rfl, _, _, u1, ⟨_, _, _, _, _, _, _, _, _, _, _, rfl⟩, c', u2, by omega, by omega⟩)
  subst e2
  have hmin : (if (ns.length : Int) < 10 then (ns.length : Int) else 10) = ((min 10 ns.length : Nat) : Int) := by
    split <;> omega
  have hr : rng1D [.int (30 + ((min 10 ns.length : Nat) : Int))] = some (rngL 0 (30 + min 10 ns.length)) := by
    rw [rng1_ok (by omega) (by omega), show (30 + ((min 10 ns.length : Nat) : Int)).toNat = 30 + min 10 ns.length by omega]
  have pre : m_law (sem 59) = sSeq (sSet 1 (dFE (dEF (dRef (dLst (dCons (dC (.int 0)) dNil)))))) (sSeq (sIf (dNot (dTru (dEF (dCall 1 (sem 59 f__law_doubled_right) (dCons (dEF (dCall 2 (sem 59 f__law_cell) (dCons (dVar 0) (dCons (dVar 1) dNil)))) dNil))))) (sSeq (sRet (dFE (dC (.bl false)))) sNil) sNil) (sSeq (sSet 2 (dFE (dEF (dOp2 TP.modD (dEF (dCall 2 (sem 59 f__law_cell) (dCons (dVar 0) (dCons (dVar 1) dNil)))) (dC (.int 30)))))) (sSeq (sFor (dRng1 (dCons (dEF (dOp2 addD (dC (.int 30)) (dEF (dPr min2D (dCons (dC (.int 10)) (dCons (dEF (dPr lenD (dCons (dVarB 0) dNil))) dNil)))))) dNil)) (bName 3) (bodyV (sem 59))) (sSeq (sRet (dFE (dC (.bl true)))) sNil)))) := rfl
  refine ⟨M', ?_⟩
  unfold runF
  rw [pre]
  have hc1' : sem 59 f__law_cell [.fro (ns.map .int), .ref 0] [.lst [.int 0]] = .ok (.val (.int r1)) [.lst [.int 1]] := hc1
  have hc2' : sem 59 f__law_cell [.fro (ns.map .int), .ref 0] (.lst [.int 1] :: M1) = .ok (.val (.int r2)) (.lst [.int (1 + 1)] :: M1) := hc2
  have e1' : forGo (bName 3) (bodyV (sem 59)) (rngL 0 (30 + min 10 ns.length)) [.val (.fro (ns.map .int)), .val (.ref 0), .val (.int (r2 % 30)), .un, .un, .un, .un, .un, .un, .un, .un, .un, .un, .un] (.lst [.int (1 + 1)] :: M1) = _ := e1
  simp [-rng1D_int, startD, hc1', hd, hc2', min2D]
  rw [hmin, hr]
  simp only [R.of_some, R.out_ok]
  simp at e1'
  rw [e1']
end K18
open PySem PySem.W PyProof.Rows
set_option maxRecDepth 100000 in
set_option maxHeartbeats 0 in
theorem PySem.Challenge.cw_turnpaper_k18_what_is_quiet_holds : PySem.Challenge.rw_turnpaper_k18_what_is_quiet.Holds := by
  w_on; o_law; k_head; (case hw => w_witness2)
  k_fill
  refine L2.walk_of (l := PySem.Challenge.rw_turnpaper_k18_what_is_quiet) (n := 63) (k := 60) (x := "_law_script") (CX := fun _ => L2.CX0) (sp := fun w => TP.spD _ TP.W0 1 (K18.sem 60 K18.f_law)) rfl (by decide) rfl ⟨rfl, by decide, by decide⟩ (fun w h Y => PySem.W.kIn_of Y) ?F (fun _ H a ns hl hO hS => TP.law_sp hS (K18.law_true ns hl)) (fun _ _ _ _ _ h => h)
  case F =>
    intro w mg fa h KX G hmg
    refine' K18.law_fin KX G hmg ?a0 ?l0 ?c0 ?k0 ?a1 ?l1 ?c1 ?k1 ?a2 ?l2 ?c2 ?k2 ?a3 ?l3 ?c3 ?k3 ?a4 ?l4 ?c4 ?k4 ?a5 ?l5 ?c5 ?k5 ?a6 ?l6 ?c6 ?k6 ?a7 ?l7 ?c7 ?k7 ?a8 ?l8 ?c8 ?k8 ?a9 ?l9 ?c9 ?k9 ?a10 ?l10 ?c10 ?k10 ?a11 ?l11 ?c11 ?k11 ?z_list ?z_all ?z_len ?z_range ?z_tuple ?z_isinstance ?z_bool ?z_min ?g_SPOTS ?u_SPOTS ?v_SPOTS ?y_SPOTS ?g_MOST_ROUNDS ?g_LOUD ?u_LOUD ?v_LOUD ?g_RISKY ?u_RISKY ?v_RISKY
    (case a0 => k_is)
    (case l0 => k_is)
    (case c0 => k_is)
    (case k0 => k_is)
    (case a1 => k_is)
    (case l1 => k_is)
    (case c1 => k_is)
    (case k1 => k_is)
    (case a2 => k_is)
    (case l2 => k_is)
    (case c2 => k_is)
    (case k2 => k_is)
    (case a3 => k_is)
    (case l3 => k_is)
    (case c3 => k_is)
    (case k3 => k_is)
    (case a4 => k_is)
    (case l4 => k_is)
    (case c4 => k_is)
    (case k4 => k_is)
    (case a5 => k_is)
    (case l5 => k_is)
    (case c5 => k_is)
    (case k5 => k_is)
    (case a6 => k_is)
    (case l6 => k_is)
    (case c6 => k_is)
    (case k6 => k_is)
    (case a7 => k_is)
    (case l7 => k_is)
    (case c7 => k_is)
    (case k7 => k_is)
    (case a8 => k_is)
    (case l8 => k_is)
    (case c8 => k_is)
    (case k8 => k_is)
    (case a9 => k_is)
    (case l9 => k_is)
    (case c9 => k_is)
    (case k9 => k_is)
    (case a10 => k_is)
    (case l10 => k_is)
    (case c10 => k_is)
    (case k10 => k_is)
    (case a11 => k_is)
    (case l11 => k_is)
    (case c11 => k_is)
    (case k11 => k_is)
    (case z_list => k_is)
    (case z_all => k_is)
    (case z_len => k_is)
    (case z_range => k_is)
    (case z_tuple => k_is)
    (case z_isinstance => k_is)
    (case z_bool => k_is)
    (case z_min => k_is)
    (case g_SPOTS => k_is)
    (case u_SPOTS => k_is)
    (case v_SPOTS => first | rfl | kernel_rfl)
    (case y_SPOTS => repeat (first | exact True.intro | refine ⟨⟨_, _, rfl, rfl⟩, ?_⟩))
    (case g_MOST_ROUNDS => k_is)
    (case g_LOUD => k_is)
    (case u_LOUD => k_is)
    (case v_LOUD => first | rfl | kernel_rfl)
    (case g_RISKY => k_is)
    (case u_RISKY => k_is)
    (case v_RISKY => first | rfl | kernel_rfl)
